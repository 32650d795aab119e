import PyProof.Rows.All
import Wide.All
import OpenK.AllK
import Wide.FinOn
import KE.KStateDown
import HandS.ForMost
import HandS.WordsExc
import HandS.Defaults
import HandS.Deep
import HandS.Wide
import HandS.Gcd
import HandS.Conv
import HandS.More
import HandS.Head0
import HandS.Head1
import HandS.Head2
import HandS.Head3
import HandS.HeadEnd
import HandS.HeadHook1
import HandS.HeadHook2
import KE.DataMinMax
import HandS.Sort
import PyProof.RangeFor
import HandS.Codes
import HandS.IsInst
import HandS.SortInts
import HandS.WordsDict
import KE.DataFind
import HandS.NoneIn
import HandS.Zip
import HandS.Iter
import HandS.DictComp
import HandS.Style
import KE.GoesMore
import KE.SortData
import PySem.Challenge.RW_zonehouse_k41_moments_and_costs
set_option Elab.async false
set_option linter.all false
set_option maxRecDepth 100000
set_option maxHeartbeats 0
section
namespace Mi
open PySem L2
abbrev D := PyData
/-- who owns what: z nothing (all is kept for good), u the object itself and, below it, each part by the same word -/
inductive S where
  | z
  | u (s : S)
  deriving DecidableEq, Repr
abbrev SD := S × D
abbrev Ev := List (Option SD)
def kD : Key → D
  | .inl i => .int i
  | .inr x => .str x
/-- a range's word among the data: no dict has such a key -/
abbrev rgD (lo hi : Int) : D := .dict [(.none, .tuple [.int lo, .int hi])]
def isRg : List (D × D) → Bool
  | (.none, _) :: _ => true
  | _ => false
def isRgD : D → Bool
  | .dict b => isRg b
  | _ => false
abbrev Fp := Addr → Prop
/-- Z is held by H, up to locks -/
def Sub (Z H : Hp) : Prop := ∀ a u, Z a = some u → Rd H a u
/-- a list that is kept for good -/
def ZL (K : PySem.W.Frag) (Z : Hp) (a : Addr) (xs : List V) : Prop := Z a = some (.lst xs) ∨ SqL K (fun _ => none) a xs
def ZT (K : PySem.W.Frag) (Z : Hp) (a : Addr) (xs : List V) : Prop := Z a = some (.tup xs) ∨ SqT K (fun _ => none) a xs
mutual
/-- v stands for d, all of it kept for good -/
inductive Fz (K : PySem.W.Frag) (Z : Hp) : V → D → Prop
  | non : Fz K Z .non .none
  | bl (b : Bool) : Fz K Z (.bl b) (.bool b)
  | int (i : Int) : Fz K Z (.int i) (.int i)
  | str (x : Str) : Fz K Z (.str x) (.str x)
  | lst {a : Addr} {xs : List V} {ds : List D} : ZL K Z a xs → Fzs K Z xs ds → Fz K Z (.ref a) (.list ds)
  | tup {a : Addr} {xs : List V} {ds : List D} : ZT K Z a xs → Fzs K Z xs ds → Fz K Z (.ref a) (.tuple ds)
  | dk {a : Addr} {kvs : List (Key × V)} {ds : List (D × D)} : Z a = some (.dK kvs) → FzK K Z kvs ds → Fz K Z (.ref a) (.dict ds)
  | rg {a : Addr} {lo hi : Int} : Z a = some (.rng lo hi) → Fz K Z (.ref a) (.dict [(.none, .tuple [.int lo, .int hi])])
inductive Fzs (K : PySem.W.Frag) (Z : Hp) : List V → List D → Prop
  | nil : Fzs K Z [] []
  | cons {v : V} {vs : List V} {d : D} {ds : List D} : Fz K Z v d → Fzs K Z vs ds → Fzs K Z (v :: vs) (d :: ds)
inductive FzK (K : PySem.W.Frag) (Z : Hp) : List (Key × V) → List (D × D) → Prop
  | nil : FzK K Z [] []
  | cons {k : Key} {v : V} {vs : List (Key × V)} {d : D} {ds : List (D × D)} : Fz K Z v d → FzK K Z vs ds → FzK K Z ((k, v) :: vs) ((kD k, d) :: ds)
end
section
variable {K : PySem.W.Frag} {Z Z' H H' : Hp}
theorem ZL.mono {a : Addr} {xs : List V} (e : Same Z Z') : ZL K Z a xs → ZL K Z' a xs
  | .inl h => .inl (e _ _ h)
  | .inr h => .inr h
theorem ZT.mono {a : Addr} {xs : List V} (e : Same Z Z') : ZT K Z a xs → ZT K Z' a xs
  | .inl h => .inl (e _ _ h)
  | .inr h => .inr h
theorem no_rd {a : Addr} {u : HO} : ¬ Rd (fun _ => none) a u := fun h => by
  rcases h with h | ⟨o, h⟩ <;> cases h
theorem ZL.sq {a : Addr} {xs : List V} (e : Sub Z H) : ZL K Z a xs → SqL K H a xs
  | .inl h => .inl (e _ _ h)
  | .inr (.inl h) => (no_rd h).elim
  | .inr (.inr h) => .inr h
theorem ZT.sq {a : Addr} {xs : List V} (e : Sub Z H) : ZT K Z a xs → SqT K H a xs
  | .inl h => .inl (e _ _ h)
  | .inr (.inl h) => (no_rd h).elim
  | .inr (.inr h) => .inr h
mutual
theorem Fz.mono (e : Same Z Z') : ∀ {v : V} {d : D}, Fz K Z v d → Fz K Z' v d
  | _, _, .non => .non
  | _, _, .bl b => .bl b
  | _, _, .int i => .int i
  | _, _, .str x => .str x
  | _, _, .lst h r => .lst (h.mono e) (Fzs.mono e r)
  | _, _, .tup h r => .tup (h.mono e) (Fzs.mono e r)
  | _, _, .dk h r => .dk (e _ _ h) (FzK.mono e r)
  | _, _, .rg h => .rg (e _ _ h)
theorem Fzs.mono (e : Same Z Z') : ∀ {vs : List V} {ds : List D}, Fzs K Z vs ds → Fzs K Z' vs ds
  | _, _, .nil => .nil
  | _, _, .cons h r => .cons (Fz.mono e h) (Fzs.mono e r)
theorem FzK.mono (e : Same Z Z') : ∀ {vs : List (Key × V)} {ds : List (D × D)}, FzK K Z vs ds → FzK K Z' vs ds
  | _, _, .nil => .nil
  | _, _, .cons h r => .cons (Fz.mono e h) (FzK.mono e r)
end
theorem FzK.notRg : ∀ {vs : List (Key × V)} {ds : List (D × D)}, FzK K Z vs ds → isRg ds = false
  | _, _, .nil => rfl
  | _, _, .cons (k := k) _ _ => by cases k <;> rfl
theorem Fzs.length : ∀ {vs : List V} {ds : List D}, Fzs K Z vs ds → vs.length = ds.length
  | _, _, .nil => rfl
  | _, _, .cons _ r => by simp [Fzs.length r]
theorem Fzs.get : ∀ {vs : List V} {ds : List D} {i : Nat} {v : V} {d : D}, Fzs K Z vs ds → vs[i]? = some v → ds[i]? = some d → Fz K Z v d
  | _, _, _, _, _, .nil, h, _ => by simp at h
  | _, _, 0, _, _, .cons h _, e1, e2 => by
    simp at e1 e2
    subst e1 e2
    exact h
  | _, _, i + 1, _, _, .cons _ r, e1, e2 => Fzs.get (i := i) r (by simpa using e1) (by simpa using e2)
theorem Fzs.at {vs : List V} {ds : List D} {i : Nat} {d : D} (h : Fzs K Z vs ds) (e : ds[i]? = some d) : ∃ v, vs[i]? = some v ∧ Fz K Z v d := by
  have hl := h.length
  obtain ⟨hi, _⟩ := List.getElem?_eq_some_iff.mp e
  exact ⟨vs[i], List.getElem?_eq_getElem (by omega), h.get (List.getElem?_eq_getElem (by omega)) e⟩
theorem Fzs.mk : ∀ {vs : List V} {ds : List D}, vs.length = ds.length → (∀ (i : Nat) v d, vs[i]? = some v → ds[i]? = some d → Fz K Z v d) → Fzs K Z vs ds
  | [], [], _, _ => .nil
  | v :: vs, d :: ds, hl, h => .cons (h 0 v d rfl rfl) (Fzs.mk (by simpa using hl) fun i v d a b => h (i + 1) v d (by simpa using a) (by simpa using b))
  | [], _ :: _, hl, _ => by simp at hl
  | _ :: _, [], hl, _ => by simp at hl
theorem Fzs.app : ∀ {vs ws : List V} {ds es : List D}, Fzs K Z vs ds → Fzs K Z ws es → Fzs K Z (vs ++ ws) (ds ++ es)
  | _, _, _, _, .nil, h => h
  | _, _, _, _, .cons a r, h => .cons a (Fzs.app r h)
theorem Fzs.drop : ∀ {vs : List V} {ds : List D} (n : Nat), Fzs K Z vs ds → Fzs K Z (vs.drop n) (ds.drop n)
  | _, _, 0, h => h
  | _, _, _ + 1, .nil => .nil
  | _, _, n + 1, .cons _ r => Fzs.drop n r
theorem Fzs.take : ∀ {vs : List V} {ds : List D} (n : Nat), Fzs K Z vs ds → Fzs K Z (vs.take n) (ds.take n)
  | _, _, 0, _ => .nil
  | _, _, _ + 1, .nil => .nil
  | _, _, n + 1, .cons h r => .cons h (Fzs.take n r)
/-- data without dicts, for the library's comparison -/
theorem Sub.mono (e : Same Z Z') (h : Sub Z' H) : Sub Z H := fun a u q => h a u (e a u q)
mutual
def flatD : D → Bool
  | .dict _ => false
  | .list ds => flatDs ds
  | .tuple ds => flatDs ds
  | .none => true
  | .bool _ => true
  | .int _ => true
  | .str _ => true
def flatDs : List D → Bool
  | [] => true
  | d :: ds => flatD d && flatDs ds
end
mutual
theorem Fz.dp (e : Sub Z H) : ∀ {v : V} {d : D}, Fz K Z v d → flatD d = true → Dp K H v d
  | _, _, .non, _ => .non
  | _, _, .bl b, _ => .bl b
  | _, _, .int i, _ => .int i
  | _, _, .str x, _ => .str x
  | _, _, .lst h r, f => .lst (h.sq e) (Fzs.dp e r (by unfold flatD at f; exact f))
  | _, _, .tup h r, f => .tup (h.sq e) (Fzs.dp e r (by unfold flatD at f; exact f))
  | _, _, .dk _ _, f => by simp [flatD] at f
  | _, _, .rg _, f => by simp [flatD] at f
theorem Fzs.dp (e : Sub Z H) : ∀ {vs : List V} {ds : List D}, Fzs K Z vs ds → flatDs ds = true → DpAll K H vs ds
  | _, _, .nil, _ => .nil
  | _, _, .cons h r, f => by
    unfold flatDs at f
    have f := Bool.and_eq_true_iff.mp f
    exact .cons (Fz.dp e h f.1) (Fzs.dp e r f.2)
end
end
/-! ### what is owned -/
def atom : D → Bool
  | .list _ => false
  | .dict _ => false
  | _ => true
/-- the parts of an owned thing: their footprints lie apart -/
structure Apart (a : Addr) (n : Nat) (Fc : Nat → Fp) (F : Fp) : Prop where
  lt : ∀ i b, Fc i b → i < n
  ne : ∀ i, ¬ Fc i a
  one : ∀ i j b, Fc i b → Fc j b → i = j
  all : ∀ b, F b ↔ (b = a ∨ ∃ i, Fc i b)
def RepS (K : PySem.W.Frag) (Z H : Hp) : S → V → D → Fp → Prop
  | .z, v, d, F => Fz K Z v d ∧ ∀ a, ¬ F a
  | .u s, v, d, F => (Fz K Z v d ∧ atom d = true ∧ ∀ a, ¬ F a) ∨ ∃ (a : Addr) (Fc : Nat → Fp), v = .ref a ∧ Z a = none ∧
    ((∃ (vs : List V) (ds : List D), d = .list ds ∧ H a = some (.lst vs) ∧ vs.length = ds.length ∧ Apart a ds.length Fc F ∧ ∀ (i : Nat) v d, vs[i]? = some v → ds[i]? = some d → RepS K Z H s v d (Fc i)) ∨
     (∃ (kvs : List (Key × V)) (ds : List (D × D)), d = .dict ds ∧ H a = some (.dK kvs) ∧ kvs.map (fun p => kD p.1) = ds.map (·.1) ∧ Apart a ds.length Fc F ∧ ∀ (i : Nat) (p : Key × V) (q : D × D), kvs[i]? = some p → ds[i]? = some q → RepS K Z H s p.2 q.2 (Fc i)))
section
variable {K : PySem.W.Frag} {Z Z' H H' : Hp}
/-- what is owned is in the heap, and is not kept for good -/
theorem RepS.foot : ∀ {s : S} {v : V} {d : D} {F : Fp}, RepS K Z H s v d F → ∀ a, F a → Z a = none ∧ ∃ o, H a = some o ∧ Mut (some o)
  | .z, _, _, _, h, a, f => (h.2 a f).elim
  | .u s, v, d, F, h, b, f => by
    rcases h with h | ⟨a, Fc, _, z, h⟩
    · exact (h.2.2 b f).elim
    · rcases h with ⟨vs, ds, _, hH, hl, ap, ch⟩ | ⟨kvs, ds, _, hH, hl, ap, ch⟩
      · rcases (ap.all b).mp f with rfl | ⟨i, fi⟩
        · exact ⟨z, _, hH, trivial⟩
        · have hi := ap.lt i b fi
          exact RepS.foot (ch i vs[i] ds[i] (List.getElem?_eq_getElem (by omega)) (List.getElem?_eq_getElem hi)) b fi
      · rcases (ap.all b).mp f with rfl | ⟨i, fi⟩
        · exact ⟨z, _, hH, trivial⟩
        · have hi := ap.lt i b fi
          have hl := congrArg List.length hl
          rw [List.length_map, List.length_map] at hl
          exact RepS.foot (ch i kvs[i] ds[i] (List.getElem?_eq_getElem (by omega)) (List.getElem?_eq_getElem hi)) b fi
/-- it stays where its cells stay -/
theorem RepS.mono (e : Same Z Z') : ∀ {s : S} {v : V} {d : D} {F : Fp}, RepS K Z H s v d F → (∀ a, F a → H' a = H a ∧ Z' a = none) → RepS K Z' H' s v d F
  | .z, _, _, _, h, _ => ⟨h.1.mono e, h.2⟩
  | .u s, v, d, F, h, k => by
    rcases h with h | ⟨a, Fc, ev, z, h⟩
    · exact .inl ⟨h.1.mono e, h.2⟩
    · rcases h with ⟨vs, ds, ed, hH, hl, ap, ch⟩ | ⟨kvs, ds, ed, hH, hl, ap, ch⟩
      · have ka := k a ((ap.all a).mpr (.inl rfl))
        exact .inr ⟨a, Fc, ev, ka.2, .inl ⟨vs, ds, ed, ka.1.trans hH, hl, ap, fun i v d a b => RepS.mono e (ch i v d a b) fun c hc => k c ((ap.all c).mpr (.inr ⟨i, hc⟩))⟩⟩
      · have ka := k a ((ap.all a).mpr (.inl rfl))
        exact .inr ⟨a, Fc, ev, ka.2, .inr ⟨kvs, ds, ed, ka.1.trans hH, hl, ap, fun i v d a b => RepS.mono e (ch i v d a b) fun c hc => k c ((ap.all c).mpr (.inr ⟨i, hc⟩))⟩⟩
/-- what F covers is kept for good from now on -/
noncomputable def keepF (Z H : Hp) (F : Fp) : Hp := fun a => open Classical in if F a then H a else Z a
theorem keepF_in {F : Fp} {a : Addr} (h : F a) : keepF Z H F a = H a := by
  unfold keepF
  rw [if_pos h]
theorem keepF_out {F : Fp} {a : Addr} (h : ¬ F a) : keepF Z H F a = Z a := by
  unfold keepF
  rw [if_neg h]
theorem fzK_mk : ∀ {kvs : List (Key × V)} {ds : List (D × D)}, kvs.map (fun p => kD p.1) = ds.map (·.1) → (∀ (i : Nat) (p : Key × V) (q : D × D), kvs[i]? = some p → ds[i]? = some q → Fz K Z p.2 q.2) → FzK K Z kvs ds
  | [], [], _, _ => .nil
  | [], _ :: _, h, _ => by simp at h
  | _ :: _, [], h, _ => by simp at h
  | (k, v) :: r, (d, e) :: t, h, c => by
    simp only [List.map_cons, List.cons.injEq] at h
    obtain ⟨rfl, h⟩ := h
    exact .cons (c 0 _ _ rfl rfl) (fzK_mk h fun i p q a b => c (i + 1) p q (by simpa using a) (by simpa using b))
/-- the cells of an owned thing kept for good: G any cells that hold its own -/
theorem RepS.fz {G : Fp} (e : ∀ a, G a → Z a = none) : ∀ {s : S} {v : V} {d : D} {F : Fp}, RepS K Z H s v d F → (∀ a, F a → G a) → Fz K (keepF Z H G) v d
  | .z, _, _, _, h, _ => h.1.mono fun a u q => by
    rw [keepF_out fun g => by rw [e a g] at q; cases q]
    exact q
  | .u s, v, d, F, h, g => by
    have sm : Same Z (keepF Z H G) := fun a u q => by
      rw [keepF_out fun g => by rw [e a g] at q; cases q]
      exact q
    rcases h with h | ⟨a, Fc, rfl, z, h⟩
    · exact h.1.mono sm
    · rcases h with ⟨vs, ds, rfl, hH, hl, ap, ch⟩ | ⟨kvs, ds, rfl, hH, hl, ap, ch⟩
      · have ha := g a ((ap.all a).mpr (.inl rfl))
        exact .lst (.inl (by rw [keepF_in ha]; exact hH)) (Fzs.mk hl fun i v d a b => RepS.fz e (ch i v d a b) fun c hc => g c ((ap.all c).mpr (.inr ⟨i, hc⟩)))
      · have ha := g a ((ap.all a).mpr (.inl rfl))
        exact .dk (by rw [keepF_in ha]; exact hH) (fzK_mk hl fun i v d a b => RepS.fz e (ch i v d a b) fun c hc => g c ((ap.all c).mpr (.inr ⟨i, hc⟩)))
end
end Mi
end
section
namespace Mi
open PySem L2
/-! ### the small language -/
inductive P where
  | add | sub | mul | fdiv | mod | pow | neg
  | eq | ne | lt | le | gt | ge | isin | notin | is | isnot
  | ix | sl (lo hi : Bool)
  | dict0
  | len | abs | toInt | toStr | toList | toTuple | sum | min | max | all | any | isi (ts : List Nat) | sorted | gcd | toDict | rev | revT | rngv
  deriving DecidableEq, Repr
inductive M where
  | app | pop | popAt | rem
  deriving DecidableEq, Repr
inductive G where
  | nm (i : Nat)
  | tp (l : List Nat)
  | tn (l : List (Nat ⊕ List Nat))
  deriving DecidableEq, Repr
mutual
inductive E where
  | var (i : Nat)
  | mv (i : Nat)
  | con (d : D)
  | glob (x : Str) (d : D)
  | prim (p : P) (as : As)
  | tup (as : As)
  | lst (as : As)
  | call (f : Nat) (as : As)
  | mut (m : M) (i : Nat) (as : As)
  | ext (i : Nat) (e : E)
  | and (a b : E)
  | or (a b : E)
  | not (a : E)
  | ife (t : T) (a b : E)
  | lc (it : I) (own : List Nat) (g : G) (t : T) (e : E)
  | lcb (i : Nat) (own : List Nat) (g : G) (t : T) (e : E)
  | lck (i : Nat) (own : List Nat) (g : G) (t : T) (e : E)
  | dc (it : I) (own : List Nat) (g : G) (t : T) (k v : E)
  | dck (i : Nat) (own : List Nat) (g : G) (t : T) (k v : E)
  | nev
  | rep (as : As) (n : Int)
  | idx (i : Nat) (e : E)
  | lc2 (it : I) (own : List Nat) (g : G) (t : T) (it1 : I) (own1 : List Nat) (g1 : G) (t1 : T) (e : E)
inductive As where
  | nil
  | ref (i : Nat) (r : As)
  | val (e : E) (r : As)
inductive T where
  | tt
  | val (e : E)
  | cmp (p : P) (as : As)
  | tru (e : E)
  | and (a b : T)
  | or (a b : T)
  | not (a : T)
inductive I where
  | seq (e : E)
  | rng1 (a : E)
  | rng2 (a b : E)
  | enum (a : E)
  | zip (a b : E)
  | zips (a b : E)
end
mutual
inductive Q where
  | asg (g : G) (e : E)
  | par (i j : Nat) (a b : E)
  | sto (i : Nat) (k v : E)
  | sw (i : Nat) (k1 k2 a b : E)
  | exp (e : E)
  | ret (e : E)
  | ret0
  | iff (t : T) (a b : B)
  | whl (t : T) (b : B)
  | fo (it : I) (g : G) (b : B)
  | fok (i : Nat) (g : G) (b : B)
  | brk
  | cnt
  | pas
  | nev
inductive B where
  | nil
  | cons (q : Q) (r : B)
end
structure Fn where
  nm : Str
  N : List Str
  np : Nat
  io : List Nat
  body : B
inductive Fl where
  | nx
  | bk
  | ct
  | rt (r : SD)
/-! ### what the primitives tell -/
def mulOk (i j : Int) : Bool := decide (i.natAbs.log2 + j.natAbs.log2 < 1000000) || (decide (-(2 ^ 64) < i) && decide (i < 2 ^ 64)) || (decide (-(2 ^ 64) < j) && decide (j < 2 ^ 64))
def divOk (j : Int) : Bool := decide (j ≠ 0) && decide (j.natAbs.log2 < 9000)
def powOk (i j : Int) : Bool := decide (0 ≤ j) && decide (j ≤ 1000000) && decide (i.natAbs < 2 ^ 64)
def eqOk (a b : D) : Bool := SeqAt.shaped a && SeqAt.shaped b && flatD a && flatD b
def allInt : List D → Option (List Int)
  | [] => some []
  | .int i :: r => (allInt r).map (i :: ·)
  | _ :: _ => none
def allStr : List D → Option (List Str)
  | [] => some []
  | .str i :: r => (allStr r).map (i :: ·)
  | _ :: _ => none
def allBl : List D → Option (List Bool)
  | [] => some []
  | .bool i :: r => (allBl r).map (i :: ·)
  | _ :: _ => none
def keyOf : D → Option (Key ⊕ List Key)
  | .int i => some (.inl (.inl i))
  | .str x => some (.inl (.inr x))
  | _ => none
/-- equal keys: ints, texts, tuples of such -/
def deq : D → D → Bool
  | .int i, .int j => i == j
  | .str x, .str y => decide (x = y)
  | _, _ => false
def look (k : D) : List (D × D) → Option D
  | [] => none
  | (q, d) :: r => if deq q k then some d else look k r
def put (k v : D) (l : List (D × D)) : List (D × D) := if l.any (fun p => deq p.1 k) then l.map (fun p => if deq p.1 k then (p.1, v) else p) else l ++ [(k, v)]
def isKey : D → Bool
  | .int _ => true
  | .str _ => true
  | _ => false
/-- types by number: 0 int, 1 bool, 2 str, 3 list, 4 tuple, 5 dict -/
def tyHas : D → Nat → Bool
  | .int _, 0 => true
  | .bool _, 0 => true
  | .bool _, 1 => true
  | .str _, 2 => true
  | .list _, 3 => true
  | .tuple _, 4 => true
  | .dict _, 5 => true
  | _, _ => false
def isNonD : D → Bool
  | .none => true
  | _ => false
def isBlD (b : Bool) : D → Bool
  | .bool c => c == b
  | _ => false
def cut (xs : List D) (lo hi : Option Int) : List D := (xs.drop (HT.sIx xs.length 0 lo)).take (HT.sIx xs.length xs.length hi - HT.sIx xs.length 0 lo)
abbrev zd (d : D) : Option SD := some (.z, d)
abbrev ud (d : D) : Option SD := some (.u .z, d)
def strLe (a b : Str) : Bool := decide (a.cps.toList ≤ b.cps.toList)
def sortS (l : List Str) : List Str := l.mergeSort strLe
def sortI (l : List Int) : List Int := l.mergeSort fun a b => decide (a ≤ b)
def maxI : List Int → Int
  | [] => 0
  | [x] => x
  | x :: r => if maxI r < x then x else maxI r
def minI : List Int → Int
  | [] => 0
  | [x] => x
  | x :: r => if x < minI r then x else minI r
def dpairs : List D → List D → List (D × D) → List (D × D)
  | k :: ks, v :: vs, acc => dpairs ks vs (put k v acc)
  | _, _, acc => acc
def prAdd : List D → Option SD
  | [.int i, .int j] => zd (.int (i + j))
  | [.str x, .str y] => if x.length + y.length ≤ sizeLine then zd (.str (x ++ y)) else none
  | [.list x, .list y] => if x.length + y.length ≤ sizeLine then ud (.list (x ++ y)) else none
  | [.tuple (x :: r), .tuple y] => if (x :: r).length + y.length ≤ sizeLine then zd (.tuple (x :: r ++ y)) else none
  | _ => none
def prSub : List D → Option SD
  | [.int i, .int j] => zd (.int (i - j))
  | [.bool p, .bool q] => zd (.int ((if p = true then (1 : Int) else 0) - (if q = true then (1 : Int) else 0)))
  | _ => none
def prMul : List D → Option SD
  | [.int i, .int j] => if mulOk i j then zd (.int (i * j)) else none
  | _ => none
def prFdiv : List D → Option SD
  | [.int i, .int j] => if divOk j then zd (.int (i.fdiv j)) else none
  | _ => none
def prMod : List D → Option SD
  | [.int i, .int j] => if j ≠ 0 then zd (.int (i.fmod j)) else none
  | _ => none
def prPow : List D → Option SD
  | [.int i, .int j] => if powOk i j then zd (.int (i ^ j.toNat)) else none
  | _ => none
def prNeg : List D → Option SD
  | [.int i] => zd (.int (-i))
  | _ => none
def prEq : List D → Option SD
  | [a, b] => if eqOk a b then zd (.bool (PyData.eqv a b)) else none
  | _ => none
def prNe : List D → Option SD
  | [a, b] => if eqOk a b then zd (.bool (!PyData.eqv a b)) else none
  | _ => none
def prLt : List D → Option SD
  | [.int i, .int j] => zd (.bool (decide (i < j)))
  | [.str i, .str j] => zd (.bool (decide (i.cps.toList < j.cps.toList)))
  | _ => none
def prLe : List D → Option SD
  | [.int i, .int j] => zd (.bool (decide (i ≤ j)))
  | _ => none
def prGt : List D → Option SD
  | [.int i, .int j] => zd (.bool (decide (j < i)))
  | _ => none
def prGe : List D → Option SD
  | [.int i, .int j] => zd (.bool (decide (j ≤ i)))
  | _ => none
def prIsin : List D → Option SD
  | [a, .list b] => if eqOk a (.list b) then zd (.bool (b.any fun z => PyData.eqv z a)) else none
  | [a, .dict b] => if isKey a && !isRg b then zd (.bool (look a b).isSome) else none
  | _ => none
def prNotin : List D → Option SD
  | [a, .list b] => if eqOk a (.list b) then zd (.bool (!b.any fun z => PyData.eqv z a)) else none
  | [a, .dict b] => if isKey a && !isRg b then zd (.bool (!(look a b).isSome)) else none
  | _ => none
def prIs : List D → Option SD
  | [a, .none] => zd (.bool (isNonD a))
  | [a, .bool b] => zd (.bool (isBlD b a))
  | _ => none
def prIsnot : List D → Option SD
  | [a, .none] => zd (.bool (!isNonD a))
  | [a, .bool b] => zd (.bool (!isBlD b a))
  | _ => none
def prIx : List D → Option SD
  | [.list xs, .int i] => (atI xs i).bind zd
  | [.tuple xs, .int i] => (atI xs i).bind zd
  | [.str x, .int i] => if x.length ≤ sizeLine then (atI x.cps.toList i).bind fun c => zd (.str ⟨#[c]⟩) else none
  | [.dict b, k] => if isKey k && !isRg b then (look k b).bind zd else none
  | _ => none
def prSl : Bool → Bool → List D → Option SD
  | false, false, [.list xs] => ud (.list (cut xs none none))
  | true, false, [.list xs, .int i] => ud (.list (cut xs (some i) none))
  | false, true, [.list xs, .int j] => ud (.list (cut xs none (some j)))
  | true, true, [.list xs, .int i, .int j] => ud (.list (cut xs (some i) (some j)))
  | true, false, [.str x, .int i] => if x.length ≤ sizeLine then zd (.str (Txt.slice x (some i) none)) else none
  | false, true, [.str x, .int j] => if x.length ≤ sizeLine then zd (.str (Txt.slice x none (some j))) else none
  | _, _, _ => none
def prDict0 : List D → Option SD
  | [] => ud (.dict [])
  | _ => none
def prLen : List D → Option SD
  | [.list xs] => zd (.int xs.length)
  | [.tuple xs] => zd (.int xs.length)
  | [.dict xs] => if isRg xs then none else zd (.int xs.length)
  | [.str x] => if x.length ≤ sizeLine then zd (.int x.length) else none
  | _ => none
def prAbs : List D → Option SD
  | [.int i] => zd (.int (if i < 0 then -i else i))
  | _ => none
def prToInt : List D → Option SD
  | [.int i] => zd (.int i)
  | [.bool b] => zd (.int (if b then 1 else 0))
  | _ => none
def prToStr : List D → Option SD
  | [.int i] => if i.natAbs.log2 < 1920 then zd (.str (toString i)) else none
  | _ => none
def prToList : List D → Option SD
  | [.list xs] => ud (.list xs)
  | [.tuple xs] => ud (.list xs)
  | _ => none
def prToTuple : List D → Option SD
  | [.list xs] => zd (.tuple xs)
  | [.tuple xs] => zd (.tuple xs)
  | _ => none
def alikesB (xs : List D) : Bool := xs.all (fun x => xs.all fun y => PySem.W.alike x y) && xs.all (fun x => !isNonD x) && flatDs xs && decide (PyData.depthAll xs ≤ 60)
def big (i : Int) : Bool := decide (i.natAbs < 4611686018427387904)
def prSum : List D → Option SD
  | [.list xs] => (allInt xs).bind fun ns => zd (.int ns.sum)
  | _ => none
def prMax : List D → Option SD
  | [.list xs] => (allInt xs).bind fun ns => if 0 < ns.length then zd (.int (maxI ns)) else none
  | _ => none
def prMin : List D → Option SD
  | [.list xs] => match allInt xs with
    | some ns => if 0 < ns.length then zd (.int (minI ns)) else none
    | none => match xs with
      | x :: r => if alikesB (x :: r) then zd (PySem.W.minD x r) else none
      | [] => none
  | _ => none
def prRngv : List D → Option SD
  | [.int n] => if big n then zd (rgD 0 n) else none
  | _ => none
def prAll : List D → Option SD
  | [.list xs] => (allBl xs).bind fun ns => zd (.bool (ns.all id))
  | _ => none
def prAny : List D → Option SD
  | [.list xs] => (allBl xs).bind fun ns => zd (.bool (ns.any id))
  | _ => none
def prIsi (ts : List Nat) : List D → Option SD
  | [d] => if isRgD d then none else zd (.bool (ts.any (tyHas d)))
  | _ => none
def prSorted : List D → Option SD
  | [.list xs] => match allStr xs with
    | some ss => if ss.length < 64 then ud (.list ((sortS ss).map PyData.str)) else none
    | none => (allInt xs).bind fun ns => ud (.list ((sortI ns).map PyData.int))
  | [.dict b] => if isRg b then none else match allStr (b.map (·.1)) with
    | some ss => if ss.length < 64 then ud (.list ((sortS ss).map PyData.str)) else none
    | none => none
  | _ => none
def prGcd : List D → Option SD
  | [.int i, .int j] => zd (.int ((Nat.gcd i.natAbs j.natAbs : Nat) : Int))
  | _ => none
def prToDict : List D → Option SD
  | [.dict xs] => if isRg xs then none else ud (.dict xs)
  | _ => none
def prRev : List D → Option SD
  | [.list xs] => ud (.list xs.reverse)
  | _ => none
def prRevT : List D → Option SD
  | [.list xs] => ud (.list (xs.drop 1).reverse)
  | _ => none
def pr : P → List D → Option SD
  | .add => prAdd
  | .sub => prSub
  | .mul => prMul
  | .fdiv => prFdiv
  | .mod => prMod
  | .pow => prPow
  | .neg => prNeg
  | .eq => prEq
  | .ne => prNe
  | .lt => prLt
  | .le => prLe
  | .gt => prGt
  | .ge => prGe
  | .isin => prIsin
  | .notin => prNotin
  | .is => prIs
  | .isnot => prIsnot
  | .ix => prIx
  | .sl a b => prSl a b
  | .dict0 => prDict0
  | .len => prLen
  | .abs => prAbs
  | .toInt => prToInt
  | .toStr => prToStr
  | .toList => prToList
  | .toTuple => prToTuple
  | .sum => prSum
  | .max => prMax
  | .min => prMin
  | .all => prAll
  | .any => prAny
  | .isi ts => prIsi ts
  | .sorted => prSorted
  | .gcd => prGcd
  | .toDict => prToDict
  | .rev => prRev
  | .revT => prRevT
  | .rngv => prRngv
/-- what a method does to the thing it is called of, and tells -/
def mu : M → D → List D → Option (D × D)
  | .app, .list xs, [d] => if xs.length < sizeLine then some (.list (xs ++ [d]), .none) else none
  | .pop, .list xs, [] => (xs[xs.length - 1]?).map fun y => (.list xs.dropLast, y)
  | .popAt, .list xs, [.int i] => if -(2 ^ 63) ≤ i ∧ i < 2 ^ 63 then (seqIndex? i xs.length).bind fun k => (xs[k]?).map fun y => (.list (xs.eraseIdx k), y) else none
  | .rem, .list xs, [d] => if eqOk d (.list xs) then (xs.findIdx? fun z => PyData.eqv z d).map fun j => (.list (xs.eraseIdx j), .none) else none
  | _, _, _ => none
/-- x[k] = v -/
def sto : D → D → D → Option D
  | .list xs, .int k, v => (ixN xs.length k).map fun j => .list (xs.set j v)
  | .dict b, k, v => if isKey k && decide (b.length < sizeLine) then some (.dict (put k v b)) else none
  | _, _, _ => none
/-- x[k] = v, x a list -/
def stoL (fk : List (Option SD) → Option (SD × List (Option SD))) (i : Nat) (v : D) (ρ : List (Option SD)) : Option (List (Option SD)) := ((ρ[i]?).bind id).bind fun _ => (fk ρ).bind fun (x, ρ1) => ((ρ1[i]?).bind id).bind fun sd => match sd with
  | (.u .z, .list xs) => (sto (.list xs) x.2 v).bind fun d' => some (ρ1.set i (some (.u .z, d')))
  | _ => none
/-! ### how it runs -/
def getO (ρ : Ev) (i : Nat) : Option SD := (ρ[i]?).bind id
/-- an argument: a value, or the thing that a name holds -/
abbrev Ar := D ⊕ Nat
def rd : S → Bool
  | .z => true
  | .u .z => true
  | _ => false
/-- what a primitive sees -/
def sees (ρ : Ev) : List Ar → Option (List D)
  | [] => some []
  | .inl d :: r => (sees ρ r).map (d :: ·)
  | .inr i :: r => (getO ρ i).bind fun sd => if rd sd.1 then (sees ρ r).map (sd.2 :: ·) else none
/-- values alone -/
def plain : List Ar → Option (List D)
  | [] => some []
  | .inl d :: r => (plain r).map (d :: ·)
  | .inr _ :: _ => none
/-- what a def is handed -/
def hands (ρ : Ev) : List Ar → Option (List SD)
  | [] => some []
  | .inl d :: r => (hands ρ r).map ((S.z, d) :: ·)
  | .inr i :: r => (getO ρ i).bind fun sd => (hands ρ r).map (sd :: ·)
/-- what it hands back -/
def backs (ρ : Ev) : List Ar → List SD → Ev
  | .inr i :: r, sd :: t => backs (ρ.set i (some sd)) r t
  | .inl _ :: r, _ :: t => backs ρ r t
  | _, _ => ρ
def noneAt (ρ : Ev) : List Nat → Ev
  | [] => ρ
  | i :: r => (noneAt ρ r).set i none
/-- the names of a block are no owners -/
def plainAt (ρ : Ev) (own : List Nat) : Bool := own.all fun i => match getO ρ i with
  | some (.u _, _) => false
  | _ => true
def restore (ρ0 ρ : Ev) : List Nat → Ev
  | [] => ρ
  | i :: r => (restore ρ0 ρ r).set i (getO ρ0 i)
def binds (ρ : Ev) : List Nat → List D → Option Ev
  | [], [] => some ρ
  | i :: r, d :: t => if i < ρ.length then binds (ρ.set i (some (.z, d))) r t else none
  | _, _ => none
/-- names, and rows of names -/
def bindN (ρ : Ev) : List (Nat ⊕ List Nat) → List D → Option Ev
  | [], [] => some ρ
  | .inl i :: r, d :: t => if i < ρ.length then bindN (ρ.set i (some (.z, d))) r t else none
  | .inr m :: r, .tuple es :: t => (binds ρ m es).bind fun ρ1 => bindN ρ1 r t
  | _, _ => none
def gnames (l : List (Nat ⊕ List Nat)) : List Nat := l.flatMap fun
  | .inl i => [i]
  | .inr m => m
def asg (g : G) (sd : SD) (ρ : Ev) : Option Ev := match g with
  | .nm i => if i < ρ.length then some (ρ.set i (some sd)) else none
  | .tp l => match sd with
    | (.z, .tuple ds) => binds ρ l ds
    | (.z, .list ds) => binds ρ l ds
    | (.u .z, .list ds) => binds ρ l ds
    | _ => none
  | .tn l => match sd with
    | (.z, .tuple ds) => bindN ρ l ds
    | _ => none
abbrev CF := Nat → List SD → Option (SD × List SD)
def rngD (lo : Int) : Nat → List D
  | 0 => []
  | n + 1 => .int lo :: rngD (lo + 1) n
def items : D → Option (List D)
  | .list ds => some ds
  | .tuple ds => some ds
  | .dict [(.none, .tuple [.int lo, .int hi])] => if big lo && big hi then some (rngD lo (hi - lo).toNat) else none
  | _ => none
def enumF : Nat → List D → List D
  | _, [] => []
  | n, d :: r => .tuple [.int n, d] :: enumF (n + 1) r
def zipD (xs ys : List D) : List D := (xs.zip ys).map fun p => .tuple [p.1, p.2]
/-- the turns of a comprehension -/
def turns (ft : Ev → Option (Bool × Ev)) (fe : Ev → Option (SD × Ev)) (g : G) (own : List Nat) : List D → Ev → List D → Option (List D × Ev)
  | [], ρ, acc => some (acc, ρ)
  | d :: r, ρ, acc => (asg g (.z, d) ρ).bind fun ρ1 => (ft ρ1).bind fun (b, ρ2) => match b with
    | false => turns ft fe g own r (noneAt ρ2 own) acc
    | true => (fe ρ2).bind fun (sd, ρ3) => if acc.length < sizeLine then turns ft fe g own r (noneAt ρ3 own) (acc ++ [sd.2]) else none
/-- the turns of a comprehension with two generators -/
def turns2 (ft : Ev → Option (Bool × Ev)) (fi : Ev → Option (List D × Ev)) (ft1 : Ev → Option (Bool × Ev)) (fe : Ev → Option (SD × Ev)) (g g1 : G) (own own1 : List Nat) : List D → Ev → List D → Option (List D × Ev)
  | [], ρ, acc => some (acc, ρ)
  | d :: r, ρ, acc => (asg g (.z, d) ρ).bind fun ρ1 => (ft ρ1).bind fun (b, ρ2) => match b with
    | false => turns2 ft fi ft1 fe g g1 own own1 r (noneAt ρ2 own) acc
    | true => (fi ρ2).bind fun (ds, ρ3) => (turns ft1 fe g1 own1 ds (noneAt ρ3 own1) acc).bind fun (acc1, ρ4) => turns2 ft fi ft1 fe g g1 own own1 r (noneAt ρ4 own) acc1
/-- the turns of a dict comprehension -/
def turnsD (ft : Ev → Option (Bool × Ev)) (fk fv : Ev → Option (SD × Ev)) (g : G) (own : List Nat) : List D → Ev → List (D × D) → Option (List (D × D) × Ev)
  | [], ρ, acc => some (acc, ρ)
  | d :: r, ρ, acc => (asg g (.z, d) ρ).bind fun ρ1 => (ft ρ1).bind fun (b, ρ2) => match b with
    | false => turnsD ft fk fv g own r (noneAt ρ2 own) acc
    | true => (fk ρ2).bind fun (x, ρ3) => (fv ρ3).bind fun (y, ρ4) => if isKey x.2 && decide (acc.length < sizeLine) then turnsD ft fk fv g own r (noneAt ρ4 own) (put x.2 y.2 acc) else none
def keysD (b : List (D × D)) : List D := b.map (·.1)
def dkeys : D → Option (List D)
  | .dict b => if isRg b then none else some (keysD b)
  | _ => none
/-- a name, kept for good from now on -/
def frzE (i : Nat) (ρ : Ev) : Option (SD × Ev) := (getO ρ i).bind fun sd => match sd.1 with
    | .z => some (sd, ρ)
    | .u _ => some ((.z, sd.2), ρ.set i (some (.z, sd.2)))
mutual
def evE (cf : CF) : E → Ev → Option (SD × Ev)
  | .var i, ρ => (getO ρ i).bind fun sd => match sd.1 with
    | .z => some (sd, ρ)
    | .u _ => some ((.z, sd.2), ρ.set i (some (.z, sd.2)))
  | .mv i, ρ => (getO ρ i).bind fun sd => some (sd, ρ.set i none)
  | .con d, ρ => some ((.z, d), ρ)
  | .glob _ d, ρ => some ((.z, d), ρ)
  | .prim p as, ρ => (evA cf as ρ).bind fun (xs, ρ1) => (sees ρ1 xs).bind fun ds => (pr p ds).bind fun sd => some (sd, ρ1)
  | .tup as, ρ => (evA cf as ρ).bind fun (xs, ρ1) => (plain xs).bind fun ds => if ds.length ≤ sizeLine then some ((.z, .tuple ds), ρ1) else none
  | .lst as, ρ => (evA cf as ρ).bind fun (xs, ρ1) => (plain xs).bind fun ds => if ds.length ≤ sizeLine then some ((.u .z, .list ds), ρ1) else none
  | .call f as, ρ => (evA cf as ρ).bind fun (xs, ρ1) => (hands ρ1 xs).bind fun sds => (cf f sds).bind fun (r, outs) => some (r, backs ρ1 xs outs)
  | .mut m i as, ρ => (getO ρ i).bind fun sd0 => match sd0 with
    | (.u .z, .list _) => (evA cf as ρ).bind fun (xs, ρ1) => (sees ρ1 xs).bind fun ds => (getO ρ1 i).bind fun sd => match sd with
      | (.u .z, d) => (mu m d ds).bind fun (d', r) => some ((.z, r), ρ1.set i (some (.u .z, d')))
      | _ => none
    | _ => none
  | .ext i e, ρ => (getO ρ i).bind fun sd0 => match sd0 with
    | (.u .z, .list _) => (evE cf e ρ).bind fun (x, ρ1) => (getO ρ1 i).bind fun sd => match sd, x with
      | (.u .z, .list xs), (.u .z, .list ys) => if xs.length + ys.length ≤ sizeLine then some ((.z, .none), ρ1.set i (some (.u .z, .list (xs ++ ys)))) else none
      | _, _ => none
    | _ => none
  | .and a b, ρ => (evE cf a ρ).bind fun (x, ρ1) => match x.2 with
    | .bool true => evE cf b ρ1
    | .bool false => some ((.z, .bool false), ρ1)
    | _ => none
  | .or a b, ρ => (evE cf a ρ).bind fun (x, ρ1) => match x.2 with
    | .bool true => some ((.z, .bool true), ρ1)
    | .bool false => evE cf b ρ1
    | _ => none
  | .not a, ρ => (evE cf a ρ).bind fun (x, ρ1) => match x.2 with
    | .bool c => some ((.z, .bool (!c)), ρ1)
    | _ => none
  | .ife t a b, ρ => (evT cf t ρ).bind fun (c, ρ1) => match c with
    | true => evE cf a ρ1
    | false => evE cf b ρ1
  | .lc it own g t e, ρ => (evI cf it ρ).bind fun (ds, ρ1) => if plainAt ρ1 own then
      (turns (evT cf t) (evE cf e) g own ds (noneAt ρ1 own) []).bind fun (acc, ρ2) => some ((.u .z, .list acc), restore ρ1 ρ2 own) else none
  | .lcb i own g t e, ρ => (getO ρ i).bind fun sd0 => match sd0 with
    | (.u .z, .list ds) => if plainAt (ρ.set i none) own && !decide (i ∈ own) then
      (turns (evT cf t) (evE cf e) g own ds (noneAt (ρ.set i none) own) []).bind fun (acc, ρ2) => some ((.u .z, .list acc), (restore (ρ.set i none) ρ2 own).set i (some (.u .z, .list ds))) else none
    | _ => none
  | .lc2 it own g t it1 own1 g1 t1 e, ρ => (evI cf it ρ).bind fun (ds, ρ1) => if plainAt ρ1 own then
      (turns2 (evT cf t) (evI cf it1) (evT cf t1) (evE cf e) g g1 own own1 ds (noneAt ρ1 own) []).bind fun (acc, ρ2) => some ((.u .z, .list acc), restore ρ1 ρ2 own) else none
  | .lck i own g t e, ρ => (frzE i ρ).bind fun (x, ρ1) => (dkeys x.2).bind fun ks => if plainAt ρ1 own then
      (turns (evT cf t) (evE cf e) g own ks (noneAt ρ1 own) []).bind fun (acc, ρ2) => some ((.u .z, .list acc), restore ρ1 ρ2 own) else none
  | .dc it own g t k v, ρ => (evI cf it ρ).bind fun (ds, ρ1) => if plainAt ρ1 own then
      (turnsD (evT cf t) (evE cf k) (evE cf v) g own ds (noneAt ρ1 own) []).bind fun (acc, ρ2) => some ((.u .z, .dict acc), restore ρ1 ρ2 own) else none
  | .nev, _ => none
  | .rep as n, ρ => (evA cf as ρ).bind fun (xs, ρ1) => (plain xs).bind fun ds => if 0 ≤ n ∧ n < 2 ^ 62 ∧ ds.length ≤ sizeLine ∧ ds.length * n.toNat ≤ sizeLine then some ((.u .z, .list (List.replicate n.toNat ds).flatten), ρ1) else none
  | .idx i e, ρ => (getO ρ i).bind fun sd0 => match sd0.2 with
    | .list _ => if rd sd0.1 then (evE cf e ρ).bind fun (x, ρ1) => (getO ρ1 i).bind fun sd => match sd.2 with
        | .list xs => if rd sd.1 && eqOk x.2 (.list xs) then (xs.findIdx? fun z => PyData.eqv z x.2).map fun j => ((.z, .int (j : Nat)), ρ1) else none
        | _ => none
      else none
    | _ => none
  | .dck i own g t k v, ρ => (frzE i ρ).bind fun (x, ρ1) => (dkeys x.2).bind fun ks => if plainAt ρ1 own then
      (turnsD (evT cf t) (evE cf k) (evE cf v) g own ks (noneAt ρ1 own) []).bind fun (acc, ρ2) => some ((.u .z, .dict acc), restore ρ1 ρ2 own) else none
def evA (cf : CF) : As → Ev → Option (List Ar × Ev)
  | .nil, ρ => some ([], ρ)
  | .ref i r, ρ => (getO ρ i).bind fun _ => (evA cf r ρ).bind fun (xs, ρ1) => some (.inr i :: xs, ρ1)
  | .val e r, ρ => (evE cf e ρ).bind fun (x, ρ1) => (evA cf r ρ1).bind fun (xs, ρ2) => some (.inl x.2 :: xs, ρ2)
def evT (cf : CF) : T → Ev → Option (Bool × Ev)
  | .tt, ρ => some (true, ρ)
  | .val e, ρ => (evE cf e ρ).bind fun (x, ρ1) => match x.2 with
    | .bool b => some (b, ρ1)
    | _ => none
  | .cmp p as, ρ => (evA cf as ρ).bind fun (xs, ρ1) => (sees ρ1 xs).bind fun ds => (pr p ds).bind fun sd => match sd.2 with
    | .bool b => some (b, ρ1)
    | _ => none
  | .tru e, ρ => (evE cf e ρ).bind fun (x, ρ1) => match x.2 with
    | .none => some (false, ρ1)
    | .bool b => some (b, ρ1)
    | .int i => some (i != 0, ρ1)
    | .list xs => some (!xs.isEmpty, ρ1)
    | .tuple xs => some (!xs.isEmpty, ρ1)
    | _ => none
  | .and a b, ρ => (evT cf a ρ).bind fun (c, ρ1) => match c with
    | true => evT cf b ρ1
    | false => some (false, ρ1)
  | .or a b, ρ => (evT cf a ρ).bind fun (c, ρ1) => match c with
    | true => some (true, ρ1)
    | false => evT cf b ρ1
  | .not a, ρ => (evT cf a ρ).bind fun (c, ρ1) => some (!c, ρ1)
def evI (cf : CF) : I → Ev → Option (List D × Ev)
  | .seq e, ρ => (evE cf e ρ).bind fun (x, ρ1) => (items x.2).bind fun ds => some (ds, ρ1)
  | .rng1 a, ρ => (evE cf a ρ).bind fun (x, ρ1) => match x.2 with
    | .int n => if big n then some (rngD 0 n.toNat, ρ1) else none
    | _ => none
  | .rng2 a b, ρ => (evE cf a ρ).bind fun (x, ρ1) => (evE cf b ρ1).bind fun (y, ρ2) => match x.2, y.2 with
    | .int lo, .int hi => if big lo && big hi then some (rngD lo (hi - lo).toNat, ρ2) else none
    | _, _ => none
  | .enum a, ρ => (evE cf a ρ).bind fun (x, ρ1) => match x.2 with
    | .list ds => some (enumF 0 ds, ρ1)
    | _ => none
  | .zip a b, ρ => (evE cf a ρ).bind fun (x, ρ1) => (evE cf b ρ1).bind fun (y, ρ2) => match x.2, y.2 with
    | .list xs, .list ys => some (zipD xs ys, ρ2)
    | _, _ => none
  | .zips a b, ρ => (evE cf a ρ).bind fun (x, ρ1) => (evE cf b ρ1).bind fun (y, ρ2) => match x.2, y.2 with
    | .list xs, .list ys => if xs.length = ys.length then some (zipD xs ys, ρ2) else none
    | .list xs, .tuple ys => if xs.length = ys.length then some (zipD xs ys, ρ2) else none
    | _, _ => none
end
/-- the turns of a for -/
def loop (fb : Ev → Option (Fl × Ev)) (g : G) : List D → Ev → Option (Fl × Ev)
  | [], ρ => some (.nx, ρ)
  | d :: r, ρ => (asg g (.z, d) ρ).bind fun ρ1 => (fb ρ1).bind fun (f, ρ2) => match f with
    | .nx => loop fb g r ρ2
    | .ct => loop fb g r ρ2
    | .bk => some (.nx, ρ2)
    | .rt x => some (.rt x, ρ2)
def wloop (ft : Ev → Option (Bool × Ev)) (fb : Ev → Option (Fl × Ev)) : Nat → Ev → Option (Fl × Ev)
  | 0, _ => none
  | n + 1, ρ => (ft ρ).bind fun (c, ρ1) => match c with
    | false => some (.nx, ρ1)
    | true => (fb ρ1).bind fun (f, ρ2) => match f with
      | .nx => wloop ft fb n ρ2
      | .ct => wloop ft fb n ρ2
      | .bk => some (.nx, ρ2)
      | .rt x => some (.rt x, ρ2)
mutual
def exQ (cf : CF) (w : Nat) : Q → Ev → Option (Fl × Ev)
  | .asg g e, ρ => (evE cf e ρ).bind fun (x, ρ1) => (asg g x ρ1).bind fun ρ2 => some (.nx, ρ2)
  | .par i j a b, ρ => (evE cf a ρ).bind fun (x, ρ1) => (evE cf b ρ1).bind fun (y, ρ2) => if i < ρ2.length && j < ρ2.length then some (.nx, (ρ2.set i (some (.z, x.2))).set j (some (.z, y.2))) else none
  | .sto i k v, ρ => (evE cf v ρ).bind fun (y, ρ1) => (getO ρ1 i).bind fun _ => (evE cf k ρ1).bind fun (x, ρ2) => (getO ρ2 i).bind fun sd => match sd with
    | (.u .z, d) => (sto d x.2 y.2).bind fun d' => some (.nx, ρ2.set i (some (.u .z, d')))
    | _ => none
  | .sw i k1 k2 a b, ρ => (evE cf a ρ).bind fun (x, ρ1) => (evE cf b ρ1).bind fun (y, ρ2) => (stoL (evE cf k1) i x.2 ρ2).bind fun ρ3 => (stoL (evE cf k2) i y.2 ρ3).bind fun ρ4 => some (.nx, ρ4)
  | .exp e, ρ => (evE cf e ρ).bind fun (_, ρ1) => some (.nx, ρ1)
  | .ret e, ρ => (evE cf e ρ).bind fun (x, ρ1) => some (.rt x, ρ1)
  | .ret0, ρ => some (.rt (.z, .none), ρ)
  | .iff t a b, ρ => (evT cf t ρ).bind fun (c, ρ1) => match c with
    | true => exB cf w a ρ1
    | false => exB cf w b ρ1
  | .whl t b, ρ => wloop (evT cf t) (exB cf w b) w ρ
  | .fo it g b, ρ => (evI cf it ρ).bind fun (ds, ρ1) => loop (exB cf w b) g ds ρ1
  | .fok i g b, ρ => (frzE i ρ).bind fun (x, ρ1) => (dkeys x.2).bind fun ks => loop (exB cf w b) g ks ρ1
  | .nev, _ => none
  | .brk, ρ => some (.bk, ρ)
  | .cnt, ρ => some (.ct, ρ)
  | .pas, ρ => some (.nx, ρ)
def exB (cf : CF) (w : Nat) : B → Ev → Option (Fl × Ev)
  | .nil, ρ => some (.nx, ρ)
  | .cons q r, ρ => (exQ cf w q ρ).bind fun (f, ρ1) => match f with
    | .nx => exB cf w r ρ1
    | f => some (f, ρ1)
end
/-- what a def hands back of its arguments -/
def outs (io : List Nat) (ρ : Ev) : Nat → List SD → Option (List SD)
  | _, [] => some []
  | j, a :: r => (outs io ρ (j + 1) r).bind fun t => if j ∈ io then (getO ρ j).bind fun x => some (x :: t) else (match a.1 with
    | .z => some (a :: t)
    | _ => none)
def callF (Gt : Nat → Option Fn) (w : Nat) : Nat → CF
  | 0, _, _ => none
  | k + 1, f, args => (Gt f).bind fun fn => if args.length = fn.np then
      (exB (callF Gt w k) w fn.body (args.map some ++ List.replicate (fn.N.length - fn.np) none)).bind fun (fl, ρ) => match fl with
        | .rt r => (outs fn.io ρ 0 args).bind fun o => some (r, o)
        | .nx => (outs fn.io ρ 0 args).bind fun o => some ((.z, .none), o)
        | _ => none
    else none
end Mi
end
section
namespace Mi
open PySem L2
/-! ### states, and how they go on -/
abbrev Al (Fs : Nat → Fp) : Fp := fun a => ∃ i, Fs i a
structure Tr (Z H : Hp) (A : Fp) (Z' H' : Hp) (A' : Fp) : Prop where
  zz : Same Z Z'
  hh : ∀ a o, H a = some o → ¬ A a → H' a = some o
  nw : ∀ a, A' a → A a ∨ H a = none
  zn : ∀ a o, Z' a = some o → Z a = some o ∨ H a = none ∨ A a
structure R (K : PySem.W.Frag) (Z H : Hp) (ρ : Ev) (σ : St) (Fs : Nat → Fp) : Prop where
  len : ρ.length = σ.length
  sub : Sub Z H
  rep : ∀ i sd, getO ρ i = some sd → ∃ v, σ[i]? = some (some v) ∧ RepS K Z H sd.1 v sd.2 (Fs i)
  out : ∀ i, getO ρ i = none → ∀ a, ¬ Fs i a
  one : ∀ i j a, Fs i a → Fs j a → i = j
section
variable {K : PySem.W.Frag} {Z H Z' H' Z1 H1 Z2 H2 : Hp} {A A1 A2 A' : Fp} {ρ ρ' : Ev} {σ : St} {Fs Fs' : Nat → Fp}
theorem Tr.refl : Tr Z H A Z H A := ⟨Same.refl _, fun _ _ h _ => h, fun _ h => .inl h, fun _ _ h => .inl h⟩
theorem Tr.trans (x : Tr Z H A Z1 H1 A1) (y : Tr Z1 H1 A1 Z2 H2 A2) : Tr Z H A Z2 H2 A2 where
  zz := x.zz.trans y.zz
  hh := fun a o h n => y.hh a o (x.hh a o h n) fun h1 => by
    rcases x.nw a h1 with q | q
    · exact n q
    · rw [h] at q; cases q
  nw := fun a h => by
    rcases y.nw a h with q | q
    · exact x.nw a q
    · by_cases n : A a
      · exact .inl n
      · refine .inr ?_
        cases e : H a with
        | none => rfl
        | some o => rw [x.hh a o e n] at q; cases q
  zn := fun a o h => by
    rcases y.zn a o h with q | q | q
    · exact x.zn a o q
    · by_cases n : A a
      · exact .inr (.inr n)
      · refine .inr (.inl ?_)
        cases e : H a with
        | none => rfl
        | some o => rw [x.hh a o e n] at q; cases q
    · rcases x.nw a q with q | q
      · exact .inr (.inr q)
      · exact .inr (.inl q)
theorem Tr.less (x : Tr Z H A Z' H' A1) (h : ∀ a, A2 a → A1 a) : Tr Z H A Z' H' A2 := ⟨x.zz, x.hh, fun a q => x.nw a (h a q), x.zn⟩
theorem R.foot (r : R K Z H ρ σ Fs) {a : Addr} (h : Al Fs a) : Z a = none ∧ ∃ o, H a = some o ∧ Mut (some o) := by
  obtain ⟨i, f⟩ := h
  cases e : getO ρ i with
  | none => exact (r.out i e a f).elim
  | some sd =>
    obtain ⟨v, _, q⟩ := r.rep i sd e
    exact q.foot a f
/-- what was made ahead stays -/
theorem RepS.carry {s : S} {v : V} {d : D} {F : Fp} (h : RepS K Z H s v d F) (n : ∀ a, F a → ¬ A a) (t : Tr Z H A Z' H' A') : RepS K Z' H' s v d F := h.mono t.zz fun a f => by
  obtain ⟨z, o, ho, _⟩ := h.foot a f
  refine ⟨(t.hh a o ho (n a f)).trans ho.symm, ?_⟩
  cases e : Z' a with
  | none => rfl
  | some u =>
    rcases t.zn a u e with q | q | q
    · rw [z] at q; cases q
    · rw [ho] at q; cases q
    · exact (n a f q).elim
theorem carry_ne {s : S} {v : V} {d : D} {F : Fp} (h : RepS K Z H s v d F) (n : ∀ a, F a → ¬ A a) (t : Tr Z H A Z' H' A') : ∀ a, F a → ¬ A' a := fun a f q => by
  obtain ⟨_, o, ho, _⟩ := h.foot a f
  rcases t.nw a q with q | q
  · exact n a f q
  · rw [ho] at q; cases q
theorem keep_same {F : Fp} (e : ∀ a, F a → Z a = none) : Same Z (keepF Z H F) := fun a u q => by
  rw [keepF_out fun g => by rw [e a g] at q; cases q]
  exact q
theorem keep_sub {F : Fp} (s : Sub Z H) : Sub (keepF Z H F) H := fun a u q => by
  by_cases f : F a
  · rw [keepF_in f] at q
    exact .inl q
  · rw [keepF_out f] at q
    exact s a u q
/-- some cells kept for good -/
theorem R.keep {F : Fp} (r : R K Z H ρ σ Fs) (e : ∀ a, F a → Z a = none) (n : ∀ a, F a → ¬ Al Fs a) : R K (keepF Z H F) H ρ σ Fs where
  len := r.len
  sub := keep_sub r.sub
  rep := fun i sd h => by
    obtain ⟨v, h1, h2⟩ := r.rep i sd h
    exact ⟨v, h1, h2.mono (keep_same e) fun a f => ⟨rfl, by rw [keepF_out fun g => n a g ⟨i, f⟩]; exact (h2.foot a f).1⟩⟩
  out := r.out
  one := r.one
theorem Tr.keep {F : Fp} (t : Tr Z H A Z' H' A') (e : ∀ a, F a → Z' a = none) (f : ∀ a, F a → A a ∨ H a = none) : Tr Z H A (keepF Z' H' F) H' A' where
  zz := t.zz.trans (keep_same e)
  hh := t.hh
  nw := t.nw
  zn := fun a o q => by
    by_cases g : F a
    · exact (f a g).elim (fun z => .inr (.inr z)) fun z => .inr (.inl z)
    · rw [keepF_out g] at q
      exact t.zn a o q
/-! ### what an expression is worth -/
structure Res (K : PySem.W.Frag) (Z H : Hp) (A : Fp) (ρ : Ev) (σ : St) (sd : SD) (v : V) (Z' H' : Hp) (Fs : Nat → Fp) (F : Fp) : Prop where
  tr : Tr Z H A Z' H' (Al Fs)
  r : R K Z' H' ρ σ Fs
  rep : RepS K Z' H' sd.1 v sd.2 F
  dis : ∀ a, F a → ¬ Al Fs a
  fr : ∀ a, F a → A a ∨ H a = none
def SE (K : PySem.W.Frag) (t : TE) (f : Ev → Option (SD × Ev)) : Prop := ∀ ρ σ Z H Fs sd ρ', R K Z H ρ σ Fs → f ρ = some (sd, ρ') →
  ∀ Q : VK, (∀ v Z' H' Fs' F, Res K Z H (Al Fs) ρ' σ sd v Z' H' Fs' F → Q v H') → t σ H Q
/-- .. all kept for good -/
def SF (K : PySem.W.Frag) (t : TE) (f : Ev → Option (SD × Ev)) : Prop := ∀ ρ σ Z H Fs sd ρ', R K Z H ρ σ Fs → f ρ = some (sd, ρ') →
  ∀ Q : VK, (∀ v Z' H' Fs', Tr Z H (Al Fs) Z' H' (Al Fs') → R K Z' H' ρ' σ Fs' → Fz K Z' v sd.2 → Q v H') → t σ H Q
def ST (K : PySem.W.Frag) (t : TT) (f : Ev → Option (Bool × Ev)) : Prop := ∀ ρ σ Z H Fs b ρ', R K Z H ρ σ Fs → f ρ = some (b, ρ') →
  ∀ Q : Bool → Hp → Prop, (∀ Z' H' Fs', Tr Z H (Al Fs) Z' H' (Al Fs') → R K Z' H' ρ' σ Fs' → Q b H') → t σ H Q
theorem SE.sf {t : TE} {f : Ev → Option (SD × Ev)} (h : SE K t f) : SF K t f := fun ρ σ Z H Fs sd ρ' r e Q q => h ρ σ Z H Fs sd ρ' r e Q fun v Z' H' Fs' F x => by
  have z : ∀ a, F a → Z' a = none := fun a f => (x.rep.foot a f).1
  exact q v (keepF Z' H' F) H' Fs' (x.tr.keep z x.fr) (x.r.keep z x.dis) (x.rep.fz z fun _ f => f)
/-- a value that owns nothing -/
theorem res_z {v : V} {d : D} (t : Tr Z H A Z' H' (Al Fs)) (r : R K Z' H' ρ σ Fs) (f : Fz K Z' v d) : Res K Z H A ρ σ (.z, d) v Z' H' Fs fun _ => False :=
  ⟨t, r, ⟨f, fun _ h => h⟩, fun _ h => h.elim, fun _ h => h.elim⟩
/-! ### arguments -/
inductive Args (K : PySem.W.Frag) (Z : Hp) (σ : St) : List V → List Ar → Prop
  | nil : Args K Z σ [] []
  | val {v : V} {vs : List V} {d : D} {xs : List Ar} : Fz K Z v d → Args K Z σ vs xs → Args K Z σ (v :: vs) (.inl d :: xs)
  | ref {v : V} {vs : List V} {i : Nat} {xs : List Ar} : σ[i]? = some (some v) → Args K Z σ vs xs → Args K Z σ (v :: vs) (.inr i :: xs)
theorem Args.mono (e : Same Z Z') : ∀ {vs : List V} {xs : List Ar}, Args K Z σ vs xs → Args K Z' σ vs xs
  | _, _, .nil => .nil
  | _, _, .val h r => .val (h.mono e) (Args.mono e r)
  | _, _, .ref h r => .ref h (Args.mono e r)
theorem Args.length : ∀ {vs : List V} {xs : List Ar}, Args K Z σ vs xs → vs.length = xs.length
  | _, _, .nil => rfl
  | _, _, .val _ r => by simp [Args.length r]
  | _, _, .ref _ r => by simp [Args.length r]
def SA (K : PySem.W.Frag) (t : TA) (f : Ev → Option (List Ar × Ev)) : Prop := ∀ ρ σ Z H Fs xs ρ', R K Z H ρ σ Fs → f ρ = some (xs, ρ') →
  ∀ Q : List V → Hp → Prop, (∀ vs Z' H' Fs', Tr Z H (Al Fs) Z' H' (Al Fs') → R K Z' H' ρ' σ Fs' → Args K Z' σ vs xs → Q vs H') → t σ H Q
theorem sa_nil {cf : CF} : SA K tNil (evA cf .nil) := fun ρ σ Z H Fs xs ρ' r e Q q => by
  simp only [evA, Option.some.injEq, Prod.mk.injEq] at e
  obtain ⟨rfl, rfl⟩ := e
  exact q [] Z H Fs Tr.refl r .nil
theorem sa_val {cf : CF} {e : E} {as : As} {te : TE} {ta : TA} (he : SE K te (evE cf e)) (ha : SA K ta (evA cf as)) : SA K (tCons te ta) (evA cf (.val e as)) := fun ρ σ Z H Fs xs ρ' r ev Q q => by
  simp only [evA, Option.bind_eq_some_iff] at ev
  obtain ⟨⟨x, ρ1⟩, h1, ⟨ys, ρ2⟩, h2, h3⟩ := ev
  simp only [Option.some.injEq, Prod.mk.injEq] at h3
  obtain ⟨rfl, rfl⟩ := h3
  refine he.sf ρ σ Z H Fs x ρ1 r h1 _ fun v Z1 H1 Fs1 t1 r1 f1 => ?_
  refine ha ρ1 σ Z1 H1 Fs1 ys ρ2 r1 h2 _ fun vs Z2 H2 Fs2 t2 r2 a2 => ?_
  exact q (v :: vs) Z2 H2 Fs2 (t1.trans t2) r2 (.val (f1.mono t2.zz) a2)
theorem sa_ref {cf : CF} {i : Nat} {as : As} {ta : TA} (ha : SA K ta (evA cf as)) : SA K (tCons (tVar i) ta) (evA cf (.ref i as)) := fun ρ σ Z H Fs xs ρ' r ev Q q => by
  simp only [evA, Option.bind_eq_some_iff] at ev
  obtain ⟨sd, h0, ⟨ys, ρ2⟩, h2, h3⟩ := ev
  simp only [Option.some.injEq, Prod.mk.injEq] at h3
  obtain ⟨rfl, rfl⟩ := h3
  obtain ⟨v, hv, _⟩ := r.rep i sd h0
  refine ⟨v, hv, ?_⟩
  refine ha ρ σ Z H Fs ys ρ2 r h2 _ fun vs Z2 H2 Fs2 t2 r2 a2 => ?_
  exact q (v :: vs) Z2 H2 Fs2 t2 r2 (.ref hv a2)
/-! ### what a primitive sees of its arguments -/
inductive Bw (K : PySem.W.Frag) (Z H : Hp) : V → D → Prop
  | fz {v : V} {d : D} : Fz K Z v d → Bw K Z H v d
  | lst {a : Addr} {vs : List V} {ds : List D} : H a = some (.lst vs) → Fzs K Z vs ds → Bw K Z H (.ref a) (.list ds)
  | dk {a : Addr} {kvs : List (Key × V)} {ds : List (D × D)} : H a = some (.dK kvs) → FzK K Z kvs ds → Bw K Z H (.ref a) (.dict ds)
inductive Bws (K : PySem.W.Frag) (Z H : Hp) : List V → List D → Prop
  | nil : Bws K Z H [] []
  | cons {v : V} {vs : List V} {d : D} {ds : List D} : Bw K Z H v d → Bws K Z H vs ds → Bws K Z H (v :: vs) (d :: ds)
theorem Bw.of {s : S} {v : V} {d : D} {F : Fp} (hs : rd s = true) (h : RepS K Z H s v d F) : Bw K Z H v d := by
  match s, hs, h with
  | .z, _, h => exact .fz h.1
  | .u .z, _, h =>
    rcases h with h | ⟨a, Fc, rfl, z, h⟩
    · exact .fz h.1
    · rcases h with ⟨vs, ds, rfl, hH, hl, ap, ch⟩ | ⟨kvs, ds, rfl, hH, hl, ap, ch⟩
      · exact .lst hH (Fzs.mk hl fun i v d a b => (ch i v d a b).1)
      · exact .dk hH (fzK_mk hl fun i v d a b => (ch i v d a b).1)
theorem sees_ok (r : R K Z H ρ σ Fs) : ∀ {vs : List V} {xs : List Ar} {ds : List D}, Args K Z σ vs xs → sees ρ xs = some ds → Bws K Z H vs ds
  | _, _, _, .nil, e => by
    simp only [sees, Option.some.injEq] at e
    subst e
    exact .nil
  | _, _, _, .val h a, e => by
    simp only [sees, Option.map_eq_some_iff] at e
    obtain ⟨ds, e, rfl⟩ := e
    exact .cons (.fz h) (sees_ok r a e)
  | _, _, _, .ref (i := i) h a, e => by
    simp only [sees, Option.bind_eq_some_iff] at e
    obtain ⟨sd, h1, e⟩ := e
    split at e
    · rename_i hs
      simp only [Option.map_eq_some_iff] at e
      obtain ⟨ds, e, rfl⟩ := e
      obtain ⟨v, hv, q⟩ := r.rep i sd h1
      rw [h] at hv
      obtain rfl := Option.some.inj (Option.some.inj hv)
      exact .cons (Bw.of hs q) (sees_ok r a e)
    · cases e
/-- what a primitive makes: nothing of what was there is touched -/
structure New (K : PySem.W.Frag) (Z H Z' H' : Hp) (sd : SD) (v : V) (F : Fp) : Prop where
  zz : Same Z Z'
  hh : Same H H'
  zn : ∀ a o, Z' a = some o → Z a = some o ∨ H a = none
  fr : ∀ a, F a → H a = none
  sub : Sub Z' H'
  rep : RepS K Z' H' sd.1 v sd.2 F
def PrOk (K : PySem.W.Frag) (r : List V → Hp → VK → Prop) (p : P) : Prop := ∀ vs ds Z H sd, Sub Z H → Bws K Z H vs ds → pr p ds = some sd → ∀ Q : VK, (∀ v Z' H' F, New K Z H Z' H' sd v F → Q v H') → r vs H Q
theorem New.res {sd : SD} {v : V} {F : Fp} (n : New K Z H Z' H' sd v F) (r : R K Z H ρ σ Fs) : Res K Z H (Al Fs) ρ σ sd v Z' H' Fs F where
  tr := ⟨n.zz, fun a o h _ => n.hh a o h, fun a h => .inl h, fun a o h => (n.zn a o h).elim .inl fun z => .inr (.inl z)⟩
  r := ⟨r.len, n.sub, fun i sd h => by
    obtain ⟨v, h1, h2⟩ := r.rep i sd h
    refine ⟨v, h1, h2.mono n.zz fun a f => ?_⟩
    obtain ⟨z, o, ho, _⟩ := h2.foot a f
    refine ⟨(n.hh a o ho).trans ho.symm, ?_⟩
    cases e : Z' a with
    | none => rfl
    | some u =>
      rcases n.zn a u e with q | q
      · rw [z] at q; cases q
      · (rw [ho] at q; cases q), r.out, r.one⟩
  rep := n.rep
  dis := fun a f q => by
    obtain ⟨_, o, ho, _⟩ := r.foot q
    rw [n.fr a f] at ho
    cases ho
  fr := fun a f => .inr (n.fr a f)
theorem se_prim {cf : CF} {p : P} {as : As} {ta : TA} {t : TE} {rr : List V → Hp → VK → Prop} (ha : SA K ta (evA cf as)) (hp : PrOk K rr p) (ht : ∀ σ H Q, ta σ H (fun vs H1 => rr vs H1 Q) → t σ H Q) : SE K t (evE cf (.prim p as)) := fun ρ σ Z H Fs sd ρ' r ev Q q => by
  simp only [evE, Option.bind_eq_some_iff] at ev
  obtain ⟨⟨xs, ρ1⟩, h1, ds, h2, sd1, h3, h4⟩ := ev
  simp only [Option.some.injEq, Prod.mk.injEq] at h4
  obtain ⟨rfl, rfl⟩ := h4
  refine ht σ H Q (ha ρ σ Z H Fs xs ρ1 r h1 _ fun vs Z1 H1 Fs1 t1 r1 a1 => ?_)
  refine hp vs ds Z1 H1 sd1 r1.sub (sees_ok r1 a1 h2) h3 Q fun v Z2 H2 F n => ?_
  have x := n.res r1
  exact q v Z2 H2 Fs1 F ⟨t1.trans x.tr, x.r, x.rep, x.dis, fun a f => by
    rcases x.fr a f with z | z
    · exact t1.nw a z
    · by_cases n : Al Fs a
      · exact .inl n
      · refine .inr ?_
        cases e : H a with
        | none => rfl
        | some o => rw [t1.hh a o e n] at z; cases z⟩
/-! ### names, constants, and, or, not, if else -/
theorem getO_set {i j : Nat} {x : Option SD} : getO (ρ.set i x) j = if i = j then (if i < ρ.length then x else none) else getO ρ j := by
  unfold getO
  rw [List.getElem?_set]
  by_cases h : i = j
  · subst h
    simp only [if_pos]
    by_cases l : i < ρ.length
    · simp [l]
    · simp [l]
  · simp [h]
theorem getO_lt {i : Nat} {sd : SD} (h : getO ρ i = some sd) : i < ρ.length := by
  unfold getO at h
  cases e : ρ[i]? with
  | none => rw [e] at h; cases h
  | some x => exact (List.getElem?_eq_some_iff.mp e).1
def off (i : Nat) (Fs : Nat → Fp) : Nat → Fp := fun j => if j = i then fun _ => False else Fs j
theorem off_of {i j : Nat} {a : Addr} (h : off i Fs j a) : j ≠ i ∧ Fs j a := by
  unfold off at h
  by_cases hj : j = i
  · rw [if_pos hj] at h; exact h.elim
  · rw [if_neg hj] at h; exact ⟨hj, h⟩
theorem off_ne {i j : Nat} (h : j ≠ i) : off i Fs j = Fs j := by
  unfold off
  rw [if_neg h]
theorem off_eq {i : Nat} : off i Fs i = fun _ => False := by
  unfold off
  rw [if_pos rfl]
/-- a slot's word set anew: it owns nothing -/
theorem R.setz {i : Nat} {x : Option SD} (r : R K Z H ρ σ Fs) (h : ∀ sd, x = some sd → ∃ v, σ[i]? = some (some v) ∧ RepS K Z H sd.1 v sd.2 fun _ => False) : R K Z H (ρ.set i x) σ (off i Fs) where
  len := by simp [r.len]
  sub := r.sub
  rep := fun j sd e => by
    rw [getO_set] at e
    by_cases hj : i = j
    · subst hj
      rw [if_pos rfl] at e
      split at e
      · obtain ⟨v, h1, h2⟩ := h sd e
        exact ⟨v, h1, by rw [off_eq]; exact h2⟩
      · cases e
    · rw [if_neg hj] at e
      rw [off_ne (Ne.symm hj)]
      exact r.rep j sd e
  out := fun j e a f => by
    rw [getO_set] at e
    obtain ⟨hj, f⟩ := off_of f
    rw [if_neg (Ne.symm hj)] at e
    exact r.out j e a f
  one := fun j l a f g => r.one j l a (off_of f).2 (off_of g).2
theorem al_setz {i : Nat} : ∀ a, Al (off i Fs) a → Al Fs a := fun a ⟨j, f⟩ => ⟨j, (off_of f).2⟩
theorem se_var {cf : CF} {i : Nat} : SE K (tVar i) (evE cf (.var i)) := fun ρ σ Z H Fs sd ρ' r ev Q q => by
  simp only [evE, Option.bind_eq_some_iff] at ev
  obtain ⟨sd0, h0, h1⟩ := ev
  obtain ⟨v, hv, rp⟩ := r.rep i sd0 h0
  refine ⟨v, hv, ?_⟩
  obtain ⟨s, d⟩ := sd0
  cases s with
  | z =>
    simp only [Option.some.injEq, Prod.mk.injEq] at h1
    obtain ⟨rfl, rfl⟩ := h1
    exact q v Z H Fs _ (res_z Tr.refl r rp.1)
  | u s =>
    simp only [Option.some.injEq, Prod.mk.injEq] at h1
    obtain ⟨rfl, rfl⟩ := h1
    have z : ∀ a, Fs i a → Z a = none := fun a f => (rp.foot a f).1
    have f0 : Fz K (keepF Z H (Fs i)) v d := rp.fz z fun _ f => f
    -- first the slot lets go, then its cells are kept
    have r1 : R K Z H (ρ.set i none) σ (off i Fs) := r.setz fun sd h => by cases h
    have r2 := r1.keep (F := Fs i) z fun a f ⟨j, g⟩ => (off_of g).1 (r.one j i a (off_of g).2 f)
    have r3 := r2.setz (i := i) (x := some (.z, d)) fun sd h => by
      cases h
      exact ⟨v, hv, f0, fun _ h => h⟩
    have e1 : (ρ.set i none).set i (some (S.z, d)) = ρ.set i (some (.z, d)) := List.set_set _
    rw [e1] at r3
    refine q v _ H _ _ (res_z ?_ r3 f0)
    exact (Tr.less (Tr.keep (Tr.refl (A := Al Fs)) z fun a f => .inl ⟨i, f⟩) fun a h => al_setz a (al_setz a h))
theorem se_mv {cf : CF} {i : Nat} : SE K (tVar i) (evE cf (.mv i)) := fun ρ σ Z H Fs sd ρ' r ev Q q => by
  simp only [evE, Option.bind_eq_some_iff] at ev
  obtain ⟨sd0, h0, h1⟩ := ev
  obtain ⟨v, hv, rp⟩ := r.rep i sd0 h0
  simp only [Option.some.injEq, Prod.mk.injEq] at h1
  obtain ⟨rfl, rfl⟩ := h1
  refine ⟨v, hv, ?_⟩
  refine q v Z H (off i Fs) (Fs i) ⟨Tr.less Tr.refl al_setz, r.setz (fun sd h => by cases h), rp, fun a f ⟨j, g⟩ => (off_of g).1 (r.one j i a (off_of g).2 f), fun a f => .inl ⟨i, f⟩⟩
theorem se_con {cf : CF} {v : V} {d : D} (h : ∀ Z, Fz K Z v d) : SE K (tC v) (evE cf (.con d)) := fun ρ σ Z H Fs sd ρ' r ev Q q => by
  simp only [evE, Option.some.injEq, Prod.mk.injEq] at ev
  obtain ⟨rfl, rfl⟩ := ev
  exact q v Z H Fs _ (res_z Tr.refl r (h Z))
theorem se_glob {cf : CF} {x : Str} {v : V} {d : D} (h : ∀ Z, Fz K Z v d) : SE K (tC v) (evE cf (.glob x d)) := fun ρ σ Z H Fs sd ρ' r ev Q q => by
  simp only [evE, Option.some.injEq, Prod.mk.injEq] at ev
  obtain ⟨rfl, rfl⟩ := ev
  exact q v Z H Fs _ (res_z Tr.refl r (h Z))
theorem Fz.bl_of {v : V} {b : Bool} (h : Fz K Z v (.bool b)) : v = .bl b := by cases h; rfl
theorem Res.trans {A0 : Fp} {Z0 H0 : Hp} {sd : SD} {v : V} {F : Fp} (t : Tr Z0 H0 A0 Z H A) (x : Res K Z H A ρ σ sd v Z' H' Fs F) : Res K Z0 H0 A0 ρ σ sd v Z' H' Fs F :=
  ⟨t.trans x.tr, x.r, x.rep, x.dis, fun a f => by
    rcases x.fr a f with z | z
    · exact t.nw a z
    · by_cases n : A0 a
      · exact .inl n
      · refine .inr ?_
        cases e : H0 a with
        | none => rfl
        | some o => rw [t.hh a o e n] at z; cases z⟩
theorem se_and {cf : CF} {a b : E} {ta tb : TE} (ha : SE K ta (evE cf a)) (hb : SE K tb (evE cf b)) : SE K (tAndV ta tb) (evE cf (.and a b)) := fun ρ σ Z H Fs sd ρ' r ev Q q => by
  simp only [evE, Option.bind_eq_some_iff] at ev
  obtain ⟨⟨⟨s, x⟩, ρ1⟩, h1, h2⟩ := ev
  refine ha.sf ρ σ Z H Fs _ ρ1 r h1 _ fun v Z1 H1 Fs1 t1 r1 f1 => ?_
  split at h2
  · rename_i e
    have e : x = .bool true := e
    subst e
    refine ⟨true, f1.bl_of, ?_⟩
    rw [if_pos rfl]
    exact hb ρ1 σ Z1 H1 Fs1 sd ρ' r1 h2 Q fun v Z2 H2 Fs2 F x => q v Z2 H2 Fs2 F (x.trans t1)
  · rename_i e
    have e : x = .bool false := e
    subst e
    simp only [Option.some.injEq, Prod.mk.injEq] at h2
    obtain ⟨rfl, rfl⟩ := h2
    refine ⟨false, f1.bl_of, ?_⟩
    rw [if_neg (by decide)]
    exact q _ Z1 H1 Fs1 _ (res_z t1 r1 (.bl false))
  · cases h2
theorem se_or {cf : CF} {a b : E} {ta tb : TE} (ha : SE K ta (evE cf a)) (hb : SE K tb (evE cf b)) : SE K (tOrV ta tb) (evE cf (.or a b)) := fun ρ σ Z H Fs sd ρ' r ev Q q => by
  simp only [evE, Option.bind_eq_some_iff] at ev
  obtain ⟨⟨⟨s, x⟩, ρ1⟩, h1, h2⟩ := ev
  refine ha.sf ρ σ Z H Fs _ ρ1 r h1 _ fun v Z1 H1 Fs1 t1 r1 f1 => ?_
  split at h2
  · rename_i e
    have e : x = .bool true := e
    subst e
    simp only [Option.some.injEq, Prod.mk.injEq] at h2
    obtain ⟨rfl, rfl⟩ := h2
    refine ⟨true, f1.bl_of, ?_⟩
    rw [if_pos rfl]
    exact q _ Z1 H1 Fs1 _ (res_z t1 r1 (.bl true))
  · rename_i e
    have e : x = .bool false := e
    subst e
    refine ⟨false, f1.bl_of, ?_⟩
    rw [if_neg (by decide)]
    exact hb ρ1 σ Z1 H1 Fs1 sd ρ' r1 h2 Q fun v Z2 H2 Fs2 F x => q v Z2 H2 Fs2 F (x.trans t1)
  · cases h2
theorem se_not {cf : CF} {a : E} {ta : TE} (ha : SE K ta (evE cf a)) : SE K (tNotV ta) (evE cf (.not a)) := fun ρ σ Z H Fs sd ρ' r ev Q q => by
  simp only [evE, Option.bind_eq_some_iff] at ev
  obtain ⟨⟨⟨s, x⟩, ρ1⟩, h1, h2⟩ := ev
  refine ha.sf ρ σ Z H Fs _ ρ1 r h1 _ fun v Z1 H1 Fs1 t1 r1 f1 => ?_
  split at h2
  · rename_i c e
    have e : x = .bool c := e
    subst e
    simp only [Option.some.injEq, Prod.mk.injEq] at h2
    obtain ⟨rfl, rfl⟩ := h2
    exact ⟨c, f1.bl_of, q _ Z1 H1 Fs1 _ (res_z t1 r1 (.bl _))⟩
  · cases h2
theorem se_ife {cf : CF} {t : T} {a b : E} {tt : TT} {ta tb : TE} (ht : ST K tt (evT cf t)) (ha : SE K ta (evE cf a)) (hb : SE K tb (evE cf b)) : SE K (tIf tt ta tb) (evE cf (.ife t a b)) := fun ρ σ Z H Fs sd ρ' r ev Q q => by
  simp only [evE, Option.bind_eq_some_iff] at ev
  obtain ⟨⟨c, ρ1⟩, h1, h2⟩ := ev
  refine ht ρ σ Z H Fs c ρ1 r h1 _ fun Z1 H1 Fs1 t1 r1 => ?_
  cases c with
  | true => exact ha ρ1 σ Z1 H1 Fs1 sd ρ' r1 h2 Q fun v Z2 H2 Fs2 F x => q v Z2 H2 Fs2 F (x.trans t1)
  | false => exact hb ρ1 σ Z1 H1 Fs1 sd ρ' r1 h2 Q fun v Z2 H2 Fs2 F x => q v Z2 H2 Fs2 F (x.trans t1)
/-! ### tests -/
theorem st_tt {cf : CF} : ST K (fun _ H Q => Q true H) (evT cf .tt) := fun ρ σ Z H Fs b ρ' r ev Q q => by
  simp only [evT, Option.some.injEq, Prod.mk.injEq] at ev
  obtain ⟨rfl, rfl⟩ := ev
  exact q Z H Fs Tr.refl r
theorem st_val {cf : CF} {e : E} {te : TE} {t : TT} (he : SE K te (evE cf e)) (ht : ∀ σ H Q, te σ H (fun x H1 => ∃ c, x = .bl c ∧ Q c H1) → t σ H Q) : ST K t (evT cf (.val e)) := fun ρ σ Z H Fs b ρ' r ev Q q => by
  simp only [evT, Option.bind_eq_some_iff] at ev
  obtain ⟨⟨⟨s, x⟩, ρ1⟩, h1, h2⟩ := ev
  refine ht σ H Q (he.sf ρ σ Z H Fs _ ρ1 r h1 _ fun v Z1 H1 Fs1 t1 r1 f1 => ?_)
  split at h2
  · rename_i c e
    have e : x = .bool c := e
    subst e
    simp only [Option.some.injEq, Prod.mk.injEq] at h2
    obtain ⟨rfl, rfl⟩ := h2
    exact ⟨c, f1.bl_of, q Z1 H1 Fs1 t1 r1⟩
  · cases h2
theorem Fz.list_of {v : V} {ds : List D} (h : Fz K Z v (.list ds)) : ∃ a vs, v = .ref a ∧ ZL K Z a vs ∧ Fzs K Z vs ds := by
  cases h with
  | lst h r => exact ⟨_, _, rfl, h, r⟩
theorem Fz.tup_of {v : V} {ds : List D} (h : Fz K Z v (.tuple ds)) : ∃ a vs, v = .ref a ∧ ZT K Z a vs ∧ Fzs K Z vs ds := by
  cases h with
  | tup h r => exact ⟨_, _, rfl, h, r⟩
theorem Fz.int_of {v : V} {i : Int} (h : Fz K Z v (.int i)) : v = .int i := by cases h; rfl
theorem Fz.str_of {v : V} {i : Str} (h : Fz K Z v (.str i)) : v = .str i := by cases h; rfl
theorem Fz.non_of {v : V} (h : Fz K Z v .none) : v = .non := by cases h; rfl
theorem emp_of {vs : List V} {ds : List D} (h : Fzs K Z vs ds) : vs.isEmpty = ds.isEmpty := by cases h <;> rfl
theorem st_tru {cf : CF} {e : E} {te : TE} (he : SE K te (evE cf e)) {t : TT} (ht : ∀ σ H Q, te σ H (fun x H1 => ∃ c, TruV K x H1 c ∧ Q c H1) → t σ H Q) : ST K t (evT cf (.tru e)) := fun ρ σ Z H Fs b ρ' r ev Q q => by
  simp only [evT, Option.bind_eq_some_iff] at ev
  obtain ⟨⟨⟨s, x⟩, ρ1⟩, h1, h2⟩ := ev
  refine ht σ H Q (he.sf ρ σ Z H Fs _ ρ1 r h1 _ fun v Z1 H1 Fs1 t1 r1 f1 => ?_)
  have f1 : Fz K Z1 v x := f1
  split at h2
  · rename_i e
    have e : x = .none := e
    subst e
    simp only [Option.some.injEq, Prod.mk.injEq] at h2
    obtain ⟨rfl, rfl⟩ := h2
    rw [f1.non_of]
    exact ⟨_, rfl, q Z1 H1 Fs1 t1 r1⟩
  · rename_i c e
    have e : x = .bool c := e
    subst e
    simp only [Option.some.injEq, Prod.mk.injEq] at h2
    obtain ⟨rfl, rfl⟩ := h2
    rw [f1.bl_of]
    exact ⟨_, rfl, q Z1 H1 Fs1 t1 r1⟩
  · rename_i c e
    have e : x = .int c := e
    subst e
    simp only [Option.some.injEq, Prod.mk.injEq] at h2
    obtain ⟨rfl, rfl⟩ := h2
    rw [f1.int_of]
    exact ⟨_, rfl, q Z1 H1 Fs1 t1 r1⟩
  · rename_i c e
    have e : x = .list c := e
    subst e
    simp only [Option.some.injEq, Prod.mk.injEq] at h2
    obtain ⟨rfl, rfl⟩ := h2
    obtain ⟨a, vs, rfl, z, fs⟩ := f1.list_of
    exact ⟨_, .inl ⟨vs, z.sq r1.sub, by rw [emp_of fs]⟩, q Z1 H1 Fs1 t1 r1⟩
  · rename_i c e
    have e : x = .tuple c := e
    subst e
    simp only [Option.some.injEq, Prod.mk.injEq] at h2
    obtain ⟨rfl, rfl⟩ := h2
    obtain ⟨a, vs, rfl, z, fs⟩ := f1.tup_of
    exact ⟨_, .inr (.inl ⟨vs, z.sq r1.sub, by rw [emp_of fs]⟩), q Z1 H1 Fs1 t1 r1⟩
  · cases h2
theorem st_and {cf : CF} {a b : T} {ta tb : TT} (ha : ST K ta (evT cf a)) (hb : ST K tb (evT cf b)) : ST K (tAnd ta tb) (evT cf (.and a b)) := fun ρ σ Z H Fs c ρ' r ev Q q => by
  simp only [evT, Option.bind_eq_some_iff] at ev
  obtain ⟨⟨x, ρ1⟩, h1, h2⟩ := ev
  refine ha ρ σ Z H Fs x ρ1 r h1 _ fun Z1 H1 Fs1 t1 r1 => ?_
  cases x with
  | true => exact hb ρ1 σ Z1 H1 Fs1 c ρ' r1 h2 Q fun Z2 H2 Fs2 t2 r2 => q Z2 H2 Fs2 (t1.trans t2) r2
  | false =>
    simp only [Option.some.injEq, Prod.mk.injEq] at h2
    obtain ⟨rfl, rfl⟩ := h2
    exact q Z1 H1 Fs1 t1 r1
theorem st_or {cf : CF} {a b : T} {ta tb : TT} (ha : ST K ta (evT cf a)) (hb : ST K tb (evT cf b)) : ST K (tOr ta tb) (evT cf (.or a b)) := fun ρ σ Z H Fs c ρ' r ev Q q => by
  simp only [evT, Option.bind_eq_some_iff] at ev
  obtain ⟨⟨x, ρ1⟩, h1, h2⟩ := ev
  refine ha ρ σ Z H Fs x ρ1 r h1 _ fun Z1 H1 Fs1 t1 r1 => ?_
  cases x with
  | false => exact hb ρ1 σ Z1 H1 Fs1 c ρ' r1 h2 Q fun Z2 H2 Fs2 t2 r2 => q Z2 H2 Fs2 (t1.trans t2) r2
  | true =>
    simp only [Option.some.injEq, Prod.mk.injEq] at h2
    obtain ⟨rfl, rfl⟩ := h2
    exact q Z1 H1 Fs1 t1 r1
theorem st_not {cf : CF} {a : T} {ta : TT} (ha : ST K ta (evT cf a)) : ST K (tNot ta) (evT cf (.not a)) := fun ρ σ Z H Fs c ρ' r ev Q q => by
  simp only [evT, Option.bind_eq_some_iff] at ev
  obtain ⟨⟨x, ρ1⟩, h1, h2⟩ := ev
  simp only [Option.some.injEq, Prod.mk.injEq] at h2
  obtain ⟨rfl, rfl⟩ := h2
  exact ha ρ σ Z H Fs x ρ1 r h1 _ fun Z1 H1 Fs1 t1 r1 => q Z1 H1 Fs1 t1 r1
end
end Mi
end
section
namespace Mi
open PySem PySem.Spec PyProof.Rows L2
section
variable {K : PySem.W.Frag} {Z H : Hp}
theorem bws1 {vs : List V} {a : D} (h : Bws K Z H vs [a]) : ∃ v, vs = [v] ∧ Bw K Z H v a := by
  cases h with
  | cons h r => cases r; exact ⟨_, rfl, h⟩
theorem bws0 {vs : List V} (h : Bws K Z H vs []) : vs = [] := by cases h; rfl
theorem bws2 {vs : List V} {a b : D} (h : Bws K Z H vs [a, b]) : ∃ v w, vs = [v, w] ∧ Bw K Z H v a ∧ Bw K Z H w b := by
  cases h with
  | cons h r =>
    obtain ⟨w, rfl, h2⟩ := bws1 r
    exact ⟨_, _, rfl, h, h2⟩
theorem bws3 {vs : List V} {a b c : D} (h : Bws K Z H vs [a, b, c]) : ∃ v w y, vs = [v, w, y] ∧ Bw K Z H v a ∧ Bw K Z H w b ∧ Bw K Z H y c := by
  cases h with
  | cons h r =>
    obtain ⟨w, y, rfl, h2, h3⟩ := bws2 r
    exact ⟨_, _, _, rfl, h, h2, h3⟩
theorem Bw.int {v : V} {i : Int} (h : Bw K Z H v (.int i)) : v = .int i := by cases h with | fz h => exact h.int_of
theorem Bw.str {v : V} {i : Str} (h : Bw K Z H v (.str i)) : v = .str i := by cases h with | fz h => exact h.str_of
theorem Bw.bl {v : V} {i : Bool} (h : Bw K Z H v (.bool i)) : v = .bl i := by cases h with | fz h => exact h.bl_of
theorem Bw.non {v : V} (h : Bw K Z H v .none) : v = .non := by cases h with | fz h => exact h.non_of
theorem Bw.list {v : V} {ds : List D} (s : Sub Z H) (h : Bw K Z H v (.list ds)) : ∃ a xs, v = .ref a ∧ SqL K H a xs ∧ Fzs K Z xs ds := by
  cases h with
  | fz h =>
    obtain ⟨a, vs, e, z, f⟩ := h.list_of
    exact ⟨a, vs, e, z.sq s, f⟩
  | lst h f => exact ⟨_, _, rfl, SqL.of h, f⟩
theorem Bw.tup {v : V} {ds : List D} (s : Sub Z H) (h : Bw K Z H v (.tuple ds)) : ∃ a xs, v = .ref a ∧ SqT K H a xs ∧ Fzs K Z xs ds := by
  cases h with
  | fz h =>
    obtain ⟨a, vs, e, z, f⟩ := h.tup_of
    exact ⟨a, vs, e, z.sq s, f⟩
theorem Bw.dict {v : V} {ds : List (D × D)} (s : Sub Z H) (h : Bw K Z H v (.dict ds)) (nr : isRg ds = false) : ∃ a kvs, v = .ref a ∧ Rd H a (.dK kvs) ∧ FzK K Z kvs ds := by
  cases h with
  | fz h =>
    cases h with
    | dk z f => exact ⟨_, _, rfl, s _ _ z, f⟩
    | rg z => cases nr
  | dk h f => exact ⟨_, _, rfl, .inl h, f⟩
theorem Bw.dp {v : V} {d : D} (s : Sub Z H) (h : Bw K Z H v d) (f : flatD d = true) : Dp K H v d := by
  cases h with
  | fz h => exact h.dp s f
  | lst h r => exact .lst (SqL.of h) (r.dp s (by unfold flatD at f; exact f))
  | dk h r => simp [flatD] at f
theorem new_z {v : V} {d : D} (s : Sub Z H) (f : Fz K Z v d) : New K Z H Z H (.z, d) v fun _ => False :=
  ⟨Same.refl _, Same.refl _, fun _ _ h => .inl h, fun _ h => h.elim, s, f, fun _ h => h⟩
theorem sub_none (s : Sub Z H) {p : Addr} (h : H p = none) : Z p = none := by
  cases e : Z p with
  | none => rfl
  | some o =>
    rcases s p o e with q | ⟨_, q⟩
    · rw [h] at q; cases q
    · rw [h] at q; cases q
theorem same_new {p : Addr} {o : HO} (h : H p = none) : Same H (upd H p o) := fun a u e => by
  rw [upd_ne (ne_of_none e h)]
  exact e
theorem sub_new {p : Addr} {o : HO} (s : Sub Z H) (h : H p = none) : Sub Z (upd H p o) := fun a u e => by
  rcases s a u e with q | ⟨w, q⟩
  · exact .inl (same_new h _ _ q)
  · exact .inr ⟨w, same_new h _ _ q⟩
theorem sub_both {p : Addr} {o : HO} (s : Sub Z H) (h : H p = none) : Sub (upd Z p o) (upd H p o) := fun a u e => by
  by_cases ha : a = p
  · subst ha
    rw [upd_same] at e
    exact .inl (by rw [upd_same]; exact e)
  · rw [upd_ne ha] at e
    rcases s a u e with q | ⟨w, q⟩
    · exact .inl (by rw [upd_ne ha]; exact q)
    · exact .inr ⟨w, by rw [upd_ne ha]; exact q⟩
theorem new_lst {p : Addr} {vs : List V} {ds : List D} (s : Sub Z H) (h : H p = none) (f : Fzs K Z vs ds) : New K Z H Z (upd H p (.lst vs)) (.u .z, .list ds) (.ref p) fun a => a = p where
  zz := Same.refl _
  hh := same_new h
  zn := fun _ _ q => .inl q
  fr := fun a e => by rw [e]; exact h
  sub := sub_new s h
  rep := .inr ⟨p, fun _ _ => False, rfl, sub_none s h, .inl ⟨vs, ds, rfl, upd_same, f.length, ⟨fun _ _ h => h.elim, fun _ h => h, fun _ _ _ h => h.elim, fun b => ⟨.inl, fun q => q.elim id fun ⟨_, z⟩ => z.elim⟩⟩, fun i v d a b => ⟨f.get a b, fun _ h => h⟩⟩⟩
theorem fzK_len : ∀ {vs : List (Key × V)} {ds : List (D × D)}, FzK K Z vs ds → vs.map (fun p => kD p.1) = ds.map (·.1)
  | _, _, .nil => rfl
  | _, _, .cons _ r => by simp [fzK_len r]
theorem fzK_get : ∀ {vs : List (Key × V)} {ds : List (D × D)} {i : Nat} {p : Key × V} {q : D × D}, FzK K Z vs ds → vs[i]? = some p → ds[i]? = some q → Fz K Z p.2 q.2
  | _, _, _, _, _, .nil, h, _ => by simp at h
  | _, _, 0, _, _, .cons h _, e1, e2 => by
    simp at e1 e2
    subst e1 e2
    exact h
  | _, _, i + 1, _, _, .cons _ r, e1, e2 => fzK_get (i := i) r (by simpa using e1) (by simpa using e2)
theorem rep_dk {p : Addr} {kvs : List (Key × V)} {ds : List (D × D)} (z : Z p = none) (h : H p = some (.dK kvs)) (f : FzK K Z kvs ds) : RepS K Z H (.u .z) (.ref p) (.dict ds) fun a => a = p :=
  .inr ⟨p, fun _ _ => False, rfl, z, .inr ⟨kvs, ds, rfl, h, fzK_len f, ⟨fun _ _ h => h.elim, fun _ h => h, fun _ _ _ h => h.elim, fun b => ⟨.inl, fun q => q.elim id fun ⟨_, z⟩ => z.elim⟩⟩, fun i v d a b => ⟨fzK_get f a b, fun _ h => h⟩⟩⟩
theorem rep_lst {p : Addr} {vs : List V} {ds : List D} (z : Z p = none) (h : H p = some (.lst vs)) (f : Fzs K Z vs ds) : RepS K Z H (.u .z) (.ref p) (.list ds) fun a => a = p :=
  .inr ⟨p, fun _ _ => False, rfl, z, .inl ⟨vs, ds, rfl, h, f.length, ⟨fun _ _ h => h.elim, fun _ h => h, fun _ _ _ h => h.elim, fun b => ⟨.inl, fun q => q.elim id fun ⟨_, z⟩ => z.elim⟩⟩, fun i v d a b => ⟨f.get a b, fun _ h => h⟩⟩⟩
theorem new_dk {p : Addr} {vs : List (Key × V)} {ds : List (D × D)} (s : Sub Z H) (h : H p = none) (f : FzK K Z vs ds) : New K Z H Z (upd H p (.dK vs)) (.u .z, .dict ds) (.ref p) fun a => a = p where
  zz := Same.refl _
  hh := same_new h
  zn := fun _ _ q => .inl q
  fr := fun a e => by rw [e]; exact h
  sub := sub_new s h
  rep := rep_dk (sub_none s h) upd_same f
theorem new_tup {p : Addr} {vs : List V} {ds : List D} (s : Sub Z H) (h : H p = none) (f : Fzs K Z vs ds) : New K Z H (upd Z p (.tup vs)) (upd H p (.tup vs)) (.z, .tuple ds) (.ref p) fun _ => False where
  zz := same_new (sub_none s h)
  hh := same_new h
  zn := fun a o q => by
    by_cases ha : a = p
    · rw [ha]; exact .inr h
    · rw [upd_ne ha] at q; exact .inl q
  fr := fun _ h => h.elim
  sub := sub_both s h
  rep := ⟨.tup (.inl upd_same) (f.mono (same_new (sub_none s h))), fun _ h => h⟩
end
/-! ### the primitives' readings -/
def r2 (r : R2) : List V → Hp → VK → Prop
  | [x, y], H, Q => r x y H Q
  | _, _, _ => False
def r1 (r : V → Hp → VK → Prop) : List V → Hp → VK → Prop
  | [x], H, Q => r x H Q
  | _, _, _ => False
def orR (r r' : R2) : R2 := fun x y H Q => r x y H Q ∨ r' x y H Q
def orC (r r' : List V → Hp → VK → Prop) : List V → Hp → VK → Prop := fun xs H Q => r xs H Q ∨ r' xs H Q
section
variable {X : Cx}
def rCatL (K : PySem.W.Frag) : R2 := fun x y H Q => ∃ a b xs ys, x = .ref a ∧ y = .ref b ∧ SqL K H a xs ∧ SqL K H b ys ∧ xs.length + ys.length ≤ sizeLine ∧ ∀ p, H p = none → Q (.ref p) (upd H p (.lst (xs ++ ys)))
theorem op_catL : OpR X (binaryOp .Add) (rCatL X.K) := by
  intro pins s σ H x y v u Q I rx ry h
  obtain ⟨a, b, xs, ys, rfl, rfl, ha, hb, hz, q⟩ := h
  cases rx; cases ry
  obtain ⟨its, r1, ⟨⟨c1, d1, t1, s1⟩, n1, g1, hc1, hd1, ht1⟩, _⟩ := I.list ha
  obtain ⟨its2, r2, ⟨⟨c2, d2, t2, s2⟩, n2, g2, hc2, hd2, ht2⟩, _⟩ := I.list hb
  simp only at hc1 hd1 ht1 hc2 hd2 ht2
  subst hc1 hd1 ht1 hc2 hd2 ht2
  have l1 := r1.length
  have l2 := r2.length
  have e : its.toArray ++ its2.toArray = (its ++ its2).toArray := by simp
  refine concat_meets ⟨_, g1, rfl⟩ ⟨_, g2, rfl⟩ noFill_list_add seq_list_add PySem.F.slot_list_add PySem.F.entry_list_add (PySem.F.args_list_add_2 _ _)
    (list_addW a b its.toArray its2.toArray n1 n2 none none s1 s2 (by rw [List.size_toArray, List.size_toArray]; omega)) ⟨g1, g2, ?_⟩
  rw [e]
  exact ⟨.ref _, _, I.lnew (t' := s.toks) (r1.append r2) (by rw [List.length_append]; omega), rfl, q _ I.fresh⟩
end
end Mi
end
section
namespace Mi
open PySem PySem.Spec PyProof.Rows L2
section
variable {K : PySem.W.Frag}
abbrev rAddI : R2 := rI0 fun i j => .int (i + j)
abbrev rAddS : R2 := fun x y H Q => ∃ i j, x = .str i ∧ y = .str j ∧ i.length + j.length ≤ sizeLine ∧ Q (.str (i ++ j)) H
abbrev rADD (K : PySem.W.Frag) : R2 := orR rAddI (orR rAddS (orR (rCatL K) (rCatT K)))
theorem op_ADD {X : Cx} : OpR X (binaryOp .Add) (rADD X.K) := op_add.or (op_add_str.or (op_catL.or op_catT))
theorem ok_add : PrOk K (r2 (rADD K)) .add := fun vs ds Z H sd s b e Q q => by
  have e : prAdd ds = some sd := e
  unfold prAdd at e
  split at e
  · obtain ⟨v, w, rfl, hv, hw⟩ := bws2 b
    cases e
    exact .inl ⟨_, _, hv.int, hw.int, q _ _ _ _ (new_z s (.int _))⟩
  · obtain ⟨v, w, rfl, hv, hw⟩ := bws2 b
    split at e
    · rename_i hz
      cases e
      exact .inr (.inl ⟨_, _, hv.str, hw.str, hz, q _ _ _ _ (new_z s (.str _))⟩)
    · cases e
  · obtain ⟨v, w, rfl, hv, hw⟩ := bws2 b
    split at e
    · rename_i hz
      cases e
      obtain ⟨a, xs, rfl, ha, fa⟩ := hv.list s
      obtain ⟨c, ys, rfl, hc, fc⟩ := hw.list s
      exact .inr (.inr (.inl ⟨_, _, _, _, rfl, rfl, ha, hc, by rw [fa.length, fc.length]; exact hz, fun p hp => q _ _ _ _ (new_lst s hp (fa.app fc))⟩))
    · cases e
  · rename_i d0 r0 y0 _
    obtain ⟨v, w, rfl, hv, hw⟩ := bws2 b
    split at e
    · rename_i hz
      cases e
      obtain ⟨a, xs, rfl, ha, fa⟩ := hv.tup s
      obtain ⟨c, ys, rfl, hc, fc⟩ := hw.tup s
      have hne : xs ≠ [] := fun z => by
        subst z
        cases fa
      refine .inr (.inr (.inr ⟨_, _, _, _, rfl, rfl, ha, hc, hne, by rw [fa.length, fc.length]; exact hz, fun z => ?_, fun _ p hp => q _ _ _ _ (new_tup s hp (fa.app fc))⟩))
      subst z
      cases fc
      have e0 : PyData.tuple (d0 :: r0 ++ []) = .tuple (d0 :: r0) := by rw [List.append_nil]
      refine q _ _ _ _ (new_z s ?_)
      rw [e0]
      cases hv with
      | fz h => exact h
    · cases e
  · cases e
abbrev rSubB : R2 := fun x y H Q => ∃ p q, x = .bl p ∧ y = .bl q ∧ Q (.int ((if p = true then (1 : Int) else 0) - (if q = true then (1 : Int) else 0))) H
theorem op_subB {X : Cx} : OpR X (binaryOp .Sub) rSubB := by
  intro pins s σ H x y v u Q I rx ry h
  obtain ⟨p, q, rfl, rfl, h⟩ := h
  cases rx
  cases ry
  exact PyProof.Rows.sub_bool ⟨.int ((if p = true then (1 : Int) else 0) - (if q = true then (1 : Int) else 0)), H, I.tok _, ⟨_, rfl⟩, h⟩
abbrev rSUB : R2 := orR (rI0 fun i j => .int (i - j)) rSubB
theorem op_SUB {X : Cx} : OpR X (binaryOp .Sub) rSUB := op_sub.or op_subB
theorem ok_sub : PrOk K (r2 rSUB) .sub := fun vs ds Z H sd s b e Q q => by
  have e : prSub ds = some sd := e
  unfold prSub at e
  split at e
  · obtain ⟨v, w, rfl, hv, hw⟩ := bws2 b
    cases e
    exact .inl ⟨_, _, hv.int, hw.int, q _ _ _ _ (new_z s (.int _))⟩
  · obtain ⟨v, w, rfl, hv, hw⟩ := bws2 b
    cases e
    exact .inr ⟨_, _, hv.bl, hw.bl, q _ _ _ _ (new_z s (.int _))⟩
  · cases e
abbrev rMUL : R2 := orR (rI CMulW fun i j => .int (i * j)) (rI CMul fun i j => .int (i * j))
theorem op_MUL {X : Cx} : OpR X (binaryOp .Mult) rMUL := op_mulW.or op_mul
theorem ok_mul : PrOk K (r2 rMUL) .mul := fun vs ds Z H sd s b e Q q => by
  have e : prMul ds = some sd := e
  unfold prMul at e
  split at e
  · obtain ⟨v, w, rfl, hv, hw⟩ := bws2 b
    split at e
    · rename_i i j hm
      cases e
      unfold mulOk at hm
      simp only [Bool.or_eq_true, Bool.and_eq_true, decide_eq_true_eq] at hm
      rcases hm with (hm | hm) | hm
      · exact .inl ⟨_, _, hv.int, hw.int, hm, q _ _ _ _ (new_z s (.int _))⟩
      · exact .inr ⟨_, _, hv.int, hw.int, .inl hm, q _ _ _ _ (new_z s (.int _))⟩
      · exact .inr ⟨_, _, hv.int, hw.int, .inr hm, q _ _ _ _ (new_z s (.int _))⟩
    · cases e
  · cases e
def CDivAny (_ j : Int) : Prop := j ≠ 0 ∧ j.natAbs.log2 < 9000
abbrev rDIV : R2 := rI CDivAny fun i j => .int (i.fdiv j)
theorem op_DIV {X : Cx} : OpR X (binaryOp .FloorDiv) rDIV := opI fun _ _ _ _ _ _ _ hc q => floordiv_int hc.1 q (.inl (PyProof.noPylong_of_log2 hc.2))
theorem ok_fdiv : PrOk K (r2 rDIV) .fdiv := fun vs ds Z H sd s b e Q q => by
  have e : prFdiv ds = some sd := e
  unfold prFdiv at e
  split at e
  · obtain ⟨v, w, rfl, hv, hw⟩ := bws2 b
    split at e
    · rename_i i j _ hm
      cases e
      unfold divOk at hm
      simp only [Bool.and_eq_true, decide_eq_true_eq] at hm
      exact ⟨_, _, hv.int, hw.int, hm, q _ _ _ _ (new_z s (.int _))⟩
    · cases e
  · cases e
abbrev rMOD : R2 := rI (fun _ j => j ≠ 0) fun i j => .int (i.fmod j)
theorem ok_mod : PrOk K (r2 rMOD) .mod := fun vs ds Z H sd s b e Q q => by
  have e : prMod ds = some sd := e
  unfold prMod at e
  split at e
  · obtain ⟨v, w, rfl, hv, hw⟩ := bws2 b
    split at e
    · rename_i hm
      cases e
      exact ⟨_, _, hv.int, hw.int, hm, q _ _ _ _ (new_z s (.int _))⟩
    · cases e
  · cases e
abbrev rPOW : R2 := rI CPow fun i j => .int (i ^ j.toNat)
theorem ok_pow : PrOk K (r2 rPOW) .pow := fun vs ds Z H sd s b e Q q => by
  have e : prPow ds = some sd := e
  unfold prPow at e
  split at e
  · obtain ⟨v, w, rfl, hv, hw⟩ := bws2 b
    split at e
    · rename_i hm
      cases e
      unfold powOk at hm
      simp only [Bool.and_eq_true, decide_eq_true_eq] at hm
      exact ⟨_, _, hv.int, hw.int, ⟨hm.1.1, hm.1.2, hm.2⟩, q _ _ _ _ (new_z s (.int _))⟩
    · cases e
  · cases e
abbrev rNEG : V → Hp → VK → Prop := rU fun i => .int (-i)
theorem ok_neg : PrOk K (r1 rNEG) .neg := fun vs ds Z H sd s b e Q q => by
  have e : prNeg ds = some sd := e
  unfold prNeg at e
  split at e
  · obtain ⟨v, rfl, hv⟩ := bws1 b
    cases e
    exact ⟨_, hv.int, q _ _ _ _ (new_z s (.int _))⟩
  · cases e
theorem eqOk_of {a b : D} (h : eqOk a b = true) : SeqAt.shaped a = true ∧ SeqAt.shaped b = true ∧ flatD a = true ∧ flatD b = true := by
  unfold eqOk at h
  simp only [Bool.and_eq_true] at h
  exact ⟨h.1.1.1, h.1.1.2, h.1.2, h.2⟩
theorem ok_eq : PrOk K (r2 (rEqD K)) .eq := fun vs ds Z H sd s b e Q q => by
  have e : prEq ds = some sd := e
  unfold prEq at e
  split at e
  · obtain ⟨v, w, rfl, hv, hw⟩ := bws2 b
    split at e
    · rename_i hm
      cases e
      obtain ⟨h1, h2, h3, h4⟩ := eqOk_of hm
      exact ⟨_, _, hv.dp s h3, hw.dp s h4, h1, h2, q _ _ _ _ (new_z s (.bl _))⟩
    · cases e
  · cases e
theorem ok_ne : PrOk K (r2 (rNeD K)) .ne := fun vs ds Z H sd s b e Q q => by
  have e : prNe ds = some sd := e
  unfold prNe at e
  split at e
  · obtain ⟨v, w, rfl, hv, hw⟩ := bws2 b
    split at e
    · rename_i hm
      cases e
      obtain ⟨h1, h2, h3, h4⟩ := eqOk_of hm
      exact ⟨_, _, hv.dp s h3, hw.dp s h4, h1, h2, q _ _ _ _ (new_z s (.bl _))⟩
    · cases e
  · cases e
abbrev rLTs : R2 := fun x y H Q => ∃ i j, x = .str i ∧ y = .str j ∧ Q (.bl (decide (i.cps.toList < j.cps.toList))) H
abbrev rLT : R2 := orR (rI0 fun i j => .bl (decide (i < j))) rLTs
theorem op_LT {X : Cx} : OpR X (compareOp .Lt) rLT := op_lt.or op_lt_str
theorem ok_lt : PrOk K (r2 rLT) .lt := fun vs ds Z H sd s b e Q q => by
  have e : prLt ds = some sd := e
  unfold prLt at e
  split at e
  · obtain ⟨v, w, rfl, hv, hw⟩ := bws2 b
    cases e
    exact .inl ⟨_, _, hv.int, hw.int, q _ _ _ _ (new_z s (.bl _))⟩
  · obtain ⟨v, w, rfl, hv, hw⟩ := bws2 b
    cases e
    exact .inr ⟨_, _, hv.str, hw.str, q _ _ _ _ (new_z s (.bl _))⟩
  · cases e
abbrev rLE : R2 := rI0 fun i j => .bl (decide (i ≤ j))
theorem ok_le : PrOk K (r2 rLE) .le := fun vs ds Z H sd s b e Q q => by
  have e : prLe ds = some sd := e
  unfold prLe at e
  split at e
  · obtain ⟨v, w, rfl, hv, hw⟩ := bws2 b
    cases e
    exact ⟨_, _, hv.int, hw.int, q _ _ _ _ (new_z s (.bl _))⟩
  · cases e
abbrev rGT : R2 := rI0 fun i j => .bl (decide (j < i))
theorem ok_gt : PrOk K (r2 rGT) .gt := fun vs ds Z H sd s b e Q q => by
  have e : prGt ds = some sd := e
  unfold prGt at e
  split at e
  · obtain ⟨v, w, rfl, hv, hw⟩ := bws2 b
    cases e
    exact ⟨_, _, hv.int, hw.int, q _ _ _ _ (new_z s (.bl _))⟩
  · cases e
abbrev rGE : R2 := rI0 fun i j => .bl (decide (j ≤ i))
theorem ok_ge : PrOk K (r2 rGE) .ge := fun vs ds Z H sd s b e Q q => by
  have e : prGe ds = some sd := e
  unfold prGe at e
  split at e
  · obtain ⟨v, w, rfl, hv, hw⟩ := bws2 b
    cases e
    exact ⟨_, _, hv.int, hw.int, q _ _ _ _ (new_z s (.bl _))⟩
  · cases e
/-- x is None, x is True -/
def isV : V → V → Bool
  | .non, .non => true
  | .bl b, .bl c => b == c
  | _, _ => false
abbrev rIS : R2 := fun x y H Q => (y = .non ∨ ∃ b, y = .bl b) ∧ Q (.bl (isV x y)) H
abbrev rISN : R2 := fun x y H Q => (y = .non ∨ ∃ b, y = .bl b) ∧ Q (.bl (!isV x y)) H
end
end Mi
end
section
namespace Mi
open PySem PySem.Spec PyProof.Rows L2
section
variable {X : Cx}
theorem op_isBl : OpR X (compareOp .Is) (fun x y H Q => (∃ b, y = .bl b) ∧ Q (.bl (isV x y)) H) := by
  intro pins s σ H x y v u Q I rx ry h
  obtain ⟨⟨b, rfl⟩, q⟩ := h
  cases ry
  have key : ∀ c : Bool, isV x (.bl b) = c → wpAny (model X.prog X.w) X.A (compareOp .Is v (.bool b)) (EP X pins σ Q) X.xe s := by
    intro c hc
    rw [hc] at q
    cases x with
    | bl a =>
      cases rx
      refine is_bool ⟨.bl c, H, I, ?_, q⟩
      show Value.bool _ = Value.bool _
      rw [← hc]
      rfl
    | non => cases rx; cases hc; exact wpAny_pure ⟨.bl false, H, I, rfl, q⟩
    | int i => obtain ⟨t, rfl⟩ := rx; cases hc; exact wpAny_pure ⟨.bl false, H, I, rfl, q⟩
    | str i => obtain ⟨t, rfl⟩ := rx; cases hc; exact wpAny_pure ⟨.bl false, H, I, rfl, q⟩
    | byt i => obtain ⟨t, rfl⟩ := rx; cases hc; exact wpAny_pure ⟨.bl false, H, I, rfl, q⟩
    | flt i => obtain ⟨t, rfl⟩ := rx; cases hc; exact wpAny_pure ⟨.bl false, H, I, rfl, q⟩
    | ref i => cases rx; cases hc; exact wpAny_pure ⟨.bl false, H, I, rfl, q⟩
    | ty i => cases rx; cases hc; exact wpAny_pure ⟨.bl false, H, I, rfl, q⟩
  exact key _ rfl
theorem isV_non {x : V} : isV x .non = decide (x = .non) := by cases x <;> rfl
theorem op_IS : OpR X (compareOp .Is) rIS := by
  intro pins s σ H x y v u Q I rx ry h
  obtain ⟨h | h, q⟩ := h
  · subst h
    exact op_isN pins s σ H x .non v u Q I rx ry ⟨rfl, by rw [isV_non] at q; exact q⟩
  · exact op_isBl pins s σ H x y v u Q I rx ry ⟨h, q⟩
theorem op_isnBl : OpR X (compareOp .IsNot) (fun x y H Q => (∃ b, y = .bl b) ∧ Q (.bl (!isV x y)) H) := by
  intro pins s σ H x y v u Q I rx ry h
  obtain ⟨⟨b, rfl⟩, q⟩ := h
  cases ry
  have key : ∀ c : Bool, isV x (.bl b) = c → wpAny (model X.prog X.w) X.A (compareOp .IsNot v (.bool b)) (EP X pins σ Q) X.xe s := by
    intro c hc
    rw [hc] at q
    cases x with
    | bl a =>
      cases rx
      refine isnot_bool ⟨.bl (!c), H, I, ?_, q⟩
      show Value.bool _ = Value.bool _
      rw [← hc]
      cases a <;> cases b <;> rfl
    | non => cases rx; cases hc; exact wpAny_pure ⟨.bl true, H, I, rfl, q⟩
    | int i => obtain ⟨t, rfl⟩ := rx; cases hc; exact wpAny_pure ⟨.bl true, H, I, rfl, q⟩
    | str i => obtain ⟨t, rfl⟩ := rx; cases hc; exact wpAny_pure ⟨.bl true, H, I, rfl, q⟩
    | byt i => obtain ⟨t, rfl⟩ := rx; cases hc; exact wpAny_pure ⟨.bl true, H, I, rfl, q⟩
    | flt i => obtain ⟨t, rfl⟩ := rx; cases hc; exact wpAny_pure ⟨.bl true, H, I, rfl, q⟩
    | ref i => cases rx; cases hc; exact wpAny_pure ⟨.bl true, H, I, rfl, q⟩
    | ty i => cases rx; cases hc; exact wpAny_pure ⟨.bl true, H, I, rfl, q⟩
  exact key _ rfl
theorem op_ISN : OpR X (compareOp .IsNot) rISN := by
  intro pins s σ H x y v u Q I rx ry h
  obtain ⟨h | h, q⟩ := h
  · subst h
    exact op_notN pins s σ H x .non v u Q I rx ry ⟨rfl, by rw [isV_non] at q; exact q⟩
  · exact op_isnBl pins s σ H x y v u Q I rx ry ⟨h, q⟩
end
section
variable {K : PySem.W.Frag} {Z H : Hp}
theorem isV_of {v : V} {d : D} (h : Bw K Z H v d) : isV v .non = isNonD d ∧ ∀ b, isV v (.bl b) = isBlD b d := by
  cases h with
  | fz h => cases h <;> exact ⟨rfl, fun _ => rfl⟩
  | lst _ _ => exact ⟨rfl, fun _ => rfl⟩
  | dk _ _ => exact ⟨rfl, fun _ => rfl⟩
theorem ok_is : PrOk K (r2 rIS) .is := fun vs ds Z H sd s b e Q q => by
  have e : prIs ds = some sd := e
  unfold prIs at e
  split at e
  · obtain ⟨v, w, rfl, hv, hw⟩ := bws2 b
    cases e
    refine ⟨.inl hw.non, ?_⟩
    rw [hw.non, (isV_of hv).1]
    exact q _ _ _ _ (new_z s (.bl _))
  · obtain ⟨v, w, rfl, hv, hw⟩ := bws2 b
    cases e
    refine ⟨.inr ⟨_, hw.bl⟩, ?_⟩
    rw [hw.bl, (isV_of hv).2]
    exact q _ _ _ _ (new_z s (.bl _))
  · cases e
theorem ok_isnot : PrOk K (r2 rISN) .isnot := fun vs ds Z H sd s b e Q q => by
  have e : prIsnot ds = some sd := e
  unfold prIsnot at e
  split at e
  · obtain ⟨v, w, rfl, hv, hw⟩ := bws2 b
    cases e
    refine ⟨.inl hw.non, ?_⟩
    rw [hw.non, (isV_of hv).1]
    exact q _ _ _ _ (new_z s (.bl _))
  · obtain ⟨v, w, rfl, hv, hw⟩ := bws2 b
    cases e
    refine ⟨.inr ⟨_, hw.bl⟩, ?_⟩
    rw [hw.bl, (isV_of hv).2]
    exact q _ _ _ _ (new_z s (.bl _))
  · cases e
theorem shaped_list {b : List D} (h : SeqAt.shaped (.list b) = true) : True := trivial
/-- in, not in: lists; dicts by keys -/
abbrev rInDk : R2 := fun y x H Q => ∃ a o, x = .ref a ∧ DGet H a y o ∧ Q (.bl o.isSome) H
abbrev rNiDk : R2 := fun y x H Q => ∃ a o, x = .ref a ∧ DGet H a y o ∧ Q (.bl (!o.isSome)) H
theorem deq_kD {k : Key} {d : D} (v : V) (h : Bw K Z H v d) (hk : isKey d = true) : ∃ j : Key, v = kV j ∧ d = kD j ∧ ∀ q : Key, deq (kD q) d = decide (q = j) := by
  cases h with
  | fz h =>
    cases h with
    | int i =>
      refine ⟨.inl i, rfl, rfl, fun q => ?_⟩
      cases q with
      | inl n => exact (key_ll n i).symm
      | inr n => exact (key_rl n i).symm
    | str x =>
      refine ⟨.inr x, rfl, rfl, fun q => ?_⟩
      cases q with
      | inl n => exact (key_lr n x).symm
      | inr n => rw [key_rr n x]; rfl
    | _ => cases hk
  | _ => cases hk
theorem look_ok {k : Key} {d : D} (hd : ∀ q : Key, deq (kD q) d = decide (q = k)) : ∀ {kvs : List (Key × V)} {ds : List (D × D)}, FzK K Z kvs ds →
    (valV kvs k = none ∧ look d ds = none) ∨ ∃ v e, valV kvs k = some v ∧ look d ds = some e ∧ Fz K Z v e
  | _, _, .nil => .inl ⟨rfl, rfl⟩
  | _, _, .cons (k := j) (v := v) (vs := vs) (d := e) (ds := ds) h r => by
    by_cases hj : j = k
    · refine .inr ⟨v, e, ?_, ?_, h⟩
      · unfold valV
        rw [List.find?_cons_of_pos (by simp [hj])]
        rfl
      · unfold look
        rw [hd, if_pos (by simp [hj])]
    · have e1 : valV ((j, v) :: vs) k = valV vs k := by
        unfold valV
        rw [List.find?_cons_of_neg (by simp [hj])]
      have e2 : look d ((kD j, e) :: ds) = look d ds := by
        conv => lhs; unfold look
        rw [hd, if_neg (by simp [hj])]
      rw [e1, e2]
      exact look_ok hd r
abbrev rIN (K : PySem.W.Frag) : R2 := rInD K
abbrev rNI (K : PySem.W.Frag) : R2 := rNotInD K
theorem flat_list {b : List D} {x : V} (s : Sub Z H) (h : Bw K Z H x (.list b)) (f : flatD (.list b) = true) : Dp K H x (.list b) := h.dp s f
theorem isin_cases {ds : List D} {sd : SD} (e : prIsin ds = some sd) : (∃ a b, ds = [a, .list b] ∧ eqOk a (.list b) = true ∧ sd = (.z, .bool (b.any fun z => PyData.eqv z a))) ∨ ∃ a b, ds = [a, .dict b] ∧ isKey a = true ∧ isRg b = false ∧ sd = (.z, .bool (look a b).isSome) := by
  unfold prIsin at e
  split at e
  · split at e
    · rename_i h
      cases e
      exact .inl ⟨_, _, rfl, h, rfl⟩
    · cases e
  · split at e
    · rename_i h
      simp only [Bool.and_eq_true, Bool.not_eq_true'] at h
      cases e
      exact .inr ⟨_, _, rfl, h.1, h.2, rfl⟩
    · cases e
  · cases e
theorem notin_cases {ds : List D} {sd : SD} (e : prNotin ds = some sd) : (∃ a b, ds = [a, .list b] ∧ eqOk a (.list b) = true ∧ sd = (.z, .bool (!b.any fun z => PyData.eqv z a))) ∨ ∃ a b, ds = [a, .dict b] ∧ isKey a = true ∧ isRg b = false ∧ sd = (.z, .bool (!(look a b).isSome)) := by
  unfold prNotin at e
  split at e
  · split at e
    · rename_i h
      cases e
      exact .inl ⟨_, _, rfl, h, rfl⟩
    · cases e
  · split at e
    · rename_i h
      simp only [Bool.and_eq_true, Bool.not_eq_true'] at h
      cases e
      exact .inr ⟨_, _, rfl, h.1, h.2, rfl⟩
    · cases e
  · cases e
def rISIN (K : PySem.W.Frag) : R2 := orR (rInD K) rInDk
def rNOTIN (K : PySem.W.Frag) : R2 := orR (rNotInD K) rNiDk
theorem dget_of {v w : V} {a : D} {b : List (D × D)} (s : Sub Z H) (hv : Bw K Z H v a) (hw : Bw K Z H w (.dict b)) (hk : isKey a = true) (nr : isRg b = false) : ∃ p o, w = .ref p ∧ DGet H p v o ∧ ((o = none ∧ look a b = none) ∨ ∃ y e, o = some y ∧ look a b = some e ∧ Fz K Z y e) := by
  obtain ⟨p, kvs, rfl, hp, f⟩ := hw.dict s nr
  obtain ⟨k, rfl, rfl, hd⟩ := deq_kD (k := .inl 0) v hv hk
  refine ⟨p, valV kvs k, rfl, .inl ⟨kvs, k, hp, rfl, rfl⟩, ?_⟩
  rcases look_ok hd f with ⟨h1, h2⟩ | ⟨y, e, h1, h2, h3⟩
  · exact .inl ⟨h1, h2⟩
  · exact .inr ⟨y, e, h1, h2, h3⟩
theorem ok_isin : PrOk K (r2 (rISIN K)) .isin := fun vs ds Z H sd s b e Q q => by
  rcases isin_cases e with ⟨a, l, rfl, h, rfl⟩ | ⟨a, l, rfl, h, nr, rfl⟩
  · obtain ⟨v, w, rfl, hv, hw⟩ := bws2 b
    obtain ⟨h1, h2, h3, h4⟩ := eqOk_of h
    exact .inl ⟨_, _, hv.dp s h3, hw.dp s h4, h1, h2, q _ _ _ _ (new_z s (.bl _))⟩
  · obtain ⟨v, w, rfl, hv, hw⟩ := bws2 b
    obtain ⟨p, o, rfl, g, z⟩ := dget_of s hv hw h nr
    refine .inr ⟨p, o, rfl, g, ?_⟩
    have e : (look a l).isSome = o.isSome := by
      rcases z with ⟨rfl, z⟩ | ⟨y, e, rfl, z, _⟩ <;> rw [z] <;> rfl
    rw [e] at q
    exact q _ _ _ _ (new_z s (.bl _))
theorem ok_notin : PrOk K (r2 (rNOTIN K)) .notin := fun vs ds Z H sd s b e Q q => by
  rcases notin_cases e with ⟨a, l, rfl, h, rfl⟩ | ⟨a, l, rfl, h, nr, rfl⟩
  · obtain ⟨v, w, rfl, hv, hw⟩ := bws2 b
    obtain ⟨h1, h2, h3, h4⟩ := eqOk_of h
    exact .inl ⟨_, _, hv.dp s h3, hw.dp s h4, h1, h2, q _ _ _ _ (new_z s (.bl _))⟩
  · obtain ⟨v, w, rfl, hv, hw⟩ := bws2 b
    obtain ⟨p, o, rfl, g, z⟩ := dget_of s hv hw h nr
    refine .inr ⟨p, o, rfl, g, ?_⟩
    have e : (look a l).isSome = o.isSome := by
      rcases z with ⟨rfl, z⟩ | ⟨y, e, rfl, z, _⟩ <;> rw [z] <;> rfl
    rw [e] at q
    exact q _ _ _ _ (new_z s (.bl _))
end
end Mi
end
section
namespace Mi
open PySem PySem.Spec PyProof.Rows L2
section
variable {X : Cx}
def rDG : R2 := fun x y H Q => ∃ a v, x = .ref a ∧ DGet H a y (some v) ∧ Q v H
theorem ix_dict (hu : X.A.units + 1 < cLine) : IxR X rDG := by
  intro value slice pins s σ H x y v u Q I rx ry h hs
  obtain ⟨a, z, rfl, g, q⟩ := h
  cases rx
  have ty := dict_typeIs I g
  have got : wpAny (model X.prog X.w) X.A (getItem (.ref a) u) (EP X pins σ Q) X.xe s := d_getItem hu I g ry fun w' s' I' r' => ⟨z, H, I', r', q⟩
  unfold subscriptTail
  refine wpAny_bind ?_
  rw [getitemInPython_of_ne ty.not_modules]
  refine wpAny_bind (wpAny_specialOf ty PySem.F.slot_dict_getitem.lookup ?_)
  have tail : wpAny (model X.prog X.w) X.A (subscripted slice false (.ref a) u) (fun r s₃ => wpAny (model X.prog X.w) X.A (letTemporaryGo value (.ref a) r >>= fun _ => pure r) (EP X pins σ Q) X.xe s₃) X.xe s := by
    rw [hs]; exact wpAny_operating (wpAny_mono got (fun r s₃ h₃ => wpAny_bind (wpAny_letTemporaryGo (wpAny_pure h₃))) fun _ _ x => x)
  first
    | exact wpAny_pure (wpAny_bind tail)
    | exact wpAny_bind (wpAny_pure (wpAny_bind tail))
    | exact wpAny_bind tail
def rIX (K : PySem.W.Frag) : R2 := orR (rIx K) rDG
theorem ix_ANY (hu : X.A.units + 1 < cLine) : IxR X (rIX X.K) := ix_seq.or (ix_dict hu)
theorem op_inDk (hu : X.A.units + 1 < cLine) : OpR X (compareOp .In) rInDk := by
  intro pins s σ H y x u v Q I ry rx h
  obtain ⟨a, o, rfl, g, q⟩ := h
  cases rx
  exact d_in hu I g ry fun s' I' => ⟨.bl _, H, I', rfl, q⟩
theorem op_niDk (hu : X.A.units + 1 < cLine) : OpR X (compareOp .NotIn) rNiDk := by
  intro pins s σ H y x u v Q I ry rx h
  obtain ⟨a, o, rfl, g, q⟩ := h
  cases rx
  exact d_notIn hu I g ry fun s' I' => ⟨.bl _, H, I', rfl, q⟩
theorem op_ISIN (hu : X.A.units + 65 < cLine) : OpR X (compareOp .In) (rISIN X.K) := (op_inD hu).or (op_inDk (by omega))
theorem op_NOTIN (hu : X.A.units + 65 < cLine) : OpR X (compareOp .NotIn) (rNOTIN X.K) := (op_notInD hu).or (op_niDk (by omega))
end
section
variable {K : PySem.W.Frag} {Z H : Hp}
theorem atI_ok {xs : List V} {ds : List D} {i : Int} {d : D} (f : Fzs K Z xs ds) (h : atI ds i = some d) : ∃ v, atI xs i = some v ∧ Fz K Z v d := by
  unfold atI at h ⊢
  rw [f.length]
  cases e : ixN ds.length i with
  | none => rw [e] at h; cases h
  | some j =>
    rw [e] at h
    exact f.at h
theorem ok_ix : PrOk K (r2 (rIX K)) .ix := fun vs ds Z H sd s b e Q q => by
  have e : prIx ds = some sd := e
  unfold prIx at e
  split at e
  · obtain ⟨v, w, rfl, hv, hw⟩ := bws2 b
    obtain ⟨d, hd, e⟩ := Option.bind_eq_some_iff.mp e
    cases e
    obtain ⟨a, xs, rfl, ha, f⟩ := hv.list s
    obtain ⟨y, hy, fy⟩ := atI_ok f hd
    exact .inl (.inl ⟨a, xs, _, y, rfl, hw.int, ha, hy, q _ _ _ _ (new_z s fy)⟩)
  · obtain ⟨v, w, rfl, hv, hw⟩ := bws2 b
    obtain ⟨d, hd, e⟩ := Option.bind_eq_some_iff.mp e
    cases e
    obtain ⟨a, xs, rfl, ha, f⟩ := hv.tup s
    obtain ⟨y, hy, fy⟩ := atI_ok f hd
    exact .inl (.inr (.inl ⟨a, xs, _, y, rfl, hw.int, ha, hy, q _ _ _ _ (new_z s fy)⟩))
  · obtain ⟨v, w, rfl, hv, hw⟩ := bws2 b
    split at e
    · rename_i hz
      obtain ⟨d, hd, e⟩ := Option.bind_eq_some_iff.mp e
      cases e
      exact .inl (.inr (.inr ⟨_, _, d, hv.str, hw.int, hz, hd, q _ _ _ _ (new_z s (.str _))⟩))
    · cases e
  · obtain ⟨v, w, rfl, hv, hw⟩ := bws2 b
    split at e
    · rename_i hk
      simp only [Bool.and_eq_true, Bool.not_eq_true'] at hk
      obtain ⟨d, hd, e⟩ := Option.bind_eq_some_iff.mp e
      cases e
      obtain ⟨p, o, rfl, g, z⟩ := dget_of s hw hv hk.1 hk.2
      rcases z with ⟨rfl, z⟩ | ⟨y, e, rfl, z, f⟩
      · rw [hd] at z; cases z
      · rw [hd] at z
        cases z
        exact .inr ⟨p, y, rfl, g, q _ _ _ _ (new_z s f)⟩
    · cases e
  · cases e
theorem cut_ok {xs : List V} {ds : List D} (lo hi : Option Int) (f : Fzs K Z xs ds) : Fzs K Z (cutV xs lo hi) (cut ds lo hi) := by
  unfold cutV cut
  rw [f.length]
  exact (f.drop _).take _
/-- slices of lists and of texts -/
def rSlA (K : PySem.W.Frag) : V → Option Int → Option Int → Hp → VK → Prop := fun x lo hi H Q => rSlL K x lo hi H Q ∨ C8.rSlX x lo hi H Q
theorem sl_any {X : Cx} : SlR X (rSlA X.K) := fun pins s σ H x v vl vu lo hi sl Q I rx hs pl pu h =>
  h.elim (sl_list pins s σ H x v vl vu lo hi sl Q I rx hs pl pu) (C8.sl_txt pins s σ H x v vl vu lo hi sl Q I rx hs pl pu)
/-- slices, their parts among the arguments -/
def rS00 (K : PySem.W.Frag) : List V → Hp → VK → Prop
  | [x], H, Q => rSlL K x none none H Q
  | _, _, _ => False
def rS10 (K : PySem.W.Frag) : List V → Hp → VK → Prop
  | [x, y], H, Q => ∃ i, y = .int i ∧ rSlA K x (some i) none H Q
  | _, _, _ => False
def rS01 (K : PySem.W.Frag) : List V → Hp → VK → Prop
  | [x, y], H, Q => ∃ i, y = .int i ∧ rSlA K x none (some i) H Q
  | _, _, _ => False
def rS11 (K : PySem.W.Frag) : List V → Hp → VK → Prop
  | [x, y, z], H, Q => ∃ i, y = .int i ∧ ∃ j, z = .int j ∧ rSlL K x (some i) (some j) H Q
  | _, _, _ => False
theorem ok_s00 : PrOk K (rS00 K) (.sl false false) := fun vs ds Z H sd s bw e Q q => by
  have e : prSl false false ds = some sd := e
  unfold prSl at e
  split at e
  all_goals first | (cases e; done) | (rename_i h1 h2; cases h1; done) | (rename_i h1 h2; cases h2; done) | skip
  · cases e
    obtain ⟨v, rfl, hv⟩ := bws1 bw
    obtain ⟨p, xs, rfl, hp, f⟩ := hv.list s
    exact ⟨p, xs, rfl, hp, fun r hr => q _ _ _ _ (new_lst s hr (cut_ok _ _ f))⟩
theorem ok_s10 : PrOk K (rS10 K) (.sl true false) := fun vs ds Z H sd s bw e Q q => by
  have e : prSl true false ds = some sd := e
  unfold prSl at e
  split at e
  all_goals first | (cases e; done) | (rename_i h1 h2; cases h1; done) | (rename_i h1 h2; cases h2; done) | skip
  · cases e
    obtain ⟨v, w, rfl, hv, hw⟩ := bws2 bw
    obtain ⟨p, xs, rfl, hp, f⟩ := hv.list s
    exact ⟨_, hw.int, .inl ⟨p, xs, rfl, hp, fun r hr => q _ _ _ _ (new_lst s hr (cut_ok _ _ f))⟩⟩
  · split at e
    · rename_i hz
      cases e
      obtain ⟨v, w, rfl, hv, hw⟩ := bws2 bw
      exact ⟨_, hw.int, .inr ⟨_, hv.str, hz, q _ _ _ _ (new_z s (.str _))⟩⟩
    · cases e
theorem ok_s01 : PrOk K (rS01 K) (.sl false true) := fun vs ds Z H sd s bw e Q q => by
  have e : prSl false true ds = some sd := e
  unfold prSl at e
  split at e
  all_goals first | (cases e; done) | (rename_i h1 h2; cases h1; done) | (rename_i h1 h2; cases h2; done) | skip
  · cases e
    obtain ⟨v, w, rfl, hv, hw⟩ := bws2 bw
    obtain ⟨p, xs, rfl, hp, f⟩ := hv.list s
    exact ⟨_, hw.int, .inl ⟨p, xs, rfl, hp, fun r hr => q _ _ _ _ (new_lst s hr (cut_ok _ _ f))⟩⟩
  · split at e
    · rename_i hz
      cases e
      obtain ⟨v, w, rfl, hv, hw⟩ := bws2 bw
      exact ⟨_, hw.int, .inr ⟨_, hv.str, hz, q _ _ _ _ (new_z s (.str _))⟩⟩
    · cases e
theorem ok_s11 : PrOk K (rS11 K) (.sl true true) := fun vs ds Z H sd s bw e Q q => by
  have e : prSl true true ds = some sd := e
  unfold prSl at e
  split at e
  all_goals first | (cases e; done) | (rename_i h1 h2; cases h1; done) | (rename_i h1 h2; cases h2; done) | skip
  · cases e
    obtain ⟨v, w, y, rfl, hv, hw, hy⟩ := bws3 bw
    obtain ⟨p, xs, rfl, hp, f⟩ := hv.list s
    exact ⟨_, hw.int, _, hy.int, p, xs, rfl, hp, fun r hr => q _ _ _ _ (new_lst s hr (cut_ok _ _ f))⟩
theorem Fzs.rev : ∀ {xs : List V} {ds : List D}, Fzs K Z xs ds → Fzs K Z xs.reverse ds.reverse
  | _, _, .nil => .nil
  | _, _, .cons h t => by
    rw [List.reverse_cons, List.reverse_cons]
    exact (Fzs.rev t).app (.cons h .nil)
/-- x[::-1], x[:0:-1] -/
def rREV (K : PySem.W.Frag) (f : List V → List V) : List V → Hp → VK → Prop
  | [x], H, Q => ∃ a xs, x = .ref a ∧ SqL K H a xs ∧ ∀ p, H p = none → Q (.ref p) (upd H p (.lst (f xs)))
  | _, _, _ => False
theorem ok_rev : PrOk K (rREV K fun xs => xs.reverse) .rev := fun vs ds Z H sd s bw e Q q => by
  have e : prRev ds = some sd := e
  unfold prRev at e
  split at e
  · cases e
    obtain ⟨v, rfl, hv⟩ := bws1 bw
    obtain ⟨p, xs, rfl, hp, f⟩ := hv.list s
    exact ⟨p, xs, rfl, hp, fun r hr => q _ _ _ _ (new_lst s hr f.rev)⟩
  · cases e
theorem ok_revT : PrOk K (rREV K fun xs => (xs.drop 1).reverse) .revT := fun vs ds Z H sd s bw e Q q => by
  have e : prRevT ds = some sd := e
  unfold prRevT at e
  split at e
  · cases e
    obtain ⟨v, rfl, hv⟩ := bws1 bw
    obtain ⟨p, xs, rfl, hp, f⟩ := hv.list s
    exact ⟨p, xs, rfl, hp, fun r hr => q _ _ _ _ (new_lst s hr (f.drop 1).rev)⟩
  · cases e
end
end Mi
end
section
namespace Mi
open PySem PySem.Spec PyProof.Rows L2
section
variable {K : PySem.W.Frag} {Z H : Hp}
theorem allInt_ok : ∀ {ds : List D} {ns : List Int} {vs : List V}, Fzs K Z vs ds → allInt ds = some ns → vs = ns.map V.int
  | _, _, _, .nil, e => by cases e; rfl
  | _, _, _, .cons (d := .int i) h r, e => by
    simp only [allInt, Option.map_eq_some_iff] at e
    obtain ⟨ns, e, rfl⟩ := e
    rw [h.int_of, allInt_ok r e]
    rfl
  | _, _, _, .cons (d := .none) h r, e => nomatch e
  | _, _, _, .cons (d := .bool _) h r, e => nomatch e
  | _, _, _, .cons (d := .str _) h r, e => nomatch e
  | _, _, _, .cons (d := .list _) h r, e => nomatch e
  | _, _, _, .cons (d := .tuple _) h r, e => nomatch e
  | _, _, _, .cons (d := .dict _) h r, e => nomatch e
theorem allStr_ok : ∀ {ds : List D} {ns : List Str} {vs : List V}, Fzs K Z vs ds → allStr ds = some ns → vs = ns.map V.str
  | _, _, _, .nil, e => by cases e; rfl
  | _, _, _, .cons (d := .str i) h r, e => by
    simp only [allStr, Option.map_eq_some_iff] at e
    obtain ⟨ns, e, rfl⟩ := e
    rw [h.str_of, allStr_ok r e]
    rfl
  | _, _, _, .cons (d := .none) h r, e => nomatch e
  | _, _, _, .cons (d := .bool _) h r, e => nomatch e
  | _, _, _, .cons (d := .int _) h r, e => nomatch e
  | _, _, _, .cons (d := .list _) h r, e => nomatch e
  | _, _, _, .cons (d := .tuple _) h r, e => nomatch e
  | _, _, _, .cons (d := .dict _) h r, e => nomatch e
theorem allBl_ok : ∀ {ds : List D} {ns : List Bool} {vs : List V}, Fzs K Z vs ds → allBl ds = some ns → vs = ns.map V.bl
  | _, _, _, .nil, e => by cases e; rfl
  | _, _, _, .cons (d := .bool i) h r, e => by
    simp only [allBl, Option.map_eq_some_iff] at e
    obtain ⟨ns, e, rfl⟩ := e
    rw [h.bl_of, allBl_ok r e]
    rfl
  | _, _, _, .cons (d := .none) h r, e => nomatch e
  | _, _, _, .cons (d := .str _) h r, e => nomatch e
  | _, _, _, .cons (d := .int _) h r, e => nomatch e
  | _, _, _, .cons (d := .list _) h r, e => nomatch e
  | _, _, _, .cons (d := .tuple _) h r, e => nomatch e
  | _, _, _, .cons (d := .dict _) h r, e => nomatch e
theorem fzs_ints : ∀ (ns : List Int), Fzs K Z (ns.map V.int) (ns.map PyData.int)
  | [] => .nil
  | n :: r => .cons (.int n) (fzs_ints r)
theorem fzs_strs : ∀ (ns : List Str), Fzs K Z (ns.map V.str) (ns.map PyData.str)
  | [] => .nil
  | n :: r => .cons (.str n) (fzs_strs r)
/-! ### len, abs, int, str, list, tuple, dict, gcd -/
abbrev rLenA (K : PySem.W.Frag) : List V → Hp → VK → Prop := fun xs H Q => ∃ x n, xs = [x] ∧ LenV K x H n ∧ Q (.int n) H
abbrev rLenD : List V → Hp → VK → Prop := fun xs H Q => ∃ a kvs, xs = [V.ref a] ∧ Rd H a (.dK kvs) ∧ Q (.int kvs.length) H
theorem cr_lenD {X : Cx} : CallR X (.builtin "len") rLenD := by
  intro pins s σ H xs us Q I r h
  obtain ⟨a, kvs, rfl, ha, q⟩ := h
  obtain ⟨u, rfl, ru⟩ := vals1 r
  cases ru
  exact d_len I ha fun t s' I' => ⟨.int _, H, I', ⟨t, rfl⟩, q⟩
def rLEN (K : PySem.W.Frag) : List V → Hp → VK → Prop := orC (rLenA K) rLenD
theorem cr_LEN {X : Cx} : CallR X (.builtin "len") (rLEN X.K) := CallR.or call_len cr_lenD
theorem fzK_length {vs : List (Key × V)} {ds : List (D × D)} (h : FzK K Z vs ds) : vs.length = ds.length := by
  have e := congrArg List.length (fzK_len h)
  rw [List.length_map, List.length_map] at e
  exact e
theorem ok_len : PrOk K (rLEN K) .len := fun vs ds Z H sd s b e Q q => by
  have e : prLen ds = some sd := e
  unfold prLen at e
  split at e
  · obtain ⟨v, rfl, hv⟩ := bws1 b
    cases e
    obtain ⟨a, xs, rfl, ha, f⟩ := hv.list s
    refine .inl ⟨_, _, rfl, .inl ⟨xs, ha, rfl⟩, ?_⟩
    rw [f.length]
    exact q _ _ _ _ (new_z s (.int _))
  · obtain ⟨v, rfl, hv⟩ := bws1 b
    cases e
    obtain ⟨a, xs, rfl, ha, f⟩ := hv.tup s
    refine .inl ⟨_, _, rfl, .inr ⟨xs, ha, rfl⟩, ?_⟩
    rw [f.length]
    exact q _ _ _ _ (new_z s (.int _))
  · obtain ⟨v, rfl, hv⟩ := bws1 b
    split at e
    · cases e
    · rename_i nr
      cases e
      obtain ⟨a, kvs, rfl, ha, f⟩ := hv.dict s (by simpa using nr)
      refine .inr ⟨a, kvs, rfl, ha, ?_⟩
      rw [fzK_length f]
      exact q _ _ _ _ (new_z s (.int _))
  · obtain ⟨v, rfl, hv⟩ := bws1 b
    split at e
    · rename_i hz
      cases e
      rw [hv.str]
      exact .inl ⟨_, _, rfl, ⟨hz, rfl⟩, q _ _ _ _ (new_z s (.int _))⟩
    · cases e
  · cases e
abbrev rABS : List V → Hp → VK → Prop := fun xs H Q => ∃ i, xs = [.int i] ∧ Q (.int (if i < 0 then -i else i)) H
theorem ok_abs : PrOk K rABS .abs := fun vs ds Z H sd s b e Q q => by
  have e : prAbs ds = some sd := e
  unfold prAbs at e
  split at e
  · obtain ⟨v, rfl, hv⟩ := bws1 b
    cases e
    rw [hv.int]
    exact ⟨_, rfl, q _ _ _ _ (new_z s (.int _))⟩
  · cases e
abbrev rINT : List V → Hp → VK → Prop := fun xs H Q => (∃ i, xs = [.int i] ∧ Q (.int i) H) ∨ ∃ k, xs = [.bl k] ∧ Q (.int (if k then 1 else 0)) H
theorem ok_toInt : PrOk K rINT .toInt := fun vs ds Z H sd s b e Q q => by
  have e : prToInt ds = some sd := e
  unfold prToInt at e
  split at e
  · obtain ⟨v, rfl, hv⟩ := bws1 b
    cases e
    rw [hv.int]
    exact .inl ⟨_, rfl, q _ _ _ _ (new_z s (.int _))⟩
  · obtain ⟨v, rfl, hv⟩ := bws1 b
    cases e
    rw [hv.bl]
    exact .inr ⟨_, rfl, q _ _ _ _ (new_z s (.int _))⟩
  · cases e
abbrev rSTR : List V → Hp → VK → Prop := fun xs H Q => ∃ i, xs = [.int i] ∧ i.natAbs.log2 < 1920 ∧ Q (.str (toString i)) H
theorem ok_toStr : PrOk K rSTR .toStr := fun vs ds Z H sd s b e Q q => by
  have e : prToStr ds = some sd := e
  unfold prToStr at e
  split at e
  · obtain ⟨v, rfl, hv⟩ := bws1 b
    split at e
    · rename_i hz
      cases e
      rw [hv.int]
      exact ⟨_, rfl, hz, q _ _ _ _ (new_z s (.str _))⟩
    · cases e
  · cases e
abbrev rLIST (K : PySem.W.Frag) : List V → Hp → VK → Prop := fun xs H Q => ∃ p ys, xs = [.ref p] ∧ (SqL K H p ys ∨ SqT K H p ys) ∧ ∀ l, H l = none → Q (.ref l) (upd H l (.lst ys))
theorem ok_toList : PrOk K (rLIST K) .toList := fun vs ds Z H sd s b e Q q => by
  have e : prToList ds = some sd := e
  unfold prToList at e
  split at e
  · obtain ⟨v, rfl, hv⟩ := bws1 b
    cases e
    obtain ⟨a, xs, rfl, ha, f⟩ := hv.list s
    exact ⟨_, xs, rfl, .inl ha, fun p hp => q _ _ _ _ (new_lst s hp f)⟩
  · obtain ⟨v, rfl, hv⟩ := bws1 b
    cases e
    obtain ⟨a, xs, rfl, ha, f⟩ := hv.tup s
    exact ⟨_, xs, rfl, .inr ha, fun p hp => q _ _ _ _ (new_lst s hp f)⟩
  · cases e
abbrev rTUP (K : PySem.W.Frag) : List V → Hp → VK → Prop := fun xs H Q => ∃ p ys, xs = [.ref p] ∧ ((SqL K H p ys ∧ ∀ l, H l = none → Q (.ref l) (upd H l (.tup ys))) ∨ (SqT K H p ys ∧ Q (.ref p) H))
theorem ok_toTuple : PrOk K (rTUP K) .toTuple := fun vs ds Z H sd s b e Q q => by
  have e : prToTuple ds = some sd := e
  unfold prToTuple at e
  split at e
  · obtain ⟨v, rfl, hv⟩ := bws1 b
    cases e
    obtain ⟨a, xs, rfl, ha, f⟩ := hv.list s
    exact ⟨_, xs, rfl, .inl ⟨ha, fun p hp => q _ _ _ _ (new_tup s hp f)⟩⟩
  · obtain ⟨v, rfl, hv⟩ := bws1 b
    cases e
    obtain ⟨a, xs, rfl, ha, f⟩ := hv.tup s
    refine ⟨_, xs, rfl, .inr ⟨ha, q _ _ _ _ (new_z s ?_)⟩⟩
    cases hv with
    | fz h => exact h
  · cases e
abbrev rDICT : List V → Hp → VK → Prop := fun xs H Q => ∃ (a : Addr) (kvs : List (Key × V)), xs = [.ref a] ∧ Rd H a (.dK kvs) ∧ ∀ p, H p = none → Q (.ref p) (upd H p (.dK kvs))
theorem ok_toDict : PrOk K rDICT .toDict := fun vs ds Z H sd s b e Q q => by
  have e : prToDict ds = some sd := e
  unfold prToDict at e
  split at e
  · obtain ⟨v, rfl, hv⟩ := bws1 b
    split at e
    · cases e
    · rename_i nr
      cases e
      obtain ⟨a, kvs, rfl, ha, f⟩ := hv.dict s (by simpa using nr)
      exact ⟨_, kvs, rfl, ha, fun p hp => q _ _ _ _ (new_dk s hp f)⟩
  · cases e
abbrev rGCD : List V → Hp → VK → Prop := rGcd
theorem ok_gcd : PrOk K rGCD .gcd := fun vs ds Z H sd s b e Q q => by
  have e : prGcd ds = some sd := e
  unfold prGcd at e
  split at e
  · obtain ⟨v, w, rfl, hv, hw⟩ := bws2 b
    cases e
    rw [hv.int, hw.int]
    exact ⟨_, _, rfl, q _ _ _ _ (new_z s (.int _))⟩
  · cases e
theorem ok_dict0 : PrOk K (fun vs H Q => vs = [] ∧ ∀ p, H p = none → Q (.ref p) (upd H p (.dK []))) .dict0 := fun vs ds Z H sd s b e Q q => by
  have e : prDict0 ds = some sd := e
  unfold prDict0 at e
  split at e
  · cases e
    exact ⟨bws0 b, fun p hp => q _ _ _ _ (new_dk s hp .nil)⟩
  · cases e
/-! ### sum, max, min, all, any, sorted -/
theorem ok_sum : PrOk K (rSum K) .sum := fun vs ds Z H sd s b e Q q => by
  have e : prSum ds = some sd := e
  unfold prSum at e
  split at e
  · obtain ⟨v, rfl, hv⟩ := bws1 b
    obtain ⟨ns, hn, e⟩ := Option.bind_eq_some_iff.mp e
    cases e
    obtain ⟨a, xs, rfl, ha, f⟩ := hv.list s
    rw [allInt_ok f hn] at ha
    exact ⟨a, ns, rfl, ha, q _ _ _ _ (new_z s (.int _))⟩
  · cases e
theorem maxI_ok : ∀ {ns : List Int} {m : Int}, m ∈ ns → (∀ y, y ∈ ns → y ≤ m) → maxI ns = m
  | [], m, h, _ => by simp at h
  | [x], m, h, _ => by simp at h; simp [maxI, h]
  | x :: y :: r, m, h, g => by
    show (if maxI (y :: r) < x then x else maxI (y :: r)) = m
    have gx := g x (by simp)
    have key : ∀ (l : List Int), l ≠ [] → maxI l ∈ l := by
      intro l
      induction l with
      | nil => intro z; exact (z rfl).elim
      | cons a t ih =>
        intro _
        cases t with
        | nil => simp [maxI]
        | cons c t =>
          show (if maxI (c :: t) < a then a else maxI (c :: t)) ∈ _
          split
          · simp
          · exact List.mem_cons_of_mem _ (ih (by simp))
    have k1 := g (maxI (y :: r)) (List.mem_cons_of_mem _ (key _ (by simp)))
    rcases List.mem_cons.mp h with rfl | h
    · split
      · rfl
      · omega
    · have k2 := maxI_ok h (fun z hz => g z (List.mem_cons_of_mem _ hz))
      rw [k2]
      split
      · omega
      · rfl
theorem minI_ok : ∀ {ns : List Int} {m : Int}, m ∈ ns → (∀ y, y ∈ ns → m ≤ y) → minI ns = m
  | [], m, h, _ => by simp at h
  | [x], m, h, _ => by simp at h; simp [minI, h]
  | x :: y :: r, m, h, g => by
    show (if x < minI (y :: r) then x else minI (y :: r)) = m
    have gx := g x (by simp)
    have key : ∀ (l : List Int), l ≠ [] → minI l ∈ l := by
      intro l
      induction l with
      | nil => intro z; exact (z rfl).elim
      | cons a t ih =>
        intro _
        cases t with
        | nil => simp [minI]
        | cons c t =>
          show (if a < minI (c :: t) then a else minI (c :: t)) ∈ _
          split
          · simp
          · exact List.mem_cons_of_mem _ (ih (by simp))
    have k1 := g (minI (y :: r)) (List.mem_cons_of_mem _ (key _ (by simp)))
    rcases List.mem_cons.mp h with rfl | h
    · split
      · rfl
      · omega
    · have k2 := minI_ok h (fun z hz => g z (List.mem_cons_of_mem _ hz))
      rw [k2]
      split
      · omega
      · rfl
theorem ok_max : PrOk K (rMax K) .max := fun vs ds Z H sd s b e Q q => by
  have e : prMax ds = some sd := e
  unfold prMax at e
  split at e
  · obtain ⟨v, rfl, hv⟩ := bws1 b
    obtain ⟨ns, hn, e⟩ := Option.bind_eq_some_iff.mp e
    split at e
    · rename_i hz
      cases e
      obtain ⟨a, xs, rfl, ha, f⟩ := hv.list s
      rw [allInt_ok f hn] at ha
      refine ⟨a, ns, rfl, ha, hz, fun m hm hle => ?_⟩
      rw [maxI_ok hm hle] at q
      exact q _ _ _ _ (new_z s (.int _))
    · cases e
  · cases e
/-- min of alike data: one of them, as it stands -/
def rMinD (K : PySem.W.Frag) : List V → Hp → VK → Prop := fun vs H Q => ∃ (a : Addr) (xs : List V) (x : D) (ds : List D), vs = [V.ref a] ∧ SqL K H a xs ∧ DpAll K H xs (x :: ds) ∧ PySem.W.AlikeAll (x :: ds) ∧ PyData.depthAll (x :: ds) ≤ 60 ∧ ∀ (i : Nat) (v : V), xs[i]? = some v → (x :: ds)[i]? = some (PySem.W.minD x ds) → Q v H
theorem cr_minD {X : Cx} (hc : X.calm = true) (hu : X.A.units + 65 < cLine) : CallR X (.builtin "min") (rMinD X.K) := by
  intro pins s σ H vs us Q I r h
  obtain ⟨a, xs, x, ds, rfl, hs, hd, al, hdep, q⟩ := h
  obtain ⟨its, rv, hl, hz⟩ := I.list hs
  rw [Vals.ref1 r]
  obtain ⟨as, hr⟩ := Dp.readsAll I (x :: ds) xs its hd rv
  have hl3 := rv.length
  have hr' : ReadsAll s.heap (its.toArray).toList (x :: ds) as := by rw [List.toList_toArray]; exact hr
  refine PySem.call_min_walkH (PySem.W.iter_listW (A := X.A.in1) (I.ok.hd hc) hl.isList fun s₂ e W st hfp hw hk => ?_)
  have hn : its.toArray.size = ds.length + 1 := PySem.W.readsAll_len hr'
  have hl2 : its.length = ds.length + 1 := by rw [List.size_toArray] at hn; exact hn
  refine ⟨_, _, _, _, _, _, _, s.heap, _, rfl, W, st, hfp, by omega, hw, hk, PySem.W.cmpIn_lt (A := X.A.in1) hr' al (by show X.A.units + 1 + _ < _; omega), fun v s' hP m => ?_⟩
  obtain ⟨h', tk, rfl, hk'⟩ := PySem.W.moved_old e rfl m
  have e2 := PySem.W.argBest_fold PySem.W.dataLt PyData.none x ds ds.length (Nat.le_refl _)
  have e1 : its.toArray.size - 1 = ds.length := by omega
  rw [e1] at hP
  obtain ⟨e3, e2⟩ := e2
  rw [List.take_length] at e2
  rw [List.getElem?_toArray] at hP
  obtain ⟨i, hi⟩ : ∃ i, i = PySem.argBest (fun i j => PySem.W.dataLt ((x :: ds).getD i PyData.none) ((x :: ds).getD j PyData.none)) ds.length := ⟨_, rfl⟩
  rw [← hi] at hP e2 e3
  have hil : i < xs.length := by
    have := (List.getElem?_eq_some_iff.mp hP).1
    omega
  have hv : xs[i]? = some xs[i] := List.getElem?_eq_getElem hil
  obtain ⟨u, hu1, ru⟩ := Vals.get rv hv
  rw [hP] at hu1
  cases hu1
  refine ⟨xs[i], H, I.kept hk', ru, q i _ hv ?_⟩
  have hid : i < (x :: ds).length := by simp; omega
  rw [List.getD_eq_getElem?_getD, List.getElem?_eq_getElem hid] at e2
  rw [List.getElem?_eq_getElem hid]
  exact congrArg some e2
def rMIN (K : PySem.W.Frag) : List V → Hp → VK → Prop := orC (rMin K) (rMinD K)
theorem alikes_of {xs : List D} (h : alikesB xs = true) : PySem.W.AlikeAll xs ∧ flatDs xs = true ∧ PyData.depthAll xs ≤ 60 := by
  unfold alikesB at h
  simp only [Bool.and_eq_true, List.all_eq_true, Bool.not_eq_true', decide_eq_true_eq] at h
  obtain ⟨⟨⟨h1, h2⟩, h3⟩, h4⟩ := h
  exact ⟨⟨h1, fun x hx e => by have := h2 x hx; rw [e] at this; cases this⟩, h3, h4⟩
theorem ok_min : PrOk K (rMIN K) .min := fun vs ds Z H sd s b e Q q => by
  have e : prMin ds = some sd := e
  unfold prMin at e
  split at e
  · obtain ⟨v, rfl, hv⟩ := bws1 b
    obtain ⟨a, xs, rfl, ha, f⟩ := hv.list s
    split at e
    · rename_i ns hn
      split at e
      · rename_i hz
        cases e
        rw [allInt_ok f hn] at ha
        refine .inl ⟨a, ns, rfl, ha, hz, fun m hm hle => ?_⟩
        rw [minI_ok hm hle] at q
        exact q _ _ _ _ (new_z s (.int _))
      · cases e
    · split at e
      · split at e
        · rename_i ha2
          cases e
          obtain ⟨h1, h2, h3⟩ := alikes_of ha2
          refine .inr ⟨a, xs, _, _, rfl, ha, f.dp s h2, h1, h3, fun i v hv he => ?_⟩
          exact q _ _ _ _ (new_z s (f.get hv he))
        · cases e
      · cases e
  · cases e
/-- range(n), a thing of its own -/
def rRNGV : List V → Hp → VK → Prop := fun vs H Q => ∃ j : Int, vs = [V.int j] ∧ ∀ p, H p = none → Q (.ref p) (upd H p (.rng 0 j))
theorem cr_rngv {X : Cx} : CallR X (.type "range") rRNGV := by
  intro pins s σ H vs us Q I r h
  obtain ⟨j, rfl, q⟩ := h
  obtain ⟨u1, rfl, rj⟩ := vals1 r
  obtain ⟨t, rfl⟩ := rj
  refine call_range_1 ⟨.ref s.heap.objs.size, upd H s.heap.objs.size (.rng 0 j), I.laid (t' := s.toks + 1 + 1) (fun b o e => Heap.get?_push_of_some _ e) (Nat.le_refl _) ?_, rfl, q _ (I.hok.fresh (Nat.le_refl _))⟩
  exact ⟨_, t, _, Heap.get?_push_size _ rfl⟩
theorem ok_rngv : PrOk K rRNGV .rngv := fun vs ds Z H sd s b e Q q => by
  have e : prRngv ds = some sd := e
  unfold prRngv at e
  split at e
  · obtain ⟨v, rfl, hv⟩ := bws1 b
    split at e
    · cases e
      refine ⟨_, by rw [hv.int], fun p hp => ?_⟩
      have zp : Z p = none := sub_none s hp
      refine q _ (keepF Z (upd H p (.rng 0 _)) fun a => a = p) _ (fun _ => False) ⟨keep_same fun a e => by rw [e]; exact zp, same_new hp, fun a o h => ?_, fun _ h => h.elim, keep_sub (sub_new s hp), ⟨.rg ?_, fun _ h => h⟩⟩
      · by_cases ea : a = p
        · exact .inr (by rw [ea]; exact hp)
        · rw [keepF_out (F := fun a => a = p) ea] at h
          exact .inl h
      · rw [keepF_in (F := fun a => a = p) rfl]
        exact upd_same
    · cases e
  · cases e
theorem ok_all : PrOk K (rAll K) .all := fun vs ds Z H sd s b e Q q => by
  have e : prAll ds = some sd := e
  unfold prAll at e
  split at e
  · obtain ⟨v, rfl, hv⟩ := bws1 b
    obtain ⟨ns, hn, e⟩ := Option.bind_eq_some_iff.mp e
    cases e
    obtain ⟨a, xs, rfl, ha, f⟩ := hv.list s
    rw [allBl_ok f hn] at ha
    exact ⟨a, ns, rfl, ha, q _ _ _ _ (new_z s (.bl _))⟩
  · cases e
theorem ok_any : PrOk K (rAny K) .any := fun vs ds Z H sd s b e Q q => by
  have e : prAny ds = some sd := e
  unfold prAny at e
  split at e
  · obtain ⟨v, rfl, hv⟩ := bws1 b
    obtain ⟨ns, hn, e⟩ := Option.bind_eq_some_iff.mp e
    cases e
    obtain ⟨a, xs, rfl, ha, f⟩ := hv.list s
    rw [allBl_ok f hn] at ha
    exact ⟨a, ns, rfl, ha, q _ _ _ _ (new_z s (.bl _))⟩
  · cases e
theorem sortI_eq {l l' : List Int} (p : l'.Perm l) (h : l'.Pairwise (· ≤ ·)) : l' = sortI l := by
  refine List.Perm.eq_of_pairwise (le := fun a b => a ≤ b) (fun a b _ _ x y => by omega) h ?_ (p.trans (List.mergeSort_perm _ _).symm)
  have z := List.pairwise_mergeSort (le := fun a b : Int => decide (a ≤ b)) (fun a b c x y => by simp at x y ⊢; omega) (fun a b => by simp; omega) l
  exact z.imp fun x => by simpa using x
theorem strLe_iff {a b : Str} : strLe a b = true ↔ a.cps.toList ≤ b.cps.toList := by simp [strLe]
theorem str_ext {a b : Str} (h : a.cps.toList = b.cps.toList) : a = b := by
  obtain ⟨a⟩ := a
  obtain ⟨b⟩ := b
  have h : a.toList = b.toList := h
  rw [Array.toList_inj.mp h]
theorem risingS_pw : ∀ (p : Str) (l : List Str), risingS p l = true → (p :: l).Pairwise fun a b => strLe a b = true
  | p, [], _ => by simp
  | p, x :: r, h => by
    unfold risingS at h
    simp only [Bool.and_eq_true, Bool.not_eq_true'] at h
    have ih := risingS_pw x r h.2
    have hx : strLe p x = true := by
      rw [strLe_iff]
      have h1 := h.1
      rw [ltCps_eq] at h1
      simpa using h1
    rw [List.pairwise_cons] at ih ⊢
    refine ⟨fun y hy => ?_, List.pairwise_cons.mpr ih⟩
    rcases List.mem_cons.mp hy with rfl | hy
    · exact hx
    · rw [strLe_iff] at hx ⊢
      exact List.le_trans hx (strLe_iff.mp (ih.1 y hy))
theorem sortedS_pw : ∀ {l : List Str}, sortedS l = true → l.Pairwise fun a b => strLe a b = true
  | [], _ => .nil
  | x :: r, h => risingS_pw x r h
theorem sortS_eq {l l' : List Str} (p : l'.Perm l) (h : sortedS l' = true) : l' = sortS l := by
  refine List.Perm.eq_of_pairwise (le := fun a b => strLe a b = true) (fun a b _ _ x y => str_ext (List.le_antisymm (strLe_iff.mp x) (strLe_iff.mp y))) (sortedS_pw h) ?_ (p.trans (List.mergeSort_perm _ _).symm)
  refine List.pairwise_mergeSort (fun a b c x y => ?_) (fun a b => ?_) l
  · rw [strLe_iff] at x y ⊢
    exact List.le_trans x y
  · simp only [Bool.or_eq_true, strLe_iff]
    exact List.le_total _ _
/-- sorted of a dict whose keys are texts -/
def rSORTD : List V → Hp → VK → Prop := fun xs H Q => ∃ (a : Addr) (kvs : List (Key × V)) (ks : List Str), xs = [.ref a] ∧ Rd H a (.dK kvs) ∧ kvs.map (·.1) = ks.map Sum.inr ∧ ks.length < 64 ∧
    ∀ ys p, ys.Perm ks → sortedS ys = true → H p = none → Q (.ref p) (upd H p (.lst (ys.map V.str)))
def rSORT (K : PySem.W.Frag) : List V → Hp → VK → Prop := orC (orC (rSortedS K) (rSortedI K)) rSORTD
theorem cr_SORT {X : Cx} (c : X.calm = true) : CallR X (.builtin "sorted") (rSORT X.K) := CallR.or (CallR.or cr_sortedS cr_sortedI) (call_sortedD c)
theorem allStr_keys : ∀ {kvs : List (Key × V)} {ds : List (D × D)} {ss : List Str}, FzK K Z kvs ds → allStr (ds.map (·.1)) = some ss → kvs.map (·.1) = ss.map Sum.inr
  | _, _, ss, .nil, h => by
    cases h
    rfl
  | _, _, ss, .cons (k := k) f r, h => by
    cases k with
    | inl i => cases h
    | inr x =>
      simp only [List.map_cons, kD, allStr, Option.map_eq_some_iff] at h
      obtain ⟨t, h, rfl⟩ := h
      rw [List.map_cons, List.map_cons, allStr_keys r h]
theorem ok_sorted : PrOk K (rSORT K) .sorted := fun vs ds Z H sd s b e Q q => by
  have e : prSorted ds = some sd := e
  unfold prSorted at e
  split at e
  · obtain ⟨v, rfl, hv⟩ := bws1 b
    obtain ⟨a, xs, rfl, ha, f⟩ := hv.list s
    split at e
    · rename_i ss hs
      split at e
      · rename_i hz
        cases e
        rw [allStr_ok f hs] at ha
        refine .inl (.inl ⟨a, ss, rfl, ha, hz, fun ys p hp hsd hn => ?_⟩)
        rw [sortS_eq hp hsd]
        exact q _ _ _ _ (new_lst s hn (fzs_strs _))
      · cases e
    · obtain ⟨ns, hn, e⟩ := Option.bind_eq_some_iff.mp e
      cases e
      rw [allInt_ok f hn] at ha
      refine .inl (.inr ⟨a, ns, rfl, ha, fun ys p hp hsd hn => ?_⟩)
      rw [sortI_eq hp hsd]
      exact q _ _ _ _ (new_lst s hn (fzs_ints _))
  · obtain ⟨v, rfl, hv⟩ := bws1 b
    split at e
    · cases e
    · rename_i nr
      obtain ⟨a, kvs, rfl, ha, f⟩ := hv.dict s (by simpa using nr)
      split at e
      · rename_i ss hs
        split at e
        · rename_i hz
          cases e
          refine .inr ⟨a, kvs, ss, rfl, ha, allStr_keys f hs, hz, fun ys p hp hsd hn => ?_⟩
          rw [sortS_eq hp hsd]
          exact q _ _ _ _ (new_lst s hn (fzs_strs _))
        · cases e
      · cases e
  · cases e
end
end Mi
end
section
namespace Mi
open PySem PySem.Spec PyProof.Rows L2
section
variable {K : PySem.W.Frag} {Z H Z' H' : Hp} {ρ ρ' : Ev} {σ : L2.St} {Fs Fs' : Nat → Fp} {A A' : Fp}
/-! ### isinstance -/
def tyName : Nat → String
  | 0 => "int"
  | 1 => "bool"
  | 2 => "str"
  | 3 => "list"
  | 4 => "tuple"
  | 5 => "dict"
  | _ => "object"
def tyD : D → String
  | .none => "NoneType"
  | .bool _ => "bool"
  | .int _ => "int"
  | .str _ => "str"
  | .list _ => "list"
  | .tuple _ => "tuple"
  | .dict _ => "dict"
theorem ty_of {v : V} {d : D} (s : Sub Z H) (h : Bw K Z H v d) (nr : isRgD d = false) : TyX K H v (.type (tyD d)) := by
  have hl : ∀ {a : Addr} {xs : List V}, SqL K H a xs → TyX K H (.ref a) (.type "list") := fun q => by
    rcases q with (q | ⟨o, q⟩) | ⟨o, its, n, q, c, _⟩
    · exact .base (.lst q)
    · exact .base (.frz q)
    · exact .kList q c
  have ht : ∀ {a : Addr} {xs : List V}, SqT K H a xs → TyX K H (.ref a) (.type "tuple") := fun q => by
    rcases q with (q | ⟨o, q⟩) | ⟨o, its, n, q, c, _⟩
    · exact .base (.tup q)
    · exact .fTuple q
    · exact .kTuple q c
  have hd : ∀ {a : Addr} {xs : List (Key × V)}, Rd H a (.dK xs) → TyX K H (.ref a) (.type "dict") := fun q => by
    rcases q with q | ⟨o, q⟩
    · exact .base (.dK q)
    · exact .fDict q
  cases d with
  | none => rw [h.non]; exact .base .non
  | bool b => rw [h.bl]; exact .base (.bl b)
  | int b => rw [h.int]; exact .base (.int b)
  | str b => rw [h.str]; exact .base (.str b)
  | list b =>
    obtain ⟨a, xs, rfl, ha, _⟩ := h.list s
    exact hl ha
  | tuple b =>
    obtain ⟨a, xs, rfl, ha, _⟩ := h.tup s
    exact ht ha
  | dict b =>
    obtain ⟨a, xs, rfl, ha, _⟩ := h.dict s nr
    exact hd ha
def tagD : D → _root_.Fin 7
  | .none => 0
  | .bool _ => 1
  | .int _ => 2
  | .str _ => 3
  | .list _ => 4
  | .tuple _ => 5
  | .dict _ => 6
def repD : _root_.Fin 7 → D
  | 0 => .none
  | 1 => .bool true
  | 2 => .int 0
  | 3 => .str Str.empty
  | 4 => .list []
  | 5 => .tuple []
  | _ => .dict []
theorem kit_tab : ∀ (a : _root_.Fin 7) (t : _root_.Fin 6), kitB (tyD (repD a)) (tyName t) = some (tyHas (repD a) t) := by decide +kernel
theorem kit_D (d : D) (t : Nat) (ht : t < 6) : kitB (tyD d) (tyName t) = some (tyHas d t) := by
  have h := kit_tab (tagD d) ⟨t, ht⟩
  have e : tyD (repD (tagD d)) = tyD d := by cases d <;> rfl
  have e2 : tyHas (repD (tagD d)) t = tyHas d t := by
    have q : t = 0 ∨ t = 1 ∨ t = 2 ∨ t = 3 ∨ t = 4 ∨ t = 5 := by omega
    rcases q with rfl | rfl | rfl | rfl | rfl | rfl <;> cases d <;> rfl
  rw [e] at h
  rw [← e2]
  exact h
/-- isinstance(x, T) -/
def rISI (K : PySem.W.Frag) (t : Nat) : List V → Hp → VK → Prop
  | [x], H, Q => rIsi K [x, .ty (tyName t)] H Q
  | _, _, _ => False
theorem ok_isi (t : Nat) (ht : t < 6) : PrOk K (rISI K t) (.isi [t]) := fun vs ds Z H sd s b e Q q => by
  have e : prIsi [t] ds = some sd := e
  unfold prIsi at e
  split at e
  · obtain ⟨v, rfl, hv⟩ := bws1 b
    split at e
    · cases e
    · rename_i nr
      cases e
      refine ⟨v, _, _, _, _, rfl, .ty _, ty_of s hv (by simpa using nr), kit_ty (kit_D _ t ht), ?_⟩
      have z := q (.bl (tyHas _ t)) Z H _ (new_z s (by simpa using Fz.bl _))
      exact z
  · cases e
/-! ### displays -/
theorem plain_ok : ∀ {vs : List V} {xs : List Ar} {ds : List D}, Args K Z σ vs xs → plain xs = some ds → Fzs K Z vs ds
  | _, _, _, .nil, e => by cases e; exact .nil
  | _, _, _, .val h a, e => by
    simp only [plain, Option.map_eq_some_iff] at e
    obtain ⟨ds, e, rfl⟩ := e
    exact .cons h (plain_ok a e)
  | _, _, _, .ref h a, e => by cases e
theorem se_tup {cf : CF} {as : As} {ta : TA} (ha : SA K ta (evA cf as)) : SE K (tTup ta) (evE cf (.tup as)) := fun ρ σ Z H Fs sd ρ' r ev Q q => by
  simp only [evE, Option.bind_eq_some_iff] at ev
  obtain ⟨⟨xs, ρ1⟩, h1, ds, h2, h3⟩ := ev
  split at h3
  · rename_i hl
    cases h3
    refine ha ρ σ Z H Fs xs ρ1 r h1 _ fun vs Z1 H1 Fs1 t1 r1 a1 => ?_
    have f := plain_ok a1 h2
    refine ⟨by rw [f.length]; exact hl, fun p hp => ?_⟩
    exact q _ _ _ _ _ (((new_tup r1.sub hp f).res r1).trans t1)
  · cases h3
theorem se_lst {cf : CF} {as : As} {ta : TA} (ha : SA K ta (evA cf as)) : SE K (tLst ta) (evE cf (.lst as)) := fun ρ σ Z H Fs sd ρ' r ev Q q => by
  simp only [evE, Option.bind_eq_some_iff] at ev
  obtain ⟨⟨xs, ρ1⟩, h1, ds, h2, h3⟩ := ev
  split at h3
  · rename_i hl
    cases h3
    refine ha ρ σ Z H Fs xs ρ1 r h1 _ fun vs Z1 H1 Fs1 t1 r1 a1 => ?_
    have f := plain_ok a1 h2
    refine ⟨by rw [f.length]; exact hl, fun p hp => ?_⟩
    exact q _ _ _ _ _ (((new_lst r1.sub hp f).res r1).trans t1)
  · cases h3
/-! ### what changes the thing that a name holds -/
/-- the owned list, its cell, its items -/
theorem own_list {v : V} {ds : List D} {F : Fp} (h : RepS K Z H (.u .z) v (.list ds) F) : ∃ a vs, v = .ref a ∧ Z a = none ∧ H a = some (.lst vs) ∧ Fzs K Z vs ds ∧ ∀ b, F b ↔ b = a := by
  rcases h with ⟨_, h, _⟩ | ⟨a, Fc, rfl, z, h⟩
  · cases h
  · rcases h with ⟨vs, ds', e, hH, hl, ap, ch⟩ | ⟨kvs, ds', e, _⟩
    · cases e
      refine ⟨a, vs, rfl, z, hH, Fzs.mk hl fun i v d x y => (ch i v d x y).1, fun b => (ap.all b).trans ⟨fun q => q.elim id fun ⟨i, hi⟩ => ?_, .inl⟩⟩
      have hi' := ap.lt i b hi
      exact ((ch i vs[i] ds[i] (List.getElem?_eq_getElem (by omega)) (List.getElem?_eq_getElem hi')).2 b hi).elim
    · cases e
theorem own_dict {v : V} {ds : List (D × D)} {F : Fp} (h : RepS K Z H (.u .z) v (.dict ds) F) : ∃ a kvs, v = .ref a ∧ Z a = none ∧ H a = some (.dK kvs) ∧ FzK K Z kvs ds ∧ ∀ b, F b ↔ b = a := by
  rcases h with ⟨_, h, _⟩ | ⟨a, Fc, rfl, z, h⟩
  · cases h
  · rcases h with ⟨vs, ds', e, _⟩ | ⟨kvs, ds', e, hH, hl, ap, ch⟩
    · cases e
    · cases e
      refine ⟨a, kvs, rfl, z, hH, fzK_mk hl fun i v d x y => (ch i v d x y).1, fun b => (ap.all b).trans ⟨fun q => q.elim id fun ⟨i, hi⟩ => ?_, .inl⟩⟩
      have hi' := ap.lt i b hi
      have hl' := congrArg List.length hl
      rw [List.length_map, List.length_map] at hl'
      exact ((ch i kvs[i] ds[i] (List.getElem?_eq_getElem (by omega)) (List.getElem?_eq_getElem hi')).2 b hi).elim
/-- the cell of slot i is written -/
theorem R.write {i : Nat} {a : Addr} {o : HO} {sd : SD} (r : R K Z H ρ σ Fs) (z : Z a = none) (hF : ∀ b, Fs i b ↔ b = a) (hv : σ[i]? = some (some (.ref a))) (rp : RepS K Z (upd H a o) sd.1 (.ref a) sd.2 (Fs i)) :
    R K Z (upd H a o) (ρ.set i (some sd)) σ Fs where
  len := by simp [r.len]
  sub := fun b u e => by
    have hb : b ≠ a := fun q => by rw [q, z] at e; cases e
    rcases r.sub b u e with q | ⟨w, q⟩
    · exact .inl (by rw [upd_ne hb]; exact q)
    · exact .inr ⟨w, by rw [upd_ne hb]; exact q⟩
  rep := fun j x e => by
    rw [getO_set] at e
    by_cases hj : i = j
    · subst hj
      rw [if_pos rfl] at e
      split at e
      · cases e
        exact ⟨_, hv, rp⟩
      · cases e
    · rw [if_neg hj] at e
      obtain ⟨v, h1, h2⟩ := r.rep j x e
      refine ⟨v, h1, h2.mono (Same.refl _) fun b f => ⟨upd_ne fun q => ?_, (h2.foot b f).1⟩⟩
      exact hj (r.one i j b ((hF b).mpr q) f)
  out := fun j e b f => by
    rw [getO_set] at e
    by_cases hj : i = j
    · subst hj
      rw [if_pos rfl] at e
      split at e
      · cases e
      · rename_i hl
        refine r.out i ?_ b f
        unfold getO
        rw [List.getElem?_eq_none_iff.mpr (by omega)]
        rfl
    · rw [if_neg hj] at e
      exact r.out j e b f
  one := r.one
theorem tr_write {a : Addr} {o u : HO} {i : Nat} (h : H a = some u) (f : Fs i a) : Tr Z H (Al Fs) Z (upd H a o) (Al Fs) where
  zz := Same.refl _
  hh := fun b w e n => by
    rw [upd_ne fun q => n (by rw [q]; exact ⟨i, f⟩)]
    exact e
  nw := fun _ h => .inl h
  zn := fun _ _ h => .inl h
theorem set_fz {vs : List V} {ds : List D} {j : Nat} {v : V} {d : D} (f : Fzs K Z vs ds) (h : Fz K Z v d) : Fzs K Z (vs.set j v) (ds.set j d) := by
  refine Fzs.mk (by simp [f.length]) fun i x y e1 e2 => ?_
  rw [List.getElem?_set] at e1 e2
  by_cases hj : j = i
  · rw [if_pos hj] at e1 e2
    split at e1
    · split at e2
      · cases e1; cases e2; exact h
      · cases e2
    · cases e1
  · rw [if_neg hj] at e1 e2
    exact f.get e1 e2
theorem drop_fz : ∀ {vs : List V} {ds : List D}, Fzs K Z vs ds → Fzs K Z vs.dropLast ds.dropLast
  | _, _, .nil => .nil
  | _, _, .cons _ .nil => .nil
  | _, _, .cons h (.cons g r) => .cons h (drop_fz (.cons g r))
theorem erase_fz : ∀ {vs : List V} {ds : List D} (k : Nat), Fzs K Z vs ds → Fzs K Z (vs.eraseIdx k) (ds.eraseIdx k)
  | _, _, _, .nil => .nil
  | _, _, 0, .cons _ r => r
  | _, _, k + 1, .cons h r => .cons h (erase_fz k r)
/-- a list's method: what it reads (r), what it tells -/
def MuOk (K : PySem.W.Frag) (r : V → List V → Hp → VK → Prop) (m : M) : Prop := ∀ a vs ds d' xs ws es y Z H, H a = some (.lst vs) → Fzs K Z vs ds → Sub Z H → Bws K Z H ws es → (∀ w ∈ ws, ∀ e ∈ es, True) → xs = ws → mu m (.list ds) es = some (d', y) →
  (m = .app → ∃ e w, es = [e] ∧ ws = [w] ∧ Fz K Z w e) → ∀ Q : VK, (∀ vs' ds' v, d' = .list ds' → Fzs K Z vs' ds' → Fz K Z v y → Q v (upd H a (.lst vs'))) → r (.ref a) ws H Q
theorem mu_app : MuOk K rAppend .app := fun a vs ds d' xs ws es y Z H hH f s b _ _ e ha Q q => by
  obtain ⟨e1, w, rfl, rfl, fw⟩ := ha rfl
  simp only [mu] at e
  split at e
  · rename_i hl
    cases e
    exact ⟨a, vs, w, rfl, rfl, hH, by rw [f.length]; exact hl, q _ _ _ rfl (f.app (.cons fw .nil)) .non⟩
  · cases e
def rPOP : V → List V → Hp → VK → Prop := fun x vs H Q => rPop x vs H Q ∨ rPopAt x vs H Q
theorem mu_pop : MuOk K rPop .pop := fun a vs ds d' xs ws es y Z H hH f s b _ _ e _ Q q => by
  cases b with
  | nil =>
    simp only [mu, Option.map_eq_some_iff] at e
    obtain ⟨x, hx, e⟩ := e
    cases e
    obtain ⟨v, hv, fv⟩ := f.at hx
    exact ⟨a, vs, v, rfl, rfl, hH, by rw [f.length]; exact hv, q _ _ _ rfl (drop_fz f) fv⟩
  | cons h r => simp [mu] at e
theorem mu_popAt : MuOk K rPopAt .popAt := fun a vs ds d' xs ws es y Z H hH f s b n1 n2 e n3 Q q => by
  cases b with
  | nil => simp [mu] at e
  | cons h r =>
    cases r with
    | cons _ _ => unfold mu at e; split at e <;> simp_all
    | nil =>
      rename_i w d
      cases d with
      | int i =>
        simp only [mu] at e
        split at e
        · rename_i hz
          simp only [Option.bind_eq_some_iff, Option.map_eq_some_iff] at e
          obtain ⟨k, hk, x, hx, e⟩ := e
          cases e
          obtain ⟨v, hv, fv⟩ := f.at hx
          rw [h.int]
          exact ⟨a, vs, i, k, v, rfl, rfl, hH, hz.1, hz.2, by rw [f.length]; exact hk, hv, q _ _ _ rfl (erase_fz k f) fv⟩
        · cases e
      | _ => simp [mu] at e
/-- remove: the first item that equals it -/
def rRemD (K : PySem.W.Frag) : V → List V → Hp → VK → Prop := fun x vs H Q => ∃ (l : Addr) (xs : List V) (y : V) (d : D) (ds : List D) (j : Nat) (z : D), x = .ref l ∧ vs = [y] ∧ H l = some (.lst xs) ∧ DpAll K H xs ds ∧ Dp K H y d ∧
  SeqAt.shaped (.list ds) = true ∧ SeqAt.shaped d = true ∧ ds[j]? = some z ∧ PyData.eqv z d = true ∧ (∀ (m : Nat) (z' : D), m < j → ds[m]? = some z' → PyData.eqv z' d = false) ∧ Q .non (upd H l (.lst (xs.eraseIdx j)))
theorem mt_remD {X : Cx} (hu : X.A.units + 65 < cLine) : MtR X "list.remove" (rRemD X.K) := by
  intro pins s σ H x vs v us Q I rx rxs h
  obtain ⟨l, xs, y, d, ds, j, z, rfl, rfl, hH, ha, hy, sl, sd, hz, hzj, hno, q⟩ := h
  cases rx
  obtain ⟨uy, rfl, ry⟩ := rxs.one
  obtain ⟨zz, its, n, rv, hl, e⟩ := I.lstM hH
  obtain ⟨bs, r1⟩ := Dp.reads I d y uy hy ry
  have hxs : PyData.canLayAll0 ds = true := SeqAt.canLay_of_shaped sl
  have hroom : X.A.units + 1 + min (PyData.depthAll ds) d.depth < cLine := room_in_shaped sd hu
  obtain ⟨as, h4⟩ := Dp.readsAll I ds _ its ha rv
  have hn : its.length = ds.length := SeqAt.ReadsAll.length ds its as h4
  have hmap : its.map (SeqAt.readOf s.heap) = ds := SeqAt.readsAll_map ds its as hxs h4
  obtain ⟨hjd, _⟩ := List.getElem?_eq_some_iff.mp hz
  have hjl : j < its.length := by omega
  have hj : j < its.toArray.size := by simpa using hjl
  have at_ : ∀ (m : Nat) (hm : m < its.toArray.size) (z' : D), ds[m]? = some z' → SeqAt.readOf s.heap its.toArray[m] = z' := by
    intro m hm z' hz'
    have hml : m < its.length := by simpa using hm
    rw [← hmap, List.getElem?_map, List.getElem?_eq_getElem hml] at hz'
    have e1 : SeqAt.readOf s.heap its[m] = z' := Option.some.inj (show some (SeqAt.readOf s.heap its[m]) = some z' from hz')
    simpa using e1
  refine call_meets PySem.F.slot_list_remove ⟨_, e, rfl⟩ PySem.F.entry_list_remove (PySem.F.args_list_remove_2 _ _)
    (SeqAt.list_removeAt l its.toArray n none #[] uy (fun u => PyData.eqv (SeqAt.readOf s.heap u) d) j hj ?_ ?_ (by rw [List.size_toArray]; omega)) ⟨e, SeqAt.items_eqAt (vs := its.toArray) (show ReadsAll s.heap its.toArray.toList ds as from h4) r1 hxs (SeqAt.canLay_of_shaped sd) hroom, ?_⟩
  · show PyData.eqv (SeqAt.readOf s.heap its.toArray[j]) d = true
    rw [at_ j hj z hz]
    exact hzj
  · intro m hm hmj
    have hz' : ds[m]? = some ds[m] := List.getElem?_eq_getElem (by omega)
    show PyData.eqv (SeqAt.readOf s.heap its.toArray[m]) d = false
    rw [at_ m hm _ hz']
    exact hno m _ hmj hz'
  · refine ⟨.non, _, I.lset (its' := its.eraseIdx j) (t' := s.toks) hH e ?_ (rv.eraseIdx j) ?_, rfl, q⟩
    · show its.toArray.eraseIdxIfInBounds j = (its.eraseIdx j).toArray
      rw [List.eraseIdxIfInBounds_toArray]
    · have := len_erase xs j
      omega
theorem find_of {xs : List D} {d : D} {j : Nat} (h : (xs.findIdx? fun z => PyData.eqv z d) = some j) : ∃ z, xs[j]? = some z ∧ PyData.eqv z d = true ∧ ∀ (m : Nat) (z' : D), m < j → xs[m]? = some z' → PyData.eqv z' d = false := by
  obtain ⟨h1, h2, h3⟩ := List.findIdx?_eq_some_iff_getElem.mp h
  refine ⟨xs[j], List.getElem?_eq_getElem h1, h2, fun m z' hm hz => ?_⟩
  have h4 := h3 m hm
  obtain ⟨hl, e⟩ := List.getElem?_eq_some_iff.mp hz
  rw [← e]
  simpa using h4
theorem mu_rem : MuOk K (rRemD K) .rem := fun a vs ds d' xs ws es y Z H hH f s b n1 n2 e n3 Q q => by
  cases b with
  | nil => simp [mu] at e
  | cons h r =>
    cases r with
    | cons _ _ => unfold mu at e; split at e <;> simp_all
    | nil =>
      rename_i w d
      simp only [mu] at e
      split at e
      · rename_i hk
        simp only [Option.map_eq_some_iff] at e
        obtain ⟨j, hj, e⟩ := e
        cases e
        obtain ⟨h1, h2, h3, h4⟩ := eqOk_of hk
        obtain ⟨z, z1, z2, z3⟩ := find_of hj
        have hd := f.dp s (by unfold flatD at h4; exact h4)
        exact ⟨a, vs, w, d, ds, j, z, rfl, rfl, hH, hd, h.dp s h3, h2, h1, z1, z2, z3, q _ _ _ rfl (erase_fz j f) .non⟩
      · cases e
/-- x.index(e), x a name -/
theorem se_idx {cf : CF} {i : Nat} {e : E} {te : TE} (he : SE K te (evE cf e)) : SE K (tBM K "list" (rIndexD K) (tVar i) (tCons te tNil)) (evE cf (.idx i e)) := fun ρ σ Z H Fs sd ρ' r ev Q q => by
  simp only [evE, Option.bind_eq_some_iff] at ev
  obtain ⟨⟨s0, d0⟩, h0, ev⟩ := ev
  split at ev
  · rename_i ds0 e0
    have e0 : d0 = .list ds0 := e0
    subst e0
    split at ev
    · rename_i hs0
      simp only [Option.bind_eq_some_iff] at ev
      obtain ⟨⟨⟨sx, dx⟩, ρ1⟩, h1, ⟨s1, d1⟩, h3, ev⟩ := ev
      split at ev
      · rename_i xs e1
        have e1 : d1 = .list xs := e1
        subst e1
        split at ev
        · rename_i hk
          simp only [Bool.and_eq_true] at hk
          simp only [Option.map_eq_some_iff] at ev
          obtain ⟨j, hj, ev⟩ := ev
          cases ev
          obtain ⟨v, hσ, rp⟩ := r.rep i _ h0
          obtain ⟨a, vs0, rfl, hq0, _⟩ := (Bw.of hs0 rp).list r.sub
          refine ⟨_, hσ, .inl ⟨rfl, vs0, hq0⟩, ?_⟩
          refine he.sf ρ σ Z H Fs _ _ r h1 _ fun w Z1 H1 Fs1 t1 r1 f1 => ?_
          obtain ⟨v1, hσ1, rp1⟩ := r1.rep i _ h3
          rw [hσ] at hσ1
          cases hσ1
          obtain ⟨g1, g2, g3, g4⟩ := eqOk_of hk.2
          obtain ⟨z, z1, z2, z3⟩ := find_of hj
          have bw : Bw K Z1 H1 (.ref a) (.list xs) := Bw.of hk.1 rp1
          exact ⟨a, w, dx, xs, j, z, rfl, rfl, bw.dp r1.sub g4, f1.dp r1.sub g3, g2, g1, z1, z2, z3, q _ _ _ _ _ (res_z t1 r1 (.int _))⟩
        · cases ev
      · cases ev
    · cases ev
  · cases ev
theorem rep_fz {vs : List V} {ds : List D} (f : Fzs K Z vs ds) : ∀ n : Nat, Fzs K Z (List.replicate n vs).flatten (List.replicate n ds).flatten
  | 0 => .nil
  | n + 1 => by
    rw [List.replicate_succ, List.replicate_succ, List.flatten_cons, List.flatten_cons]
    exact f.app (rep_fz f n)
/-- [..] * n -/
theorem se_rep {cf : CF} {as : As} {n : Int} {ta : TA} (ha : SA K ta (evA cf as)) : SE K (tOp rRep (tLst ta) (tC (.int n))) (evE cf (.rep as n)) := fun ρ σ Z H Fs sd ρ' r ev Q q => by
  simp only [evE, Option.bind_eq_some_iff] at ev
  obtain ⟨⟨xs, ρ1⟩, h1, ds, h2, h3⟩ := ev
  split at h3
  · rename_i hl
    cases h3
    refine ha ρ σ Z H Fs xs ρ1 r h1 _ fun vs Z1 H1 Fs1 t1 r1 a1 => ?_
    have f := plain_ok a1 h2
    refine ⟨by rw [f.length]; exact hl.2.2.1, fun p hp => ?_⟩
    have x1 := (new_lst r1.sub hp f).res r1
    refine ⟨p, n, vs, rfl, rfl, upd_same, by omega, by omega, by rw [f.length]; exact hl.2.2.2, fun p2 hp2 => ?_⟩
    -- the first list is let go, a second one is made
    have x2 := (new_lst x1.r.sub hp2 (rep_fz f n.toNat)).res x1.r
    exact q _ _ _ _ _ ((x2.trans x1.tr).trans t1)
  · cases h3
theorem se_nev {cf : CF} {t : TE} : SE K t (evE cf .nev) := fun ρ σ Z H Fs sd ρ' r ev Q q => by
  simp [evE] at ev
theorem se_mut {cf : CF} {m : M} {i : Nat} {as : As} {ta : TA} {rr : V → List V → Hp → VK → Prop} (ha : SA K ta (evA cf as)) (hm : MuOk K rr m) (hv : m = .app → ∃ e, as = .val e .nil) : SE K (tBM K "list" rr (tVar i) ta) (evE cf (.mut m i as)) := fun ρ σ Z H Fs sd ρ' r ev Q q => by
  simp only [evE, Option.bind_eq_some_iff] at ev
  obtain ⟨sd0, h0, ev⟩ := ev
  split at ev
  · rename_i ds0
    simp only [Option.bind_eq_some_iff] at ev
    obtain ⟨⟨xs, ρ1⟩, h1, es, h2, sd1, h3, ev⟩ := ev
    split at ev
    · rename_i d1
      simp only [Option.bind_eq_some_iff, Option.some.injEq, Prod.mk.injEq] at ev
      obtain ⟨⟨d', y⟩, h4, rfl, rfl⟩ := ev
      obtain ⟨v, hσ, rp⟩ := r.rep i _ h0
      obtain ⟨a, vs0, rfl, z0, hH0, f0, _⟩ := own_list rp
      refine ⟨_, hσ, .inl ⟨rfl, vs0, SqL.of hH0⟩, ?_⟩
      refine ha ρ σ Z H Fs xs ρ1 r h1 _ fun ws Z1 H1 Fs1 t1 r1 a1 => ?_
      obtain ⟨v1, hσ1, rp1⟩ := r1.rep i _ h3
      rw [hσ] at hσ1
      cases hσ1
      -- the thing is a list still
      have hd : ∃ ds1, d1 = .list ds1 := by
        cases d1 with
        | list ds1 => exact ⟨ds1, rfl⟩
        | _ => simp [mu] at h4
      obtain ⟨ds1, rfl⟩ := hd
      obtain ⟨a', vs1, ea, z1, hH1, f1, hF⟩ := own_list rp1
      cases ea
      have bw := sees_ok r1 a1 h2
      refine hm a vs1 ds1 d' ws ws es y Z1 H1 hH1 f1 r1.sub bw (fun _ _ _ _ => trivial) rfl h4 (fun em => ?_) Q fun vs' ds' v' e' f' fy => ?_
      · obtain ⟨e0, rfl⟩ := hv em
        simp only [evA, Option.bind_eq_some_iff, Option.some.injEq, Prod.mk.injEq] at h1
        obtain ⟨⟨x1, ρ3⟩, _, ⟨ys, ρ4⟩, hys, rfl, rfl⟩ := h1
        simp only [Prod.mk.injEq] at hys
        obtain ⟨rfl, rfl⟩ := hys
        cases a1 with
        | val hw r0 =>
          cases r0
          simp only [sees, Option.map_some, Option.some.injEq] at h2
          subst h2
          exact ⟨_, _, rfl, rfl, hw⟩
      · subst e'
        have rw' : RepS K Z1 (upd H1 a (.lst vs')) (.u .z) (.ref a) (.list ds') (Fs1 i) := by
          have k := rep_lst (K := K) (H := upd H1 a (.lst vs')) z1 upd_same f'
          have e : (fun b => b = a) = Fs1 i := funext fun b => propext (hF b).symm
          rw [e] at k
          exact k
        exact q v' Z1 _ Fs1 _ (res_z (t1.trans (tr_write hH1 ((hF a).mpr rfl))) (r1.write (sd := (.u .z, .list ds')) z1 hF hσ rw') fy)
    · cases ev
  · cases ev
theorem se_ext {cf : CF} {i : Nat} {e : E} {te : TE} (he : SE K te (evE cf e)) : SE K (tBM K "list" rExtend (tVar i) (tCons te tNil)) (evE cf (.ext i e)) := fun ρ σ Z H Fs sd ρ' r ev Q q => by
  simp only [evE, Option.bind_eq_some_iff] at ev
  obtain ⟨sd0, h0, ev⟩ := ev
  split at ev
  · rename_i ds0
    simp only [Option.bind_eq_some_iff] at ev
    obtain ⟨⟨⟨sx, dx⟩, ρ1⟩, h1, ⟨s1, d1⟩, h3, ev⟩ := ev
    split at ev
    · rename_i xs ys e1 e2
      cases e1
      cases e2
      split at ev
      · rename_i hl
        cases ev
        obtain ⟨v, hσ, rp⟩ := r.rep i _ h0
        obtain ⟨a, vs0, rfl, z0, hH0, f0, _⟩ := own_list rp
        refine ⟨_, hσ, .inl ⟨rfl, vs0, SqL.of hH0⟩, ?_⟩
        refine he ρ σ Z H Fs _ ρ1 r h1 _ fun w Z1 H1 Fs1 F1 x1 => ?_
        obtain ⟨v1, hσ1, rp1⟩ := x1.r.rep i _ h3
        rw [hσ] at hσ1
        cases hσ1
        obtain ⟨a', vs1, ea, z1, hH1, f1, hF⟩ := own_list rp1
        cases ea
        obtain ⟨b, ws, rfl, zb, hHb, fb, hFb⟩ := own_list x1.rep
        refine ⟨a, b, vs1, ws, rfl, rfl, hH1, hHb, by rw [f1.length, fb.length]; exact hl, ?_⟩
        have f' := f1.app fb
        have rw' : RepS K Z1 (upd H1 a (.lst (vs1 ++ ws))) (.u .z) (.ref a) (.list (xs ++ ys)) (Fs1 i) := by
          have k := rep_lst (K := K) (H := upd H1 a (.lst (vs1 ++ ws))) z1 upd_same f'
          have e : (fun b => b = a) = Fs1 i := funext fun b => propext (hF b).symm
          rw [e] at k
          exact k
        exact q .non Z1 _ Fs1 _ (res_z (x1.tr.trans (tr_write hH1 ((hF a).mpr rfl))) (x1.r.write (sd := (.u .z, .list (xs ++ ys))) z1 hF hσ rw') .non)
      · cases ev
    · cases ev
  · cases ev
/-! ### calls -/
/-- a def's promise: what its run hands back -/
def spOf (K : PySem.W.Frag) (cf : CF) (f : Nat) : Sp := fun vs H Q _ => ∃ (Z : Hp) (Fs : Nat → Fp) (args : List SD) (r : SD) (outs : List SD), R K Z H (args.map some) (vs.map some) Fs ∧ cf f args = some (r, outs) ∧
  ∀ v Z' H' Fs' F, Tr Z H (Al Fs) Z' H' (Al Fs') → R K Z' H' (outs.map some) (vs.map some) Fs' → RepS K Z' H' r.1 v r.2 F → (∀ a, F a → ¬ Al Fs' a) → (∀ a, F a → Al Fs a ∨ H a = none) → Q v H'
/-- the names that arguments refer to -/
def refsA : List Ar → List Nat
  | [] => []
  | .inl _ :: r => refsA r
  | .inr i :: r => i :: refsA r
/-- the footprints of the arguments, by their place -/
def footA (Fs : Nat → Fp) (xs : List Ar) : Nat → Fp := fun j => match xs[j]? with
  | some (.inr i) => Fs i
  | _ => fun _ => False
theorem refs_mem : ∀ {xs : List Ar} {j i : Nat}, xs[j]? = some (.inr i) → i ∈ refsA xs
  | .inl _ :: r, 0, _, h => by simp at h
  | .inr k :: r, 0, _, h => by simp at h; simp [refsA, h]
  | .inl _ :: r, j + 1, i, h => by simpa [refsA] using refs_mem (xs := r) (j := j) (by simpa using h)
  | .inr k :: r, j + 1, i, h => List.mem_cons_of_mem _ (refs_mem (xs := r) (j := j) (by simpa using h))
theorem refs_one : ∀ {xs : List Ar} {j l i : Nat}, (refsA xs).Nodup → xs[j]? = some (.inr i) → xs[l]? = some (.inr i) → j = l
  | .inl _ :: r, 0, _, _, _, h, _ => by simp at h
  | .inl _ :: r, _ + 1, 0, _, _, _, h => by simp at h
  | .inl _ :: r, j + 1, l + 1, i, n, h, g => by
    have := refs_one (xs := r) (j := j) (l := l) (i := i) n (by simpa using h) (by simpa using g)
    omega
  | .inr k :: r, 0, 0, _, _, _, _ => rfl
  | .inr k :: r, 0, l + 1, i, n, h, g => by
    simp at h
    subst h
    exact ((List.nodup_cons.mp n).1 (refs_mem (xs := r) (j := l) (by simpa using g))).elim
  | .inr k :: r, j + 1, 0, i, n, h, g => by
    simp at g
    subst g
    exact ((List.nodup_cons.mp n).1 (refs_mem (xs := r) (j := j) (by simpa using h))).elim
  | .inr k :: r, j + 1, l + 1, i, n, h, g => by
    have := refs_one (xs := r) (j := j) (l := l) (i := i) (List.nodup_cons.mp n).2 (by simpa using h) (by simpa using g)
    omega
theorem hands_len : ∀ {xs : List Ar} {sds : List SD}, hands ρ xs = some sds → sds.length = xs.length
  | [], _, h => by cases h; rfl
  | .inl d :: r, _, h => by
    simp only [hands, Option.map_eq_some_iff] at h
    obtain ⟨s, h, rfl⟩ := h
    simp [hands_len h]
  | .inr i :: r, _, h => by
    simp only [hands, Option.bind_eq_some_iff, Option.map_eq_some_iff] at h
    obtain ⟨x, _, s, h, rfl⟩ := h
    simp [hands_len h]
theorem hands_get : ∀ {xs : List Ar} {sds : List SD} {vs : List V} {j : Nat} {sd : SD}, R K Z H ρ σ Fs → hands ρ xs = some sds → Args K Z σ vs xs → sds[j]? = some sd → ∃ v, vs[j]? = some v ∧ RepS K Z H sd.1 v sd.2 (footA Fs xs j)
  | [], _, _, _, _, _, h, _, e => by cases h; simp at e
  | .inl d :: r, _, _, j, sd, R0, h, .val (v := v) (vs := vs) hf a, e => by
    simp only [hands, Option.map_eq_some_iff] at h
    obtain ⟨s, h, rfl⟩ := h
    cases j with
    | zero =>
      simp at e
      subst e
      exact ⟨v, rfl, hf, fun _ z => z⟩
    | succ j =>
      obtain ⟨w, h1, h2⟩ := hands_get (xs := r) (j := j) R0 h a (by simpa using e)
      exact ⟨w, by simpa using h1, by simpa [footA] using h2⟩
  | .inr i :: r, _, _, j, sd, R0, h, .ref (v := v) (vs := vs) hσ a, e => by
    simp only [hands, Option.bind_eq_some_iff, Option.map_eq_some_iff] at h
    obtain ⟨x, hx, s, h, rfl⟩ := h
    cases j with
    | zero =>
      simp at e
      subst e
      obtain ⟨w, h1, h2⟩ := R0.rep i _ hx
      rw [hσ] at h1
      cases h1
      exact ⟨v, rfl, by simpa [footA] using h2⟩
    | succ j =>
      obtain ⟨w, h1, h2⟩ := hands_get (xs := r) (j := j) R0 h a (by simpa using e)
      exact ⟨w, by simpa using h1, by simpa [footA] using h2⟩
theorem foot_al {xs : List Ar} {j : Nat} {a : Addr} (h : footA Fs xs j a) : ∃ i, xs[j]? = some (.inr i) ∧ Fs i a := by
  unfold footA at h
  cases e : xs[j]? with
  | none => rw [e] at h; exact h.elim
  | some x =>
    cases x with
    | inl d => rw [e] at h; exact h.elim
    | inr i => rw [e] at h; exact ⟨i, rfl, h⟩
theorem getO_map {l : List SD} {j : Nat} : getO (l.map some) j = l[j]? := by
  unfold getO
  rw [List.getElem?_map]
  cases l[j]? <;> rfl
/-- the state that the callee begins with -/
theorem call_R {xs : List Ar} {sds : List SD} {vs : List V} (r : R K Z H ρ σ Fs) (h : hands ρ xs = some sds) (a : Args K Z σ vs xs) (n : (refsA xs).Nodup) : R K Z H (sds.map some) (vs.map some) (footA Fs xs) where
  len := by
    have h1 := hands_len h
    have h2 := a.length
    simp [h1, h2]
  sub := r.sub
  rep := fun j sd e => by
    rw [getO_map] at e
    obtain ⟨v, h1, h2⟩ := hands_get r h a e
    exact ⟨v, by rw [List.getElem?_map, h1]; rfl, h2⟩
  out := fun j e b f => by
    rw [getO_map] at e
    obtain ⟨i, h1, _⟩ := foot_al f
    have h2 := hands_len h
    have h3 := (List.getElem?_eq_some_iff.mp h1).1
    rw [List.getElem?_eq_none_iff] at e
    omega
  one := fun j l b f g => by
    obtain ⟨i, h1, h2⟩ := foot_al f
    obtain ⟨i', h3, h4⟩ := foot_al g
    have := r.one i i' b h2 h4
    subst this
    exact refs_one n h1 h3
end
end Mi
end
section
namespace Mi
open PySem PySem.Spec PyProof.Rows L2
section
variable {K : PySem.W.Frag} {Z H Z' H' : Hp} {ρ ρ' : Ev} {σ : L2.St} {Fs Fs' Fc : Nat → Fp} {A A' : Fp}
theorem backs_len : ∀ {xs : List Ar} {outs : List SD} {ρ : Ev}, (backs ρ xs outs).length = ρ.length
  | [], _, _ => rfl
  | .inl _ :: _, [], _ => rfl
  | .inr _ :: _, [], _ => rfl
  | .inl _ :: r, _ :: t, ρ => backs_len (xs := r) (outs := t)
  | .inr i :: r, sd :: t, ρ => by
    show (backs (ρ.set i (some sd)) r t).length = _
    rw [backs_len (xs := r) (outs := t), List.length_set]
theorem backs_out : ∀ {xs : List Ar} {outs : List SD} {ρ : Ev} {i : Nat}, i ∉ refsA xs → getO (backs ρ xs outs) i = getO ρ i
  | [], _, _, _, _ => rfl
  | .inl _ :: _, [], _, _, _ => rfl
  | .inr _ :: _, [], _, _, _ => rfl
  | .inl _ :: r, _ :: t, ρ, i, h => backs_out (xs := r) (outs := t) h
  | .inr k :: r, sd :: t, ρ, i, h => by
    simp only [refsA, List.mem_cons, not_or] at h
    show getO (backs (ρ.set k (some sd)) r t) i = _
    rw [backs_out (xs := r) (outs := t) h.2, getO_set, if_neg (Ne.symm h.1)]
theorem backs_ref : ∀ {xs : List Ar} {outs : List SD} {ρ : Ev} {i j : Nat} {sd : SD}, (refsA xs).Nodup → i < ρ.length → xs[j]? = some (.inr i) → outs[j]? = some sd → getO (backs ρ xs outs) i = some sd
  | [], _, _, _, _, _, _, _, h, _ => by simp at h
  | _ :: _, [], _, _, _, _, _, _, _, h => by simp at h
  | .inl _ :: r, _ :: t, ρ, i, 0, sd, n, l, h, g => by simp at h
  | .inl _ :: r, _ :: t, ρ, i, j + 1, sd, n, l, h, g => backs_ref (xs := r) (outs := t) (j := j) n l (by simpa using h) (by simpa using g)
  | .inr k :: r, s :: t, ρ, i, 0, sd, n, l, h, g => by
    simp at h g
    subst h g
    show getO (backs (ρ.set k (some s)) r t) k = _
    rw [backs_out (List.nodup_cons.mp n).1, getO_set, if_pos rfl, if_pos l]
  | .inr k :: r, s :: t, ρ, i, j + 1, sd, n, l, h, g =>
    backs_ref (xs := r) (outs := t) (ρ := ρ.set k (some s)) (j := j) (List.nodup_cons.mp n).2 (by simpa using l) (by simpa using h) (by simpa using g)
theorem hands_lt : ∀ {xs : List Ar} {sds : List SD} {i : Nat}, hands ρ xs = some sds → i ∈ refsA xs → i < ρ.length
  | [], _, _, _, h => by simp [refsA] at h
  | .inl d :: r, _, i, h, m => by
    simp only [hands, Option.map_eq_some_iff] at h
    obtain ⟨s, h, rfl⟩ := h
    exact hands_lt h m
  | .inr k :: r, _, i, h, m => by
    simp only [hands, Option.bind_eq_some_iff, Option.map_eq_some_iff] at h
    obtain ⟨x, hx, s, h, rfl⟩ := h
    rcases List.mem_cons.mp m with rfl | m
    · exact getO_lt hx
    · exact hands_lt h m
theorem args_ref : ∀ {vs : List V} {xs : List Ar} {j i : Nat}, Args K Z σ vs xs → xs[j]? = some (.inr i) → ∃ v, vs[j]? = some v ∧ σ[i]? = some (some v)
  | _, _, _, _, .nil, h => by simp at h
  | _, _, 0, _, .val _ _, h => by simp at h
  | _, _, j + 1, _, .val _ a, h => by
    obtain ⟨v, h1, h2⟩ := args_ref (j := j) a (by simpa using h)
    exact ⟨v, by simpa using h1, h2⟩
  | _, _, 0, _, .ref hσ _, h => by
    simp at h
    subst h
    exact ⟨_, rfl, hσ⟩
  | _, _, j + 1, _, .ref _ a, h => by
    obtain ⟨v, h1, h2⟩ := args_ref (j := j) a (by simpa using h)
    exact ⟨v, by simpa using h1, h2⟩
theorem refs_at : ∀ {xs : List Ar} {i : Nat}, i ∈ refsA xs → ∃ j : Nat, xs[j]? = some (Sum.inr i)
  | [], _, h => by simp [refsA] at h
  | .inl d :: r, i, h => by
    obtain ⟨j, e⟩ := refs_at (xs := r) h
    exact ⟨j + 1, by simpa using e⟩
  | .inr k :: r, i, h => by
    rcases List.mem_cons.mp h with rfl | h
    · exact ⟨0, rfl⟩
    · obtain ⟨j, e⟩ := refs_at (xs := r) h
      exact ⟨j + 1, by simpa using e⟩
/-- the caller's footprints behind a call -/
def footB (Fs Fc : Nat → Fp) (xs : List Ar) : Nat → Fp := fun i a => (∃ j, xs[j]? = some (.inr i) ∧ Fc j a) ∨ (i ∉ refsA xs ∧ Fs i a)
theorem al_footA {xs : List Ar} {a : Addr} (h : Al (footA Fs xs) a) : Al Fs a := by
  obtain ⟨j, h⟩ := h
  obtain ⟨i, _, h⟩ := foot_al h
  exact ⟨i, h⟩
/-- a cell of another name is none of the callee's -/
theorem out_footA {xs : List Ar} {i : Nat} {a : Addr} (r : R K Z H ρ σ Fs) (hi : i ∉ refsA xs) (h : Fs i a) : ¬ Al (footA Fs xs) a := fun ⟨j, g⟩ => by
  obtain ⟨k, e, g⟩ := foot_al g
  have := r.one i k a h g
  subst this
  exact hi (refs_mem e)
theorem new_foot (t : Tr Z H A Z' H' A') {a : Addr} {o : HO} (ho : H a = some o) (n : ¬ A a) : ¬ A' a := fun q => by
  rcases t.nw a q with q | q
  · exact n q
  · rw [ho] at q; cases q
theorem call_back {xs : List Ar} {sds outs : List SD} {vs : List V} (r : R K Z H ρ σ Fs) (h : hands ρ xs = some sds) (a : Args K Z σ vs xs) (n : (refsA xs).Nodup)
    (t : Tr Z H (Al (footA Fs xs)) Z' H' (Al Fc)) (rc : R K Z' H' (outs.map some) (vs.map some) Fc) : R K Z' H' (backs ρ xs outs) σ (footB Fs Fc xs) ∧ Tr Z H (Al Fs) Z' H' (Al (footB Fs Fc xs)) := by
  have hl := rc.len
  rw [List.length_map, List.length_map, a.length] at hl
  refine ⟨⟨by rw [backs_len]; exact r.len, rc.sub, fun i sd e => ?_, fun i e b f => ?_, fun i l b f g => ?_⟩, ⟨t.zz, fun b o e nb => t.hh b o e fun z => nb (al_footA z), fun b ⟨i, f⟩ => ?_, fun b o e => ?_⟩⟩
  · by_cases hi : i ∈ refsA xs
    · obtain ⟨j, hj⟩ := refs_at hi
      have hjl := (List.getElem?_eq_some_iff.mp hj).1
      have ho : outs[j]? = some outs[j] := List.getElem?_eq_getElem (by omega)
      rw [backs_ref n (hands_lt h hi) hj ho] at e
      cases e
      obtain ⟨v, h1, h2⟩ := rc.rep j outs[j] (by rw [getO_map]; exact ho)
      obtain ⟨w, h3, h4⟩ := args_ref a hj
      rw [List.getElem?_map, h3] at h1
      cases h1
      refine ⟨_, h4, ?_⟩
      have e : footB Fs Fc xs i = Fc j := funext fun b => propext ⟨fun q => by
        rcases q with ⟨j', e', q⟩ | ⟨q, _⟩
        · have := refs_one n e' hj
          subst this
          exact q
        · exact (q hi).elim, fun q => .inl ⟨j, hj, q⟩⟩
      rw [e]
      exact h2
    · rw [backs_out hi] at e
      obtain ⟨v, h1, h2⟩ := r.rep i sd e
      refine ⟨v, h1, ?_⟩
      have e : footB Fs Fc xs i = Fs i := funext fun b => propext ⟨fun q => by
        rcases q with ⟨j', e', q⟩ | ⟨_, q⟩
        · exact (hi (refs_mem e')).elim
        · exact q, fun q => .inr ⟨hi, q⟩⟩
      rw [e]
      exact h2.carry (fun b f => out_footA r hi f) t
  · rcases f with ⟨j, hj, f⟩ | ⟨hi, f⟩
    · have hjl := (List.getElem?_eq_some_iff.mp hj).1
      have ho : outs[j]? = some outs[j] := List.getElem?_eq_getElem (by omega)
      rw [backs_ref n (hands_lt h (refs_mem hj)) hj ho] at e
      cases e
    · rw [backs_out hi] at e
      exact r.out i e b f
  · rcases f with ⟨j, hj, f⟩ | ⟨hi, f⟩
    · rcases g with ⟨k, hk, g⟩ | ⟨hk, g⟩
      · have := rc.one j k b f g
        subst this
        rw [hj] at hk
        cases hk
        rfl
      · obtain ⟨_, o, ho, _⟩ := r.foot ⟨l, g⟩
        exact (new_foot t ho (out_footA r hk g) ⟨j, f⟩).elim
    · rcases g with ⟨k, hk, g⟩ | ⟨hk, g⟩
      · obtain ⟨_, o, ho, _⟩ := r.foot ⟨i, f⟩
        exact (new_foot t ho (out_footA r hi f) ⟨k, g⟩).elim
      · exact r.one i l b f g
  · rcases f with ⟨j, hj, f⟩ | ⟨hi, f⟩
    · rcases t.nw b ⟨j, f⟩ with q | q
      · exact .inl (al_footA q)
      · exact .inr q
    · exact .inl ⟨i, f⟩
  · rcases t.zn b o e with q | q | q
    · exact .inl q
    · exact .inr (.inl q)
    · exact .inr (.inr (al_footA q))
theorem se_call {cf : CF} {f : Nat} {as : As} {ta : TA} {E : XK} (ha : SA K ta (evA cf as)) (hn : ∀ ρ xs ρ1, evA cf as ρ = some (xs, ρ1) → (refsA xs).Nodup) : SE K (tCall (spOf K cf f) [] E ta) (evE cf (.call f as)) := fun ρ σ Z H Fs sd ρ' r ev Q q => by
  simp only [evE, Option.bind_eq_some_iff] at ev
  obtain ⟨⟨xs, ρ1⟩, h1, sds, h2, ⟨rr, outs⟩, h3, h4⟩ := ev
  simp only [Option.some.injEq, Prod.mk.injEq] at h4
  obtain ⟨rfl, rfl⟩ := h4
  refine ha ρ σ Z H Fs xs ρ1 r h1 _ fun vs Z1 H1 Fs1 t1 r1 a1 => ?_
  rw [List.append_nil]
  refine ⟨Z1, _, sds, rr, outs, call_R r1 h2 a1 (hn _ _ _ h1), h3, fun v Z2 H2 Fc F t2 rc rp dis fr => ?_⟩
  obtain ⟨r2, t3⟩ := call_back r1 h2 a1 (hn _ _ _ h1) t2 rc
  refine q v Z2 H2 _ F (Res.trans t1 ⟨t3, r2, rp, fun a f ⟨i, g⟩ => ?_, fun a f => ?_⟩)
  · rcases g with ⟨j, hj, g⟩ | ⟨hi, g⟩
    · exact dis a f ⟨j, g⟩
    · obtain ⟨_, o, ho, _⟩ := r1.foot ⟨i, g⟩
      rcases fr a f with z | z
      · exact out_footA r1 hi g z
      · rw [ho] at z; cases z
  · rcases fr a f with z | z
    · exact .inl (al_footA z)
    · exact .inr z
end
end Mi
end
section
namespace Mi
open PySem PySem.Spec PyProof.Rows L2
section
variable {K : PySem.W.Frag} {Z H Z' H' Z0 Z1 H1 : Hp} {ρ ρ' : Ev} {σ σ' : L2.St} {Fs Fs' Fc : Nat → Fp} {A A' : Fp}
/-! ### what is walked -/
/-- an iterator that gives just these, kept for good -/
def Gives (K : PySem.W.Frag) (Z0 : Hp) (J : It) (ds : List D) : Prop := ∀ Z H, Same Z0 Z → Sub Z H →
  (∀ i d, ds[i]? = some d → J.go i H ∧ ∀ x H', J.yld i H x H' → ∃ Z', New K Z H Z' H' (.z, d) x fun _ => False) ∧ J.stop ds.length H
theorem Gives.mono {J : It} {ds : List D} (g : Gives K Z J ds) (e : Same Z Z') : Gives K Z' J ds := fun Z2 H2 e2 s => g Z2 H2 (e.trans e2) s
def SI (K : PySem.W.Frag) (wi : TI) (f : Ev → Option (List D × Ev)) : Prop := ∀ ρ σ Z H Fs ds ρ', R K Z H ρ σ Fs → f ρ = some (ds, ρ') →
  ∀ Rr : It → Hp → Prop, (∀ J Z' H' Fs', Tr Z H (Al Fs) Z' H' (Al Fs') → R K Z' H' ρ' σ Fs' → Gives K Z' J ds → Rr J H') → wi σ H Rr
theorem sq_one {a : Addr} {xs ys : List V} (s : Sub Z H) (h : ZL K Z a xs) : SqL K H a xs := h.sq s
theorem gives_list {a : Addr} {xs : List V} {ds : List D} (h : ZL K Z a xs) (f : Fzs K Z xs ds) : Gives K Z (Itl K a) ds := fun Z2 H2 e s => by
  have q : SqL K H2 a xs := (h.mono e).sq s
  refine ⟨fun i d hd => ?_, ⟨xs, q, by rw [f.length]; exact Nat.le_refl _⟩⟩
  obtain ⟨v, hv, fv⟩ := f.at hd
  refine ⟨⟨xs, v, q, hv⟩, fun x H' y => ?_⟩
  obtain ⟨rfl, y⟩ := y
  have z := y xs q
  rw [hv] at z
  cases z
  exact ⟨Z2, new_z s (fv.mono e)⟩
theorem gives_tup {a : Addr} {xs : List V} {ds : List D} (h : ZT K Z a xs) (f : Fzs K Z xs ds) : Gives K Z (Itt K a) ds := fun Z2 H2 e s => by
  have q : SqT K H2 a xs := (h.mono e).sq s
  refine ⟨fun i d hd => ?_, ⟨xs, q, by rw [f.length]; exact Nat.le_refl _⟩⟩
  obtain ⟨v, hv, fv⟩ := f.at hd
  refine ⟨⟨xs, v, q, hv⟩, fun x H' y => ?_⟩
  obtain ⟨rfl, y⟩ := y
  have z := y xs q
  rw [hv] at z
  cases z
  exact ⟨Z2, new_z s (fv.mono e)⟩
theorem rngD_len : ∀ (n : Nat) (lo : Int), (rngD lo n).length = n
  | 0, _ => rfl
  | n + 1, lo => by simp [rngD, rngD_len n]
theorem rngD_get : ∀ (n : Nat) (lo : Int) (i : Nat), i < n → (rngD lo n)[i]? = some (.int (lo + i))
  | 0, _, _, h => by omega
  | n + 1, lo, 0, _ => by simp [rngD]
  | n + 1, lo, i + 1, h => by
    have := rngD_get n (lo + 1) i (by omega)
    simp only [rngD, List.getElem?_cons_succ, this]
    congr 2
    omega
theorem gives_rng {lo : Int} {n : Nat} : Gives K Z (Itr lo n) (rngD lo n) := fun Z2 H2 e s => by
  refine ⟨fun i d hd => ?_, by rw [rngD_len]; exact Nat.le_refl _⟩
  have hi := (List.getElem?_eq_some_iff.mp hd).1
  rw [rngD_len] at hi
  rw [rngD_get n lo i hi] at hd
  cases hd
  refine ⟨hi, fun x H' y => ?_⟩
  obtain ⟨rfl, rfl⟩ := y
  exact ⟨Z2, new_z s (.int _)⟩
theorem big_of {i : Int} (h : big i = true) : -(2 ^ 62) ≤ i ∧ i < 2 ^ 62 := by
  have h : i.natAbs < 4611686018427387904 := of_decide_eq_true h
  omega
/-- a range that a name holds -/
def iRngV (te : TE) : TI := fun σ H R => te σ H fun x H1 => ∃ (a : Addr) (lo hi : Int), x = .ref a ∧ Rd H1 a (.rng lo hi) ∧ -(2 ^ 62) ≤ lo ∧ lo < 2 ^ 62 ∧ -(2 ^ 62) ≤ hi ∧ hi < 2 ^ 62 ∧ R (Itr lo (hi - lo).toNat) H1
theorem pi_rngv {X : Cx} {tg e : Expr} {te : TE} (he : PE X e te) : PI X tg e (iRngV te) := by
  refine ⟨fun pins s σ H R I h => ?_⟩
  refine thn (he.run pins s σ H _ I h) fun v s1 ⟨x, H1, I1, r1, q1⟩ => ?_
  obtain ⟨a, lo, hi, e, ha, h1, h2, h3, h4, q⟩ := q1
  subst e
  cases r1
  obtain ⟨t, u, v, hr⟩ := (show ObjOk X.prog X.w H1 s1.heap a (.rng lo hi) from rd_of I1.hok ha)
  refine wpAny_pyIter_range (show IsRange s1.heap a lo hi 1 t u v from hr) (small_one h1 h2 h3 h4) ?_
  refine ⟨s1.heap.objs.size, [s1.heap.objs.size], _, _, H1, rfl, I1.kept (t' := s1.toks) fun b o e => Heap.get?_push_of_some _ e, turn_range _ lo (hi - lo).toNat, ?_, fun b hb => ?_, q⟩
  · have e1 : lo + ((0 : Nat) : Int) * 1 = lo := by simp
    have e2 : (((hi - lo).toNat : Nat) : Int) - ((0 : Nat) : Int) = Builtin.Range.rangeSize lo hi 1 := by rw [rangeSize_one]; split <;> omega
    show IsRangeIter _ _ (lo + ((0 : Nat) : Int) * 1) ((((hi - lo).toNat : Nat) : Int) - ((0 : Nat) : Int)) 1
    rw [e1, e2]
    exact Heap.get?_push_size _ rfl
  · have e : b = s1.heap.objs.size := by simpa using hb
    subst e
    exact I1.fpOk (Nat.le_refl _) (I1.hok.fresh (Nat.le_refl _))
def iSEQ (K : PySem.W.Frag) (te : TE) : TI := fun σ H R => iList K te σ H R ∨ (iTup K te σ H R ∨ iRngV te σ H R)
theorem rg_of {v : V} {lo hi : Int} (h : Fz K Z v (.dict [(.none, .tuple [.int lo, .int hi])])) : ∃ a, v = .ref a ∧ Z a = some (.rng lo hi) := by
  cases h with
  | rg h => exact ⟨_, rfl, h⟩
  | dk h f =>
    have := f.notRg
    cases this
theorem pi_or {X : Cx} {tg it : Expr} {w w' : TI} (h : PI X tg it w) (h' : PI X tg it w') : PI X tg it (fun σ H R => w σ H R ∨ w' σ H R) :=
  ⟨fun pins s σ H R I q => q.elim (h.run pins s σ H R I) (h'.run pins s σ H R I)⟩
theorem si_seq {cf : CF} {e : E} {te : TE} (he : SE K te (evE cf e)) : SI K (iSEQ K te) (evI cf (.seq e)) := fun ρ σ Z H Fs ds ρ' r ev Rr q => by
  simp only [evI, Option.bind_eq_some_iff] at ev
  obtain ⟨⟨⟨s, x⟩, ρ1⟩, h1, ds', h2, h3⟩ := ev
  simp only [Option.some.injEq, Prod.mk.injEq] at h3
  obtain ⟨rfl, rfl⟩ := h3
  cases x with
  | list ys =>
    cases h2
    refine .inl (he.sf ρ σ Z H Fs _ ρ1 r h1 _ fun v Z1 H1 Fs1 t1 r1 f1 => ?_)
    obtain ⟨a, vs, rfl, z, f⟩ := f1.list_of
    exact ⟨a, rfl, ⟨vs, z.sq r1.sub⟩, q _ _ _ _ t1 r1 (gives_list z f)⟩
  | tuple ys =>
    cases h2
    refine .inr (.inl (he.sf ρ σ Z H Fs _ ρ1 r h1 _ fun v Z1 H1 Fs1 t1 r1 f1 => ?_))
    obtain ⟨a, vs, rfl, z, f⟩ := f1.tup_of
    exact ⟨a, rfl, ⟨vs, z.sq r1.sub⟩, q _ _ _ _ t1 r1 (gives_tup z f)⟩
  | dict b =>
    match b, h2 with
    | [(.none, .tuple [.int lo, .int hi])], h2 =>
      simp only [items] at h2
      split at h2
      · rename_i hb
        simp only [Bool.and_eq_true] at hb
        cases h2
        refine .inr (.inr (he.sf ρ σ Z H Fs _ ρ1 r h1 _ fun v Z1 H1 Fs1 t1 r1 f1 => ?_))
        obtain ⟨a, rfl, z⟩ := rg_of f1
        obtain ⟨b1, b2⟩ := big_of hb.1
        obtain ⟨b3, b4⟩ := big_of hb.2
        exact ⟨a, lo, hi, rfl, r1.sub a _ z, b1, b2, b3, b4, q _ _ _ _ t1 r1 gives_rng⟩
      · cases h2
  | _ => cases h2
theorem si_rng1 {cf : CF} {a : E} {ta : TE} (ha : SE K ta (evE cf a)) : SI K (iRng1 (tCons ta tNil)) (evI cf (.rng1 a)) := fun ρ σ Z H Fs ds ρ' r ev Rr q => by
  simp only [evI, Option.bind_eq_some_iff] at ev
  obtain ⟨⟨⟨s, x⟩, ρ1⟩, h1, h2⟩ := ev
  split at h2
  · rename_i n e
    have e : x = .int n := e
    subst e
    split at h2
    · rename_i hb
      cases h2
      refine ha.sf ρ σ Z H Fs _ ρ1 r h1 _ fun v Z1 H1 Fs1 t1 r1 f1 => ?_
      have hb := big_of hb
      exact ⟨n, by rw [f1.int_of], hb.1, hb.2, q _ _ _ _ t1 r1 gives_rng⟩
    · cases h2
  · cases h2
theorem si_rng2 {cf : CF} {a b : E} {ta tb : TE} (ha : SE K ta (evE cf a)) (hb : SE K tb (evE cf b)) : SI K (iRng2 (tCons ta (tCons tb tNil))) (evI cf (.rng2 a b)) := fun ρ σ Z H Fs ds ρ' r ev Rr q => by
  simp only [evI, Option.bind_eq_some_iff] at ev
  obtain ⟨⟨⟨s, x⟩, ρ1⟩, h1, ⟨⟨s2, y⟩, ρ2⟩, h2, h3⟩ := ev
  split at h3
  · rename_i lo hi e1 e2
    have e1 : x = .int lo := e1
    have e2 : y = .int hi := e2
    subst e1 e2
    split at h3
    · rename_i hb'
      cases h3
      simp only [Bool.and_eq_true] at hb'
      refine ha.sf ρ σ Z H Fs _ ρ1 r h1 _ fun v Z1 H1 Fs1 t1 r1 f1 => ?_
      refine hb.sf ρ1 σ Z1 H1 Fs1 _ ρ2 r1 h2 _ fun w Z2 H2 Fs2 t2 r2 f2 => ?_
      have g1 := big_of hb'.1
      have g2 := big_of hb'.2
      exact ⟨lo, hi, by rw [f1.int_of, f2.int_of], ⟨g1.1, g1.2, g2.1, g2.2⟩, q _ _ _ _ (t1.trans t2) r2 gives_rng⟩
    · cases h3
  · cases h3
/-! ### targets -/
def Keep (pr : List Nat) (σ σ' : L2.St) : Prop := ∀ j, j ∈ pr → σ'[j]? = σ[j]?
theorem Keep.refl {pr : List Nat} : Keep pr σ σ := fun _ _ => rfl
theorem Keep.trans {pr : List Nat} {σ2 : L2.St} (a : Keep pr σ σ') (b : Keep pr σ' σ2) : Keep pr σ σ2 := fun j h => (b j h).trans (a j h)
def gin : G → List Nat → Prop
  | .nm i, vs => i ∈ vs
  | .tp l, vs => ∀ i ∈ l, i ∈ vs
  | .tn l, vs => ∀ i ∈ gnames l, i ∈ vs
theorem wipe_get {σ : L2.St} {i : Nat} : ∀ {vs : List Nat}, (wipe σ vs)[i]? = if i ∈ vs then (if i < σ.length then some none else none) else σ[i]?
  | [] => by simp [wipe]
  | v :: vs => by
    show ((wipe σ vs).set v none)[i]? = _
    rw [List.getElem?_set, wipe_get (vs := vs), wipe_length]
    by_cases h : v = i
    · subst h
      simp
    · rw [if_neg h]
      have h' : ¬ i = v := Ne.symm h
      simp [h']
theorem wipe_set {σ : L2.St} {i : Nat} {x : Option V} {vs : List Nat} (h : i ∈ vs) : wipe (σ.set i x) vs = wipe σ vs := by
  apply List.ext_getElem?
  intro j
  rw [wipe_get, wipe_get]
  by_cases hj : j ∈ vs
  · simp [hj]
  · rw [if_neg hj, if_neg hj, List.getElem?_set_ne]
    intro e
    subst e
    exact hj h
def SG (K : PySem.W.Frag) (pr : List Nat) (g : TG) (gg : G) : Prop := ∀ x sd ρ σ Z H Fs F ρ', R K Z H ρ σ Fs → RepS K Z H sd.1 x sd.2 F → (∀ a, F a → ¬ Al Fs a) → asg gg sd ρ = some ρ' →
  ∀ Q : L2.St → Hp → Prop, (∀ σ' Fs', (∀ a, Al Fs' a → Al Fs a ∨ F a) → R K Z H ρ' σ' Fs' → Keep pr σ σ' → (∀ vs, gin gg vs → wipe σ' vs = wipe σ vs) → Q σ' H) → g x σ H Q
def on (i : Nat) (F : Fp) (Fs : Nat → Fp) : Nat → Fp := fun j => if j = i then F else Fs j
theorem on_eq {i : Nat} {F : Fp} : on i F Fs i = F := by
  unfold on
  rw [if_pos rfl]
theorem on_ne {i j : Nat} {F : Fp} (h : j ≠ i) : on i F Fs j = Fs j := by
  unfold on
  rw [if_neg h]
theorem R.store {i : Nat} {sd : SD} {x : V} {F : Fp} (r : R K Z H ρ σ Fs) (hi : i < ρ.length) (h : RepS K Z H sd.1 x sd.2 F) (n : ∀ a, F a → ¬ Al Fs a) : R K Z H (ρ.set i (some sd)) (σ.set i (some x)) (on i F Fs) where
  len := by simp [r.len]
  sub := r.sub
  rep := fun j sd' e => by
    have hl := r.len
    rw [getO_set] at e
    by_cases hj : i = j
    · subst hj
      rw [if_pos rfl, if_pos hi] at e
      cases e
      exact ⟨x, by rw [List.getElem?_set_self (by omega)], by rw [on_eq]; exact h⟩
    · rw [if_neg hj] at e
      obtain ⟨v, h1, h2⟩ := r.rep j sd' e
      exact ⟨v, by rw [List.getElem?_set_ne hj]; exact h1, by rw [on_ne (Ne.symm hj)]; exact h2⟩
  out := fun j e a f => by
    rw [getO_set] at e
    by_cases hj : i = j
    · subst hj
      rw [if_pos rfl, if_pos hi] at e
      cases e
    · rw [if_neg hj] at e
      rw [on_ne (Ne.symm hj)] at f
      exact r.out j e a f
  one := fun j l a f g => by
    by_cases hj : j = i
    · subst hj
      rw [on_eq] at f
      by_cases hl : l = j
      · exact hl.symm
      · rw [on_ne hl] at g
        exact (n a f ⟨l, g⟩).elim
    · rw [on_ne hj] at f
      by_cases hl : l = i
      · subst hl
        rw [on_eq] at g
        exact (n a g ⟨j, f⟩).elim
      · rw [on_ne hl] at g
        exact r.one j l a f g
theorem al_on {i : Nat} {F : Fp} {a : Addr} (h : Al (on i F Fs) a) : Al Fs a ∨ F a := by
  obtain ⟨j, h⟩ := h
  by_cases hj : j = i
  · subst hj
    rw [on_eq] at h
    exact .inr h
  · rw [on_ne hj] at h
    exact .inl ⟨j, h⟩
theorem keep_set {pr : List Nat} {i : Nat} {x : Option V} (h : i ∉ pr) : Keep pr σ (σ.set i x) := fun j hj => by
  rw [List.getElem?_set_ne]
  intro e
  subst e
  exact h hj
theorem sg_nm {pr : List Nat} {i : Nat} (h : i ∉ pr) : SG K pr (gName i) (.nm i) := fun x sd ρ σ Z H Fs F ρ' r rp n e Q q => by
  simp only [asg] at e
  split at e
  · rename_i hi
    cases e
    exact q _ _ (fun a f => al_on f) (r.store hi rp n) (keep_set h) fun vs hv => wipe_set hv
  · cases e
/-- the places of a tuple's names -/
def gList : List Nat → TGs
  | [] => gNil
  | i :: r => gCons (gName i) (gList r)
theorem binds_ok {pr : List Nat} : ∀ {l : List Nat} {ds : List D} {vs : List V} {ρ ρ' : Ev} {σ : L2.St} {Fs : Nat → Fp}, (∀ i ∈ l, i ∉ pr) → R K Z H ρ σ Fs → Fzs K Z vs ds → binds ρ l ds = some ρ' →
    ∀ Q : L2.St → Hp → Prop, (∀ σ' Fs', (∀ a, Al Fs' a → Al Fs a) → R K Z H ρ' σ' Fs' → Keep pr σ σ' → (∀ vs, (∀ i ∈ l, i ∈ vs) → wipe σ' vs = wipe σ vs) → Q σ' H) → gList l vs σ H Q
  | [], [], _, ρ, _, σ, Fs, _, r, .nil, e, Q, q => by
    cases e
    exact ⟨rfl, q σ Fs (fun _ h => h) r Keep.refl fun _ _ => rfl⟩
  | [], _ :: _, _, _, _, _, _, _, _, _, e, _, _ => by cases e
  | _ :: _, [], _, _, _, _, _, _, _, _, e, _, _ => by cases e
  | i :: l, d :: ds, _, ρ, _, σ, Fs, h, r, .cons (v := v) (vs := vs) f fs, e, Q, q => by
    unfold binds at e
    split at e
    · rename_i hi
      refine ⟨v, vs, rfl, ?_⟩
      have r1 := r.store (sd := (.z, d)) (F := fun _ => False) hi ⟨f, fun _ z => z⟩ (fun _ z => z.elim)
      refine binds_ok (fun j hj => h j (List.mem_cons_of_mem _ hj)) r1 fs e Q fun σ' Fs' a1 r' k wp => q σ' Fs' (fun a f => (al_on (a1 a f)).elim id False.elim) r' ((keep_set (h i (by simp))).trans k) fun vs hv => (wp vs fun j hj => hv j (List.mem_cons_of_mem _ hj)).trans (wipe_set (hv i (by simp)))
    · cases e
theorem binds_len : ∀ {l : List Nat} {ds : List D} {ρ ρ' : Ev}, binds ρ l ds = some ρ' → ds.length = l.length
  | [], [], _, _, _ => rfl
  | [], _ :: _, _, _, e => by cases e
  | _ :: _, [], _, _, e => by cases e
  | i :: l, d :: ds, ρ, _, e => by
    unfold binds at e
    split at e
    · simp [binds_len e]
    · cases e
/-- a row, a list or a tuple, of names -/
def gSeq (K : PySem.W.Frag) (n : Nat) (t : TGs) : TG := fun v σ H Q => gTup K n t v σ H Q ∨ gUnl K n t v σ H Q
theorem pg_seq {X : Cx} {es : List Expr} {k : Nat} {t : TGs} {n : Nat} {pos : Pos} (hc : X.calm = true) (h : PGs X es t)
    (hn : (assignEach es X.env).length = n) (hst : (assignEach es X.env).findIdx? (·.1) = none) : PG X (.Tuple es k pos) (gSeq X.K n t) := by
  refine ⟨fun pins s σ H v u Q I r hw => ?_⟩
  rcases hw with hw | hw
  · exact (pg_tup hc h hn hst).run pins s σ H v u Q I r hw
  · exact (pg_unl hc h hn hst).run pins s σ H v u Q I r hw
theorem fzs_of : ∀ {vs : List V} {ds : List D}, vs.length = ds.length → (∀ (i : Nat) v d, vs[i]? = some v → ds[i]? = some d → Fz K Z v d) → Fzs K Z vs ds
  | [], [], _, _ => .nil
  | [], _ :: _, h, _ => by simp at h
  | _ :: _, [], h, _ => by simp at h
  | v :: vs, d :: ds, h, g => .cons (g 0 v d rfl rfl) (fzs_of (by simpa using h) fun i v d h1 h2 => g (i + 1) v d (by simpa using h1) (by simpa using h2))
theorem sg_tp {pr : List Nat} {l : List Nat} (h : ∀ i ∈ l, i ∉ pr) : SG K pr (gSeq K l.length (gList l)) (.tp l) := fun x sd ρ σ Z H Fs F ρ' r rp n e Q q => by
  simp only [asg] at e
  split at e
  · rename_i ds
    obtain ⟨a, vs, rfl, z, f⟩ := rp.1.tup_of
    refine .inl ⟨a, vs, rfl, z.sq r.sub, by rw [f.length, binds_len e], ?_⟩
    exact binds_ok h r f e Q fun σ' Fs' a1 r' k wp => q σ' Fs' (fun a f => .inl (a1 a f)) r' k wp
  · rename_i ds
    obtain ⟨a, vs, rfl, z, f⟩ := rp.1.list_of
    refine .inr ⟨a, vs, rfl, z.sq r.sub, by rw [f.length, binds_len e], ?_⟩
    exact binds_ok h r f e Q fun σ' Fs' a1 r' k wp => q σ' Fs' (fun a f => .inl (a1 a f)) r' k wp
  · rename_i ds
    rcases rp with ⟨_, z, _⟩ | ⟨a, Fc, rfl, z, ⟨vs, ds', e1, hH, hl, ap, cc⟩ | ⟨_, _, e1, _⟩⟩
    · cases z
    · cases e1
      have f := fzs_of (K := K) (Z := Z) hl fun i v d h1 h2 => (cc i v d h1 h2).1
      refine .inr ⟨a, vs, rfl, SqL.of hH, by rw [hl, binds_len e], ?_⟩
      exact binds_ok h r f e Q fun σ' Fs' a1 r' k wp => q σ' Fs' (fun a f => .inl (a1 a f)) r' k wp
    · cases e1
  · cases e
/-- names and rows of names -/
def gMix (K : PySem.W.Frag) : List (Nat ⊕ List Nat) → TGs
  | [] => gNil
  | .inl i :: r => gCons (gName i) (gMix K r)
  | .inr m :: r => gCons (gTup K m.length (gList m)) (gMix K r)
theorem gn_l {i : Nat} {r : List (Nat ⊕ List Nat)} : gnames (.inl i :: r) = i :: gnames r := rfl
theorem gn_r {m : List Nat} {r : List (Nat ⊕ List Nat)} : gnames (.inr m :: r) = m ++ gnames r := rfl
theorem bindN_len : ∀ {l : List (Nat ⊕ List Nat)} {ds : List D} {ρ ρ' : Ev}, bindN ρ l ds = some ρ' → ds.length = l.length
  | [], [], _, _, _ => rfl
  | [], _ :: _, _, _, e => by cases e
  | .inl _ :: _, [], _, _, e => by cases e
  | .inr _ :: _, [], _, _, e => by cases e
  | .inl i :: l, d :: ds, ρ, _, e => by
    unfold bindN at e
    split at e
    · simp [bindN_len e]
    · cases e
  | .inr m :: l, d :: ds, ρ, _, e => by
    cases d with
    | tuple es =>
      unfold bindN at e
      obtain ⟨ρ1, _, e⟩ := Option.bind_eq_some_iff.mp e
      simp [bindN_len e]
    | _ => cases e
theorem bindN_ok {pr : List Nat} : ∀ {l : List (Nat ⊕ List Nat)} {ds : List D} {vs : List V} {ρ ρ' : Ev} {σ : L2.St} {Fs : Nat → Fp}, (∀ i ∈ gnames l, i ∉ pr) → R K Z H ρ σ Fs → Fzs K Z vs ds → bindN ρ l ds = some ρ' →
    ∀ Q : L2.St → Hp → Prop, (∀ σ' Fs', (∀ a, Al Fs' a → Al Fs a) → R K Z H ρ' σ' Fs' → Keep pr σ σ' → (∀ vs, (∀ i ∈ gnames l, i ∈ vs) → wipe σ' vs = wipe σ vs) → Q σ' H) → gMix K l vs σ H Q
  | [], [], _, ρ, _, σ, Fs, _, r, .nil, e, Q, q => by
    cases e
    exact ⟨rfl, q σ Fs (fun _ h => h) r Keep.refl fun _ _ => rfl⟩
  | [], _ :: _, _, _, _, _, _, _, _, _, e, _, _ => by cases e
  | .inl _ :: _, [], _, _, _, _, _, _, _, _, e, _, _ => by cases e
  | .inr _ :: _, [], _, _, _, _, _, _, _, _, e, _, _ => by cases e
  | .inl i :: l, d :: ds, _, ρ, _, σ, Fs, h, r, .cons (v := v) (vs := vs) f fs, e, Q, q => by
    rw [gn_l] at h
    unfold bindN at e
    split at e
    · rename_i hi
      refine ⟨v, vs, rfl, ?_⟩
      have r1 := r.store (sd := (.z, d)) (F := fun _ => False) hi ⟨f, fun _ z => z⟩ (fun _ z => z.elim)
      refine bindN_ok (fun j hj => h j (List.mem_cons_of_mem _ hj)) r1 fs e Q fun σ' Fs' a1 r' k wp => q σ' Fs' (fun a f => (al_on (a1 a f)).elim id False.elim) r' ((keep_set (h i (by simp))).trans k) fun vs hv => ?_
      rw [gn_l] at hv
      exact (wp vs fun j hj => hv j (List.mem_cons_of_mem _ hj)).trans (wipe_set (hv i (by simp)))
    · cases e
  | .inr m :: l, d :: ds, _, ρ, _, σ, Fs, h, r, .cons (v := v) (vs := vs) f fs, e, Q, q => by
    rw [gn_r] at h
    cases d with
    | tuple es =>
      unfold bindN at e
      obtain ⟨ρ1, e1, e⟩ := Option.bind_eq_some_iff.mp e
      obtain ⟨a, ws, rfl, z, fw⟩ := f.tup_of
      refine ⟨.ref a, vs, rfl, a, ws, rfl, z.sq r.sub, by rw [fw.length, binds_len e1], ?_⟩
      refine binds_ok (fun i hi => h i (List.mem_append_left _ hi)) r fw e1 _ fun σ1 Fs1 a1 r1 k1 wp1 => ?_
      refine bindN_ok (fun i hi => h i (List.mem_append_right _ hi)) r1 fs e Q fun σ2 Fs2 a2 r2 k2 wp2 => q σ2 Fs2 (fun a f => a1 a (a2 a f)) r2 (k1.trans k2) fun vs hv => ?_
      rw [gn_r] at hv
      exact (wp2 vs fun j hj => hv j (List.mem_append_right _ hj)).trans (wp1 vs fun j hj => hv j (List.mem_append_left _ hj))
    | _ => cases e
theorem sg_tn {pr : List Nat} {l : List (Nat ⊕ List Nat)} (h : ∀ i ∈ gnames l, i ∉ pr) : SG K pr (gTup K l.length (gMix K l)) (.tn l) := fun x sd ρ σ Z H Fs F ρ' r rp n e Q q => by
  simp only [asg] at e
  split at e
  · rename_i ds
    obtain ⟨a, vs, rfl, z, f⟩ := rp.1.tup_of
    refine ⟨a, vs, rfl, z.sq r.sub, by rw [f.length, bindN_len e], ?_⟩
    exact bindN_ok h r f e Q fun σ' Fs' a1 r' k wp => q σ' Fs' (fun a f => .inl (a1 a f)) r' k wp
  · cases e
/-! ### statements -/
/-- what a statement is to reach -/
def Post (K : PySem.W.Frag) (pr : List Nat) (Z H : Hp) (A : Fp) (σ : L2.St) (ρ' : Ev) (D : Ends) : Fl → Prop
  | .nx => ∀ σ' Z' H' Fs', Tr Z H A Z' H' (Al Fs') → R K Z' H' ρ' σ' Fs' → Keep pr σ σ' → D.nx σ' H'
  | .bk => ∀ σ' Z' H' Fs', Tr Z H A Z' H' (Al Fs') → R K Z' H' ρ' σ' Fs' → Keep pr σ σ' → D.bk σ' H'
  | .ct => ∀ σ' Z' H' Fs', Tr Z H A Z' H' (Al Fs') → R K Z' H' ρ' σ' Fs' → Keep pr σ σ' → D.ct σ' H'
  | .rt x => ∀ v σ' Z' H' Fs' F, Res K Z H A ρ' σ' x v Z' H' Fs' F → Keep pr σ σ' → D.rt v H'
def SQ (K : PySem.W.Frag) (pr : List Nat) (t : TS) (f : Ev → Option (Fl × Ev)) : Prop := ∀ ρ σ Z H Fs fl ρ', R K Z H ρ σ Fs → f ρ = some (fl, ρ') → ∀ D : Ends, Post K pr Z H (Al Fs) σ ρ' D fl → t D σ H
/-- a state further on -/
theorem Post.from {pr : List Nat} {D : Ends} {fl : Fl} (t : Tr Z H A Z1 H1 A') (k : Keep pr σ σ') (h : Post K pr Z H A σ ρ' D fl) : Post K pr Z1 H1 A' σ' ρ' D fl := by
  cases fl with
  | nx => exact fun σ2 Z2 H2 Fs2 t2 r2 k2 => h σ2 Z2 H2 Fs2 (t.trans t2) r2 (k.trans k2)
  | bk => exact fun σ2 Z2 H2 Fs2 t2 r2 k2 => h σ2 Z2 H2 Fs2 (t.trans t2) r2 (k.trans k2)
  | ct => exact fun σ2 Z2 H2 Fs2 t2 r2 k2 => h σ2 Z2 H2 Fs2 (t.trans t2) r2 (k.trans k2)
  | rt x => exact fun v σ2 Z2 H2 Fs2 F x2 k2 => h v σ2 Z2 H2 Fs2 F (x2.trans t) (k.trans k2)
theorem sq_nil {pr : List Nat} {cf : CF} {w : Nat} : SQ K pr tNext (exB cf w .nil) := fun ρ σ Z H Fs fl ρ' r ev D q => by
  simp only [exB, Option.some.injEq, Prod.mk.injEq] at ev
  obtain ⟨rfl, rfl⟩ := ev
  exact q σ Z H Fs Tr.refl r Keep.refl
theorem sq_cons {pr : List Nat} {cf : CF} {w : Nat} {a : Q} {b : B} {ta tb : TS} (ha : SQ K pr ta (exQ cf w a)) (hb : SQ K pr tb (exB cf w b)) : SQ K pr (tSeq ta tb) (exB cf w (.cons a b)) := fun ρ σ Z H Fs fl ρ' r ev D q => by
  simp only [exB, Option.bind_eq_some_iff] at ev
  obtain ⟨⟨f, ρ1⟩, h1, h2⟩ := ev
  refine ha ρ σ Z H Fs f ρ1 r h1 _ ?_
  cases f with
  | nx => exact fun σ1 Z1 H1 Fs1 t1 r1 k1 => hb ρ1 σ1 Z1 H1 Fs1 fl ρ' r1 h2 D (q.from t1 k1)
  | bk => cases h2; exact q
  | ct => cases h2; exact q
  | rt x => cases h2; exact q
theorem sq_exp {pr : List Nat} {cf : CF} {w : Nat} {e : E} {te : TE} (he : SE K te (evE cf e)) : SQ K pr (tDrop te) (exQ cf w (.exp e)) := fun ρ σ Z H Fs fl ρ' r ev D q => by
  simp only [exQ, Option.bind_eq_some_iff] at ev
  obtain ⟨⟨x, ρ1⟩, h1, h2⟩ := ev
  cases h2
  exact he ρ σ Z H Fs x ρ1 r h1 _ fun v Z1 H1 Fs1 F x1 => q σ Z1 H1 Fs1 x1.tr x1.r Keep.refl
theorem sq_ret {pr : List Nat} {cf : CF} {w : Nat} {e : E} {te : TE} (he : SE K te (evE cf e)) : SQ K pr (tRet te) (exQ cf w (.ret e)) := fun ρ σ Z H Fs fl ρ' r ev D q => by
  simp only [exQ, Option.bind_eq_some_iff] at ev
  obtain ⟨⟨x, ρ1⟩, h1, h2⟩ := ev
  cases h2
  exact he ρ σ Z H Fs x ρ1 r h1 _ fun v Z1 H1 Fs1 F x1 => q v σ Z1 H1 Fs1 F x1 Keep.refl
theorem sq_ret0 {pr : List Nat} {cf : CF} {w : Nat} : SQ K pr tRetN (exQ cf w .ret0) := fun ρ σ Z H Fs fl ρ' r ev D q => by
  simp only [exQ, Option.some.injEq, Prod.mk.injEq] at ev
  obtain ⟨rfl, rfl⟩ := ev
  exact q .non σ Z H Fs _ (res_z Tr.refl r .non) Keep.refl
theorem sq_brk {pr : List Nat} {cf : CF} {w : Nat} : SQ K pr tBreak (exQ cf w .brk) := fun ρ σ Z H Fs fl ρ' r ev D q => by
  simp only [exQ, Option.some.injEq, Prod.mk.injEq] at ev
  obtain ⟨rfl, rfl⟩ := ev
  exact q σ Z H Fs Tr.refl r Keep.refl
theorem sq_cnt {pr : List Nat} {cf : CF} {w : Nat} : SQ K pr tCont (exQ cf w .cnt) := fun ρ σ Z H Fs fl ρ' r ev D q => by
  simp only [exQ, Option.some.injEq, Prod.mk.injEq] at ev
  obtain ⟨rfl, rfl⟩ := ev
  exact q σ Z H Fs Tr.refl r Keep.refl
theorem sq_pas {pr : List Nat} {cf : CF} {w : Nat} : SQ K pr tNext (exQ cf w .pas) := fun ρ σ Z H Fs fl ρ' r ev D q => by
  simp only [exQ, Option.some.injEq, Prod.mk.injEq] at ev
  obtain ⟨rfl, rfl⟩ := ev
  exact q σ Z H Fs Tr.refl r Keep.refl
theorem sq_nev {pr : List Nat} {cf : CF} {w : Nat} {t : TS} : SQ K pr t (exQ cf w .nev) := fun ρ σ Z H Fs fl ρ' r ev D q => by
  simp [exQ] at ev
theorem sq_iff {pr : List Nat} {cf : CF} {w : Nat} {t : T} {a b : B} {tt : TT} {ta tb : TS} (ht : ST K tt (evT cf t)) (ha : SQ K pr ta (exB cf w a)) (hb : SQ K pr tb (exB cf w b)) : SQ K pr (tIfS tt ta tb) (exQ cf w (.iff t a b)) := fun ρ σ Z H Fs fl ρ' r ev D q => by
  simp only [exQ, Option.bind_eq_some_iff] at ev
  obtain ⟨⟨c, ρ1⟩, h1, h2⟩ := ev
  refine ht ρ σ Z H Fs c ρ1 r h1 _ fun Z1 H1 Fs1 t1 r1 => ?_
  cases c with
  | true => exact ha ρ1 σ Z1 H1 Fs1 fl ρ' r1 h2 D (q.from t1 Keep.refl)
  | false => exact hb ρ1 σ Z1 H1 Fs1 fl ρ' r1 h2 D (q.from t1 Keep.refl)
theorem sq_asg {pr : List Nat} {cf : CF} {w : Nat} {g : G} {e : E} {tg : TG} {te : TE} (he : SE K te (evE cf e)) (hg : SG K pr tg g) : SQ K pr (tAsg te tg) (exQ cf w (.asg g e)) := fun ρ σ Z H Fs fl ρ' r ev D q => by
  simp only [exQ, Option.bind_eq_some_iff] at ev
  obtain ⟨⟨x, ρ1⟩, h1, ρ2, h2, h3⟩ := ev
  simp only [Option.some.injEq, Prod.mk.injEq] at h3
  obtain ⟨rfl, rfl⟩ := h3
  refine he ρ σ Z H Fs x ρ1 r h1 _ fun v Z1 H1 Fs1 F x1 => ?_
  refine hg v x ρ1 σ Z1 H1 Fs1 F ρ2 x1.r x1.rep x1.dis h2 _ fun σ2 Fs2 a2 r2 k2 _ => ?_
  refine q σ2 Z1 H1 Fs2 ⟨x1.tr.zz, x1.tr.hh, fun a f => ?_, x1.tr.zn⟩ r2 k2
  rcases a2 a f with z | z
  · exact x1.tr.nw a z
  · exact x1.fr a z
theorem sq_par {pr : List Nat} {cf : CF} {w : Nat} {i j : Nat} {a b : E} {ta tb : TE} (ha : SE K ta (evE cf a)) (hb : SE K tb (evE cf b)) (hi : i ∉ pr) (hj : j ∉ pr) : SQ K pr (tPar i j (tCons ta (tCons tb tNil))) (exQ cf w (.par i j a b)) := fun ρ σ Z H Fs fl ρ' r ev D q => by
  simp only [exQ, Option.bind_eq_some_iff] at ev
  obtain ⟨⟨x, ρ1⟩, h1, ⟨y, ρ2⟩, h2, h3⟩ := ev
  dsimp only at h2 h3
  split at h3
  · rename_i hl
    simp only [Bool.and_eq_true, decide_eq_true_eq] at hl
    simp only [Option.some.injEq, Prod.mk.injEq] at h3
    obtain ⟨rfl, rfl⟩ := h3
    refine ha.sf ρ σ Z H Fs x ρ1 r h1 _ fun v Z1 H1 Fs1 t1 r1 f1 => ?_
    refine hb.sf ρ1 σ Z1 H1 Fs1 y ρ2 r1 h2 _ fun u Z2 H2 Fs2 t2 r2 f2 => ?_
    refine ⟨v, u, rfl, ?_⟩
    have r3 := r2.store (i := i) (sd := (.z, x.2)) (F := fun _ => False) hl.1 ⟨f1.mono t2.zz, fun _ z => z⟩ (fun _ z => z.elim)
    have r4 := r3.store (i := j) (sd := (.z, y.2)) (F := fun _ => False) (by simpa using hl.2) ⟨f2, fun _ z => z⟩ (fun _ z => z.elim)
    refine q _ Z2 H2 _ ((t1.trans t2).less fun a f => ?_) r4 ((keep_set hi).trans (keep_set hj))
    exact ((al_on f).elim id False.elim : Al _ a) |> fun f => (al_on f).elim id False.elim
  · cases h3
/-- x[k] = v, a list or a dict -/
def tSTO (K : PySem.W.Frag) (i : Nat) (tk tv : TE) : TS := fun D σ H => tAsg tv (gSub (tVar i) tk rSetL) D σ H ∨ sDPut (tVar i) tk tv D σ H
theorem app_fzK : ∀ {vs ws : List (Key × V)} {ds es : List (D × D)}, FzK K Z vs ds → FzK K Z ws es → FzK K Z (vs ++ ws) (ds ++ es)
  | _, _, _, _, .nil, h => h
  | _, _, _, _, .cons a r, h => .cons a (app_fzK r h)
theorem any_fzK {k : Key} {d : D} (hd : ∀ q : Key, deq (kD q) d = decide (q = k)) : ∀ {kvs : List (Key × V)} {ds : List (D × D)}, FzK K Z kvs ds → (kvs.any fun kv => decide (kv.1 = k)) = ds.any fun p => deq p.1 d
  | _, _, .nil => rfl
  | _, _, .cons h r => by
    simp only [List.any_cons, hd]
    rw [any_fzK hd r]
theorem map_fzK {k : Key} {d e : D} {v : V} (hd : ∀ q : Key, deq (kD q) d = decide (q = k)) (he : Fz K Z v e) : ∀ {kvs : List (Key × V)} {ds : List (D × D)}, FzK K Z kvs ds → FzK K Z (kvs.map fun kv => if kv.1 = k then (kv.1, v) else kv) (ds.map fun p => if deq p.1 d then (p.1, e) else p)
  | _, _, .nil => .nil
  | _, _, .cons (k := j) h r => by
    simp only [List.map_cons, hd, decide_eq_true_eq]
    by_cases hj : j = k
    · rw [if_pos hj, if_pos hj]
      exact .cons he (map_fzK hd he r)
    · rw [if_neg hj, if_neg hj]
      exact .cons h (map_fzK hd he r)
theorem put_fz {k : Key} {d e : D} {v : V} (hd : ∀ q : Key, deq (kD q) d = decide (q = k)) (hk : d = kD k) (he : Fz K Z v e) {kvs : List (Key × V)} {ds : List (D × D)} (f : FzK K Z kvs ds) : FzK K Z (putK kvs k v) (put d e ds) := by
  unfold putK put
  rw [← any_fzK hd f]
  split
  · exact map_fzK hd he f
  · subst hk
    exact app_fzK f (.cons he .nil)
theorem sq_sto {pr : List Nat} {cf : CF} {w : Nat} {i : Nat} {k v : E} {tk tv : TE} (hk : SE K tk (evE cf k)) (hv : SE K tv (evE cf v)) : SQ K pr (tSTO K i tk tv) (exQ cf w (.sto i k v)) := fun ρ σ Z H Fs fl ρ' r ev D q => by
  simp only [exQ, Option.bind_eq_some_iff] at ev
  obtain ⟨⟨y, ρ1⟩, h1, sd0, h0, ⟨x, ρ2⟩, h2, sd, h3, ev⟩ := ev
  obtain ⟨s, d⟩ := sd
  split at ev
  · rename_i d' e
    cases e
    obtain ⟨d2, h4, h5⟩ := Option.bind_eq_some_iff.mp ev
    simp only [Option.some.injEq, Prod.mk.injEq] at h5
    obtain ⟨rfl, rfl⟩ := h5
    cases d with
    | list xs =>
      refine .inl (hv.sf ρ σ Z H Fs y ρ1 r h1 _ fun u Z1 H1 Fs1 t1 r1 f1 => ?_)
      obtain ⟨p, hσ, _⟩ := r1.rep i _ h0
      refine ⟨p, hσ, hk.sf ρ1 σ Z1 H1 Fs1 x ρ2 r1 h2 _ fun n Z2 H2 Fs2 t2 r2 f2 => ?_⟩
      obtain ⟨p2, hσ2, rp⟩ := r2.rep i _ h3
      rw [hσ] at hσ2
      cases hσ2
      obtain ⟨a, vs, rfl, z, hH, f, hF⟩ := own_list rp
      obtain ⟨sx, dx⟩ := x
      cases dx with
      | int m =>
        simp only [sto, Option.map_eq_some_iff] at h4
        obtain ⟨j, hj, rfl⟩ := h4
        refine ⟨a, vs, m, j, rfl, f2.int_of, hH, by rw [f.length]; exact hj, ?_⟩
        have f' := set_fz (j := j) f (f1.mono t2.zz)
        have rw' : RepS K Z2 (upd H2 a (.lst (vs.set j u))) (.u .z) (.ref a) (.list (xs.set j y.2)) (Fs2 i) := by
          have kk := rep_lst (K := K) (H := upd H2 a (.lst (vs.set j u))) z upd_same f'
          have e : (fun b => b = a) = Fs2 i := funext fun b => propext (hF b).symm
          rw [e] at kk
          exact kk
        exact q σ Z2 _ Fs2 ((t1.trans t2).trans (tr_write hH ((hF a).mpr rfl))) (r2.write (sd := (.u .z, .list (xs.set j y.2))) z hF hσ rw') Keep.refl
      | _ => simp [sto] at h4
    | dict xs =>
      refine .inr (hv.sf ρ σ Z H Fs y ρ1 r h1 _ fun u Z1 H1 Fs1 t1 r1 f1 => ?_)
      obtain ⟨p, hσ, _⟩ := r1.rep i _ h0
      refine ⟨p, hσ, hk.sf ρ1 σ Z1 H1 Fs1 x ρ2 r1 h2 _ fun n Z2 H2 Fs2 t2 r2 f2 => ?_⟩
      obtain ⟨p2, hσ2, rp⟩ := r2.rep i _ h3
      rw [hσ] at hσ2
      cases hσ2
      obtain ⟨a, kvs, rfl, z, hH, f, hF⟩ := own_dict rp
      simp only [sto] at h4
      split at h4
      · rename_i hb
        simp only [Option.some.injEq] at h4
        subst h4
        simp only [Bool.and_eq_true, decide_eq_true_eq] at hb
        obtain ⟨kk, rfl, hkd, hd⟩ := deq_kD (H := H2) (k := .inl 0) n (.fz f2) hb.1
        have f' := put_fz hd hkd (f1.mono t2.zz) f
        refine ⟨a, _, rfl, .inl ⟨kvs, kk, hH, rfl, by rw [fzK_length f]; exact hb.2, rfl⟩, ?_⟩
        have rw' : RepS K Z2 (upd H2 a (.dK (putK kvs kk u))) (.u .z) (.ref a) (.dict (put x.2 y.2 xs)) (Fs2 i) := by
          have kk := rep_dk (K := K) (H := upd H2 a (.dK (putK kvs kk u))) z upd_same f'
          have e : (fun b => b = a) = Fs2 i := funext fun b => propext (hF b).symm
          rw [e] at kk
          exact kk
        exact q σ Z2 _ Fs2 ((t1.trans t2).trans (tr_write hH ((hF a).mpr rfl))) (r2.write (sd := (.u .z, .dict (put x.2 y.2 xs))) z hF hσ rw') Keep.refl
      · cases h4
    | _ => simp [sto] at h4
  · cases ev
/-- a store of a list's item within a row of targets -/
theorem sto_one {cf : CF} {i : Nat} {k : E} {tk : TE} (hk : SE K tk (evE cf k)) {u : V} {d : D} (r : R K Z H ρ σ Fs) (fu : Fz K Z u d) (e : stoL (evE cf k) i d ρ = some ρ') (Q : L2.St → Hp → Prop)
    (q : ∀ Z' H' Fs', Tr Z H (Al Fs) Z' H' (Al Fs') → R K Z' H' ρ' σ Fs' → Q σ H') : gSub (tVar i) tk rSetL u σ H Q := by
  unfold stoL at e
  simp only [Option.bind_eq_some_iff] at e
  obtain ⟨sd0, h0, ⟨x, ρ2⟩, h2, sd, h3, ev⟩ := e
  have h0 : getO ρ i = some sd0 := by
    unfold getO
    rw [Option.bind_eq_some_iff]
    exact h0
  have h3 : getO ρ2 i = some sd := by
    unfold getO
    rw [Option.bind_eq_some_iff]
    exact h3
  obtain ⟨s, dd⟩ := sd
  split at ev
  · rename_i xs e
    cases e
    obtain ⟨d2, h4, h5⟩ := Option.bind_eq_some_iff.mp ev
    simp only [Option.some.injEq] at h5
    subst h5
    obtain ⟨p, hσ, _⟩ := r.rep i _ h0
    refine ⟨p, hσ, hk.sf ρ σ Z H Fs x ρ2 r h2 _ fun n Z2 H2 Fs2 t2 r2 f2 => ?_⟩
    obtain ⟨p2, hσ2, rp⟩ := r2.rep i _ h3
    rw [hσ] at hσ2
    cases hσ2
    obtain ⟨a, vs, rfl, z, hH, f, hF⟩ := own_list rp
    obtain ⟨sx, dx⟩ := x
    cases dx with
    | int m =>
      simp only [sto, Option.map_eq_some_iff] at h4
      obtain ⟨j, hj, rfl⟩ := h4
      refine ⟨a, vs, m, j, rfl, f2.int_of, hH, by rw [f.length]; exact hj, ?_⟩
      have f' := set_fz (j := j) f (fu.mono t2.zz)
      have rw' : RepS K Z2 (upd H2 a (.lst (vs.set j u))) (.u .z) (.ref a) (.list (xs.set j d)) (Fs2 i) := by
        have kk := rep_lst (K := K) (H := upd H2 a (.lst (vs.set j u))) z upd_same f'
        have e : (fun b => b = a) = Fs2 i := funext fun b => propext (hF b).symm
        rw [e] at kk
        exact kk
      exact q Z2 _ Fs2 (t2.trans (tr_write hH ((hF a).mpr rfl))) (r2.write (sd := (.u .z, .list (xs.set j d))) z hF hσ rw')
    | _ => simp [sto] at h4
  · cases ev
theorem sq_sw {pr : List Nat} {cf : CF} {w : Nat} {i : Nat} {k1 k2 a b : E} {tk1 tk2 ta tb : TE} (hk1 : SE K tk1 (evE cf k1)) (hk2 : SE K tk2 (evE cf k2)) (ha : SE K ta (evE cf a)) (hb : SE K tb (evE cf b)) :
    SQ K pr (tAsg (tTup (tCons ta (tCons tb tNil))) (gTup K 2 (gCons (gSub (tVar i) tk1 rSetL) (gCons (gSub (tVar i) tk2 rSetL) gNil)))) (exQ cf w (.sw i k1 k2 a b)) := fun ρ σ Z H Fs fl ρ' r ev D q => by
  simp only [exQ, Option.bind_eq_some_iff] at ev
  obtain ⟨⟨x, ρ1⟩, h1, ⟨y, ρ2⟩, h2, ρ3, h3, ρ4, h4, h5⟩ := ev
  simp only [Option.some.injEq, Prod.mk.injEq] at h5
  obtain ⟨rfl, rfl⟩ := h5
  refine ha.sf ρ σ Z H Fs x ρ1 r h1 _ fun v Z1 H1 Fs1 t1 r1 f1 => ?_
  refine hb.sf ρ1 σ Z1 H1 Fs1 y ρ2 r1 h2 _ fun u Z2 H2 Fs2 t2 r2 f2 => ?_
  refine ⟨by show 2 ≤ sizeLine; decide, fun p hp => ?_⟩
  have nt := new_tup (K := K) r2.sub hp (.cons (f1.mono t2.zz) (.cons f2 .nil))
  have x3 := nt.res r2
  refine ⟨p, [v, u], rfl, .inl (.inl upd_same), rfl, v, [u], rfl, ?_⟩
  refine sto_one hk1 x3.r ((f1.mono t2.zz).mono nt.zz) h3 _ fun Z4 H4 Fs4 t4 r4 => ?_
  refine ⟨u, [], rfl, ?_⟩
  refine sto_one hk2 r4 ((f2.mono nt.zz).mono t4.zz) h4 _ fun Z5 H5 Fs5 t5 r5 => ?_
  exact ⟨rfl, q σ Z5 H5 Fs5 ((t1.trans t2).trans (x3.tr.trans (t4.trans t5))) r5 Keep.refl⟩
/-! ### loops -/
theorem sq_fo {pr : List Nat} {cf : CF} {w : Nat} {it : I} {g : G} {b : B} {wi : TI} {tg : TG} {tb : TS} (hi : SI K wi (evI cf it)) (hg : SG K pr tg g) (hb : SQ K pr tb (exB cf w b)) : SQ K pr (tFor wi tg tb) (exQ cf w (.fo it g b)) := fun ρ σ Z H Fs fl ρ' r ev D q => by
  simp only [exQ, Option.bind_eq_some_iff] at ev
  obtain ⟨⟨ds, ρ1⟩, h1, h2⟩ := ev
  refine hi ρ σ Z H Fs ds ρ1 r h1 _ fun J Z1 H1 Fs1 t1 r1 gv => ?_
  refine ⟨fun i m σ' H' => m = ds.length - i ∧ i ≤ ds.length ∧ ∃ Z' Fs' ρ2, Tr Z H (Al Fs) Z' H' (Al Fs') ∧ R K Z' H' ρ2 σ' Fs' ∧ Keep pr σ σ' ∧ Same Z1 Z' ∧ loop (exB cf w b) g (ds.drop i) ρ2 = some (fl, ρ'), ⟨_, rfl, Nat.zero_le _, Z1, Fs1, ρ1, t1, r1, Keep.refl, Same.refl _, h2⟩, ?_⟩
  rintro i m σ2 H2 ⟨rfl, hle, Z2, Fs2, ρ2, t2, r2, k2, s2, e2⟩
  obtain ⟨gs, ge⟩ := gv Z2 H2 s2 r2.sub
  by_cases hlt : i < ds.length
  · refine .inr ?_
    have hd : ds[i]? = some ds[i] := List.getElem?_eq_getElem hlt
    obtain ⟨go, yl⟩ := gs i _ hd
    refine ⟨go, _, fun σ' H' n => ⟨ds.length - (i + 1), by omega, n⟩, fun x H3 y => ?_⟩
    obtain ⟨Z3, nw⟩ := yl x H3 y
    have x3 := nw.res r2
    rw [List.drop_eq_getElem_cons hlt] at e2
    simp only [loop, Option.bind_eq_some_iff] at e2
    obtain ⟨ρ3, ha, ⟨f, ρ4⟩, hx, e2⟩ := e2
    refine hg x (.z, ds[i]) ρ2 σ2 Z3 H3 Fs2 _ ρ3 x3.r x3.rep (fun _ z => z.elim) ha _ fun σ3 Fs3 a3 r3 k3 _ => ?_
    have tr3 : Tr Z H (Al Fs) Z3 H3 (Al Fs3) := (t2.trans x3.tr).less fun a f => (a3 a f).elim id False.elim
    refine hb ρ3 σ3 Z3 H3 Fs3 f ρ4 r3 hx _ ?_
    cases f with
    | nx => exact fun σ5 Z5 H5 Fs5 t5 r5 k5 => ⟨rfl, hlt, Z5, Fs5, ρ4, tr3.trans t5, r5, (k2.trans k3).trans k5, s2.trans (nw.zz.trans t5.zz), e2⟩
    | ct => exact fun σ5 Z5 H5 Fs5 t5 r5 k5 => ⟨rfl, hlt, Z5, Fs5, ρ4, tr3.trans t5, r5, (k2.trans k3).trans k5, s2.trans (nw.zz.trans t5.zz), e2⟩
    | bk =>
      cases e2
      exact fun σ5 Z5 H5 Fs5 t5 r5 k5 => q σ5 Z5 H5 Fs5 (tr3.trans t5) r5 ((k2.trans k3).trans k5)
    | rt x =>
      cases e2
      exact fun v σ5 Z5 H5 Fs5 F x5 k5 => q v σ5 Z5 H5 Fs5 F (x5.trans tr3) ((k2.trans k3).trans k5)
  · have e : i = ds.length := by omega
    subst e
    rw [List.drop_length] at e2
    cases e2
    exact .inl ⟨ge, q σ2 Z2 H2 Fs2 t2 r2 k2⟩
theorem sq_whl {pr : List Nat} {cf : CF} {w : Nat} {t : T} {b : B} {tt : TT} {tb : TS} (ht : ST K tt (evT cf t)) (hb : SQ K pr tb (exB cf w b)) : SQ K pr (tWhile tt tb) (exQ cf w (.whl t b)) := fun ρ σ Z H Fs fl ρ' r ev D q => by
  simp only [exQ] at ev
  refine ⟨fun m σ' H' => ∃ Z' Fs' ρ2, Tr Z H (Al Fs) Z' H' (Al Fs') ∧ R K Z' H' ρ2 σ' Fs' ∧ Keep pr σ σ' ∧ wloop (evT cf t) (exB cf w b) m ρ2 = some (fl, ρ'), ⟨w, Z, Fs, ρ, Tr.refl, r, Keep.refl, ev⟩, ?_⟩
  rintro m σ2 H2 ⟨Z2, Fs2, ρ2, t2, r2, k2, e2⟩
  cases m with
  | zero => cases e2
  | succ n =>
    simp only [wloop, Option.bind_eq_some_iff] at e2
    obtain ⟨⟨c, ρ3⟩, h3, e2⟩ := e2
    refine ht ρ2 σ2 Z2 H2 Fs2 c ρ3 r2 h3 _ fun Z3 H3 Fs3 t3 r3 => ?_
    cases c with
    | false =>
      cases e2
      exact q σ2 Z3 H3 Fs3 (t2.trans t3) r3 k2
    | true =>
      simp only [Option.bind_eq_some_iff] at e2
      obtain ⟨⟨f, ρ4⟩, hx, e2⟩ := e2
      show ∃ N : L2.St → Hp → Prop, _
      refine ⟨_, fun σ' H' z => ⟨n, Nat.lt_succ_self n, z⟩, hb ρ3 σ2 Z3 H3 Fs3 f ρ4 r3 hx _ ?_⟩
      cases f with
      | nx => exact fun σ5 Z5 H5 Fs5 t5 r5 k5 => ⟨Z5, Fs5, ρ4, (t2.trans t3).trans t5, r5, k2.trans k5, e2⟩
      | ct => exact fun σ5 Z5 H5 Fs5 t5 r5 k5 => ⟨Z5, Fs5, ρ4, (t2.trans t3).trans t5, r5, k2.trans k5, e2⟩
      | bk =>
        cases e2
        exact fun σ5 Z5 H5 Fs5 t5 r5 k5 => q σ5 Z5 H5 Fs5 ((t2.trans t3).trans t5) r5 (k2.trans k5)
      | rt x =>
        cases e2
        exact fun v σ5 Z5 H5 Fs5 F x5 k5 => q v σ5 Z5 H5 Fs5 F (x5.trans (t2.trans t3)) (k2.trans k5)
end
end Mi
end
section
namespace Mi
open PySem PySem.Spec PyProof.Rows L2
section
variable {K : PySem.W.Frag} {Z H Z' H' Z0 Z1 H1 : Hp} {ρ ρ' ρ1 : Ev} {σ σ' : L2.St} {Fs Fs' Fc : Nat → Fp} {A A' : Fp}
/-! ### comprehensions -/
theorem noneAt_len : ∀ {own : List Nat} {ρ : Ev}, (noneAt ρ own).length = ρ.length
  | [], _ => rfl
  | i :: r, ρ => by
    show ((noneAt ρ r).set i none).length = _
    rw [List.length_set, noneAt_len]
theorem noneAt_get {i : Nat} : ∀ {own : List Nat} {ρ : Ev}, getO (noneAt ρ own) i = if i ∈ own then none else getO ρ i
  | [], ρ => by simp [noneAt]
  | j :: r, ρ => by
    show getO ((noneAt ρ r).set j none) i = _
    rw [getO_set, noneAt_get (own := r)]
    by_cases h : j = i
    · subst h
      simp
    · have h' : ¬ i = j := Ne.symm h
      simp [h, h']
theorem restore_len : ∀ {own : List Nat} {ρ0 ρ : Ev}, (restore ρ0 ρ own).length = ρ.length
  | [], _, _ => rfl
  | i :: r, ρ0, ρ => by
    show ((restore ρ0 ρ r).set i (getO ρ0 i)).length = _
    rw [List.length_set, restore_len]
theorem restore_get {i : Nat} : ∀ {own : List Nat} {ρ0 ρ : Ev}, i < ρ.length → getO (restore ρ0 ρ own) i = if i ∈ own then getO ρ0 i else getO ρ i
  | [], _, _, _ => by simp [restore]
  | j :: r, ρ0, ρ, hl => by
    show getO ((restore ρ0 ρ r).set j (getO ρ0 j)) i = _
    rw [getO_set, restore_get (own := r) hl, restore_len]
    by_cases h : j = i
    · subst h
      simp [hl]
    · have h' : ¬ i = j := Ne.symm h
      simp [h, h']
def clr (own : List Nat) (Fs : Nat → Fp) : Nat → Fp := fun i a => i ∉ own ∧ Fs i a
theorem R.wipe {own : List Nat} (r : R K Z H ρ σ Fs) : R K Z H (noneAt ρ own) (L2.wipe σ own) (clr own Fs) where
  len := by rw [noneAt_len, wipe_length]; exact r.len
  sub := r.sub
  rep := fun i sd e => by
    rw [noneAt_get] at e
    split at e
    · cases e
    · rename_i hi
      obtain ⟨v, h1, h2⟩ := r.rep i sd e
      refine ⟨v, by rw [wipe_get, if_neg hi]; exact h1, ?_⟩
      have e : clr own Fs i = Fs i := funext fun a => propext ⟨fun q => q.2, fun q => ⟨hi, q⟩⟩
      rw [e]
      exact h2
  out := fun i e a f => by
    rw [noneAt_get, if_neg f.1] at e
    exact r.out i e a f.2
  one := fun i j a f g => r.one i j a f.2 g.2
theorem al_clr {own : List Nat} {a : Addr} (h : Al (clr own Fs) a) : Al Fs a := let ⟨i, h⟩ := h; ⟨i, h.2⟩
/-- a cell of nobody's is written -/
theorem R.other {a : Addr} {o : HO} (r : R K Z H ρ σ Fs) (z : Z a = none) (n : ¬ Al Fs a) : R K Z (upd H a o) ρ σ Fs where
  len := r.len
  sub := fun b u e => by
    have hb : b ≠ a := fun q => by rw [q, z] at e; cases e
    rcases r.sub b u e with q | ⟨w, q⟩
    · exact .inl (by rw [upd_ne hb]; exact q)
    · exact .inr ⟨w, by rw [upd_ne hb]; exact q⟩
  rep := fun i sd e => by
    obtain ⟨v, h1, h2⟩ := r.rep i sd e
    exact ⟨v, h1, h2.mono (Same.refl _) fun b f => ⟨upd_ne fun q => n ⟨i, by rw [← q]; exact f⟩, (h2.foot b f).1⟩⟩
  out := r.out
  one := r.one
theorem Tr.plus {D : Addr} (t : Tr Z H A Z' H' A') : Tr Z H (fun a => A a ∨ a = D) Z' H' (fun a => A' a ∨ a = D) where
  zz := t.zz
  hh := fun a o e n => t.hh a o e fun q => n (.inl q)
  nw := fun a q => by
    rcases q with q | q
    · rcases t.nw a q with z | z
      · exact .inl (.inl z)
      · exact .inr z
    · exact .inl (.inr q)
  zn := fun a o q => by
    rcases t.zn a o q with z | z | z
    · exact .inl z
    · exact .inr (.inl z)
    · exact .inr (.inr (.inl z))
theorem plain_own {own : List Nat} (r : R K Z H ρ σ Fs) (h : plainAt ρ own = true) {i : Nat} (hi : i ∈ own) : (∀ a, ¬ Fs i a) ∧ ∀ sd, getO ρ i = some sd → sd.1 = .z := by
  unfold plainAt at h
  have hx := List.all_eq_true.mp h i hi
  cases e : getO ρ i with
  | none => exact ⟨r.out i e, fun sd q => by cases q⟩
  | some sd =>
    obtain ⟨s, d⟩ := sd
    rw [e] at hx
    cases s with
    | z =>
      obtain ⟨v, _, h2⟩ := r.rep i _ e
      exact ⟨h2.2, fun sd q => by cases q; rfl⟩
    | u s => cases hx
theorem se_lc {cf : CF} {it : I} {own : List Nat} {g : G} {t : T} {e : E} {wi : TI} {tg : TG} {tt : TT} {te : TE} (hi : SI K wi (evI cf it)) (hg : SG K [] tg g) (hgo : gin g own) (ht : ST K tt (evT cf t)) (he : SE K te (evE cf e)) :
    SE K (tLc wi tg tt te own) (evE cf (.lc it own g t e)) := fun ρ σ Z H Fs sd ρ' r ev Q q => by
  simp only [evE, Option.bind_eq_some_iff] at ev
  obtain ⟨⟨ds, ρ1⟩, h1, h2⟩ := ev
  dsimp only at h2
  split at h2
  · rename_i hp
    simp only [Option.bind_eq_some_iff] at h2
    obtain ⟨⟨accf, ρf⟩, h3, h4⟩ := h2
    simp only [Option.some.injEq, Prod.mk.injEq] at h4
    obtain ⟨rfl, rfl⟩ := h4
    refine hi ρ σ Z H Fs ds ρ1 r h1 _ fun J Z1 H1 Fs1 t1 r1 gv => ?_
    intro D hD
    have zD : Z1 D = none := sub_none r1.sub hD
    have nD : ¬ Al Fs1 D := fun q => by
      obtain ⟨_, o, ho, _⟩ := r1.foot q
      rw [hD] at ho
      cases ho
    have r1w := (R.wipe (own := own) r1).other (o := .lst []) zD fun q => nD (al_clr q)
    have tD : Tr Z H (Al Fs) Z1 (upd H1 D (.lst [])) fun a => Al (clr own Fs1) a ∨ a = D := by
      refine t1.trans ⟨Same.refl _, fun a o e _ => same_new hD a o e, fun a q => ?_, fun _ _ q => .inl q⟩
      rcases q with q | rfl
      · exact .inl (al_clr q)
      · exact .inr hD
    refine ⟨fun i m H' => m = ds.length - i ∧ i ≤ ds.length ∧ ∃ Z' Fs' ρ2 acc accD, Tr Z H (Al Fs) Z' H' (fun a => Al Fs' a ∨ a = D) ∧ R K Z' H' ρ2 (L2.wipe σ own) Fs' ∧ H' D = some (.lst acc) ∧ Z' D = none ∧ ¬ Al Fs' D ∧ Fzs K Z' acc accD ∧ Same Z1 Z' ∧ (∀ i ∈ own, getO ρ2 i = none) ∧
      turns (evT cf t) (evE cf e) g own (ds.drop i) ρ2 accD = some (accf, ρf), ⟨_, rfl, Nat.zero_le _, Z1, _, _, [], [], tD, r1w, upd_same, zD, fun q => nD (al_clr q), .nil, Same.refl _, fun i hi => by rw [noneAt_get, if_pos hi], h3⟩, ?_⟩
    rintro i m H2 ⟨rfl, hle, Z2, Fs2, ρ2, acc, accD, t2, r2, hacc, z2, n2, f2, s2, o2, e2⟩
    obtain ⟨gs, ge⟩ := gv Z2 H2 s2 r2.sub
    by_cases hlt : i < ds.length
    · refine .inr ?_
      have hd : ds[i]? = some ds[i] := List.getElem?_eq_getElem hlt
      obtain ⟨go, yl⟩ := gs i _ hd
      refine ⟨go, _, fun H' n => ⟨ds.length - (i + 1), by omega, n⟩, fun x H3 y => ?_⟩
      obtain ⟨Z3, nw⟩ := yl x H3 y
      have x3 := nw.res r2
      rw [List.drop_eq_getElem_cons hlt] at e2
      simp only [turns, Option.bind_eq_some_iff] at e2
      obtain ⟨ρ3, ha, ⟨b, ρ4⟩, hx, e2⟩ := e2
      refine hg x (.z, ds[i]) ρ2 (L2.wipe σ own) Z3 H3 Fs2 _ ρ3 x3.r x3.rep (fun _ z => z.elim) ha _ fun σ3 Fs3 a3 r3 k3 wp => ?_
      have wp3 : L2.wipe σ3 own = L2.wipe σ own := by
        rw [wp own hgo]
        apply List.ext_getElem?
        intro j
        rw [wipe_get, wipe_get]
        by_cases hj : j ∈ own
        · simp [hj, wipe_length]
        · simp [hj, wipe_get]
      refine ⟨wp3, ?_⟩
      -- D in the states on the way
      have dn : ∀ {Z4 H4 : Hp} {Fs4 : Nat → Fp}, Tr Z3 H3 (Al Fs3) Z4 H4 (Al Fs4) → H4 D = some (.lst acc) ∧ Z4 D = none ∧ ¬ Al Fs4 D := fun {Z4 H4 Fs4} t4 => by
        have h3D : H3 D = some (.lst acc) := nw.hh D _ hacc
        have n3 : ¬ Al Fs3 D := fun q => (a3 D q).elim n2 False.elim
        have z3 : Z3 D = none := by
          cases e : Z3 D with
          | none => rfl
          | some o =>
            rcases nw.zn D o e with q | q
            · rw [z2] at q; cases q
            · rw [hacc] at q; cases q
        refine ⟨t4.hh D _ h3D n3, ?_, new_foot t4 h3D n3⟩
        cases e : Z4 D with
        | none => rfl
        | some o =>
          rcases t4.zn D o e with q | q | q
          · rw [z3] at q; cases q
          · rw [h3D] at q; cases q
          · exact (n3 q).elim
      have tr3 : Tr Z H (Al Fs) Z3 H3 (fun a => Al Fs3 a ∨ a = D) := (t2.trans x3.tr.plus).less fun a f => by
        rcases f with f | f
        · rcases a3 a f with f | f
          · exact .inl f
          · exact f.elim
        · exact .inr f
      refine ht ρ3 σ3 Z3 H3 Fs3 b ρ4 r3 hx _ fun Z4 H4 Fs4 t4 r4 => ?_
      obtain ⟨d4, z4, n4⟩ := dn t4
      cases b with
      | false =>
        rw [if_neg (by decide)]
        refine ⟨rfl, hlt, Z4, clr own Fs4, noneAt ρ4 own, acc, accD, (tr3.trans t4.plus).less fun a f => f.elim (fun f => .inl (al_clr f)) .inr, by rw [← wp3]; exact R.wipe r4, d4, z4, fun q => n4 (al_clr q), f2.mono (nw.zz.trans t4.zz), s2.trans (nw.zz.trans t4.zz), fun i hi => by rw [noneAt_get, if_pos hi], e2⟩
      | true =>
        rw [if_pos rfl]
        simp only [Option.bind_eq_some_iff] at e2
        obtain ⟨⟨sd, ρ5⟩, hy, e2⟩ := e2
        refine he.sf ρ4 σ3 Z4 H4 Fs4 sd ρ5 r4 hy _ fun v Z5 H5 Fs5 t5 r5 f5 => ?_
        obtain ⟨d5, z5, n5⟩ := dn (t4.trans t5)
        dsimp only at e2
        split at e2
        · rename_i hz
          refine ⟨acc, d5, by rw [f2.length]; exact hz, ?_⟩
          have r6 := (R.wipe (own := own) r5).other (o := .lst (acc ++ [v])) z5 fun q => n5 (al_clr q)
          rw [wp3] at r6
          refine ⟨rfl, hlt, Z5, clr own Fs5, noneAt ρ5 own, acc ++ [v], accD ++ [sd.2], ?_, r6, upd_same, z5, fun q => n5 (al_clr q), (f2.mono (nw.zz.trans (t4.zz.trans t5.zz))).app (.cons f5 .nil), s2.trans (nw.zz.trans (t4.zz.trans t5.zz)), fun i hi => by rw [noneAt_get, if_pos hi], e2⟩
          refine (tr3.trans (t4.trans t5).plus).trans ⟨Same.refl _, fun a o e n => ?_, fun a f => .inl (f.elim (fun f => .inl (al_clr f)) .inr), fun _ _ q => .inl q⟩
          rw [upd_ne fun q => n (.inr q)]
          exact e
        · cases e2
    · have e : i = ds.length := by omega
      subst e
      rw [List.drop_length] at e2
      simp only [turns, Option.some.injEq, Prod.mk.injEq] at e2
      obtain ⟨rfl, rfl⟩ := e2
      refine .inl ⟨ge, ?_⟩
      refine q (.ref D) Z2 H2 Fs2 (fun a => a = D) ⟨t2.less fun a f => .inl f, ⟨?_, r2.sub, fun i sd e => ?_, fun i e a f => ?_, r2.one⟩, rep_lst z2 hacc f2, fun a e => by rw [e]; exact n2, fun a e => ?_⟩
      · rw [restore_len, r2.len, wipe_length]
      · have hl := getO_lt e
        rw [restore_len] at hl
        rw [restore_get hl] at e
        split at e
        · rename_i hi
          obtain ⟨hz, hs⟩ := plain_own r1 hp hi
          obtain ⟨v, h5, h6⟩ := r1.rep i sd e
          refine ⟨v, h5, ?_⟩
          obtain ⟨s, d⟩ := sd
          have es : s = .z := hs _ e
          subst es
          exact ⟨h6.1.mono s2, r2.out i (o2 i hi)⟩
        · rename_i hi
          obtain ⟨v, h5, h6⟩ := r2.rep i sd e
          rw [wipe_get, if_neg hi] at h5
          exact ⟨v, h5, h6⟩
      · by_cases hl : i < ρ2.length
        · rw [restore_get hl] at e
          split at e
          · rename_i hi
            exact r2.out i (o2 i hi) a f
          · exact r2.out i e a f
        · refine r2.out i ?_ a f
          unfold getO
          rw [List.getElem?_eq_none_iff.mpr (by omega)]
          rfl
      · rw [e]
        by_cases n : Al Fs D
        · exact .inl n
        · refine .inr ?_
          cases e : H D with
          | none => rfl
          | some o => rw [t1.hh D o e n] at hD; cases hD
  · cases h2
end
end Mi
end
section
namespace Mi
open PySem PySem.Spec PyProof.Rows L2
section
variable {K : PySem.W.Frag} {Z H Z' H' Z0 H0 Z1 H1 : Hp} {ρ ρ' ρ1 : Ev} {σ σ' : L2.St} {Fs Fs' Fc : Nat → Fp} {A A' A0 : Fp}
/-- a list in the making stays what it is while others work -/
theorem keeps_D {D : Addr} {acc : List V} {Z3 H3 Z4 H4 : Hp} {Fs3 Fs4 : Nat → Fp} (h : H3 D = some (.lst acc)) (z : Z3 D = none) (n : ¬ Al Fs3 D) (t : Tr Z3 H3 (Al Fs3) Z4 H4 (Al Fs4)) : H4 D = some (.lst acc) ∧ Z4 D = none ∧ ¬ Al Fs4 D := by
  refine ⟨t.hh D _ h n, ?_, new_foot t h n⟩
  cases e : Z4 D with
  | none => rfl
  | some o =>
    rcases t.zn D o e with q | q | q
    · rw [z] at q; cases q
    · rw [h] at q; cases q
    · exact (n q).elim
theorem wipe_wipe {σ : L2.St} {a b : List Nat} (h : ∀ i ∈ a, i ∈ b) : wipe (wipe σ a) b = wipe σ b := by
  apply List.ext_getElem?
  intro j
  rw [wipe_get, wipe_get, wipe_get, wipe_length]
  by_cases hj : j ∈ b
  · simp [hj]
  · have : j ∉ a := fun q => hj (h j q)
    simp [hj, this]
theorem wipe_same {σ σ' : L2.St} {own : List Nat} (h : wipe σ' own = wipe (wipe σ own) own) : wipe σ' own = wipe σ own := by rw [h, wipe_wipe fun _ q => q]
/-- the turns of one generator, from a state on the way, to a state that goes on -/
theorem turns_loop {cf : CF} {own : List Nat} {g : G} {t : T} {e : E} {tg : TG} {tt : TT} {te : TE} (hg : SG K [] tg g) (hgo : gin g own) (ht : ST K tt (evT cf t)) (he : SE K te (evE cf e)) {J : It} {ds : List D} {D : Addr} {acc : List V} {accD accf : List Mi.D} {ρf : Ev} {Fin : Hp → Prop} {Hd : Hp → Hp → Fp → Prop}
    (gv : ∀ Z2 H2 A2, Hd Z2 H2 A2 → Sub Z2 H2 → (∀ i d, ds[i]? = some d → J.go i H2 ∧ ∀ x H', J.yld i H2 x H' → ∃ Z', New K Z2 H2 Z' H' (.z, d) x fun _ => False) ∧ J.stop ds.length H2)
    (hst : ∀ Z H A Z' H' A', Hd Z H A → Tr Z H (fun a => A a ∨ a = D) Z' H' (fun a => A' a ∨ a = D) → Hd Z' H' A') (t0 : Tr Z0 H0 A0 Z H (fun a => Al Fs a ∨ a = D)) (r0 : R K Z H ρ (L2.wipe σ own) Fs) (hD : H D = some (.lst acc)) (zD : Z D = none) (nD : ¬ Al Fs D) (f0 : Fzs K Z acc accD) (s0 : Hd Z H (Al Fs)) (o0 : ∀ i ∈ own, getO ρ i = none)
    (ev : turns (evT cf t) (evE cf e) g own ds ρ accD = some (accf, ρf))
    (fin : ∀ Z2 H2 Fs2 acc2, Tr Z0 H0 A0 Z2 H2 (fun a => Al Fs2 a ∨ a = D) → R K Z2 H2 ρf (L2.wipe σ own) Fs2 → H2 D = some (.lst acc2) → Z2 D = none → ¬ Al Fs2 D → Fzs K Z2 acc2 accf → Hd Z2 H2 (Al Fs2) → (∀ i ∈ own, getO ρf i = none) → Fin H2) :
    ∃ W : Nat → Nat → Hp → Prop, (∃ m, W 0 m H) ∧ ∀ j k H, W j k H →
      (J.stop j H ∧ Fin H) ∨ (J.go j H ∧ ∃ Nx : Hp → Prop, (∀ H', Nx H' → ∃ k', k' < k ∧ W (j + 1) k' H') ∧ ∀ x H', J.yld j H x H' → tg x (L2.wipe σ own) H' fun σ3 H5 => L2.wipe σ3 own = L2.wipe σ own ∧ tt σ3 H5 fun b H6 =>
        if b = true then te σ3 H6 fun y H7 => ∃ acc, H7 D = some (.lst acc) ∧ acc.length < sizeLine ∧ Nx (upd H7 D (.lst (acc ++ [y]))) else Nx H6) := by
  refine ⟨fun i m H' => m = ds.length - i ∧ i ≤ ds.length ∧ ∃ Z' Fs' ρ2 acc accD, Tr Z0 H0 A0 Z' H' (fun a => Al Fs' a ∨ a = D) ∧ R K Z' H' ρ2 (L2.wipe σ own) Fs' ∧ H' D = some (.lst acc) ∧ Z' D = none ∧ ¬ Al Fs' D ∧ Fzs K Z' acc accD ∧ Hd Z' H' (Al Fs') ∧ (∀ i ∈ own, getO ρ2 i = none) ∧
    turns (evT cf t) (evE cf e) g own (ds.drop i) ρ2 accD = some (accf, ρf), ⟨_, rfl, Nat.zero_le _, Z, Fs, ρ, acc, accD, t0, r0, hD, zD, nD, f0, s0, o0, ev⟩, ?_⟩
  rintro i m H2 ⟨rfl, hle, Z2, Fs2, ρ2, acc, accD, t2, r2, hacc, z2, n2, f2, s2, o2, e2⟩
  obtain ⟨gs, ge⟩ := gv Z2 H2 _ s2 r2.sub
  by_cases hlt : i < ds.length
  · refine .inr ?_
    have hd : ds[i]? = some ds[i] := List.getElem?_eq_getElem hlt
    obtain ⟨go, yl⟩ := gs i _ hd
    refine ⟨go, _, fun H' n => ⟨ds.length - (i + 1), by omega, n⟩, fun x H3 y => ?_⟩
    obtain ⟨Z3, nw⟩ := yl x H3 y
    have x3 := nw.res r2
    rw [List.drop_eq_getElem_cons hlt] at e2
    simp only [turns, Option.bind_eq_some_iff] at e2
    obtain ⟨ρ3, ha, ⟨b, ρ4⟩, hx, e2⟩ := e2
    refine hg x (.z, ds[i]) ρ2 (L2.wipe σ own) Z3 H3 Fs2 _ ρ3 x3.r x3.rep (fun _ z => z.elim) ha _ fun σ3 Fs3 a3 r3 k3 wp => ?_
    have wp3 : L2.wipe σ3 own = L2.wipe σ own := wipe_same (wp own hgo)
    refine ⟨wp3, ?_⟩
    have h3D : H3 D = some (.lst acc) := nw.hh D _ hacc
    have n3 : ¬ Al Fs3 D := fun q => (a3 D q).elim n2 False.elim
    have z3 : Z3 D = none := by
      cases e : Z3 D with
      | none => rfl
      | some o =>
        rcases nw.zn D o e with q | q
        · rw [z2] at q; cases q
        · rw [hacc] at q; cases q
    have tr3 : Tr Z0 H0 A0 Z3 H3 (fun a => Al Fs3 a ∨ a = D) := (t2.trans x3.tr.plus).less fun a f => by
      rcases f with f | f
      · rcases a3 a f with f | f
        · exact .inl f
        · exact f.elim
      · exact .inr f
    have trL : Tr Z2 H2 (fun a => Al Fs2 a ∨ a = D) Z3 H3 (fun a => Al Fs3 a ∨ a = D) := x3.tr.plus.less fun a f => by
      rcases f with f | f
      · rcases a3 a f with f | f
        · exact .inl f
        · exact f.elim
      · exact .inr f
    refine ht ρ3 σ3 Z3 H3 Fs3 b ρ4 r3 hx _ fun Z4 H4 Fs4 t4 r4 => ?_
    obtain ⟨d4, z4, n4⟩ := keeps_D h3D z3 n3 t4
    cases b with
    | false =>
      rw [if_neg (by decide)]
      refine ⟨rfl, hlt, Z4, clr own Fs4, noneAt ρ4 own, acc, accD, (tr3.trans t4.plus).less fun a f => f.elim (fun f => .inl (al_clr f)) .inr, by rw [← wp3]; exact R.wipe r4, d4, z4, fun q => n4 (al_clr q), f2.mono (nw.zz.trans t4.zz), hst _ _ _ _ _ _ s2 ((trL.trans t4.plus).less fun a f => f.elim (fun f => .inl (al_clr f)) .inr), fun i hi => by rw [noneAt_get, if_pos hi], e2⟩
    | true =>
      rw [if_pos rfl]
      simp only [Option.bind_eq_some_iff] at e2
      obtain ⟨⟨sd, ρ5⟩, hy, e2⟩ := e2
      refine he.sf ρ4 σ3 Z4 H4 Fs4 sd ρ5 r4 hy _ fun v Z5 H5 Fs5 t5 r5 f5 => ?_
      obtain ⟨d5, z5, n5⟩ := keeps_D h3D z3 n3 (t4.trans t5)
      dsimp only at e2
      split at e2
      · rename_i hz
        refine ⟨acc, d5, by rw [f2.length]; exact hz, ?_⟩
        have r6 := (R.wipe (own := own) r5).other (o := .lst (acc ++ [v])) z5 fun q => n5 (al_clr q)
        rw [wp3] at r6
        refine ⟨rfl, hlt, Z5, clr own Fs5, noneAt ρ5 own, acc ++ [v], accD ++ [sd.2], ?_, r6, upd_same, z5, fun q => n5 (al_clr q), (f2.mono (nw.zz.trans (t4.zz.trans t5.zz))).app (.cons f5 .nil), hst _ _ _ _ _ _ s2 ((trL.trans (t4.trans t5).plus).trans ⟨Same.refl _, fun a o e n => by
          rw [upd_ne fun q => n (.inr q)]
          exact e, fun a f => .inl (f.elim (fun f => .inl (al_clr f)) .inr), fun _ _ q => .inl q⟩), fun i hi => by rw [noneAt_get, if_pos hi], e2⟩
        refine (tr3.trans (t4.trans t5).plus).trans ⟨Same.refl _, fun a o e n => ?_, fun a f => .inl (f.elim (fun f => .inl (al_clr f)) .inr), fun _ _ q => .inl q⟩
        rw [upd_ne fun q => n (.inr q)]
        exact e
      · cases e2
  · have e : i = ds.length := by omega
    subst e
    rw [List.drop_length] at e2
    simp only [turns, Option.some.injEq, Prod.mk.injEq] at e2
    obtain ⟨rfl, rfl⟩ := e2
    exact .inl ⟨ge, fin Z2 H2 Fs2 acc t2 r2 hacc z2 n2 f2 s2 o2⟩
theorem se_lc2 {cf : CF} {it it1 : I} {own own1 : List Nat} {g g1 : G} {t t1 : T} {e : E} {wi wi1 : TI} {tg tg1 : TG} {tt tt1 : TT} {te : TE} (hi : SI K wi (evI cf it)) (hg : SG K [] tg g) (hgo : gin g own) (ht : ST K tt (evT cf t))
    (hi1 : SI K wi1 (evI cf it1)) (hg1 : SG K [] tg1 g1) (hgo1 : gin g1 own1) (ho : ∀ i ∈ own1, i ∈ own) (ht1 : ST K tt1 (evT cf t1)) (he : SE K te (evE cf e)) :
    SE K (tLc2 wi tg tt wi1 tg1 tt1 te own own1) (evE cf (.lc2 it own g t it1 own1 g1 t1 e)) := fun ρ σ Z H Fs sd ρ' r ev Q q => by
  simp only [evE, Option.bind_eq_some_iff] at ev
  obtain ⟨⟨ds, ρ1⟩, h1, h2⟩ := ev
  dsimp only at h2
  split at h2
  · rename_i hp
    simp only [Option.bind_eq_some_iff] at h2
    obtain ⟨⟨accf, ρf⟩, h3, h4⟩ := h2
    simp only [Option.some.injEq, Prod.mk.injEq] at h4
    obtain ⟨rfl, rfl⟩ := h4
    refine hi ρ σ Z H Fs ds ρ1 r h1 _ fun J Z1 H1 Fs1 t1 r1 gv => ?_
    intro D hD
    have zD : Z1 D = none := sub_none r1.sub hD
    have nD : ¬ Al Fs1 D := fun q => by
      obtain ⟨_, o, ho, _⟩ := r1.foot q
      rw [hD] at ho
      cases ho
    have r1w := (R.wipe (own := own) r1).other (o := .lst []) zD fun q => nD (al_clr q)
    have tD : Tr Z H (Al Fs) Z1 (upd H1 D (.lst [])) fun a => Al (clr own Fs1) a ∨ a = D := by
      refine t1.trans ⟨Same.refl _, fun a o e _ => same_new hD a o e, fun a q => ?_, fun _ _ q => .inl q⟩
      rcases q with q | rfl
      · exact .inl (al_clr q)
      · exact .inr hD
    refine ⟨fun i m H' => m = ds.length - i ∧ i ≤ ds.length ∧ ∃ Z' Fs' ρ2 acc accD, Tr Z H (Al Fs) Z' H' (fun a => Al Fs' a ∨ a = D) ∧ R K Z' H' ρ2 (L2.wipe σ own) Fs' ∧ H' D = some (.lst acc) ∧ Z' D = none ∧ ¬ Al Fs' D ∧ Fzs K Z' acc accD ∧ Same Z1 Z' ∧ (∀ i ∈ own, getO ρ2 i = none) ∧
      turns2 (evT cf t) (evI cf it1) (evT cf _) (evE cf e) g g1 own own1 (ds.drop i) ρ2 accD = some (accf, ρf), ⟨_, rfl, Nat.zero_le _, Z1, _, _, [], [], tD, r1w, upd_same, zD, fun q => nD (al_clr q), .nil, Same.refl _, fun i hi => by rw [noneAt_get, if_pos hi], h3⟩, ?_⟩
    rintro i m H2 ⟨rfl, hle, Z2, Fs2, ρ2, acc, accD, t2, r2, hacc, z2, n2, f2, s2, o2, e2⟩
    obtain ⟨gs, ge⟩ := gv Z2 H2 s2 r2.sub
    by_cases hlt : i < ds.length
    · refine .inr ?_
      have hd : ds[i]? = some ds[i] := List.getElem?_eq_getElem hlt
      obtain ⟨go, yl⟩ := gs i _ hd
      refine ⟨go, _, fun H' n => ⟨ds.length - (i + 1), by omega, n⟩, fun x H3 y => ?_⟩
      obtain ⟨Z3, nw⟩ := yl x H3 y
      have x3 := nw.res r2
      rw [List.drop_eq_getElem_cons hlt] at e2
      simp only [turns2, Option.bind_eq_some_iff] at e2
      obtain ⟨ρ3, ha, ⟨b, ρ4⟩, hx, e2⟩ := e2
      refine hg x (.z, ds[i]) ρ2 (L2.wipe σ own) Z3 H3 Fs2 _ ρ3 x3.r x3.rep (fun _ z => z.elim) ha _ fun σ3 Fs3 a3 r3 k3 wp => ?_
      have wp3 : L2.wipe σ3 own = L2.wipe σ own := wipe_same (wp own hgo)
      refine ⟨wp3, ?_⟩
      have h3D : H3 D = some (.lst acc) := nw.hh D _ hacc
      have n3 : ¬ Al Fs3 D := fun q => (a3 D q).elim n2 False.elim
      have z3 : Z3 D = none := by
        cases e : Z3 D with
        | none => rfl
        | some o =>
          rcases nw.zn D o e with q | q
          · rw [z2] at q; cases q
          · rw [hacc] at q; cases q
      have tr3 : Tr Z H (Al Fs) Z3 H3 (fun a => Al Fs3 a ∨ a = D) := (t2.trans x3.tr.plus).less fun a f => by
        rcases f with f | f
        · rcases a3 a f with f | f
          · exact .inl f
          · exact f.elim
        · exact .inr f
      refine ht ρ3 σ3 Z3 H3 Fs3 b ρ4 r3 hx _ fun Z4 H4 Fs4 t4 r4 => ?_
      obtain ⟨d4, z4, n4⟩ := keeps_D h3D z3 n3 t4
      cases b with
      | false =>
        rw [if_neg (by decide)]
        refine ⟨rfl, hlt, Z4, clr own Fs4, noneAt ρ4 own, acc, accD, (tr3.trans t4.plus).less fun a f => f.elim (fun f => .inl (al_clr f)) .inr, by rw [← wp3]; exact R.wipe r4, d4, z4, fun q => n4 (al_clr q), f2.mono (nw.zz.trans t4.zz), s2.trans (nw.zz.trans t4.zz), fun i hi => by rw [noneAt_get, if_pos hi], e2⟩
      | true =>
        rw [if_pos rfl]
        simp only [Option.bind_eq_some_iff] at e2
        obtain ⟨⟨ds1, ρ5⟩, hI, ⟨acc6, ρ6⟩, hT, e2⟩ := e2
        refine hi1 ρ4 σ3 Z4 H4 Fs4 ds1 ρ5 r4 hI _ fun J1 Z5 H5 Fs5 t5 r5 gv1 => ?_
        obtain ⟨d5, z5, n5⟩ := keeps_D h3D z3 n3 (t4.trans t5)
        have ss : Same Z2 Z5 := nw.zz.trans (t4.zz.trans t5.zz)
        refine turns_loop (own := own1) (Fs := clr own1 Fs5) (Hd := fun Z2 _ _ => Same Z5 Z2) hg1 hgo1 ht1 he (fun Z2 H2 _ e s => gv1 Z2 H2 e s) (fun _ _ _ _ _ _ e t => e.trans t.zz) ((tr3.trans (t4.trans t5).plus).less fun a f => f.elim (fun f => .inl (al_clr f)) .inr) (R.wipe r5) d5 z5 (fun q => n5 (al_clr q)) (f2.mono ss) (Same.refl _) (fun i hi => by rw [noneAt_get, if_pos hi]) hT ?_
        intro Z6 H6 Fs6 acc7 t6 r6 d6 z6 n6 f6 s6 o6
        refine ⟨rfl, hlt, Z6, clr own Fs6, noneAt ρ6 own, acc7, acc6, t6.less fun a f => f.elim (fun f => .inl (al_clr f)) .inr, ?_, d6, z6, fun q => n6 (al_clr q), f6, s2.trans (ss.trans s6), fun i hi => by rw [noneAt_get, if_pos hi], e2⟩
        have r7 := R.wipe (own := own) r6
        rw [wipe_wipe ho, wp3] at r7
        exact r7
    · have e : i = ds.length := by omega
      subst e
      rw [List.drop_length] at e2
      simp only [turns2, Option.some.injEq, Prod.mk.injEq] at e2
      obtain ⟨rfl, rfl⟩ := e2
      refine .inl ⟨ge, ?_⟩
      refine q (.ref D) Z2 H2 Fs2 (fun a => a = D) ⟨t2.less fun a f => .inl f, ⟨?_, r2.sub, fun i sd e => ?_, fun i e a f => ?_, r2.one⟩, rep_lst z2 hacc f2, fun a e => by rw [e]; exact n2, fun a e => ?_⟩
      · rw [restore_len, r2.len, wipe_length]
      · have hl := getO_lt e
        rw [restore_len] at hl
        rw [restore_get hl] at e
        split at e
        · rename_i hi
          obtain ⟨hz, hs⟩ := plain_own r1 hp hi
          obtain ⟨v, h5, h6⟩ := r1.rep i sd e
          refine ⟨v, h5, ?_⟩
          obtain ⟨s, d⟩ := sd
          have es : s = .z := hs _ e
          subst es
          exact ⟨h6.1.mono s2, r2.out i (o2 i hi)⟩
        · rename_i hi
          obtain ⟨v, h5, h6⟩ := r2.rep i sd e
          rw [wipe_get, if_neg hi] at h5
          exact ⟨v, h5, h6⟩
      · by_cases hl : i < ρ2.length
        · rw [restore_get hl] at e
          split at e
          · rename_i hi
            exact r2.out i (o2 i hi) a f
          · exact r2.out i e a f
        · refine r2.out i ?_ a f
          unfold getO
          rw [List.getElem?_eq_none_iff.mpr (by omega)]
          rfl
      · rw [e]
        by_cases n : Al Fs D
        · exact .inl n
        · refine .inr ?_
          cases e : H D with
          | none => rfl
          | some o => rw [t1.hh D o e n] at hD; cases hD
  · cases h2
/-- the names of the block, set back -/
theorem R.restored {own : List Nat} {ρ2 : Ev} {Z2 H2 : Hp} {Fs1 Fs2 : Nat → Fp} (r1 : R K Z1 H1 ρ1 σ Fs1) (hp : plainAt ρ1 own = true) (r2 : R K Z2 H2 ρ2 (L2.wipe σ own) Fs2) (o2 : ∀ i ∈ own, getO ρ2 i = none) (s2 : Same Z1 Z2) : R K Z2 H2 (restore ρ1 ρ2 own) σ Fs2 := by
  refine ⟨?_, r2.sub, fun i sd e => ?_, fun i e a f => ?_, r2.one⟩
  · rw [restore_len, r2.len, wipe_length]
  · have hl := getO_lt e
    rw [restore_len] at hl
    rw [restore_get hl] at e
    split at e
    · rename_i hi
      obtain ⟨hz, hs⟩ := plain_own r1 hp hi
      obtain ⟨v, h5, h6⟩ := r1.rep i sd e
      refine ⟨v, h5, ?_⟩
      obtain ⟨s, d⟩ := sd
      have es : s = .z := hs _ e
      subst es
      exact ⟨h6.1.mono s2, r2.out i (o2 i hi)⟩
    · rename_i hi
      obtain ⟨v, h5, h6⟩ := r2.rep i sd e
      rw [wipe_get, if_neg hi] at h5
      exact ⟨v, h5, h6⟩
  · by_cases hl : i < ρ2.length
    · rw [restore_get hl] at e
      split at e
      · rename_i hi
        exact r2.out i (o2 i hi) a f
      · exact r2.out i e a f
    · refine r2.out i ?_ a f
      unfold getO
      rw [List.getElem?_eq_none_iff.mpr (by omega)]
      rfl
theorem set_back {i : Nat} {v : V} {σ : L2.St} (h : σ[i]? = some (some v)) : σ.set i (some v) = σ := by
  apply List.ext_getElem?
  intro j
  by_cases hj : i = j
  · subst hj
    have hl : i < σ.length := (List.getElem?_eq_some_iff.mp h).1
    rw [List.getElem?_set_self hl, h]
  · rw [List.getElem?_set_ne hj]
/-- a comprehension over a list that stays its owner's -/
theorem se_lcb {cf : CF} {i : Nat} {own : List Nat} {g : G} {t : T} {e : E} {tg : TG} {tt : TT} {te : TE} (hg : SG K [] tg g) (hgo : gin g own) (ht : ST K tt (evT cf t)) (he : SE K te (evE cf e)) :
    SE K (tLc (iSEQ K (tVar i)) tg tt te own) (evE cf (.lcb i own g t e)) := fun ρ σ Z H Fs sd ρ' r ev Q q => by
  simp only [evE, Option.bind_eq_some_iff] at ev
  obtain ⟨sd0, h0, ev⟩ := ev
  split at ev
  · rename_i ds
    split at ev
    · rename_i hp
      simp only [Bool.and_eq_true, Bool.not_eq_true', decide_eq_false_iff_not] at hp
      obtain ⟨hp, hni⟩ := hp
      simp only [Option.bind_eq_some_iff] at ev
      obtain ⟨⟨accf, ρf⟩, h3, h4⟩ := ev
      simp only [Option.some.injEq, Prod.mk.injEq] at h4
      obtain ⟨rfl, rfl⟩ := h4
      obtain ⟨v, hv, rp⟩ := r.rep i _ h0
      rcases rp with ⟨_, z, _⟩ | ⟨a, Fc, rfl, za, ⟨vs, ds', e1, hH, hl, ap, cc⟩ | ⟨_, _, e1, _⟩⟩
      · cases z
      · cases e1
        have f : Fzs K Z vs ds := fzs_of hl fun i v d h1 h2 => (cc i v d h1 h2).1
        have r1 : R K Z H (ρ.set i none) σ (off i Fs) := r.setz fun sd h => by cases h
        have ha : Fs i a := (ap.all a).mpr (.inl rfl)
        have na : ¬ Al (off i Fs) a := fun ⟨j, h⟩ => (off_of h).1 (r.one j i a (off_of h).2 ha)
        refine .inl ⟨.ref a, hv, a, rfl, ⟨vs, SqL.of hH⟩, fun D hD => ?_⟩
        have aD : a ≠ D := fun q => by rw [q, hD] at hH; cases hH
        have zD : Z D = none := sub_none r1.sub hD
        have nD : ¬ Al (off i Fs) D := fun q => by
          obtain ⟨_, o, ho, _⟩ := r1.foot q
          rw [hD] at ho
          cases ho
        have r1w := (R.wipe (own := own) r1).other (o := .lst []) zD fun q => nD (al_clr q)
        have tD : Tr Z H (Al (off i Fs)) Z (upd H D (.lst [])) fun a => Al (clr own (off i Fs)) a ∨ a = D := by
          refine ⟨Same.refl _, fun a o e _ => same_new hD a o e, fun a q => ?_, fun _ _ q => .inl q⟩
          rcases q with q | rfl
          · exact .inl (al_clr q)
          · exact .inr hD
        refine turns_loop (own := own) (Fs := clr own (off i Fs)) (Hd := fun Z2 H2 A2 => Same Z Z2 ∧ H2 a = some (.lst vs) ∧ ¬ A2 a) hg hgo ht he ?_ ?_ tD r1w upd_same zD (fun q => nD (al_clr q)) .nil ⟨Same.refl _, by rw [upd_ne aD]; exact hH, fun q => na (al_clr q)⟩ (fun i hi => by rw [noneAt_get, if_pos hi]) h3 ?_
        · intro Z2 H2 A2 ⟨s2, h2, _⟩ sub
          have qs : SqL K H2 a vs := SqL.of h2
          refine ⟨fun i d hd => ?_, ⟨vs, qs, by rw [f.length]; exact Nat.le_refl _⟩⟩
          obtain ⟨w, hw, fw⟩ := f.at hd
          refine ⟨⟨vs, w, qs, hw⟩, fun x H' y => ?_⟩
          obtain ⟨rfl, y⟩ := y
          have z := y vs qs
          rw [hw] at z
          cases z
          exact ⟨Z2, new_z sub (fw.mono s2)⟩
        · intro Z2 H2 A2 Z3 H3 A3 ⟨s2, h2, n2⟩ t
          have n2' : ¬ (A2 a ∨ a = D) := fun q => q.elim n2 aD
          refine ⟨s2.trans t.zz, t.hh a _ h2 n2', fun q => ?_⟩
          rcases t.nw a (.inl q) with q | q
          · exact n2' q
          · rw [h2] at q; cases q
        · intro Z2 H2 Fs2 acc2 t2 r2 hacc z2 n2 f2 ⟨s2, h2, na2⟩ o2
          have rr := R.restored r1 hp r2 o2 s2
          have hil : i < (restore (ρ.set i none) ρf own).length := by
            have := getO_lt h0
            have e1 := rr.len
            have e2 := r.len
            omega
          have z2a : Z2 a = none := by
            cases e : Z2 a with
            | none => rfl
            | some o =>
              rcases t2.zn a o e with q | q | q
              · rw [za] at q; cases q
              · rw [hH] at q; cases q
              · exact (na q).elim
          have st := R.store (sd := (.u .z, .list ds)) (F := fun b => b = a) rr hil (rep_lst z2a h2 (f.mono s2)) fun b e => by rw [e]; exact na2
          rw [set_back hv] at st
          refine q (.ref D) Z2 H2 (on i (fun b => b = a) Fs2) (fun a => a = D) ⟨⟨t2.zz, fun b o e n => t2.hh b o e fun q => n (al_setz b q), fun b f => ?_, fun b o e => (t2.zn b o e).imp id (Or.imp id (al_setz b))⟩, st, rep_lst z2 hacc f2, fun b e => ?_, fun b e => ?_⟩
          · rcases al_on f with f | f
            · exact (t2.nw b (.inl f)).imp (al_setz b) id
            · exact .inl ⟨i, by rw [f]; exact ha⟩
          · subst e
            intro q
            rcases al_on q with q | q
            · exact n2 q
            · exact aD q.symm
          · rw [e]
            exact .inr hD
      · cases e1
    · cases ev
  · cases ev
end
end Mi
end
section
namespace Mi
open PySem PySem.Spec PyProof.Rows L2
section
variable {K : PySem.W.Frag} {Z H Z' H' Z0 H0 Z1 H1 : Hp} {ρ ρ' ρ1 : Ev} {σ σ' : L2.St} {Fs Fs' Fc : Nat → Fp} {A A' A0 : Fp}
/-! ### a dict under a lock -/
theorem R.swap {a : Addr} {u o : HO} (r : R K Z H ρ σ Fs) (z : Z a = some u) (h : o = u ∨ ∃ x, o = .frz x u) : R K Z (upd H a o) ρ σ Fs where
  len := r.len
  sub := fun b w e => by
    by_cases hb : b = a
    · subst hb
      rw [z] at e
      cases e
      rcases h with rfl | ⟨x, rfl⟩
      · exact .inl upd_same
      · exact .inr ⟨x, upd_same⟩
    · rcases r.sub b w e with q | ⟨x, q⟩
      · exact .inl (by rw [upd_ne hb]; exact q)
      · exact .inr ⟨x, by rw [upd_ne hb]; exact q⟩
  rep := fun i sd e => by
    obtain ⟨v, h1, h2⟩ := r.rep i sd e
    refine ⟨v, h1, h2.mono (Same.refl _) fun b f => ⟨upd_ne fun q => ?_, (h2.foot b f).1⟩⟩
    have := (h2.foot b f).1
    rw [q, z] at this
    cases this
  out := r.out
  one := r.one
theorem Tr.back {a : Addr} {u o : HO} (e : H a = some u) (t : Tr Z (upd H a o) A Z' H' A') : Tr Z H A Z' (upd H' a u) A' where
  zz := t.zz
  hh := fun b w h n => by
    by_cases hb : b = a
    · subst hb
      rw [e] at h
      cases h
      exact upd_same
    · rw [upd_ne hb]
      exact t.hh b w (by rw [upd_ne hb]; exact h) n
  nw := fun b h => by
    rcases t.nw b h with q | q
    · exact .inl q
    · by_cases hb : b = a
      · subst hb
        rw [upd_same] at q
        cases q
      · rw [upd_ne hb] at q
        exact .inr q
  zn := fun b w h => by
    rcases t.zn b w h with q | q | q
    · exact .inl q
    · by_cases hb : b = a
      · subst hb
        rw [upd_same] at q
        cases q
      · rw [upd_ne hb] at q
        exact .inr (.inl q)
    · exact .inr (.inr q)
theorem Res.back {a : Addr} {u o : HO} {sd : SD} {v : V} {F : Fp} (e : H a = some u) (z : Z a = some u) (x : Res K Z (upd H a o) A ρ' σ sd v Z' H' Fs' F) : Res K Z H A ρ' σ sd v Z' (upd H' a u) Fs' F where
  tr := x.tr.back e
  r := x.r.swap (x.tr.zz a u z) (.inl rfl)
  rep := x.rep.mono (Same.refl _) fun b f => by
    have q := (x.rep.foot b f).1
    refine ⟨upd_ne fun hb => ?_, q⟩
    rw [hb, x.tr.zz a u z] at q
    cases q
  dis := x.dis
  fr := fun b f => by
    rcases x.fr b f with q | q
    · exact .inl q
    · by_cases hb : b = a
      · subst hb
        rw [upd_same] at q
        cases q
      · rw [upd_ne hb] at q
        exact .inr q
theorem dkeys_of {d : D} {ks : List D} (h : dkeys d = some ks) : ∃ ds, d = .dict ds ∧ isRg ds = false ∧ ks = keysD ds := by
  cases d with
  | dict ds =>
    have h : (if isRg ds = true then none else some (keysD ds)) = some ks := h
    by_cases nr : isRg ds = true
    · rw [if_pos nr] at h
      cases h
    · rw [if_neg nr] at h
      cases h
      exact ⟨ds, rfl, by simpa using nr, rfl⟩
  | _ => simp [dkeys] at h
theorem fz_dict {v : V} {ds : List (D × D)} (h : Fz K Z v (.dict ds)) (nr : isRg ds = false) : ∃ a kvs, v = .ref a ∧ Z a = some (.dK kvs) ∧ FzK K Z kvs ds := by
  cases h with
  | dk h1 h2 => exact ⟨_, _, rfl, h1, h2⟩
  | rg h => cases nr
theorem frz_at {i : Nat} {x : SD} {ds : List (D × D)} (r : R K Z H ρ σ Fs) (h : frzE i ρ = some (x, ρ1)) (e : x.2 = .dict ds) (nr : isRg ds = false) : ∃ a kvs Z1 Fs1, σ[i]? = some (some (.ref a)) ∧ Tr Z H (Al Fs) Z1 H (Al Fs1) ∧ R K Z1 H ρ1 σ Fs1 ∧ Z1 a = some (.dK kvs) ∧ FzK K Z1 kvs ds := by
  have q := (se_var (K := K) (cf := fun _ _ => none) (i := i)).sf ρ σ Z H Fs x ρ1 r h (fun v H' => ∃ Z1 Fs1, Tr Z H (Al Fs) Z1 H' (Al Fs1) ∧ R K Z1 H' ρ1 σ Fs1 ∧ Fz K Z1 v x.2) fun v Z' H' Fs' t r' f => ⟨Z', Fs', t, r', f⟩
  obtain ⟨v, hv, Z1, Fs1, t, r1, f⟩ := q
  rw [e] at f
  obtain ⟨a, kvs, rfl, h1, h2⟩ := fz_dict f nr
  exact ⟨a, kvs, Z1, Fs1, hv, t, r1, h1, h2⟩
theorem keys_at : ∀ {kvs : List (Key × V)} {ds : List (D × D)}, FzK K Z kvs ds → kvs.length = (keysD ds).length ∧ ∀ (i : Nat) (d : D), (keysD ds)[i]? = some d → ∃ k v, kvs[i]? = some (k, v) ∧ d = kD k
  | _, _, .nil => ⟨rfl, fun i d h => by simp [keysD] at h⟩
  | _, _, .cons (k := k) (v := v) h r => by
    obtain ⟨h1, h2⟩ := keys_at r
    refine ⟨by simp [keysD] at h1 ⊢; omega, fun i d e => ?_⟩
    cases i with
    | zero =>
      simp only [keysD, List.map_cons, List.getElem?_cons_zero, Option.some.injEq] at e
      exact ⟨k, v, rfl, e.symm⟩
    | succ i =>
      exact h2 i d (by simpa [keysD] using e)
theorem fz_key {k : Key} : Fz K Z (kV k) (kD k) := by
  cases k with
  | inl i => exact .int i
  | inr x => exact .str x
/-- the keys that an iterator gives while the dict is locked -/
theorem gives_keys {a : Addr} {o : Obj} {kvs : List (Key × V)} {ds : List (D × D)} (f : FzK K Z0 kvs ds) (h : H a = some (.frz o (.dK kvs))) (s : Sub Z H) :
    (∀ i d, (keysD ds)[i]? = some d → (Itk a o kvs).go i H ∧ ∀ x H', (Itk a o kvs).yld i H x H' → ∃ Z', New K Z H Z' H' (.z, d) x fun _ => False) ∧ (Itk a o kvs).stop (keysD ds).length H := by
  obtain ⟨h1, h2⟩ := keys_at f
  refine ⟨fun i d hd => ?_, ⟨h, by omega⟩⟩
  obtain ⟨k, v, e1, rfl⟩ := h2 i d hd
  refine ⟨⟨h, (List.getElem?_eq_some_iff.mp e1).1⟩, fun x H' y => ?_⟩
  obtain ⟨rfl, k', v', e2, rfl⟩ := y
  rw [e1] at e2
  cases e2
  exact ⟨Z, new_z s fz_key⟩
/-- the heap within a block over a locked dict -/
def Hold (Zs : Hp) (a : Addr) (o : HO) (Z2 H2 : Hp) (A2 : Fp) : Prop := Same Zs Z2 ∧ H2 a = some o ∧ ¬ A2 a
theorem hold_go {Zs : Hp} {a D : Addr} {o : HO} (aD : a ≠ D) : ∀ Z H A Z' H' A', Hold Zs a o Z H A → Tr Z H (fun a => A a ∨ a = D) Z' H' (fun a => A' a ∨ a = D) → Hold Zs a o Z' H' A' := by
  intro Z2 H2 A2 Z3 H3 A3 ⟨s2, h2, n2⟩ t
  have n2' : ¬ (A2 a ∨ a = D) := fun q => q.elim n2 aD
  refine ⟨s2.trans t.zz, t.hh a _ h2 n2', fun q => ?_⟩
  rcases t.nw a (.inl q) with q | q
  · exact n2' q
  · rw [h2] at q; cases q
theorem lck_core {cf : CF} {i : Nat} {own : List Nat} {g : G} {t : T} {e : E} {tg : TG} {tt : TT} {te : TE} (hg : SG K [] tg g) (hgo : gin g own) (ht : ST K tt (evT cf t)) (he : SE K te (evE cf e)) {a : Addr} {o : Obj} {kvs : List (Key × V)} {ds : List (D × D)} {accf : List D} {ρf : Ev}
    (hv : σ[i]? = some (some (.ref a))) (r1 : R K Z H ρ1 σ Fs) (ha : H a = some (.frz o (.dK kvs))) (za : Z a = some (.dK kvs)) (f : FzK K Z kvs ds) (hp : plainAt ρ1 own = true) (h3 : turns (evT cf t) (evE cf e) g own (keysD ds) (noneAt ρ1 own) [] = some (accf, ρf)) (Q : VK)
    (q : ∀ v Z' H' Fs' F, Res K Z H (Al Fs) (restore ρ1 ρf own) σ (.u .z, .list accf) v Z' H' Fs' F → H' a = some (.frz o (.dK kvs)) → Q v H') : tLc (iKeys (tVar i)) tg tt te own σ H Q := by
  refine ⟨.ref a, hv, a, o, rfl, .inl ⟨kvs, ha, fun D hD => ?_⟩⟩
  have aD : a ≠ D := fun q => by rw [q, hD] at ha; cases ha
  have zD : Z D = none := sub_none r1.sub hD
  have na : ¬ Al Fs a := fun q => by
    have := (r1.foot q).1
    rw [za] at this
    cases this
  have nD : ¬ Al Fs D := fun q => by
    obtain ⟨_, o, ho, _⟩ := r1.foot q
    rw [hD] at ho
    cases ho
  have r1w := (R.wipe (own := own) r1).other (o := .lst []) zD fun q => nD (al_clr q)
  have tD : Tr Z H (Al Fs) Z (upd H D (.lst [])) fun a => Al (clr own Fs) a ∨ a = D := by
    refine ⟨Same.refl _, fun a o e _ => same_new hD a o e, fun a q => ?_, fun _ _ q => .inl q⟩
    rcases q with q | rfl
    · exact .inl (al_clr q)
    · exact .inr hD
  refine turns_loop (own := own) (Fs := clr own Fs) (Hd := Hold Z a (.frz o (.dK kvs))) hg hgo ht he ?_ (hold_go aD) tD r1w upd_same zD (fun q => nD (al_clr q)) .nil ⟨Same.refl _, by rw [upd_ne aD]; exact ha, fun q => na (al_clr q)⟩ (fun i hi => by rw [noneAt_get, if_pos hi]) h3 ?_
  · intro Z2 H2 A2 ⟨s2, h2, _⟩ sub
    exact gives_keys f h2 sub
  · intro Z2 H2 Fs2 acc2 t2 r2 hacc z2 n2 f2 ⟨s2, h2, na2⟩ o2
    have rr := R.restored r1 hp r2 o2 s2
    refine q (.ref D) Z2 H2 Fs2 (fun a => a = D) ⟨t2.less fun a f => .inl f, rr, rep_lst z2 hacc f2, fun b e => by rw [e]; exact n2, fun b e => by rw [e]; exact .inr hD⟩ h2
/-- [e for k in d], d kept for good -/
theorem se_lck {cf : CF} {i : Nat} {own : List Nat} {g : G} {t : T} {e : E} {tg : TG} {tt : TT} {te : TE} (hg : SG K [] tg g) (hgo : gin g own) (ht : ST K tt (evT cf t)) (he : SE K te (evE cf e)) :
    SE K (fun σ H Q => tLockE (tLc (iKeys (tVar i)) tg tt te own) σ H Q ∨ tLc (iKeys (tVar i)) tg tt te own σ H Q) (evE cf (.lck i own g t e)) := fun ρ σ Z H Fs sd ρ' r ev Q q => by
  simp only [evE, Option.bind_eq_some_iff] at ev
  obtain ⟨⟨x, ρ1⟩, h0, ks, hks, ev⟩ := ev
  obtain ⟨xs, xd⟩ := x
  obtain ⟨ds, e, nr, rfl⟩ := dkeys_of hks
  dsimp only at e
  subst e
  split at ev
  · rename_i hp
    simp only [Option.bind_eq_some_iff] at ev
    obtain ⟨⟨accf, ρf⟩, h3, h4⟩ := ev
    simp only [Option.some.injEq, Prod.mk.injEq] at h4
    obtain ⟨rfl, rfl⟩ := h4
    obtain ⟨a, kvs, Z1, Fs1, hv, t1, r1, z1, f1⟩ := frz_at r h0 rfl nr
    rcases r1.sub a _ z1 with hH | ⟨o, hH⟩
    · refine .inl ⟨a, .dK kvs, hH, trivial, fun od => ?_⟩
      exact lck_core hg hgo ht he hv (r1.swap z1 (.inr ⟨od, rfl⟩)) upd_same z1 f1 hp h3 _ fun v Z' H' Fs' F x hx => ⟨hx, q v Z' (upd H' a (.dK kvs)) Fs' F ((x.back hH z1).trans t1)⟩
    · exact .inr (lck_core hg hgo ht he hv r1 hH z1 f1 hp h3 Q fun v Z' H' Fs' F x _ => q v Z' H' Fs' F (x.trans t1))
  · cases ev
/-! ### dict comprehensions -/
theorem keeps_O {D : Addr} {o : HO} {Z3 H3 Z4 H4 : Hp} {Fs3 Fs4 : Nat → Fp} (h : H3 D = some o) (z : Z3 D = none) (n : ¬ Al Fs3 D) (t : Tr Z3 H3 (Al Fs3) Z4 H4 (Al Fs4)) : H4 D = some o ∧ Z4 D = none ∧ ¬ Al Fs4 D := by
  refine ⟨t.hh D _ h n, ?_, new_foot t h n⟩
  cases e : Z4 D with
  | none => rfl
  | some o =>
    rcases t.zn D o e with q | q | q
    · rw [z] at q; cases q
    · rw [h] at q; cases q
    · exact (n q).elim
theorem turnsD_loop {cf : CF} {own : List Nat} {g : G} {t : T} {k v : E} {tg : TG} {tt : TT} {tk tv : TE} (hg : SG K [] tg g) (hgo : gin g own) (ht : ST K tt (evT cf t)) (hk : SE K tk (evE cf k)) (he : SE K tv (evE cf v)) {J : It} {ds : List D} {D : Addr} {acc : List (Key × V)} {accD accf : List (Mi.D × Mi.D)} {ρf : Ev} {Fin : Hp → Prop} {Hd : Hp → Hp → Fp → Prop}
    (gv : ∀ Z2 H2 A2, Hd Z2 H2 A2 → Sub Z2 H2 → (∀ i d, ds[i]? = some d → J.go i H2 ∧ ∀ x H', J.yld i H2 x H' → ∃ Z', New K Z2 H2 Z' H' (.z, d) x fun _ => False) ∧ J.stop ds.length H2)
    (hst : ∀ Z H A Z' H' A', Hd Z H A → Tr Z H (fun a => A a ∨ a = D) Z' H' (fun a => A' a ∨ a = D) → Hd Z' H' A') (t0 : Tr Z0 H0 A0 Z H (fun a => Al Fs a ∨ a = D)) (r0 : R K Z H ρ (L2.wipe σ own) Fs) (hD : H D = some (.dK acc)) (zD : Z D = none) (nD : ¬ Al Fs D) (f0 : FzK K Z acc accD) (s0 : Hd Z H (Al Fs)) (o0 : ∀ i ∈ own, getO ρ i = none)
    (ev : turnsD (evT cf t) (evE cf k) (evE cf v) g own ds ρ accD = some (accf, ρf))
    (fin : ∀ Z2 H2 Fs2 acc2, Tr Z0 H0 A0 Z2 H2 (fun a => Al Fs2 a ∨ a = D) → R K Z2 H2 ρf (L2.wipe σ own) Fs2 → H2 D = some (.dK acc2) → Z2 D = none → ¬ Al Fs2 D → FzK K Z2 acc2 accf → Hd Z2 H2 (Al Fs2) → (∀ i ∈ own, getO ρf i = none) → Fin H2) :
    ∃ W : Nat → Nat → Hp → Prop, (∃ m, W 0 m H) ∧ ∀ j m H, W j m H →
      (J.stop j H ∧ Fin H) ∨ (J.go j H ∧ ∃ Nx : Hp → Prop, (∀ H', Nx H' → ∃ m', m' < m ∧ W (j + 1) m' H') ∧ ∀ x H', J.yld j H x H' → tg x (L2.wipe σ own) H' fun σ2 H2 => L2.wipe σ2 own = L2.wipe σ own ∧ tt σ2 H2 fun b H3 =>
        if b = true then tk σ2 H3 fun y H4 => tv σ2 H4 fun z H5 => ∃ kvs k, y = kV k ∧ H5 D = some (.dK kvs) ∧ kvs.length < sizeLine ∧ Nx (upd H5 D (.dK (putK kvs k z))) else Nx H3) := by
  refine ⟨fun i m H' => m = ds.length - i ∧ i ≤ ds.length ∧ ∃ Z' Fs' ρ2 acc accD, Tr Z0 H0 A0 Z' H' (fun a => Al Fs' a ∨ a = D) ∧ R K Z' H' ρ2 (L2.wipe σ own) Fs' ∧ H' D = some (.dK acc) ∧ Z' D = none ∧ ¬ Al Fs' D ∧ FzK K Z' acc accD ∧ Hd Z' H' (Al Fs') ∧ (∀ i ∈ own, getO ρ2 i = none) ∧
    turnsD (evT cf t) (evE cf k) (evE cf v) g own (ds.drop i) ρ2 accD = some (accf, ρf), ⟨_, rfl, Nat.zero_le _, Z, Fs, ρ, acc, accD, t0, r0, hD, zD, nD, f0, s0, o0, ev⟩, ?_⟩
  rintro i m H2 ⟨rfl, hle, Z2, Fs2, ρ2, acc, accD, t2, r2, hacc, z2, n2, f2, s2, o2, e2⟩
  obtain ⟨gs, ge⟩ := gv Z2 H2 _ s2 r2.sub
  by_cases hlt : i < ds.length
  · refine .inr ?_
    have hd : ds[i]? = some ds[i] := List.getElem?_eq_getElem hlt
    obtain ⟨go, yl⟩ := gs i _ hd
    refine ⟨go, _, fun H' n => ⟨ds.length - (i + 1), by omega, n⟩, fun x H3 y => ?_⟩
    obtain ⟨Z3, nw⟩ := yl x H3 y
    have x3 := nw.res r2
    rw [List.drop_eq_getElem_cons hlt] at e2
    simp only [turnsD, Option.bind_eq_some_iff] at e2
    obtain ⟨ρ3, ha, ⟨b, ρ4⟩, hx, e2⟩ := e2
    refine hg x (.z, ds[i]) ρ2 (L2.wipe σ own) Z3 H3 Fs2 _ ρ3 x3.r x3.rep (fun _ z => z.elim) ha _ fun σ3 Fs3 a3 r3 k3 wp => ?_
    have wp3 : L2.wipe σ3 own = L2.wipe σ own := wipe_same (wp own hgo)
    refine ⟨wp3, ?_⟩
    have h3D : H3 D = some (.dK acc) := nw.hh D _ hacc
    have n3 : ¬ Al Fs3 D := fun q => (a3 D q).elim n2 False.elim
    have z3 : Z3 D = none := by
      cases e : Z3 D with
      | none => rfl
      | some o =>
        rcases nw.zn D o e with q | q
        · rw [z2] at q; cases q
        · rw [hacc] at q; cases q
    have tr3 : Tr Z0 H0 A0 Z3 H3 (fun a => Al Fs3 a ∨ a = D) := (t2.trans x3.tr.plus).less fun a f => by
      rcases f with f | f
      · rcases a3 a f with f | f
        · exact .inl f
        · exact f.elim
      · exact .inr f
    have trL : Tr Z2 H2 (fun a => Al Fs2 a ∨ a = D) Z3 H3 (fun a => Al Fs3 a ∨ a = D) := x3.tr.plus.less fun a f => by
      rcases f with f | f
      · rcases a3 a f with f | f
        · exact .inl f
        · exact f.elim
      · exact .inr f
    refine ht ρ3 σ3 Z3 H3 Fs3 b ρ4 r3 hx _ fun Z4 H4 Fs4 t4 r4 => ?_
    obtain ⟨d4, z4, n4⟩ := keeps_O h3D z3 n3 t4
    cases b with
    | false =>
      rw [if_neg (by decide)]
      refine ⟨rfl, hlt, Z4, clr own Fs4, noneAt ρ4 own, acc, accD, (tr3.trans t4.plus).less fun a f => f.elim (fun f => .inl (al_clr f)) .inr, by rw [← wp3]; exact R.wipe r4, d4, z4, fun q => n4 (al_clr q), f2.mono (nw.zz.trans t4.zz), hst _ _ _ _ _ _ s2 ((trL.trans t4.plus).less fun a f => f.elim (fun f => .inl (al_clr f)) .inr), fun i hi => by rw [noneAt_get, if_pos hi], e2⟩
    | true =>
      rw [if_pos rfl]
      simp only [Option.bind_eq_some_iff] at e2
      obtain ⟨⟨sk, ρ5⟩, hy, ⟨sv, ρ6⟩, hw, e2⟩ := e2
      refine hk.sf ρ4 σ3 Z4 H4 Fs4 sk ρ5 r4 hy _ fun y5 Z5 H5 Fs5 t5 r5 f5 => ?_
      refine he.sf ρ5 σ3 Z5 H5 Fs5 sv ρ6 r5 hw _ fun w6 Z6 H6 Fs6 t6 r6 f6 => ?_
      obtain ⟨d6, z6, n6⟩ := keeps_O h3D z3 n3 (t4.trans (t5.trans t6))
      dsimp only at e2
      split at e2
      · rename_i hz
        simp only [Bool.and_eq_true, decide_eq_true_eq] at hz
        obtain ⟨kk, rfl, hkd, hdq⟩ := deq_kD (H := H6) (k := .inl 0) y5 (.fz (f5.mono t6.zz)) hz.1
        have zz6 : Same Z2 Z6 := nw.zz.trans (t4.zz.trans (t5.zz.trans t6.zz))
        refine ⟨acc, kk, rfl, d6, by rw [fzK_length f2]; exact hz.2, ?_⟩
        have r7 := (R.wipe (own := own) r6).other (o := .dK (putK acc kk w6)) z6 fun q => n6 (al_clr q)
        rw [wp3] at r7
        refine ⟨rfl, hlt, Z6, clr own Fs6, noneAt ρ6 own, _, _, ?_, r7, upd_same, z6, fun q => n6 (al_clr q), put_fz hdq hkd f6 (f2.mono zz6), hst _ _ _ _ _ _ s2 ((trL.trans (t4.trans (t5.trans t6)).plus).trans ⟨Same.refl _, fun a o e n => by
          rw [upd_ne fun q => n (.inr q)]
          exact e, fun a f => .inl (f.elim (fun f => .inl (al_clr f)) .inr), fun _ _ q => .inl q⟩), fun i hi => by rw [noneAt_get, if_pos hi], e2⟩
        refine (tr3.trans (t4.trans (t5.trans t6)).plus).trans ⟨Same.refl _, fun a o e n => ?_, fun a f => .inl (f.elim (fun f => .inl (al_clr f)) .inr), fun _ _ q => .inl q⟩
        rw [upd_ne fun q => n (.inr q)]
        exact e
      · cases e2
  · have e : i = ds.length := by omega
    subst e
    rw [List.drop_length] at e2
    simp only [turnsD, Option.some.injEq, Prod.mk.injEq] at e2
    obtain ⟨rfl, rfl⟩ := e2
    exact .inl ⟨ge, fin Z2 H2 Fs2 acc t2 r2 hacc z2 n2 f2 s2 o2⟩
/-- {k: v for .. in ..} -/
theorem se_dc {cf : CF} {it : I} {own : List Nat} {g : G} {t : T} {k v : E} {wi : TI} {tg : TG} {tt : TT} {tk tv : TE} (hi : SI K wi (evI cf it)) (hg : SG K [] tg g) (hgo : gin g own) (ht : ST K tt (evT cf t)) (hk : SE K tk (evE cf k)) (hv : SE K tv (evE cf v)) :
    SE K (tDc wi tg tt tk tv own) (evE cf (.dc it own g t k v)) := fun ρ σ Z H Fs sd ρ' r ev Q q => by
  simp only [evE, Option.bind_eq_some_iff] at ev
  obtain ⟨⟨ds, ρ1⟩, h1, h2⟩ := ev
  dsimp only at h2
  split at h2
  · rename_i hp
    simp only [Option.bind_eq_some_iff] at h2
    obtain ⟨⟨accf, ρf⟩, h3, h4⟩ := h2
    simp only [Option.some.injEq, Prod.mk.injEq] at h4
    obtain ⟨rfl, rfl⟩ := h4
    refine hi ρ σ Z H Fs ds ρ1 r h1 _ fun J Z1 H1 Fs1 t1 r1 gv => ?_
    intro D hD
    have zD : Z1 D = none := sub_none r1.sub hD
    have nD : ¬ Al Fs1 D := fun q => by
      obtain ⟨_, o, ho, _⟩ := r1.foot q
      rw [hD] at ho
      cases ho
    have r1w := (R.wipe (own := own) r1).other (o := .dK []) zD fun q => nD (al_clr q)
    have tD : Tr Z1 H1 (Al Fs1) Z1 (upd H1 D (.dK [])) fun a => Al (clr own Fs1) a ∨ a = D := by
      refine ⟨Same.refl _, fun a o e _ => same_new hD a o e, fun a q => ?_, fun _ _ q => .inl q⟩
      rcases q with q | rfl
      · exact .inl (al_clr q)
      · exact .inr hD
    refine turnsD_loop (own := own) (Fs := clr own Fs1) (Hd := fun Z2 H2 A2 => Same Z1 Z2) hg hgo ht hk hv ?_ (fun _ _ _ _ _ _ s t => s.trans t.zz) tD r1w upd_same zD (fun q => nD (al_clr q)) .nil (Same.refl _) (fun i hi => by rw [noneAt_get, if_pos hi]) h3 ?_
    · intro Z2 H2 A2 s2 sub
      exact gv Z2 H2 s2 sub
    · intro Z2 H2 Fs2 acc2 t2 r2 hacc z2 n2 f2 s2 o2
      have rr := R.restored r1 hp r2 o2 s2
      have x : Res K Z1 H1 (Al Fs1) (restore ρ1 ρf own) σ (.u .z, .dict accf) (.ref D) Z2 H2 Fs2 (fun a => a = D) := ⟨t2.less fun a f => .inl f, rr, rep_dk z2 hacc f2, fun b e => by rw [e]; exact n2, fun b e => by rw [e]; exact .inr hD⟩
      exact q (.ref D) Z2 H2 Fs2 _ (x.trans t1)
  · cases h2
theorem dck_core {cf : CF} {i : Nat} {own : List Nat} {g : G} {t : T} {k v : E} {tg : TG} {tt : TT} {tk tv : TE} (hg : SG K [] tg g) (hgo : gin g own) (ht : ST K tt (evT cf t)) (hk : SE K tk (evE cf k)) (he : SE K tv (evE cf v)) {a : Addr} {o : Obj} {kvs : List (Key × V)} {ds : List (D × D)} {accf : List (D × D)} {ρf : Ev}
    (hv : σ[i]? = some (some (.ref a))) (r1 : R K Z H ρ1 σ Fs) (ha : H a = some (.frz o (.dK kvs))) (za : Z a = some (.dK kvs)) (f : FzK K Z kvs ds) (hp : plainAt ρ1 own = true) (h3 : turnsD (evT cf t) (evE cf k) (evE cf v) g own (keysD ds) (noneAt ρ1 own) [] = some (accf, ρf)) (Q : VK)
    (q : ∀ v Z' H' Fs' F, Res K Z H (Al Fs) (restore ρ1 ρf own) σ (.u .z, .dict accf) v Z' H' Fs' F → H' a = some (.frz o (.dK kvs)) → Q v H') : tDc (iKeys (tVar i)) tg tt tk tv own σ H Q := by
  refine ⟨.ref a, hv, a, o, rfl, .inl ⟨kvs, ha, fun D hD => ?_⟩⟩
  have aD : a ≠ D := fun q => by rw [q, hD] at ha; cases ha
  have zD : Z D = none := sub_none r1.sub hD
  have na : ¬ Al Fs a := fun q => by
    have := (r1.foot q).1
    rw [za] at this
    cases this
  have nD : ¬ Al Fs D := fun q => by
    obtain ⟨_, o, ho, _⟩ := r1.foot q
    rw [hD] at ho
    cases ho
  have r1w := (R.wipe (own := own) r1).other (o := .dK []) zD fun q => nD (al_clr q)
  have tD : Tr Z H (Al Fs) Z (upd H D (.dK [])) fun a => Al (clr own Fs) a ∨ a = D := by
    refine ⟨Same.refl _, fun a o e _ => same_new hD a o e, fun a q => ?_, fun _ _ q => .inl q⟩
    rcases q with q | rfl
    · exact .inl (al_clr q)
    · exact .inr hD
  refine turnsD_loop (own := own) (Fs := clr own Fs) (Hd := Hold Z a (.frz o (.dK kvs))) hg hgo ht hk he ?_ (hold_go aD) tD r1w upd_same zD (fun q => nD (al_clr q)) .nil ⟨Same.refl _, by rw [upd_ne aD]; exact ha, fun q => na (al_clr q)⟩ (fun i hi => by rw [noneAt_get, if_pos hi]) h3 ?_
  · intro Z2 H2 A2 ⟨s2, h2, _⟩ sub
    exact gives_keys f h2 sub
  · intro Z2 H2 Fs2 acc2 t2 r2 hacc z2 n2 f2 ⟨s2, h2, na2⟩ o2
    have rr := R.restored r1 hp r2 o2 s2
    refine q (.ref D) Z2 H2 Fs2 (fun a => a = D) ⟨t2.less fun a f => .inl f, rr, rep_dk z2 hacc f2, fun b e => by rw [e]; exact n2, fun b e => by rw [e]; exact .inr hD⟩ h2
/-- {k: v for .. in d} -/
theorem se_dck {cf : CF} {i : Nat} {own : List Nat} {g : G} {t : T} {k v : E} {tg : TG} {tt : TT} {tk tv : TE} (hg : SG K [] tg g) (hgo : gin g own) (ht : ST K tt (evT cf t)) (hk : SE K tk (evE cf k)) (he : SE K tv (evE cf v)) :
    SE K (fun σ H Q => tLockE (tDc (iKeys (tVar i)) tg tt tk tv own) σ H Q ∨ tDc (iKeys (tVar i)) tg tt tk tv own σ H Q) (evE cf (.dck i own g t k v)) := fun ρ σ Z H Fs sd ρ' r ev Q q => by
  simp only [evE, Option.bind_eq_some_iff] at ev
  obtain ⟨⟨x, ρ1⟩, h0, ks, hks, ev⟩ := ev
  obtain ⟨xs, xd⟩ := x
  obtain ⟨ds, e, nr, rfl⟩ := dkeys_of hks
  dsimp only at e
  subst e
  split at ev
  · rename_i hp
    simp only [Option.bind_eq_some_iff] at ev
    obtain ⟨⟨accf, ρf⟩, h3, h4⟩ := ev
    simp only [Option.some.injEq, Prod.mk.injEq] at h4
    obtain ⟨rfl, rfl⟩ := h4
    obtain ⟨a, kvs, Z1, Fs1, hv, t1, r1, z1, f1⟩ := frz_at r h0 rfl nr
    rcases r1.sub a _ z1 with hH | ⟨o, hH⟩
    · refine .inl ⟨a, .dK kvs, hH, trivial, fun od => ?_⟩
      exact dck_core hg hgo ht hk he hv (r1.swap z1 (.inr ⟨od, rfl⟩)) upd_same z1 f1 hp h3 _ fun v Z' H' Fs' F x hx => ⟨hx, q v Z' (upd H' a (.dK kvs)) Fs' F ((x.back hH z1).trans t1)⟩
    · exact .inr (dck_core hg hgo ht hk he hv r1 hH z1 f1 hp h3 Q fun v Z' H' Fs' F x _ => q v Z' H' Fs' F (x.trans t1))
  · cases ev
/-! ### for k in d -/
theorem fok_core {pr : List Nat} {cf : CF} {w i : Nat} {g : G} {b : B} {tg : TG} {tb : TS} (hg : SG K pr tg g) (hb : SQ K pr tb (exB cf w b)) {a : Addr} {o : Obj} {kvs : List (Key × V)} {ds : List (D × D)} {fl : Fl}
    (hv : σ[i]? = some (some (.ref a))) (r1 : R K Z H ρ1 σ Fs) (ha : H a = some (.frz o (.dK kvs))) (za : Z a = some (.dK kvs)) (f : FzK K Z kvs ds) (h2 : loop (exB cf w b) g (keysD ds) ρ1 = some (fl, ρ')) (D : Ends)
    (q : match fl with
      | .nx => ∀ σ' Z' H' Fs', Tr Z H (Al Fs) Z' H' (Al Fs') → R K Z' H' ρ' σ' Fs' → Keep pr σ σ' → H' a = some (.frz o (.dK kvs)) → D.nx σ' H'
      | .rt x => ∀ v σ' Z' H' Fs' F, Res K Z H (Al Fs) ρ' σ' x v Z' H' Fs' F → Keep pr σ σ' → H' a = some (.frz o (.dK kvs)) → D.rt v H'
      | _ => True) : tFor (iKeys (tVar i)) tg tb D σ H := by
  have na : ¬ Al Fs a := fun q => by
    have := (r1.foot q).1
    rw [za] at this
    cases this
  refine ⟨.ref a, hv, a, o, rfl, .inl ⟨kvs, ha, ?_⟩⟩
  refine ⟨fun j m σ' H' => m = (keysD ds).length - j ∧ j ≤ (keysD ds).length ∧ ∃ Z' Fs' ρ2, Tr Z H (Al Fs) Z' H' (Al Fs') ∧ R K Z' H' ρ2 σ' Fs' ∧ Keep pr σ σ' ∧ loop (exB cf w b) g ((keysD ds).drop j) ρ2 = some (fl, ρ'), ⟨_, rfl, Nat.zero_le _, Z, Fs, ρ1, Tr.refl, r1, Keep.refl, h2⟩, ?_⟩
  rintro j m σ2 H2 ⟨rfl, hle, Z2, Fs2, ρ2, t2, r2, k2, e2⟩
  have ha2 : H2 a = some (.frz o (.dK kvs)) := t2.hh a _ ha na
  obtain ⟨gs, ge⟩ := gives_keys (K := K) (Z := Z2) (Z0 := Z) f ha2 r2.sub
  by_cases hlt : j < (keysD ds).length
  · refine .inr ?_
    have hd : (keysD ds)[j]? = some (keysD ds)[j] := List.getElem?_eq_getElem hlt
    obtain ⟨go, yl⟩ := gs j _ hd
    refine ⟨go, _, fun σ' H' n => ⟨(keysD ds).length - (j + 1), by omega, n⟩, fun x H3 y => ?_⟩
    obtain ⟨Z3, nw⟩ := yl x H3 y
    have x3 := nw.res r2
    rw [List.drop_eq_getElem_cons hlt] at e2
    simp only [loop, Option.bind_eq_some_iff] at e2
    obtain ⟨ρ3, hasg, ⟨fl2, ρ4⟩, hx, e2⟩ := e2
    refine hg x (.z, (keysD ds)[j]) ρ2 σ2 Z3 H3 Fs2 _ ρ3 x3.r x3.rep (fun _ z => z.elim) hasg _ fun σ3 Fs3 a3 r3 k3 _ => ?_
    have tr3 : Tr Z H (Al Fs) Z3 H3 (Al Fs3) := (t2.trans x3.tr).less fun a f => (a3 a f).elim id False.elim
    refine hb ρ3 σ3 Z3 H3 Fs3 fl2 ρ4 r3 hx _ ?_
    cases fl2 with
    | nx => exact fun σ5 Z5 H5 Fs5 t5 r5 k5 => ⟨rfl, hlt, Z5, Fs5, ρ4, tr3.trans t5, r5, (k2.trans k3).trans k5, e2⟩
    | ct => exact fun σ5 Z5 H5 Fs5 t5 r5 k5 => ⟨rfl, hlt, Z5, Fs5, ρ4, tr3.trans t5, r5, (k2.trans k3).trans k5, e2⟩
    | bk =>
      cases e2
      exact fun σ5 Z5 H5 Fs5 t5 r5 k5 => q σ5 Z5 H5 Fs5 (tr3.trans t5) r5 ((k2.trans k3).trans k5) ((tr3.trans t5).hh a _ ha na)
    | rt x =>
      cases e2
      exact fun v σ5 Z5 H5 Fs5 F x5 k5 => q v σ5 Z5 H5 Fs5 F (x5.trans tr3) ((k2.trans k3).trans k5) ((x5.trans tr3).tr.hh a _ ha na)
  · have e : j = (keysD ds).length := by omega
    subst e
    rw [List.drop_length] at e2
    cases e2
    exact .inl ⟨ge, q σ2 Z2 H2 Fs2 t2 r2 k2 ha2⟩
theorem loop_ends {fb : Ev → Option (Fl × Ev)} {g : G} : ∀ {ds : List D} {ρ ρ' : Ev} {fl : Fl}, loop fb g ds ρ = some (fl, ρ') → fl = .nx ∨ ∃ x, fl = .rt x
  | [], ρ, ρ', fl, h => by
    cases h
    exact .inl rfl
  | d :: r, ρ, ρ', fl, h => by
    simp only [loop, Option.bind_eq_some_iff] at h
    obtain ⟨ρ1, _, ⟨f, ρ2⟩, _, h⟩ := h
    cases f with
    | nx => exact loop_ends h
    | ct => exact loop_ends h
    | bk =>
      cases h
      exact .inl rfl
    | rt x =>
      cases h
      exact .inr ⟨x, rfl⟩
theorem sq_fok {pr : List Nat} {cf : CF} {w i : Nat} {g : G} {b : B} {tg : TG} {tb : TS} (hg : SG K pr tg g) (hb : SQ K pr tb (exB cf w b)) :
    SQ K pr (fun D σ H => tLock (tFor (iKeys (tVar i)) tg tb) D σ H ∨ tFor (iKeys (tVar i)) tg tb D σ H) (exQ cf w (.fok i g b)) := fun ρ σ Z H Fs fl ρ' r ev D q => by
  simp only [exQ, Option.bind_eq_some_iff] at ev
  obtain ⟨⟨x, ρ1⟩, h0, ks, hks, ev⟩ := ev
  obtain ⟨xs, xd⟩ := x
  obtain ⟨ds, e, nr, rfl⟩ := dkeys_of hks
  dsimp only at e
  subst e
  obtain ⟨a, kvs, Z1, Fs1, hv, t1, r1, z1, f1⟩ := frz_at r h0 rfl nr
  rcases r1.sub a _ z1 with hH | ⟨o, hH⟩
  · refine .inl ⟨a, .dK kvs, hH, trivial, fun od => ?_⟩
    refine fok_core hg hb hv (r1.swap z1 (.inr ⟨od, rfl⟩)) upd_same z1 f1 ev _ ?_
    rcases loop_ends ev with rfl | ⟨x, rfl⟩
    · exact fun σ' Z' H' Fs' t' r' k' hx => ⟨hx, q σ' Z' _ Fs' (t1.trans (t'.back hH)) (r'.swap (t'.zz a _ z1) (.inl rfl)) k'⟩
    · exact fun v σ' Z' H' Fs' F x k' hx => ⟨hx, q v σ' Z' _ Fs' F ((x.back hH z1).trans t1) k'⟩
  · refine .inr (fok_core hg hb hv r1 hH z1 f1 ev _ ?_)
    rcases loop_ends ev with rfl | ⟨x, rfl⟩
    · exact fun σ' Z' H' Fs' t' r' k' _ => q σ' Z' H' Fs' (t1.trans t') r' k'
    · exact fun v σ' Z' H' Fs' F x k' _ => q v σ' Z' H' Fs' F (x.trans t1) k'
end
/-! ### the text's forms -/
section
variable {X : Cx}
theorem pe_or' {e : Expr} {t u : TE} (h : PE X e t) (h' : PE X e u) : PE X e (fun σ H Q => t σ H Q ∨ u σ H Q) := ⟨fun pins s σ H Q I z => z.elim (h.run pins s σ H Q I) (h'.run pins s σ H Q I)⟩
theorem ps_or' {e : Stmt} {t u : TS} (h : PS X e t) (h' : PS X e u) : PS X e (fun D σ H => t D σ H ∨ u D σ H) := ⟨fun pins s σ H D I z => z.elim (h.run pins s σ H D I) (h'.run pins s σ H D I)⟩
theorem ps_setDc {i : Nat} {y : Str} {py : Pos} {kx vx tg iter : Expr} {ifs : List Expr} {scope : Scope} {own : List (Str × Nat)} {pos spos : Pos} {wi : TI} {g : TG} {tt : TT} {tk tv : TE} (hc : X.calm = true) (hN : X.N.Nodup) (hy : X.N[i]? = some y) (hyl : X.env.scope.names.lookup y = some .local)
    (hsw : swapsWith (.DictComp kx vx [⟨tg, iter, ifs, 0⟩] scope pos) (some (.Name y py)) spos.line X.env = pure true) (hi : PI X tg iter wi) (ok : BlkOk X.N X.env.scope scope own)
    (hg : ∀ (s : Shared) (H : Hp) (C : Addr) (cl : List (Str × Addr)) (fp : List Addr), PG (X.blk s H scope (compEnvC scope cl C X.env) fp) tg g) (ht : ∀ (s : Shared) (H : Hp) (C : Addr) (cl : List (Str × Addr)) (fp : List Addr), PTs (X.blk s H scope (compEnvC scope cl C X.env) fp) ifs tt)
    (hk : ∀ (s : Shared) (H : Hp) (C : Addr) (cl : List (Str × Addr)) (fp : List Addr), PE (X.blk s H scope (compEnvC scope cl C X.env) fp) kx tk)
    (he : ∀ (s : Shared) (H : Hp) (C : Addr) (cl : List (Str × Addr)) (fp : List Addr), PE (X.blk s H scope (compEnvC scope cl C X.env) fp) vx tv) (hs : ∀ x, foldedSetIterable iter X.env x = pure x) :
    PS X (.Assign [.Name y py] (.DictComp kx vx [⟨tg, iter, ifs, 0⟩] scope pos) spos) (tAsg (tDc wi g tt tk tv (own.map (·.2))) (gName i)) := by
  refine ⟨fun pins s σ H D I h => ?_⟩
  rw [exec_Assign_Name_used _ _ _ _ hsw]
  refine wpAny_bind (wpAny_standAt (wpAny_bind ?_))
  show wpAny _ X.A (do let _ ← comprehension (.DictComp kx vx [⟨tg, iter, ifs, 0⟩] scope pos) scope X.env (firstIterPos [⟨tg, iter, ifs, 0⟩] pos) newDict false (eval iter X.env) (some (assign (.Name y py) X.env))) _ _ s
  have h : tDc wi g tt tk tv (own.map (·.2)) σ H (fun x H1 => gName i x σ H1 D.nx) := h
  refine wpAny_bind (thn (dc_core (Qf := fun _ s' => SP X pins D .next s') hc hN I hi ok hg ht hk he hs h fun L C s' m H' I' q hn f => ?_) fun _ s' hq => wpAny_pure (wpAny_pure hq))
  show wpAny _ _ (assign (.Name y py) X.env (.ref L)) _ _ _
  refine wpAny_assign_Name (store_ok2 (v := V.ref L) I' hN hy (.inl hyl) rfl (fun s2 I2 ⟨a, sb, ha⟩ => ?_) (.inr hyl))
  obtain ⟨f0, f1, f2, f3, f4, f5⟩ := f
  have haC : C ≠ a := by
    rcases ha with z | z
    · rw [z]; exact f1
    · exact fun e => f4 y a z e.symm
  refine ⟨m, hn.sameBut sb haC, fun h3 sb3 => ?_⟩
  exact ⟨_, H', I2.turned (t' := s2.toks) (fun b o hb e => (sb3.2 b hb).trans e) f0 f1 f3 f4 f5, q⟩
theorem ps_lockDc {i : Nat} {s : Stmt} {t : TE} (h : PS X s (tAsg t (gName i))) : PS X s (tAsg (fun σ H Q => tLockE t σ H Q ∨ t σ H Q) (gName i)) := by
  refine ⟨fun pins s σ H D I z => ?_⟩
  rcases z with z | z
  · exact (ps_lock h).run pins s σ H D I z
  · exact h.run pins s σ H D I z
end
end Mi
end
section
namespace Mi
open PySem PySem.Spec PyProof.Rows L2
/-! ### the text's forms -/
/-- an expression of the plain kinds -/
def okX : Expr → Bool
  | .Starred _ _ => false
  | .Slice _ _ _ _ => false
  | .Set _ _ _ => false
  | .SetComp _ _ _ _ => false
  | .GeneratorExp _ _ _ _ => false
  | _ => true
def notLc : Expr → Bool
  | .ListComp _ _ _ _ => false
  | .DictComp _ _ _ _ _ => false
  | _ => true
theorem star_ok {e : Expr} {es : List Expr} {env : Env} (h : okX e = true) : starEach (e :: es) env = (false, eval e env) :: starEach es env := by
  cases e <;> first | rfl | (simp [okX] at h)
theorem star_all : ∀ {es : List Expr} {env : Env}, es.all okX = true → starEach es env = es.map fun e => (false, eval e env)
  | [], _, _ => rfl
  | e :: es, env, h => by
    simp only [List.all_cons, Bool.and_eq_true] at h
    rw [star_ok h.1, star_all h.2]
    rfl
theorem back_ok {es : List Expr} {env : Env} {pos : Pos} (h : es.all okX = true) : (backTo pos (starEach es env)).any (·.1) = false := by
  rw [star_all h]
  unfold backTo
  simp [List.any_map, List.map_map]
theorem ix_ok {e : Expr} (h : okX e = true) : PlainIx e := by
  cases e <;> first | (intro _ _; rfl) | (simp [okX] at h)
theorem swap_ok {e : Expr} {t : Option Expr} {l : Nat} {env : Env} (h : okX e = true) (h2 : notLc e = true) : swapsWith e t l env = pure false := by
  cases e <;> first | rfl | (simp [okX] at h; done) | (simp [notLc] at h2; done)
theorem fold_ok {e : Expr} {env : Env} (h : okX e = true) (x : Value) : foldedSetIterable e env x = pure x := by
  cases e <;> first | rfl | (simp [okX] at h)
theorem mark_ok {e : Expr} {op : CmpOp} (h : okX e = true) : behindInMarks op e = false := by
  cases e <;> first | rfl | (simp [okX] at h)
/-- an expression whose test is its value's truth -/
def plainT : Expr → Bool
  | .UnaryOp .Not _ _ => false
  | .BoolOp _ _ _ => false
  | .IfExp _ _ _ _ => false
  | .Compare _ _ _ _ => false
  | _ => true
theorem test_ok {e : Expr} {env : Env} (h : plainT e = true) (whole : Sem Value) : isTrue e env whole = (do let v ← whole; standAt e.pos; holding [v] (truthy v)) := by
  cases e <;> first | rfl | (simp [plainT] at h; done) | skip
  rename_i op x p
  cases op <;> first | rfl | (simp [plainT] at h)
def vis (sc : Scope) (x : Str) : Bool := match sc.names.lookup x with
  | some .local => true
  | some .cell => true
  | some .free => true
  | _ => false
def locB (sc : Scope) (x : Str) : Bool := match sc.names.lookup x with
  | some .local => true
  | some .cell => true
  | _ => false
def glb (sc : Scope) (x : Str) : Bool := (match sc.names.lookup x with
  | some .globalImplicit => true
  | _ => false) && !(x == ("__debug__" : Str)) && decide (x ≠ "__name__")
def nmOk (x : Str) : Bool := !(x == ("__debug__" : Str)) && !(x == ("__classdict__" : Str))
theorem vis_of {sc : Scope} {x : Str} (h : vis sc x = true) : Vis sc x := by
  unfold vis at h
  split at h
  · exact .inl (by assumption)
  · exact .inr (.inl (by assumption))
  · exact .inr (.inr (by assumption))
  · cases h
theorem loc_of {sc : Scope} {x : Str} (h : locB sc x = true) : L2.Loc sc x := by
  unfold locB at h
  split at h
  · exact .inl (by assumption)
  · exact .inr (by assumption)
  · cases h
theorem glb_of {sc : Scope} {x : Str} (h : glb sc x = true) : sc.names.lookup x = some .globalImplicit ∧ (x == ("__debug__" : Str)) = false ∧ x ≠ "__name__" := by
  unfold glb at h
  simp only [Bool.and_eq_true, Bool.not_eq_true', decide_eq_true_eq] at h
  obtain ⟨⟨h1, h2⟩, h3⟩ := h
  split at h1
  · exact ⟨by assumption, h2, h3⟩
  · cases h1
/-! ### the context of a text -/
/-- what a text's run leans on: the module's names -/
structure Md where
  P : Program
  w : World
  K : PySem.W.Frag
  mg : Str → Option Value
  base : Heap
/-- names of the library that the module has not bound -/
def free0 : List Str := ["len", "abs", "sorted", "sum", "max", "min", "all", "any", "isinstance", "int", "str", "list", "tuple", "dict", "bool", "range", "enumerate", "zip"]
structure Facts (d : Md) (gl : List (Str × D)) (bf : List (Str × String)) : Prop where
  free : ∀ x ∈ free0, d.mg x = none
  bfn : ∀ p ∈ bf, d.mg p.1 = some (.builtin p.2)
  glob : ∀ p ∈ gl, ∃ v u, d.mg p.1 = some u ∧ RelV v u ∧ ∀ Z, Fz d.K Z v p.2
structure XOk (d : Md) (N : List Str) (k : Nat) (sc : Scope) (st : Str → Bool) (X : Cx) : Prop where
  P : X.prog = d.P
  w : X.w = d.w
  K : X.K = d.K
  mg : X.mg = d.mg
  base : X.base = d.base
  N : X.N = N
  scp : X.env.scope = sc
  kind : sc.kind = .function
  calm : X.calm = true
  room : Room k X.A
  xe : X.xe = fun _ _ => False
  st : ∀ x, st x = true → L2.Loc sc x ∧ (X.fn x = true ∨ sc.names.lookup x = some .local)
theorem XOk.u65 {d : Md} {N : List Str} {k : Nat} {sc : Scope} {st : Str → Bool} {X : Cx} (h : XOk d N k sc st X) : X.A.units + 65 < cLine := by
  have := h.room.un
  omega
theorem XOk.passes {d : Md} {N : List Str} {k : Nat} {sc : Scope} {st : Str → Bool} {X : Cx} (h : XOk d N k sc st X) : PassesOwn (model X.prog X.w) X.A X.env X.xe := by
  rw [h.xe]
  exact PassesOwn.never
/-- readings of a list of expressions -/
def tAll : List TE → TA
  | [] => tNil
  | t :: r => tCons t (tAll r)
inductive PEs (X : Cx) : List Expr → List TE → Prop
  | nil : PEs X [] []
  | cons {e : Expr} {es : List Expr} {t : TE} {ts : List TE} : PE X e t → PEs X es ts → PEs X (e :: es) (t :: ts)
theorem PEs.pa {X : Cx} : ∀ {es : List Expr} {ts : List TE}, PEs X es ts → es.all okX = true → PA X es (tAll ts)
  | _, _, .nil, _ => pa_nil
  | _, _, .cons h r, a => by
    simp only [List.all_cons, Bool.and_eq_true] at a
    exact pa_cons h (r.pa a.2) (star_ok a.1)
/-! ### primitives by their forms -/
def binOf : P → Option Operator
  | .add => some .Add
  | .sub => some .Sub
  | .mul => some .Mult
  | .fdiv => some .FloorDiv
  | .mod => some .Mod
  | .pow => some .Pow
  | _ => none
def cmpOf : P → Option CmpOp
  | .eq => some .Eq
  | .ne => some .NotEq
  | .lt => some .Lt
  | .le => some .LtE
  | .gt => some .Gt
  | .ge => some .GtE
  | .isin => some .In
  | .notin => some .NotIn
  | .is => some .Is
  | .isnot => some .IsNot
  | _ => none
def callOf : P → Option (Str × (String ⊕ String))
  | .len => some ("len", .inl "len")
  | .abs => some ("abs", .inl "abs")
  | .sorted => some ("sorted", .inl "sorted")
  | .sum => some ("sum", .inl "sum")
  | .max => some ("max", .inl "max")
  | .min => some ("min", .inl "min")
  | .all => some ("all", .inl "all")
  | .any => some ("any", .inl "any")
  | .toInt => some ("int", .inr "int")
  | .toStr => some ("str", .inr "str")
  | .toList => some ("list", .inr "list")
  | .toTuple => some ("tuple", .inr "tuple")
  | .toDict => some ("dict", .inr "dict")
  | .rngv => some ("range", .inr "range")
  | _ => none
def valOf : String ⊕ String → Value
  | .inl id => .builtin id
  | .inr T => .type T
section
variable {K : PySem.W.Frag}
theorem bin_ok : ∀ {p : P} {op : Operator}, binOf p = some op → ∃ r : R2, PrOk K (r2 r) p ∧ ∀ X : Cx, X.K = K → OpR X (binaryOp op) r
  | .add, _, h => by cases h; exact ⟨_, ok_add, fun X e => e ▸ op_ADD⟩
  | .sub, _, h => by cases h; exact ⟨_, ok_sub, fun X e => op_SUB⟩
  | .mul, _, h => by cases h; exact ⟨_, ok_mul, fun X e => op_MUL⟩
  | .fdiv, _, h => by cases h; exact ⟨_, ok_fdiv, fun X e => op_DIV⟩
  | .mod, _, h => by cases h; exact ⟨_, ok_mod, fun X e => op_modN⟩
  | .pow, _, h => by cases h; exact ⟨_, ok_pow, fun X e => op_pow⟩
theorem cmp_ok : ∀ {p : P} {op : CmpOp}, cmpOf p = some op → ∃ r : R2, PrOk K (r2 r) p ∧ ∀ X : Cx, X.K = K → X.A.units + 65 < cLine → OpR X (compareOp op) r
  | .eq, _, h => by cases h; exact ⟨_, ok_eq, fun X e u => e ▸ op_eqD (by omega)⟩
  | .ne, _, h => by cases h; exact ⟨_, ok_ne, fun X e u => e ▸ op_neD (by omega)⟩
  | .lt, _, h => by cases h; exact ⟨_, ok_lt, fun X e u => op_LT⟩
  | .le, _, h => by cases h; exact ⟨_, ok_le, fun X e u => op_le⟩
  | .gt, _, h => by cases h; exact ⟨_, ok_gt, fun X e u => op_gt⟩
  | .ge, _, h => by cases h; exact ⟨_, ok_ge, fun X e u => op_ge⟩
  | .isin, _, h => by cases h; exact ⟨_, ok_isin, fun X e u => e ▸ op_ISIN u⟩
  | .notin, _, h => by cases h; exact ⟨_, ok_notin, fun X e u => e ▸ op_NOTIN u⟩
  | .is, _, h => by cases h; exact ⟨_, ok_is, fun X e u => op_IS⟩
  | .isnot, _, h => by cases h; exact ⟨_, ok_isnot, fun X e u => op_ISN⟩
theorem boot_sumX : bootBuiltins "sum" = some (.builtin "sum") := by decide +kernel
theorem boot_allX : bootBuiltins "all" = some (.builtin "all") := by decide +kernel
theorem boot_anyX : bootBuiltins "any" = some (.builtin "any") := by decide +kernel
theorem boot_lenX : bootBuiltins "len" = some (.builtin "len") := by decide +kernel
theorem call_ok : ∀ {p : P} {x : Str} {b : String ⊕ String}, callOf p = some (x, b) → (x ∈ free0 ∧ bootBuiltins x = some (valOf b)) ∧ ∃ r, PrOk K r p ∧ ∀ X : Cx, X.K = K → X.calm = true → X.A.units + 65 < cLine → CallR X (valOf b) r
  | .len, _, _, h => by cases h; exact ⟨⟨by decide, boot_lenX⟩, _, ok_len, fun X e c u => e ▸ cr_LEN⟩
  | .abs, _, _, h => by cases h; exact ⟨⟨by decide, boot_abs⟩, _, ok_abs, fun X e c u => call_abs⟩
  | .sorted, _, _, h => by cases h; exact ⟨⟨by decide, boot_sorted⟩, _, ok_sorted, fun X e c u => e ▸ cr_SORT c⟩
  | .sum, _, _, h => by cases h; exact ⟨⟨by decide, boot_sumX⟩, _, ok_sum, fun X e c u => e ▸ cr_sum c⟩
  | .max, _, _, h => by cases h; exact ⟨⟨by decide, boot_max⟩, _, ok_max, fun X e c u => e ▸ cr_max c⟩
  | .min, _, _, h => by cases h; exact ⟨⟨by decide, boot_min⟩, _, ok_min, fun X e c u => e ▸ CallR.or (cr_min c) (cr_minD c u)⟩
  | .all, _, _, h => by cases h; exact ⟨⟨by decide, boot_allX⟩, _, ok_all, fun X e c u => e ▸ cr_all c⟩
  | .any, _, _, h => by cases h; exact ⟨⟨by decide, boot_anyX⟩, _, ok_any, fun X e c u => e ▸ cr_any c⟩
  | .toInt, _, _, h => by cases h; exact ⟨⟨by decide, boot_int⟩, _, ok_toInt, fun X e c u => call_int1⟩
  | .toStr, _, _, h => by cases h; exact ⟨⟨by decide, boot_str⟩, _, ok_toStr, fun X e c u => call_str_int⟩
  | .toList, _, _, h => by cases h; exact ⟨⟨by decide, boot_list⟩, _, ok_toList, fun X e c u => e ▸ call_list_of⟩
  | .toTuple, _, _, h => by cases h; exact ⟨⟨by decide, boot_tuple⟩, _, ok_toTuple, fun X e c u => e ▸ call_tuple_of⟩
  | .toDict, _, _, h => by cases h; exact ⟨⟨by decide, boot_dict⟩, _, ok_toDict, fun X e c u => call_dictD⟩
  | .rngv, _, _, h => by cases h; exact ⟨⟨by decide, boot_range⟩, _, ok_rngv, fun X e c u => cr_rngv⟩
end
/-- a primitive's arguments in the text -/
def argsOf (sc : Scope) : P → Expr → Option (List Expr)
  | .neg, .UnaryOp .USub a _ => some [a]
  | .ix, .Subscript a b _ => some [a, b]
  | .sl false false, .Subscript a (.Slice none none none _) _ => some [a]
  | .sl true false, .Subscript a (.Slice (some b) none none _) _ => some [a, b]
  | .sl false true, .Subscript a (.Slice none (some b) none _) _ => some [a, b]
  | .dict0, .Dict [] [] _ => some []
  | .rev, .Subscript a (.Slice none none (some (.UnaryOp .USub (.Constant (.int 1) _ _) _)) _) _ => some [a]
  | .revT, .Subscript a (.Slice none (some (.Constant (.int 0) _ _)) (some (.UnaryOp .USub (.Constant (.int 1) _ _) _)) _) _ => some [a]
  | .gcd, .Call (.Name x _) [a, b] [] _ => if x = "gcd" ∧ glb sc x = true then some [a, b] else none
  | .isi [t], .Call (.Name x _) [a, .Name T _] [] _ => if x = "isinstance" ∧ glb sc x = true ∧ t < 6 ∧ T = Str.ofString (tyName t) ∧ glb sc T = true then some [a] else none
  | p, .BinOp a op b _ => if binOf p = some op then some [a, b] else none
  | p, .Compare a [op] [b] _ => if cmpOf p = some op then some [a, b] else none
  | p, .Call (.Name x _) [a] [] _ => match callOf p with
    | some (y, _) => if x = y ∧ glb sc x = true then some [a] else none
    | none => none
  | _, _ => none
end Mi
end
section
namespace Mi
open PySem PySem.Spec PyProof.Rows L2
section
variable {d : Md} {gl : List (Str × D)} {bf : List (Str × String)} {N : List Str} {k : Nat} {sc : Scope} {st : Str → Bool}
theorem pes1 {X : Cx} {e : Expr} {t : TE} (h : PEs X [e] [t]) : PE X e t := by cases h; assumption
theorem pes2 {X : Cx} {e f : Expr} {t u : TE} (h : PEs X [e, f] [t, u]) : PE X e t ∧ PE X f u := by
  cases h with
  | cons h r => exact ⟨h, pes1 r⟩
theorem pes3 {X : Cx} {e f g : Expr} {t u v : TE} (h : PEs X [e, f, g] [t, u, v]) : PE X e t ∧ PE X f u ∧ PE X g v := by
  cases h with
  | cons h r => exact ⟨h, pes2 r⟩
theorem len1 {α : Type} {l : List α} (h : l.length = 1) : ∃ a, l = [a] := by
  match l, h with
  | [a], _ => exact ⟨a, rfl⟩
theorem len2 {α : Type} {l : List α} (h : l.length = 2) : ∃ a b, l = [a, b] := by
  match l, h with
  | [a, b], _ => exact ⟨a, b, rfl⟩
theorem len3 {α : Type} {l : List α} (h : l.length = 3) : ∃ a b c, l = [a, b, c] := by
  match l, h with
  | [a, b, c], _ => exact ⟨a, b, c, rfl⟩
theorem XOk.glo {X : Cx} {x : Str} (h : XOk d N k sc st X) (g : glb sc x = true) : Gl X x := by
  show X.env.scope.names.lookup x = _
  rw [h.scp]
  exact (glb_of g).1
theorem ofString_ty (t : Nat) (ht : t < 6) : (Str.ofString (tyName t)) ∈ free0 ∧ bootBuiltins (Str.ofString (tyName t)) = some (.type (tyName t)) := by
  have h : t = 0 ∨ t = 1 ∨ t = 2 ∨ t = 3 ∨ t = 4 ∨ t = 5 := by omega
  rcases h with rfl | rfl | rfl | rfl | rfl | rfl <;> exact ⟨by decide +kernel, by decide +kernel⟩
theorem pe_K {X : Cx} {K : PySem.W.Frag} {e : Expr} (t : PySem.W.Frag → TE) (h : PE X e (t X.K)) (q : X.K = K) : PE X e (t K) := q ▸ h
/-- what a form gives: a primitive's reading over its arguments' -/
def Form (d : Md) (N : List Str) (k : Nat) (sc : Scope) (st : Str → Bool) (p : P) (e : Expr) (es : List Expr) (ts : List TE) : Prop :=
  ∃ t rr, PrOk d.K rr p ∧ (∀ σ H Q, tAll ts σ H (fun vs H1 => rr vs H1 Q) → t σ H Q) ∧ ∀ X, XOk d N k sc st X → PEs X es ts → es.all okX = true → PE X e t
theorem pick_revT (items : Array Value) : slicePick items none (some 0) (some (-1)) = (items.toList.drop 1).reverse.toArray := by
  unfold slicePick
  have hb : sliceBounds none (some 0) (some (-1)) items.size = ((items.size : Int) - 1, max (-1) (min 0 ((items.size : Int) - 1)), -1) := by
    first
    | rfl
    | simp [sliceBounds]
  rw [hb]
  have key : (sliceRange ((items.size : Int) - 1) (max (-1) (min 0 ((items.size : Int) - 1))) (-1)).filterMap (items[·]?) = (items.toList.drop 1).reverse := by
    have hall := PySem.W.krv_all items
    have hr := PySem.W.krv_range items.size
    cases hn : items.size with
    | zero =>
      have e0 : items.toList = [] := by
        apply List.eq_nil_of_length_eq_zero
        rw [Array.length_toList]
        exact hn
      rw [e0]
      have e1 : max (-1) (min 0 (((0 : Nat) : Int) - 1)) = -1 := by decide
      rw [e1]
      simp [sliceRange]
    | succ m =>
      rw [hn] at hall hr
      have hl : items.toList.length = m + 1 := by rw [Array.length_toList]; exact hn
      have es : sliceRange (((m + 1 : Nat) : Int) - 1) (max (-1) (min 0 (((m + 1 : Nat) : Int) - 1))) (-1) = (List.range m).map fun k => m + 1 - 1 - k := by
        have e1 : max (-1) (min 0 (((m + 1 : Nat) : Int) - 1)) = 0 := by omega
        rw [e1]
        unfold sliceRange
        have h1 : ¬ ((-1 : Int) > 0) := by decide
        by_cases h : ((m + 1 : Nat) : Int) - 1 > 0
        · have e : (((m + 1 : Nat) : Int) - 1 - 0 - -1 - 1) / (- -1) = (m : Int) := by
            rw [show (- -1 : Int) = 1 by decide, Int.ediv_one]
            omega
          simp only [h1, if_false, h, if_true, e, Int.toNat_natCast]
          apply List.map_congr_left
          intro k hk
          have := List.mem_range.mp hk
          omega
        · have e : m = 0 := by omega
          subst e
          simp
      rw [es]
      have hrev : ((List.range (m + 1)).map fun k => m + 1 - 1 - k).filterMap (items[·]?) = items.toList.reverse := by
        rw [hr, List.filterMap_reverse, hall]
      rw [List.range_succ, List.map_append, List.filterMap_append] at hrev
      obtain ⟨x, r, hx⟩ : ∃ x r, items.toList = x :: r := by
        cases ht : items.toList with
        | nil => rw [ht] at hl; simp at hl
        | cons x r => exact ⟨x, r, rfl⟩
      have h0 : items[0]? = some x := by
        rw [← Array.getElem?_toList, hx]
        rfl
      rw [hx] at hrev ⊢
      have e2 : List.filterMap (fun x => items[x]?) (List.map (fun k => m + 1 - 1 - k) [m]) = [x] := by
        simp [h0]
      rw [e2, List.reverse_cons] at hrev
      rw [List.drop_one, List.tail_cons]
      exact List.append_cancel_right hrev
  rw [key]
theorem pe_rev1 {X : Cx} {e : Expr} {te : TE} {k : Nat} {p1 p2 p3 pos : Pos} (he : PE X e te) : PE X (.Subscript e (.Slice none none (some (.UnaryOp .USub (.Constant (.int 1) k p1) p2)) p3) pos) (fun σ H Q => te σ H fun x H1 => rREV X.K (fun xs => xs.reverse) [x] H1 Q) := pe_revL he
theorem pe_revT {X : Cx} {e : Expr} {te : TE} {k k0 : Nat} {p0 p1 p2 p3 pos : Pos} (he : PE X e te) : PE X (.Subscript e (.Slice none (some (.Constant (.int 0) k0 p0)) (some (.UnaryOp .USub (.Constant (.int 1) k p1) p2)) p3) pos) (fun σ H Q => te σ H fun x H1 => rREV X.K (fun xs => (xs.drop 1).reverse) [x] H1 Q) := by
  refine ⟨fun pins s σ H Q I h => ?_⟩
  refine Subscript_ (thn (he.run pins s σ H _ I h) fun v s1 ⟨x, H1, I1, r1, q1⟩ => ?_)
  obtain ⟨a, xs, ex, hx, q⟩ := q1
  subst ex
  cases r1
  have hst : PO X (some (.UnaryOp .USub (.Constant (.int 1) k p1) p2)) (tPart (tUn (rU fun i => .int (-i)) (tC (.int 1)))) := po_some (pe_un un_neg pe_int)
  have hze : PO X (some (.Constant (.int 0) k0 p0)) (tPart (tC (.int 0))) := po_some pe_int
  refine wpAny_Slice (thn (po_none.run pins s1 σ H1 (fun o H2 => o = none ∧ H2 = H1) I1 ⟨rfl, rfl⟩) fun vl s2 ⟨l, H2, I2, pl, el, e2⟩ => ?_)
  subst el e2
  refine thn (hze.run pins s2 σ H2 (fun o H3 => o = some 0 ∧ H3 = H2) I2 ⟨0, rfl, rfl, rfl⟩) fun vu s3 ⟨u, H3, I3, pu, eu, e3⟩ => ?_
  subst eu e3
  refine thn (hst.run pins s3 σ H3 (fun o H4 => o = some (-1) ∧ H4 = H3) I3 ⟨1, rfl, -1, rfl, rfl, rfl⟩) fun vs s4 ⟨o, H4, I4, ps, eo, e4⟩ => ?_
  subst eo e4
  have I5 : Inv X pins σ H4 { s4 with heap := s4.heap.push { cls := .type "slice", data := .fields #[vl, vu, vs] } } := I4.kept (t' := s4.toks) fun b ob q => Heap.get?_push_of_some _ q
  obtain ⟨its, r, ht, hz⟩ := I5.list hx
  have hlen := r.length
  show wpAny (model X.prog X.w) X.A (subscriptTail e (.Slice none (some (.Constant (.int 0) k0 p0)) (some (.UnaryOp .USub (.Constant (.int 1) k p1) p2)) p3) (.ref a) (.ref s4.heap.objs.size)) (EP X pins σ Q) X.xe { s4 with heap := s4.heap.push { cls := .type "slice", data := .fields #[vl, vu, vs] } }
  refine tail_any (ops := [.ref a, .ref s4.heap.objs.size]) ht.isList.typeIs (PySem.slot_list_getitem.lookup) ?_ (by with_unfolding_all rfl)
  refine wpAny_getItem_list_slice ht.isList (Heap.IsSliceOf.new _ vl vu vs) pl pu ps (by decide) ?_ (by rw [List.size_toArray]; omega)
  rw [pick_revT]
  refine ⟨.ref _, _, I5.laid (t' := s4.toks) (o := .lst (xs.drop 1).reverse) (fun b ob q => Heap.get?_push_of_some _ q) (Nat.le_refl _) ?_, rfl, q _ (I5.hok.fresh (Nat.le_refl _))⟩
  exact ⟨by rw [List.length_reverse, List.length_drop]; omega, _, 0, (r.drop 1).reverse, Heap.get?_push_size _ rfl⟩
theorem prim_ok (F : Facts d gl bf) {p : P} {e : Expr} {es : List Expr} {ts : List TE} (hgcd : p = .gcd → (("gcd", "math.gcd") : Str × String) ∈ bf) (h : argsOf sc p e = some es) (hl : ts.length = es.length) : Form d N k sc st p e es ts := by
  unfold argsOf at h
  split at h
  · cases h
    obtain ⟨a, rfl⟩ := len1 hl
    exact ⟨_, _, ok_neg, fun σ H Q h => h, fun X hX hp _ => pe_un un_neg (pes1 hp)⟩
  · cases h
    obtain ⟨a, b, rfl⟩ := len2 hl
    refine ⟨_, _, ok_ix, fun σ H Q h => h, fun X hX hp hk => ?_⟩
    simp only [List.all_cons, List.all_nil, Bool.and_true, Bool.and_eq_true] at hk
    have hu := hX.u65
    exact pe_K (fun K => tOp (rIX K) a b) (pe_ix (ix_ANY (by omega)) (pes2 hp).1 (pes2 hp).2 (ix_ok hk.2)) hX.K
  · cases h
    obtain ⟨a, rfl⟩ := len1 hl
    refine ⟨_, _, ok_s00, fun σ H Q h => h, fun X hX hp hk => ?_⟩
    exact pe_K (fun K => tSl (rSlL K) a tNoPart tNoPart) (pe_slice sl_list (pes1 hp) po_none po_none) hX.K
  · cases h
    obtain ⟨a, b, rfl⟩ := len2 hl
    refine ⟨_, _, ok_s10, fun σ H Q h => h, fun X hX hp hk => ?_⟩
    exact pe_K (fun K => tSl (rSlA K) a (tPart b) tNoPart) (pe_slice sl_any (pes2 hp).1 (po_some (pes2 hp).2) po_none) hX.K
  · cases h
    obtain ⟨a, b, rfl⟩ := len2 hl
    refine ⟨_, _, ok_s01, fun σ H Q h => h, fun X hX hp hk => ?_⟩
    exact pe_K (fun K => tSl (rSlA K) a tNoPart (tPart b)) (pe_slice sl_any (pes2 hp).1 po_none (po_some (pes2 hp).2)) hX.K
  · cases h
    have e : ts = [] := by
      cases ts with
      | nil => rfl
      | cons a r => simp at hl
    subst e
    exact ⟨_, _, ok_dict0, fun σ H Q h => h.2, fun X hX hp hk => pe_dnewK⟩
  · cases h
    obtain ⟨a, rfl⟩ := len1 hl
    refine ⟨_, _, ok_rev, fun σ H Q h => h, fun X hX hp hk => ?_⟩
    exact pe_K (fun K σ H Q => a σ H fun x H1 => rREV K (fun xs => xs.reverse) [x] H1 Q) (pe_rev1 (pes1 hp)) hX.K
  · cases h
    obtain ⟨a, rfl⟩ := len1 hl
    refine ⟨_, _, ok_revT, fun σ H Q h => h, fun X hX hp hk => ?_⟩
    exact pe_K (fun K σ H Q => a σ H fun x H1 => rREV K (fun xs => (xs.drop 1).reverse) [x] H1 Q) (pe_revT (pes1 hp)) hX.K
  · split at h
    · rename_i hx
      cases h
      obtain ⟨a, b, rfl⟩ := len2 hl
      refine ⟨_, _, ok_gcd, fun σ H Q h => h, fun X hX hp hk => ?_⟩
      simp only [List.all_cons, List.all_nil, Bool.and_true, Bool.and_eq_true] at hk
      have hb := F.bfn _ (hgcd rfl)
      have pa := hp.pa (by simp [hk.1, hk.2])
      exact pe_callBfun cr_gcd (hX.glo hx.2) (by rw [hX.mg, hx.1]; exact hb) pa (glb_of hx.2).2.1 (star_ok hk.1) (back_ok (by simp [hk.2]))
    · cases h
  · split at h
    · rename_i t x p1 a T p2 p3 hx
      cases h
      obtain ⟨ta, rfl⟩ := len1 hl
      refine ⟨_, _, ok_isi t hx.2.2.1, fun σ H Q h => h, fun X hX hp hk => ?_⟩
      simp only [List.all_cons, List.all_nil, Bool.and_true] at hk
      obtain ⟨m, bt⟩ := ofString_ty t hx.2.2.1
      have pT : PE X (.Name T p2) (tC (.ty (tyName t))) := pe_bltn (u := .type (tyName t)) (hX.glo hx.2.2.2.2) (by rw [hX.mg, hx.2.2.2.1]; exact F.free _ m) (by rw [hx.2.2.2.1]; exact bt) rfl (glb_of hx.2.2.2.2).2.2 (glb_of hx.2.2.2.2).2.1
      exact pe_K (fun K => tCB (rIsi K) (tCons ta (tCons (tC (.ty (tyName t))) tNil))) (pe_callB call_isi (hX.glo hx.2.1) (by rw [hX.mg, hx.1]; exact F.free _ (by decide)) (by rw [hx.1]; exact boot_isinstance) (pa_cons (pes1 hp) (pa_cons pT pa_nil) (star_ok hk)) (glb_of hx.2.1).2.2 (glb_of hx.2.1).2.1 (star_ok hk) (back_ok (by simp [okX]))) hX.K
    · cases h
  · split at h
    · rename_i hx
      cases h
      obtain ⟨a, b, rfl⟩ := len2 hl
      obtain ⟨r, h1, h2⟩ := bin_ok (K := d.K) hx
      exact ⟨_, _, h1, fun σ H Q h => h, fun X hX hp hk => pe_op (h2 X hX.K) (pes2 hp).1 (pes2 hp).2⟩
    · cases h
  · split at h
    · rename_i hx
      cases h
      obtain ⟨a, b, rfl⟩ := len2 hl
      obtain ⟨r, h1, h2⟩ := cmp_ok (K := d.K) hx
      refine ⟨_, _, h1, fun σ H Q h => h, fun X hX hp hk => ?_⟩
      simp only [List.all_cons, List.all_nil, Bool.and_true, Bool.and_eq_true] at hk
      exact pe_cmpR (h2 X hX.K hX.u65) (pes2 hp).1 (pes2 hp).2 (mark_ok hk.2)
    · cases h
  · split at h
    · rename_i y b hc
      split at h
      · rename_i hx
        cases h
        obtain ⟨a, rfl⟩ := len1 hl
        obtain ⟨⟨m, bt⟩, r, h1, h2⟩ := call_ok (K := d.K) hc
        refine ⟨_, _, h1, fun σ H Q h => h, fun X hX hp hk => ?_⟩
        simp only [List.all_cons, List.all_nil, Bool.and_true] at hk
        have c := h2 X hX.K hX.calm hX.u65
        have pa := hp.pa (by simp [hk])
        cases b with
        | inl id => exact pe_callB c (hX.glo hx.2) (by rw [hX.mg, hx.1]; exact F.free _ m) (by rw [hx.1]; exact bt) pa (glb_of hx.2).2.2 (glb_of hx.2).2.1 (star_ok hk) (back_ok rfl)
        | inr T => exact pe_callTy c (hX.glo hx.2) (by rw [hX.mg, hx.1]; exact F.free _ m) (by rw [hx.1]; exact bt) pa (glb_of hx.2).2.2 (glb_of hx.2).2.1 (star_ok hk) (back_ok rfl)
      · cases h
    · cases h
  · cases h
end
end Mi
end
section
namespace MiZ
open PySem PySem.Spec
open Sem (wp)
abbrev sk : List (Str × Value) := [("strict", .bool true)]
section
variable {prog : Program} {w : World} {A : Around} {E : Value → Shared → Prop} {s : Shared}
theorem w0 (T : String) (us : List Value) (ks : List (Str × Value)) : (Code.builtin "type.__call__" ⟨.type T :: us, ks⟩).weight = 0 := rfl
theorem w1 (T : String) (us : List Value) (ks : List (Str × Value)) : (Code.builtin "type.__call__" ⟨.type T :: us, ks⟩).cUnits = 1 := rfl
/-- a type called with keywords -/
theorem callT_kw {T newId initId : String} {Bn Bi : Builtin} {us : List Value} {ks : List (Str × Value)} {S : Spec} {Q Q₁ : Value → Shared → Prop} (ft : TypeCalled T newId initId)
    (c1 : checkTypeCall T ⟨us, ks⟩ = pure ()) (c2 : checkBuiltinCall newId ⟨.type T :: us, ks⟩ = pure ())
    (e1 : entryFor table newId = some Bn) (e2 : entryFor table initId = some Bi) (g : Meets (Bn ⟨.type T :: us, ks⟩) S) (h : S A.in1 (wants Q₁ E) s)
    (nx : ∀ obj s₁, Q₁ obj s₁ → s₁.TypeIs obj T ∧ argsOk initId ⟨obj :: us, ks⟩ ∧ ∃ Si, Meets (Bi ⟨obj :: us, ks⟩) Si ∧ Si A.in1 (wants (fun r s₂ => r = .none ∧ Q obj s₂) E) s₁) :
    wpAny (model prog w) A (call (.type T) us ks) Q E s := by
  obtain ⟨_, _, hmro⟩ := ft.mro
  have hmade := ft.made
  have hsub := ft.sub
  refine wpAny_call (codeAny_of_tree ?_)
  show wpAny _ _ (callAny (.type T) _) _ _ _
  refine wpAny_pure ⟨Code.quiet_builtin _ (by decide +kernel), codeAny_builtin F.entry_type_call ?_⟩
  rw [Around.under_plain (w0 T us ks) (w1 T us ks)]
  have h1 := ft.notType
  have h2 := ft.canCreate
  repeat (any_goals (first | assumption | wp_step))
  refine codeAny_mono (codeAny_call_builtin ft.plain e1 (wpAny_of_eq c2 (g prog w A.in1 _ s h))) fun r s₁ hr => ?_
  cases r with
  | error e => exact hr
  | ok fl =>
    cases fl with
    | ret obj =>
      obtain ⟨hT, hok, Si, gi, hsi⟩ := nx _ _ hr
      have hli := ft.init.lookup
      have hbi := ft.init.bind obj
      repeat (any_goals (first | assumption | wp_step))
      refine codeAny_mono (codeAny_call_builtin ft.init.plain e2 (ft.init.check _ _ _ _ _ _ _ _ hT hok (gi prog w A.in1 _ s₁ hsi))) fun r₂ s₂ hr₂ => ?_
      cases r₂ with
      | error e => exact hr₂
      | ok fl₂ =>
        cases fl₂ with
        | ret r =>
          obtain ⟨rfl, hq⟩ := hr₂
          repeat (any_goals (first | assumption | wp_step))
        | _ => exact hr₂.elim
    | _ => exact hr.elim
theorem init_kw {T newId : String} {self : Value} {rest : List Value} {ks : List (Str × Value)} (hl : typeLookup (.type T) "__init__" = pure (some (.builtin "object.__init__")))
    (hm : Bind.madeBy (.type T) = pure (some newId)) (hne : (some newId != some "object.__new__") = true) :
    Meets (Builtin.«object.__init__» ⟨self :: rest, ks⟩) (fun _ R s => s.TypeIs self T ∧ R (.ok (.ret .none)) s) := by
  refine Meets.of_wp fun prog w A R s hs => ?_
  obtain ⟨hT, hq⟩ := hs
  cases rest with
  | nil =>
    cases ks with
    | nil => exact wpAny_pure ⟨_, rfl, hq⟩
    | cons k ks =>
      repeat (any_goals (first | assumption | wp_step))
      exact ⟨_, rfl, hq⟩
  | cons a rest =>
    repeat (any_goals (first | assumption | wp_step))
    exact ⟨_, rfl, hq⟩
theorem args_init (a b c : Value) : argsOk "object.__init__" ⟨[a, b, c], sk⟩ := by
  unfold argsOk; rw [signature?_of (id := "object.__init__") (n := ['_', '_', 't', 'i', 'n', 'i', '_', '_']) (o := ['t', 'c', 'e', 'j', 'b', 'o']) (by kernel_rfl) F.owner_object]; kernel_rfl
theorem tCall (a b : Value) : checkTypeCall "zip" ⟨[a, b], sk⟩ = pure () := by kernel_rfl
theorem nCall (a b : Value) : checkBuiltinCall "zip.__new__" ⟨[.type "zip", a, b], sk⟩ = pure () := by kernel_rfl
end
abbrev IsZipS (h : Heap) (z TI TO : Addr) (f0 : Value) : Prop :=
  h.get? z = some { cls := .type "zip", dict := none, data := .fields #[f0, .bool false, .bool true, .ref TI, .ref TO], slots := #[] }
abbrev hp5 (h : Heap) (l1 l2 : Addr) : Heap := (zipH4 h l1 l2).push { cls := .type "zip", data := .fields #[.none, .bool false, .bool true, .ref (zipH2 h l1 l2).objs.size, .ref (zipH3 h l1 l2).objs.size] }
theorem new_meets (l1 l2 : Addr) (xs ys : Array Value) :
    Meets (Builtin.«zip.__new__» ⟨[.type "zip", .ref l1, .ref l2], sk⟩) (fun _ R s => s.heap.IsList l1 xs ∧ s.heap.IsList l2 ys ∧
      R (.ok (.ret (.ref (zipH4 s.heap l1 l2).objs.size))) { s with heap := hp5 s.heap l1 l2 }) :=
  .of_wp fun prog w A R s h => by
    obtain ⟨hp, g, d, tk, os⟩ := s
    obtain ⟨hl1, hl2, h⟩ := h
    have hsub := sub_zip
    have hL1 : Heap.IsList (Shared.heap ⟨hp, g, d, tk, os⟩) l1 xs := hl1
    have hL2 : Heap.IsList (Shared.heap ⟨hp.push { cls := .type "list_iterator", data := .fields #[.ref l1, .int 0 0] }, g, d, tk, os⟩) l2 ys := Heap.IsList.push hl2 _
    wp_walk using wpAny_pyIter_list hL1, wpAny_pyIter_list hL2
    exact ⟨_, rfl, h⟩
end MiZ
end
section
namespace MiZ
open PySem PySem.Spec
open Sem (wp)
section
variable {prog : Program} {w : World} {A : Around} {E : Value → Shared → Prop} {s : Shared}
/-- the next of a list's iterator, or none at its end -/
theorem draw_item {it l : Addr} {i : Nat} {items : Array Value} {x : Value} {Q : Option Value → Shared → Prop} (h1 : s.heap.IsListIter it l i) (h2 : s.heap.IsList l items) (hx : items[i]? = some x)
    (q : ∀ h', h'.IsListIter it l (i + 1) → Heap.SameBut it s.heap h' → Q (some x) { s with heap := h' }) : wpAny (model prog w) A (Builtin.SmallTypes.nextOrEnd (.ref it)) Q E s := by
  unfold Builtin.SmallTypes.nextOrEnd
  refine wpAny_bind (wpAny_attempt (wpAny_nextOf_list_item h1 h2 hx fun h' a b => ?_))
  exact wpAny_pure (q h' a b)
theorem draw_end {it l : Addr} {i : Nat} {items : Array Value} {Q : Option Value → Shared → Prop} (hh : A.handled = none) (h1 : s.heap.IsListIter it l i) (h2 : s.heap.IsList l items) (hx : items[i]? = none)
    (q : ∀ h', Heap.ExtBut it s.heap h' → Q none { s with heap := h' }) : wpAny (model prog w) A (Builtin.SmallTypes.nextOrEnd (.ref it)) Q E s := by
  unfold Builtin.SmallTypes.nextOrEnd
  refine wpAny_bind (wpAny_attempt (wpAny_nextOf_list_end hh h1 h2 hx fun h' e a b => ?_))
  obtain ⟨o, ho, hc⟩ := b
  refine wpAny_bind (wpAny_isInstance (T := "StopIteration") (b := true) ⟨o, ho, hc⟩ isSubtype_stop ?_)
  exact wpAny_pure (q h' a)
theorem stop_it {α : Type} {Q : α → Shared → Prop} (hh : A.handled = none) (q : ∀ h' e, (∀ c o, s.heap.get? c = some o → h'.get? c = some o) → (∃ o, h'.get? e = some o ∧ o.cls = .type "StopIteration") → E (.ref e) { s with heap := h' }) :
    wpAny (model prog w) A (Builtin.SmallTypes.stopIteration (α := α)) Q E s := by
  unfold Builtin.SmallTypes.stopIteration
  refine wpAny_bind ?_
  simp only [newExc, newTuple]
  refine wpAny_bind (wpAny_newObj_type ?_ (by size_fits))
  refine wpAny_bind (m := firstArgMember _ _) (wpAny_of_eq (a := Value.none) (by first | rfl | (simp only [firstArgMember]; rfl)) ?_)
  refine wpAny_newObj_type ?_ (by size_fits)
  simp only [raiseNew]
  refine wpAny_bind (wpAny_handled ?_)
  rw [hh]
  refine wpAny_bind (wpAny_pure (wpAny_throw ?_))
  exact q _ _ (fun c o x => Heap.get?_push_of_some _ (Heap.get?_push_of_some _ x)) ⟨_, Heap.get?_push_size _ rfl, rfl⟩
theorem next_item {z TI TO i1 i2 l1 l2 : Addr} {k1 k2 : Nat} {xs ys : Array Value} {x y a b : Value} {Q : Value → Shared → Prop} (D : ZipApart z TI TO i1 i2 l1 l2)
    (hz : IsZipS s.heap z TI TO .none) (hTI : IsPair s.heap TI (.ref i1) (.ref i2)) (hTO : IsPair s.heap TO a b)
    (h1 : s.heap.IsListIter i1 l1 k1) (h2 : s.heap.IsListIter i2 l2 k2) (hl1 : s.heap.IsList l1 xs) (hl2 : s.heap.IsList l2 ys) (hx : xs[k1]? = some x) (hy : ys[k2]? = some y)
    (hQ : ∀ h', IsZipS h' z TI TO (rawInt s.heap.objs.size) → IsPair h' TO x y → h'.IsListIter i1 l1 (k1 + 1) → h'.IsListIter i2 l2 (k2 + 1) → IsPair h' s.heap.objs.size x y → h'.objs.size = s.heap.objs.size + 1 →
      (∀ c o, c ≠ z → c ≠ TO → c ≠ i1 → c ≠ i2 → s.heap.get? c = some o → h'.get? c = some o) → Q (.ref s.heap.objs.size) { s with heap := h' }) :
    wpAny (model prog w) A (Builtin.«zip.__next__» ⟨[.ref z], []⟩) (fun fin s' => ∃ v, fin = .done (.ret v) ∧ Q v s') E s := by
  show wpAny _ _ (field (.ref z) 2 >>= _) _ _ _
  refine wpAny_bind (wpAny_field hz rfl (x := .bool true) rfl ?_)
  show wpAny _ _ (field (.ref z) 3 >>= _) _ _ _
  refine wpAny_bind (wpAny_field hz rfl (x := .ref TI) rfl ?_)
  refine wpAny_bind (wpAny_seqItems hTI rfl ?_)
  show wpAny _ _ (Builtin.SmallTypes.ownedTupleIsFree (.ref z) >>= _) _ _ _
  refine wpAny_bind ?_
  unfold Builtin.SmallTypes.ownedTupleIsFree
  refine wpAny_bind (wpAny_field hz rfl (x := .none) rfl (wpAny_pure ?_))
  simp only [if_true]
  refine wpAny_bind (wpAny_rule ?_)
  refine wpAny_bind (wpAny_field hz rfl (x := .ref TO) rfl ?_)
  refine wpAny_bind (wpAny_setField_rec hz (by simp) fun h₁ hz₁ hs₁ => ?_)
  replace hz₁ : IsZipS h₁ z TI TO .ellipsis := hz₁
  refine wpAny_bind ?_
  simp only [List.zipIdx_cons, List.zipIdx_nil, List.forIn_cons, List.forIn_nil]
  refine wpAny_bind (wpAny_bind (wpAny_onRaise ?_))
  show wpAny _ _ (Builtin.SmallTypes.nextOrEnd (.ref i1)) _ _ _
  refine draw_item (h1.extBut hs₁.extBut D.i1z) (hl1.extBut hs₁.extBut D.l1z) hx fun h₂ h1₂ hs₂ => ?_
  have hTO₂ : IsPair h₂ TO a b := hs₂.extBut _ _ D.TOi1 (hs₁.extBut _ _ D.TOz hTO)
  refine wpAny_bind (wpAny_seqItems hTO₂ rfl ?_)
  refine wpAny_bind (wpAny_updateSeq_pair hTO₂ fun h₃ hTO₃ hs₃ => ?_)
  replace hTO₃ : IsPair h₃ TO x b := hTO₃
  refine wpAny_bind (wpAny_letGo (wpAny_pure ?_))
  refine wpAny_bind (wpAny_bind (wpAny_onRaise ?_))
  show wpAny _ _ (Builtin.SmallTypes.nextOrEnd (.ref i2)) _ _ _
  refine draw_item (((h2.extBut hs₁.extBut D.i2z).extBut hs₂.extBut D.i12.symm).extBut hs₃.extBut D.TOi2.symm)
    (((hl2.extBut hs₁.extBut D.l2z).extBut hs₂.extBut D.l2i1).extBut hs₃.extBut D.l2TO) hy fun h₄ h2₄ hs₄ => ?_
  have hTO₄ : IsPair h₄ TO x b := hs₄.extBut _ _ D.TOi2 hTO₃
  refine wpAny_bind (wpAny_seqItems hTO₄ rfl ?_)
  refine wpAny_bind (wpAny_updateSeq_pair hTO₄ fun h₅ hTO₅ hs₅ => ?_)
  replace hTO₅ : IsPair h₅ TO x y := hTO₅
  refine wpAny_bind (wpAny_letGo (wpAny_pure (wpAny_pure ?_)))
  refine wpAny_bind (wpAny_seqItems hTO₅ rfl ?_)
  refine wpAny_bind (wpAny_newTuple ?_)
  have hsz : h₅.objs.size = s.heap.objs.size := by rw [hs₅.1, hs₄.1, hs₃.1, hs₂.1, hs₁.1]
  have hz₅ : IsZipS h₅ z TI TO .ellipsis := hs₅.extBut _ _ D.TOz.symm (hs₄.extBut _ _ D.i2z.symm (hs₃.extBut _ _ D.TOz.symm (hs₂.extBut _ _ D.i1z.symm hz₁)))
  have hk₅ : ∀ c o, c ≠ z → c ≠ TO → c ≠ i1 → c ≠ i2 → s.heap.get? c = some o → h₅.get? c = some o := fun c o c1 c2 c3 c4 e =>
    hs₅.extBut _ _ c2 (hs₄.extBut _ _ c4 (hs₃.extBut _ _ c2 (hs₂.extBut _ _ c3 (hs₁.extBut _ _ c1 e))))
  have h1₅ : h₅.IsListIter i1 l1 (k1 + 1) := ((h1₂.extBut hs₃.extBut D.TOi1.symm).extBut hs₄.extBut D.i12).extBut hs₅.extBut D.TOi1.symm
  have h2₅ : h₅.IsListIter i2 l2 (k2 + 1) := h2₄.extBut hs₅.extBut D.TOi2.symm
  have hzlt : z < h₅.objs.size := Heap.lt_size hz₅
  show wpAny _ _ (Builtin.SmallTypes.ownedTupleHandOut (.ref z) (.ref h₅.objs.size) >>= _) _ _ _
  refine wpAny_bind ?_
  unfold Builtin.SmallTypes.ownedTupleHandOut
  have hz₆ : IsZipS (h₅.push { cls := .type "tuple", data := .seq #[x, y] }) z TI TO .ellipsis := Heap.get?_push_of_some _ hz₅
  refine wpAny_bind (wpAny_setField_rec hz₆ (by simp) fun h₇ hz₇ hs₇ => ?_)
  replace hz₇ : IsZipS h₇ z TI TO (rawInt h₅.objs.size) := hz₇
  refine wpAny_setField_rec hz₇ (by simp) fun h₈ hz₈ hs₈ => ?_
  replace hz₈ : IsZipS h₈ z TI TO (rawInt h₅.objs.size) := hz₈
  have up : ∀ c o, c ≠ z → h₅.get? c = some o → h₈.get? c = some o := fun c o c1 e => hs₈.extBut _ _ c1 (hs₇.extBut _ _ c1 (Heap.get?_push_of_some _ e))
  have hT₈ : IsPair h₈ h₅.objs.size x y := hs₈.extBut _ _ (Nat.ne_of_gt hzlt) (hs₇.extBut _ _ (Nat.ne_of_gt hzlt) (Heap.get?_push_size _ rfl))
  have hz8 : h₈.objs.size = h₅.objs.size + 1 := by rw [hs₈.1, hs₇.1, Heap.size_push]
  rw [hsz] at hz₈ hT₈ hz8
  refine wpAny_pure ⟨_, rfl, ?_⟩
  show Q (.ref h₅.objs.size) _
  rw [hsz]
  exact hQ h₈ hz₈ (up _ _ D.TOz hTO₅) (h1₅.at fun o e => up _ o D.i1z e) (h2₅.at fun o e => up _ o D.i2z e) hT₈ hz8 fun c o c1 c2 c3 c4 e => up c o c1 (hk₅ c o c1 c2 c3 c4 e)
theorem next_end {z TI TO i1 i2 l1 l2 : Addr} {k1 k2 : Nat} {xs ys : Array Value} {a b : Value} {Q : Fin → Shared → Prop} (hh : A.handled = none) (D : ZipApart z TI TO i1 i2 l1 l2)
    (hz : IsZipS s.heap z TI TO .none) (hTI : IsPair s.heap TI (.ref i1) (.ref i2)) (hTO : IsPair s.heap TO a b)
    (h1 : s.heap.IsListIter i1 l1 k1) (h2 : s.heap.IsListIter i2 l2 k2) (hl1 : s.heap.IsList l1 xs) (hl2 : s.heap.IsList l2 ys) (hx : xs[k1]? = none) (hy : ys[k2]? = none)
    (hE : ∀ h' e, (∀ c o, c ≠ z → c ≠ TO → c ≠ i1 → c ≠ i2 → s.heap.get? c = some o → h'.get? c = some o) → (∃ o, h'.get? e = some o ∧ o.cls = .type "StopIteration") → E (.ref e) { s with heap := h' }) :
    wpAny (model prog w) A (Builtin.«zip.__next__» ⟨[.ref z], []⟩) Q E s := by
  show wpAny _ _ (field (.ref z) 2 >>= _) _ _ _
  refine wpAny_bind (wpAny_field hz rfl (x := .bool true) rfl ?_)
  show wpAny _ _ (field (.ref z) 3 >>= _) _ _ _
  refine wpAny_bind (wpAny_field hz rfl (x := .ref TI) rfl ?_)
  refine wpAny_bind (wpAny_seqItems hTI rfl ?_)
  show wpAny _ _ (Builtin.SmallTypes.ownedTupleIsFree (.ref z) >>= _) _ _ _
  refine wpAny_bind ?_
  unfold Builtin.SmallTypes.ownedTupleIsFree
  refine wpAny_bind (wpAny_field hz rfl (x := .none) rfl (wpAny_pure ?_))
  simp only [if_true]
  refine wpAny_bind (wpAny_rule ?_)
  refine wpAny_bind (wpAny_field hz rfl (x := .ref TO) rfl ?_)
  refine wpAny_bind (wpAny_setField_rec hz (by simp) fun h₁ hz₁ hs₁ => ?_)
  replace hz₁ : IsZipS h₁ z TI TO .ellipsis := hz₁
  refine wpAny_bind ?_
  simp only [List.zipIdx_cons, List.zipIdx_nil, List.forIn_cons, List.forIn_nil]
  refine wpAny_bind (wpAny_bind (wpAny_onRaise ?_))
  show wpAny _ _ (Builtin.SmallTypes.nextOrEnd (.ref i1)) _ _ _
  refine draw_end hh (h1.extBut hs₁.extBut D.i1z) (hl1.extBut hs₁.extBut D.l1z) hx fun h₂ hs₂ => ?_
  have hz₂ : IsZipS h₂ z TI TO .ellipsis := hs₂ _ _ D.i1z.symm hz₁
  have hTO₂ : h₂.get? TO = some _ := hs₂ _ _ D.TOi1 (hs₁.extBut _ _ D.TOz hTO)
  refine wpAny_bind (wpAny_setField_rec hz₂ (by simp) fun h₃ hz₃ hs₃ => wpAny_bind ?_)
  have g2 : h₃.IsListIter i2 l2 k2 := ((h2.extBut hs₁.extBut D.i2z).extBut hs₂ D.i12.symm).extBut hs₃.extBut D.i2z
  have gl2 : h₃.IsList l2 ys := ((hl2.extBut hs₁.extBut D.l2z).extBut hs₂ D.l2i1).extBut hs₃.extBut D.l2z
  refine wpAny_bind (m := forIn ([(Value.ref i2, 1)] : List (Value × Nat)) PUnit.unit _) ?_
  simp only [List.forIn_cons, List.forIn_nil]
  refine wpAny_bind (wpAny_bind (draw_end hh g2 gl2 hy fun h₄ hs₄ => ?_))
  refine wpAny_pure (wpAny_pure ?_)
  refine wpAny_bind (wpAny_rule ?_)
  refine stop_it hh fun h₅ e hk he => hE h₅ e (fun c o c1 c2 c3 c4 x => hk c o (hs₄ _ _ c4 (hs₃.extBut _ _ c1 (hs₂ _ _ c3 (hs₁.extBut _ _ c1 x))))) he
end
end MiZ
end
section
namespace MiZ
open PySem PySem.Spec
section
variable {prog : Program} {w : World} {A : Around} {E : Value → Shared → Prop} {s : Shared}
theorem py_item {z TI TO i1 i2 l1 l2 : Addr} {k1 k2 : Nat} {xs ys : Array Value} {x y a b : Value} {Q : Option Value → Shared → Prop} (D : ZipApart z TI TO i1 i2 l1 l2)
    (hz : IsZipS s.heap z TI TO .none) (hTI : IsPair s.heap TI (.ref i1) (.ref i2)) (hTO : IsPair s.heap TO a b)
    (h1 : s.heap.IsListIter i1 l1 k1) (h2 : s.heap.IsListIter i2 l2 k2) (hl1 : s.heap.IsList l1 xs) (hl2 : s.heap.IsList l2 ys) (hx : xs[k1]? = some x) (hy : ys[k2]? = some y)
    (q : ∀ h', IsZipS h' z TI TO (rawInt s.heap.objs.size) → IsPair h' TO x y → h'.IsListIter i1 l1 (k1 + 1) → h'.IsListIter i2 l2 (k2 + 1) → IsPair h' s.heap.objs.size x y → h'.objs.size = s.heap.objs.size + 1 →
      (∀ c o, c ≠ z → c ≠ TO → c ≠ i1 → c ≠ i2 → s.heap.get? c = some o → h'.get? c = some o) → Q (some (.ref s.heap.objs.size)) { s with heap := h' }) :
    wpAny (model prog w) A (pyNext (.ref z)) Q E s := by
  have t : s.TypeIs (.ref z) "zip" := ⟨_, hz, rfl⟩
  unfold pyNext
  refine wpAny_bind (wpAny_attempt (wpAny_callSpecial?_slot (name := Str.ofString "__next__") t F.slot_zip_next ?_))
  exact wpAny_call_entry F.slot_zip_next t F.entry_zip_next (next_item D hz hTI hTO h1 h2 hl1 hl2 hx hy fun h' a1 a2 a3 a4 a5 a6 a7 => wpAny_pure (q h' a1 a2 a3 a4 a5 a6 a7)) (F.args_zip_next_1 _)
theorem py_end {z TI TO i1 i2 l1 l2 : Addr} {k1 k2 : Nat} {xs ys : Array Value} {a b : Value} {Q : Option Value → Shared → Prop} (hh : A.handled = none) (D : ZipApart z TI TO i1 i2 l1 l2)
    (hz : IsZipS s.heap z TI TO .none) (hTI : IsPair s.heap TI (.ref i1) (.ref i2)) (hTO : IsPair s.heap TO a b)
    (h1 : s.heap.IsListIter i1 l1 k1) (h2 : s.heap.IsListIter i2 l2 k2) (hl1 : s.heap.IsList l1 xs) (hl2 : s.heap.IsList l2 ys) (hx : xs[k1]? = none) (hy : ys[k2]? = none)
    (q : ∀ h', (∀ c o, c ≠ z → c ≠ TO → c ≠ i1 → c ≠ i2 → s.heap.get? c = some o → h'.get? c = some o) → Q none { s with heap := h' }) : wpAny (model prog w) A (pyNext (.ref z)) Q E s := by
  have t : s.TypeIs (.ref z) "zip" := ⟨_, hz, rfl⟩
  unfold pyNext
  refine wpAny_bind (wpAny_attempt (wpAny_callSpecial?_slot (name := Str.ofString "__next__") t F.slot_zip_next ?_))
  refine wpAny_call_entry F.slot_zip_next t F.entry_zip_next (next_end hh D hz hTI hTO h1 h2 hl1 hl2 hx hy fun h' e hk he => ?_) (F.args_zip_next_1 _)
  obtain ⟨o, ho, hc⟩ := he
  exact wpAny_bind (wpAny_isInstance (T := "StopIteration") (b := true) ⟨o, ho, hc⟩ isSubtype_stop (wpAny_pure (q _ hk)))
theorem own_go {elts : List Expr} {x1} {pos : Pos} {z TI TO T : Addr} {Q : Unit → Shared → Prop} (hz : IsZipS s.heap z TI TO (rawInt T)) (q : ∀ h', IsZipS h' z TI TO .none → Heap.SameBut z s.heap h' → Q () { s with heap := h' }) :
    wpAny (model prog w) A (letOwnedTupleGo (.Tuple elts x1 pos) (.ref z) (.ref T)) Q E s := by
  unfold letOwnedTupleGo
  refine wpAny_bind (wpAny_load hz ?_)
  show wpAny _ _ (if (["enumerate", "zip", "dict_itemiterator", "dict_reverseitemiterator", "odict_iterator", "itertools.zip_longest", "itertools.pairwise"].contains "zip" &&
      (#[rawInt T, .bool false, .bool true, .ref TI, .ref TO] : Array Value)[0]? == some (rawInt T)) = true then _ else _) Q E s
  rw [if_pos (by simp)]
  refine wpAny_bind (wpAny_rule ?_)
  show wpAny _ _ (setField (.ref z) 0 .none) Q E s
  exact wpAny_setField_rec hz (by simp) fun h' a b => q h' a b
theorem py_iter {z TI TO : Addr} {f0 : Value} {Q : Value → Shared → Prop} (hz : IsZipS s.heap z TI TO f0) (h : Q (.ref z) s) : wpAny (model prog w) A (pyIter (.ref z)) Q E s := by
  have t : s.TypeIs (.ref z) "zip" := ⟨_, hz, rfl⟩
  refine wpAny_pyIter_slot t F.slot_zip_iter (wpAny_call_entry F.slot_zip_iter t F.entry_zip_iter ?_ (F.args_zip_iter_1 _))
  show wpAny _ _ (ret (.ref z)) _ _ s
  exact wpAny_pure ⟨_, rfl, "zip", _, t, F.slot_zip_next.lookup, h⟩
theorem call_zips {l1 l2 : Addr} {xs ys : Array Value} {Q : Value → Shared → Prop} (hl1 : s.heap.IsList l1 xs) (hl2 : s.heap.IsList l2 ys)
    (h : ∀ h', IsZipS h' (s.heap.objs.size + 4) (s.heap.objs.size + 2) (s.heap.objs.size + 3) .none → IsPair h' (s.heap.objs.size + 2) (.ref s.heap.objs.size) (.ref (s.heap.objs.size + 1)) →
      IsPair h' (s.heap.objs.size + 3) .none .none → h'.IsListIter s.heap.objs.size l1 0 → h'.IsListIter (s.heap.objs.size + 1) l2 0 → (∀ c o, s.heap.get? c = some o → h'.get? c = some o) → Q (.ref (s.heap.objs.size + 4)) { s with heap := h' }) :
    wpAny (model prog w) A (call (.type "zip") [.ref l1, .ref l2] sk) Q E s := by
  have z1 : (zipH1 s.heap l1).objs.size = s.heap.objs.size + 1 := Heap.size_push ..
  have z2 : (zipH2 s.heap l1 l2).objs.size = s.heap.objs.size + 2 := by rw [Heap.size_push, z1]
  have z3 : (zipH3 s.heap l1 l2).objs.size = s.heap.objs.size + 3 := by rw [Heap.size_push, z2]
  have z4 : (zipH4 s.heap l1 l2).objs.size = s.heap.objs.size + 4 := by rw [Heap.size_push, z3]
  have up : ∀ c o, s.heap.get? c = some o → (hp5 s.heap l1 l2).get? c = some o := fun c o x =>
    Heap.get?_push_of_some _ (Heap.get?_push_of_some _ (Heap.get?_push_of_some _ (Heap.get?_push_of_some _ (Heap.get?_push_of_some _ x))))
  have g5 : (hp5 s.heap l1 l2).get? (zipH4 s.heap l1 l2).objs.size = some _ := Heap.get?_push_size _ rfl
  have g4 : (hp5 s.heap l1 l2).get? (zipH3 s.heap l1 l2).objs.size = some _ := Heap.get?_push_of_some _ (Heap.get?_push_size _ rfl)
  have g3 : (hp5 s.heap l1 l2).get? (zipH2 s.heap l1 l2).objs.size = some _ := Heap.get?_push_of_some _ (Heap.get?_push_of_some _ (Heap.get?_push_size _ rfl))
  have g2 : (hp5 s.heap l1 l2).get? (zipH1 s.heap l1).objs.size = some _ := Heap.get?_push_of_some _ (Heap.get?_push_of_some _ (Heap.get?_push_of_some _ (Heap.get?_push_size _ rfl)))
  have g1 : (hp5 s.heap l1 l2).get? s.heap.objs.size = some _ := Heap.get?_push_of_some _ (Heap.get?_push_of_some _ (Heap.get?_push_of_some _ (Heap.get?_push_of_some _ (Heap.get?_push_size _ rfl))))
  refine callT_kw F.called_zip (tCall _ _) (nCall _ _) F.entry_zip_new F.entry_object_init (new_meets l1 l2 xs ys) (Q₁ := fun obj s₁ => s₁.TypeIs obj "zip" ∧ Q obj s₁) ⟨hl1, hl2, ?_⟩ fun obj _ hq =>
    ⟨hq.1, args_init obj _ _, _, init_kw F.called_zip.init.lookup F.called_zip.made (by decide), hq.1, rfl, hq.2⟩
  show _ ∧ _
  rw [z2, z3, z4] at g5
  rw [z1, z2] at g3
  rw [z3] at g4
  rw [z1] at g2
  rw [z4]
  exact ⟨⟨_, g5, rfl⟩, h _ g5 g3 g4 ⟨_, g1, rfl, rfl⟩ ⟨_, g2, rfl, rfl⟩ up⟩
end
section
variable {M : Model} {A : Around} {E : Value → Shared → Prop} {s : Shared} {env : Env}
theorem withT_kw {pos : Pos} {T : String} {first : List Value} {args : List (Bool × Sem Value)} {ks : List (Option Str × Sem Value)} {Q : Value → Shared → Prop}
    (hp : args.any (·.1) = false) (hk : ks.any (·.1.isNone) = false)
    (h : wpAny M A (evalArgs (.type T) true args ks) (fun a s₁ => wpAny M A (call (.type T) (first ++ a.pos) a.kw) Q E s₁) E s) : wpAny M A (callWith pos (.type T) first args ks) Q E s := by
  unfold callWith
  refine wpAny_bind (wpAny_holding (wpAny_mono h (fun a s₁ h₁ => wpAny_bind (wpAny_standAt ?_)) fun _ _ x => x))
  simp only [hp, hk, Bool.or_false]
  refine wpAny_bind (wpAny_pure ?_)
  exact wpAny_bind (wpAny_mono h₁ (fun r s₂ hr => wpAny_bind (wpAny_holding (wpAny_point (wpAny_pure hr)))) fun _ _ x => x)
end
open L2
/-- two lists of one length, pair by pair -/
def ItzS (K : PySem.W.Frag) (a b : Addr) : It :=
  ⟨(Itz K a b).go, (Itz K a b).yld, fun i H => ∃ xs ys : List V, SqL K H a xs ∧ SqL K H b ys ∧ xs.length ≤ i ∧ ys.length ≤ i⟩
theorem turn_zips {P : Program} {w : World} {K : PySem.W.Frag} {elts : List Expr} {kk : Nat} {tpos : Pos} {a b z TI TO i1 i2 : Addr} (D : ZipApart z TI TO i1 i2 a b) :
    Turn P w K (.Tuple elts kk tpos) (ItzS K a b) [z, TI, TO, i1, i2] z (fun i h => IsZipS h z TI TO .none ∧ IsPair h TI (.ref i1) (.ref i2) ∧ (∃ x y, IsPair h TO x y) ∧ h.IsListIter i1 a i ∧ h.IsListIter i2 b i) where
  mem := by simp
  obj := fun i h st c hc => by
    obtain ⟨hz, hTI, ⟨x, y, hTO⟩, ⟨o1, e1, _, d1⟩, ⟨o2, e2, _, d2⟩⟩ := st
    have e' : c = z ∨ c = TI ∨ c = TO ∨ c = i1 ∨ c = i2 := by simpa using hc
    rcases e' with rfl | rfl | rfl | rfl | rfl
    · exact ⟨_, hz, fun v q => nomatch q⟩
    · exact ⟨_, hTI, fun v q => nomatch q⟩
    · exact ⟨_, hTO, fun v q => nomatch q⟩
    · exact ⟨o1, e1, fun v q => by rw [d1] at q; cases q⟩
    · exact ⟨o2, e2, fun v q => by rw [d2] at q; cases q⟩
  keep := fun i h h' st k => by
    obtain ⟨hz, hTI, ⟨x, y, hTO⟩, h1, h2⟩ := st
    exact ⟨k z (by simp) _ hz, k TI (by simp) _ hTI, ⟨x, y, k TO (by simp) _ hTO⟩, h1.at fun o q => k i1 (by simp) o q, h2.at fun o q => k i2 (by simp) o q⟩
  item := by
    intro X hP hw hK hc i pins s σ H E I hf st hg
    subst hP hw hK
    obtain ⟨hz, hTI, ⟨x0, y0, hTO⟩, h1, h2⟩ := st
    obtain ⟨xs, ys, x, y, hqx, hqy, hx, hy⟩ := hg
    obtain ⟨its, rv, p, _⟩ := I.list hqx
    obtain ⟨its2, rv2, p2, _⟩ := I.list hqy
    obtain ⟨u, hu, ru⟩ := rv.get hx
    obtain ⟨u2, hu2, ru2⟩ := rv2.get hy
    have hzl : z < s.heap.objs.size := Heap.lt_size hz
    refine py_item D hz hTI hTO h1 h2 p.isList p2.isList (x := u) (y := u2) (by simpa using hu) (by simpa using hu2) fun h' z' TO' h1' h2' hT hsz hk => ?_
    refine ⟨_, rfl, own_go (s := { s with heap := h' }) z' fun h'' z'' sb => ?_⟩
    have hT2 : h''.get? s.heap.objs.size = some { cls := .type "tuple", data := .seq #[u, u2] } := (sb.2 _ (Nat.ne_of_gt hzl)).trans hT
    have new : ObjOk X.prog X.w (upd H s.heap.objs.size (.tup [x, y])) h'' s.heap.objs.size (.tup [x, y]) :=
      ⟨by show 2 ≤ sizeLine; decide, [u, u2], .cons ru (.cons ru2 .nil), ⟨_, hT2, rfl, _, rfl⟩⟩
    have I1 : Inv X pins σ (upd H s.heap.objs.size (.tup [x, y])) { s with heap := h'' } :=
      I.turnedNew (t' := s.toks) (ch := [z, TI, TO, i1, i2]) (fun c o hb q => (sb.2 c (fun q' => hb (by simp [q']))).trans (hk c o (fun q' => hb (by simp [q'])) (fun q' => hb (by simp [q'])) (fun q' => hb (by simp [q'])) (fun q' => hb (by simp [q'])) q)) hf (Nat.le_refl _) new
    refine ⟨.ref s.heap.objs.size, _, I1, rfl, ⟨_, x, y, rfl, I.hok.fresh (Nat.le_refl _), rfl, fun l hl => by rw [I.list_inj hl hqx]; exact hx, fun l hl => by rw [I.list_inj hl hqy]; exact hy⟩, ⟨z'', ?_, ⟨u, u2, ?_⟩, ?_, ?_⟩, fun c hcm => ?_⟩
    · exact (sb.2 _ D.TIz).trans (hk _ _ D.TIz D.TITO D.TIi1 D.TIi2 hTI)
    · exact (sb.2 _ D.TOz).trans TO'
    · exact h1'.at fun o q => (sb.2 _ D.i1z).trans q
    · exact h2'.at fun o q => (sb.2 _ D.i2z).trans q
    · have hlt : c < s.heap.objs.size := by
        have e' : c = z ∨ c = TI ∨ c = TO ∨ c = i1 ∨ c = i2 := by simpa using hcm
        rcases e' with rfl | rfl | rfl | rfl | rfl
        · exact hzl
        · exact Heap.lt_size hTI
        · exact Heap.lt_size hTO
        · obtain ⟨_, e1, _⟩ := h1; exact Heap.lt_size e1
        · obtain ⟨_, e2, _⟩ := h2; exact Heap.lt_size e2
      rw [upd_ne (Nat.ne_of_lt hlt)]
      exact (hf c hcm).1
  done := by
    intro X hP hw hK hc i pins s σ H E I hf st hg
    subst hP hw hK
    obtain ⟨hz, hTI, ⟨x0, y0, hTO⟩, h1, h2⟩ := st
    obtain ⟨xs, ys, hqx, hqy, e1, e2⟩ := hg
    obtain ⟨its, rv, p, _⟩ := I.list hqx
    obtain ⟨its2, rv2, p2, _⟩ := I.list hqy
    have l1 := rv.length
    have l2 := rv2.length
    exact py_end (I.ok.hd hc) D hz hTI hTO h1 h2 p.isList p2.isList (by simp; omega) (by simp; omega) fun h' hk => ⟨rfl, I.turnedL (t' := s.toks) (ch := [z, TI, TO, i1, i2]) (fun c o hb q =>
      hk c o (fun q' => hb (by simp [q'])) (fun q' => hb (by simp [q'])) (fun q' => hb (by simp [q'])) (fun q' => hb (by simp [q'])) q) hf⟩
  self := fun A i s Q E st h => py_iter st.1 h
def iZipS (K : PySem.W.Frag) (ta : TA) : TI := fun σ H R => ta σ H fun vs H1 => ∃ a b xs ys, vs = [.ref a, .ref b] ∧ SqL K H1 a xs ∧ SqL K H1 b ys ∧ R (ItzS K a b) H1
theorem pi_zips {X : Cx} {e e2 : Expr} {ta : TA} {p pos tpos cp kp : Pos} {elts : List Expr} {kk u : Nat} (hg : Gl X "zip") (hm : X.mg "zip" = none) (ha : PA X [e, e2] ta)
    (hs : starEach [e, e2] X.env = (false, eval e X.env) :: starEach [e2] X.env) (hpl : (backTo pos (starEach [e2] X.env)).any (·.1) = false) :
    PI X (.Tuple elts kk tpos) (.Call (.Name "zip" p) [e, e2] [⟨some "strict", .Constant (.bool true) u cp, kp⟩] pos) (iZipS X.K ta) := by
  refine ⟨fun pins s σ H R I h => ?_⟩
  refine wpAny_Call_Name_kw (ld_blt I hg hm PyProof.Rows.boot_zip ?_)
  have hb : backTo pos (starEach [e, e2] X.env) = (false, eval e X.env) :: backTo pos (starEach [e2] X.env) := by
    rw [hs]
    rfl
  refine withT_kw (by rw [hb]; simpa using hpl) rfl ?_
  rw [hb]
  refine PyProof.Rows.evalArgs_kwB rfl ?_
  rw [← hb]
  refine thn (ha.run pos pins s σ H _ I h) fun us s1 ⟨vs, H1, I1, r1, q1⟩ => ?_
  obtain ⟨a, b, xs, ys, ex, hqx, hqy, q⟩ := q1
  subst ex
  refine thn ((pk_cons (X := X) (nm := some ("strict" : Str)) (kpos := kp) (pe_bl (X := X) (b := true)) pk_nil).run pos pins s1 σ H1 (fun zs H2 => zs = [.bl true] ∧ H2 = H1) I1 ⟨rfl, rfl⟩) fun ws s2 ⟨zs, H2, I2, r2, ez, eH⟩ => ?_
  subst ez eH
  cases r2 with
  | cons r2 rr =>
    cases rr
    cases r2
    cases r1 with
    | cons r rr =>
      cases rr with
      | cons r' rr =>
        cases rr
        cases r
        cases r'
        obtain ⟨its, rv, p1, _⟩ := I2.list hqx
        obtain ⟨its2, rv2, p2, _⟩ := I2.list hqy
        refine call_zips p1.isList p2.isList fun h' hz hTI hTO h1 h2 hk => py_iter hz ?_
        have I3 : Inv X pins σ _ { s2 with heap := h' } := I2.kept (t' := s2.toks) hk
        refine ⟨s2.heap.objs.size + 4, [s2.heap.objs.size + 4, s2.heap.objs.size + 2, s2.heap.objs.size + 3, s2.heap.objs.size, s2.heap.objs.size + 1], _, _, _, rfl, I3, turn_zips (PySem.W.ktu_apart s2.heap.objs.size a b p1.lt p2.lt), ⟨hz, hTI, ⟨_, _, hTO⟩, h1, h2⟩, fun c hcm => ?_, q⟩
        have hle : s2.heap.objs.size ≤ c := by
          have e' : c = s2.heap.objs.size + 4 ∨ c = s2.heap.objs.size + 2 ∨ c = s2.heap.objs.size + 3 ∨ c = s2.heap.objs.size ∨ c = s2.heap.objs.size + 1 := by simpa using hcm
          rcases e' with z | z | z | z | z <;> rw [z]
          · exact Nat.le_add_right _ _
          · exact Nat.le_add_right _ _
          · exact Nat.le_add_right _ _
          · exact Nat.le_refl _
          · exact Nat.le_add_right _ _
        exact I2.fpOk hle (I2.hok.fresh hle)
end MiZ
end
section
/-! zip(list, tuple, strict=True): the second one a tuple -/
namespace MiZ
open PySem PySem.Spec
open Sem (wp)
theorem iter_at {h h' : Heap} {a t : Addr} {i : Nat} (x : h.IsTupleIter a t i) (k : ∀ o, h.get? a = some o → h'.get? a = some o) : h'.IsTupleIter a t i := by
  obtain ⟨o, e, r⟩ := x
  exact ⟨o, k o e, r⟩
abbrev tH2 (h : Heap) (l1 l2 : Addr) : Heap := (zipH1 h l1).push { cls := .type "tuple_iterator", data := .fields #[.ref l2, .int 0 0] }
abbrev tH3 (h : Heap) (l1 l2 : Addr) : Heap := (tH2 h l1 l2).push { cls := .type "tuple", data := .seq #[.ref h.objs.size, .ref (zipH1 h l1).objs.size] }
abbrev tH4 (h : Heap) (l1 l2 : Addr) : Heap := (tH3 h l1 l2).push { cls := .type "tuple", data := .seq #[.none, .none] }
abbrev tH5 (h : Heap) (l1 l2 : Addr) : Heap := (tH4 h l1 l2).push { cls := .type "zip", data := .fields #[.none, .bool false, .bool true, .ref (tH2 h l1 l2).objs.size, .ref (tH3 h l1 l2).objs.size] }
theorem new_meetsT (l1 l2 : Addr) (xs ys : Array Value) :
    Meets (Builtin.«zip.__new__» ⟨[.type "zip", .ref l1, .ref l2], sk⟩) (fun _ R s => s.heap.IsList l1 xs ∧ s.heap.IsTuple l2 ys ∧
      R (.ok (.ret (.ref (tH4 s.heap l1 l2).objs.size))) { s with heap := tH5 s.heap l1 l2 }) :=
  .of_wp fun prog w A R s h => by
    obtain ⟨hp, g, d, tk, os⟩ := s
    obtain ⟨hl1, hl2, h⟩ := h
    have hsub := sub_zip
    have hL1 : Heap.IsList (Shared.heap ⟨hp, g, d, tk, os⟩) l1 xs := hl1
    have hL2 : Heap.IsTuple (Shared.heap ⟨hp.push { cls := .type "list_iterator", data := .fields #[.ref l1, .int 0 0] }, g, d, tk, os⟩) l2 ys := Heap.IsTuple.push hl2 _
    wp_walk using wpAny_pyIter_list hL1, wpAny_pyIter_tuple hL2
    exact ⟨_, rfl, h⟩
section
variable {prog : Program} {w : World} {A : Around} {E : Value → Shared → Prop} {s : Shared}
theorem draw_itemT {it l : Addr} {i : Nat} {items : Array Value} {x : Value} {Q : Option Value → Shared → Prop} (h1 : s.heap.IsTupleIter it l i) (h2 : s.heap.IsTuple l items) (hx : items[i]? = some x)
    (q : ∀ h', h'.IsTupleIter it l (i + 1) → Heap.SameBut it s.heap h' → Q (some x) { s with heap := h' }) : wpAny (model prog w) A (Builtin.SmallTypes.nextOrEnd (.ref it)) Q E s := by
  unfold Builtin.SmallTypes.nextOrEnd
  refine wpAny_bind (wpAny_attempt (wpAny_nextOf_tuple_item h1 h2 hx fun h' a b => ?_))
  exact wpAny_pure (q h' a b)
theorem draw_endT {it l : Addr} {i : Nat} {items : Array Value} {Q : Option Value → Shared → Prop} (hh : A.handled = none) (h1 : s.heap.IsTupleIter it l i) (h2 : s.heap.IsTuple l items) (hx : items[i]? = none)
    (q : ∀ h', Heap.ExtBut it s.heap h' → Q none { s with heap := h' }) : wpAny (model prog w) A (Builtin.SmallTypes.nextOrEnd (.ref it)) Q E s := by
  unfold Builtin.SmallTypes.nextOrEnd
  refine wpAny_bind (wpAny_attempt (wpAny_nextOf_tuple_end hh h1 h2 hx fun h' e a b => ?_))
  obtain ⟨o, ho, hc⟩ := b
  refine wpAny_bind (wpAny_isInstance (T := "StopIteration") (b := true) ⟨o, ho, hc⟩ isSubtype_stop ?_)
  exact wpAny_pure (q h' a)
theorem next_itemT {z TI TO i1 i2 l1 l2 : Addr} {k1 k2 : Nat} {xs ys : Array Value} {x y a b : Value} {Q : Value → Shared → Prop} (D : ZipApart z TI TO i1 i2 l1 l2)
    (hz : IsZipS s.heap z TI TO .none) (hTI : IsPair s.heap TI (.ref i1) (.ref i2)) (hTO : IsPair s.heap TO a b)
    (h1 : s.heap.IsListIter i1 l1 k1) (h2 : s.heap.IsTupleIter i2 l2 k2) (hl1 : s.heap.IsList l1 xs) (hl2 : s.heap.IsTuple l2 ys) (hx : xs[k1]? = some x) (hy : ys[k2]? = some y)
    (hQ : ∀ h', IsZipS h' z TI TO (rawInt s.heap.objs.size) → IsPair h' TO x y → h'.IsListIter i1 l1 (k1 + 1) → h'.IsTupleIter i2 l2 (k2 + 1) → IsPair h' s.heap.objs.size x y → h'.objs.size = s.heap.objs.size + 1 →
      (∀ c o, c ≠ z → c ≠ TO → c ≠ i1 → c ≠ i2 → s.heap.get? c = some o → h'.get? c = some o) → Q (.ref s.heap.objs.size) { s with heap := h' }) :
    wpAny (model prog w) A (Builtin.«zip.__next__» ⟨[.ref z], []⟩) (fun fin s' => ∃ v, fin = .done (.ret v) ∧ Q v s') E s := by
  show wpAny _ _ (field (.ref z) 2 >>= _) _ _ _
  refine wpAny_bind (wpAny_field hz rfl (x := .bool true) rfl ?_)
  show wpAny _ _ (field (.ref z) 3 >>= _) _ _ _
  refine wpAny_bind (wpAny_field hz rfl (x := .ref TI) rfl ?_)
  refine wpAny_bind (wpAny_seqItems hTI rfl ?_)
  show wpAny _ _ (Builtin.SmallTypes.ownedTupleIsFree (.ref z) >>= _) _ _ _
  refine wpAny_bind ?_
  unfold Builtin.SmallTypes.ownedTupleIsFree
  refine wpAny_bind (wpAny_field hz rfl (x := .none) rfl (wpAny_pure ?_))
  simp only [if_true]
  refine wpAny_bind (wpAny_rule ?_)
  refine wpAny_bind (wpAny_field hz rfl (x := .ref TO) rfl ?_)
  refine wpAny_bind (wpAny_setField_rec hz (by simp) fun h₁ hz₁ hs₁ => ?_)
  replace hz₁ : IsZipS h₁ z TI TO .ellipsis := hz₁
  refine wpAny_bind ?_
  simp only [List.zipIdx_cons, List.zipIdx_nil, List.forIn_cons, List.forIn_nil]
  refine wpAny_bind (wpAny_bind (wpAny_onRaise ?_))
  show wpAny _ _ (Builtin.SmallTypes.nextOrEnd (.ref i1)) _ _ _
  refine draw_item (h1.extBut hs₁.extBut D.i1z) (hl1.extBut hs₁.extBut D.l1z) hx fun h₂ h1₂ hs₂ => ?_
  have hTO₂ : IsPair h₂ TO a b := hs₂.extBut _ _ D.TOi1 (hs₁.extBut _ _ D.TOz hTO)
  refine wpAny_bind (wpAny_seqItems hTO₂ rfl ?_)
  refine wpAny_bind (wpAny_updateSeq_pair hTO₂ fun h₃ hTO₃ hs₃ => ?_)
  replace hTO₃ : IsPair h₃ TO x b := hTO₃
  refine wpAny_bind (wpAny_letGo (wpAny_pure ?_))
  refine wpAny_bind (wpAny_bind (wpAny_onRaise ?_))
  show wpAny _ _ (Builtin.SmallTypes.nextOrEnd (.ref i2)) _ _ _
  refine draw_itemT (((h2.extBut hs₁.extBut D.i2z).extBut hs₂.extBut D.i12.symm).extBut hs₃.extBut D.TOi2.symm)
    (((hl2.extBut hs₁.extBut D.l2z).extBut hs₂.extBut D.l2i1).extBut hs₃.extBut D.l2TO) hy fun h₄ h2₄ hs₄ => ?_
  have hTO₄ : IsPair h₄ TO x b := hs₄.extBut _ _ D.TOi2 hTO₃
  refine wpAny_bind (wpAny_seqItems hTO₄ rfl ?_)
  refine wpAny_bind (wpAny_updateSeq_pair hTO₄ fun h₅ hTO₅ hs₅ => ?_)
  replace hTO₅ : IsPair h₅ TO x y := hTO₅
  refine wpAny_bind (wpAny_letGo (wpAny_pure (wpAny_pure ?_)))
  refine wpAny_bind (wpAny_seqItems hTO₅ rfl ?_)
  refine wpAny_bind (wpAny_newTuple ?_)
  have hsz : h₅.objs.size = s.heap.objs.size := by rw [hs₅.1, hs₄.1, hs₃.1, hs₂.1, hs₁.1]
  have hz₅ : IsZipS h₅ z TI TO .ellipsis := hs₅.extBut _ _ D.TOz.symm (hs₄.extBut _ _ D.i2z.symm (hs₃.extBut _ _ D.TOz.symm (hs₂.extBut _ _ D.i1z.symm hz₁)))
  have hk₅ : ∀ c o, c ≠ z → c ≠ TO → c ≠ i1 → c ≠ i2 → s.heap.get? c = some o → h₅.get? c = some o := fun c o c1 c2 c3 c4 e =>
    hs₅.extBut _ _ c2 (hs₄.extBut _ _ c4 (hs₃.extBut _ _ c2 (hs₂.extBut _ _ c3 (hs₁.extBut _ _ c1 e))))
  have h1₅ : h₅.IsListIter i1 l1 (k1 + 1) := ((h1₂.extBut hs₃.extBut D.TOi1.symm).extBut hs₄.extBut D.i12).extBut hs₅.extBut D.TOi1.symm
  have h2₅ : h₅.IsTupleIter i2 l2 (k2 + 1) := h2₄.extBut hs₅.extBut D.TOi2.symm
  have hzlt : z < h₅.objs.size := Heap.lt_size hz₅
  show wpAny _ _ (Builtin.SmallTypes.ownedTupleHandOut (.ref z) (.ref h₅.objs.size) >>= _) _ _ _
  refine wpAny_bind ?_
  unfold Builtin.SmallTypes.ownedTupleHandOut
  have hz₆ : IsZipS (h₅.push { cls := .type "tuple", data := .seq #[x, y] }) z TI TO .ellipsis := Heap.get?_push_of_some _ hz₅
  refine wpAny_bind (wpAny_setField_rec hz₆ (by simp) fun h₇ hz₇ hs₇ => ?_)
  replace hz₇ : IsZipS h₇ z TI TO (rawInt h₅.objs.size) := hz₇
  refine wpAny_setField_rec hz₇ (by simp) fun h₈ hz₈ hs₈ => ?_
  replace hz₈ : IsZipS h₈ z TI TO (rawInt h₅.objs.size) := hz₈
  have up : ∀ c o, c ≠ z → h₅.get? c = some o → h₈.get? c = some o := fun c o c1 e => hs₈.extBut _ _ c1 (hs₇.extBut _ _ c1 (Heap.get?_push_of_some _ e))
  have hT₈ : IsPair h₈ h₅.objs.size x y := hs₈.extBut _ _ (Nat.ne_of_gt hzlt) (hs₇.extBut _ _ (Nat.ne_of_gt hzlt) (Heap.get?_push_size _ rfl))
  have hz8 : h₈.objs.size = h₅.objs.size + 1 := by rw [hs₈.1, hs₇.1, Heap.size_push]
  rw [hsz] at hz₈ hT₈ hz8
  refine wpAny_pure ⟨_, rfl, ?_⟩
  show Q (.ref h₅.objs.size) _
  rw [hsz]
  exact hQ h₈ hz₈ (up _ _ D.TOz hTO₅) (h1₅.at fun o e => up _ o D.i1z e) (h2₅.at fun o e => up _ o D.i2z e) hT₈ hz8 fun c o c1 c2 c3 c4 e => up c o c1 (hk₅ c o c1 c2 c3 c4 e)
theorem next_endT {z TI TO i1 i2 l1 l2 : Addr} {k1 k2 : Nat} {xs ys : Array Value} {a b : Value} {Q : Fin → Shared → Prop} (hh : A.handled = none) (D : ZipApart z TI TO i1 i2 l1 l2)
    (hz : IsZipS s.heap z TI TO .none) (hTI : IsPair s.heap TI (.ref i1) (.ref i2)) (hTO : IsPair s.heap TO a b)
    (h1 : s.heap.IsListIter i1 l1 k1) (h2 : s.heap.IsTupleIter i2 l2 k2) (hl1 : s.heap.IsList l1 xs) (hl2 : s.heap.IsTuple l2 ys) (hx : xs[k1]? = none) (hy : ys[k2]? = none)
    (hE : ∀ h' e, (∀ c o, c ≠ z → c ≠ TO → c ≠ i1 → c ≠ i2 → s.heap.get? c = some o → h'.get? c = some o) → (∃ o, h'.get? e = some o ∧ o.cls = .type "StopIteration") → E (.ref e) { s with heap := h' }) :
    wpAny (model prog w) A (Builtin.«zip.__next__» ⟨[.ref z], []⟩) Q E s := by
  show wpAny _ _ (field (.ref z) 2 >>= _) _ _ _
  refine wpAny_bind (wpAny_field hz rfl (x := .bool true) rfl ?_)
  show wpAny _ _ (field (.ref z) 3 >>= _) _ _ _
  refine wpAny_bind (wpAny_field hz rfl (x := .ref TI) rfl ?_)
  refine wpAny_bind (wpAny_seqItems hTI rfl ?_)
  show wpAny _ _ (Builtin.SmallTypes.ownedTupleIsFree (.ref z) >>= _) _ _ _
  refine wpAny_bind ?_
  unfold Builtin.SmallTypes.ownedTupleIsFree
  refine wpAny_bind (wpAny_field hz rfl (x := .none) rfl (wpAny_pure ?_))
  simp only [if_true]
  refine wpAny_bind (wpAny_rule ?_)
  refine wpAny_bind (wpAny_field hz rfl (x := .ref TO) rfl ?_)
  refine wpAny_bind (wpAny_setField_rec hz (by simp) fun h₁ hz₁ hs₁ => ?_)
  replace hz₁ : IsZipS h₁ z TI TO .ellipsis := hz₁
  refine wpAny_bind ?_
  simp only [List.zipIdx_cons, List.zipIdx_nil, List.forIn_cons, List.forIn_nil]
  refine wpAny_bind (wpAny_bind (wpAny_onRaise ?_))
  show wpAny _ _ (Builtin.SmallTypes.nextOrEnd (.ref i1)) _ _ _
  refine draw_end hh (h1.extBut hs₁.extBut D.i1z) (hl1.extBut hs₁.extBut D.l1z) hx fun h₂ hs₂ => ?_
  have hz₂ : IsZipS h₂ z TI TO .ellipsis := hs₂ _ _ D.i1z.symm hz₁
  have hTO₂ : h₂.get? TO = some _ := hs₂ _ _ D.TOi1 (hs₁.extBut _ _ D.TOz hTO)
  refine wpAny_bind (wpAny_setField_rec hz₂ (by simp) fun h₃ hz₃ hs₃ => wpAny_bind ?_)
  have g2 : h₃.IsTupleIter i2 l2 k2 := ((h2.extBut hs₁.extBut D.i2z).extBut hs₂ D.i12.symm).extBut hs₃.extBut D.i2z
  have gl2 : h₃.IsTuple l2 ys := ((hl2.extBut hs₁.extBut D.l2z).extBut hs₂ D.l2i1).extBut hs₃.extBut D.l2z
  refine wpAny_bind (m := forIn ([(Value.ref i2, 1)] : List (Value × Nat)) PUnit.unit _) ?_
  simp only [List.forIn_cons, List.forIn_nil]
  refine wpAny_bind (wpAny_bind (draw_endT hh g2 gl2 hy fun h₄ hs₄ => ?_))
  refine wpAny_pure (wpAny_pure ?_)
  refine wpAny_bind (wpAny_rule ?_)
  refine stop_it hh fun h₅ e hk he => hE h₅ e (fun c o c1 c2 c3 c4 x => hk c o (hs₄ _ _ c4 (hs₃.extBut _ _ c1 (hs₂ _ _ c3 (hs₁.extBut _ _ c1 x))))) he
theorem py_itemT {z TI TO i1 i2 l1 l2 : Addr} {k1 k2 : Nat} {xs ys : Array Value} {x y a b : Value} {Q : Option Value → Shared → Prop} (D : ZipApart z TI TO i1 i2 l1 l2)
    (hz : IsZipS s.heap z TI TO .none) (hTI : IsPair s.heap TI (.ref i1) (.ref i2)) (hTO : IsPair s.heap TO a b)
    (h1 : s.heap.IsListIter i1 l1 k1) (h2 : s.heap.IsTupleIter i2 l2 k2) (hl1 : s.heap.IsList l1 xs) (hl2 : s.heap.IsTuple l2 ys) (hx : xs[k1]? = some x) (hy : ys[k2]? = some y)
    (q : ∀ h', IsZipS h' z TI TO (rawInt s.heap.objs.size) → IsPair h' TO x y → h'.IsListIter i1 l1 (k1 + 1) → h'.IsTupleIter i2 l2 (k2 + 1) → IsPair h' s.heap.objs.size x y → h'.objs.size = s.heap.objs.size + 1 →
      (∀ c o, c ≠ z → c ≠ TO → c ≠ i1 → c ≠ i2 → s.heap.get? c = some o → h'.get? c = some o) → Q (some (.ref s.heap.objs.size)) { s with heap := h' }) :
    wpAny (model prog w) A (pyNext (.ref z)) Q E s := by
  have t : s.TypeIs (.ref z) "zip" := ⟨_, hz, rfl⟩
  unfold pyNext
  refine wpAny_bind (wpAny_attempt (wpAny_callSpecial?_slot (name := Str.ofString "__next__") t F.slot_zip_next ?_))
  exact wpAny_call_entry F.slot_zip_next t F.entry_zip_next (next_itemT D hz hTI hTO h1 h2 hl1 hl2 hx hy fun h' a1 a2 a3 a4 a5 a6 a7 => wpAny_pure (q h' a1 a2 a3 a4 a5 a6 a7)) (F.args_zip_next_1 _)
theorem py_endT {z TI TO i1 i2 l1 l2 : Addr} {k1 k2 : Nat} {xs ys : Array Value} {a b : Value} {Q : Option Value → Shared → Prop} (hh : A.handled = none) (D : ZipApart z TI TO i1 i2 l1 l2)
    (hz : IsZipS s.heap z TI TO .none) (hTI : IsPair s.heap TI (.ref i1) (.ref i2)) (hTO : IsPair s.heap TO a b)
    (h1 : s.heap.IsListIter i1 l1 k1) (h2 : s.heap.IsTupleIter i2 l2 k2) (hl1 : s.heap.IsList l1 xs) (hl2 : s.heap.IsTuple l2 ys) (hx : xs[k1]? = none) (hy : ys[k2]? = none)
    (q : ∀ h', (∀ c o, c ≠ z → c ≠ TO → c ≠ i1 → c ≠ i2 → s.heap.get? c = some o → h'.get? c = some o) → Q none { s with heap := h' }) : wpAny (model prog w) A (pyNext (.ref z)) Q E s := by
  have t : s.TypeIs (.ref z) "zip" := ⟨_, hz, rfl⟩
  unfold pyNext
  refine wpAny_bind (wpAny_attempt (wpAny_callSpecial?_slot (name := Str.ofString "__next__") t F.slot_zip_next ?_))
  refine wpAny_call_entry F.slot_zip_next t F.entry_zip_next (next_endT hh D hz hTI hTO h1 h2 hl1 hl2 hx hy fun h' e hk he => ?_) (F.args_zip_next_1 _)
  obtain ⟨o, ho, hc⟩ := he
  exact wpAny_bind (wpAny_isInstance (T := "StopIteration") (b := true) ⟨o, ho, hc⟩ isSubtype_stop (wpAny_pure (q _ hk)))
theorem call_zipsT {l1 l2 : Addr} {xs ys : Array Value} {Q : Value → Shared → Prop} (hl1 : s.heap.IsList l1 xs) (hl2 : s.heap.IsTuple l2 ys)
    (h : ∀ h', IsZipS h' (s.heap.objs.size + 4) (s.heap.objs.size + 2) (s.heap.objs.size + 3) .none → IsPair h' (s.heap.objs.size + 2) (.ref s.heap.objs.size) (.ref (s.heap.objs.size + 1)) →
      IsPair h' (s.heap.objs.size + 3) .none .none → h'.IsListIter s.heap.objs.size l1 0 → h'.IsTupleIter (s.heap.objs.size + 1) l2 0 → (∀ c o, s.heap.get? c = some o → h'.get? c = some o) → Q (.ref (s.heap.objs.size + 4)) { s with heap := h' }) :
    wpAny (model prog w) A (call (.type "zip") [.ref l1, .ref l2] sk) Q E s := by
  have z1 : (zipH1 s.heap l1).objs.size = s.heap.objs.size + 1 := Heap.size_push ..
  have z2 : (tH2 s.heap l1 l2).objs.size = s.heap.objs.size + 2 := by rw [Heap.size_push, z1]
  have z3 : (tH3 s.heap l1 l2).objs.size = s.heap.objs.size + 3 := by rw [Heap.size_push, z2]
  have z4 : (tH4 s.heap l1 l2).objs.size = s.heap.objs.size + 4 := by rw [Heap.size_push, z3]
  have up : ∀ c o, s.heap.get? c = some o → (tH5 s.heap l1 l2).get? c = some o := fun c o x =>
    Heap.get?_push_of_some _ (Heap.get?_push_of_some _ (Heap.get?_push_of_some _ (Heap.get?_push_of_some _ (Heap.get?_push_of_some _ x))))
  have g5 : (tH5 s.heap l1 l2).get? (tH4 s.heap l1 l2).objs.size = some _ := Heap.get?_push_size _ rfl
  have g4 : (tH5 s.heap l1 l2).get? (tH3 s.heap l1 l2).objs.size = some _ := Heap.get?_push_of_some _ (Heap.get?_push_size _ rfl)
  have g3 : (tH5 s.heap l1 l2).get? (tH2 s.heap l1 l2).objs.size = some _ := Heap.get?_push_of_some _ (Heap.get?_push_of_some _ (Heap.get?_push_size _ rfl))
  have g2 : (tH5 s.heap l1 l2).get? (zipH1 s.heap l1).objs.size = some _ := Heap.get?_push_of_some _ (Heap.get?_push_of_some _ (Heap.get?_push_of_some _ (Heap.get?_push_size _ rfl)))
  have g1 : (tH5 s.heap l1 l2).get? s.heap.objs.size = some _ := Heap.get?_push_of_some _ (Heap.get?_push_of_some _ (Heap.get?_push_of_some _ (Heap.get?_push_of_some _ (Heap.get?_push_size _ rfl))))
  refine callT_kw F.called_zip (tCall _ _) (nCall _ _) F.entry_zip_new F.entry_object_init (new_meetsT l1 l2 xs ys) (Q₁ := fun obj s₁ => s₁.TypeIs obj "zip" ∧ Q obj s₁) ⟨hl1, hl2, ?_⟩ fun obj _ hq =>
    ⟨hq.1, args_init obj _ _, _, init_kw F.called_zip.init.lookup F.called_zip.made (by decide), hq.1, rfl, hq.2⟩
  show _ ∧ _
  rw [z2, z3, z4] at g5
  rw [z1, z2] at g3
  rw [z3] at g4
  rw [z1] at g2
  rw [z4]
  exact ⟨⟨_, g5, rfl⟩, h _ g5 g3 g4 ⟨_, g1, rfl, rfl⟩ ⟨_, g2, rfl, rfl⟩ up⟩
end
open L2
/-- a list and a tuple of one length, pair by pair -/
def ItzX (K : PySem.W.Frag) (a b : Addr) : It :=
  ⟨fun i H => ∃ (xs ys : List V) (x y : V), SqL K H a xs ∧ SqT K H b ys ∧ xs[i]? = some x ∧ ys[i]? = some y,
    fun i H v H' => ∃ T x y, v = .ref T ∧ H T = none ∧ H' = upd H T (.tup [x, y]) ∧ (∀ xs, SqL K H a xs → xs[i]? = some x) ∧ ∀ ys, SqT K H b ys → ys[i]? = some y,
    fun i H => ∃ xs ys : List V, SqL K H a xs ∧ SqT K H b ys ∧ xs.length ≤ i ∧ ys.length ≤ i⟩
theorem turn_zipsT {P : Program} {w : World} {K : PySem.W.Frag} {elts : List Expr} {kk : Nat} {tpos : Pos} {a b z TI TO i1 i2 : Addr} (D : ZipApart z TI TO i1 i2 a b) :
    Turn P w K (.Tuple elts kk tpos) (ItzX K a b) [z, TI, TO, i1, i2] z (fun i h => IsZipS h z TI TO .none ∧ IsPair h TI (.ref i1) (.ref i2) ∧ (∃ x y, IsPair h TO x y) ∧ h.IsListIter i1 a i ∧ h.IsTupleIter i2 b i) where
  mem := by simp
  obj := fun i h st c hc => by
    obtain ⟨hz, hTI, ⟨x, y, hTO⟩, ⟨o1, e1, _, d1⟩, ⟨o2, e2, _, d2⟩⟩ := st
    have e' : c = z ∨ c = TI ∨ c = TO ∨ c = i1 ∨ c = i2 := by simpa using hc
    rcases e' with rfl | rfl | rfl | rfl | rfl
    · exact ⟨_, hz, fun v q => nomatch q⟩
    · exact ⟨_, hTI, fun v q => nomatch q⟩
    · exact ⟨_, hTO, fun v q => nomatch q⟩
    · exact ⟨o1, e1, fun v q => by rw [d1] at q; cases q⟩
    · exact ⟨o2, e2, fun v q => by rw [d2] at q; cases q⟩
  keep := fun i h h' st k => by
    obtain ⟨hz, hTI, ⟨x, y, hTO⟩, h1, h2⟩ := st
    exact ⟨k z (by simp) _ hz, k TI (by simp) _ hTI, ⟨x, y, k TO (by simp) _ hTO⟩, h1.at fun o q => k i1 (by simp) o q, iter_at h2 fun o q => k i2 (by simp) o q⟩
  item := by
    intro X hP hw hK hc i pins s σ H E I hf st hg
    subst hP hw hK
    obtain ⟨hz, hTI, ⟨x0, y0, hTO⟩, h1, h2⟩ := st
    obtain ⟨xs, ys, x, y, hqx, hqy, hx, hy⟩ := hg
    obtain ⟨its, rv, p, _⟩ := I.list hqx
    obtain ⟨its2, rv2, p2, _⟩ := I.tuple hqy
    obtain ⟨u, hu, ru⟩ := rv.get hx
    obtain ⟨u2, hu2, ru2⟩ := rv2.get hy
    have hzl : z < s.heap.objs.size := Heap.lt_size hz
    refine py_itemT D hz hTI hTO h1 h2 p.isList p2 (x := u) (y := u2) (by simpa using hu) (by simpa using hu2) fun h' z' TO' h1' h2' hT hsz hk => ?_
    refine ⟨_, rfl, own_go (s := { s with heap := h' }) z' fun h'' z'' sb => ?_⟩
    have hT2 : h''.get? s.heap.objs.size = some { cls := .type "tuple", data := .seq #[u, u2] } := (sb.2 _ (Nat.ne_of_gt hzl)).trans hT
    have new : ObjOk X.prog X.w (upd H s.heap.objs.size (.tup [x, y])) h'' s.heap.objs.size (.tup [x, y]) :=
      ⟨by show 2 ≤ sizeLine; decide, [u, u2], .cons ru (.cons ru2 .nil), ⟨_, hT2, rfl, _, rfl⟩⟩
    have I1 : Inv X pins σ (upd H s.heap.objs.size (.tup [x, y])) { s with heap := h'' } :=
      I.turnedNew (t' := s.toks) (ch := [z, TI, TO, i1, i2]) (fun c o hb q => (sb.2 c (fun q' => hb (by simp [q']))).trans (hk c o (fun q' => hb (by simp [q'])) (fun q' => hb (by simp [q'])) (fun q' => hb (by simp [q'])) (fun q' => hb (by simp [q'])) q)) hf (Nat.le_refl _) new
    refine ⟨.ref s.heap.objs.size, _, I1, rfl, ⟨_, x, y, rfl, I.hok.fresh (Nat.le_refl _), rfl, fun l hl => by rw [I.list_inj hl hqx]; exact hx, fun l hl => by rw [I.tuple_inj hl hqy]; exact hy⟩, ⟨z'', ?_, ⟨u, u2, ?_⟩, ?_, ?_⟩, fun c hcm => ?_⟩
    · exact (sb.2 _ D.TIz).trans (hk _ _ D.TIz D.TITO D.TIi1 D.TIi2 hTI)
    · exact (sb.2 _ D.TOz).trans TO'
    · exact h1'.at fun o q => (sb.2 _ D.i1z).trans q
    · exact iter_at h2' fun o q => (sb.2 _ D.i2z).trans q
    · have hlt : c < s.heap.objs.size := by
        have e' : c = z ∨ c = TI ∨ c = TO ∨ c = i1 ∨ c = i2 := by simpa using hcm
        rcases e' with rfl | rfl | rfl | rfl | rfl
        · exact hzl
        · exact Heap.lt_size hTI
        · exact Heap.lt_size hTO
        · obtain ⟨_, e1, _⟩ := h1; exact Heap.lt_size e1
        · obtain ⟨_, e2, _⟩ := h2; exact Heap.lt_size e2
      rw [upd_ne (Nat.ne_of_lt hlt)]
      exact (hf c hcm).1
  done := by
    intro X hP hw hK hc i pins s σ H E I hf st hg
    subst hP hw hK
    obtain ⟨hz, hTI, ⟨x0, y0, hTO⟩, h1, h2⟩ := st
    obtain ⟨xs, ys, hqx, hqy, e1, e2⟩ := hg
    obtain ⟨its, rv, p, _⟩ := I.list hqx
    obtain ⟨its2, rv2, p2, _⟩ := I.tuple hqy
    have l1 := rv.length
    have l2 := rv2.length
    exact py_endT (I.ok.hd hc) D hz hTI hTO h1 h2 p.isList p2 (by simp; omega) (by simp; omega) fun h' hk => ⟨rfl, I.turnedL (t' := s.toks) (ch := [z, TI, TO, i1, i2]) (fun c o hb q =>
      hk c o (fun q' => hb (by simp [q'])) (fun q' => hb (by simp [q'])) (fun q' => hb (by simp [q'])) (fun q' => hb (by simp [q'])) q) hf⟩
  self := fun A i s Q E st h => py_iter st.1 h
def iZipX (K : PySem.W.Frag) (ta : TA) : TI := fun σ H R => ta σ H fun vs H1 => ∃ a b xs ys, vs = [.ref a, .ref b] ∧ SqL K H1 a xs ∧ SqT K H1 b ys ∧ R (ItzX K a b) H1
theorem pi_zipsT {X : Cx} {e e2 : Expr} {ta : TA} {p pos tpos cp kp : Pos} {elts : List Expr} {kk u : Nat} (hg : Gl X "zip") (hm : X.mg "zip" = none) (ha : PA X [e, e2] ta)
    (hs : starEach [e, e2] X.env = (false, eval e X.env) :: starEach [e2] X.env) (hpl : (backTo pos (starEach [e2] X.env)).any (·.1) = false) :
    PI X (.Tuple elts kk tpos) (.Call (.Name "zip" p) [e, e2] [⟨some "strict", .Constant (.bool true) u cp, kp⟩] pos) (iZipX X.K ta) := by
  refine ⟨fun pins s σ H R I h => ?_⟩
  refine wpAny_Call_Name_kw (ld_blt I hg hm PyProof.Rows.boot_zip ?_)
  have hb : backTo pos (starEach [e, e2] X.env) = (false, eval e X.env) :: backTo pos (starEach [e2] X.env) := by
    rw [hs]
    rfl
  refine withT_kw (by rw [hb]; simpa using hpl) rfl ?_
  rw [hb]
  refine PyProof.Rows.evalArgs_kwB rfl ?_
  rw [← hb]
  refine thn (ha.run pos pins s σ H _ I h) fun us s1 ⟨vs, H1, I1, r1, q1⟩ => ?_
  obtain ⟨a, b, xs, ys, ex, hqx, hqy, q⟩ := q1
  subst ex
  refine thn ((pk_cons (X := X) (nm := some ("strict" : Str)) (kpos := kp) (pe_bl (X := X) (b := true)) pk_nil).run pos pins s1 σ H1 (fun zs H2 => zs = [.bl true] ∧ H2 = H1) I1 ⟨rfl, rfl⟩) fun ws s2 ⟨zs, H2, I2, r2, ez, eH⟩ => ?_
  subst ez eH
  cases r2 with
  | cons r2 rr =>
    cases rr
    cases r2
    cases r1 with
    | cons r rr =>
      cases rr with
      | cons r' rr =>
        cases rr
        cases r
        cases r'
        obtain ⟨its, rv, p1, _⟩ := I2.list hqx
        obtain ⟨its2, rv2, p2, _⟩ := I2.tuple hqy
        refine call_zipsT p1.isList p2 fun h' hz hTI hTO h1 h2 hk => py_iter hz ?_
        have I3 : Inv X pins σ _ { s2 with heap := h' } := I2.kept (t' := s2.toks) hk
        refine ⟨s2.heap.objs.size + 4, [s2.heap.objs.size + 4, s2.heap.objs.size + 2, s2.heap.objs.size + 3, s2.heap.objs.size, s2.heap.objs.size + 1], _, _, _, rfl, I3, turn_zipsT (PySem.W.ktu_apart s2.heap.objs.size a b p1.lt p2.lt), ⟨hz, hTI, ⟨_, _, hTO⟩, h1, h2⟩, fun c hcm => ?_, q⟩
        have hle : s2.heap.objs.size ≤ c := by
          have e' : c = s2.heap.objs.size + 4 ∨ c = s2.heap.objs.size + 2 ∨ c = s2.heap.objs.size + 3 ∨ c = s2.heap.objs.size ∨ c = s2.heap.objs.size + 1 := by simpa using hcm
          rcases e' with z | z | z | z | z <;> rw [z]
          · exact Nat.le_add_right _ _
          · exact Nat.le_add_right _ _
          · exact Nat.le_add_right _ _
          · exact Nat.le_refl _
          · exact Nat.le_add_right _ _
        exact I2.fpOk hle (I2.hok.fresh hle)
end MiZ
end
section
namespace Mi
open PySem PySem.Spec PyProof.Rows L2
/-! ### does the text say it? -/
structure Cg where
  Gt : Nat → Option Fn
  gl : List (Str × D)
  bf : List (Str × String)
mutual
def sameD : D → D → Bool
  | .none, .none => true
  | .bool a, .bool b => a == b
  | .int a, .int b => a == b
  | .str a, .str b => decide (a = b)
  | .list a, .list b => sameDs a b
  | .tuple a, .tuple b => sameDs a b
  | _, _ => false
def sameDs : List D → List D → Bool
  | [], [] => true
  | a :: r, b :: t => sameD a b && sameDs r t
  | _, _ => false
end
mutual
theorem sameD_eq : ∀ {a b : D}, sameD a b = true → a = b
  | .none, b, h => by cases b <;> first | rfl | (simp [sameD] at h)
  | .bool a, b, h => by cases b <;> first | (simp [sameD] at h; done) | (simp [sameD] at h; rw [h])
  | .int a, b, h => by cases b <;> first | (simp [sameD] at h; done) | (simp [sameD] at h; rw [h])
  | .str a, b, h => by cases b <;> first | (simp [sameD] at h; done) | (simp [sameD] at h; rw [h])
  | .list a, b, h => by
    cases b <;> first | (simp [sameD] at h; done) | (simp only [sameD] at h; rw [sameDs_eq h])
  | .tuple a, b, h => by
    cases b <;> first | (simp [sameD] at h; done) | (simp only [sameD] at h; rw [sameDs_eq h])
  | .dict a, b, h => by cases b <;> simp [sameD] at h
theorem sameDs_eq : ∀ {a b : List D}, sameDs a b = true → a = b
  | [], b, h => by cases b <;> first | rfl | (simp [sameDs] at h)
  | a :: r, b, h => by
    cases b with
    | nil => simp [sameDs] at h
    | cons c t =>
      simp only [sameDs, Bool.and_eq_true] at h
      rw [sameD_eq h.1, sameDs_eq h.2]
end
def conB : D → Const → Bool
  | .none, .none => true
  | .bool a, .bool b => a == b
  | .int a, .int b => a == b
  | .str a, .str b => decide (a = b)
  | _, _ => false
def refsS : As → List Nat
  | .nil => []
  | .ref i r => i :: refsS r
  | .val _ r => refsS r
def mNm : M → Str
  | .app => "append"
  | .pop => "pop"
  | .popAt => "pop"
  | .rem => "remove"
def isVal1 : As → Bool
  | .val _ .nil => true
  | _ => false
def chkN (N : List Str) (sc : Scope) (i : Nat) (x : Str) : Bool := decide (N[i]? = some x) && vis sc x && nmOk x
def chkGs (N : List Str) (st : Str → Bool) : List Nat → List Expr → Bool
  | [], [] => true
  | i :: r, .Name x _ :: t => decide (N[i]? = some x) && st x && chkGs N st r t
  | _, _ => false
def chkGn (N : List Str) (st : Str → Bool) : List (Nat ⊕ List Nat) → List Expr → Bool
  | [], [] => true
  | .inl i :: r, .Name x _ :: t => decide (N[i]? = some x) && st x && chkGn N st r t
  | .inr m :: r, .Tuple es _ _ :: t => chkGs N st m es && chkGn N st r t
  | _, _ => false
def chkG (N : List Str) (st : Str → Bool) : G → Expr → Bool
  | .nm i, .Name x _ => decide (N[i]? = some x) && st x
  | .tp l, .Tuple es _ _ => chkGs N st l es
  | .tn l, .Tuple es _ _ => chkGn N st l es
  | _, _ => false
def ginB : G → List Nat → Bool
  | .nm i, vs => decide (i ∈ vs)
  | .tp l, vs => l.all fun i => decide (i ∈ vs)
  | .tn l, vs => (gnames l).all fun i => decide (i ∈ vs)
def ownP (N : List Str) (own : List Nat) : List (Str × Nat) := own.map fun i => (N.getD i Str.empty, i)
def isTup : Expr → Bool
  | .Tuple _ _ _ => true
  | _ => false
def stOf (scope : Scope) : Str → Bool := fun x => match scope.names.lookup x with
  | some .local => true
  | some .cell => true
  | _ => false
def cmpE (p : P) : Expr → Option (Expr × Expr)
  | .Compare a [op] [b] _ => if cmpOf p = some op then some (a, b) else none
  | _ => none
/-- a call of a name that the module has not bound -/
def nmCall (f : Str) (sc : Scope) : Expr → Option (List Expr)
  | .Call (.Name r _) es [] _ => if r = f ∧ glb sc r = true then some es else none
  | _ => none
def zipsCall (sc : Scope) : Expr → Option (Expr × Expr)
  | .Call (.Name r _) [x, y] [⟨some s, .Constant (.bool true) _ _, _⟩] _ => if r = "zip" ∧ s = "strict" ∧ glb sc r = true then some (x, y) else none
  | _ => none
def isTT : T → Bool
  | .tt => true
  | _ => false
def lcbP : Expr → Option (Expr × Expr × Str × List Expr × Scope)
  | .ListComp y [⟨tg, .Name x _, ifs, 0⟩] scope _ => some (y, tg, x, ifs, scope)
  | _ => none
theorem lcbP_of {z y tg : Expr} {x : Str} {ifs : List Expr} {scope : Scope} (h : lcbP z = some (y, tg, x, ifs, scope)) : ∃ p q, z = .ListComp y [⟨tg, .Name x q, ifs, 0⟩] scope p := by
  unfold lcbP at h
  split at h
  · cases h
    exact ⟨_, _, rfl⟩
  · cases h
def lc2P : Expr → Option (Expr × (Expr × Expr × List Expr) × (Expr × Expr × List Expr) × Scope)
  | .ListComp y [⟨tg, iter, ifs, 0⟩, ⟨tg1, iter1, ifs1, 0⟩] scope _ => some (y, (tg, iter, ifs), (tg1, iter1, ifs1), scope)
  | _ => none
theorem lc2P_of {x y tg iter tg1 iter1 : Expr} {ifs ifs1 : List Expr} {scope : Scope} (h : lc2P x = some (y, (tg, iter, ifs), (tg1, iter1, ifs1), scope)) : ∃ p, x = .ListComp y [⟨tg, iter, ifs, 0⟩, ⟨tg1, iter1, ifs1, 0⟩] scope p := by
  unfold lc2P at h
  split at h
  · cases h
    exact ⟨_, rfl⟩
  · cases h
def dcP : Expr → Option (Expr × Expr × Expr × Expr × List Expr × Scope)
  | .DictComp k v [⟨tg, iter, ifs, 0⟩] scope _ => some (k, v, tg, iter, ifs, scope)
  | _ => none
theorem dcP_of {z k v tg iter : Expr} {ifs : List Expr} {scope : Scope} (h : dcP z = some (k, v, tg, iter, ifs, scope)) : ∃ p, z = .DictComp k v [⟨tg, iter, ifs, 0⟩] scope p := by
  unfold dcP at h
  split at h
  · cases h
    exact ⟨_, rfl⟩
  · cases h
def dckP : Expr → Option (Expr × Expr × Expr × Str × List Expr × Scope)
  | .DictComp k v [⟨tg, .Name x _, ifs, 0⟩] scope _ => some (k, v, tg, x, ifs, scope)
  | _ => none
theorem dckP_of {z k v tg : Expr} {x : Str} {ifs : List Expr} {scope : Scope} (h : dckP z = some (k, v, tg, x, ifs, scope)) : ∃ p q, z = .DictComp k v [⟨tg, .Name x q, ifs, 0⟩] scope p := by
  unfold dckP at h
  split at h
  · cases h
    exact ⟨_, _, rfl⟩
  · cases h
def repP : Expr → Option (List Expr × Int)
  | .BinOp (.List es _) .Mult (.Constant (.int m) _ _) _ => some (es, m)
  | _ => none
theorem repP_of {x : Expr} {es : List Expr} {m : Int} (h : repP x = some (es, m)) : ∃ p1 u p2 p3, x = .BinOp (.List es p1) .Mult (.Constant (.int m) u p2) p3 := by
  unfold repP at h
  split at h
  · cases h
    exact ⟨_, _, _, _, rfl⟩
  · cases h
mutual
def chkE (c : Cg) (N : List Str) : E → Scope → (Str → Bool) → Expr → Bool
  | .var i, sc, _, .Name x _ => chkN N sc i x
  | .mv i, sc, _, .Name x _ => chkN N sc i x
  | .con d, _, _, .Constant k _ _ => conB d k
  | .glob y d, sc, _, .Name x _ => decide (y = x) && glb sc x && c.gl.any fun p => decide (p.1 = x) && sameD p.2 d
  | .prim p as, sc, st, x => (decide (p ≠ .gcd) || decide ((("gcd", "math.gcd") : Str × String) ∈ c.bf)) && okX x && match argsOf sc p x with
    | some es => chkA c N as sc st es
    | none => false
  | .tup as, sc, st, .Tuple es _ _ => chkA c N as sc st es
  | .lst as, sc, st, .List es _ => chkA c N as sc st es
  | .call f as, sc, st, .Call (.Name x _) es [] _ => (match c.Gt f with
    | some fn => decide (fn.nm = x)
    | none => false) && glb sc x && decide (refsS as).Nodup && chkA c N as sc st es
  | .mut m i as, sc, st, .Call (.Attribute (.Name x _) a p1) es [] p2 => chkN N sc i x && decide (a = mNm m) && (p1.endLine == p2.line) && (match m with
    | .app => isVal1 as
    | .pop => es.isEmpty
    | .popAt => decide (es.length = 1)
    | .rem => decide (es.length = 1)) && chkA c N as sc st es
  | .nev, _, _, x => okX x
  | .rep as n, sc, st, x => match repP x with
    | some (es, m) => decide (m = n) && chkA c N as sc st es
    | none => false
  | .idx i e, sc, st, .Call (.Attribute (.Name x _) a p1) [y] [] p2 => chkN N sc i x && decide (a = "index") && (p1.endLine == p2.line) && chkE c N e sc st y
  | .ext i e, sc, st, .Call (.Attribute (.Name x _) a p1) [y] [] p2 => chkN N sc i x && decide (a = "extend") && (p1.endLine == p2.line) && chkE c N e sc st y
  | .and a b, sc, st, .BoolOp .And (x :: y :: r) p => chkE c N a sc st x && match r with
    | [] => chkE c N b sc st y
    | z :: t => chkE c N b sc st (.BoolOp .And (y :: z :: t) p)
  | .or a b, sc, st, .BoolOp .Or (x :: y :: r) p => chkE c N a sc st x && match r with
    | [] => chkE c N b sc st y
    | z :: t => chkE c N b sc st (.BoolOp .Or (y :: z :: t) p)
  | .not a, sc, st, .UnaryOp .Not x _ => chkE c N a sc st x
  | .ife t a b, sc, st, .IfExp x y z _ => chkT c N t sc st x && chkE c N a sc st y && chkE c N b sc st z
  | .lc it own g t e, sc, st, .ListComp y [⟨tg, iter, ifs, z⟩] scope _ => decide (z = 0) && okX iter && chkI c N it sc st tg iter && blkC N sc scope (ownP N own) && ginB g own && chkG N (stOf scope) g tg && (match ifs with
    | [] => (match t with
      | .tt => true
      | _ => false)
    | [u] => chkT c N t (relS scope sc) (stOf scope) u
    | _ => false) && chkE c N e (relS scope sc) (stOf scope) y
  | .lcb i own g t e, sc, st, x => match lcbP x with
    | some (y, tg, x, ifs, scope) => chkN N sc i x && blkC N sc scope (ownP N own) && ginB g own && chkG N (stOf scope) g tg && (match ifs with
      | [] => isTT t
      | [u] => chkT c N t (relS scope sc) (stOf scope) u
      | _ => false) && chkE c N e (relS scope sc) (stOf scope) y
    | none => false
  | .lck i own g t e, sc, st, x => match lcbP x with
    | some (y, tg, x, ifs, scope) => chkN N sc i x && blkC N sc scope (ownP N own) && ginB g own && chkG N (stOf scope) g tg && (match ifs with
      | [] => isTT t
      | [u] => chkT c N t (relS scope sc) (stOf scope) u
      | _ => false) && chkE c N e (relS scope sc) (stOf scope) y
    | none => false
  | .dc it own g t k v, sc, st, x => match dcP x with
    | some (kx, vx, tg, iter, ifs, scope) => okX iter && chkI c N it sc st tg iter && blkC N sc scope (ownP N own) && ginB g own && chkG N (stOf scope) g tg && (match ifs with
      | [] => isTT t
      | [u] => chkT c N t (relS scope sc) (stOf scope) u
      | _ => false) && chkE c N k (relS scope sc) (stOf scope) kx && chkE c N v (relS scope sc) (stOf scope) vx
    | none => false
  | .dck i own g t k v, sc, st, x => match dckP x with
    | some (kx, vx, tg, y, ifs, scope) => chkN N sc i y && blkC N sc scope (ownP N own) && ginB g own && chkG N (stOf scope) g tg && (match ifs with
      | [] => isTT t
      | [u] => chkT c N t (relS scope sc) (stOf scope) u
      | _ => false) && chkE c N k (relS scope sc) (stOf scope) kx && chkE c N v (relS scope sc) (stOf scope) vx
    | none => false
  | .lc2 it own g t it1 own1 g1 t1 e, sc, st, x => match lc2P x with
    | some (y, (tg, iter, ifs), (tg1, iter1, ifs1), scope) => okX iter && okX iter1 && chkI c N it sc st tg iter && blkC N sc scope (ownP N own) && ginB g own && ginB g1 own1 && own1.all (fun i => decide (i ∈ own)) && chkG N (stOf scope) g tg && chkG N (stOf scope) g1 tg1 && (match ifs with
      | [] => isTT t
      | [u] => chkT c N t (relS scope sc) (stOf scope) u
      | _ => false) && chkI c N it1 (relS scope sc) (stOf scope) tg1 iter1 && (match ifs1 with
      | [] => isTT t1
      | [u] => chkT c N t1 (relS scope sc) (stOf scope) u
      | _ => false) && chkE c N e (relS scope sc) (stOf scope) y
    | none => false
  | _, _, _, _ => false
def chkA (c : Cg) (N : List Str) : As → Scope → (Str → Bool) → List Expr → Bool
  | .nil, _, _, [] => true
  | .ref i r, sc, st, .Name x _ :: es => chkN N sc i x && chkA c N r sc st es
  | .val e r, sc, st, x :: es => chkE c N e sc st x && chkA c N r sc st es
  | _, _, _, _ => false
def chkT (c : Cg) (N : List Str) : T → Scope → (Str → Bool) → Expr → Bool
  | .val e, sc, st, x => plainT x && chkE c N e sc st x
  | .cmp p as, sc, st, x => match cmpE p x with
    | some (a, b) => chkA c N as sc st [a, b]
    | none => false
  | .tru e, sc, st, x => plainT x && chkE c N e sc st x
  | .and a b, sc, st, .BoolOp .And (x :: y :: r) p => chkT c N a sc st x && match r with
    | [] => chkT c N b sc st y
    | z :: t => chkT c N b sc st (.BoolOp .And (y :: z :: t) p)
  | .or a b, sc, st, .BoolOp .Or (x :: y :: r) p => chkT c N a sc st x && match r with
    | [] => chkT c N b sc st y
    | z :: t => chkT c N b sc st (.BoolOp .Or (y :: z :: t) p)
  | .not a, sc, st, .UnaryOp .Not x _ => chkT c N a sc st x
  | _, _, _, _ => false
def chkI (c : Cg) (N : List Str) : I → Scope → (Str → Bool) → Expr → Expr → Bool
  | .seq e, sc, st, _, x => chkE c N e sc st x
  | .rng1 a, sc, st, _, x => match nmCall "range" sc x with
    | some [x] => chkE c N a sc st x
    | _ => false
  | .rng2 a b, sc, st, _, x => match nmCall "range" sc x with
    | some [x, y] => chkE c N a sc st x && chkE c N b sc st y
    | _ => false
  | .enum a, sc, st, tg, x => isTup tg && match nmCall "enumerate" sc x with
    | some [x] => chkE c N a sc st x
    | _ => false
  | .zip a b, sc, st, tg, x => isTup tg && match nmCall "zip" sc x with
    | some [x, y] => chkE c N a sc st x && chkE c N b sc st y
    | _ => false
  | .zips a b, sc, st, tg, x => isTup tg && match zipsCall sc x with
    | some (x, y) => chkE c N a sc st x && chkE c N b sc st y
    | none => false
end
end Mi
end
section
namespace Mi
open PySem PySem.Spec PyProof.Rows L2
section
variable {K : PySem.W.Frag} {Z H Z' H' Z0 Z1 H1 : Hp} {ρ ρ' ρ1 : Ev} {σ σ' : L2.St} {Fs Fs' Fc : Nat → Fp} {A A' : Fp}
theorem enumF_len : ∀ {ds : List D} {n : Nat}, (enumF n ds).length = ds.length
  | [], _ => rfl
  | _ :: r, n => by simp [enumF, enumF_len (ds := r)]
theorem enumF_get : ∀ {ds : List D} {n i : Nat} {e : D}, (enumF n ds)[i]? = some e → ∃ d, ds[i]? = some d ∧ e = .tuple [.int ((n + i : Nat) : Int), d]
  | [], _, _, _, h => by simp [enumF] at h
  | d :: r, n, 0, _, h => by
    simp [enumF] at h
    exact ⟨d, rfl, by rw [← h]; rfl⟩
  | d :: r, n, i + 1, _, h => by
    obtain ⟨c, h1, h2⟩ := enumF_get (ds := r) (n := n + 1) (i := i) (by simpa [enumF] using h)
    exact ⟨c, by simpa using h1, by rw [h2]; congr 3; omega⟩
theorem gives_enum {a : Addr} {xs : List V} {ds : List D} (h : ZL K Z a xs) (f : Fzs K Z xs ds) : Gives K Z (Ite K a) (enumF 0 ds) := fun Z2 H2 e s => by
  have q : SqL K H2 a xs := (h.mono e).sq s
  refine ⟨fun i d hd => ?_, ⟨xs, q, by rw [enumF_len, f.length]; exact Nat.le_refl _⟩⟩
  obtain ⟨c, hc, rfl⟩ := enumF_get hd
  obtain ⟨v, hv, fv⟩ := f.at hc
  refine ⟨⟨xs, v, q, hv⟩, fun x H' y => ?_⟩
  obtain ⟨T, w, rfl, hT, rfl, y⟩ := y
  have z := y xs q
  rw [hv] at z
  cases z
  refine ⟨_, new_tup s hT (.cons ?_ (.cons (fv.mono e) .nil))⟩
  rw [Nat.zero_add]
  exact .int _
theorem gives_zip {a b : Addr} {xs ys : List V} {ds es : List D} (h : ZL K Z a xs) (f : Fzs K Z xs ds) (h2 : ZL K Z b ys) (f2 : Fzs K Z ys es) : Gives K Z (Itz K a b) (zipD ds es) := fun Z2 H2 e s => by
  have q : SqL K H2 a xs := (h.mono e).sq s
  have q2 : SqL K H2 b ys := (h2.mono e).sq s
  have l1 := f.length
  have l2 := f2.length
  refine ⟨fun i d hd => ?_, ⟨xs, ys, q, q2, by unfold zipD; rw [List.length_map, List.length_zip]; omega⟩⟩
  unfold zipD at hd
  rw [List.getElem?_map, Option.map_eq_some_iff] at hd
  obtain ⟨⟨p1, p2⟩, hp, rfl⟩ := hd
  rw [List.getElem?_zip_eq_some] at hp
  obtain ⟨v, hv, fv⟩ := f.at hp.1
  obtain ⟨u, hu, fu⟩ := f2.at hp.2
  refine ⟨⟨xs, ys, v, u, q, q2, hv, hu⟩, fun x H' y => ?_⟩
  obtain ⟨T, w, w2, rfl, hT, rfl, y1, y2⟩ := y
  have z := y1 xs q
  rw [hv] at z
  cases z
  have z := y2 ys q2
  rw [hu] at z
  cases z
  exact ⟨_, new_tup s hT (.cons (fv.mono e) (.cons (fu.mono e) .nil))⟩
theorem gives_zips {a b : Addr} {xs ys : List V} {ds es : List D} (h : ZL K Z a xs) (f : Fzs K Z xs ds) (h2 : ZL K Z b ys) (f2 : Fzs K Z ys es) (hl : ds.length = es.length) : Gives K Z (MiZ.ItzS K a b) (zipD ds es) := fun Z2 H2 e s => by
  refine ⟨(gives_zip h f h2 f2 Z2 H2 e s).1, xs, ys, (h.mono e).sq s, (h2.mono e).sq s, ?_⟩
  have l1 := f.length
  have l2 := f2.length
  unfold zipD
  rw [List.length_map, List.length_zip]
  omega
theorem gives_zipX {a b : Addr} {xs ys : List V} {ds es : List D} (h : ZL K Z a xs) (f : Fzs K Z xs ds) (h2 : ZT K Z b ys) (f2 : Fzs K Z ys es) (hl : ds.length = es.length) : Gives K Z (MiZ.ItzX K a b) (zipD ds es) := fun Z2 H2 e s => by
  have q : SqL K H2 a xs := (h.mono e).sq s
  have q2 : SqT K H2 b ys := (h2.mono e).sq s
  have l1 := f.length
  have l2 := f2.length
  refine ⟨fun i d hd => ?_, ⟨xs, ys, q, q2, by unfold zipD; rw [List.length_map, List.length_zip]; omega, by unfold zipD; rw [List.length_map, List.length_zip]; omega⟩⟩
  unfold zipD at hd
  rw [List.getElem?_map, Option.map_eq_some_iff] at hd
  obtain ⟨⟨p1, p2⟩, hp, rfl⟩ := hd
  rw [List.getElem?_zip_eq_some] at hp
  obtain ⟨v, hv, fv⟩ := f.at hp.1
  obtain ⟨u, hu, fu⟩ := f2.at hp.2
  refine ⟨⟨xs, ys, v, u, q, q2, hv, hu⟩, fun x H' y => ?_⟩
  obtain ⟨T, w, w2, rfl, hT, rfl, y1, y2⟩ := y
  have z := y1 xs q
  rw [hv] at z
  cases z
  have z := y2 ys q2
  rw [hu] at z
  cases z
  exact ⟨_, new_tup s hT (.cons (fv.mono e) (.cons (fu.mono e) .nil))⟩
theorem si_enum {cf : CF} {a : E} {ta : TE} (ha : SE K ta (evE cf a)) : SI K (iEnum K (tCons ta tNil)) (evI cf (.enum a)) := fun ρ σ Z H Fs ds ρ' r ev Rr q => by
  simp only [evI, Option.bind_eq_some_iff] at ev
  obtain ⟨⟨⟨s, x⟩, ρ1⟩, h1, h2⟩ := ev
  dsimp only at h2
  split at h2
  · simp only [Option.some.injEq, Prod.mk.injEq] at h2
    obtain ⟨rfl, rfl⟩ := h2
    refine ha.sf ρ σ Z H Fs _ _ r h1 _ fun v Z1 H1 Fs1 t1 r1 f1 => ?_
    obtain ⟨a, vs, rfl, z, f⟩ := f1.list_of
    exact ⟨a, vs, rfl, z.sq r1.sub, q _ _ _ _ t1 r1 (gives_enum z f)⟩
  · cases h2
theorem si_zip {cf : CF} {a b : E} {ta tb : TE} (ha : SE K ta (evE cf a)) (hb : SE K tb (evE cf b)) : SI K (iZip K (tCons ta (tCons tb tNil))) (evI cf (.zip a b)) := fun ρ σ Z H Fs ds ρ' r ev Rr q => by
  simp only [evI, Option.bind_eq_some_iff] at ev
  obtain ⟨⟨⟨s, x⟩, ρ1⟩, h1, ⟨⟨s2, y⟩, ρ2⟩, h2, h3⟩ := ev
  dsimp only at h2 h3
  split at h3
  · simp only [Option.some.injEq, Prod.mk.injEq] at h3
    obtain ⟨rfl, rfl⟩ := h3
    refine ha.sf ρ σ Z H Fs _ ρ1 r h1 _ fun v Z1 H1 Fs1 t1 r1 f1 => ?_
    refine hb.sf ρ1 σ Z1 H1 Fs1 _ _ r1 h2 _ fun w Z2 H2 Fs2 t2 r2 f2 => ?_
    obtain ⟨a, vs, rfl, z, f⟩ := f1.list_of
    obtain ⟨b, ws, rfl, z', f'⟩ := f2.list_of
    exact ⟨a, b, vs, ws, rfl, (z.mono t2.zz).sq r2.sub, z'.sq r2.sub, q _ _ _ _ (t1.trans t2) r2 (gives_zip (z.mono t2.zz) (f.mono t2.zz) z' f')⟩
  · cases h3
end
section
variable {K : PySem.W.Frag}
theorem si_zips {cf : CF} {a b : E} {ta tb : TE} (ha : SE K ta (evE cf a)) (hb : SE K tb (evE cf b)) : SI K (fun σ H R => MiZ.iZipS K (tCons ta (tCons tb tNil)) σ H R ∨ MiZ.iZipX K (tCons ta (tCons tb tNil)) σ H R) (evI cf (.zips a b)) := fun ρ σ Z H Fs ds ρ' r ev Rr q => by
  simp only [evI, Option.bind_eq_some_iff] at ev
  obtain ⟨⟨⟨s, x⟩, ρ1⟩, h1, ⟨⟨s2, y⟩, ρ2⟩, h2, h3⟩ := ev
  dsimp only at h2 h3
  split at h3
  · split at h3
    · rename_i hl
      simp only [Option.some.injEq, Prod.mk.injEq] at h3
      obtain ⟨rfl, rfl⟩ := h3
      refine .inl (ha.sf ρ σ Z H Fs _ ρ1 r h1 _ fun v Z1 H1 Fs1 t1 r1 f1 => ?_)
      refine hb.sf ρ1 σ Z1 H1 Fs1 _ _ r1 h2 _ fun w Z2 H2 Fs2 t2 r2 f2 => ?_
      obtain ⟨a, vs, rfl, z, f⟩ := f1.list_of
      obtain ⟨b, ws, rfl, z', f'⟩ := f2.list_of
      exact ⟨a, b, vs, ws, rfl, (z.mono t2.zz).sq r2.sub, z'.sq r2.sub, q _ _ _ _ (t1.trans t2) r2 (gives_zips (z.mono t2.zz) (f.mono t2.zz) z' f' hl)⟩
    · cases h3
  · split at h3
    · rename_i hl
      simp only [Option.some.injEq, Prod.mk.injEq] at h3
      obtain ⟨rfl, rfl⟩ := h3
      refine .inr (ha.sf ρ σ Z H Fs _ ρ1 r h1 _ fun v Z1 H1 Fs1 t1 r1 f1 => ?_)
      refine hb.sf ρ1 σ Z1 H1 Fs1 _ _ r1 h2 _ fun w Z2 H2 Fs2 t2 r2 f2 => ?_
      obtain ⟨a, vs, rfl, z, f⟩ := f1.list_of
      obtain ⟨b, ws, rfl, z', f'⟩ := f2.tup_of
      exact ⟨a, b, vs, ws, rfl, (z.mono t2.zz).sq r2.sub, z'.sq r2.sub, q _ _ _ _ (t1.trans t2) r2 (gives_zipX (z.mono t2.zz) (f.mono t2.zz) z' f' hl)⟩
    · cases h3
  · cases h3
end
/-! ### the text's expressions do what the small language says -/
section
variable {d : Md} {c : Cg} {N : List Str} {k : Nat} {cf : CF}
/-- each def of the table keeps its promise at level k -/
def GOk (d : Md) (c : Cg) (k : Nat) (cf : CF) : Prop := ∀ f fn, c.Gt f = some fn → ∃ (a : Addr) (fd : FuncData) (ps : List Str), d.mg fn.nm = some (.ref a) ∧ PySem.W.keepIn d.K (.ref a) = true ∧ Binds d.K fd ps [] ∧ FnOk d.P d.w d.K d.mg d.base CX0 k a fd ps (spOf d.K cf f)
def GoodE (d : Md) (N : List Str) (k : Nat) (sc : Scope) (st : Str → Bool) (x : Expr) (f : Ev → Option (SD × Ev)) : Prop := okX x = true ∧ ∃ t, SE d.K t f ∧ ∀ X, XOk d N k sc st X → PE X x t
def GoodA (d : Md) (N : List Str) (k : Nat) (sc : Scope) (st : Str → Bool) (es : List Expr) (f : Ev → Option (List Ar × Ev)) : Prop := es.all okX = true ∧ ∃ ts, ts.length = es.length ∧ SA d.K (tAll ts) f ∧ ∀ X, XOk d N k sc st X → PEs X es ts
def GoodT (d : Md) (N : List Str) (k : Nat) (sc : Scope) (st : Str → Bool) (x : Expr) (f : Ev → Option (Bool × Ev)) : Prop := ∃ t, ST d.K t f ∧ ∀ X, XOk d N k sc st X → PT X x t
def GoodI (d : Md) (N : List Str) (k : Nat) (sc : Scope) (st : Str → Bool) (tg x : Expr) (f : Ev → Option (List D × Ev)) : Prop := ∃ w, SI d.K w f ∧ ∀ X, XOk d N k sc st X → PI X tg x w
variable {sc : Scope} {st : Str → Bool}
theorem chkN_of {i : Nat} {x : Str} (h : chkN N sc i x = true) : N[i]? = some x ∧ vis sc x = true ∧ (x == ("__debug__" : Str)) = false ∧ (x == ("__classdict__" : Str)) = false := by
  unfold chkN nmOk at h
  simp only [Bool.and_eq_true, decide_eq_true_eq, Bool.not_eq_true'] at h
  exact ⟨h.1.1, h.1.2, h.2.1, h.2.2⟩
theorem pe_name {i : Nat} {x : Str} {p : Pos} (h : chkN N sc i x = true) {X : Cx} (hX : XOk d N k sc st X) : PE X (.Name x p) (tVar i) := by
  obtain ⟨h1, h2, h3, h4⟩ := chkN_of h
  exact pe_var (by rw [hX.N]; exact h1) (by rw [hX.scp]; exact vis_of h2) h3 h4
theorem con_fz {dd : D} {kk : Const} (h : conB dd kk = true) : ∃ v, (∀ K Z, Fz K Z v dd) ∧ ∀ (X : Cx) (u : Nat) (p : Pos), PE X (.Constant kk u p) (tC v) := by
  unfold conB at h
  split at h
  · exact ⟨.non, fun _ _ => .non, fun X u p => pe_non⟩
  · rw [eq_of_beq h]; exact ⟨.bl _, fun _ _ => .bl _, fun X u p => pe_bl⟩
  · rw [eq_of_beq h]; exact ⟨.int _, fun _ _ => .int _, fun X u p => pe_int⟩
  · rw [of_decide_eq_true h]; exact ⟨.str _, fun _ _ => .str _, fun X u p => pe_str⟩
  · cases h
theorem refs_eq : ∀ {as : As} {ρ : Ev} {xs : List Ar} {ρ1 : Ev}, evA cf as ρ = some (xs, ρ1) → refsA xs = refsS as
  | .nil, _, _, _, h => by
    simp only [evA, Option.some.injEq, Prod.mk.injEq] at h
    obtain ⟨rfl, rfl⟩ := h
    rfl
  | .ref i r, ρ, xs, ρ1, h => by
    simp only [evA, Option.bind_eq_some_iff] at h
    obtain ⟨_, _, ⟨ys, ρ2⟩, h2, h3⟩ := h
    simp only [Option.some.injEq, Prod.mk.injEq] at h3
    obtain ⟨rfl, rfl⟩ := h3
    simp [refsA, refsS, refs_eq h2]
  | .val e r, ρ, xs, ρ1, h => by
    simp only [evA, Option.bind_eq_some_iff] at h
    obtain ⟨⟨x, ρ3⟩, _, ⟨ys, ρ2⟩, h2, h3⟩ := h
    simp only [Option.some.injEq, Prod.mk.injEq] at h3
    obtain ⟨rfl, rfl⟩ := h3
    simp [refsA, refsS, refs_eq h2]
theorem base_name {x : Str} {p : Pos} {a : Str} {env : Env} : attributeBase (.Name x p) a env (eval (.Name x p) env) = eval (.Name x p) env := rfl
/-- the block of a comprehension -/
theorem XOk.blk {X : Cx} (h : XOk d N k sc st X) {scope : Scope} (hk : scope.kind = .function) (s : Shared) (H : Hp) (C : Addr) (cl : List (Str × Addr)) (fp : List Addr) : XOk d N k (relS scope sc) (stOf scope) (X.blk s H scope (compEnvC scope cl C X.env) fp) where
  P := h.P
  w := h.w
  K := h.K
  mg := h.mg
  base := h.base
  N := h.N
  scp := by
    rw [← h.scp]
    rfl
  kind := hk
  calm := h.calm
  room := h.room
  xe := rfl
  st := fun x hx => by
    have key : ∀ kk, kk ≠ NameKind.free → scope.names.lookup x = some kk → (relS scope sc).names.lookup x = some kk := fun kk h1 h2 => lookup_relS_keep h1 h2
    unfold stOf at hx
    split at hx
    · rename_i e
      have e2 := key .local (by decide) e
      exact ⟨.inl e2, .inr e2⟩
    · rename_i e
      have e2 := key .cell (by decide) e
      refine ⟨.inr e2, .inl ?_⟩
      show (scope.names.lookup x == some .cell) = true
      rw [e]
      rfl
    · cases hx
theorem pgs_ok : ∀ {l : List Nat} {es : List Expr}, chkGs N st l es = true → es.length = l.length ∧ (∀ env : Env, (assignEach es env).findIdx? (·.1) = none) ∧ (∀ env : Env, (assignEach es env).length = es.length) ∧ ∀ X, XOk d N k sc st X → N.Nodup → PGs X es (gList l)
  | [], [], _ => ⟨rfl, fun _ => rfl, fun _ => rfl, fun X hX _ => pgs_nil⟩
  | [], e :: es, h => by simp [chkGs] at h
  | i :: l, [], h => by simp [chkGs] at h
  | i :: l, e :: es, h => by
    cases e <;> first | (simp [chkGs] at h; done) | skip
    rename_i x p
    simp only [chkGs, Bool.and_eq_true, decide_eq_true_eq] at h
    obtain ⟨h1, h2, h3, h4⟩ := pgs_ok h.2
    refine ⟨by simp [h1], fun env => ?_, fun env => ?_, fun X hX nd => ?_⟩
    · show (((false, _) : Bool × _) :: assignEach es env).findIdx? (·.1) = none
      rw [List.findIdx?_cons]
      simp only [Bool.false_eq_true, if_false, h2 env]
      rfl
    · show (((false, _) : Bool × _) :: assignEach es env).length = _
      simp [h3 env]
    · obtain ⟨q1, q2⟩ := hX.st x h.1.2
      exact pgs_cons (pg_name (by rw [hX.N]; exact nd) (by rw [hX.N]; exact h.1.1) (by rw [hX.scp]; exact q1) (by rw [hX.scp]; exact q2)) (h4 X hX nd)
theorem pgn_ok : ∀ {l : List (Nat ⊕ List Nat)} {es : List Expr}, chkGn N st l es = true → es.length = l.length ∧ (∀ env : Env, (assignEach es env).findIdx? (·.1) = none) ∧ (∀ env : Env, (assignEach es env).length = es.length) ∧ ∀ X, XOk d N k sc st X → N.Nodup → PGs X es (gMix d.K l)
  | [], [], _ => ⟨rfl, fun _ => rfl, fun _ => rfl, fun X hX _ => pgs_nil⟩
  | [], e :: es, h => by simp [chkGn] at h
  | .inl i :: l, [], h => by simp [chkGn] at h
  | .inr i :: l, [], h => by simp [chkGn] at h
  | .inl i :: l, e :: es, h => by
    cases e <;> first | (simp [chkGn] at h; done) | skip
    rename_i x p
    simp only [chkGn, Bool.and_eq_true, decide_eq_true_eq] at h
    obtain ⟨h1, h2, h3, h4⟩ := pgn_ok h.2
    refine ⟨by simp [h1], fun env => ?_, fun env => ?_, fun X hX nd => ?_⟩
    · show (((false, _) : Bool × _) :: assignEach es env).findIdx? (·.1) = none
      rw [List.findIdx?_cons]
      simp only [Bool.false_eq_true, if_false, h2 env]
      rfl
    · show (((false, _) : Bool × _) :: assignEach es env).length = _
      simp [h3 env]
    · obtain ⟨q1, q2⟩ := hX.st x h.1.2
      exact pgs_cons (pg_name (by rw [hX.N]; exact nd) (by rw [hX.N]; exact h.1.1) (by rw [hX.scp]; exact q1) (by rw [hX.scp]; exact q2)) (h4 X hX nd)
  | .inr m :: l, e :: es, h => by
    cases e <;> first | (simp [chkGn] at h; done) | skip
    rename_i es' u p
    simp only [chkGn, Bool.and_eq_true] at h
    obtain ⟨g1, g2, g3, g4⟩ := pgs_ok (d := d) (k := k) (sc := sc) h.1
    obtain ⟨h1, h2, h3, h4⟩ := pgn_ok h.2
    refine ⟨by simp [h1], fun env => ?_, fun env => ?_, fun X hX nd => ?_⟩
    · show (((false, _) : Bool × _) :: assignEach es env).findIdx? (·.1) = none
      rw [List.findIdx?_cons]
      simp only [Bool.false_eq_true, if_false, h2 env]
      rfl
    · show (((false, _) : Bool × _) :: assignEach es env).length = _
      simp [h3 env]
    · have q := pg_tup (X := X) (k := u) (pos := p) hX.calm (g4 X hX nd) (n := m.length) (by rw [g3, g1]) (g2 _)
      rw [hX.K] at q
      exact pgs_cons q (h4 X hX nd)
theorem pg_ok {pr : List Nat} {g : G} {tg : Expr} (h : chkG N st g tg = true) (hp : ∀ i, (match g with | .nm j => i = j | .tp l => i ∈ l | .tn l => i ∈ gnames l) → i ∉ pr) : ∃ t, SG d.K pr t g ∧ ∀ X, XOk d N k sc st X → N.Nodup → PG X tg t := by
  cases g with
  | nm i =>
    cases tg <;> first | (simp [chkG] at h; done) | skip
    rename_i x p
    simp only [chkG, Bool.and_eq_true, decide_eq_true_eq] at h
    refine ⟨_, sg_nm (hp i rfl), fun X hX nd => ?_⟩
    obtain ⟨q1, q2⟩ := hX.st x h.2
    exact pg_name (by rw [hX.N]; exact nd) (by rw [hX.N]; exact h.1) (by rw [hX.scp]; exact q1) (by rw [hX.scp]; exact q2)
  | tp l =>
    cases tg <;> first | (simp [chkG] at h; done) | skip
    rename_i es u p
    simp only [chkG] at h
    obtain ⟨h1, h2, h3, h4⟩ := pgs_ok (d := d) (k := k) (sc := sc) h
    refine ⟨_, sg_tp hp, fun X hX nd => ?_⟩
    have q := pg_seq (X := X) (k := u) (pos := p) hX.calm (h4 X hX nd) (n := l.length) (by rw [h3, h1]) (h2 _)
    rw [hX.K] at q
    exact q
  | tn l =>
    cases tg <;> first | (simp [chkG] at h; done) | skip
    rename_i es u p
    simp only [chkG] at h
    obtain ⟨h1, h2, h3, h4⟩ := pgn_ok (d := d) (k := k) (sc := sc) h
    refine ⟨_, sg_tn hp, fun X hX nd => ?_⟩
    have q := pg_tup (X := X) (k := u) (pos := p) hX.calm (h4 X hX nd) (n := l.length) (by rw [h3, h1]) (h2 _)
    rw [hX.K] at q
    exact q
theorem gin_of {g : G} {own : List Nat} (h : ginB g own = true) : gin g own := by
  cases g with
  | nm i => exact of_decide_eq_true (p := i ∈ own) h
  | tp l => exact fun i hi => of_decide_eq_true (List.all_eq_true.mp h i hi)
  | tn l => exact fun i hi => of_decide_eq_true (List.all_eq_true.mp h i hi)
theorem own_map {own : List Nat} : (ownP N own).map (·.2) = own := by
  unfold ownP
  rw [List.map_map]
  exact List.map_id _
theorem GoodE.pa1 {x : Expr} {f : Ev → Option (SD × Ev)} (h : GoodE d N k sc st x f) : okX x = true := h.1
end
end Mi
end
section
namespace Mi
open PySem PySem.Spec PyProof.Rows L2
section
variable {d : Md} {c : Cg} {N : List Str} {k : Nat} {cf : CF}
theorem few_ok {e : Expr} {es : List Expr} {env : Env} {pos : Pos} (h : (e :: es).all okX = true) (hl : (e :: es).length ≤ 20) :
    ((backTo pos (starEach (e :: es) env)).all (fun x => !x.1) && (backToKw pos (keywordEach [] env)).all (fun x => x.1.isSome) && decide ((e :: es).length + ([] : List Keyword).length + (if ([] : List Keyword).isEmpty then 0 else 1) < 30)) = true := by
  have h1 : (backTo pos (starEach (e :: es) env)).all (fun x => !x.1) = true := by
    rw [star_all h]
    unfold backTo
    simp [List.all_map, List.map_map]
  rw [h1]
  simp only [List.length_cons] at hl
  have h2 : (backToKw pos (keywordEach [] env)).all (fun x => x.1.isSome) = true := rfl
  rw [h2]
  simp
  omega
/-- and, or of three and more, as the rest of a longer one: the whole does not matter -/
theorem pw_ofAnd {X : Cx} {x : Expr} {r : List Expr} {p : Pos} {t : TT} (h : PT X (.BoolOp .And (x :: r) p) t) : PW X (.BoolOp .And (x :: r) p) t := ⟨fun whole pins s σ H Q I q => h.run pins s σ H Q I q⟩
theorem pw_ofOr {X : Cx} {x : Expr} {r : List Expr} {p : Pos} {t : TT} (h : PT X (.BoolOp .Or (x :: r) p) t) : PW X (.BoolOp .Or (x :: r) p) t := ⟨fun whole pins s σ H Q I q => h.run pins s σ H Q I q⟩
theorem cmpE_of {p : P} {x a b : Expr} (h : cmpE p x = some (a, b)) : ∃ op pos, x = .Compare a [op] [b] pos ∧ cmpOf p = some op := by
  unfold cmpE at h
  split at h
  · split at h
    · cases h
      exact ⟨_, _, rfl, by assumption⟩
    · cases h
  · cases h
theorem nmCall_of {f : Str} {sc : Scope} {x : Expr} {es : List Expr} (h : nmCall f sc x = some es) : ∃ p1 p2, x = .Call (.Name f p1) es [] p2 ∧ glb sc f = true := by
  unfold nmCall at h
  split at h
  · split at h
    · rename_i q
      obtain ⟨rfl, q⟩ := q
      cases h
      exact ⟨_, _, rfl, q⟩
    · cases h
  · cases h
theorem zipsCall_of {sc : Scope} {x a b : Expr} (h : zipsCall sc x = some (a, b)) : ∃ p1 p2 p3 p4 u, x = .Call (.Name "zip" p1) [a, b] [⟨some "strict", .Constant (.bool true) u p3, p4⟩] p2 ∧ glb sc "zip" = true := by
  unfold zipsCall at h
  split at h
  · split at h
    · rename_i q
      obtain ⟨rfl, rfl, q⟩ := q
      cases h
      exact ⟨_, _, _, _, _, rfl, q⟩
    · cases h
  · cases h
theorem evT_cmp {p : P} {as : As} : evT cf (.cmp p as) = evT cf (.val (.prim p as)) := by
  funext ρ
  simp only [evT, evE, Option.bind_assoc]
  rfl
mutual
theorem okE (F : Facts d c.gl c.bf) (Gk : GOk d c k cf) (nd : N.Nodup) : ∀ (e : E) (sc : Scope) (st : Str → Bool) (x : Expr), chkE c N e sc st x = true → GoodE d N k sc st x (evE cf e)
  | .var i, sc, st, x, h => by
    cases x <;> first | (simp [chkE] at h; done) | skip
    simp only [chkE] at h
    exact ⟨rfl, _, se_var, fun X hX => pe_name h hX⟩
  | .mv i, sc, st, x, h => by
    cases x <;> first | (simp [chkE] at h; done) | skip
    simp only [chkE] at h
    exact ⟨rfl, _, se_mv, fun X hX => pe_name h hX⟩
  | .con dd, sc, st, x, h => by
    cases x <;> first | (simp [chkE] at h; done) | skip
    simp only [chkE] at h
    obtain ⟨v, h1, h2⟩ := con_fz h
    exact ⟨rfl, _, se_con (h1 d.K), fun X hX => h2 X _ _⟩
  | .glob y dd, sc, st, x, h => by
    cases x <;> first | (simp [chkE] at h; done) | skip
    simp only [chkE, Bool.and_eq_true, decide_eq_true_eq, List.any_eq_true] at h
    obtain ⟨⟨hy, hg⟩, ⟨p1, p2⟩, hp, hn, hs⟩ := h
    obtain ⟨v, u, h1, h2, h3⟩ := F.glob _ hp
    have e := sameD_eq hs
    subst e
    have hn : p1 = _ := hn
    subst hn
    exact ⟨rfl, _, se_glob h3, fun X hX => pe_glob (hX.glo hg) (by rw [hX.mg]; exact h1) h2 (glb_of hg).2.1⟩
  | .prim p as, sc, st, x, h => by
    simp only [chkE, Bool.and_eq_true] at h
    obtain ⟨⟨hg, hx⟩, h⟩ := h
    split at h
    · rename_i es he
      obtain ⟨ha, ts, hl, hs, hX⟩ := okA F Gk nd as sc st es h
      obtain ⟨t, rr, h1, h2, h3⟩ := prim_ok (d := d) (N := N) (k := k) (sc := sc) (st := st) F (fun q => by
        subst q
        simpa using hg) he hl
      exact ⟨hx, t, se_prim hs h1 h2, fun X q => h3 X q (hX X q) ha⟩
    · cases h
  | .tup as, sc, st, x, h => by
    cases x <;> first | (simp [chkE] at h; done) | skip
    simp only [chkE] at h
    obtain ⟨ha, ts, hl, hs, hX⟩ := okA F Gk nd as sc st _ h
    exact ⟨rfl, _, se_tup hs, fun X q => pe_tup ((hX X q).pa ha)⟩
  | .lst as, sc, st, x, h => by
    cases x <;> first | (simp [chkE] at h; done) | skip
    simp only [chkE] at h
    obtain ⟨ha, ts, hl, hs, hX⟩ := okA F Gk nd as sc st _ h
    exact ⟨rfl, _, se_lst hs, fun X q => pe_lst ((hX X q).pa ha)⟩
  | .call f as, sc, st, x, h => by
    cases x <;> first | (simp [chkE] at h; done) | skip
    rename_i fe es kw p
    cases fe <;> first | (simp [chkE] at h; done) | skip
    rename_i y py
    cases kw <;> first | (simp [chkE] at h; done) | skip
    simp only [chkE, Bool.and_eq_true, decide_eq_true_eq] at h
    obtain ⟨⟨⟨h1, hg⟩, hn⟩, h⟩ := h
    split at h1
    · rename_i fn hf
      have h1 := of_decide_eq_true h1
      obtain ⟨a, fd, ps, g1, g2, g3, g4⟩ := Gk _ _ hf
      obtain ⟨ha, ts, hl, hs, hX⟩ := okA F Gk nd _ sc st _ h
      refine ⟨rfl, _, se_call (E := E0) hs (fun ρ xs ρ1 e => by rw [refs_eq e]; exact hn), fun X q => ?_⟩
      have g4' : FnOk X.prog X.w X.K X.mg X.base CX0 k a fd ps (spOf d.K cf f) := by
        rw [q.P, q.w, q.K, q.mg, q.base]
        exact g4
      have pes := hX X q
      cases es with
      | nil =>
        cases pes
        exact pe_call0 g4' q.room (q.glo hg) (by rw [q.mg, ← h1]; exact g1) (by rw [q.K]; exact g2) (by rw [q.K]; exact g3) .nil pass0 (glb_of hg).2.1
      | cons e es =>
        simp only [List.all_cons, Bool.and_eq_true] at ha
        exact pe_call g4' q.room (q.glo hg) (by rw [q.mg, ← h1]; exact g1) (by rw [q.K]; exact g2) (by rw [q.K]; exact g3) .nil pass0 (pes.pa (by simp [ha.1, ha.2])) (glb_of hg).2.1 (star_ok ha.1) (back_ok ha.2)
    · cases h1
  | .mut m i as, sc, st, x, h => by
    cases x <;> first | (simp [chkE] at h; done) | skip
    rename_i fe es kw p
    cases fe <;> first | (simp [chkE] at h; done) | skip
    rename_i o a pa
    cases o <;> first | (simp [chkE] at h; done) | skip
    rename_i y py
    cases kw <;> first | (simp [chkE] at h; done) | skip
    simp only [chkE, Bool.and_eq_true, decide_eq_true_eq] at h
    obtain ⟨⟨⟨⟨hy, ha⟩, hl⟩, hm⟩, h⟩ := h
    subst ha
    obtain ⟨hk, ts, hlen, hs, hX⟩ := okA F Gk nd as sc st es h
    cases m with
    | app =>
      have hv : M.app = M.app → ∃ e, as = .val e .nil := fun _ => by
        cases as with
        | val e r =>
          cases r with
          | nil => exact ⟨e, rfl⟩
          | _ => simp [isVal1] at hm
        | _ => simp [isVal1] at hm
      obtain ⟨e0, rfl⟩ := hv rfl
      refine ⟨rfl, _, se_mut hs mu_app hv, fun X q => ?_⟩
      have pes := hX X q
      cases es with
      | nil => simp [chkA] at h
      | cons e es =>
        simp only [List.all_cons, Bool.and_eq_true] at hk
        have z := pe_bm (X := X) (cpos := p) PySem.F.plainAttrs_list PySem.F.slot_list_append PySem.F.type_list_append mt_append (pe_name (p := py) hy q) (pes.pa (by simp [hk.1, hk.2])) rfl (few_ok (by simp [hk.1, hk.2]) (by
          have : es = [] := by
            cases es with
            | nil => rfl
            | cons _ _ => simp [chkA] at h
          subst this
          simp)) hl (star_ok hk.1) (back_ok hk.2)
        rw [q.K] at z
        exact z
    | pop =>
      have he : es = [] := by simpa using hm
      subst he
      refine ⟨rfl, _, se_mut hs mu_pop (fun z => by cases z), fun X q => ?_⟩
      have pes := hX X q
      cases pes
      have z := pe_bm0 (X := X) PySem.F.plainAttrs_list PySem.F.slot_list_pop PySem.F.type_list_pop mt_pop (pe_name (p := py) hy q) (cpos := p) rfl hl
      rw [q.K] at z
      exact z
    | popAt =>
      refine ⟨rfl, _, se_mut hs mu_popAt (fun z => by cases z), fun X q => ?_⟩
      have pes := hX X q
      cases es with
      | nil => simp at hm
      | cons e es =>
        simp only [List.all_cons, Bool.and_eq_true] at hk
        have z := pe_bm (X := X) (cpos := p) PySem.F.plainAttrs_list PySem.F.slot_list_pop PySem.F.type_list_pop mt_popAt (pe_name (p := py) hy q) (pes.pa (by simp [hk.1, hk.2])) rfl (few_ok (by simp [hk.1, hk.2]) (by simp at hm; simp [hm])) hl (star_ok hk.1) (back_ok hk.2)
        rw [q.K] at z
        exact z
    | rem =>
      refine ⟨rfl, _, se_mut hs mu_rem (fun z => by cases z), fun X q => ?_⟩
      have pes := hX X q
      cases es with
      | nil => simp at hm
      | cons e es =>
        simp only [List.all_cons, Bool.and_eq_true] at hk
        have z := pe_bm (X := X) (cpos := p) PySem.F.plainAttrs_list PySem.F.slot_list_remove PySem.F.type_list_remove (mt_remD q.u65) (pe_name (p := py) hy q) (pes.pa (by simp [hk.1, hk.2])) rfl (few_ok (by simp [hk.1, hk.2]) (by simp at hm; simp [hm])) hl (star_ok hk.1) (back_ok hk.2)
        rw [q.K] at z
        exact z
  | .nev, sc, st, x, h => by
    simp only [chkE] at h
    exact ⟨h, _, se_nev (t := fun _ _ _ => False), fun X q => ⟨fun _ _ _ _ _ _ z => z.elim⟩⟩
  | .rep as n, sc, st, x, h => by
    simp only [chkE] at h
    split at h
    · rename_i es m hx
      obtain ⟨p1, u, p2, p3, rfl⟩ := repP_of hx
      simp only [Bool.and_eq_true, decide_eq_true_eq] at h
      obtain ⟨rfl, h⟩ := h
      obtain ⟨ha, ts, hl, hs, hX⟩ := okA F Gk nd as sc st _ h
      exact ⟨rfl, _, se_rep hs, fun X q => pe_op op_rep (pe_lst ((hX X q).pa ha)) pe_int⟩
    · cases h
  | .idx i e, sc, st, x, h => by
    cases x <;> first | (simp [chkE] at h; done) | skip
    rename_i fe es kw p
    cases fe <;> first | (simp [chkE] at h; done) | skip
    rename_i o a pa
    cases o <;> first | (simp [chkE] at h; done) | skip
    rename_i y py
    cases kw <;> first | (simp [chkE] at h; done) | skip
    cases es with
    | nil => simp [chkE] at h
    | cons z es =>
      cases es <;> first | (simp [chkE] at h; done) | skip
      simp only [chkE, Bool.and_eq_true, decide_eq_true_eq] at h
      obtain ⟨⟨⟨hy, ha⟩, hl⟩, h⟩ := h
      subst ha
      obtain ⟨hk, te, hs, hX⟩ := okE F Gk nd e sc st z h
      refine ⟨rfl, _, se_idx hs, fun X q => ?_⟩
      have w := pe_bm (X := X) (cpos := p) PySem.F.plainAttrs_list PySem.F.slot_list_index PySem.F.type_list_index (mt_indexD q.u65) (pe_name (p := py) hy q) (pa_cons (hX X q) pa_nil (star_ok hk)) rfl (few_ok (by simp [hk]) (by simp)) hl (star_ok hk) (back_ok rfl)
      rw [q.K] at w
      exact w
  | .ext i e, sc, st, x, h => by
    cases x <;> first | (simp [chkE] at h; done) | skip
    rename_i fe es kw p
    cases fe <;> first | (simp [chkE] at h; done) | skip
    rename_i o a pa
    cases o <;> first | (simp [chkE] at h; done) | skip
    rename_i y py
    cases kw <;> first | (simp [chkE] at h; done) | skip
    cases es with
    | nil => simp [chkE] at h
    | cons z es =>
      cases es <;> first | (simp [chkE] at h; done) | skip
      simp only [chkE, Bool.and_eq_true, decide_eq_true_eq] at h
      obtain ⟨⟨⟨hy, ha⟩, hl⟩, h⟩ := h
      subst ha
      obtain ⟨h0, te, he, hE⟩ := okE F Gk nd e sc st z h
      refine ⟨rfl, _, se_ext he, fun X q => ?_⟩
      have w := pe_bm (X := X) (cpos := p) PySem.F.plainAttrs_list PySem.F.slot_list_extend PySem.F.type_list_extend mt_extend (pe_name (p := py) hy q) (pa_cons (hE X q) pa_nil (star_ok h0)) rfl (few_ok (by simp [h0]) (by simp)) hl (star_ok h0) rfl
      rw [q.K] at w
      exact w
  | .and a b, sc, st, x, h => by
    cases x <;> first | (simp [chkE] at h; done) | skip
    rename_i op vs p
    cases op <;> first | (simp [chkE] at h; done) | skip
    match vs, h with
    | [], h => simp [chkE] at h
    | [_], h => simp [chkE] at h
    | x :: y :: [], h =>
      simp only [chkE, Bool.and_eq_true] at h
      obtain ⟨_, ta, ha, hA⟩ := okE F Gk nd a sc st x h.1
      obtain ⟨_, tb, hb, hB⟩ := okE F Gk nd b sc st y h.2
      exact ⟨rfl, _, se_and ha hb, fun X q => pe_and (hA X q) (pe_one (hB X q))⟩
    | x :: y :: z :: t, h =>
      simp only [chkE, Bool.and_eq_true] at h
      obtain ⟨_, ta, ha, hA⟩ := okE F Gk nd a sc st x h.1
      obtain ⟨_, tb, hb, hB⟩ := okE F Gk nd b sc st _ h.2
      exact ⟨rfl, _, se_and ha hb, fun X q => pe_and (hA X q) (hB X q)⟩
  | .or a b, sc, st, x, h => by
    cases x <;> first | (simp [chkE] at h; done) | skip
    rename_i op vs p
    cases op <;> first | (simp [chkE] at h; done) | skip
    match vs, h with
    | [], h => simp [chkE] at h
    | [_], h => simp [chkE] at h
    | x :: y :: [], h =>
      simp only [chkE, Bool.and_eq_true] at h
      obtain ⟨_, ta, ha, hA⟩ := okE F Gk nd a sc st x h.1
      obtain ⟨_, tb, hb, hB⟩ := okE F Gk nd b sc st y h.2
      exact ⟨rfl, _, se_or ha hb, fun X q => pe_or (hA X q) (pe_one (hB X q))⟩
    | x :: y :: z :: t, h =>
      simp only [chkE, Bool.and_eq_true] at h
      obtain ⟨_, ta, ha, hA⟩ := okE F Gk nd a sc st x h.1
      obtain ⟨_, tb, hb, hB⟩ := okE F Gk nd b sc st _ h.2
      exact ⟨rfl, _, se_or ha hb, fun X q => pe_or (hA X q) (hB X q)⟩
  | .not a, sc, st, x, h => by
    cases x <;> first | (simp [chkE] at h; done) | skip
    rename_i op y p
    cases op <;> first | (simp [chkE] at h; done) | skip
    simp only [chkE] at h
    obtain ⟨_, ta, ha, hA⟩ := okE F Gk nd a sc st y h
    exact ⟨rfl, _, se_not ha, fun X q => pe_not (hA X q)⟩
  | .ife t a b, sc, st, x, h => by
    cases x <;> first | (simp [chkE] at h; done) | skip
    simp only [chkE, Bool.and_eq_true] at h
    obtain ⟨⟨h1, h2⟩, h3⟩ := h
    obtain ⟨t, ht, hT⟩ := okT F Gk nd t sc st _ h1
    obtain ⟨_, ta, ha, hA⟩ := okE F Gk nd a sc st _ h2
    obtain ⟨_, tb, hb, hB⟩ := okE F Gk nd b sc st _ h3
    exact ⟨rfl, _, se_ife ht ha hb, fun X q => pe_ifExp (hT X q) (hA X q) (hB X q)⟩
  | .lc it own g t e, sc, st, x, h => by
    cases x <;> first | (simp [chkE] at h; done) | skip
    rename_i y gs scope p
    match gs, h with
    | [], h => simp [chkE] at h
    | _ :: _ :: _, h => simp [chkE] at h
    | [⟨tg, iter, ifs, z⟩], h =>
      simp only [chkE, Bool.and_eq_true, decide_eq_true_eq] at h
      obtain ⟨⟨⟨⟨⟨⟨⟨hz, hio⟩, hi⟩, hb⟩, hgi⟩, hg⟩, ht⟩, he⟩ := h
      subst hz
      have ok := blkOk_by hb
      obtain ⟨wi, h1, h2⟩ := okI F Gk nd it sc st tg iter hi
      obtain ⟨tgr, h3, h4⟩ := pg_ok (d := d) (k := k) (sc := relS scope sc) (pr := []) hg (fun i _ => by simp)
      obtain ⟨_, te, h5, h6⟩ := okE F Gk nd e (relS scope sc) (stOf scope) y he
      have hT : ∃ tt, ST d.K tt (evT cf t) ∧ ∀ X, XOk d N k (relS scope sc) (stOf scope) X → PTs X ifs tt := by
        match ifs, ht with
        | [], ht =>
          cases t <;> first | (simp at ht; done) | skip
          exact ⟨_, st_tt, fun X q => pts_nil⟩
        | [u], ht =>
          obtain ⟨tt, h7, h8⟩ := okT F Gk nd t (relS scope sc) (stOf scope) u ht
          exact ⟨tt, h7, fun X q => pts_one (h8 X q)⟩
        | _ :: _ :: _, ht => simp at ht
      obtain ⟨tt, h7, h8⟩ := hT
      refine ⟨rfl, _, se_lc h1 h3 (gin_of hgi) h7 h5, fun X q => ?_⟩
      have hbX : BlkOk X.N X.env.scope scope (ownP N own) := by
        rw [q.N, q.scp]
        exact ok
      have w := pe_lc (X := X) (pos := p) q.calm (by rw [q.N]; exact nd) (h2 X q) hbX
        (fun s H C cl fp => h4 _ (q.blk ok.kind s H C cl fp) nd) (fun s H C cl fp => h8 _ (q.blk ok.kind s H C cl fp)) (fun s H C cl fp => h6 _ (q.blk ok.kind s H C cl fp)) (fold_ok hio)
      rw [own_map] at w
      exact w
  | .lcb i own g t e, sc, st, x, h => by
    simp only [chkE] at h
    split at h
    · rename_i y tg z ifs scope hx
      obtain ⟨p, pz, rfl⟩ := lcbP_of hx
      simp only [Bool.and_eq_true] at h
      obtain ⟨⟨⟨⟨⟨hn, hb⟩, hgi⟩, hg⟩, ht⟩, he⟩ := h
      have ok := blkOk_by hb
      obtain ⟨tgr, h3, h4⟩ := pg_ok (d := d) (k := k) (sc := relS scope sc) (pr := []) hg (fun i _ => by simp)
      obtain ⟨_, te, h5, h6⟩ := okE F Gk nd e (relS scope sc) (stOf scope) y he
      have hT : ∃ tt, ST d.K tt (evT cf t) ∧ ∀ X, XOk d N k (relS scope sc) (stOf scope) X → PTs X ifs tt := by
        match ifs, ht with
        | [], ht =>
          cases t <;> first | (simp [isTT] at ht; done) | skip
          exact ⟨_, st_tt, fun X q => pts_nil⟩
        | [u], ht =>
          obtain ⟨tt, h7, h8⟩ := okT F Gk nd t (relS scope sc) (stOf scope) u ht
          exact ⟨tt, h7, fun X q => pts_one (h8 X q)⟩
        | _ :: _ :: _, ht => simp at ht
      obtain ⟨tt, h7, h8⟩ := hT
      refine ⟨rfl, _, se_lcb h3 (gin_of hgi) h7 h5, fun X q => ?_⟩
      have hbX : BlkOk X.N X.env.scope scope (ownP N own) := by
        rw [q.N, q.scp]
        exact ok
      have pe := pe_name (p := pz) hn q
      have pi := pi_or (pi_list (tg := tg) pe) (pi_or (pi_tup (tg := tg) pe) (pi_rngv (tg := tg) pe))
      rw [q.K] at pi
      have w := pe_lc (X := X) (pos := p) q.calm (by rw [q.N]; exact nd) pi hbX
        (fun s H C cl fp => h4 _ (q.blk ok.kind s H C cl fp) nd) (fun s H C cl fp => h8 _ (q.blk ok.kind s H C cl fp)) (fun s H C cl fp => h6 _ (q.blk ok.kind s H C cl fp)) (fold_ok rfl)
      rw [own_map] at w
      exact w
    · cases h
  | .lck i own g t e, sc, st, x, h => by
    simp only [chkE] at h
    split at h
    · rename_i y tg z ifs scope hx
      obtain ⟨p, pz, rfl⟩ := lcbP_of hx
      simp only [Bool.and_eq_true] at h
      obtain ⟨⟨⟨⟨⟨hn, hb⟩, hgi⟩, hg⟩, ht⟩, he⟩ := h
      have ok := blkOk_by hb
      obtain ⟨tgr, h3, h4⟩ := pg_ok (d := d) (k := k) (sc := relS scope sc) (pr := []) hg (fun i _ => by simp)
      obtain ⟨_, te, h5, h6⟩ := okE F Gk nd e (relS scope sc) (stOf scope) y he
      have hT : ∃ tt, ST d.K tt (evT cf t) ∧ ∀ X, XOk d N k (relS scope sc) (stOf scope) X → PTs X ifs tt := by
        match ifs, ht with
        | [], ht =>
          cases t <;> first | (simp [isTT] at ht; done) | skip
          exact ⟨_, st_tt, fun X q => pts_nil⟩
        | [u], ht =>
          obtain ⟨tt, h7, h8⟩ := okT F Gk nd t (relS scope sc) (stOf scope) u ht
          exact ⟨tt, h7, fun X q => pts_one (h8 X q)⟩
        | _ :: _ :: _, ht => simp at ht
      obtain ⟨tt, h7, h8⟩ := hT
      refine ⟨rfl, _, se_lck h3 (gin_of hgi) h7 h5, fun X q => ?_⟩
      have hbX : BlkOk X.N X.env.scope scope (ownP N own) := by
        rw [q.N, q.scp]
        exact ok
      have w := pe_lc (X := X) (pos := p) q.calm (by rw [q.N]; exact nd) (pi_keys (tg := tg) (pe_name (p := pz) hn q)) hbX
        (fun s H C cl fp => h4 _ (q.blk ok.kind s H C cl fp) nd) (fun s H C cl fp => h8 _ (q.blk ok.kind s H C cl fp)) (fun s H C cl fp => h6 _ (q.blk ok.kind s H C cl fp)) (fold_ok rfl)
      rw [own_map] at w
      exact pe_or' (pe_lock w) w
    · cases h
  | .dc it own g t kk v, sc, st, x, h => by
    simp only [chkE] at h
    split at h
    · rename_i kx vx tg iter ifs scope hx
      obtain ⟨p, rfl⟩ := dcP_of hx
      simp only [Bool.and_eq_true] at h
      obtain ⟨⟨⟨⟨⟨⟨⟨hio, hi⟩, hb⟩, hgi⟩, hg⟩, ht⟩, hk⟩, he⟩ := h
      have ok := blkOk_by hb
      obtain ⟨wi, h1, h2⟩ := okI F Gk nd it sc st tg iter hi
      obtain ⟨tgr, h3, h4⟩ := pg_ok (d := d) (k := k) (sc := relS scope sc) (pr := []) hg (fun i _ => by simp)
      obtain ⟨_, tk, k5, k6⟩ := okE F Gk nd kk (relS scope sc) (stOf scope) kx hk
      obtain ⟨_, te, h5, h6⟩ := okE F Gk nd v (relS scope sc) (stOf scope) vx he
      have hT : ∃ tt, ST d.K tt (evT cf t) ∧ ∀ X, XOk d N k (relS scope sc) (stOf scope) X → PTs X ifs tt := by
        match ifs, ht with
        | [], ht =>
          cases t <;> first | (simp [isTT] at ht; done) | skip
          exact ⟨_, st_tt, fun X q => pts_nil⟩
        | [u], ht =>
          obtain ⟨tt, h7, h8⟩ := okT F Gk nd t (relS scope sc) (stOf scope) u ht
          exact ⟨tt, h7, fun X q => pts_one (h8 X q)⟩
        | _ :: _ :: _, ht => simp at ht
      obtain ⟨tt, h7, h8⟩ := hT
      refine ⟨rfl, _, se_dc h1 h3 (gin_of hgi) h7 k5 h5, fun X q => ?_⟩
      have hbX : BlkOk X.N X.env.scope scope (ownP N own) := by
        rw [q.N, q.scp]
        exact ok
      have w := pe_dc (X := X) (pos := p) q.calm (by rw [q.N]; exact nd) (h2 X q) hbX
        (fun s H C cl fp => h4 _ (q.blk ok.kind s H C cl fp) nd) (fun s H C cl fp => h8 _ (q.blk ok.kind s H C cl fp)) (fun s H C cl fp => k6 _ (q.blk ok.kind s H C cl fp)) (fun s H C cl fp => h6 _ (q.blk ok.kind s H C cl fp)) (fold_ok hio)
      rw [own_map] at w
      exact w
    · cases h
  | .dck i own g t kk v, sc, st, x, h => by
    simp only [chkE] at h
    split at h
    · rename_i kx vx tg z ifs scope hx
      obtain ⟨p, pz, rfl⟩ := dckP_of hx
      simp only [Bool.and_eq_true] at h
      obtain ⟨⟨⟨⟨⟨⟨hn, hb⟩, hgi⟩, hg⟩, ht⟩, hk⟩, he⟩ := h
      have ok := blkOk_by hb
      obtain ⟨tgr, h3, h4⟩ := pg_ok (d := d) (k := k) (sc := relS scope sc) (pr := []) hg (fun i _ => by simp)
      obtain ⟨_, tk, k5, k6⟩ := okE F Gk nd kk (relS scope sc) (stOf scope) kx hk
      obtain ⟨_, te, h5, h6⟩ := okE F Gk nd v (relS scope sc) (stOf scope) vx he
      have hT : ∃ tt, ST d.K tt (evT cf t) ∧ ∀ X, XOk d N k (relS scope sc) (stOf scope) X → PTs X ifs tt := by
        match ifs, ht with
        | [], ht =>
          cases t <;> first | (simp [isTT] at ht; done) | skip
          exact ⟨_, st_tt, fun X q => pts_nil⟩
        | [u], ht =>
          obtain ⟨tt, h7, h8⟩ := okT F Gk nd t (relS scope sc) (stOf scope) u ht
          exact ⟨tt, h7, fun X q => pts_one (h8 X q)⟩
        | _ :: _ :: _, ht => simp at ht
      obtain ⟨tt, h7, h8⟩ := hT
      refine ⟨rfl, _, se_dck h3 (gin_of hgi) h7 k5 h5, fun X q => ?_⟩
      have hbX : BlkOk X.N X.env.scope scope (ownP N own) := by
        rw [q.N, q.scp]
        exact ok
      have w := pe_dc (X := X) (pos := p) q.calm (by rw [q.N]; exact nd) (pi_keys (tg := tg) (pe_name (p := pz) hn q)) hbX
        (fun s H C cl fp => h4 _ (q.blk ok.kind s H C cl fp) nd) (fun s H C cl fp => h8 _ (q.blk ok.kind s H C cl fp)) (fun s H C cl fp => k6 _ (q.blk ok.kind s H C cl fp)) (fun s H C cl fp => h6 _ (q.blk ok.kind s H C cl fp)) (fold_ok rfl)
      rw [own_map] at w
      exact pe_or' (pe_lock w) w
    · cases h
  | .lc2 it own g t it1 own1 g1 t1 e, sc, st, x, h => by
    simp only [chkE] at h
    split at h
    · rename_i y tg iter ifs tg1 iter1 ifs1 scope hx
      obtain ⟨p, rfl⟩ := lc2P_of hx
      simp only [Bool.and_eq_true, decide_eq_true_eq, List.all_eq_true] at h
      obtain ⟨⟨⟨⟨⟨⟨⟨⟨⟨⟨⟨⟨hio, hio1⟩, hi⟩, hb⟩, hgi⟩, hgi1⟩, ho⟩, hg⟩, hg1⟩, ht⟩, hi1⟩, ht1⟩, he⟩ := h
      have ok := blkOk_by hb
      obtain ⟨wi, h1, h2⟩ := okI F Gk nd it sc st tg iter hi
      obtain ⟨tgr, h3, h4⟩ := pg_ok (d := d) (k := k) (sc := relS scope sc) (pr := []) hg (fun i _ => by simp)
      obtain ⟨wi1, j1, j2⟩ := okI F Gk nd it1 (relS scope sc) (stOf scope) tg1 iter1 hi1
      obtain ⟨tgr1, j3, j4⟩ := pg_ok (d := d) (k := k) (sc := relS scope sc) (pr := []) hg1 (fun i _ => by simp)
      obtain ⟨_, te, h5, h6⟩ := okE F Gk nd e (relS scope sc) (stOf scope) y he
      have hT : ∃ tt, ST d.K tt (evT cf t) ∧ ∀ X, XOk d N k (relS scope sc) (stOf scope) X → PTs X ifs tt := by
        match ifs, ht with
        | [], ht =>
          cases t <;> first | (simp [isTT] at ht; done) | skip
          exact ⟨_, st_tt, fun X q => pts_nil⟩
        | [u], ht =>
          obtain ⟨tt, h7, h8⟩ := okT F Gk nd t (relS scope sc) (stOf scope) u ht
          exact ⟨tt, h7, fun X q => pts_one (h8 X q)⟩
        | _ :: _ :: _, ht => simp at ht
      have hT1 : ∃ tt, ST d.K tt (evT cf t1) ∧ ∀ X, XOk d N k (relS scope sc) (stOf scope) X → PTs X ifs1 tt := by
        match ifs1, ht1 with
        | [], ht =>
          cases t1 <;> first | (simp [isTT] at ht; done) | skip
          exact ⟨_, st_tt, fun X q => pts_nil⟩
        | [u], ht =>
          obtain ⟨tt, h7, h8⟩ := okT F Gk nd t1 (relS scope sc) (stOf scope) u ht
          exact ⟨tt, h7, fun X q => pts_one (h8 X q)⟩
        | _ :: _ :: _, ht => simp at ht
      obtain ⟨tt, h7, h8⟩ := hT
      obtain ⟨tt1, j7, j8⟩ := hT1
      refine ⟨rfl, _, se_lc2 h1 h3 (gin_of hgi) h7 j1 j3 (gin_of hgi1) ho j7 h5, fun X q => ?_⟩
      have hbX : BlkOk X.N X.env.scope scope (ownP N own) := by
        rw [q.N, q.scp]
        exact ok
      have w := pe_lc2 (X := X) (pos := p) (vs1 := own1) q.calm (by rw [q.N]; exact nd) (h2 X q) hbX (by rw [own_map]; exact ho)
        (fun s H C cl fp => h4 _ (q.blk ok.kind s H C cl fp) nd) (fun s H C cl fp => h8 _ (q.blk ok.kind s H C cl fp))
        (fun s H C cl fp => j2 _ (q.blk ok.kind s H C cl fp)) (fun s H C cl fp => j4 _ (q.blk ok.kind s H C cl fp) nd) (fun s H C cl fp => j8 _ (q.blk ok.kind s H C cl fp))
        (fun s H C cl fp => h6 _ (q.blk ok.kind s H C cl fp)) (fold_ok hio) (fun env => fold_ok hio1)
      rw [own_map] at w
      exact w
    · cases h
theorem okA (F : Facts d c.gl c.bf) (Gk : GOk d c k cf) (nd : N.Nodup) : ∀ (as : As) (sc : Scope) (st : Str → Bool) (es : List Expr), chkA c N as sc st es = true → GoodA d N k sc st es (evA cf as)
  | .nil, sc, st, es, h => by
    cases es with
    | nil => exact ⟨rfl, [], rfl, sa_nil, fun X _ => .nil⟩
    | cons _ _ => simp [chkA] at h
  | .ref i r, sc, st, es, h => by
    cases es with
    | nil => simp [chkA] at h
    | cons x es =>
      cases x <;> first | (simp [chkA] at h; done) | skip
      simp only [chkA, Bool.and_eq_true] at h
      obtain ⟨ha, ts, hl, hs, hX⟩ := okA F Gk nd r sc st es h.2
      exact ⟨by simp [okX, ha], tVar i :: ts, by simp [hl], sa_ref hs, fun X q => .cons (pe_name h.1 q) (hX X q)⟩
  | .val e r, sc, st, es, h => by
    cases es with
    | nil => simp [chkA] at h
    | cons x es =>
      simp only [chkA, Bool.and_eq_true] at h
      obtain ⟨h0, t, ht, hT⟩ := okE F Gk nd e sc st x h.1
      obtain ⟨ha, ts, hl, hs, hX⟩ := okA F Gk nd r sc st es h.2
      exact ⟨by simp [h0, ha], t :: ts, by simp [hl], sa_val ht hs, fun X q => .cons (hT X q) (hX X q)⟩
theorem okT (F : Facts d c.gl c.bf) (Gk : GOk d c k cf) (nd : N.Nodup) : ∀ (t : T) (sc : Scope) (st : Str → Bool) (x : Expr), chkT c N t sc st x = true → GoodT d N k sc st x (evT cf t)
  | .tt, sc, st, x, h => by simp [chkT] at h
  | .val e, sc, st, x, h => by
    simp only [chkT, Bool.and_eq_true] at h
    obtain ⟨h0, h⟩ := h
    obtain ⟨_, te, he, hE⟩ := okE F Gk nd e sc st x h
    exact ⟨_, st_val he (t := tB te) fun σ H Q h => h, fun X q => pt_val (hE X q) (test_ok h0)⟩
  | .cmp p as, sc, st, x, h => by
    simp only [chkT] at h
    split at h
    · rename_i a b hc
      obtain ⟨op, pos, rfl, hc'⟩ := cmpE_of hc
      obtain ⟨ha, ts, hl, hs, hX⟩ := okA F Gk nd as sc st [a, b] h
      obtain ⟨ta, tb, rfl⟩ := len2 hl
      obtain ⟨r, h1, h2⟩ := cmp_ok (K := d.K) hc'
      simp only [List.all_cons, List.all_nil, Bool.and_true, Bool.and_eq_true] at ha
      have z := st_val (se_prim hs h1 (t := tOp r ta tb) fun σ H Q h => h) (t := tTest (tOp r ta tb)) fun σ H Q h => h
      rw [← evT_cmp] at z
      exact ⟨_, z, fun X q => pt_cmpR (h2 X q.K q.u65) (pes2 (hX X q)).1 (pes2 (hX X q)).2 (mark_ok ha.2)⟩
    · cases h
  | .tru e, sc, st, x, h => by
    simp only [chkT, Bool.and_eq_true] at h
    obtain ⟨h0, te, he, hE⟩ := okE F Gk nd e sc st x h.2
    refine ⟨_, st_tru he (t := fun σ H Q => te σ H fun x H1 => ∃ c, TruV d.K x H1 c ∧ Q c H1) fun σ H Q h => h, fun X q => ?_⟩
    have z := pt_truth (hE X q) (test_ok h.1)
    rw [q.K] at z
    exact z
  | .and a b, sc, st, x, h => by
    cases x <;> first | (simp [chkT] at h; done) | skip
    rename_i op vs p
    cases op <;> first | (simp [chkT] at h; done) | skip
    match vs, h with
    | [], h => simp [chkT] at h
    | [_], h => simp [chkT] at h
    | x :: y :: [], h =>
      simp only [chkT, Bool.and_eq_true] at h
      obtain ⟨ta, ha, hA⟩ := okT F Gk nd a sc st x h.1
      obtain ⟨tb, hb, hB⟩ := okT F Gk nd b sc st y h.2
      exact ⟨_, st_and ha hb, fun X q => (pw_and (hA X q) (pw_and1 (hB X q))).pt⟩
    | x :: y :: z :: t, h =>
      simp only [chkT, Bool.and_eq_true] at h
      obtain ⟨ta, ha, hA⟩ := okT F Gk nd a sc st x h.1
      obtain ⟨tb, hb, hB⟩ := okT F Gk nd b sc st _ h.2
      exact ⟨_, st_and ha hb, fun X q => (pw_and (hA X q) (pw_ofAnd (hB X q))).pt⟩
  | .or a b, sc, st, x, h => by
    cases x <;> first | (simp [chkT] at h; done) | skip
    rename_i op vs p
    cases op <;> first | (simp [chkT] at h; done) | skip
    match vs, h with
    | [], h => simp [chkT] at h
    | [_], h => simp [chkT] at h
    | x :: y :: [], h =>
      simp only [chkT, Bool.and_eq_true] at h
      obtain ⟨ta, ha, hA⟩ := okT F Gk nd a sc st x h.1
      obtain ⟨tb, hb, hB⟩ := okT F Gk nd b sc st y h.2
      exact ⟨_, st_or ha hb, fun X q => (pw_or (hA X q) (pw_or1 (hB X q))).pt⟩
    | x :: y :: z :: t, h =>
      simp only [chkT, Bool.and_eq_true] at h
      obtain ⟨ta, ha, hA⟩ := okT F Gk nd a sc st x h.1
      obtain ⟨tb, hb, hB⟩ := okT F Gk nd b sc st _ h.2
      exact ⟨_, st_or ha hb, fun X q => (pw_or (hA X q) (pw_ofOr (hB X q))).pt⟩
  | .not a, sc, st, x, h => by
    cases x <;> first | (simp [chkT] at h; done) | skip
    rename_i op y p
    cases op <;> first | (simp [chkT] at h; done) | skip
    simp only [chkT] at h
    obtain ⟨ta, ha, hA⟩ := okT F Gk nd a sc st y h
    exact ⟨_, st_not ha, fun X q => pt_not (hA X q)⟩
theorem okI (F : Facts d c.gl c.bf) (Gk : GOk d c k cf) (nd : N.Nodup) : ∀ (it : I) (sc : Scope) (st : Str → Bool) (tg x : Expr), chkI c N it sc st tg x = true → GoodI d N k sc st tg x (evI cf it)
  | .seq e, sc, st, tg, x, h => by
    simp only [chkI] at h
    obtain ⟨h0, te, he, hE⟩ := okE F Gk nd e sc st x h
    refine ⟨_, si_seq he, fun X q => ?_⟩
    have z := pi_or (pi_list (tg := tg) (hE X q)) (pi_or (pi_tup (tg := tg) (hE X q)) (pi_rngv (tg := tg) (hE X q)))
    rw [q.K] at z
    exact z
  | .rng1 a, sc, st, tg, x, h => by
    simp only [chkI] at h
    split at h
    · rename_i y hc
      obtain ⟨py, p, rfl, hg⟩ := nmCall_of hc
      obtain ⟨h0, ta, ha, hA⟩ := okE F Gk nd a sc st y h
      exact ⟨_, si_rng1 ha, fun X q => pi_range1 (q.glo hg) (by rw [q.mg]; exact F.free _ (by decide)) (pa_cons (hA X q) pa_nil (star_ok h0)) (star_ok h0)⟩
    · cases h
  | .rng2 a b, sc, st, tg, x, h => by
    simp only [chkI] at h
    split at h
    · rename_i y z hc
      obtain ⟨py, p, rfl, hg⟩ := nmCall_of hc
      simp only [Bool.and_eq_true] at h
      obtain ⟨h0, ta, ha, hA⟩ := okE F Gk nd a sc st y h.1
      obtain ⟨h3, tb, hb, hB⟩ := okE F Gk nd b sc st z h.2
      exact ⟨_, si_rng2 ha hb, fun X q => pi_range2 (q.glo hg) (by rw [q.mg]; exact F.free _ (by decide)) (pa_cons (hA X q) (pa_cons (hB X q) pa_nil (star_ok h3)) (star_ok h0)) (by rw [star_ok h0, star_ok h3]; rfl) (star_ok h3)⟩
    · cases h
  | .enum a, sc, st, tg, x, h => by
    simp only [chkI, Bool.and_eq_true] at h
    obtain ⟨ht, h⟩ := h
    split at h
    · rename_i y hc
      obtain ⟨py, p, rfl, hg⟩ := nmCall_of hc
      obtain ⟨h0, ta, ha, hA⟩ := okE F Gk nd a sc st y h
      cases tg <;> first | (simp [isTup] at ht; done) | skip
      rename_i tes tk tp
      refine ⟨_, si_enum ha, fun X q => ?_⟩
      have w := pi_enum (X := X) (p := py) (pos := p) (elts := tes) (kk := tk) (tpos := tp) (q.glo hg) (by rw [q.mg]; exact F.free _ (by decide)) (pa_cons (hA X q) pa_nil (star_ok h0)) (star_ok h0)
      rw [q.K] at w
      exact w
    · cases h
  | .zip a b, sc, st, tg, x, h => by
    simp only [chkI, Bool.and_eq_true] at h
    obtain ⟨ht, h⟩ := h
    split at h
    · rename_i y z hc
      obtain ⟨py, p, rfl, hg⟩ := nmCall_of hc
      simp only [Bool.and_eq_true] at h
      obtain ⟨h0, ta, ha, hA⟩ := okE F Gk nd a sc st y h.1
      obtain ⟨h3, tb, hb, hB⟩ := okE F Gk nd b sc st z h.2
      cases tg <;> first | (simp [isTup] at ht; done) | skip
      rename_i tes tk tp
      refine ⟨_, si_zip ha hb, fun X q => ?_⟩
      have w := pi_zip (X := X) (p := py) (pos := p) (elts := tes) (kk := tk) (tpos := tp) (q.glo hg) (by rw [q.mg]; exact F.free _ (by decide)) (pa_cons (hA X q) (pa_cons (hB X q) pa_nil (star_ok h3)) (star_ok h0)) (star_ok h0) (back_ok (by simp [h3]))
      rw [q.K] at w
      exact w
    · cases h
  | .zips a b, sc, st, tg, x, h => by
    simp only [chkI, Bool.and_eq_true] at h
    obtain ⟨ht, h⟩ := h
    split at h
    · rename_i y z hc
      obtain ⟨py, p, cp, kp, u, rfl, hg⟩ := zipsCall_of hc
      simp only [Bool.and_eq_true] at h
      obtain ⟨h0, ta, ha, hA⟩ := okE F Gk nd a sc st y h.1
      obtain ⟨h3, tb, hb, hB⟩ := okE F Gk nd b sc st z h.2
      cases tg <;> first | (simp [isTup] at ht; done) | skip
      rename_i tes tk tp
      refine ⟨_, si_zips ha hb, fun X q => ?_⟩
      have w := MiZ.pi_zips (X := X) (p := py) (pos := p) (cp := cp) (kp := kp) (u := u) (elts := tes) (kk := tk) (tpos := tp) (q.glo hg) (by rw [q.mg]; exact F.free _ (by decide)) (pa_cons (hA X q) (pa_cons (hB X q) pa_nil (star_ok h3)) (star_ok h0)) (star_ok h0) (back_ok (by simp [h3]))
      have w' := MiZ.pi_zipsT (X := X) (p := py) (pos := p) (cp := cp) (kp := kp) (u := u) (elts := tes) (kk := tk) (tpos := tp) (q.glo hg) (by rw [q.mg]; exact F.free _ (by decide)) (pa_cons (hA X q) (pa_cons (hB X q) pa_nil (star_ok h3)) (star_ok h0)) (star_ok h0) (back_ok (by simp [h3]))
      have w := pi_or w w'
      rw [q.K] at w
      exact w
    · cases h
end
end
end Mi
end
section
namespace Mi
open PySem PySem.Spec PyProof.Rows L2
/-! ### statements: does the text say it? -/
def gOut : G → List Nat → Bool
  | .nm i, pr => !decide (i ∈ pr)
  | .tp l, pr => l.all fun i => !decide (i ∈ pr)
  | .tn l, pr => (gnames l).all fun i => !decide (i ∈ pr)
def locX (sc : Scope) (x : Str) : Bool := match sc.names.lookup x with
  | some .local => true
  | _ => false
/-- no swapped stores -/
def noSw (sc : Scope) : Expr → Expr → Bool
  | .Tuple ts _ _, .Tuple vs _ _ => ts.any (fun | .Name x _ => !locX sc x | _ => true) || vs.all (foldedForSure 8) || decide (3 < ts.length)
  | .Name _ _, _ => true
  | .Tuple _ _ _, .Name _ _ => true
  | .Tuple _ _ _, .List _ _ => true
  | .Tuple _ _ _, .Call _ _ _ _ => true
  | .Tuple _ _ _, .Subscript _ _ _ => true
  | .Tuple _ _ _, .IfExp _ _ _ _ => true
  | _, _ => false
def lcSw (sc : Scope) : Expr → Expr → Bool
  | .Name y py, .ListComp _ [_] scope p => locX sc y && (py.line == p.line) && !(scope.names.any fun (n, k) => n == y && (k == .local || k == .cell))
  | _, _ => false
def lc2Sw (sc : Scope) : Expr → Expr → Bool
  | .Name y py, .ListComp _ [_, _] scope p => locX sc y && (py.line == p.line) && !(scope.names.any fun (n, k) => n == y && (k == .local || k == .cell))
  | _, _ => false
/-- a name that its inner blocks read, too, takes no swapped store -/
def lcCell (sc : Scope) : Expr → Expr → Bool
  | .Name y _, .ListComp _ _ _ _ => !locX sc y
  | _, _ => false
def parB (sc : Scope) (N : List Str) (i j : Nat) : Expr → Expr → Option (Expr × Expr)
  | .Tuple [.Name x px, .Name y py] _ _, .Tuple [a, b] _ _ => if decide (N[i]? = some x) && decide (N[j]? = some y) && decide (i ≠ j) && decide (x ≠ y) && locX sc x && locX sc y && (px.line == py.line) && !(foldedForSure 8 a && foldedForSure 8 b) && !(constantsAlone 8 a && constantsAlone 8 b) then some (a, b) else none
  | _, _ => none
def stoP : Stmt → Option (Str × Expr × Expr)
  | .Assign [.Subscript (.Name x _) ke _] ve _ => some (x, ke, ve)
  | _ => none
theorem stoP_of {s : Stmt} {x : Str} {ke ve : Expr} (h : stoP s = some (x, ke, ve)) : ∃ p1 p2 p3, s = .Assign [.Subscript (.Name x p1) ke p2] ve p3 := by
  unfold stoP at h
  split at h
  · cases h
    exact ⟨_, _, _, rfl⟩
  · cases h
def asgP : Stmt → Option (Expr × Expr)
  | .Assign [tg] ve _ => some (tg, ve)
  | _ => none
theorem asgP_of {s : Stmt} {tg ve : Expr} (h : asgP s = some (tg, ve)) : ∃ p, s = .Assign [tg] ve p := by
  unfold asgP at h
  split at h
  · cases h
    exact ⟨_, rfl⟩
  · cases h
def swP : Stmt → Option ((Str × Expr) × (Str × Expr) × Expr × Expr × Expr × Expr)
  | .Assign [.Tuple [.Subscript (.Name x1 p1) e1 p2, .Subscript (.Name x2 p3) e2 p4] k1 p5] (.Tuple [ea, eb] k2 p6) _ => some ((x1, e1), (x2, e2), ea, eb, .Tuple [.Subscript (.Name x1 p1) e1 p2, .Subscript (.Name x2 p3) e2 p4] k1 p5, .Tuple [ea, eb] k2 p6)
  | _ => none
theorem swP_of {s : Stmt} {x1 x2 : Str} {e1 e2 ea eb tg v : Expr} (h : swP s = some ((x1, e1), (x2, e2), ea, eb, tg, v)) : ∃ p1 p2 p3 p4 k1 p5 k2 p6 p, tg = .Tuple [.Subscript (.Name x1 p1) e1 p2, .Subscript (.Name x2 p3) e2 p4] k1 p5 ∧ v = .Tuple [ea, eb] k2 p6 ∧ s = .Assign [tg] v p := by
  unfold swP at h
  split at h
  · cases h
    exact ⟨_, _, _, _, _, _, _, _, _, rfl, rfl, rfl⟩
  · cases h
def dcSw (sc : Scope) : Expr → Expr → Bool
  | .Name y py, .DictComp _ _ [_] scope p => locX sc y && (py.line == p.line) && !(scope.names.any fun (n, k) => n == y && (k == .local || k == .cell))
  | _, _ => false
def dcCell (sc : Scope) : Expr → Expr → Bool
  | .Name y _, .DictComp _ _ [_] _ _ => !locX sc y
  | _, _ => false
mutual
def chkQ (c : Cg) (N : List Str) (pr : List Nat) : Q → Scope → Stmt → Bool
  | .asg g e, sc, s => match asgP s with
    | some (tg, x) => chkG N (stOf sc) g tg && gOut g pr && chkE c N e sc (stOf sc) x && ((notLc x && noSw sc tg x) || lcSw sc tg x || lcCell sc tg x || dcSw sc tg x || dcCell sc tg x || lc2Sw sc tg x)
    | none => false
  | .par i j a b, sc, s => !decide (i ∈ pr) && !decide (j ∈ pr) && match asgP s with
    | some (tg, x) => (match parB sc N i j tg x with
      | some (ea, eb) => chkE c N a sc (stOf sc) ea && chkE c N b sc (stOf sc) eb
      | none => false)
    | none => false
  | .sto i k v, sc, s => match stoP s with
    | some (x, ke, ve) => chkN N sc i x && notLc ve && chkE c N k sc (stOf sc) ke && chkE c N v sc (stOf sc) ve
    | none => false
  | .sw i k1 k2 a b, sc, s => match swP s with
    | some ((x1, e1), (x2, e2), ea, eb, tg, v) => chkN N sc i x1 && chkN N sc i x2 && chkE c N k1 sc (stOf sc) e1 && chkE c N k2 sc (stOf sc) e2 && chkE c N a sc (stOf sc) ea && chkE c N b sc (stOf sc) eb && noSw sc tg v
    | none => false
  | .exp e, sc, .Expr x _ => notLc x && chkE c N e sc (stOf sc) x
  | .ret e, sc, .Return (some x) _ => chkE c N e sc (stOf sc) x
  | .ret0, _, .Return none _ => true
  | .iff t a b, sc, .If x p q _ => chkT c N t sc (stOf sc) x && chkB c N pr a sc p && chkB c N pr b sc q
  | .whl t b, sc, .While x p [] _ => chkT c N t sc (stOf sc) x && chkB c N pr b sc p
  | .fo it g b, sc, .For tg iter p [] _ => okX iter && chkI c N it sc (stOf sc) tg iter && chkG N (stOf sc) g tg && gOut g pr && chkB c N pr b sc p
  | .fok i g b, sc, .For tg (.Name x _) p [] _ => chkN N sc i x && chkG N (stOf sc) g tg && gOut g pr && chkB c N pr b sc p
  | .brk, _, .Break _ => true
  | .cnt, _, .Continue _ => true
  | .pas, _, .Pass _ => true
  | .nev, _, _ => true
  | _, _, _ => false
def chkB (c : Cg) (N : List Str) (pr : List Nat) : B → Scope → List Stmt → Bool
  | .nil, _, [] => true
  | .cons q r, sc, s :: t => chkQ c N pr q sc s && chkB c N pr r sc t
  | _, _, _ => false
end
section
variable {d : Md} {c : Cg} {N : List Str} {k : Nat} {cf : CF}
def GoodQ (d : Md) (N : List Str) (pr : List Nat) (k : Nat) (sc : Scope) (s : Stmt) (f : Ev → Option (Fl × Ev)) : Prop := ∃ t, SQ d.K pr t f ∧ ∀ X, XOk d N k sc (stOf sc) X → PS X s t
def GoodB (d : Md) (N : List Str) (pr : List Nat) (k : Nat) (sc : Scope) (s : List Stmt) (f : Ev → Option (Fl × Ev)) : Prop := ∃ t, SQ d.K pr t f ∧ ∀ X, XOk d N k sc (stOf sc) X → PSs X s t
variable {sc : Scope}
theorem gOut_of {g : G} {pr : List Nat} (h : gOut g pr = true) : ∀ i, (match g with | .nm j => i = j | .tp l => i ∈ l | .tn l => i ∈ gnames l) → i ∉ pr := by
  cases g with
  | nm j =>
    intro i e
    have e : i = j := e
    subst e
    simpa [gOut] using h
  | tp l =>
    intro i e
    have e : i ∈ l := e
    simp only [gOut, List.all_eq_true, Bool.not_eq_true', decide_eq_false_iff_not] at h
    exact h i e
  | tn l =>
    intro i e
    have e : i ∈ gnames l := e
    simp only [gOut, List.all_eq_true, Bool.not_eq_true', decide_eq_false_iff_not] at h
    exact h i e
theorem blk_fn {X : Cx} {st : Str → Bool} (h : XOk d N k sc st X) : X.env.blockKind = .function := by
  unfold Env.blockKind
  rw [h.scp, h.kind]
  rfl
theorem loc_of' {x : Str} (h : locX sc x = true) : sc.names.lookup x = some .local := by
  unfold locX at h
  split at h
  · assumption
  · cases h
theorem fm_len {α β : Type} {f : α → Option β} : ∀ {l : List α}, (∃ t ∈ l, f t = none) → (l.filterMap f).length ≠ l.length
  | [], ⟨t, h, _⟩ => by cases h
  | a :: l, ⟨t, h, e⟩ => by
    have q := List.length_filterMap_le f l
    rw [List.filterMap_cons]
    cases ha : f a with
    | none =>
      simp only [List.length_cons]
      omega
    | some b =>
      simp only [List.length_cons]
      rcases List.mem_cons.mp h with rfl | h
      · rw [e] at ha
        cases ha
      · have := fm_len (f := f) ⟨t, h, e⟩
        omega
theorem noSw_of {X : Cx} {st : Str → Bool} (hX : XOk d N k sc st X) {tg x : Expr} (h : noSw sc tg x = true) : swappedStores [tg] x X.env = pure none := by
  unfold noSw at h
  split at h
  · rename_i ts k1 p1 vs k2 p2
    simp only [Bool.or_eq_true, decide_eq_true_eq] at h
    unfold swappedStores
    simp only []
    split
    · rfl
    · rename_i h1
      split
      · rfl
      · split
        · rfl
        · rename_i h2
          split
          · rfl
          · rename_i h3
            exfalso
            rcases h with (h | h) | h
            · apply h2
              simp only [Bool.or_eq_true, bne_iff_ne, ne_eq]
              refine .inl (fm_len ?_)
              simp only [List.any_eq_true] at h
              obtain ⟨t, ht, hq⟩ := h
              refine ⟨t, ht, ?_⟩
              cases t <;> first | rfl | skip
              rename_i y py
              have hk : X.env.kindOf y = sc.names.lookup y := by
                show X.env.scope.names.lookup y = _
                rw [hX.scp]
              have : ¬ X.env.kindOf y = some .local := by
                rw [hk]
                intro e
                simp [locX, e] at hq
              simp [this]
            · exact h3 h
            · apply h1
              simp only [Bool.or_eq_true, Bool.not_eq_true', Bool.or_eq_false_iff, beq_eq_false_iff_ne]
              refine .inl (.inl ⟨?_, ?_⟩) <;> omega
  all_goals first | rfl | cases h
theorem lcSw_of {X : Cx} {st : Str → Bool} (hX : XOk d N k sc st X) {tg x : Expr} {l : Nat} (h : lcSw sc tg x = true) : ∃ y py elt gs scope p, tg = .Name y py ∧ x = .ListComp elt [gs] scope p ∧ X.env.scope.names.lookup y = some .local ∧ swapsWith (.ListComp elt [gs] scope p) (some (.Name y py)) l X.env = pure true := by
  unfold lcSw at h
  split at h
  · rename_i y py elt gs scope p
    simp only [Bool.and_eq_true, Bool.not_eq_true'] at h
    obtain ⟨⟨h1, h2⟩, h3⟩ := h
    have e : X.env.scope.names.lookup y = some .local := by
      rw [hX.scp]
      exact loc_of' h1
    exact ⟨y, py, elt, gs, scope, p, rfl, rfl, e, sw_true (by rw [hX.scp]; exact hX.kind) e h2 h3⟩
  · cases h
theorem lc2Sw_of {X : Cx} {st : Str → Bool} (hX : XOk d N k sc st X) {tg x : Expr} {l : Nat} (h : lc2Sw sc tg x = true) : ∃ y py elt gs gs2 scope p, tg = .Name y py ∧ x = .ListComp elt [gs, gs2] scope p ∧ X.env.scope.names.lookup y = some .local ∧ swapsWith (.ListComp elt [gs, gs2] scope p) (some (.Name y py)) l X.env = pure true := by
  unfold lc2Sw at h
  split at h
  · rename_i y py elt gs gs2 scope p
    simp only [Bool.and_eq_true, Bool.not_eq_true'] at h
    obtain ⟨⟨h1, h2⟩, h3⟩ := h
    have e : X.env.scope.names.lookup y = some .local := by
      rw [hX.scp]
      exact loc_of' h1
    exact ⟨y, py, elt, gs, gs2, scope, p, rfl, rfl, e, sw_true (by rw [hX.scp]; exact hX.kind) e h2 h3⟩
  · cases h
theorem lcCell_of {X : Cx} {st : Str → Bool} (hX : XOk d N k sc st X) {tg x : Expr} {l : Nat} (h : lcCell sc tg x = true) : swapsWithSole [tg] x l X.env = pure false ∧ swappedStores [tg] x X.env = pure none := by
  unfold lcCell at h
  split at h
  · rename_i y py elt gs scope p
    have e : (X.env.kindOf y == some .local) = false := by
      have e1 : X.env.kindOf y = sc.names.lookup y := by
        show X.env.scope.names.lookup y = _
        rw [hX.scp]
      rw [e1]
      unfold locX at h
      split at h
      · cases h
      · rename_i hq
        cases hl : sc.names.lookup y with
        | none => rfl
        | some k =>
          cases k <;> first | rfl | exact (hq hl).elim
    refine ⟨?_, rfl⟩
    unfold swapsWithSole swapsWith
    simp [e]
  · cases h
theorem dsw_true {kx vx : Expr} {gs : List Comprehension} {scope : Scope} {pos py : Pos} {y : Str} {l : Nat} {env : Env} (hk : env.scope.kind = .function) (hy : env.scope.names.lookup y = some .local) (hl : (py.line == pos.line) = true)
    (ha : (scope.names.any fun (n, k) => n == y && (k == .local || k == .cell)) = false) : swapsWith (.DictComp kx vx gs scope pos) (some (.Name y py)) l env = pure true := by
  have ky : env.kindOf y = some .local := hy
  have hb : env.blockKind = .function := by unfold Env.blockKind; rw [hk]; rfl
  unfold swapsWith
  simp only [hb, ky, ha, Expr.pos, hl]
  rfl
theorem dcSw_of {X : Cx} {st : Str → Bool} (hX : XOk d N k sc st X) {tg x : Expr} {l : Nat} (h : dcSw sc tg x = true) : ∃ y py kx vx gs scope p, tg = .Name y py ∧ x = .DictComp kx vx [gs] scope p ∧ X.env.scope.names.lookup y = some .local ∧ swapsWith (.DictComp kx vx [gs] scope p) (some (.Name y py)) l X.env = pure true := by
  unfold dcSw at h
  split at h
  · rename_i y py kx vx gs scope p
    simp only [Bool.and_eq_true, Bool.not_eq_true'] at h
    obtain ⟨⟨h1, h2⟩, h3⟩ := h
    have e : X.env.scope.names.lookup y = some .local := by
      rw [hX.scp]
      exact loc_of' h1
    exact ⟨y, py, kx, vx, gs, scope, p, rfl, rfl, e, dsw_true (by rw [hX.scp]; exact hX.kind) e h2 h3⟩
  · cases h
theorem dcCell_of {X : Cx} {st : Str → Bool} (hX : XOk d N k sc st X) {tg x : Expr} {l : Nat} (h : dcCell sc tg x = true) : swapsWithSole [tg] x l X.env = pure false ∧ swappedStores [tg] x X.env = pure none := by
  unfold dcCell at h
  split at h
  · rename_i y py kx vx gs scope p
    have e : (X.env.kindOf y == some .local) = false := by
      have e1 : X.env.kindOf y = sc.names.lookup y := by
        show X.env.scope.names.lookup y = _
        rw [hX.scp]
      rw [e1]
      unfold locX at h
      split at h
      · cases h
      · rename_i hq
        cases hl : sc.names.lookup y with
        | none => rfl
        | some k =>
          cases k <;> first | rfl | exact (hq hl).elim
    refine ⟨?_, rfl⟩
    unfold swapsWithSole swapsWith
    simp [e]
  · cases h
theorem parB_of {X : Cx} {st : Str → Bool} (hX : XOk d N k sc st X) {i j : Nat} {tg x a b : Expr} (h : parB sc N i j tg x = some (a, b)) (oa : okX a = true) (ob : okX b = true) : ∃ y z py pz k1 p1 k2 p2, tg = .Tuple [.Name y py, .Name z pz] k1 p1 ∧ x = .Tuple [a, b] k2 p2 ∧ N[i]? = some y ∧ N[j]? = some z ∧ i ≠ j ∧
    X.env.scope.names.lookup y = some .local ∧ X.env.scope.names.lookup z = some .local ∧ swappedStores [.Tuple [.Name y py, .Name z pz] k1 p1] (.Tuple [a, b] k2 p2) X.env = pure (some [y, z]) := by
  unfold parB at h
  split at h
  · rename_i y py z pz k1 p1 a' b' k2 p2
    split at h
    · rename_i hq
      cases h
      simp only [Bool.and_eq_true, decide_eq_true_eq, Bool.not_eq_true'] at hq
      obtain ⟨⟨⟨⟨⟨⟨⟨⟨h1, h2⟩, h3⟩, h4⟩, h5⟩, h6⟩, h7⟩, h8⟩, h9⟩ := hq
      have e1 : X.env.scope.names.lookup y = some .local := by rw [hX.scp]; exact loc_of' h5
      have e2 : X.env.scope.names.lookup z = some .local := by rw [hX.scp]; exact loc_of' h6
      refine ⟨y, z, py, pz, k1, p1, k2, p2, rfl, rfl, h1, h2, h3, e1, e2, ?_⟩
      have k1 : X.env.kindOf y = some .local := e1
      have k2 : X.env.kindOf z = some .local := e2
      have hb := blk_fn hX
      have h7 : py.line = pz.line := eq_of_beq h7
      unfold swappedStores
      simp [hb, k1, k2, Expr.pos, h7, h8, h9, List.eraseDups_cons, Ne.symm h4, h4]
      rintro (h | h)
      · exfalso
        cases a <;> simp [okX] at oa h
      · exfalso
        cases b <;> simp [okX] at ob h
    · cases h
  · cases h
theorem asg_ok {tg : Expr} {env : Env} {st : Str → Bool} {g : G} (h : chkG N st g tg = true) : (assignEach [tg] env).map (·.2) = [assign tg env] := by
  cases g <;> cases tg <;> first | rfl | (simp [chkG] at h)
theorem sole_ok {e t : Expr} {l : Nat} {env : Env} (h : okX e = true) (h2 : notLc e = true) : swapsWithSole [t] e l env = pure false := by
  show swapsWith e (some t) l env = pure false
  exact swap_ok h h2
theorem sub_ok {o i : Expr} {p : Pos} {env : Env} (h : okX i = true) (v : Value) : assign (.Subscript o i p) env v = (do
      let ov ← holding [v] (eval o env)
      let iv ← holding [v, ov] (eval i env)
      standAt p
      holding [v, ov, iv] (setItem ov iv v)
      release [v, ov, iv] []) := by
  cases i <;> first | rfl | (simp [okX] at h)
/-- a comprehension that a name is set to -/
theorem okLc (F : Facts d c.gl c.bf) (Gk : GOk d c k cf) (nd : N.Nodup) {e : E} {elt : Expr} {gs : Comprehension} {scope : Scope} {p : Pos} {st : Str → Bool} (h : chkE c N e sc st (.ListComp elt [gs] scope p) = true) :
    ∃ t, SE d.K t (evE cf e) ∧ ∀ X, XOk d N k sc st X → ∀ (i : Nat) (y : Str) (py spos : Pos), N[i]? = some y → X.env.scope.names.lookup y = some .local → swapsWith (.ListComp elt [gs] scope p) (some (.Name y py)) spos.line X.env = pure true → PS X (.Assign [.Name y py] (.ListComp elt [gs] scope p) spos) (tAsg t (gName i)) := by
  cases e with
  | lc it own g t e =>
    match gs, h with
    | ⟨tg, iter, ifs, z⟩, h =>
      simp only [chkE, Bool.and_eq_true, decide_eq_true_eq] at h
      obtain ⟨⟨⟨⟨⟨⟨⟨hz, hio⟩, hi⟩, hb⟩, hgi⟩, hg⟩, ht⟩, he⟩ := h
      subst hz
      have ok := blkOk_by hb
      obtain ⟨wi, h1, h2⟩ := okI F Gk nd it sc st tg iter hi
      obtain ⟨tgr, h3, h4⟩ := pg_ok (d := d) (k := k) (sc := relS scope sc) (pr := []) hg (fun i _ => by simp)
      obtain ⟨_, te, h5, h6⟩ := okE F Gk nd e (relS scope sc) (stOf scope) _ he
      have hT : ∃ tt, ST d.K tt (evT cf t) ∧ ∀ X, XOk d N k (relS scope sc) (stOf scope) X → PTs X ifs tt := by
        match ifs, ht with
        | [], ht =>
          cases t <;> first | (simp at ht; done) | skip
          exact ⟨_, st_tt, fun X q => pts_nil⟩
        | [u], ht =>
          obtain ⟨tt, h7, h8⟩ := okT F Gk nd t (relS scope sc) (stOf scope) u ht
          exact ⟨tt, h7, fun X q => pts_one (h8 X q)⟩
        | _ :: _ :: _, ht => simp at ht
      obtain ⟨tt, h7, h8⟩ := hT
      refine ⟨_, se_lc h1 h3 (gin_of hgi) h7 h5, fun X q i y py spos hy hyl hsw => ?_⟩
      have hbX : BlkOk X.N X.env.scope scope (ownP N own) := by
        rw [q.N, q.scp]
        exact ok
      have w := ps_setLc (X := X) q.calm (by rw [q.N]; exact nd) (by rw [q.N]; exact hy) hyl hsw (h2 X q) hbX
        (fun s H C cl fp => h4 _ (q.blk ok.kind s H C cl fp) nd) (fun s H C cl fp => h8 _ (q.blk ok.kind s H C cl fp)) (fun s H C cl fp => h6 _ (q.blk ok.kind s H C cl fp)) (fold_ok hio)
      rw [own_map] at w
      exact w
  | lcb j own g t e =>
    simp only [chkE] at h
    split at h
    · rename_i y' tg z ifs scope' hx
      obtain ⟨p', pz, hx⟩ := lcbP_of hx
      cases hx
      simp only [Bool.and_eq_true] at h
      obtain ⟨⟨⟨⟨⟨hn, hb⟩, hgi⟩, hg⟩, ht⟩, he⟩ := h
      have ok := blkOk_by hb
      obtain ⟨tgr, h3, h4⟩ := pg_ok (d := d) (k := k) (sc := relS scope sc) (pr := []) hg (fun i _ => by simp)
      obtain ⟨_, te, h5, h6⟩ := okE F Gk nd e (relS scope sc) (stOf scope) _ he
      have hT : ∃ tt, ST d.K tt (evT cf t) ∧ ∀ X, XOk d N k (relS scope sc) (stOf scope) X → PTs X ifs tt := by
        match ifs, ht with
        | [], ht =>
          cases t <;> first | (simp [isTT] at ht; done) | skip
          exact ⟨_, st_tt, fun X q => pts_nil⟩
        | [u], ht =>
          obtain ⟨tt, h7, h8⟩ := okT F Gk nd t (relS scope sc) (stOf scope) u ht
          exact ⟨tt, h7, fun X q => pts_one (h8 X q)⟩
        | _ :: _ :: _, ht => simp at ht
      obtain ⟨tt, h7, h8⟩ := hT
      refine ⟨_, se_lcb h3 (gin_of hgi) h7 h5, fun X q i y py spos hy hyl hsw => ?_⟩
      have hbX : BlkOk X.N X.env.scope scope (ownP N own) := by
        rw [q.N, q.scp]
        exact ok
      have pe := pe_name (p := pz) hn q
      have pi := pi_or (pi_list (tg := tg) pe) (pi_or (pi_tup (tg := tg) pe) (pi_rngv (tg := tg) pe))
      rw [q.K] at pi
      have w := ps_setLc (X := X) q.calm (by rw [q.N]; exact nd) (by rw [q.N]; exact hy) hyl hsw pi hbX
        (fun s H C cl fp => h4 _ (q.blk ok.kind s H C cl fp) nd) (fun s H C cl fp => h8 _ (q.blk ok.kind s H C cl fp)) (fun s H C cl fp => h6 _ (q.blk ok.kind s H C cl fp)) (fold_ok rfl)
      rw [own_map] at w
      exact w
    · cases h
  | lck j own g t e =>
    simp only [chkE] at h
    split at h
    · rename_i y' tg z ifs scope' hx
      obtain ⟨p', pz, hx⟩ := lcbP_of hx
      cases hx
      simp only [Bool.and_eq_true] at h
      obtain ⟨⟨⟨⟨⟨hn, hb⟩, hgi⟩, hg⟩, ht⟩, he⟩ := h
      have ok := blkOk_by hb
      obtain ⟨tgr, h3, h4⟩ := pg_ok (d := d) (k := k) (sc := relS scope sc) (pr := []) hg (fun i _ => by simp)
      obtain ⟨_, te, h5, h6⟩ := okE F Gk nd e (relS scope sc) (stOf scope) _ he
      have hT : ∃ tt, ST d.K tt (evT cf t) ∧ ∀ X, XOk d N k (relS scope sc) (stOf scope) X → PTs X ifs tt := by
        match ifs, ht with
        | [], ht =>
          cases t <;> first | (simp [isTT] at ht; done) | skip
          exact ⟨_, st_tt, fun X q => pts_nil⟩
        | [u], ht =>
          obtain ⟨tt, h7, h8⟩ := okT F Gk nd t (relS scope sc) (stOf scope) u ht
          exact ⟨tt, h7, fun X q => pts_one (h8 X q)⟩
        | _ :: _ :: _, ht => simp at ht
      obtain ⟨tt, h7, h8⟩ := hT
      refine ⟨_, se_lck h3 (gin_of hgi) h7 h5, fun X q i y py spos hy hyl hsw => ?_⟩
      have hbX : BlkOk X.N X.env.scope scope (ownP N own) := by
        rw [q.N, q.scp]
        exact ok
      have pi := pi_keys (tg := tg) (pe_name (p := pz) hn q)
      have w := ps_setLc (X := X) q.calm (by rw [q.N]; exact nd) (by rw [q.N]; exact hy) hyl hsw pi hbX
        (fun s H C cl fp => h4 _ (q.blk ok.kind s H C cl fp) nd) (fun s H C cl fp => h8 _ (q.blk ok.kind s H C cl fp)) (fun s H C cl fp => h6 _ (q.blk ok.kind s H C cl fp)) (fold_ok rfl)
      rw [own_map] at w
      exact ps_lockDc w
    · cases h
  | prim p as => simp [chkE, argsOf] at h
  | nev => exact ⟨_, se_nev (t := fun _ _ _ => False), fun X q i y py spos _ _ _ => ⟨fun _ _ _ _ _ _ h => (show False from h).elim⟩⟩
  | rep as n => simp [chkE, repP] at h
  | lc2 it own g t it1 own1 g1 t1 e => simp [chkE, lc2P] at h
  | dc it own g t kk v => simp [chkE, dcP] at h
  | dck it own g t kk v => simp [chkE, dckP] at h
  | _ => simp [chkE] at h
/-- a dict comprehension that a name is set to -/
theorem okDc (F : Facts d c.gl c.bf) (Gk : GOk d c k cf) (nd : N.Nodup) {e : E} {kx vx : Expr} {gs : Comprehension} {scope : Scope} {p : Pos} {st : Str → Bool} (h : chkE c N e sc st (.DictComp kx vx [gs] scope p) = true) :
    ∃ t, SE d.K t (evE cf e) ∧ ∀ X, XOk d N k sc st X → ∀ (i : Nat) (y : Str) (py spos : Pos), N[i]? = some y → X.env.scope.names.lookup y = some .local → swapsWith (.DictComp kx vx [gs] scope p) (some (.Name y py)) spos.line X.env = pure true → PS X (.Assign [.Name y py] (.DictComp kx vx [gs] scope p) spos) (tAsg t (gName i)) := by
  cases e with
  | dc it own g t kk v =>
    simp only [chkE] at h
    split at h
    · rename_i kx' vx' tg iter ifs scope' hx
      obtain ⟨p', hx⟩ := dcP_of hx
      cases hx
      simp only [Bool.and_eq_true] at h
      obtain ⟨⟨⟨⟨⟨⟨⟨hio, hi⟩, hb⟩, hgi⟩, hg⟩, ht⟩, hk⟩, he⟩ := h
      have ok := blkOk_by hb
      obtain ⟨wi, h1, h2⟩ := okI F Gk nd it sc st tg iter hi
      obtain ⟨tgr, h3, h4⟩ := pg_ok (d := d) (k := k) (sc := relS scope sc) (pr := []) hg (fun i _ => by simp)
      obtain ⟨_, tk, k5, k6⟩ := okE F Gk nd kk (relS scope sc) (stOf scope) _ hk
      obtain ⟨_, te, h5, h6⟩ := okE F Gk nd v (relS scope sc) (stOf scope) _ he
      have hT : ∃ tt, ST d.K tt (evT cf t) ∧ ∀ X, XOk d N k (relS scope sc) (stOf scope) X → PTs X ifs tt := by
        match ifs, ht with
        | [], ht =>
          cases t <;> first | (simp [isTT] at ht; done) | skip
          exact ⟨_, st_tt, fun X q => pts_nil⟩
        | [u], ht =>
          obtain ⟨tt, h7, h8⟩ := okT F Gk nd t (relS scope sc) (stOf scope) u ht
          exact ⟨tt, h7, fun X q => pts_one (h8 X q)⟩
        | _ :: _ :: _, ht => simp at ht
      obtain ⟨tt, h7, h8⟩ := hT
      refine ⟨_, se_dc h1 h3 (gin_of hgi) h7 k5 h5, fun X q i y py spos hy hyl hsw => ?_⟩
      have hbX : BlkOk X.N X.env.scope scope (ownP N own) := by
        rw [q.N, q.scp]
        exact ok
      have w := ps_setDc (X := X) q.calm (by rw [q.N]; exact nd) (by rw [q.N]; exact hy) hyl hsw (h2 X q) hbX
        (fun s H C cl fp => h4 _ (q.blk ok.kind s H C cl fp) nd) (fun s H C cl fp => h8 _ (q.blk ok.kind s H C cl fp)) (fun s H C cl fp => k6 _ (q.blk ok.kind s H C cl fp)) (fun s H C cl fp => h6 _ (q.blk ok.kind s H C cl fp)) (fold_ok hio)
      rw [own_map] at w
      exact w
    · cases h
  | dck j own g t kk v =>
    simp only [chkE] at h
    split at h
    · rename_i kx' vx' tg z ifs scope' hx
      obtain ⟨p', pz, hx⟩ := dckP_of hx
      cases hx
      simp only [Bool.and_eq_true] at h
      obtain ⟨⟨⟨⟨⟨⟨hn, hb⟩, hgi⟩, hg⟩, ht⟩, hk⟩, he⟩ := h
      have ok := blkOk_by hb
      obtain ⟨tgr, h3, h4⟩ := pg_ok (d := d) (k := k) (sc := relS scope sc) (pr := []) hg (fun i _ => by simp)
      obtain ⟨_, tk, k5, k6⟩ := okE F Gk nd kk (relS scope sc) (stOf scope) _ hk
      obtain ⟨_, te, h5, h6⟩ := okE F Gk nd v (relS scope sc) (stOf scope) _ he
      have hT : ∃ tt, ST d.K tt (evT cf t) ∧ ∀ X, XOk d N k (relS scope sc) (stOf scope) X → PTs X ifs tt := by
        match ifs, ht with
        | [], ht =>
          cases t <;> first | (simp [isTT] at ht; done) | skip
          exact ⟨_, st_tt, fun X q => pts_nil⟩
        | [u], ht =>
          obtain ⟨tt, h7, h8⟩ := okT F Gk nd t (relS scope sc) (stOf scope) u ht
          exact ⟨tt, h7, fun X q => pts_one (h8 X q)⟩
        | _ :: _ :: _, ht => simp at ht
      obtain ⟨tt, h7, h8⟩ := hT
      refine ⟨_, se_dck h3 (gin_of hgi) h7 k5 h5, fun X q i y py spos hy hyl hsw => ?_⟩
      have hbX : BlkOk X.N X.env.scope scope (ownP N own) := by
        rw [q.N, q.scp]
        exact ok
      have w := ps_setDc (X := X) q.calm (by rw [q.N]; exact nd) (by rw [q.N]; exact hy) hyl hsw (pi_keys (tg := tg) (pe_name (p := pz) hn q)) hbX
        (fun s H C cl fp => h4 _ (q.blk ok.kind s H C cl fp) nd) (fun s H C cl fp => h8 _ (q.blk ok.kind s H C cl fp)) (fun s H C cl fp => k6 _ (q.blk ok.kind s H C cl fp)) (fun s H C cl fp => h6 _ (q.blk ok.kind s H C cl fp)) (fold_ok rfl)
      rw [own_map] at w
      exact ps_lockDc w
    · cases h
  | prim p as => simp [chkE, argsOf] at h
  | nev => exact ⟨_, se_nev (t := fun _ _ _ => False), fun X q i y py spos _ _ _ => ⟨fun _ _ _ _ _ _ h => (show False from h).elim⟩⟩
  | rep as n => simp [chkE, repP] at h
  | lc2 it own g t it1 own1 g1 t1 e => simp [chkE, lc2P] at h
  | lcb i own g t e => simp [chkE, lcbP] at h
  | lck i own g t e => simp [chkE, lcbP] at h
  | _ => simp [chkE] at h
theorem okLc2 (F : Facts d c.gl c.bf) (Gk : GOk d c k cf) (nd : N.Nodup) {e : E} {elt : Expr} {gs gs2 : Comprehension} {scope : Scope} {p : Pos} {st : Str → Bool} (h : chkE c N e sc st (.ListComp elt [gs, gs2] scope p) = true) :
    ∃ t, SE d.K t (evE cf e) ∧ ∀ X, XOk d N k sc st X → ∀ (i : Nat) (y : Str) (py spos : Pos), N[i]? = some y → X.env.scope.names.lookup y = some .local → swapsWith (.ListComp elt [gs, gs2] scope p) (some (.Name y py)) spos.line X.env = pure true → PS X (.Assign [.Name y py] (.ListComp elt [gs, gs2] scope p) spos) (tAsg t (gName i)) := by
  cases e with
  | lc2 it own g t it1 own1 g1 t1 e =>
    simp only [chkE] at h
    split at h
    · rename_i y' tg iter ifs tg1 iter1 ifs1 scope' hx
      obtain ⟨p', hx⟩ := lc2P_of hx
      cases hx
      simp only [Bool.and_eq_true, decide_eq_true_eq, List.all_eq_true] at h
      obtain ⟨⟨⟨⟨⟨⟨⟨⟨⟨⟨⟨⟨hio, hio1⟩, hi⟩, hb⟩, hgi⟩, hgi1⟩, ho⟩, hg⟩, hg1⟩, ht⟩, hi1⟩, ht1⟩, he⟩ := h
      have ok := blkOk_by hb
      obtain ⟨wi, h1, h2⟩ := okI F Gk nd it sc st tg iter hi
      obtain ⟨tgr, h3, h4⟩ := pg_ok (d := d) (k := k) (sc := relS scope sc) (pr := []) hg (fun i _ => by simp)
      obtain ⟨wi1, j1, j2⟩ := okI F Gk nd it1 (relS scope sc) (stOf scope) tg1 iter1 hi1
      obtain ⟨tgr1, j3, j4⟩ := pg_ok (d := d) (k := k) (sc := relS scope sc) (pr := []) hg1 (fun i _ => by simp)
      obtain ⟨_, te, h5, h6⟩ := okE F Gk nd e (relS scope sc) (stOf scope) _ he
      have hT : ∃ tt, ST d.K tt (evT cf t) ∧ ∀ X, XOk d N k (relS scope sc) (stOf scope) X → PTs X ifs tt := by
        match ifs, ht with
        | [], ht =>
          cases t <;> first | (simp [isTT] at ht; done) | skip
          exact ⟨_, st_tt, fun X q => pts_nil⟩
        | [u], ht =>
          obtain ⟨tt, h7, h8⟩ := okT F Gk nd t (relS scope sc) (stOf scope) u ht
          exact ⟨tt, h7, fun X q => pts_one (h8 X q)⟩
        | _ :: _ :: _, ht => simp at ht
      have hT1 : ∃ tt, ST d.K tt (evT cf t1) ∧ ∀ X, XOk d N k (relS scope sc) (stOf scope) X → PTs X ifs1 tt := by
        match ifs1, ht1 with
        | [], ht =>
          cases t1 <;> first | (simp [isTT] at ht; done) | skip
          exact ⟨_, st_tt, fun X q => pts_nil⟩
        | [u], ht =>
          obtain ⟨tt, h7, h8⟩ := okT F Gk nd t1 (relS scope sc) (stOf scope) u ht
          exact ⟨tt, h7, fun X q => pts_one (h8 X q)⟩
        | _ :: _ :: _, ht => simp at ht
      obtain ⟨tt, h7, h8⟩ := hT
      obtain ⟨tt1, j7, j8⟩ := hT1
      refine ⟨_, se_lc2 h1 h3 (gin_of hgi) h7 j1 j3 (gin_of hgi1) ho j7 h5, fun X q i y py spos hy hyl hsw => ?_⟩
      have hbX : BlkOk X.N X.env.scope scope (ownP N own) := by
        rw [q.N, q.scp]
        exact ok
      have w := ps_setLc2 (X := X) (vs1 := own1) q.calm (by rw [q.N]; exact nd) (by rw [q.N]; exact hy) hyl hsw (h2 X q) hbX (by rw [own_map]; exact ho)
        (fun s H C cl fp => h4 _ (q.blk ok.kind s H C cl fp) nd) (fun s H C cl fp => h8 _ (q.blk ok.kind s H C cl fp))
        (fun s H C cl fp => j2 _ (q.blk ok.kind s H C cl fp)) (fun s H C cl fp => j4 _ (q.blk ok.kind s H C cl fp) nd) (fun s H C cl fp => j8 _ (q.blk ok.kind s H C cl fp))
        (fun s H C cl fp => h6 _ (q.blk ok.kind s H C cl fp)) (fold_ok hio) (fun env => fold_ok hio1)
      rw [own_map] at w
      exact w
    · cases h
  | prim p as => simp [chkE, argsOf] at h
  | nev => exact ⟨_, se_nev (t := fun _ _ _ => False), fun X q i y py spos _ _ _ => ⟨fun _ _ _ _ _ _ h => (show False from h).elim⟩⟩
  | rep as n => simp [chkE, repP] at h
  | lcb i own g t e => simp [chkE, lcbP] at h
  | dc it own g t k v => simp [chkE, dcP] at h
  | dck i own g t k v => simp [chkE, dckP] at h
  | lck i own g t e => simp [chkE, lcbP] at h
  | _ => simp [chkE] at h
mutual
theorem okQ (F : Facts d c.gl c.bf) (Gk : GOk d c k cf) (nd : N.Nodup) (w : Nat) (pr : List Nat) : ∀ (q : Q) (s : Stmt), chkQ c N pr q sc s = true → GoodQ d N pr k sc s (exQ cf w q)
  | .asg g e, s, h => by
    simp only [chkQ] at h
    split at h
    · rename_i tg x hs
      obtain ⟨p, rfl⟩ := asgP_of hs
      simp only [Bool.and_eq_true, Bool.or_eq_true] at h
      obtain ⟨⟨⟨h1, h2⟩, h3⟩, h4⟩ := h
      obtain ⟨tgr, g1, g2⟩ := pg_ok (d := d) (k := k) (sc := sc) h1 (gOut_of h2)
      by_cases h2s : lc2Sw sc tg x = true
      · by_cases hx : ∃ y py elt gs gs2 scope p, tg = .Name y py ∧ x = .ListComp elt [gs, gs2] scope p
        · obtain ⟨y, py, elt, gs, gs2, scope, p', rfl, rfl⟩ := hx
          obtain ⟨t, e1, e2⟩ := okLc2 F Gk nd h3
          cases g with
          | tp l => simp [chkG] at h1
          | tn l => simp [chkG] at h1
          | nm i =>
            simp only [chkG, Bool.and_eq_true, decide_eq_true_eq] at h1
            refine ⟨_, sq_asg e1 (sg_nm (gOut_of h2 i rfl)), fun X q => ?_⟩
            obtain ⟨_, _, _, _, _, _, _, r1, r2, r3, r4⟩ := lc2Sw_of q (l := p.line) h2s
            cases r1
            cases r2
            exact e2 X q i y py p h1.1 r3 r4
        · exfalso
          apply hx
          unfold lc2Sw at h2s
          split at h2s
          · exact ⟨_, _, _, _, _, _, _, rfl, rfl⟩
          · cases h2s
      have h4 := h4.resolve_right h2s
      by_cases hds : dcSw sc tg x = true
      · by_cases hx : ∃ y py kx vx gs scope p, tg = .Name y py ∧ x = .DictComp kx vx [gs] scope p
        · obtain ⟨y, py, kx, vx, gs, scope, p', rfl, rfl⟩ := hx
          obtain ⟨t, e1, e2⟩ := okDc F Gk nd h3
          cases g with
          | tp l => simp [chkG] at h1
          | tn l => simp [chkG] at h1
          | nm i =>
            simp only [chkG, Bool.and_eq_true, decide_eq_true_eq] at h1
            refine ⟨_, sq_asg e1 (sg_nm (gOut_of h2 i rfl)), fun X q => ?_⟩
            obtain ⟨_, _, _, _, _, _, _, r1, r2, r3, r4⟩ := dcSw_of q (l := p.line) hds
            cases r1
            cases r2
            exact e2 X q i y py p h1.1 r3 r4
        · exfalso
          apply hx
          unfold dcSw at hds
          split at hds
          · exact ⟨_, _, _, _, _, _, _, rfl, rfl⟩
          · cases hds
      by_cases hdl : dcCell sc tg x = true
      · obtain ⟨o1, te, e1, e2⟩ := okE F Gk nd e sc (stOf sc) x h3
        exact ⟨_, sq_asg e1 g1, fun X q => ps_asg (e2 X q) (g2 X q nd) (dcCell_of q hdl).1 (dcCell_of (l := 0) q hdl).2 (asg_ok h1)⟩
      have h4 := (h4.resolve_right hdl).resolve_right hds
      by_cases hlc : lcSw sc tg x = true
      · by_cases hx : ∃ y py elt gs scope p, tg = .Name y py ∧ x = .ListComp elt [gs] scope p
        · obtain ⟨y, py, elt, gs, scope, p', rfl, rfl⟩ := hx
          obtain ⟨t, e1, e2⟩ := okLc F Gk nd h3
          cases g with
          | tp l => simp [chkG] at h1
          | tn l => simp [chkG] at h1
          | nm i =>
            simp only [chkG, Bool.and_eq_true, decide_eq_true_eq] at h1
            refine ⟨_, sq_asg e1 (sg_nm (gOut_of h2 i rfl)), fun X q => ?_⟩
            obtain ⟨_, _, _, _, _, _, r1, r2, r3, r4⟩ := lcSw_of q (l := p.line) hlc
            cases r1
            cases r2
            exact e2 X q i y py p h1.1 r3 r4
        · exfalso
          apply hx
          unfold lcSw at hlc
          split at hlc
          · exact ⟨_, _, _, _, _, _, rfl, rfl⟩
          · cases hlc
      · have h4 : (notLc x = true ∧ noSw sc tg x = true) ∨ lcCell sc tg x = true := by
          rcases h4 with (h | h) | h
          · exact .inl h
          · exact (hlc h).elim
          · exact .inr h
        obtain ⟨o1, te, e1, e2⟩ := okE F Gk nd e sc (stOf sc) x h3
        by_cases hcl : lcCell sc tg x = true
        · exact ⟨_, sq_asg e1 g1, fun X q => ps_asg (e2 X q) (g2 X q nd) (lcCell_of q hcl).1 (lcCell_of (l := 0) q hcl).2 (asg_ok h1)⟩
        have h4 := h4.resolve_right hcl
        exact ⟨_, sq_asg e1 g1, fun X q => ps_asg (e2 X q) (g2 X q nd) (sole_ok o1 h4.1) (noSw_of q h4.2) (asg_ok h1)⟩
    · cases h
  | .par i j a b, s, h => by
    simp only [chkQ, Bool.and_eq_true, Bool.not_eq_true', decide_eq_false_iff_not] at h
    obtain ⟨⟨h1, h2⟩, h3⟩ := h
    split at h3
    · rename_i tg x hs
      obtain ⟨p, rfl⟩ := asgP_of hs
      split at h3
      · rename_i ea eb hp
        simp only [Bool.and_eq_true] at h3
        obtain ⟨o1, ta, a1, a2⟩ := okE F Gk nd a sc (stOf sc) _ h3.1
        obtain ⟨o2, tb, b1, b2⟩ := okE F Gk nd b sc (stOf sc) _ h3.2
        refine ⟨_, sq_par a1 b1 h1 h2, fun X q => ?_⟩
        obtain ⟨y, z, py, pz, k1, p1, k2, p2, rfl, rfl, r1, r2, r3, r4, r5, r6⟩ := parB_of q hp o1 o2
        exact ps_par q.calm (by rw [q.N]; exact nd) (by rw [q.N]; exact r1) (by rw [q.N]; exact r2) r3 r4 r5 (pa_cons (a2 X q) (pa_cons (b2 X q) pa_nil (star_ok o2)) (star_ok o1)) r6
      · cases h3
    · cases h3
  | .sto i kk v, s, h => by
    simp only [chkQ] at h
    split at h
    · rename_i y ke x hs
      obtain ⟨py, pp, p, rfl⟩ := stoP_of hs
      simp only [Bool.and_eq_true] at h
      obtain ⟨⟨⟨h1, h2⟩, h3⟩, h4⟩ := h
      obtain ⟨o1, tk, a1, a2⟩ := okE F Gk nd kk sc (stOf sc) _ h3
      obtain ⟨o2, tv, b1, b2⟩ := okE F Gk nd v sc (stOf sc) _ h4
      refine ⟨_, sq_sto a1 b1, fun X q => ?_⟩
      have n := pe_name (p := py) h1 q
      have w1 : PS X (.Assign [.Subscript (.Name y py) ke pp] x p) (tAsg tv (gSub (tVar i) tk rSetL)) := ps_asg (b2 X q) (pg_sub n (a2 X q) set_list (sub_ok o1)) (sole_ok o2 h2) rfl
      have w2 : PS X (.Assign [.Subscript (.Name y py) ke pp] x p) (sDPut (tVar i) tk tv) := ps_dput (by have := q.u65; omega) n (a2 X q) (b2 X q) (swap_ok o2 h2)
      exact ⟨fun pins s σ H D I z => z.elim (w1.run pins s σ H D I) (w2.run pins s σ H D I)⟩
    · cases h
  | .sw i k1 k2 a b, s, h => by
    simp only [chkQ] at h
    split at h
    · rename_i x1 e1 x2 e2 ea eb tg v hs
      obtain ⟨p1, p2, p3, p4, u1, p5, u2, p6, p, rfl, rfl, rfl⟩ := swP_of hs
      simp only [Bool.and_eq_true] at h
      obtain ⟨⟨⟨⟨⟨⟨h1, h2⟩, h3⟩, h4⟩, h5⟩, h6⟩, h7⟩ := h
      obtain ⟨o1, tk1, k11, k12⟩ := okE F Gk nd k1 sc (stOf sc) _ h3
      obtain ⟨o2, tk2, k21, k22⟩ := okE F Gk nd k2 sc (stOf sc) _ h4
      obtain ⟨o3, ta, a1, a2⟩ := okE F Gk nd a sc (stOf sc) _ h5
      obtain ⟨o4, tb, b1, b2⟩ := okE F Gk nd b sc (stOf sc) _ h6
      refine ⟨_, sq_sw k11 k21 a1 b1, fun X q => ?_⟩
      have n1 := pe_name (p := p1) h1 q
      have n2 := pe_name (p := p3) h2 q
      have pt : PE X (.Tuple [ea, eb] u2 p6) (tTup (tCons ta (tCons tb tNil))) := pe_tup (pa_cons (a2 X q) (pa_cons (b2 X q) pa_nil (star_ok o4)) (star_ok o3))
      have g := pg_tup (X := X) (k := u1) (pos := p5) q.calm (pgs_cons (pg_sub (pos := p2) n1 (k12 X q) set_list (sub_ok o1)) (pgs_cons (pg_sub (pos := p4) n2 (k22 X q) set_list (sub_ok o2)) pgs_nil rfl) rfl) rfl rfl
      rw [q.K] at g
      exact ps_asg pt g (sole_ok rfl rfl) (noSw_of q h7) rfl
    · cases h
  | .exp e, s, h => by
    cases s <;> first | (simp [chkQ] at h; done) | skip
    simp only [chkQ, Bool.and_eq_true] at h
    obtain ⟨o1, te, e1, e2⟩ := okE F Gk nd e sc (stOf sc) _ h.2
    exact ⟨_, sq_exp e1, fun X q => ps_expr (e2 X q) (swap_ok o1 h.1)⟩
  | .ret e, s, h => by
    cases s <;> first | (simp [chkQ] at h; done) | skip
    rename_i v p
    cases v <;> first | (simp [chkQ] at h; done) | skip
    simp only [chkQ] at h
    obtain ⟨o1, te, e1, e2⟩ := okE F Gk nd e sc (stOf sc) _ h
    exact ⟨_, sq_ret e1, fun X q => ps_ret (e2 X q)⟩
  | .ret0, s, h => by
    cases s <;> first | (simp [chkQ] at h; done) | skip
    rename_i v p
    cases v <;> first | (simp [chkQ] at h; done) | skip
    exact ⟨_, sq_ret0, fun X q => ps_retN⟩
  | .iff t a b, s, h => by
    cases s <;> first | (simp [chkQ] at h; done) | skip
    simp only [chkQ, Bool.and_eq_true] at h
    obtain ⟨tt, t1, t2⟩ := okT F Gk nd t sc (stOf sc) _ h.1.1
    obtain ⟨ta, a1, a2⟩ := okB F Gk nd w pr a _ h.1.2
    obtain ⟨tb, b1, b2⟩ := okB F Gk nd w pr b _ h.2
    exact ⟨_, sq_iff t1 a1 b1, fun X q => ps_if (t2 X q) (a2 X q) (b2 X q)⟩
  | .whl t b, s, h => by
    cases s <;> first | (simp [chkQ] at h; done) | skip
    rename_i x p els pp
    cases els <;> first | (simp [chkQ] at h; done) | skip
    simp only [chkQ, Bool.and_eq_true] at h
    obtain ⟨tt, t1, t2⟩ := okT F Gk nd t sc (stOf sc) _ h.1
    obtain ⟨tb, b1, b2⟩ := okB F Gk nd w pr b _ h.2
    exact ⟨_, sq_whl t1 b1, fun X q => ps_while q.passes (t2 X q) (b2 X q)⟩
  | .fo it g b, s, h => by
    cases s <;> first | (simp [chkQ] at h; done) | skip
    rename_i tg iter p els pp
    cases els <;> first | (simp [chkQ] at h; done) | skip
    simp only [chkQ, Bool.and_eq_true] at h
    obtain ⟨⟨⟨⟨h1, h2⟩, h3⟩, h4⟩, h5⟩ := h
    obtain ⟨wi, i1, i2⟩ := okI F Gk nd it sc (stOf sc) _ _ h2
    obtain ⟨tgr, g1, g2⟩ := pg_ok (d := d) (k := k) (sc := sc) h3 (gOut_of h4)
    obtain ⟨tb, b1, b2⟩ := okB F Gk nd w pr b _ h5
    exact ⟨_, sq_fo i1 g1 b1, fun X q => ps_for q.passes q.calm (i2 X q) (g2 X q nd) (b2 X q) (fold_ok h1)⟩
  | .fok i g b, s, h => by
    cases s <;> first | (simp [chkQ] at h; done) | skip
    rename_i tg iter p els pp
    cases iter <;> first | (simp [chkQ] at h; done) | skip
    rename_i y py
    cases els <;> first | (simp [chkQ] at h; done) | skip
    simp only [chkQ, Bool.and_eq_true] at h
    obtain ⟨⟨⟨h1, h3⟩, h4⟩, h5⟩ := h
    obtain ⟨tgr, g1, g2⟩ := pg_ok (d := d) (k := k) (sc := sc) h3 (gOut_of h4)
    obtain ⟨tb, b1, b2⟩ := okB F Gk nd w pr b _ h5
    refine ⟨_, sq_fok g1 b1, fun X q => ?_⟩
    have w := ps_for (pos := pp) q.passes q.calm (pi_keys (tg := tg) (pe_name (p := py) h1 q)) (g2 X q nd) (b2 X q) (fold_ok rfl)
    exact ps_or' (ps_lock w) w
  | .brk, s, h => by
    cases s <;> first | (simp [chkQ] at h; done) | skip
    exact ⟨_, sq_brk, fun X q => ps_break⟩
  | .cnt, s, h => by
    cases s <;> first | (simp [chkQ] at h; done) | skip
    exact ⟨_, sq_cnt, fun X q => ps_continue⟩
  | .nev, s, h => ⟨tNever, sq_nev, fun X q => ps_never⟩
  | .pas, s, h => by
    cases s <;> first | (simp [chkQ] at h; done) | skip
    exact ⟨_, sq_pas, fun X q => ps_pass⟩
theorem okB (F : Facts d c.gl c.bf) (Gk : GOk d c k cf) (nd : N.Nodup) (w : Nat) (pr : List Nat) : ∀ (b : B) (ss : List Stmt), chkB c N pr b sc ss = true → GoodB d N pr k sc ss (exB cf w b)
  | .nil, ss, h => by
    cases ss with
    | nil => exact ⟨_, sq_nil, fun X q => pss_nil⟩
    | cons _ _ => simp [chkB] at h
  | .cons q r, ss, h => by
    cases ss with
    | nil => simp [chkB] at h
    | cons s t =>
      simp only [chkB, Bool.and_eq_true] at h
      obtain ⟨ta, a1, a2⟩ := okQ F Gk nd w pr q s h.1
      obtain ⟨tb, b1, b2⟩ := okB F Gk nd w pr r t h.2
      exact ⟨_, sq_cons a1 b1, fun X q => pss_cons (a2 X q) (b2 X q)⟩
end
end
end Mi
end
section
namespace Mi
open PySem PySem.Spec PyProof.Rows L2
section
variable {K : PySem.W.Frag} {Z H Z' H' : Hp} {ρ ρ' : Ev} {σ σ' : L2.St} {Fs Fs' : Nat → Fp} {A : Fp}
/-- more names, none of them bound -/
theorem getO_app {l : List SD} {m i : Nat} : getO (l.map some ++ List.replicate m none) i = getO (l.map some) i := by
  unfold getO
  rw [List.getElem?_append]
  split
  · rfl
  · rename_i h
    have e : (l.map some)[i]? = none := List.getElem?_eq_none (by omega)
    rw [e, List.getElem?_replicate]
    split <;> rfl
theorem getO_map' {l : List SD} {i : Nat} : getO (l.map some) i = l[i]? := by
  unfold getO
  rw [List.getElem?_map]
  cases l[i]? <;> rfl
theorem R.more {l : List SD} {vs : List V} {m : Nat} (r : R K Z H (l.map some) (vs.map some) Fs) : R K Z H (l.map some ++ List.replicate m none) (vs.map some ++ List.replicate m none) Fs where
  len := by
    have := r.len
    simp only [List.length_append, List.length_replicate]
    omega
  sub := r.sub
  rep := fun i sd e => by
    rw [getO_app] at e
    obtain ⟨v, h1, h2⟩ := r.rep i sd e
    refine ⟨v, ?_, h2⟩
    rw [List.getElem?_append_left (List.getElem?_eq_some_iff.mp h1).1]
    exact h1
  out := fun i e a f => r.out i (by rw [getO_app] at e; exact e) a f
  one := r.one
/-- what is handed back -/
def outF (io : List Nat) (Fs : Nat → Fp) : Nat → Fp := fun j a => j ∈ io ∧ Fs j a
theorem outs_get {io : List Nat} : ∀ {l : List SD} {os : List SD} {j : Nat}, outs io ρ j l = some os → os.length = l.length ∧ ∀ i sd, os[i]? = some sd → (j + i ∈ io ∧ getO ρ (j + i) = some sd) ∨ (j + i ∉ io ∧ l[i]? = some sd ∧ sd.1 = .z)
  | [], os, j, h => by
    cases h
    exact ⟨rfl, fun i sd e => by simp at e⟩
  | a :: l, os, j, h => by
    simp only [outs, Option.bind_eq_some_iff] at h
    obtain ⟨t, ht, h⟩ := h
    obtain ⟨h1, h2⟩ := outs_get ht
    have step : ∀ i sd, t[i]? = some sd → (j + (i + 1) ∈ io ∧ getO ρ (j + (i + 1)) = some sd) ∨ (j + (i + 1) ∉ io ∧ (a :: l)[i + 1]? = some sd ∧ sd.1 = .z) := fun i sd e => by
      have e1 : j + (i + 1) = j + 1 + i := by omega
      rw [e1]
      simpa using h2 i sd e
    split at h
    · rename_i hj
      obtain ⟨x, hx, h⟩ := Option.bind_eq_some_iff.mp h
      cases h
      refine ⟨by simp [h1], fun i sd e => ?_⟩
      cases i with
      | zero =>
        simp at e
        subst e
        exact .inl ⟨hj, hx⟩
      | succ i => exact step i sd (by simpa using e)
    · rename_i hj
      split at h
      · rename_i hz
        cases h
        refine ⟨by simp [h1], fun i sd e => ?_⟩
        cases i with
        | zero =>
          simp at e
          subst e
          exact .inr ⟨hj, rfl, hz⟩
        | succ i => exact step i sd (by simpa using e)
      · cases h
theorem R.outs {l os : List SD} {vs : List V} {io : List Nat} {m : Nat} (r0 : R K Z H (l.map some) (vs.map some) Fs) (t : Tr Z H (Al Fs) Z' H' (Al Fs')) (r : R K Z' H' ρ' σ' Fs') (k : Keep io (vs.map some ++ List.replicate m none) σ') (hio : ∀ i ∈ io, i < l.length)
    (h : Mi.outs io ρ' 0 l = some os) : R K Z' H' (os.map some) (vs.map some) (outF io Fs') := by
  obtain ⟨h1, h2⟩ := outs_get h
  have hl := r0.len
  simp only [List.length_map] at hl
  refine ⟨by simp [h1, hl], r.sub, fun i sd e => ?_, fun i e a f => ?_, fun i j a f g => r.one i j a f.2 g.2⟩
  · rw [getO_map'] at e
    have hi := (List.getElem?_eq_some_iff.mp e).1
    rcases h2 i sd e with ⟨q1, q2⟩ | ⟨q1, q2, q3⟩
    · rw [Nat.zero_add] at q1 q2
      obtain ⟨v, e1, e2⟩ := r.rep i sd q2
      rw [k i q1, List.getElem?_append_left (by rw [List.length_map]; omega)] at e1
      refine ⟨v, e1, ?_⟩
      have e : outF io Fs' i = Fs' i := funext fun a => propext ⟨fun q => q.2, fun q => ⟨q1, q⟩⟩
      rw [e]
      exact e2
    · rw [Nat.zero_add] at q1
      obtain ⟨v, e1, e2⟩ := r0.rep i sd (by rw [getO_map']; exact q2)
      obtain ⟨s, dd⟩ := sd
      cases q3
      refine ⟨v, e1, e2.1.mono t.zz, fun a f => q1 f.1⟩
  · rw [getO_map'] at e
    have hi := hio i f.1
    rw [List.getElem?_eq_none_iff] at e
    omega
end
section
variable {d : Md} {c : Cg} {w : Nat}
/-- the scope's look: its kind, its names -/
def notFree : NameKind → Bool
  | .free => false
  | _ => true
def scopeB (N P : List Str) (sc : Scope) : Bool :=
  (match sc.kind with
    | .function => true
    | _ => false) && (!sc.isCoroutine && !sc.isGenerator) && (decide N.Nodup && (N.take P.length == P)) && ((P.all fun x => locB sc x) && sc.names.all fun y => notFree y.2)
theorem scopeB_of {N P : List Str} {sc : Scope} (h : scopeB N P sc = true) : FnScope N P sc := by
  unfold scopeB at h
  simp only [Bool.and_eq_true, Bool.not_eq_true', decide_eq_true_eq, List.all_eq_true] at h
  obtain ⟨⟨⟨h1, h2, h3⟩, h4, h5⟩, h6, h7⟩ := h
  refine ⟨?_, h2, h3, h4, eq_of_beq h5, fun x hx => loc_of (h6 x hx), fun y hy e => ?_⟩
  · split at h1
    · assumption
    · cases h1
  · have := h7 y hy
    rw [e] at this
    cases this
/-- a def of the table and of the text -/
structure DefOk (c : Cg) (fn : Fn) (dd : He.DefD) : Prop where
  sc : scopeB fn.N (fn.N.take fn.np) dd.scope = true
  np : fn.np ≤ fn.N.length
  io : ∀ i ∈ fn.io, i < fn.np
  body : chkB c fn.N fn.io fn.body dd.scope dd.body = true
def defB (c : Cg) (fn : Fn) (dd : He.DefD) : Bool := scopeB fn.N (fn.N.take fn.np) dd.scope && decide (fn.np ≤ fn.N.length) && fn.io.all (fun i => decide (i < fn.np)) && chkB c fn.N fn.io fn.body dd.scope dd.body
theorem defB_of {fn : Fn} {dd : He.DefD} (h : defB c fn dd = true) : DefOk c fn dd := by
  unfold defB at h
  simp only [Bool.and_eq_true, decide_eq_true_eq, List.all_eq_true] at h
  exact ⟨h.1.1.1, h.1.1.2, h.1.2, h.2⟩
/-- it stands behind the top -/
def Stands (d : Md) (fn : Fn) (dd : He.DefD) : Prop := ∃ (a : Addr) (fd : FuncData), d.mg fn.nm = some (.ref a) ∧ Binds d.K fd (fn.N.take fn.np) [] ∧ FunD d.K fn.nm fn.nm dd.params dd.body dd.scope [] [] a fd
theorem fn_step (F : Facts d c.gl c.bf) {k f : Nat} {fn : Fn} {dd : He.DefD} {a : Addr} {fd : FuncData} (ih : GOk d c k (callF c.Gt w k)) (e : c.Gt f = some fn) (O : DefOk c fn dd) (h3 : FunD d.K fn.nm fn.nm dd.params dd.body dd.scope [] [] a fd) :
    FnOk d.P d.w d.K d.mg d.base CX0 (k + 1) a fd (fn.N.take fn.np) (spOf d.K (callF c.Gt w (k + 1)) f) := by
  have S := scopeB_of O.sc
  have hlen : ∀ vs H Q E, spOf d.K (callF c.Gt w (k + 1)) f vs H Q E → vs.length = fn.np := fun vs H Q E h => by
    obtain ⟨Z, Fs, args, r, os, R0, hc, _⟩ := h
    simp only [callF, e, Option.bind_some] at hc
    split at hc
    · rename_i hl
      have := R0.len
      simp only [List.length_map] at this
      omega
    · cases hc
  have htk : (fn.N.take fn.np).length = fn.np := by
    rw [List.length_take]
    have := O.np
    omega
  refine h3.ok S (fun vs H Q E h => by rw [hlen vs H Q E h, htk]) fun cdv A outer s H vs Q E hr hsp => ?_
  have hvl := hlen vs H Q E hsp
  obtain ⟨tb, g1, g2⟩ := okB (d := d) (k := k) (sc := dd.scope) F ih S.nd w fn.io fn.body dd.body O.body
  refine ⟨tb, PSs.nox (g2 _ ⟨rfl, rfl, rfl, rfl, rfl, rfl, rfl, S.kind, rfl, hr, rfl, fun x hx => ?_⟩), ?_⟩
  · refine ⟨?_, .inl rfl⟩
    unfold stOf at hx
    split at hx
    · exact .inl (by assumption)
    · exact .inr (by assumption)
    · cases hx
  · obtain ⟨Z, Fs, args, r, os, R0, hc, q⟩ := hsp
    simp only [callF, e, Option.bind_some] at hc
    split at hc
    · rename_i hl
      obtain ⟨⟨fl, ρ'⟩, hx, hc⟩ := Option.bind_eq_some_iff.mp hc
      have hst : L2.start fn.N vs = vs.map some ++ List.replicate (fn.N.length - fn.np) none := by
        unfold L2.start
        rw [hvl]
      rw [hst]
      refine g1 _ _ Z H Fs fl ρ' R0.more hx _ ?_
      have hio : ∀ i ∈ fn.io, i < args.length := fun i hi => by
        rw [hl]
        exact O.io i hi
      cases fl with
      | nx =>
        obtain ⟨o, ho, hc⟩ := Option.bind_eq_some_iff.mp hc
        cases hc
        exact fun σ' Z' H' Fs' t r2 kp => q _ Z' H' (outF fn.io Fs') (fun _ => False) (t.less fun a ⟨j, f⟩ => ⟨j, f.2⟩) (R0.outs t r2 kp hio ho) ⟨.non, fun _ z => z⟩ (fun _ z => z.elim) fun _ z => z.elim
      | rt x =>
        obtain ⟨o, ho, hc⟩ := Option.bind_eq_some_iff.mp hc
        cases hc
        exact fun v σ' Z' H' Fs' F' x2 kp => q v Z' H' (outF fn.io Fs') F' (x2.tr.less fun a ⟨j, f⟩ => ⟨j, f.2⟩) (R0.outs x2.tr x2.r kp hio ho) x2.rep (fun a f ⟨j, g⟩ => x2.dis a f ⟨j, g.2⟩) x2.fr
      | bk => cases hc
      | ct => cases hc
    · cases hc
theorem gok (F : Facts d c.gl c.bf) (D : ∀ f fn, c.Gt f = some fn → ∃ dd, DefOk c fn dd ∧ Stands d fn dd) : ∀ k, GOk d c k (callF c.Gt w k)
  | 0, f, fn, e => by
    obtain ⟨dd, _, a, fd, h1, h2, h3⟩ := D f fn e
    have no : ∀ vs H Q E, spOf d.K (callF c.Gt w 0) f vs H Q E → False := fun vs H Q E h => by
      obtain ⟨_, _, _, _, _, _, z, _⟩ := h
      cases z
    exact ⟨a, fd, _, h1, h3.kp, h2, ⟨fun vs H Q E h => (no _ _ _ _ h).elim, fun A outer s H args us vs Q E _ _ _ _ h => (no _ _ _ _ h).elim⟩⟩
  | k + 1, f, fn, e => by
    obtain ⟨dd, O, a, fd, h1, h2, h3⟩ := D f fn e
    exact ⟨a, fd, _, h1, h3.kp, h2, fn_step F (gok F D k) e O h3⟩
end
end Mi
end
section
namespace Mi
open PySem PySem.Spec PyProof.Rows L2
section
variable {d : Md} {c : Cg} {w : Nat}
def scriptD (ns : List Int) : D := .list (ns.map PyData.int)
theorem fz_ints {K : PySem.W.Frag} {Z : Hp} : ∀ {ns : List Int}, Fzs K Z (ns.map V.int) (ns.map PyData.int)
  | [] => .nil
  | _ :: _ => .cons (.int _) fz_ints
/-- the script is kept for good -/
theorem script_R {K : PySem.W.Frag} {H : Hp} {a : Addr} {ns : List Int} (h : SqL K H a (ns.map V.int)) : ∃ Z, R K Z H [some (.z, scriptD ns)] [some (.ref a)] fun _ _ => False := by
  have key : ∀ Z, Sub Z H → ZL K Z a (ns.map V.int) → R K Z H [some (.z, scriptD ns)] [some (.ref a)] fun _ _ => False := fun Z s z => ⟨rfl, s, fun i sd e => by
    cases i with
    | zero =>
      have e : some (S.z, scriptD ns) = some sd := e
      cases e
      exact ⟨_, rfl, .lst z fz_ints, fun _ h => h⟩
    | succ i =>
      have e : getO [some (S.z, scriptD ns)] (i + 1) = some sd := e
      simp [getO] at e, fun _ _ _ h => h, fun _ _ _ h _ => h.elim⟩
  rcases h with h | h
  · refine ⟨fun b => if b = a then some (.lst (ns.map V.int)) else none, key _ (fun b u e => ?_) (.inl (if_pos rfl))⟩
    by_cases q : b = a
    · subst q
      rw [if_pos rfl] at e
      cases e
      exact h
    · rw [if_neg q] at e
      cases e
  · exact ⟨fun _ => none, key _ (fun _ _ e => by cases e) (.inr (.inr h))⟩
/-- the law's promise, from its run in the small language -/
theorem sp_law {K : PySem.W.Frag} {cf : CF} {f : Nat} {ns : List Int} {os : List SD} {s : S} (h : cf f [(.z, scriptD ns)] = some ((s, .bool true), os)) {H : Hp} {a : Addr} (q : SqL K H a (ns.map V.int)) {E : XK} : spOf K cf f [.ref a] H (fun v _ => v = .bl true) E := by
  obtain ⟨Z, r⟩ := script_R q
  refine ⟨Z, _, [(.z, scriptD ns)], _, os, r, h, fun v Z' H' Fs' F _ _ rp _ _ => ?_⟩
  cases s with
  | z => exact rp.1.bl_of
  | u s =>
    rcases rp with rp | ⟨_, _, _, _, ⟨_, _, rp, _⟩ | ⟨_, _, rp, _⟩⟩
    · exact rp.1.bl_of
    · cases rp
    · cases rp
end
end Mi
end
section
namespace Mi
open PySem PySem.Spec PyProof.Rows L2
/-! ### the module's constants -/
mutual
/-- the value v of the module stands for d, in objects that the frame knows -/
def gB (K : PySem.W.Frag) : D → Value → Bool
  | .none, .none => true
  | .bool a, .bool b => a == b
  | .int a, .int b _ => a == b
  | .str a, .str b _ => decide (a = b)
  | .tuple ds, .ref a => (match K.lookup a with
    | some ⟨.type c, _, .seq its _, _⟩ => decide (c = "tuple") && decide (its.size ≤ sizeLine) && gBs K ds its.toList
    | _ => false)
  | .list ds, .ref a => (match K.lookup a with
    | some ⟨.type c, none, .seq its _, _⟩ => decide (c = "list") && decide (its.size ≤ sizeLine) && gBs K ds its.toList
    | _ => false)
  | _, _ => false
def gBs (K : PySem.W.Frag) : List D → List Value → Bool
  | [], [] => true
  | d :: ds, v :: vs => gB K d v && gBs K ds vs
  | _, _ => false
end
mutual
theorem gB_ok {K : PySem.W.Frag} : ∀ {d : D} {v : Value}, gB K d v = true → ∃ x, RelV x v ∧ ∀ Z, Fz K Z x d
  | .none, v, h => by
    cases v <;> first | (simp [gB] at h; done) | skip
    exact ⟨.non, rfl, fun _ => .non⟩
  | .bool a, v, h => by
    cases v <;> first | (simp [gB] at h; done) | skip
    simp only [gB] at h
    exact ⟨.bl a, by rw [eq_of_beq h]; rfl, fun _ => .bl _⟩
  | .int a, v, h => by
    cases v <;> first | (simp [gB] at h; done) | skip
    simp only [gB] at h
    exact ⟨.int a, ⟨_, by rw [eq_of_beq h]⟩, fun _ => .int _⟩
  | .str a, v, h => by
    cases v <;> first | (simp [gB] at h; done) | skip
    simp only [gB] at h
    exact ⟨.str a, ⟨_, by rw [of_decide_eq_true h]⟩, fun _ => .str _⟩
  | .tuple ds, v, h => by
    cases v <;> first | (simp [gB] at h; done) | skip
    rename_i a
    simp only [gB] at h
    split at h
    · rename_i c od its n osl e
      simp only [Bool.and_eq_true, decide_eq_true_eq] at h
      obtain ⟨⟨rfl, h2⟩, h3⟩ := h
      obtain ⟨xs, h4, h5⟩ := gBs_ok h3
      exact ⟨.ref a, rfl, fun Z => .tup (xs := xs) (.inr (.inr ⟨_, its, n, e, rfl, rfl, h2, h4⟩)) (h5 Z)⟩
    · cases h
  | .list ds, v, h => by
    cases v <;> first | (simp [gB] at h; done) | skip
    rename_i a
    simp only [gB] at h
    split at h
    · rename_i c its n osl e
      simp only [Bool.and_eq_true, decide_eq_true_eq] at h
      obtain ⟨⟨rfl, h2⟩, h3⟩ := h
      obtain ⟨xs, h4, h5⟩ := gBs_ok h3
      exact ⟨.ref a, rfl, fun Z => .lst (xs := xs) (.inr (.inr ⟨_, its, n, e, rfl, rfl, rfl, h2, h4⟩)) (h5 Z)⟩
    · cases h
  | .dict _, v, h => by
    cases v <;> simp [gB] at h
theorem gBs_ok {K : PySem.W.Frag} : ∀ {ds : List D} {vs : List Value}, gBs K ds vs = true → ∃ xs, Vals xs vs ∧ ∀ Z, Fzs K Z xs ds
  | [], vs, h => by
    cases vs with
    | nil => exact ⟨[], .nil, fun _ => .nil⟩
    | cons _ _ => simp [gBs] at h
  | d :: ds, vs, h => by
    cases vs with
    | nil => simp [gBs] at h
    | cons v vs =>
      simp only [gBs, Bool.and_eq_true] at h
      obtain ⟨x, a1, a2⟩ := gB_ok h.1
      obtain ⟨xs, b1, b2⟩ := gBs_ok h.2
      exact ⟨x :: xs, .cons a1 b1, fun Z => .cons (a2 Z) (b2 Z)⟩
end
/-! ### the head's look -/
/-- the built-ins that the module has bound, and its constants -/
def moreB (gl : List (Str × D)) (bf : List (Str × String)) (K : PySem.W.Frag) : Bool := (bf.all fun p => He.eqO (PySem.W.nsIn K mainGlobals p.1) (some (some (.builtin p.2)))) && gl.all fun p => match PySem.W.nsIn K mainGlobals p.1 with
  | some (some v) => gB K p.2 v
  | _ => false
def factsL (dds : List He.DefD) : List He.Fa := dds.map (fun d => He.Fa.glo d.name) ++ free0.map He.Fa.free
def looksM (n : Nat) (gl : List (Str × D)) (bf : List (Str × String)) (dds : List He.DefD) (g : Addr → Option Obj) : He.AlD × Bool := (He.obsD (factsL dds) dds (He.frG g (He.asD g n)), moreB gl bf (He.frG g (He.asD g n)))
def hookM (n : Nat) (gl : List (Str × D)) (bf : List (Str × String)) (dds : List He.DefD) : PySem.W.Hook where
  α := He.AlD × Bool
  obs := fun s => looksM n gl bf dds s.heap.get?
  val := fun _ => (He.valD dds, true)
  says := fun _ h => ∃ K : PySem.W.Frag, K.In h ∧ He.SaysD (factsL dds) dds K ∧ moreB gl bf K = true
  of := fun _ s e => ⟨He.frG s.heap.get? (He.asD s.heap.get? n), He.frG_in, congrArg (fun x : He.AlD × Bool => x.1) e, congrArg (fun x : He.AlD × Bool => x.2) e⟩
  keeps := fun _ _ _ ⟨K, hK, c⟩ k => ⟨K, PySem.W.Frag.In.keeps hK k, c⟩
theorem looksM_eq {n : Nat} {gl : List (Str × D)} {bf : List (Str × String)} {dds : List He.DefD} {g : Addr → Option Obj} {s : Shared} (h : ∀ a, g a = s.heap.get? a) : looksM n gl bf dds g = (hookM n gl bf dds).obs s := by
  have e : g = s.heap.get? := funext h
  subst e
  rfl
/-! ### how a def's arguments bind -/
def plainB (ps : List Str) (a : Arguments) : Bool := a.posonlyargs.isEmpty && (a.args.map (·.arg) == ps) && a.kwonlyargs.isEmpty && a.kw_defaults.isEmpty && a.vararg.isNone && a.kwarg.isNone && a.defaults.isEmpty
theorem lookup_zip : ∀ {ps : List Str} {us : List Value} {x : Str}, us.length = ps.length → x ∈ ps → ((ps.zip us).lookup x).isSome = true
  | [], _, _, _, h => by cases h
  | p :: ps, [], _, h, _ => by simp at h
  | p :: ps, u :: us, x, h, m => by
    rw [List.zip_cons_cons, List.lookup_cons]
    by_cases e : (x == p) = true
    · rw [e]
      rfl
    · have e' : (x == p) = false := by simpa using e
      rw [e']
      rcases List.mem_cons.mp m with rfl | m
      · simp at e
      · exact lookup_zip (by simpa using h) m
theorem fm_congr {α β : Type} {f g : α → Option β} : ∀ {l : List α}, (∀ n ∈ l, f n = g n) → l.filterMap f = l.filterMap g
  | [], _ => rfl
  | a :: l, h => by
    rw [List.filterMap_cons, List.filterMap_cons, h a (by simp), fm_congr fun n hn => h n (List.mem_cons_of_mem _ hn)]
theorem picks : ∀ {ps : List Str} {us : List Value}, ps.Nodup → us.length = ps.length → ps.filterMap (fun n => ((ps.zip us).lookup n).map fun x => (n, x)) = ps.zip us
  | [], us, _, _ => by simp
  | p :: ps, [], _, h => by simp at h
  | p :: ps, u :: us, nd, h => by
    have nd' := List.nodup_cons.mp nd
    rw [List.filterMap_cons]
    have e : ((p :: ps).zip (u :: us)).lookup p = some u := by
      rw [List.zip_cons_cons, List.lookup_cons]
      simp
    rw [e]
    have e2 : ps.filterMap (fun n => (((p :: ps).zip (u :: us)).lookup n).map fun x => (n, x)) = ps.filterMap (fun n => ((ps.zip us).lookup n).map fun x => (n, x)) := by
      apply fm_congr
      intro n hn
      rw [List.zip_cons_cons, List.lookup_cons]
      have hne : (n == p) = false := by
        rw [beq_eq_false_iff_ne]
        intro q
        subst q
        exact nd'.1 hn
      rw [hne]
    show (p, u) :: ps.filterMap _ = _
    rw [e2, picks nd'.2 (by simpa using h), List.zip_cons_cons]
theorem bind_plain {x : Str} {a : Arguments} {body : List Stmt} {sc : Scope} {kV doc pm cdv ct : Value} {an : Option Addr} {ps : List Str} (nd : ps.Nodup) (h : plainB ps a = true) {us : List Value} (hl : us.length = ps.length) :
    bindArgs (PySem.W.fnOf x x a body sc .none kV doc pm an cdv ct) ⟨us, []⟩ = pure (ps.zip us) := by
  obtain ⟨po, ar, va, ko, kd, kw, df⟩ := a
  unfold plainB at h
  simp only [Bool.and_eq_true, List.isEmpty_iff, Option.isNone_iff_eq_none] at h
  obtain ⟨⟨⟨⟨⟨⟨h1, h2⟩, h3⟩, h4⟩, h5⟩, h6⟩, h7⟩ := h
  have h2 := eq_of_beq h2
  subst h1 h3 h4 h5 h6 h7
  have hlen : ps.length = ar.length := by rw [← h2, List.length_map]
  have e1 : seqItems? (.none : Value) = pure none := rfl
  unfold bindArgs
  simp only [PySem.W.fnOf, e1, List.map_nil, List.nil_append, h2, hl]
  have miss : ((ps.take (ps.length - ([] : List Value).length)).filter fun n => ((ps.zip us).lookup n).isNone) = [] := by
    rw [List.filter_eq_nil_iff]
    intro y hy e
    have := lookup_zip hl (List.mem_of_mem_take hy)
    rw [Option.isNone_iff_eq_none] at e
    rw [e] at this
    cases this
  have miss2 : (ps.filter fun n => ((ps.zip us).lookup n).isNone) = [] := by
    rw [List.filter_eq_nil_iff]
    intro y hy e
    have := lookup_zip hl hy
    rw [Option.isNone_iff_eq_none] at e
    rw [e] at this
    cases this
  simp [miss2, picks nd hl]
/-! ### the whole of it -/
def find : List (Nat × Fn) → Nat → Option Fn
  | [], _ => none
  | (i, fn) :: r, n => if i = n then some fn else find r n
theorem find_mem : ∀ {tab : List (Nat × Fn)} {n : Nat} {fn : Fn}, find tab n = some fn → (n, fn) ∈ tab
  | [], _, _, h => by cases h
  | (i, f) :: r, n, fn, h => by
    unfold find at h
    split at h
    · cases h
      rename_i e
      subst e
      simp
    · exact List.mem_cons_of_mem _ (find_mem h)
def cgOf (tab : List (Nat × Fn)) (gl : List (Str × D)) (bf : List (Str × String)) : Cg := ⟨find tab, gl, bf⟩
/-- one def of the text and of the table -/
def pairB (c : Cg) (fn : Fn) (dd : He.DefD) : Bool := defB c fn dd && (decide (dd.name = fn.nm) && decide (dd.qual = fn.nm) && decide (dd.at_ = (fn.nm, none)) && dd.dfl.isEmpty && dd.kwd.isEmpty) && plainB (fn.N.take fn.np) dd.params
def tabB (tab : List (Nat × Fn)) (gl : List (Str × D)) (bf : List (Str × String)) : List (Nat × Fn) → List He.DefD → Bool
  | [], [] => true
  | p :: r, dd :: t => pairB (cgOf tab gl bf) p.2 dd && tabB tab gl bf r t
  | _, _ => false
theorem tabB_of {tab : List (Nat × Fn)} {gl : List (Str × D)} {bf : List (Str × String)} : ∀ {l : List (Nat × Fn)} {dds : List He.DefD}, tabB tab gl bf l dds = true → ∀ p ∈ l, ∃ dd ∈ dds, pairB (cgOf tab gl bf) p.2 dd = true
  | [], _, _, p, hp => by cases hp
  | q :: l, [], h, _, _ => by simp [tabB] at h
  | q :: l, dd :: dds, h, p, hp => by
    simp only [tabB, Bool.and_eq_true] at h
    rcases List.mem_cons.mp hp with rfl | hp
    · exact ⟨dd, by simp, h.1⟩
    · obtain ⟨e, he, h2⟩ := tabB_of h.2 p hp
      exact ⟨e, List.mem_cons_of_mem _ he, h2⟩
section
variable {tab : List (Nat × Fn)} {gl : List (Str × D)} {bf : List (Str × String)} {dds : List He.DefD} {K : PySem.W.Frag} {h : Heap} {mg : Str → Option Value}
theorem facts_of (X : K.In h) (G : h.Ns mainGlobals mg) (s : He.SaysD (factsL dds) dds K) (m : moreB gl bf K = true) (P : Program) (w : World) (base : Heap) : Facts ⟨P, w, K, mg, base⟩ gl bf := by
  have hall : ∀ f ∈ factsL dds, f.ok K = true := fun f hf => by
    obtain ⟨i, hi⟩ := List.getElem?_of_mem hf
    exact s.fact i hi
  simp only [moreB, Bool.and_eq_true, List.all_eq_true] at m
  refine ⟨fun x hx => ?_, fun p hp => ?_, fun p hp => ?_⟩
  · exact He.free_ok X G (hall _ (List.mem_append_right _ (List.mem_map_of_mem hx)))
  · exact PySem.W.mg_of X G (He.eqO_ok (m.1 p hp))
  · have q := m.2 p hp
    split at q
    · rename_i v e
      obtain ⟨x, a1, a2⟩ := gB_ok q
      exact ⟨x, v, PySem.W.mg_of X G e, a1, a2⟩
    · cases q
theorem stands_of (X : K.In h) (G : h.Ns mainGlobals mg) (s : He.SaysD (factsL dds) dds K) (P : Program) (w : World) (base : Heap) {c : Cg} {fn : Fn} {dd : He.DefD} (hd : dd ∈ dds) (p : pairB c fn dd = true) : DefOk c fn dd ∧ Stands ⟨P, w, K, mg, base⟩ fn dd := by
  have hall : ∀ f ∈ factsL dds, f.ok K = true := fun f hf => by
    obtain ⟨i, hi⟩ := List.getElem?_of_mem hf
    exact s.fact i hi
  simp only [pairB, Bool.and_eq_true, decide_eq_true_eq, List.isEmpty_iff] at p
  obtain ⟨⟨h1, ⟨⟨⟨h2, h3⟩, h4⟩, h5⟩, h6⟩, h7⟩ := p
  have O := defB_of h1
  obtain ⟨i, hi⟩ := List.getElem?_of_mem hd
  obtain ⟨fd, F⟩ := s.def_ i hi
  have hg : mg dd.name = some (.ref (He.ga K dd.name)) := He.glo_ok X G (hall _ (List.mem_append_left _ (List.mem_map_of_mem (f := fun d : He.DefD => He.Fa.glo d.name) hd)))
  have ea : He.fAd K dd.at_ = He.ga K dd.name := by
    rw [h4, h2]
    rfl
  have e1 : dd.dvs K = [] := by
    unfold He.DefD.dvs
    rw [h5]
    rfl
  have e2 : dd.kws K = [] := by
    unfold He.DefD.kws
    rw [h6]
    rfl
  rw [ea, e1, e2] at F
  rw [h3] at F
  rw [h2] at F hg
  have nd : (fn.N.take fn.np).Nodup := (scopeB_of O.sc).nd.sublist (List.take_sublist _ _)
  exact ⟨O, He.ga K fn.nm, fd, hg, F.bindsN fun _ _ _ _ _ _ us hl => bind_plain nd h7 hl, F⟩
/-- a law over the head's facts: what is left is its run in the small language -/
theorem mi_walk {l : PySem.W.OpenLaw} {q : Program} {loose : List Str} {XP : (Str → Option Value) → Heap → Prop} {d : DefRec} {n w k f : Nat} {fn : Fn} (hn : l.most = some 63) (hdf : d.params.defaults = []) (hr : Room k callerA)
    (ht : tabB tab gl bf tab dds = true) (hf : find tab f = some fn) (hp : fn.N.take fn.np = [("script" : Str)]) (hnm : d.name = fn.nm)
    (pure : ∀ ns : List Int, ns.length ≤ 63 → ∃ s os, callF (find tab) w k f [(.z, scriptD ns)] = some ((s, .bool true), os)) :
    PySem.W.WalkO q loose XP (hookM n gl bf dds).says l.row.toRowW d [] (fun f vs => PySem.call f vs) := by
  refine walk_ofE (l := l) (n := 63) (k := k) (x := "script") (CX := CX0) hn (by decide) hdf hr ?_ (fun _ _ _ _ z => z)
  intro W mg fa h Y G hmg
  obtain ⟨K, KX, s, m⟩ := Y
  obtain ⟨dd, hd, hpr⟩ := tabB_of ht _ (find_mem hf)
  obtain ⟨O, a0, fd0, b1, b2, b3⟩ := stands_of KX G s l.prog W h hd hpr
  rw [hnm] at hmg
  have ea : a0 = fa := by
    have z := hmg.symm.trans b1
    cases z
    rfl
  subst ea
  refine ⟨K, fd0, spOf K (callF (find tab) w k) f, KX, fun s u => ?_, fun H a ns hl _ hS => ?_, fun base hb hG => ?_⟩
  · have nd : (fn.N.take fn.np).Nodup := (scopeB_of O.sc).nd.sublist (List.take_sublist _ _)
    have hpl : plainB (fn.N.take fn.np) dd.params = true := by
      unfold pairB at hpr
      simp only [Bool.and_eq_true] at hpr
      exact hpr.2
    have z := FunD.bindsA (ps := fn.N.take fn.np) b3 (fun _ _ _ _ _ _ us hl => bind_plain nd hpl hl) s [u] (by rw [hp]; rfl)
    rw [hp] at z
    exact z
  · obtain ⟨s, os, e⟩ := pure ns hl
    exact sp_law e hS
  · cases k with
    | zero =>
      obtain ⟨s, os, e⟩ := pure [] (by simp)
      cases e
    | succ k =>
      have D := fun i g hg => (show ∃ dd, DefOk (cgOf tab gl bf) g dd ∧ Stands ⟨l.prog, W, K, mg, base⟩ g dd from by
        obtain ⟨dd, hd, hpr⟩ := tabB_of ht _ (find_mem (n := i) hg)
        exact ⟨dd, stands_of KX G s l.prog W base hd hpr⟩)
      have z := fn_step (d := ⟨l.prog, W, K, mg, base⟩) (c := cgOf tab gl bf) (w := w) (facts_of KX G s m l.prog W base) (gok (facts_of KX G s m l.prog W base) D k) hf O b3
      rw [hp] at z
      exact z
end
end Mi
end
section
namespace Pl
open PySem L2 Mi
/-! ### runs that end -/
def Ok {α : Type} (x : Option α) (Q : α → Prop) : Prop := ∃ a, x = some a ∧ Q a
theorem ok_some {α : Type} {a : α} {Q : α → Prop} : Ok (some a) Q ↔ Q a := ⟨fun ⟨_, e, q⟩ => by cases e; exact q, fun q => ⟨a, rfl, q⟩⟩
theorem ok_bind {α β : Type} {m : Option α} {f : α → Option β} {P : α → Prop} {Q : β → Prop} (h : Ok m P) (k : ∀ a, P a → Ok (f a) Q) : Ok (m.bind f) Q := by
  obtain ⟨a, rfl, p⟩ := h
  exact k a p
theorem Ok.mono {α : Type} {m : Option α} {P Q : α → Prop} (h : Ok m P) (k : ∀ a, P a → Q a) : Ok m Q := by
  obtain ⟨a, e, p⟩ := h
  exact ⟨a, e, k a p⟩
theorem ok_of {α : Type} {m : Option α} {a : α} (h : m = some a) : Ok m (fun x => x = a) := ⟨a, h, rfl⟩
/-- the end of a body -/
def Done (io : List Nat) (args : List SD) (Q : SD × List SD → Prop) (x : Fl × Ev) : Prop := match x.1 with
  | .rt r => Ok (outs io x.2 0 args) fun o => Q (r, o)
  | .nx => Ok (outs io x.2 0 args) fun o => Q ((.z, .none), o)
  | _ => False
theorem ok_call {Gt : Nat → Option Fn} {w k f : Nat} {fn : Fn} {args : List SD} {Q : SD × List SD → Prop} (h : Gt f = some fn) (hl : args.length = fn.np)
    (q : Ok (exB (callF Gt w k) w fn.body (args.map some ++ List.replicate (fn.N.length - fn.np) none)) (Done fn.io args Q)) : Ok (callF Gt w (k + 1) f args) Q := by
  obtain ⟨⟨fl, ρ⟩, e, q⟩ := q
  unfold callF
  rw [h, Option.bind_some, if_pos hl, e, Option.bind_some]
  cases fl with
  | rt r =>
    obtain ⟨o, e, q⟩ := q
    exact ⟨(r, o), by simp only [e]; rfl, q⟩
  | nx =>
    obtain ⟨o, e, q⟩ := q
    exact ⟨((.z, .none), o), by simp only [e]; rfl, q⟩
  | bk => exact q.elim
  | ct => exact q.elim
theorem ok_def {Gt : Nat → Option Fn} {w k f np : Nat} {nm : Str} {N : List Str} {io : List Nat} {body : B} {args : List SD} {Q : SD × List SD → Prop} (m : Nat) (h : Gt f = some ⟨nm, N, np, io, body⟩) (hl : args.length = np) (hm : N.length - np = m)
    (q : Ok (exB (callF Gt w k) w body (args.map some ++ List.replicate m none)) (Done io args Q)) : Ok (callF Gt w (k + 1) f args) Q := ok_call h hl (by rw [hm]; exact q)
/-- one statement, then the rest -/
def Then (cf : CF) (w : Nat) (r : B) (Q : Fl × Ev → Prop) (x : Fl × Ev) : Prop := match x.1 with
  | .nx => Ok (exB cf w r x.2) Q
  | f => Q (f, x.2)
theorem ok_seq {cf : CF} {w : Nat} {q : Mi.Q} {r : B} {ρ : Ev} {P : Fl × Ev → Prop} (h : Ok (exQ cf w q ρ) (Then cf w r P)) : Ok (exB cf w (.cons q r) ρ) P := by
  obtain ⟨⟨f, ρ1⟩, e, h⟩ := h
  unfold exB
  rw [e, Option.bind_some]
  cases f with
  | nx => exact h
  | bk => exact ⟨_, rfl, h⟩
  | ct => exact ⟨_, rfl, h⟩
  | rt x => exact ⟨_, rfl, h⟩
theorem ok_nil {cf : CF} {w : Nat} {ρ : Ev} {P : Fl × Ev → Prop} (h : P (.nx, ρ)) : Ok (exB cf w .nil ρ) P := ⟨_, rfl, h⟩
theorem exB_nil {cf : CF} {w : Nat} {ρ : Ev} : exB cf w .nil ρ = some (.nx, ρ) := rfl
theorem rd_z : rd .z = true := rfl
theorem rd_uz : rd (.u .z) = true := rfl
theorem nonD_1 : isNonD .none = true := rfl
theorem nonD_2 {b : Bool} : isNonD (.bool b) = false := rfl
theorem nonD_3 {i : Int} : isNonD (.int i) = false := rfl
theorem nonD_4 {x : Str} : isNonD (.str x) = false := rfl
theorem nonD_5 {l : List D} : isNonD (.list l) = false := rfl
theorem nonD_6 {l : List D} : isNonD (.tuple l) = false := rfl
theorem nonD_7 {l : List (D × D)} : isNonD (.dict l) = false := rfl
theorem blD_1 {c : Bool} : isBlD c .none = false := rfl
theorem blD_2 {c b : Bool} : isBlD c (.bool b) = (b == c) := rfl
theorem blD_3 {c : Bool} {i : Int} : isBlD c (.int i) = false := rfl
theorem blD_4 {c : Bool} {x : Str} : isBlD c (.str x) = false := rfl
theorem blD_5 {c : Bool} {l : List D} : isBlD c (.list l) = false := rfl
theorem blD_6 {c : Bool} {l : List D} : isBlD c (.tuple l) = false := rfl
theorem blD_7 {c : Bool} {l : List (D × D)} : isBlD c (.dict l) = false := rfl
theorem is_1 {a : D} : prIs [a, .none] = some (.z, .bool (isNonD a)) := rfl
theorem is_2 {a : D} {b : Bool} : prIs [a, .bool b] = some (.z, .bool (isBlD b a)) := rfl
theorem bt1 : (true == false) = false := rfl
theorem bt2 : (false == true) = false := rfl
theorem isi_1 {n : Nat} : prIsi [n] [.none] = some (.z, .bool false) := by
  simp only [prIsi, List.any_cons, List.any_nil, Bool.or_false]
  rfl
theorem isi_2 {n : Nat} {b : Bool} : prIsi [n] [.bool b] = some (.z, .bool (n == 0 || n == 1)) := by
  simp only [prIsi, List.any_cons, List.any_nil, Bool.or_false]
  match n with
  | 0 => rfl
  | 1 => rfl
  | n + 2 => rfl
theorem isi_3 {n : Nat} {i : Int} : prIsi [n] [.int i] = some (.z, .bool (n == 0)) := by
  simp only [prIsi, List.any_cons, List.any_nil, Bool.or_false]
  match n with
  | 0 => rfl
  | n + 1 => rfl
theorem isi_4 {n : Nat} {x : Str} : prIsi [n] [.str x] = some (.z, .bool (n == 2)) := by
  simp only [prIsi, List.any_cons, List.any_nil, Bool.or_false]
  match n with
  | 0 => rfl
  | 1 => rfl
  | 2 => rfl
  | n + 3 => rfl
theorem isi_5 {n : Nat} {l : List D} : prIsi [n] [.list l] = some (.z, .bool (n == 3)) := by
  simp only [prIsi, List.any_cons, List.any_nil, Bool.or_false]
  match n with
  | 0 => rfl
  | 1 => rfl
  | 2 => rfl
  | 3 => rfl
  | n + 4 => rfl
theorem isi_6 {n : Nat} {l : List D} : prIsi [n] [.tuple l] = some (.z, .bool (n == 4)) := by
  simp only [prIsi, List.any_cons, List.any_nil, Bool.or_false]
  match n with
  | 0 => rfl
  | 1 => rfl
  | 2 => rfl
  | 3 => rfl
  | 4 => rfl
  | n + 5 => rfl
theorem isi_7 {n : Nat} {l : List (D × D)} (h : isRg l = false) : prIsi [n] [.dict l] = some (.z, .bool (n == 5)) := by
  have e : isRgD (.dict l) = false := h
  simp only [prIsi, e, Bool.false_eq_true, if_false, List.any_cons, List.any_nil, Bool.or_false]
  match n with
  | 0 => rfl
  | 1 => rfl
  | 2 => rfl
  | 3 => rfl
  | 4 => rfl
  | 5 => rfl
  | n + 6 => rfl
theorem then_nx {cf : CF} {w : Nat} {r : B} {Q : Fl × Ev → Prop} {ρ : Ev} : Then cf w r Q (.nx, ρ) ↔ Ok (exB cf w r ρ) Q := Iff.rfl
theorem then_rt {cf : CF} {w : Nat} {r : B} {Q : Fl × Ev → Prop} {ρ : Ev} {x : SD} : Then cf w r Q (.rt x, ρ) ↔ Q (.rt x, ρ) := Iff.rfl
theorem then_bk {cf : CF} {w : Nat} {r : B} {Q : Fl × Ev → Prop} {ρ : Ev} : Then cf w r Q (.bk, ρ) ↔ Q (.bk, ρ) := Iff.rfl
theorem then_ct {cf : CF} {w : Nat} {r : B} {Q : Fl × Ev → Prop} {ρ : Ev} : Then cf w r Q (.ct, ρ) ↔ Q (.ct, ρ) := Iff.rfl
theorem done_rt {io : List Nat} {args : List SD} {Q : SD × List SD → Prop} {r : SD} {ρ : Ev} : Done io args Q (.rt r, ρ) ↔ Ok (outs io ρ 0 args) fun o => Q (r, o) := Iff.rfl
theorem done_nx {io : List Nat} {args : List SD} {Q : SD × List SD → Prop} {ρ : Ev} : Done io args Q (.nx, ρ) ↔ Ok (outs io ρ 0 args) fun o => Q ((.z, .none), o) := Iff.rfl
/-! ### loops -/
theorem ok_loop {fb : Ev → Option (Fl × Ev)} {g : G} {ds : List D} {P : Fl × Ev → Prop} (I : Nat → Ev → Prop) {ρ : Ev} (h0 : I 0 ρ)
    (hs : ∀ i d ρ, ds[i]? = some d → I i ρ → Ok (asg g (.z, d) ρ) fun ρ1 => Ok (fb ρ1) fun x => match x.1 with
      | .nx => I (i + 1) x.2
      | .ct => I (i + 1) x.2
      | .bk => P (.nx, x.2)
      | .rt r => P (.rt r, x.2))
    (he : ∀ ρ, I ds.length ρ → P (.nx, ρ)) : Ok (loop fb g ds ρ) P := by
  have key : ∀ (n i : Nat) (ρ : Ev), n = ds.length - i → i ≤ ds.length → I i ρ → Ok (loop fb g (ds.drop i) ρ) P := by
    intro n
    induction n with
    | zero =>
      intro i ρ hn hi h
      have e : i = ds.length := by omega
      subst e
      rw [List.drop_length]
      exact ⟨_, rfl, he ρ h⟩
    | succ n ih =>
      intro i ρ hn hi h
      have hlt : i < ds.length := by omega
      rw [List.drop_eq_getElem_cons hlt]
      obtain ⟨ρ1, e1, ⟨f, ρ2⟩, e2, h2⟩ := hs i _ ρ (List.getElem?_eq_getElem hlt) h
      unfold loop
      rw [e1, Option.bind_some, e2, Option.bind_some]
      cases f with
      | nx => exact ih (i + 1) ρ2 (by omega) (by omega) h2
      | ct => exact ih (i + 1) ρ2 (by omega) (by omega) h2
      | bk => exact ⟨_, rfl, h2⟩
      | rt x => exact ⟨_, rfl, h2⟩
  have := key ds.length 0 ρ (by omega) (Nat.zero_le _) h0
  simpa using this
/-- the turns of a comprehension -/
theorem ok_turns {ft : Ev → Option (Bool × Ev)} {fe : Ev → Option (SD × Ev)} {g : G} {own : List Nat} {ds : List D} {P : List D × Ev → Prop} (I : Nat → List D → Ev → Prop) {ρ : Ev} (h0 : I 0 [] ρ) (hl : ds.length ≤ sizeLine)
    (hs : ∀ i d ρ acc, ds[i]? = some d → acc.length ≤ i → I i acc ρ → Ok (asg g (.z, d) ρ) fun ρ1 => Ok (ft ρ1) fun x => match x.1 with
      | false => I (i + 1) acc (noneAt x.2 own)
      | true => Ok (fe x.2) fun y => I (i + 1) (acc ++ [y.1.2]) (noneAt y.2 own))
    (he : ∀ ρ acc, acc.length ≤ ds.length → I ds.length acc ρ → P (acc, ρ)) : Ok (turns ft fe g own ds ρ []) P := by
  have key : ∀ (n i : Nat) (ρ : Ev) (acc : List D), n = ds.length - i → i ≤ ds.length → acc.length ≤ i → I i acc ρ → Ok (turns ft fe g own (ds.drop i) ρ acc) P := by
    intro n
    induction n with
    | zero =>
      intro i ρ acc hn hi ha h
      have e : i = ds.length := by omega
      subst e
      rw [List.drop_length]
      exact ⟨_, rfl, he ρ acc ha h⟩
    | succ n ih =>
      intro i ρ acc hn hi ha h
      have hlt : i < ds.length := by omega
      rw [List.drop_eq_getElem_cons hlt]
      obtain ⟨ρ1, e1, ⟨c, ρ2⟩, e2, h2⟩ := hs i _ ρ acc (List.getElem?_eq_getElem hlt) ha h
      unfold turns
      rw [e1, Option.bind_some, e2, Option.bind_some]
      cases c with
      | false => exact ih (i + 1) _ acc (by omega) (by omega) (by omega) h2
      | true =>
        obtain ⟨y, e3, h3⟩ := h2
        have hlen : acc.length < sizeLine := by omega
        simp only [e3, Option.bind_some, if_pos hlen]
        exact ih (i + 1) _ _ (by omega) (by omega) (by simp; omega) h3
  have := key ds.length 0 ρ [] (by omega) (Nat.zero_le _) (Nat.le_refl _) h0
  simpa using this
/-! ### sizes -/
def Bd (b : Nat) (i : Int) : Prop := i.natAbs < 2 ^ b
theorem Bd.mono {a b : Nat} {i : Int} (h : Bd a i) (l : a ≤ b) : Bd b i := Nat.lt_of_lt_of_le h (Nat.pow_le_pow_right (by decide) l)
theorem Bd.mul {a b : Nat} {i j : Int} (h : Bd a i) (g : Bd b j) : Bd (a + b) (i * j) := by
  unfold Bd at *
  rw [Int.natAbs_mul, Nat.pow_add]
  exact Nat.mul_lt_mul'' h g
theorem Bd.add {a b : Nat} {i j : Int} (h : Bd a i) (g : Bd a j) (hb : a + 1 ≤ b) : Bd b (i + j) := by
  refine Bd.mono (a := a + 1) ?_ hb
  unfold Bd at *
  have := Int.natAbs_add_le i j
  rw [Nat.pow_succ]
  omega
theorem Bd.neg {a : Nat} {i : Int} (h : Bd a i) : Bd a (-i) := by
  unfold Bd at *
  rwa [Int.natAbs_neg]
theorem Bd.sub {a b : Nat} {i j : Int} (h : Bd a i) (g : Bd a j) (hb : a + 1 ≤ b) : Bd b (i - j) := by
  rw [Int.sub_eq_add_neg]
  exact Bd.add h g.neg hb
theorem Bd.log {b : Nat} {i : Int} (h : Bd b i) : i.natAbs.log2 ≤ b := by
  by_cases hi : i.natAbs = 0
  · rw [hi]
    exact Nat.zero_le _
  · exact Nat.le_of_lt ((Nat.log2_lt hi).mpr h)
theorem mulOk_of {a b : Nat} {i j : Int} (h : Bd a i) (g : Bd b j) (hb : a + b < 1000000) : mulOk i j = true := by
  have h1 := h.log
  have h2 := g.log
  unfold mulOk
  simp only [Bool.or_eq_true, decide_eq_true_eq]
  exact .inl (.inl (by omega))
theorem mulOk_r {i j : Int} (h1 : -(2 ^ 64) < j) (h2 : j < 2 ^ 64) : mulOk i j = true := by
  unfold mulOk
  simp only [Bool.or_eq_true, Bool.and_eq_true, decide_eq_true_eq]
  exact .inr ⟨h1, h2⟩
theorem mulOk_l {i j : Int} (h1 : -(2 ^ 64) < i) (h2 : i < 2 ^ 64) : mulOk i j = true := by
  unfold mulOk
  simp only [Bool.or_eq_true, Bool.and_eq_true, decide_eq_true_eq]
  exact .inl (.inr ⟨h1, h2⟩)
theorem divOk_of {b : Nat} {j : Int} (h0 : j ≠ 0) (h : Bd b j) (hb : b < 9000) : divOk j = true := by
  have h1 := h.log
  unfold divOk
  simp only [Bool.and_eq_true, decide_eq_true_eq]
  exact ⟨h0, by omega⟩
/-! ### fractions -/
/-- a number as both sides write it: lowest terms, the denominator above 0 -/
def rD (r : Rat) : D := .tuple [.int r.num, .int r.den]
def RB (b : Nat) (r : Rat) : Prop := Bd b r.num ∧ Bd b (r.den : Int)
theorem RB.mono {a b : Nat} {r : Rat} (h : RB a r) (l : a ≤ b) : RB b r := ⟨h.1.mono l, h.2.mono l⟩
theorem den_ne (r : Rat) : (r.den : Int) ≠ 0 := by
  have := r.den_nz
  omega
theorem den_pos (r : Rat) : 0 < (r.den : Int) := by
  have := r.den_nz
  omega
theorem gcd_ne {p q : Int} (h : q ≠ 0) : ((Nat.gcd p.natAbs q.natAbs : Nat) : Int) ≠ 0 := by
  have : 0 < Nat.gcd p.natAbs q.natAbs := Nat.gcd_pos_of_pos_right _ (by omega)
  omega
theorem gcd_bd {b : Nat} {p q : Int} (h : q ≠ 0) (g : Bd b q) : Bd b ((Nat.gcd p.natAbs q.natAbs : Nat) : Int) := by
  unfold Bd at *
  have : Nat.gcd p.natAbs q.natAbs ≤ q.natAbs := Nat.le_of_dvd (by omega) (Nat.gcd_dvd_right _ _)
  rw [Int.natAbs_natCast]
  omega
theorem gcd_eq (p q : Int) : ((Nat.gcd p.natAbs q.natAbs : Nat) : Int) = (q.gcd p : Int) := by
  rw [Int.gcd_comm]
  rfl
theorem num_pos {p q : Int} (h : 0 < q) : (Rat.divInt p q).num = p.fdiv ((Nat.gcd p.natAbs q.natAbs : Nat) : Int) := by
  rw [Rat.num_divInt, gcd_eq, Int.sign_eq_one_of_pos h, Int.one_mul, Int.fdiv_eq_ediv_of_nonneg _ (by omega)]
theorem den_pos' {p q : Int} (h : 0 < q) : ((Rat.divInt p q).den : Int) = q.fdiv ((Nat.gcd p.natAbs q.natAbs : Nat) : Int) := by
  rw [Rat.den_divInt, gcd_eq, if_neg (by omega), Int.fdiv_eq_ediv_of_nonneg _ (by omega)]
  rw [Int.natCast_ediv, Int.natAbs_of_nonneg (by omega)]
theorem fdiv_neg_dvd {a b : Int} (h : b ∣ a) (hb : b ≠ 0) : a.fdiv (-b) = -(a / b) := by
  obtain ⟨c, rfl⟩ := h
  rw [Int.mul_ediv_cancel_left _ hb]
  have : b * c = (-b) * (-c) := by rw [Int.neg_mul_neg]
  rw [this, Int.mul_fdiv_cancel_left _ (by omega)]
theorem num_neg {p q : Int} (h : q < 0) : (Rat.divInt p q).num = p.fdiv (-((Nat.gcd p.natAbs q.natAbs : Nat) : Int)) := by
  have hg := gcd_ne (p := p) (q := q) (by omega)
  rw [gcd_eq] at hg ⊢
  have hd : (q.gcd p : Int) ∣ p := Int.gcd_dvd_right ..
  rw [Rat.num_divInt, fdiv_neg_dvd hd hg, Int.sign_eq_neg_one_of_neg h, Int.neg_mul, Int.one_mul, Int.neg_ediv_of_dvd hd]
theorem den_neg {p q : Int} (h : q < 0) : ((Rat.divInt p q).den : Int) = q.fdiv (-((Nat.gcd p.natAbs q.natAbs : Nat) : Int)) := by
  have hg := gcd_ne (p := p) (q := q) (by omega)
  rw [gcd_eq] at hg ⊢
  have hd : (q.gcd p : Int) ∣ q := Int.gcd_dvd_left ..
  rw [Rat.den_divInt, if_neg (by omega), fdiv_neg_dvd hd hg, Int.natCast_ediv, ← Int.neg_ediv_of_dvd hd]
  congr 1
  omega
theorem divInt_den (r : Rat) : Rat.divInt r.num r.den = r := Rat.num_divInt_den r
theorem add_eq (r s : Rat) : Rat.divInt (r.num * s.den + s.num * r.den) (r.den * s.den) = r + s := by
  rw [← Rat.divInt_add_divInt r.num s.num (den_ne r) (den_ne s), divInt_den, divInt_den]
theorem sub_eq (r s : Rat) : Rat.divInt (r.num * s.den - s.num * r.den) (r.den * s.den) = r - s := by
  rw [Rat.sub_eq_add_neg, ← add_eq r (-s), Rat.neg_num, Rat.neg_den, Int.neg_mul, Int.sub_eq_add_neg]
theorem mul_eq (r s : Rat) : Rat.divInt (r.num * s.num) (r.den * s.den) = r * s := by
  rw [← Rat.divInt_mul_divInt r.num s.num (d₁ := r.den) (d₂ := s.den), divInt_den, divInt_den]
theorem den_mul_ne (r s : Rat) : (r.den : Int) * s.den ≠ 0 := Int.mul_ne_zero (den_ne r) (den_ne s)
theorem at_nat {xs : List D} {i : Nat} (h : i < xs.length) : atI xs (i : Int) = some xs[i] := by
  unfold atI ixN
  rw [if_pos (by omega), if_pos (by omega), Option.bind_some, Int.toNat_natCast, List.getElem?_eq_getElem h]
theorem at0 {a : D} {r : List D} : atI (a :: r) 0 = some a := at_nat (i := 0) (by simp)
theorem at1 {a b : D} {r : List D} : atI (a :: b :: r) 1 = some b := at_nat (i := 1) (by simp)
theorem at2 {a b c : D} {r : List D} : atI (a :: b :: c :: r) 2 = some c := at_nat (i := 2) (by simp)
theorem at3 {a b c d : D} {r : List D} : atI (a :: b :: c :: d :: r) 3 = some d := at_nat (i := 3) (by simp)
theorem ix_nat {n i : Nat} (h : i < n) : ixN n (i : Int) = some i := by
  unfold ixN
  rw [if_pos (by omega), if_pos (by omega), Int.toNat_natCast]
theorem le_size {n : Nat} (h : n ≤ 1000) : (n ≤ sizeLine) = True := eq_true (Nat.le_trans h (by decide))
theorem prEq_int {i j : Int} : prEq [.int i, .int j] = some (.z, .bool (i == j)) := by
  simp [prEq, eqOk, flatD, SeqAt.shaped, PyData.eqv, zd]
  exact ⟨rfl, Nat.le_of_ble_eq_true rfl, rfl, Nat.le_of_ble_eq_true rfl⟩
theorem prNe_int {i j : Int} : prNe [.int i, .int j] = some (.z, .bool (!(i == j))) := by
  simp [prNe, eqOk, flatD, SeqAt.shaped, PyData.eqv, zd]
  exact ⟨rfl, Nat.le_of_ble_eq_true rfl, rfl, Nat.le_of_ble_eq_true rfl⟩
theorem rng_len {lo : Int} {n : Nat} : (rngD lo n).length = n := rngD_len n lo
theorem rng_get {lo : Int} {n i : Nat} {d : D} (h : (rngD lo n)[i]? = some d) : i < n ∧ d = .int (lo + i) := by
  have hi := (List.getElem?_eq_some_iff.mp h).1
  rw [rngD_len] at hi
  rw [rngD_get n lo i hi] at h
  cases h
  exact ⟨hi, rfl⟩
theorem lt_size {n : Nat} (h : n ≤ 1000) : (n < sizeLine) = True := eq_true (Nat.lt_of_le_of_lt h (by decide))
theorem nat_div_lt {n g b : Nat} (h : n < 2 ^ b) : n / g < 2 ^ b := Nat.lt_of_le_of_lt (Nat.div_le_self _ _) h
theorem RB.divInt {b : Nat} {p q : Int} (h : q ≠ 0) (hp : Bd b p) (hq : Bd b q) : RB b (Rat.divInt p q) := by
  have hg : (q.gcd p : Int) ∣ p := Int.gcd_dvd_right ..
  refine ⟨?_, ?_⟩
  · unfold Bd at *
    rw [Rat.num_divInt]
    have e : q.sign * p / (q.gcd p : Int) = q.sign * (p / (q.gcd p : Int)) := Int.mul_ediv_assoc _ hg
    rw [e, Int.natAbs_mul, Int.natAbs_sign_of_ne_zero h, Nat.one_mul, Int.natAbs_ediv_of_dvd hg]
    exact nat_div_lt hp
  · unfold Bd at *
    rw [Rat.den_divInt, if_neg h, Int.natAbs_natCast]
    exact nat_div_lt hq
theorem RB.add {a b : Nat} {r s : Rat} (h : RB a r) (g : RB b s) : RB (a + b + 1) (r + s) := by
  rw [← add_eq]
  refine RB.divInt (den_mul_ne r s) (Bd.add (a := a + b) (h.1.mul g.2) ((g.1.mul h.2).mono (by omega)) (Nat.le_refl _)) ((h.2.mul g.2).mono (by omega))
theorem RB.neg {a : Nat} {r : Rat} (h : RB a r) : RB a (-r) := by
  unfold RB
  rw [Rat.neg_num, Rat.neg_den]
  exact ⟨h.1.neg, h.2⟩
theorem RB.sub {a b : Nat} {r s : Rat} (h : RB a r) (g : RB b s) : RB (a + b + 1) (r - s) := by
  rw [Rat.sub_eq_add_neg]
  exact RB.add h g.neg
theorem RB.mul {a b : Nat} {r s : Rat} (h : RB a r) (g : RB b s) : RB (a + b) (r * s) := by
  rw [← mul_eq]
  exact RB.divInt (den_mul_ne r s) (h.1.mul g.1) (h.2.mul g.2)
end Pl
end
section
namespace Pl
open PySem L2 Mi
/-! ### the primitives at their forms -/
theorem add_int {i j : Int} : prAdd [.int i, .int j] = some (.z, .int (i + j)) := rfl
theorem add_str {x y : Str} : prAdd [.str x, .str y] = if x.length + y.length ≤ sizeLine then some (.z, .str (x ++ y)) else none := rfl
theorem add_list {x y : List D} (h : x.length + y.length ≤ 1000) : prAdd [.list x, .list y] = some (.u .z, .list (x ++ y)) := by
  simp only [prAdd, le_size h, if_true, ud]
theorem add_tup {x y : List D} {a : D} (h : (a :: x).length + y.length ≤ 1000) : prAdd [.tuple (a :: x), .tuple y] = some (.z, .tuple (a :: x ++ y)) := by
  simp only [prAdd, le_size h, if_true, zd]
theorem sub_int {i j : Int} : prSub [.int i, .int j] = some (.z, .int (i - j)) := rfl
theorem sub_bool {p q : Bool} : prSub [.bool p, .bool q] = some (.z, .int ((if p = true then (1 : Int) else 0) - (if q = true then (1 : Int) else 0))) := rfl
theorem mul_int {i j : Int} : prMul [.int i, .int j] = if mulOk i j then some (.z, .int (i * j)) else none := rfl
theorem fdiv_int {i j : Int} : prFdiv [.int i, .int j] = if divOk j then some (.z, .int (i.fdiv j)) else none := rfl
theorem mod_int {i j : Int} : prMod [.int i, .int j] = if j ≠ 0 then some (.z, .int (i.fmod j)) else none := rfl
theorem neg_int {i : Int} : prNeg [.int i] = some (.z, .int (-i)) := rfl
theorem lt_int {i j : Int} : prLt [.int i, .int j] = some (.z, .bool (decide (i < j))) := rfl
theorem le_int {i j : Int} : prLe [.int i, .int j] = some (.z, .bool (decide (i ≤ j))) := rfl
theorem gt_int {i j : Int} : prGt [.int i, .int j] = some (.z, .bool (decide (j < i))) := rfl
theorem ge_int {i j : Int} : prGe [.int i, .int j] = some (.z, .bool (decide (j ≤ i))) := rfl
theorem lt_str {i j : Str} : prLt [.str i, .str j] = some (.z, .bool (decide (i.cps.toList < j.cps.toList))) := rfl
theorem len_list {xs : List D} : prLen [.list xs] = some (.z, .int xs.length) := rfl
theorem len_tup {xs : List D} : prLen [.tuple xs] = some (.z, .int xs.length) := rfl
theorem len_str {x : Str} : prLen [.str x] = if x.length ≤ sizeLine then some (.z, .int x.length) else none := rfl
theorem abs_int {i : Int} : prAbs [.int i] = some (.z, .int (if i < 0 then -i else i)) := rfl
theorem toInt_int {i : Int} : prToInt [.int i] = some (.z, .int i) := rfl
theorem toInt_bool {b : Bool} : prToInt [.bool b] = some (.z, .int (if b then 1 else 0)) := rfl
theorem toList_list {xs : List D} : prToList [.list xs] = some (.u .z, .list xs) := rfl
theorem toList_tup {xs : List D} : prToList [.tuple xs] = some (.u .z, .list xs) := rfl
theorem toTuple_list {xs : List D} : prToTuple [.list xs] = some (.z, .tuple xs) := rfl
theorem toTuple_tup {xs : List D} : prToTuple [.tuple xs] = some (.z, .tuple xs) := rfl
theorem ixl {xs : List D} {i : Int} : prIx [.list xs, .int i] = (atI xs i).bind zd := rfl
theorem ixt {xs : List D} {i : Int} : prIx [.tuple xs, .int i] = (atI xs i).bind zd := rfl
theorem it_l {ds : List D} : items (.list ds) = some ds := rfl
theorem it_t {ds : List D} : items (.tuple ds) = some ds := rfl
theorem asg_n {i : Nat} {sd : SD} {ρ : Ev} : asg (.nm i) sd ρ = if i < ρ.length then some (ρ.set i (some sd)) else none := rfl
theorem asg_t {l : List Nat} {ds : List D} {ρ : Ev} : asg (.tp l) (.z, .tuple ds) ρ = binds ρ l ds := rfl
theorem asg_l {l : List Nat} {ds : List D} {ρ : Ev} : asg (.tp l) (.z, .list ds) ρ = binds ρ l ds := rfl
theorem asg_ul {l : List Nat} {ds : List D} {ρ : Ev} : asg (.tp l) (.u .z, .list ds) ρ = binds ρ l ds := rfl
theorem rev_l {xs : List D} : prRev [.list xs] = some (.u .z, .list xs.reverse) := rfl
theorem gcd_int {i j : Int} : prGcd [.int i, .int j] = some (.z, .int ((Nat.gcd i.natAbs j.natAbs : Nat) : Int)) := rfl
theorem pow_int {i j : Int} : prPow [.int i, .int j] = if powOk i j then some (.z, .int (i ^ j.toNat)) else none := rfl
theorem isnot_n {a : D} : prIsnot [a, .none] = some (.z, .bool (!isNonD a)) := rfl
theorem isnot_b {a : D} {b : Bool} : prIsnot [a, .bool b] = some (.z, .bool (!isBlD b a)) := rfl
end Pl
namespace Pl
open PySem L2 Mi
/-! ### comprehensions that go on, and double ones -/
theorem ok_turnsA {ft : Ev → Option (Bool × Ev)} {fe : Ev → Option (SD × Ev)} {g : G} {own : List Nat} {ds : List D} {P : List D × Ev → Prop} (I : Nat → List D → Ev → Prop) {ρ : Ev} {acc0 : List D} (h0 : I 0 acc0 ρ)
    (hs : ∀ i d ρ acc, ds[i]? = some d → I i acc ρ → acc.length < sizeLine ∧ Ok (asg g (.z, d) ρ) fun ρ1 => Ok (ft ρ1) fun x => match x.1 with
      | false => I (i + 1) acc (noneAt x.2 own)
      | true => Ok (fe x.2) fun y => I (i + 1) (acc ++ [y.1.2]) (noneAt y.2 own))
    (he : ∀ ρ acc, I ds.length acc ρ → P (acc, ρ)) : Ok (turns ft fe g own ds ρ acc0) P := by
  have key : ∀ (n i : Nat) (ρ : Ev) (acc : List D), n = ds.length - i → i ≤ ds.length → I i acc ρ → Ok (turns ft fe g own (ds.drop i) ρ acc) P := by
    intro n
    induction n with
    | zero =>
      intro i ρ acc hn hi h
      have e : i = ds.length := by omega
      subst e
      rw [List.drop_length]
      exact ⟨_, rfl, he ρ acc h⟩
    | succ n ih =>
      intro i ρ acc hn hi h
      have hlt : i < ds.length := by omega
      rw [List.drop_eq_getElem_cons hlt]
      obtain ⟨hlen, ρ1, e1, ⟨c, ρ2⟩, e2, h2⟩ := hs i _ ρ acc (List.getElem?_eq_getElem hlt) h
      unfold turns
      rw [e1, Option.bind_some, e2, Option.bind_some]
      cases c with
      | false => exact ih (i + 1) _ acc (by omega) (by omega) h2
      | true =>
        obtain ⟨y, e3, h3⟩ := h2
        simp only [e3, Option.bind_some, if_pos hlen]
        exact ih (i + 1) _ _ (by omega) (by omega) h3
  have := key ds.length 0 ρ acc0 (by omega) (Nat.zero_le _) h0
  simpa using this
theorem ok_turns2 {ft : Ev → Option (Bool × Ev)} {fi : Ev → Option (List D × Ev)} {ft1 : Ev → Option (Bool × Ev)} {fe : Ev → Option (SD × Ev)} {g g1 : G} {own own1 : List Nat} {ds : List D} {P : List D × Ev → Prop} (I : Nat → List D → Ev → Prop) {ρ : Ev} {acc0 : List D} (h0 : I 0 acc0 ρ)
    (hs : ∀ i d ρ acc, ds[i]? = some d → I i acc ρ → Ok (asg g (.z, d) ρ) fun ρ1 => Ok (ft ρ1) fun x => match x.1 with
      | false => I (i + 1) acc (noneAt x.2 own)
      | true => Ok (fi x.2) fun y => Ok (turns ft1 fe g1 own1 y.1 (noneAt y.2 own1) acc) fun z => I (i + 1) z.1 (noneAt z.2 own))
    (he : ∀ ρ acc, I ds.length acc ρ → P (acc, ρ)) : Ok (turns2 ft fi ft1 fe g g1 own own1 ds ρ acc0) P := by
  have key : ∀ (n i : Nat) (ρ : Ev) (acc : List D), n = ds.length - i → i ≤ ds.length → I i acc ρ → Ok (turns2 ft fi ft1 fe g g1 own own1 (ds.drop i) ρ acc) P := by
    intro n
    induction n with
    | zero =>
      intro i ρ acc hn hi h
      have e : i = ds.length := by omega
      subst e
      rw [List.drop_length]
      exact ⟨_, rfl, he ρ acc h⟩
    | succ n ih =>
      intro i ρ acc hn hi h
      have hlt : i < ds.length := by omega
      rw [List.drop_eq_getElem_cons hlt]
      obtain ⟨ρ1, e1, ⟨c, ρ2⟩, e2, h2⟩ := hs i _ ρ acc (List.getElem?_eq_getElem hlt) h
      unfold turns2
      rw [e1, Option.bind_some, e2, Option.bind_some]
      cases c with
      | false => exact ih (i + 1) _ acc (by omega) (by omega) h2
      | true =>
        obtain ⟨y, e3, z, e4, h3⟩ := h2
        simp only [e3, Option.bind_some, e4]
        exact ih (i + 1) _ _ (by omega) (by omega) h3
  have := key ds.length 0 ρ acc0 (by omega) (Nat.zero_le _) h0
  simpa using this
end Pl
end
namespace K41
open PySem L2 Mi Pl
/-! ### the text's tables in the small language (printed by a program) -/
def F0 : Fn := ⟨"frac", ["p", "q", "common"], 2, [], (.cons (.asg (.nm 2) (.ife (.cmp .gt (.ref 1 (.val (.con (.int 0)) .nil))) (.prim .gcd (.ref 0 (.ref 1 .nil))) (.prim .neg (.val (.prim .gcd (.ref 0 (.ref 1 .nil))) .nil))))
  (.cons (.ret (.tup (.val (.prim .fdiv (.ref 0 (.ref 2 .nil))) (.val (.prim .fdiv (.ref 1 (.ref 2 .nil))) .nil))))
  .nil))⟩
def F1 : Fn := ⟨"plus", ["a", "b"], 2, [], (.cons (.ret (.call 0 (.val (.prim .add (.val (.prim .mul (.val (.prim .ix (.ref 0 (.val (.con (.int 0)) .nil))) (.val (.prim .ix (.ref 1 (.val (.con (.int 1)) .nil))) .nil))) (.val (.prim .mul (.val (.prim .ix (.ref 1 (.val (.con (.int 0)) .nil))) (.val (.prim .ix (.ref 0 (.val (.con (.int 1)) .nil))) .nil))) .nil))) (.val (.prim .mul (.val (.prim .ix (.ref 0 (.val (.con (.int 1)) .nil))) (.val (.prim .ix (.ref 1 (.val (.con (.int 1)) .nil))) .nil))) .nil))))
  .nil)⟩
def F2 : Fn := ⟨"minus", ["a", "b"], 2, [], (.cons (.ret (.call 0 (.val (.prim .sub (.val (.prim .mul (.val (.prim .ix (.ref 0 (.val (.con (.int 0)) .nil))) (.val (.prim .ix (.ref 1 (.val (.con (.int 1)) .nil))) .nil))) (.val (.prim .mul (.val (.prim .ix (.ref 1 (.val (.con (.int 0)) .nil))) (.val (.prim .ix (.ref 0 (.val (.con (.int 1)) .nil))) .nil))) .nil))) (.val (.prim .mul (.val (.prim .ix (.ref 0 (.val (.con (.int 1)) .nil))) (.val (.prim .ix (.ref 1 (.val (.con (.int 1)) .nil))) .nil))) .nil))))
  .nil)⟩
def F3 : Fn := ⟨"mul", ["a", "b"], 2, [], (.cons (.ret (.call 0 (.val (.prim .mul (.val (.prim .ix (.ref 0 (.val (.con (.int 0)) .nil))) (.val (.prim .ix (.ref 1 (.val (.con (.int 0)) .nil))) .nil))) (.val (.prim .mul (.val (.prim .ix (.ref 0 (.val (.con (.int 1)) .nil))) (.val (.prim .ix (.ref 1 (.val (.con (.int 1)) .nil))) .nil))) .nil))))
  .nil)⟩
def F8 : Fn := ⟨"sum_of", ["numbers", "found", "number"], 1, [], (.cons (.asg (.nm 1) (.glob "NOUGHT" (.tuple [(.int 0), (.int 1)])))
  (.cons (.fo (.seq (.var 0)) (.nm 2) (.cons (.asg (.nm 1) (.call 1 (.val (.var 1) (.val (.var 2) .nil))))
  .nil))
  (.cons (.ret (.mv 1))
  .nil)))⟩
def F132 : Fn := ⟨"crossed", ["one", "other"], 2, [], (.cons (.ret (.call 2 (.val (.call 3 (.val (.prim .ix (.ref 0 (.val (.con (.int 0)) .nil))) (.val (.prim .ix (.ref 1 (.val (.con (.int 1)) .nil))) .nil))) (.val (.call 3 (.val (.prim .ix (.ref 0 (.val (.con (.int 1)) .nil))) (.val (.prim .ix (.ref 1 (.val (.con (.int 0)) .nil))) .nil))) .nil))))
  .nil)⟩
def F162 : Fn := ⟨"pieces_of", ["ring", "at", "point"], 1, [], (.cons (.ret (.lc (.enum (.var 0)) [1, 2] (.tp [1, 2]) .tt (.tup (.val (.var 2) (.val (.prim .ix (.ref 0 (.val (.prim .mod (.val (.prim .add (.ref 1 (.val (.con (.int 1)) .nil))) (.val (.prim .len (.ref 0 .nil)) .nil))) .nil))) .nil)))))
  .nil)⟩
def F422 : Fn := ⟨"pieces_of_all", ["rings", "ring", "piece"], 1, [], (.cons (.ret (.lc2 (.seq (.var 0)) [1, 2] (.nm 1) .tt (.seq (.call 162 (.val (.var 1) .nil))) [2] (.nm 2) .tt (.var 2)))
  .nil)⟩
def F247 : Fn := ⟨"triples", ["a", "b"], 2, [], (.cons (.ret (.call 8 (.val (.lst (.val (.call 3 (.val (.var 0) (.val (.var 0) .nil))) (.val (.call 3 (.val (.var 0) (.val (.var 1) .nil))) (.val (.call 3 (.val (.var 1) (.val (.var 1) .nil))) .nil)))) .nil)))
  .nil)⟩
def F248 : Fn := ⟨"piece_moments", ["start", "end", "doubled", "mixed", "parts", "x0", "y0", "x1", "y1", "part", "by"], 2, [], (.cons (.asg (.nm 2) (.call 132 (.val (.var 0) (.val (.var 1) .nil))))
  (.cons (.asg (.tp [5, 6]) (.var 0))
  (.cons (.asg (.tp [7, 8]) (.var 1))
  (.cons (.asg (.nm 3) (.call 8 (.val (.lst (.val (.call 3 (.val (.tup (.val (.con (.int 2)) (.val (.con (.int 1)) .nil))) (.val (.call 3 (.val (.var 5) (.val (.var 6) .nil))) .nil))) (.val (.call 3 (.val (.var 5) (.val (.var 8) .nil))) (.val (.call 3 (.val (.var 7) (.val (.var 6) .nil))) (.val (.call 3 (.val (.tup (.val (.con (.int 2)) (.val (.con (.int 1)) .nil))) (.val (.call 3 (.val (.var 7) (.val (.var 8) .nil))) .nil))) .nil))))) .nil)))
  (.cons (.asg (.nm 4) (.lst (.val (.tup (.val (.con (.int 1)) (.val (.con (.int 1)) .nil))) (.val (.call 1 (.val (.var 5) (.val (.var 7) .nil))) (.val (.call 1 (.val (.var 6) (.val (.var 8) .nil))) (.val (.call 247 (.val (.var 5) (.val (.var 7) .nil))) (.val (.var 3) (.val (.call 247 (.val (.var 6) (.val (.var 8) .nil))) .nil))))))))
  (.cons (.ret (.lc (.zips (.var 4) (.tup (.val (.con (.int 2)) (.val (.con (.int 6)) (.val (.con (.int 6)) (.val (.con (.int 12)) (.val (.con (.int 24)) (.val (.con (.int 12)) .nil)))))))) [9, 10] (.tp [9, 10]) .tt (.call 3 (.val (.var 2) (.val (.call 3 (.val (.var 9) (.val (.call 0 (.val (.con (.int 1)) (.val (.var 10) .nil))) .nil))) .nil)))))
  .nil))))))⟩
def F506 : Fn := ⟨"moments", ["shape", "found", "start", "end", "one", "more"], 1, [], (.cons (.asg (.nm 1) (.rep (.val (.tup (.val (.con (.int 0)) (.val (.con (.int 1)) .nil))) .nil) 6))
  (.cons (.fo (.seq (.call 422 (.val (.var 0) .nil))) (.tp [2, 3]) (.cons (.asg (.nm 1) (.lc (.zips (.var 1) (.call 248 (.val (.var 2) (.val (.var 3) .nil)))) [4, 5] (.tp [4, 5]) .tt (.call 1 (.val (.var 4) (.val (.var 5) .nil)))))
  .nil))
  (.cons (.ret (.prim .toTuple (.ref 1 .nil)))
  .nil)))⟩
def F507 : Fn := ⟨"cost_of", ["shape", "point", "square", "lead", "whole", "x", "y", "xx", "_", "yy"], 2, [], (.cons (.asg (.tp [4, 5, 6, 7, 8, 9]) (.call 506 (.val (.var 0) .nil)))
  (.cons (.asg (.nm 2) (.call 1 (.val (.call 3 (.val (.prim .ix (.ref 1 (.val (.con (.int 0)) .nil))) (.val (.prim .ix (.ref 1 (.val (.con (.int 0)) .nil))) .nil))) (.val (.call 3 (.val (.prim .ix (.ref 1 (.val (.con (.int 1)) .nil))) (.val (.prim .ix (.ref 1 (.val (.con (.int 1)) .nil))) .nil))) .nil))))
  (.cons (.asg (.nm 3) (.call 3 (.val (.tup (.val (.con (.int 2)) (.val (.con (.int 1)) .nil))) (.val (.call 1 (.val (.call 3 (.val (.prim .ix (.ref 1 (.val (.con (.int 0)) .nil))) (.val (.var 5) .nil))) (.val (.call 3 (.val (.prim .ix (.ref 1 (.val (.con (.int 1)) .nil))) (.val (.var 6) .nil))) .nil))) .nil))))
  (.cons (.ret (.call 1 (.val (.call 2 (.val (.call 1 (.val (.var 7) (.val (.var 9) .nil))) (.val (.var 3) .nil))) (.val (.call 3 (.val (.var 2) (.val (.var 4) .nil))) .nil))))
  .nil))))⟩
def F508 : Fn := ⟨"cost", ["depots", "districts", "name", "point"], 2, [], (.cons (.ret (.call 8 (.val (.lc (.seq (.var 0)) [2, 3] (.tp [2, 3]) (.cmp .isin (.ref 2 (.ref 1 .nil))) (.call 507 (.val (.prim .ix (.ref 1 (.ref 2 .nil))) (.val (.var 3) .nil)))) .nil)))
  .nil)⟩
def F14 : Fn := ⟨"_law_mixed", ["number", "place", "first", "second", "third"], 2, [], (.cons (.asg (.nm 2) (.prim .mod (.val (.prim .toInt (.val (.prim .add (.val (.prim .add (.val (.prim .mul (.ref 0 (.val (.con (.int 48271)) .nil))) (.val (.prim .mul (.ref 1 (.val (.con (.int 69621)) .nil))) .nil))) (.val (.con (.int 11)) .nil))) .nil)) (.val (.con (.int 618970019642690137449562111)) .nil))))
  (.cons (.asg (.nm 3) (.prim .mod (.val (.prim .toInt (.val (.prim .add (.val (.prim .add (.val (.prim .mul (.ref 2 (.ref 2 .nil))) (.val (.prim .mul (.val (.con (.int 7)) (.ref 2 .nil))) .nil))) (.ref 1 .nil))) .nil)) (.val (.con (.int 162259276829213363391578010288127)) .nil))))
  (.cons (.asg (.nm 4) (.prim .mod (.val (.prim .toInt (.val (.prim .add (.val (.prim .mul (.ref 3 (.ref 3 .nil))) (.ref 2 .nil))) .nil)) (.val (.con (.int 618970019642690137449562111)) .nil))))
  (.cons (.ret (.prim .add (.val (.prim .mul (.ref 3 (.val (.con (.int 618970019642690137449562111)) .nil))) (.ref 4 .nil))))
  .nil))))⟩
def F15 : Fn := ⟨"_law_rest", ["script", "place", "fills", "number"], 3, [], (.cons (.asg (.nm 3) (.con (.int 0)))
  (.cons (.iff (.cmp .gt (.val (.prim .len (.ref 0 .nil)) (.val (.con (.int 0)) .nil))) (.cons (.asg (.nm 3) (.prim .toInt (.val (.prim .ix (.ref 0 (.val (.prim .mod (.val (.prim .toInt (.ref 1 .nil)) (.val (.prim .len (.ref 0 .nil)) .nil))) .nil))) .nil)))
  .nil) .nil)
  (.cons (.iff (.cmp .lt (.ref 3 (.val (.con (.int 0)) .nil))) (.cons (.asg (.nm 3) (.prim .sub (.val (.con (.int 1)) (.val (.prim .mul (.val (.con (.int 2)) (.ref 3 .nil))) .nil))))
  .nil) .nil)
  (.cons (.iff (.and (.cmp .eq (.ref 2 (.val (.con (.int 0)) .nil))) (.and (.cmp .lt (.ref 1 (.val (.prim .len (.ref 0 .nil)) .nil))) (.cmp .ge (.ref 3 (.val (.prim .pow (.val (.con (.int 10)) (.val (.con (.int 18)) .nil))) .nil))))) (.cons (.ret (.prim .sub (.ref 3 (.val (.prim .pow (.val (.con (.int 10)) (.val (.con (.int 18)) .nil))) .nil))))
  .nil) .nil)
  (.cons (.ret (.call 14 (.val (.prim .add (.ref 3 (.val (.prim .mul (.ref 2 (.val (.con (.int 1000003)) .nil))) .nil))) (.val (.var 1) .nil))))
  .nil)))))⟩
def F16 : Fn := ⟨"_law_pool", ["script"], 1, [], (.cons (.ret (.lst (.val (.var 0) (.val (.con (.int 0)) (.val (.call 15 (.val (.var 0) (.val (.con (.int 0)) (.val (.con (.int 0)) .nil)))) (.val (.con (.int 0)) .nil))))))
  .nil)⟩
def F17 : Fn := ⟨"_law_next", ["pool"], 1, [0], (.cons (.sto 0 (.con (.int 1)) (.prim .add (.val (.prim .ix (.ref 0 (.val (.con (.int 1)) .nil))) (.val (.con (.int 1)) .nil))))
  (.cons (.sto 0 (.con (.int 2)) (.call 15 (.val (.prim .ix (.ref 0 (.val (.con (.int 0)) .nil))) (.val (.prim .ix (.ref 0 (.val (.con (.int 1)) .nil))) (.val (.con (.int 0)) .nil)))))
  (.cons (.sto 0 (.con (.int 3)) (.con (.int 0)))
  .nil)))⟩
def F18 : Fn := ⟨"_law_draw", ["pool", "limit", "value"], 2, [0], (.cons (.iff (.cmp .le (.val (.prim .ix (.ref 0 (.val (.con (.int 2)) .nil))) (.val (.con (.int 1)) .nil))) (.cons (.sto 0 (.con (.int 3)) (.prim .add (.val (.prim .ix (.ref 0 (.val (.con (.int 3)) .nil))) (.val (.con (.int 1)) .nil))))
  (.cons (.sto 0 (.con (.int 2)) (.call 15 (.val (.prim .ix (.ref 0 (.val (.con (.int 0)) .nil))) (.val (.prim .ix (.ref 0 (.val (.con (.int 1)) .nil))) (.val (.prim .ix (.ref 0 (.val (.con (.int 3)) .nil))) .nil)))))
  .nil)) .nil)
  (.cons (.asg (.nm 2) (.prim .mod (.val (.prim .toInt (.val (.prim .ix (.ref 0 (.val (.con (.int 2)) .nil))) .nil)) (.ref 1 .nil))))
  (.cons (.sto 0 (.con (.int 2)) (.prim .fdiv (.val (.prim .toInt (.val (.prim .ix (.ref 0 (.val (.con (.int 2)) .nil))) .nil)) (.ref 1 .nil))))
  (.cons (.ret (.mv 2))
  .nil))))⟩
def F19 : Fn := ⟨"_law_pick", ["pool", "options"], 2, [0], (.cons (.ret (.prim .ix (.ref 1 (.val (.call 18 (.ref 0 (.val (.prim .len (.ref 1 .nil)) .nil))) .nil))))
  .nil)⟩
def F142 : Fn := ⟨"_law_same", ["due", "answer", "key", "k"], 2, [], (.cons (.iff (.tru (.prim (.isi [5]) (.ref 0 .nil))) (.cons (.iff (.or (.not (.tru (.prim (.isi [5]) (.ref 1 .nil)))) (.cmp .ne (.val (.prim .len (.ref 0 .nil)) (.val (.prim .len (.ref 1 .nil)) .nil)))) (.cons (.ret (.con (.bool false)))
  .nil) .nil)
  (.cons (.fo (.seq (.var 0)) (.nm 2) (.cons (.iff (.or (.cmp .notin (.ref 2 (.ref 1 .nil))) (.not (.tru (.call 142 (.val (.prim .ix (.ref 0 (.ref 2 .nil))) (.val (.prim .ix (.ref 1 (.ref 2 .nil))) .nil)))))) (.cons (.ret (.con (.bool false)))
  .nil) .nil)
  .nil))
  (.cons (.ret (.con (.bool true)))
  .nil))) .nil)
  (.cons (.iff (.or (.tru (.prim (.isi [3]) (.ref 0 .nil))) (.tru (.prim (.isi [4]) (.ref 0 .nil)))) (.cons (.iff (.or (.cmp .ne (.val (.prim (.isi [3]) (.ref 0 .nil)) (.val (.prim (.isi [3]) (.ref 1 .nil)) .nil))) (.cmp .ne (.val (.prim (.isi [4]) (.ref 0 .nil)) (.val (.prim (.isi [4]) (.ref 1 .nil)) .nil)))) (.cons (.ret (.con (.bool false)))
  .nil) .nil)
  (.cons (.ret (.and (.prim .eq (.val (.prim .len (.ref 0 .nil)) (.val (.prim .len (.ref 1 .nil)) .nil))) (.prim .all (.val (.lc (.rng1 (.prim .len (.ref 0 .nil))) [3] (.nm 3) .tt (.call 142 (.val (.prim .ix (.ref 0 (.ref 3 .nil))) (.val (.prim .ix (.ref 1 (.ref 3 .nil))) .nil)))) .nil))))
  .nil)) .nil)
  (.cons (.iff (.or (.cmp .is (.ref 0 (.val (.con .none) .nil))) (.cmp .is (.ref 1 (.val (.con .none) .nil)))) (.cons (.ret (.and (.prim .is (.ref 0 (.val (.con .none) .nil))) (.prim .is (.ref 1 (.val (.con .none) .nil)))))
  .nil) .nil)
  (.cons (.iff (.or (.tru (.prim (.isi [1]) (.ref 0 .nil))) (.tru (.prim (.isi [1]) (.ref 1 .nil)))) (.cons (.ret (.and (.prim (.isi [1]) (.ref 0 .nil)) (.and (.prim (.isi [1]) (.ref 1 .nil)) (.prim .eq (.ref 0 (.ref 1 .nil))))))
  .nil) .nil)
  (.cons (.iff (.tru (.prim (.isi [2]) (.ref 0 .nil))) (.cons (.ret (.and (.prim (.isi [2]) (.ref 1 .nil)) (.prim .eq (.ref 0 (.ref 1 .nil)))))
  .nil) .nil)
  (.cons (.ret (.and (.prim (.isi [0]) (.ref 1 .nil)) (.prim .eq (.ref 0 (.ref 1 .nil)))))
  .nil))))))⟩
def F143 : Fn := ⟨"_law_gcd", ["one", "other", "k"], 2, [], (.cons (.asg (.nm 0) (.prim .abs (.ref 0 .nil)))
  (.cons (.asg (.nm 1) (.prim .abs (.ref 1 .nil)))
  (.cons (.fo (.rng1 (.con (.int 20000))) (.nm 2) (.cons (.iff (.cmp .eq (.ref 1 (.val (.con (.int 0)) .nil))) (.cons .brk
  .nil) .nil)
  (.cons (.par 0 1 (.var 1) (.prim .mod (.val (.prim .toInt (.ref 0 .nil)) (.ref 1 .nil))))
  .nil)))
  (.cons (.ret (.mv 0))
  .nil))))⟩
def F171 : Fn := ⟨"_law_frac", ["p", "q", "shared"], 2, [], (.cons (.asg (.nm 2) (.call 143 (.val (.var 0) (.val (.var 1) .nil))))
  (.cons (.iff (.cmp .lt (.ref 1 (.val (.con (.int 0)) .nil))) (.cons (.asg (.nm 2) (.prim .neg (.ref 2 .nil)))
  .nil) .nil)
  (.cons (.ret (.tup (.val (.prim .fdiv (.ref 0 (.ref 2 .nil))) (.val (.prim .fdiv (.ref 1 (.ref 2 .nil))) .nil))))
  .nil)))⟩
def F172 : Fn := ⟨"_law_plus", ["one", "other"], 2, [], (.cons (.ret (.call 171 (.val (.prim .add (.val (.prim .mul (.val (.prim .ix (.ref 0 (.val (.con (.int 0)) .nil))) (.val (.prim .ix (.ref 1 (.val (.con (.int 1)) .nil))) .nil))) (.val (.prim .mul (.val (.prim .ix (.ref 1 (.val (.con (.int 0)) .nil))) (.val (.prim .ix (.ref 0 (.val (.con (.int 1)) .nil))) .nil))) .nil))) (.val (.prim .mul (.val (.prim .ix (.ref 0 (.val (.con (.int 1)) .nil))) (.val (.prim .ix (.ref 1 (.val (.con (.int 1)) .nil))) .nil))) .nil))))
  .nil)⟩
def F173 : Fn := ⟨"_law_minus", ["one", "other"], 2, [], (.cons (.ret (.call 171 (.val (.prim .sub (.val (.prim .mul (.val (.prim .ix (.ref 0 (.val (.con (.int 0)) .nil))) (.val (.prim .ix (.ref 1 (.val (.con (.int 1)) .nil))) .nil))) (.val (.prim .mul (.val (.prim .ix (.ref 1 (.val (.con (.int 0)) .nil))) (.val (.prim .ix (.ref 0 (.val (.con (.int 1)) .nil))) .nil))) .nil))) (.val (.prim .mul (.val (.prim .ix (.ref 0 (.val (.con (.int 1)) .nil))) (.val (.prim .ix (.ref 1 (.val (.con (.int 1)) .nil))) .nil))) .nil))))
  .nil)⟩
def F174 : Fn := ⟨"_law_times", ["one", "other"], 2, [], (.cons (.ret (.call 171 (.val (.prim .mul (.val (.prim .ix (.ref 0 (.val (.con (.int 0)) .nil))) (.val (.prim .ix (.ref 1 (.val (.con (.int 0)) .nil))) .nil))) (.val (.prim .mul (.val (.prim .ix (.ref 0 (.val (.con (.int 1)) .nil))) (.val (.prim .ix (.ref 1 (.val (.con (.int 1)) .nil))) .nil))) .nil))))
  .nil)⟩
def F175 : Fn := ⟨"_law_over", ["one", "other"], 2, [], (.cons (.ret (.call 171 (.val (.prim .mul (.val (.prim .ix (.ref 0 (.val (.con (.int 0)) .nil))) (.val (.prim .ix (.ref 1 (.val (.con (.int 1)) .nil))) .nil))) (.val (.prim .mul (.val (.prim .ix (.ref 0 (.val (.con (.int 1)) .nil))) (.val (.prim .ix (.ref 1 (.val (.con (.int 0)) .nil))) .nil))) .nil))))
  .nil)⟩
def F176 : Fn := ⟨"_law_sum", ["numbers", "found", "number"], 1, [], (.cons (.asg (.nm 1) (.tup (.val (.con (.int 0)) (.val (.con (.int 1)) .nil))))
  (.cons (.fo (.seq (.var 0)) (.nm 2) (.cons (.asg (.nm 1) (.call 172 (.val (.var 1) (.val (.var 2) .nil))))
  .nil))
  (.cons (.ret (.mv 1))
  .nil)))⟩
def F177 : Fn := ⟨"_law_cross", ["origin", "one", "other", "x0", "y0", "x1", "y1"], 3, [], (.cons (.asg (.nm 3) (.call 173 (.val (.prim .ix (.ref 1 (.val (.con (.int 0)) .nil))) (.val (.prim .ix (.ref 0 (.val (.con (.int 0)) .nil))) .nil))))
  (.cons (.asg (.nm 4) (.call 173 (.val (.prim .ix (.ref 1 (.val (.con (.int 1)) .nil))) (.val (.prim .ix (.ref 0 (.val (.con (.int 1)) .nil))) .nil))))
  (.cons (.asg (.nm 5) (.call 173 (.val (.prim .ix (.ref 2 (.val (.con (.int 0)) .nil))) (.val (.prim .ix (.ref 0 (.val (.con (.int 0)) .nil))) .nil))))
  (.cons (.asg (.nm 6) (.call 173 (.val (.prim .ix (.ref 2 (.val (.con (.int 1)) .nil))) (.val (.prim .ix (.ref 0 (.val (.con (.int 1)) .nil))) .nil))))
  (.cons (.ret (.call 173 (.val (.call 174 (.val (.var 3) (.val (.var 6) .nil))) (.val (.call 174 (.val (.var 4) (.val (.var 5) .nil))) .nil))))
  .nil)))))⟩
def F179 : Fn := ⟨"_law_number", ["pool", "strength", "way"], 2, [0], (.cons (.asg (.nm 2) (.call 18 (.ref 0 (.val (.con (.int 8)) .nil))))
  (.cons (.iff (.cmp .lt (.ref 2 (.val (.con (.int 6)) .nil))) (.cons (.ret (.tup (.val (.prim .sub (.val (.call 18 (.ref 0 (.val (.prim .add (.val (.prim .mul (.val (.con (.int 2)) (.ref 1 .nil))) (.val (.con (.int 1)) .nil))) .nil))) (.ref 1 .nil))) (.val (.con (.int 1)) .nil))))
  .nil) .nil)
  (.cons (.iff (.cmp .eq (.ref 2 (.val (.con (.int 6)) .nil))) (.cons (.ret (.call 171 (.val (.prim .sub (.val (.call 18 (.ref 0 (.val (.con (.int 41)) .nil))) (.val (.con (.int 20)) .nil))) (.val (.prim .add (.val (.con (.int 1)) (.val (.call 18 (.ref 0 (.val (.con (.int 9)) .nil))) .nil))) .nil))))
  .nil) .nil)
  (.cons (.ret (.call 171 (.val (.prim .sub (.val (.call 18 (.ref 0 (.val (.con (.int 2000001)) .nil))) (.val (.con (.int 1000000)) .nil))) (.val (.prim .add (.val (.con (.int 1)) (.val (.call 18 (.ref 0 (.val (.con (.int 1000)) .nil))) .nil))) .nil))))
  .nil))))⟩
def F180 : Fn := ⟨"_law_point", ["pool", "strength"], 2, [0], (.cons (.ret (.tup (.val (.call 179 (.ref 0 (.val (.var 1) .nil))) (.val (.call 179 (.ref 0 (.val (.var 1) .nil))) .nil))))
  .nil)⟩
def F249 : Fn := ⟨"_law_map", ["pool", "turn", "numbers", "whole", "k"], 1, [0], (.cons (.fo (.rng1 (.con (.int 20))) (.nm 1) (.cons (.asg (.nm 2) (.lc (.rng1 (.con (.int 4))) [4] (.nm 4) .tt (.call 19 (.ref 0 (.val (.lst (.val (.tup (.val (.con (.int 1)) (.val (.con (.int 1)) .nil))) (.val (.tup (.val (.con (.int 2)) (.val (.con (.int 1)) .nil))) (.val (.tup (.val (.con (.int 0)) (.val (.con (.int 1)) .nil))) (.val (.tup (.val (.prim .neg (.val (.con (.int 1)) .nil)) (.val (.con (.int 1)) .nil))) (.val (.tup (.val (.con (.int 1)) (.val (.con (.int 2)) .nil))) (.val (.tup (.val (.con (.int 3)) (.val (.con (.int 1)) .nil))) (.val (.tup (.val (.prim .neg (.val (.con (.int 2)) .nil)) (.val (.con (.int 3)) .nil))) .nil)))))))) .nil)))))
  (.cons (.asg (.nm 3) (.call 173 (.val (.call 174 (.val (.prim .ix (.ref 2 (.val (.con (.int 0)) .nil))) (.val (.prim .ix (.ref 2 (.val (.con (.int 3)) .nil))) .nil))) (.val (.call 174 (.val (.prim .ix (.ref 2 (.val (.con (.int 1)) .nil))) (.val (.prim .ix (.ref 2 (.val (.con (.int 2)) .nil))) .nil))) .nil))))
  (.cons (.iff (.cmp .gt (.val (.prim .ix (.ref 3 (.val (.con (.int 0)) .nil))) (.val (.con (.int 0)) .nil))) (.cons (.ret (.prim .add (.ref 2 (.val (.lst (.val (.call 179 (.ref 0 (.val (.con (.int 9)) .nil))) (.val (.call 179 (.ref 0 (.val (.con (.int 9)) .nil))) (.val (.var 3) .nil)))) .nil))))
  .nil) .nil)
  .nil))))
  (.cons (.ret (.lst (.val (.tup (.val (.con (.int 1)) (.val (.con (.int 1)) .nil))) (.val (.tup (.val (.con (.int 0)) (.val (.con (.int 1)) .nil))) (.val (.tup (.val (.con (.int 0)) (.val (.con (.int 1)) .nil))) (.val (.tup (.val (.con (.int 1)) (.val (.con (.int 1)) .nil))) (.val (.tup (.val (.con (.int 0)) (.val (.con (.int 1)) .nil))) (.val (.tup (.val (.con (.int 0)) (.val (.con (.int 1)) .nil))) (.val (.tup (.val (.con (.int 1)) (.val (.con (.int 1)) .nil))) .nil)))))))))
  .nil))⟩
def F187 : Fn := ⟨"_law_mapped", ["chart", "spot", "x", "y"], 2, [], (.cons (.asg (.nm 2) (.call 176 (.val (.lst (.val (.call 174 (.val (.prim .ix (.ref 0 (.val (.con (.int 0)) .nil))) (.val (.tup (.val (.prim .ix (.ref 1 (.val (.con (.int 0)) .nil))) (.val (.con (.int 1)) .nil))) .nil))) (.val (.call 174 (.val (.prim .ix (.ref 0 (.val (.con (.int 1)) .nil))) (.val (.tup (.val (.prim .ix (.ref 1 (.val (.con (.int 1)) .nil))) (.val (.con (.int 1)) .nil))) .nil))) (.val (.prim .ix (.ref 0 (.val (.con (.int 4)) .nil))) .nil)))) .nil)))
  (.cons (.asg (.nm 3) (.call 176 (.val (.lst (.val (.call 174 (.val (.prim .ix (.ref 0 (.val (.con (.int 2)) .nil))) (.val (.tup (.val (.prim .ix (.ref 1 (.val (.con (.int 0)) .nil))) (.val (.con (.int 1)) .nil))) .nil))) (.val (.call 174 (.val (.prim .ix (.ref 0 (.val (.con (.int 3)) .nil))) (.val (.tup (.val (.prim .ix (.ref 1 (.val (.con (.int 1)) .nil))) (.val (.con (.int 1)) .nil))) .nil))) (.val (.prim .ix (.ref 0 (.val (.con (.int 5)) .nil))) .nil)))) .nil)))
  (.cons (.ret (.tup (.val (.var 2) (.val (.var 3) .nil))))
  .nil)))⟩
def F199 : Fn := ⟨"_law_grid", ["pool", "wide", "high", "found", "x", "y", "a", "b", "c", "d"], 3, [0], (.cons (.asg (.nm 3) (.lst .nil))
  (.cons (.fo (.rng1 (.var 1)) (.nm 4) (.cons (.fo (.rng1 (.var 2)) (.nm 5) (.cons (.asg (.tp [6, 7, 8, 9]) (.lst (.val (.tup (.val (.var 4) (.val (.var 5) .nil))) (.val (.tup (.val (.prim .add (.ref 4 (.val (.con (.int 1)) .nil))) (.val (.var 5) .nil))) (.val (.tup (.val (.prim .add (.ref 4 (.val (.con (.int 1)) .nil))) (.val (.prim .add (.ref 5 (.val (.con (.int 1)) .nil))) .nil))) (.val (.tup (.val (.var 4) (.val (.prim .add (.ref 5 (.val (.con (.int 1)) .nil))) .nil))) .nil))))))
  (.cons (.iff (.cmp .eq (.val (.call 18 (.ref 0 (.val (.con (.int 2)) .nil))) (.val (.con (.int 0)) .nil))) (.cons (.asg (.nm 3) (.prim .add (.ref 3 (.val (.lst (.val (.tup (.val (.var 6) (.val (.var 7) (.val (.var 8) .nil)))) (.val (.tup (.val (.var 6) (.val (.var 8) (.val (.var 9) .nil)))) .nil))) .nil))))
  .nil) (.cons (.asg (.nm 3) (.prim .add (.ref 3 (.val (.lst (.val (.tup (.val (.var 6) (.val (.var 7) (.val (.var 9) .nil)))) (.val (.tup (.val (.var 7) (.val (.var 8) (.val (.var 9) .nil)))) .nil))) .nil))))
  .nil))
  .nil)))
  .nil))
  (.cons (.ret (.mv 3))
  .nil)))⟩
def F200 : Fn := ⟨"_law_tiles", ["pool", "grid", "part", "k"], 2, [0], (.cons (.asg (.nm 2) (.call 19 (.ref 0 (.val (.lst (.val (.con (.int 2)) (.val (.con (.int 3)) (.val (.con (.int 3)) (.val (.con (.int 4)) .nil))))) .nil))))
  (.cons (.ret (.lc (.rng1 (.prim .len (.ref 1 .nil))) [3] (.nm 3) (.cmp .gt (.val (.call 18 (.ref 0 (.val (.var 2) .nil))) (.val (.con (.int 0)) .nil))) (.var 3)))
  .nil))⟩
def F509 : Fn := ⟨"_law_rim", ["grid", "tiles", "found", "k", "corners", "at", "bit"], 2, [], (.cons (.asg (.nm 2) (.lst .nil))
  (.cons (.fo (.seq (.var 1)) (.nm 3) (.cons (.asg (.nm 4) (.prim .ix (.ref 0 (.ref 3 .nil))))
  (.cons (.fo (.rng1 (.con (.int 3))) (.nm 5) (.cons (.asg (.nm 6) (.tup (.val (.prim .ix (.ref 4 (.val (.prim .sub (.ref 5 (.val (.con (.int 1)) .nil))) .nil))) (.val (.prim .ix (.ref 4 (.ref 5 .nil))) .nil))))
  (.cons (.iff (.cmp .isin (.val (.tup (.val (.prim .ix (.ref 6 (.val (.con (.int 1)) .nil))) (.val (.prim .ix (.ref 6 (.val (.con (.int 0)) .nil))) .nil))) (.ref 2 .nil))) (.cons (.exp (.mut .rem 2 (.val (.tup (.val (.prim .ix (.ref 6 (.val (.con (.int 1)) .nil))) (.val (.prim .ix (.ref 6 (.val (.con (.int 0)) .nil))) .nil))) .nil)))
  .nil) (.cons (.exp (.mut .app 2 (.val (.var 6) .nil)))
  .nil))
  .nil)))
  .nil)))
  (.cons (.ret (.mv 2))
  .nil)))⟩
def F514 : Fn := ⟨"_law_rings", ["bits", "left", "rings", "k", "path", "at", "step", "following", "place", "bit"], 1, [], (.cons (.asg (.nm 1) (.prim .toList (.ref 0 .nil)))
  (.cons (.asg (.nm 2) (.lst .nil))
  (.cons (.fo (.rng1 (.prim .len (.ref 0 .nil))) (.nm 3) (.cons (.iff (.cmp .eq (.ref 1 (.val (.lst .nil) .nil))) (.cons .brk
  .nil) .nil)
  (.cons (.asg (.nm 4) (.lst (.val (.prim .ix (.val (.prim .ix (.ref 1 (.val (.con (.int 0)) .nil))) (.val (.con (.int 0)) .nil))) .nil)))
  (.cons (.asg (.nm 5) (.prim .ix (.val (.mut .popAt 1 (.val (.con (.int 0)) .nil)) (.val (.con (.int 1)) .nil))))
  (.cons (.fo (.rng1 (.prim .len (.ref 0 .nil))) (.nm 6) (.cons (.iff (.cmp .isin (.ref 5 (.ref 4 .nil))) (.cons (.asg (.nm 8) (.idx 4 (.var 5)))
  (.cons (.exp (.mut .app 2 (.val (.prim (.sl true false) (.ref 4 (.ref 8 .nil))) .nil)))
  (.cons (.asg (.nm 4) (.prim (.sl false true) (.ref 4 (.ref 8 .nil))))
  .nil))) .nil)
  (.cons (.exp (.mut .app 4 (.val (.var 5) .nil)))
  (.cons (.asg (.nm 7) (.lcb 1 [9] (.nm 9) (.cmp .eq (.val (.prim .ix (.ref 9 (.val (.con (.int 0)) .nil))) (.ref 5 .nil))) (.var 9)))
  (.cons (.iff (.cmp .eq (.ref 7 (.val (.lst .nil) .nil))) (.cons .brk
  .nil) .nil)
  (.cons (.exp (.mut .rem 1 (.val (.prim .ix (.ref 7 (.val (.con (.int 0)) .nil))) .nil)))
  (.cons (.asg (.nm 5) (.prim .ix (.val (.prim .ix (.ref 7 (.val (.con (.int 0)) .nil))) (.val (.con (.int 1)) .nil))))
  .nil)))))))
  .nil)))))
  (.cons (.ret (.mv 2))
  .nil))))⟩
def F201 : Fn := ⟨"_law_straight", ["ring", "at", "one", "spot", "other"], 2, [], (.cons (.asg (.tp [2, 3, 4]) (.lst (.val (.prim .ix (.ref 0 (.val (.prim .sub (.ref 1 (.val (.con (.int 1)) .nil))) .nil))) (.val (.prim .ix (.ref 0 (.ref 1 .nil))) (.val (.prim .ix (.ref 0 (.val (.prim .mod (.val (.prim .toInt (.val (.prim .add (.ref 1 (.val (.con (.int 1)) .nil))) .nil)) (.val (.prim .len (.ref 0 .nil)) .nil))) .nil))) .nil)))))
  (.cons (.ret (.prim .eq (.val (.prim .mul (.val (.prim .sub (.val (.prim .ix (.ref 3 (.val (.con (.int 0)) .nil))) (.val (.prim .ix (.ref 2 (.val (.con (.int 0)) .nil))) .nil))) (.val (.prim .sub (.val (.prim .ix (.ref 4 (.val (.con (.int 1)) .nil))) (.val (.prim .ix (.ref 3 (.val (.con (.int 1)) .nil))) .nil))) .nil))) (.val (.prim .mul (.val (.prim .sub (.val (.prim .ix (.ref 3 (.val (.con (.int 1)) .nil))) (.val (.prim .ix (.ref 2 (.val (.con (.int 1)) .nil))) .nil))) (.val (.prim .sub (.val (.prim .ix (.ref 4 (.val (.con (.int 0)) .nil))) (.val (.prim .ix (.ref 3 (.val (.con (.int 0)) .nil))) .nil))) .nil))) .nil))))
  .nil))⟩
def F515 : Fn := ⟨"_law_shape", ["pool", "chart", "grid", "tiles", "found", "ring", "kept", "turn", "at", "spot"], 4, [0], (.cons (.asg (.nm 4) (.lst .nil))
  (.cons (.fo (.seq (.call 514 (.val (.call 509 (.val (.var 2) (.val (.var 3) .nil))) .nil))) (.nm 5) (.cons (.asg (.nm 6) (.var 5))
  (.cons (.iff (.cmp .gt (.val (.call 18 (.ref 0 (.val (.con (.int 3)) .nil))) (.val (.con (.int 0)) .nil))) (.cons (.asg (.nm 6) (.lc (.rng1 (.prim .len (.ref 5 .nil))) [8] (.nm 8) (.not (.tru (.call 201 (.val (.var 5) (.val (.var 8) .nil))))) (.prim .ix (.ref 5 (.ref 8 .nil)))))
  .nil) .nil)
  (.cons (.asg (.nm 7) (.call 18 (.ref 0 (.val (.prim .len (.ref 6 .nil)) .nil))))
  (.cons (.exp (.mut .app 4 (.val (.lc (.seq (.prim .add (.val (.prim (.sl true false) (.ref 6 (.ref 7 .nil))) (.val (.prim (.sl false true) (.ref 6 (.ref 7 .nil))) .nil)))) [9] (.nm 9) .tt (.call 187 (.val (.var 1) (.val (.var 9) .nil)))) .nil)))
  .nil)))))
  (.cons (.ret (.mv 4))
  .nil)))⟩
def F250 : Fn := ⟨"_law_corner_sum", ["corners", "one", "other", "point"], 3, [], (.cons (.ret (.call 176 (.val (.lc (.seq (.var 0)) [3] (.nm 3) .tt (.call 174 (.val (.prim .ix (.ref 3 (.ref 1 .nil))) (.val (.prim .ix (.ref 3 (.ref 2 .nil))) .nil)))) .nil)))
  .nil)⟩
def F251 : Fn := ⟨"_law_of_triangle", ["corners", "size", "x", "y", "parts", "part", "point"], 1, [], (.cons (.asg (.nm 1) (.call 175 (.val (.call 177 (.val (.prim .ix (.ref 0 (.val (.con (.int 0)) .nil))) (.val (.prim .ix (.ref 0 (.val (.con (.int 1)) .nil))) (.val (.prim .ix (.ref 0 (.val (.con (.int 2)) .nil))) .nil)))) (.val (.tup (.val (.con (.int 2)) (.val (.con (.int 1)) .nil))) .nil))))
  (.cons (.asg (.nm 2) (.call 176 (.val (.lc (.seq (.var 0)) [6] (.nm 6) .tt (.prim .ix (.ref 6 (.val (.con (.int 0)) .nil)))) .nil)))
  (.cons (.asg (.nm 3) (.call 176 (.val (.lc (.seq (.var 0)) [6] (.nm 6) .tt (.prim .ix (.ref 6 (.val (.con (.int 1)) .nil)))) .nil)))
  (.cons (.asg (.nm 4) (.lst (.val (.tup (.val (.con (.int 1)) (.val (.con (.int 1)) .nil))) (.val (.call 175 (.val (.var 2) (.val (.tup (.val (.con (.int 3)) (.val (.con (.int 1)) .nil))) .nil))) (.val (.call 175 (.val (.var 3) (.val (.tup (.val (.con (.int 3)) (.val (.con (.int 1)) .nil))) .nil))) .nil)))))
  (.cons (.exp (.mut .app 4 (.val (.call 175 (.val (.call 172 (.val (.call 174 (.val (.var 2) (.val (.var 2) .nil))) (.val (.call 250 (.val (.var 0) (.val (.con (.int 0)) (.val (.con (.int 0)) .nil)))) .nil))) (.val (.tup (.val (.con (.int 12)) (.val (.con (.int 1)) .nil))) .nil))) .nil)))
  (.cons (.exp (.mut .app 4 (.val (.call 175 (.val (.call 172 (.val (.call 174 (.val (.var 2) (.val (.var 3) .nil))) (.val (.call 250 (.val (.var 0) (.val (.con (.int 0)) (.val (.con (.int 1)) .nil)))) .nil))) (.val (.tup (.val (.con (.int 12)) (.val (.con (.int 1)) .nil))) .nil))) .nil)))
  (.cons (.exp (.mut .app 4 (.val (.call 175 (.val (.call 172 (.val (.call 174 (.val (.var 3) (.val (.var 3) .nil))) (.val (.call 250 (.val (.var 0) (.val (.con (.int 1)) (.val (.con (.int 1)) .nil)))) .nil))) (.val (.tup (.val (.con (.int 12)) (.val (.con (.int 1)) .nil))) .nil))) .nil)))
  (.cons (.ret (.lc (.seq (.var 4)) [5] (.nm 5) .tt (.call 174 (.val (.var 1) (.val (.var 5) .nil)))))
  .nil))))))))⟩
def F512 : Fn := ⟨"_law_moments", ["chart", "grid", "tiles", "found", "k", "more", "at", "spot"], 3, [], (.cons (.asg (.nm 3) (.rep (.val (.tup (.val (.con (.int 0)) (.val (.con (.int 1)) .nil))) .nil) 6))
  (.cons (.fo (.seq (.var 2)) (.nm 4) (.cons (.asg (.nm 5) (.call 251 (.val (.lc (.seq (.prim .ix (.ref 1 (.ref 4 .nil)))) [7] (.nm 7) .tt (.call 187 (.val (.var 0) (.val (.var 7) .nil)))) .nil)))
  (.cons (.asg (.nm 3) (.lc (.rng1 (.con (.int 6))) [6] (.nm 6) .tt (.call 172 (.val (.prim .ix (.ref 3 (.ref 6 .nil))) (.val (.prim .ix (.ref 5 (.ref 6 .nil))) .nil)))))
  .nil)))
  (.cons (.ret (.prim .toTuple (.ref 3 .nil)))
  .nil)))⟩
def F253 : Fn := ⟨"_law_cost", ["told", "point", "square", "lead"], 2, [], (.cons (.asg (.nm 2) (.call 174 (.val (.call 172 (.val (.call 174 (.val (.prim .ix (.ref 1 (.val (.con (.int 0)) .nil))) (.val (.prim .ix (.ref 1 (.val (.con (.int 0)) .nil))) .nil))) (.val (.call 174 (.val (.prim .ix (.ref 1 (.val (.con (.int 1)) .nil))) (.val (.prim .ix (.ref 1 (.val (.con (.int 1)) .nil))) .nil))) .nil))) (.val (.prim .ix (.ref 0 (.val (.con (.int 0)) .nil))) .nil))))
  (.cons (.asg (.nm 3) (.call 172 (.val (.call 174 (.val (.prim .ix (.ref 1 (.val (.con (.int 0)) .nil))) (.val (.prim .ix (.ref 0 (.val (.con (.int 1)) .nil))) .nil))) (.val (.call 174 (.val (.prim .ix (.ref 1 (.val (.con (.int 1)) .nil))) (.val (.prim .ix (.ref 0 (.val (.con (.int 2)) .nil))) .nil))) .nil))))
  (.cons (.ret (.call 173 (.val (.call 176 (.val (.lst (.val (.prim .ix (.ref 0 (.val (.con (.int 3)) .nil))) (.val (.prim .ix (.ref 0 (.val (.con (.int 5)) .nil))) (.val (.var 2) .nil)))) .nil)) (.val (.call 174 (.val (.tup (.val (.con (.int 2)) (.val (.con (.int 1)) .nil))) (.val (.var 3) .nil))) .nil))))
  .nil)))⟩
def F516 : Fn := ⟨"law", ["script", "pool", "round", "grid", "chart", "depots", "districts", "whole", "name", "point", "tiles", "shape", "due"], 1, [], (.cons (.asg (.nm 1) (.call 16 (.val (.var 0) .nil)))
  (.cons (.fo (.rng1 (.con (.int 2))) (.nm 2) (.cons (.exp (.call 17 (.ref 1 .nil)))
  (.cons (.asg (.nm 3) (.call 199 (.ref 1 (.val (.prim .add (.val (.con (.int 1)) (.val (.call 18 (.ref 1 (.val (.con (.int 3)) .nil))) .nil))) (.val (.prim .add (.val (.con (.int 1)) (.val (.call 18 (.ref 1 (.val (.con (.int 3)) .nil))) .nil))) .nil)))))
  (.cons (.asg (.nm 4) (.call 249 (.ref 1 .nil)))
  (.cons (.asg (.nm 5) (.lst (.val (.tup (.val (.con (.str "a")) (.val (.call 180 (.ref 1 (.val (.con (.int 4)) .nil))) .nil))) (.val (.tup (.val (.con (.str "b")) (.val (.call 180 (.ref 1 (.val (.con (.int 9)) .nil))) .nil))) (.val (.tup (.val (.con (.str "c")) (.val (.call 180 (.ref 1 (.val (.con (.int 1)) .nil))) .nil))) .nil)))))
  (.cons (.asg (.nm 6) (.prim .dict0 .nil))
  (.cons (.asg (.nm 7) (.tup (.val (.con (.int 0)) (.val (.con (.int 1)) .nil))))
  (.cons (.fo (.seq (.var 5)) (.tp [8, 9]) (.cons (.asg (.nm 10) (.call 200 (.ref 1 (.val (.var 3) .nil))))
  (.cons (.asg (.nm 11) (.call 515 (.ref 1 (.val (.var 4) (.val (.var 3) (.val (.var 10) .nil))))))
  (.cons (.asg (.nm 12) (.call 512 (.val (.var 4) (.val (.var 3) (.val (.var 10) .nil)))))
  (.cons (.iff (.or (.not (.tru (.call 142 (.val (.var 12) (.val (.call 506 (.val (.var 11) .nil)) .nil))))) (.not (.tru (.call 142 (.val (.call 253 (.val (.var 12) (.val (.var 9) .nil))) (.val (.call 507 (.val (.var 11) (.val (.var 9) .nil))) .nil)))))) (.cons (.ret (.con (.bool false)))
  .nil) .nil)
  (.cons (.iff (.cmp .ne (.ref 8 (.val (.con (.str "b")) .nil))) (.cons (.sto 6 (.var 8) (.var 11))
  (.cons (.asg (.nm 7) (.call 172 (.val (.var 7) (.val (.call 253 (.val (.var 12) (.val (.var 9) .nil))) .nil))))
  .nil)) .nil)
  .nil))))))
  (.cons (.iff (.not (.tru (.call 142 (.val (.var 7) (.val (.call 508 (.val (.var 5) (.val (.var 6) .nil))) .nil))))) (.cons (.ret (.con (.bool false)))
  .nil) .nil)
  .nil)))))))))
  (.cons (.ret (.call 142 (.val (.prim .toTuple (.val (.rep (.val (.tup (.val (.con (.int 0)) (.val (.con (.int 1)) .nil))) .nil) 6) .nil)) (.val (.call 506 (.val (.lst .nil) .nil)) .nil))))
  .nil)))⟩
def tab : List (Nat × Fn) := [(0, F0), (1, F1), (2, F2), (3, F3), (8, F8), (132, F132), (162, F162), (422, F422), (247, F247), (248, F248), (506, F506), (507, F507), (508, F508), (14, F14), (15, F15), (16, F16), (17, F17), (18, F18), (19, F19), (142, F142), (143, F143), (171, F171), (172, F172), (173, F173), (174, F174), (175, F175), (176, F176), (177, F177), (179, F179), (180, F180), (249, F249), (187, F187), (199, F199), (200, F200), (509, F509), (514, F514), (201, F201), (515, F515), (250, F250), (251, F251), (512, F512), (253, F253), (516, F516)]
def gl : List (Str × D) := [("NOUGHT", (.tuple [(.int 0), (.int 1)]))]
def bf : List (Str × String) := [("gcd", "math.gcd")]
def Gt : Nat → Option Fn := find tab
section
local macro_rules
  | `(tactic| trivial) => `(tactic| simp only [exQ, evE, evA, evT, evI, sees, Mi.plain, hands, backs, asg, binds, getO, rd_z, rd_uz, pr, prAdd, prSub, prMul, prFdiv, prMod, prNeg, prLt, prLe, prGt, prGe, prIx, prGcd, prAbs, prToInt, prToList, prToTuple, prLen, is_1, is_2, isi_1, isi_2, isi_3, isi_4, isi_5, isi_6, isi_7, Nat.reduceBEq, prPow, nonD_1, nonD_2, nonD_3, nonD_4, nonD_5, nonD_6, nonD_7, blD_1, blD_2, blD_3, blD_4, blD_5, blD_6, blD_7, bt1, bt2, beq_self_eq_true, mu, sto, zd, ud, items, Option.bind_some, Option.map_some, Option.bind_none, Option.bind_assoc,
      List.map_cons, List.map_nil, List.cons_append, List.nil_append, List.append_nil, List.length_cons, List.length_nil, List.replicate_succ, List.replicate_zero, List.getElem?_cons_zero, List.getElem?_cons_succ, List.set_cons_zero, List.set_cons_succ, List.any_cons, List.any_nil, id, Nat.reduceAdd, Nat.reduceSub, Nat.reduceLT, Nat.reduceLeDiff, Nat.lt_add_one, Nat.reduceEqDiff, Nat.one_ne_zero, if_true, if_false, reduceIte, List.not_mem_nil, List.mem_singleton, outs, decide_true, decide_false, Bool.or_false, Bool.false_or, Bool.or_true, Bool.true_or, Bool.and_true, Bool.true_and, Bool.and_false, Bool.false_and, Bool.not_true, Bool.not_false, Bool.false_eq_true, ok_some, then_nx, then_rt, then_bk, then_ct, done_rt, done_nx, not_true_eq_false, not_false_eq_true, le_size, lt_size, prEq_int, prNe_int, exB_nil, at0, at1, at2, at3])
section
variable {Gt : Nat → Option Fn} {w k : Nat}
theorem frac_ok (g : Gt 0 = some F0) {p q : Int} (hq : q ≠ 0) (sq : Bd 8000 q) : Ok (callF Gt w (k + 1) 0 [(.z, .int p), (.z, .int q)]) (· = ((.z, rD (Rat.divInt p q)), [(.z, .int p), (.z, .int q)])) := by
  refine ok_def 1 g rfl rfl ?_
  have hb := gcd_bd (p := p) hq sq
  have hn := gcd_ne (p := p) hq
  refine ok_seq ?_
  trivial
  by_cases h : 0 < q
  · rw [decide_eq_true h]
    have hd : divOk ((Nat.gcd p.natAbs q.natAbs : Nat) : Int) = true := divOk_of hn hb (by decide)
    trivial
    refine ok_seq ?_
    trivial
    simp only [hd, if_true]
    trivial
    unfold rD
    rw [num_pos h, den_pos' h]
  · rw [decide_eq_false h]
    have hd : divOk (-((Nat.gcd p.natAbs q.natAbs : Nat) : Int)) = true := divOk_of (by omega) hb.neg (by decide)
    trivial
    refine ok_seq ?_
    trivial
    simp only [hd, if_true]
    trivial
    unfold rD
    rw [num_neg (by omega), den_neg (by omega)]
/-- two numbers' products are of a size that the machine takes -/
theorem muls {r s : Rat} (hr : RB 3000 r) (hs : RB 3000 s) : mulOk r.num s.den = true ∧ mulOk s.num r.den = true ∧ mulOk r.den s.den = true ∧ mulOk r.num s.num = true ∧ mulOk r.den s.num = true :=
  ⟨mulOk_of hr.1 hs.2 (by decide), mulOk_of hs.1 hr.2 (by decide), mulOk_of hr.2 hs.2 (by decide), mulOk_of hr.1 hs.1 (by decide), mulOk_of hr.2 hs.1 (by decide)⟩
theorem plus_ok (g0 : Gt 0 = some F0) (g : Gt 1 = some F1) {r s : Rat} (hr : RB 3000 r) (hs : RB 3000 s) : Ok (callF Gt w (k + 2) 1 [(.z, rD r), (.z, rD s)]) (· = ((.z, rD (r + s)), [(.z, rD r), (.z, rD s)])) := by
  refine ok_def 0 g rfl rfl ?_
  obtain ⟨m1, m2, m3, _⟩ := muls hr hs
  refine ok_seq ?_
  unfold rD
  trivial
  simp only [m1, m2, m3, if_true]
  try trivial
  refine ok_bind (frac_ok g0 (den_mul_ne r s) ((hr.2.mul hs.2).mono (by decide))) ?_
  rintro _ rfl
  trivial
  rw [add_eq]
  rfl
theorem minus_ok (g0 : Gt 0 = some F0) (g : Gt 2 = some F2) {r s : Rat} (hr : RB 3000 r) (hs : RB 3000 s) : Ok (callF Gt w (k + 2) 2 [(.z, rD r), (.z, rD s)]) (· = ((.z, rD (r - s)), [(.z, rD r), (.z, rD s)])) := by
  refine ok_def 0 g rfl rfl ?_
  obtain ⟨m1, m2, m3, _⟩ := muls hr hs
  refine ok_seq ?_
  unfold rD
  trivial
  simp only [m1, m2, m3, if_true]
  try trivial
  refine ok_bind (frac_ok g0 (den_mul_ne r s) ((hr.2.mul hs.2).mono (by decide))) ?_
  rintro _ rfl
  trivial
  rw [sub_eq]
  rfl
theorem mul_ok (g0 : Gt 0 = some F0) (g : Gt 3 = some F3) {r s : Rat} (hr : RB 3000 r) (hs : RB 3000 s) : Ok (callF Gt w (k + 2) 3 [(.z, rD r), (.z, rD s)]) (· = ((.z, rD (r * s)), [(.z, rD r), (.z, rD s)])) := by
  refine ok_def 0 g rfl rfl ?_
  obtain ⟨m1, m2, m3, m4, _⟩ := muls hr hs
  refine ok_seq ?_
  unfold rD
  trivial
  simp only [m3, m4, if_true]
  try trivial
  refine ok_bind (frac_ok g0 (den_mul_ne r s) ((hr.2.mul hs.2).mono (by decide))) ?_
  rintro _ rfl
  trivial
  rw [mul_eq]
  rfl
/-- the quotient, as both sides reckon it -/
def quo (r s : Rat) : Rat := Rat.divInt (r.num * s.den) (r.den * s.num)
def gcdB : B := (.cons (.iff (.cmp .eq (.ref 1 (.val (.con (.int 0)) .nil))) (.cons .brk .nil) .nil) (.cons (.par 0 1 (.var 1) (.prim .mod (.val (.prim .toInt (.ref 0 .nil)) (.ref 1 .nil)))) .nil))
/-- one turn of Euclid -/
theorem gcd_stop {cf : CF} {a : Int} {x : Option SD} : exB cf w gcdB [some (.z, .int a), some (.z, .int 0), x] = some (.bk, [some (.z, .int a), some (.z, .int 0), x]) := by
  unfold gcdB
  simp only [exB]
  trivial
  simp [exB, exQ]
theorem gcd_turn {cf : CF} {a b : Int} {x : Option SD} (h : b ≠ 0) : exB cf w gcdB [some (.z, .int a), some (.z, .int b), x] = some (.nx, [some (.z, .int b), some (.z, .int (a.fmod b)), x]) := by
  unfold gcdB
  simp only [exB]
  trivial
  have e : (b == 0) = false := by simpa using h
  simp only [e]
  try trivial
  simp [h, exB]
theorem gcd_loop {cf : CF} : ∀ (n : Nat) (ds : List D) (a b : Nat) (x : Option SD), 2 * n + 1 ≤ ds.length → b < 2 ^ n →
    ∃ y z, loop (exB cf w gcdB) (.nm 2) ds [some (.z, .int a), some (.z, .int b), x] = some (.nx, [some (.z, .int (Nat.gcd a b : Nat)), y, z])
  | n, [], a, b, x, h, _ => by simp at h
  | n, d :: ds, a, 0, x, h, _ => by
    refine ⟨some (.z, .int 0), some (.z, d), ?_⟩
    simp only [loop]
    trivial
    rw [show ((0 : Nat) : Int) = 0 from rfl, gcd_stop]
    simp
  | 0, d :: ds, a, b + 1, x, h, hb => by simp at hb
  | n + 1, [d], a, b + 1, x, h, hb => by simp at h
  | n + 1, d :: d2 :: ds, a, b + 1, x, h, hb => by
    have e1 : ((a : Nat) : Int).fmod ((b + 1 : Nat) : Int) = ((a % (b + 1) : Nat) : Int) := by
      rw [Int.fmod_eq_emod_of_nonneg _ (by omega)]
      omega
    have hne : ((b + 1 : Nat) : Int) ≠ 0 := by omega
    have step1 : loop (exB cf w gcdB) (.nm 2) (d :: d2 :: ds) [some (.z, .int a), some (.z, .int ((b + 1 : Nat) : Int)), x] = loop (exB cf w gcdB) (.nm 2) (d2 :: ds) [some (.z, .int ((b + 1 : Nat) : Int)), some (.z, .int ((a % (b + 1) : Nat) : Int)), some (.z, d)] := by
      rw [loop]
      trivial
      rw [gcd_turn hne]
      simp only [Option.bind_some, e1]
    by_cases hc : a % (b + 1) = 0
    · rw [step1, hc]
      refine ⟨some (.z, .int 0), some (.z, d2), ?_⟩
      rw [loop]
      trivial
      rw [show ((0 : Nat) : Int) = 0 from rfl, gcd_stop]
      have : Nat.gcd a (b + 1) = b + 1 := by
        rw [Nat.gcd_comm, Nat.gcd_rec, hc, Nat.gcd_zero_left]
      simp [this]
    · have e2 : ((b + 1 : Nat) : Int).fmod ((a % (b + 1) : Nat) : Int) = (((b + 1) % (a % (b + 1)) : Nat) : Int) := by
        rw [Int.fmod_eq_emod_of_nonneg _ (by omega)]
        omega
      have lt1 : a % (b + 1) < b + 1 := Nat.mod_lt _ (by omega)
      have lt2 : (b + 1) % (a % (b + 1)) < 2 ^ n := by
        have q1 : (b + 1) % (a % (b + 1)) < a % (b + 1) := Nat.mod_lt _ (by omega)
        have q2 : (b + 1) % (a % (b + 1)) + a % (b + 1) ≤ b + 1 := by
          have q3 := Nat.mod_add_div (b + 1) (a % (b + 1))
          have q4 : 1 ≤ (b + 1) / (a % (b + 1)) := Nat.div_pos (by omega) (by omega)
          have q5 : (a % (b + 1)) * 1 ≤ (a % (b + 1)) * ((b + 1) / (a % (b + 1))) := Nat.mul_le_mul_left _ q4
          omega
        rw [Nat.pow_succ] at hb
        omega
      obtain ⟨y, z, q⟩ := gcd_loop n ds (a % (b + 1)) ((b + 1) % (a % (b + 1))) (some (.z, d2)) (by simp at h ⊢; omega) lt2
      refine ⟨y, z, ?_⟩
      rw [step1, loop]
      trivial
      rw [gcd_turn (by omega)]
      simp only [Option.bind_some, e2]
      rw [q]
      have : Nat.gcd (a % (b + 1)) ((b + 1) % (a % (b + 1))) = Nat.gcd a (b + 1) := by
        rw [Nat.gcd_comm (a % (b + 1)), ← Nat.gcd_rec, Nat.gcd_comm a, Nat.gcd_rec (b + 1) a]
      rw [this]
theorem big_rng : big 20000 = true := by decide
theorem lgcd_ok (g : Gt 143 = some F143) {p q : Int} (hb : Bd 9000 q) : Ok (callF Gt w (k + 1) 143 [(.z, .int p), (.z, .int q)]) (· = ((.z, .int (Nat.gcd p.natAbs q.natAbs : Nat)), [(.z, .int p), (.z, .int q)])) := by
  refine ok_def 1 g rfl rfl ?_
  have ea : (if p < 0 then -p else p) = ((p.natAbs : Nat) : Int) := by split <;> omega
  have eb : (if q < 0 then -q else q) = ((q.natAbs : Nat) : Int) := by split <;> omega
  refine ok_seq ?_
  trivial
  refine ok_seq ?_
  trivial
  refine ok_seq ?_
  trivial
  simp only [big_rng, if_true, Option.bind_some]
  obtain ⟨y, z, e⟩ := gcd_loop (cf := callF Gt w k) (w := w) 9000 (rngD 0 (20000 : Int).toNat) p.natAbs q.natAbs none (by rw [rng_len]; decide) hb
  unfold gcdB at e
  rw [ea, eb, e, ok_some, then_nx]
  refine ok_seq ?_
  trivial
theorem ratio_ok (g1 : Gt 143 = some F143) (g : Gt 171 = some F171) {p q : Int} (hq : q ≠ 0) (sq : Bd 8000 q) : Ok (callF Gt w (k + 2) 171 [(.z, .int p), (.z, .int q)]) (· = ((.z, rD (Rat.divInt p q)), [(.z, .int p), (.z, .int q)])) := by
  refine ok_def 1 g rfl rfl ?_
  have hb := gcd_bd (p := p) hq sq
  have hn := gcd_ne (p := p) hq
  refine ok_seq ?_
  trivial
  refine ok_bind (lgcd_ok g1 (sq.mono (by decide))) ?_
  rintro _ rfl
  trivial
  refine ok_seq ?_
  trivial
  by_cases h : q < 0
  · rw [decide_eq_true h]
    have hd : divOk (-((Nat.gcd p.natAbs q.natAbs : Nat) : Int)) = true := divOk_of (by omega) hb.neg (by decide)
    refine ok_seq ?_
    trivial
    refine ok_seq ?_
    trivial
    simp only [hd, if_true]
    trivial
    unfold rD
    rw [num_neg h, den_neg h]
  · rw [decide_eq_false h]
    have hd : divOk ((Nat.gcd p.natAbs q.natAbs : Nat) : Int) = true := divOk_of hn hb (by decide)
    trivial
    refine ok_seq ?_
    trivial
    simp only [hd, if_true]
    trivial
    unfold rD
    rw [num_pos (by omega), den_pos' (by omega)]
theorem ladd_ok (g1 : Gt 143 = some F143) (g2 : Gt 171 = some F171) (g : Gt 172 = some F172) {r s : Rat} (hr : RB 3000 r) (hs : RB 3000 s) : Ok (callF Gt w (k + 3) 172 [(.z, rD r), (.z, rD s)]) (· = ((.z, rD (r + s)), [(.z, rD r), (.z, rD s)])) := by
  refine ok_def 0 g rfl rfl ?_
  obtain ⟨m1, m2, m3, m4, m5⟩ := muls hr hs
  refine ok_seq ?_
  unfold rD
  trivial
  simp only [m1, m2, m3, if_true]
  try trivial
  refine ok_bind (ratio_ok g1 g2 (den_mul_ne r s) ((hr.2.mul hs.2).mono (by decide))) ?_
  rintro _ rfl
  trivial
  rw [add_eq]
  rfl
theorem lsub_ok (g1 : Gt 143 = some F143) (g2 : Gt 171 = some F171) (g : Gt 173 = some F173) {r s : Rat} (hr : RB 3000 r) (hs : RB 3000 s) : Ok (callF Gt w (k + 3) 173 [(.z, rD r), (.z, rD s)]) (· = ((.z, rD (r - s)), [(.z, rD r), (.z, rD s)])) := by
  refine ok_def 0 g rfl rfl ?_
  obtain ⟨m1, m2, m3, m4, m5⟩ := muls hr hs
  refine ok_seq ?_
  unfold rD
  trivial
  simp only [m1, m2, m3, if_true]
  try trivial
  refine ok_bind (ratio_ok g1 g2 (den_mul_ne r s) ((hr.2.mul hs.2).mono (by decide))) ?_
  rintro _ rfl
  trivial
  rw [sub_eq]
  rfl
theorem lmul_ok (g1 : Gt 143 = some F143) (g2 : Gt 171 = some F171) (g : Gt 174 = some F174) {r s : Rat} (hr : RB 3000 r) (hs : RB 3000 s) : Ok (callF Gt w (k + 3) 174 [(.z, rD r), (.z, rD s)]) (· = ((.z, rD (r * s)), [(.z, rD r), (.z, rD s)])) := by
  refine ok_def 0 g rfl rfl ?_
  obtain ⟨m1, m2, m3, m4, m5⟩ := muls hr hs
  refine ok_seq ?_
  unfold rD
  trivial
  simp only [m3, m4, if_true]
  try trivial
  refine ok_bind (ratio_ok g1 g2 (den_mul_ne r s) ((hr.2.mul hs.2).mono (by decide))) ?_
  rintro _ rfl
  trivial
  rw [mul_eq]
  rfl
theorem ldiv_ok (g1 : Gt 143 = some F143) (g2 : Gt 171 = some F171) (g : Gt 175 = some F175) {r s : Rat} (hr : RB 3000 r) (hs : RB 3000 s) (h0 : s.num ≠ 0) : Ok (callF Gt w (k + 3) 175 [(.z, rD r), (.z, rD s)]) (· = ((.z, rD (quo r s)), [(.z, rD r), (.z, rD s)])) := by
  refine ok_def 0 g rfl rfl ?_
  obtain ⟨m1, m2, m3, m4, m5⟩ := muls hr hs
  refine ok_seq ?_
  unfold rD
  trivial
  simp only [m1, m5, if_true]
  try trivial
  refine ok_bind (ratio_ok g1 g2 (Int.mul_ne_zero (den_ne r) h0) ((hr.2.mul hs.1).mono (by decide))) ?_
  rintro _ rfl
  trivial
  rfl
/-- points -/
def pD (p : Rat × Rat) : D := .tuple [rD p.1, rD p.2]
def PB (b : Nat) (p : Rat × Rat) : Prop := RB b p.1 ∧ RB b p.2
theorem quo_eq {r s : Rat} : quo r s = r / s := by
  unfold quo
  rw [Rat.div_def, Rat.inv_def, ← Rat.divInt_mul_divInt, divInt_den]
theorem rb_zero : RB 1 (0 : Rat) := by
  unfold RB Bd
  decide
/-- the sum, from the left -/
def fsum (l : List Rat) : Rat := l.foldl (· + ·) 0
theorem fsum_snoc {l : List Rat} {r : Rat} : fsum (l ++ [r]) = fsum l + r := by
  unfold fsum
  rw [List.foldl_append]
  rfl
theorem take_snoc {α : Type} {l : List α} {i : Nat} {a : α} (h : l[i]? = some a) : l.take (i + 1) = l.take i ++ [a] := by
  rw [List.take_add_one, h]
  rfl
theorem fsum_rb {b : Nat} : ∀ {l : List Rat}, (∀ r ∈ l, RB b r) → RB (1 + l.length * (b + 1)) (fsum l) := by
  intro l
  have key : ∀ (l : List Rat) (a : Nat) (x : Rat), RB a x → (∀ r ∈ l, RB b r) → RB (a + l.length * (b + 1)) (l.foldl (· + ·) x) := by
    intro l
    induction l with
    | nil =>
      intro a x h _
      exact h.mono (by simp)
    | cons y l ih =>
      intro a x h g
      have := ih (a + b + 1) (x + y) (h.add (g y (by simp))) fun r hr => g r (List.mem_cons_of_mem _ hr)
      refine this.mono ?_
      rw [List.length_cons, Nat.add_mul]
      omega
  exact fun h => key l 1 0 rb_zero h
theorem fsum_take {b n : Nat} {l : List Rat} (h : ∀ r ∈ l, RB b r) (hl : l.length ≤ n) (i : Nat) : RB (1 + n * (b + 1)) (fsum (l.take i)) := by
  refine (fsum_rb fun r hr => h r (List.mem_of_mem_take hr)).mono ?_
  have : (l.take i).length ≤ n := by
    rw [List.length_take]
    omega
  have := Nat.mul_le_mul_right (b + 1) this
  omega
theorem rD_zero : rD 0 = .tuple [.int 0, .int 1] := rfl
/-- two numbers of uneven size -/
theorem muls2 {a b : Nat} {r s : Rat} (hr : RB a r) (hs : RB b s) (h : a + b ≤ 8000) : mulOk r.num s.den = true ∧ mulOk s.num r.den = true ∧ mulOk r.den s.den = true ∧ mulOk r.num s.num = true ∧ mulOk r.den s.num = true :=
  ⟨mulOk_of hr.1 hs.2 (by omega), mulOk_of hs.1 hr.2 (by omega), mulOk_of hr.2 hs.2 (by omega), mulOk_of hr.1 hs.1 (by omega), mulOk_of hr.2 hs.1 (by omega)⟩
theorem plus_big (g0 : Gt 0 = some F0) (g : Gt 1 = some F1) {a b : Nat} {r s : Rat} (hr : RB a r) (hs : RB b s) (h : a + b ≤ 8000) : Ok (callF Gt w (k + 2) 1 [(.z, rD r), (.z, rD s)]) (· = ((.z, rD (r + s)), [(.z, rD r), (.z, rD s)])) := by
  refine ok_def 0 g rfl rfl ?_
  obtain ⟨m1, m2, m3, _⟩ := muls2 hr hs h
  refine ok_seq ?_
  unfold rD
  trivial
  simp only [m1, m2, m3, if_true]
  try trivial
  refine ok_bind (frac_ok g0 (den_mul_ne r s) ((hr.2.mul hs.2).mono h)) ?_
  rintro _ rfl
  trivial
  rw [add_eq]
  rfl
theorem ladd_big (g1 : Gt 143 = some F143) (g2 : Gt 171 = some F171) (g : Gt 172 = some F172) {a b : Nat} {r s : Rat} (hr : RB a r) (hs : RB b s) (h : a + b ≤ 8000) : Ok (callF Gt w (k + 3) 172 [(.z, rD r), (.z, rD s)]) (· = ((.z, rD (r + s)), [(.z, rD r), (.z, rD s)])) := by
  refine ok_def 0 g rfl rfl ?_
  obtain ⟨m1, m2, m3, m4, m5⟩ := muls2 hr hs h
  refine ok_seq ?_
  unfold rD
  trivial
  simp only [m1, m2, m3, if_true]
  try trivial
  refine ok_bind (ratio_ok g1 g2 (den_mul_ne r s) ((hr.2.mul hs.2).mono h)) ?_
  rintro _ rfl
  trivial
  rw [add_eq]
  rfl
theorem sum_big (g0 : Gt 0 = some F0) (g1 : Gt 1 = some F1) (g : Gt 8 = some F8) {b n : Nat} {l : List Rat} (h : ∀ r ∈ l, RB b r) (hl : l.length ≤ n) (hn : 1 + n * (b + 1) + b ≤ 8000) : Ok (callF Gt w (k + 3) 8 [(.z, .list (l.map rD))]) (· = ((.z, rD (fsum l)), [(.z, .list (l.map rD))])) := by
  refine ok_def 2 g rfl rfl ?_
  refine ok_seq ?_
  trivial
  rw [← rD_zero]
  refine ok_seq ?_
  trivial
  refine ok_loop (fun i ρ => ∃ x, ρ = [some (.z, .list (l.map rD)), some (.z, rD (fsum (l.take i))), x]) ⟨_, rfl⟩ ?_ ?_
  · rintro i d ρ he ⟨x, rfl⟩
    rw [List.getElem?_map, Option.map_eq_some_iff] at he
    obtain ⟨r, he, rfl⟩ := he
    trivial
    refine ok_seq ?_
    trivial
    refine ok_bind (plus_big g0 g1 (fsum_take h hl i) (h r (List.mem_of_getElem? he)) hn) ?_
    rintro _ rfl
    trivial
    refine ⟨some (.z, rD r), ?_⟩
    rw [take_snoc he, fsum_snoc]
  · rintro ρ ⟨x, rfl⟩
    trivial
    refine ok_seq ?_
    trivial
    rw [List.length_map, List.take_length]
theorem lsum_big (g1 : Gt 143 = some F143) (g2 : Gt 171 = some F171) (g3 : Gt 172 = some F172) (g : Gt 176 = some F176) {b n : Nat} {l : List Rat} (h : ∀ r ∈ l, RB b r) (hl : l.length ≤ n) (hn : 1 + n * (b + 1) + b ≤ 8000) : Ok (callF Gt w (k + 4) 176 [(.z, .list (l.map rD))]) (· = ((.z, rD (fsum l)), [(.z, .list (l.map rD))])) := by
  refine ok_def 2 g rfl rfl ?_
  refine ok_seq ?_
  trivial
  rw [← rD_zero]
  refine ok_seq ?_
  trivial
  refine ok_loop (fun i ρ => ∃ x, ρ = [some (.z, .list (l.map rD)), some (.z, rD (fsum (l.take i))), x]) ⟨_, rfl⟩ ?_ ?_
  · rintro i d ρ he ⟨x, rfl⟩
    rw [List.getElem?_map, Option.map_eq_some_iff] at he
    obtain ⟨r, he, rfl⟩ := he
    trivial
    refine ok_seq ?_
    trivial
    refine ok_bind (ladd_big g1 g2 g3 (fsum_take h hl i) (h r (List.mem_of_getElem? he)) hn) ?_
    rintro _ rfl
    trivial
    refine ⟨some (.z, rD r), ?_⟩
    rw [take_snoc he, fsum_snoc]
  · rintro ρ ⟨x, rfl⟩
    trivial
    refine ok_seq ?_
    trivial
    rw [List.length_map, List.take_length]
end
end
section
local macro_rules
  | `(tactic| trivial) => `(tactic| simp only [exQ, evE, evA, evT, evI, sees, Mi.plain, hands, backs, asg, binds, getO, rd_z, rd_uz, pr, prAdd, prSub, prMul, prFdiv, prMod, prNeg, prLt, prLe, prGt, prGe, prIx, prGcd, prAbs, prToInt, prToList, prToTuple, prLen, is_1, is_2, isi_1, isi_2, isi_3, isi_4, isi_5, isi_6, isi_7, Nat.reduceBEq, prPow, nonD_1, nonD_2, nonD_3, nonD_4, nonD_5, nonD_6, nonD_7, blD_1, blD_2, blD_3, blD_4, blD_5, blD_6, blD_7, bt1, bt2, beq_self_eq_true, mu, sto, zd, ud, items, Option.bind_some, Option.map_some, Option.bind_none, Option.bind_assoc,
      List.map_cons, List.map_nil, List.cons_append, List.nil_append, List.append_nil, List.length_cons, List.length_nil, List.replicate_succ, List.replicate_zero, List.getElem?_cons_zero, List.getElem?_cons_succ, List.set_cons_zero, List.set_cons_succ, List.any_cons, List.any_nil, id, Nat.reduceAdd, Nat.reduceSub, Nat.reduceLT, Nat.reduceLeDiff, Nat.lt_add_one, Nat.reduceEqDiff, Nat.one_ne_zero, if_true, if_false, reduceIte, List.not_mem_nil, List.mem_singleton, outs, decide_true, decide_false, Bool.or_false, Bool.false_or, Bool.or_true, Bool.true_or, Bool.and_true, Bool.true_and, Bool.and_false, Bool.false_and, Bool.not_true, Bool.not_false, Bool.false_eq_true, ok_some, then_nx, then_rt, then_bk, then_ct, done_rt, done_nx, not_true_eq_false, not_false_eq_true, le_size, lt_size, prEq_int, prNe_int, exB_nil, at0, at1, at2, at3])
section
variable {Gt : Nat → Option Fn} {w k : Nat}
theorem ix4 : ixN 4 1 = some 1 ∧ ixN 4 2 = some 2 ∧ ixN 4 3 = some 3 := by decide
theorem mod_pos {a b : Int} (h : 0 < b) : 0 ≤ a.fmod b ∧ a.fmod b < b := by
  rw [Int.fmod_eq_emod_of_nonneg _ (by omega)]
  exact ⟨Int.emod_nonneg _ (by omega), Int.emod_lt_of_pos _ h⟩
theorem bd_of {b : Nat} {i : Int} (h0 : 0 ≤ i) (h : i < 2 ^ b) : Bd b i := by
  unfold Bd
  have e : ((2 ^ b : Nat) : Int) = (2 : Int) ^ b := by norm_cast
  omega
theorem mixed_ok (g : Gt 14 = some F14) {a b : Int} : Ok (callF Gt w (k + 1) 14 [(.z, .int a), (.z, .int b)]) (fun x => ∃ v : Int, 0 ≤ v ∧ x = ((.z, .int v), [(.z, .int a), (.z, .int b)])) := by
  refine ok_def 3 g rfl rfl ?_
  have m1 : mulOk a 48271 = true := mulOk_r (by decide) (by decide)
  have m2 : mulOk b 69621 = true := mulOk_r (by decide) (by decide)
  refine ok_seq ?_
  trivial
  simp only [m1, m2, if_true]
  trivial
  rw [if_pos (by decide)]
  trivial
  have h1 := mod_pos (a := a * 48271 + b * 69621 + 11) (b := 618970019642690137449562111) (by decide)
  generalize (a * 48271 + b * 69621 + 11).fmod 618970019642690137449562111 = x at h1 ⊢
  have b1 : Bd 90 x := bd_of h1.1 (Int.lt_trans h1.2 (by decide))
  have m3 : mulOk x x = true := mulOk_of b1 b1 (by decide)
  have m4 : mulOk 7 x = true := mulOk_l (by decide) (by decide)
  refine ok_seq ?_
  trivial
  simp only [m3, m4, if_true]
  trivial
  rw [if_pos (by decide)]
  trivial
  have h2 := mod_pos (a := x * x + 7 * x + b) (b := 162259276829213363391578010288127) (by decide)
  generalize (x * x + 7 * x + b).fmod 162259276829213363391578010288127 = y at h2 ⊢
  have b2 : Bd 110 y := bd_of h2.1 (Int.lt_trans h2.2 (by decide))
  have m5 : mulOk y y = true := mulOk_of b2 b2 (by decide)
  refine ok_seq ?_
  trivial
  simp only [m5, if_true]
  trivial
  rw [if_pos (by decide)]
  trivial
  have h3 := mod_pos (a := y * y + x) (b := 618970019642690137449562111) (by decide)
  generalize (y * y + x).fmod 618970019642690137449562111 = z at h3 ⊢
  have m6 : mulOk y 618970019642690137449562111 = true := mulOk_of b2 (b := 90) (bd_of (by decide) (by decide)) (by decide)
  refine ok_seq ?_
  trivial
  simp only [m6, if_true]
  trivial
  exact ⟨_, by omega, rfl⟩
theorem script_len {ns : List Int} : (ns.map PyData.int).length = ns.length := List.length_map _
theorem rest_ok (g1 : Gt 14 = some F14) (g : Gt 15 = some F15) {ns : List Int} {i f : Int} (hi : 0 ≤ i) : Ok (callF Gt w (k + 2) 15 [(.z, scriptD ns), (.z, .int i), (.z, .int f)]) (fun x => ∃ v : Int, 0 ≤ v ∧ x = ((.z, .int v), [(.z, scriptD ns), (.z, .int i), (.z, .int f)])) := by
  refine ok_def 1 g rfl rfl ?_
  unfold scriptD
  have tail : ∀ n : Int, Ok (exB (callF Gt w (k + 1)) w (.cons (.iff (.cmp .lt (.ref 3 (.val (.con (.int 0)) .nil))) (.cons (.asg (.nm 3) (.prim .sub (.val (.con (.int 1)) (.val (.prim .mul (.val (.con (.int 2)) (.ref 3 .nil))) .nil)))) .nil) .nil)
      (.cons (.iff (.and (.cmp .eq (.ref 2 (.val (.con (.int 0)) .nil))) (.and (.cmp .lt (.ref 1 (.val (.prim .len (.ref 0 .nil)) .nil))) (.cmp .ge (.ref 3 (.val (.prim .pow (.val (.con (.int 10)) (.val (.con (.int 18)) .nil))) .nil))))) (.cons (.ret (.prim .sub (.ref 3 (.val (.prim .pow (.val (.con (.int 10)) (.val (.con (.int 18)) .nil))) .nil)))) .nil) .nil)
      (.cons (.ret (.call 14 (.val (.prim .add (.ref 3 (.val (.prim .mul (.ref 2 (.val (.con (.int 1000003)) .nil))) .nil))) (.val (.var 1) .nil)))) .nil)))
      [some (.z, .list (ns.map PyData.int)), some (.z, .int i), some (.z, .int f), some (.z, .int n)]) (Done [] [(.z, .list (ns.map PyData.int)), (.z, .int i), (.z, .int f)] (fun x => ∃ v : Int, 0 ≤ v ∧ x = ((.z, .int v), [(.z, .list (ns.map PyData.int)), (.z, .int i), (.z, .int f)]))) := by
    intro n
    have m2 : mulOk 2 n = true := mulOk_l (by decide) (by decide)
    have m3 : mulOk f 1000003 = true := mulOk_r (by decide) (by decide)
    have pw : powOk 10 18 = true := by decide
    have last : ∀ m : Int, 0 ≤ m → Ok (exB (callF Gt w (k + 1)) w (.cons (.iff (.and (.cmp .eq (.ref 2 (.val (.con (.int 0)) .nil))) (.and (.cmp .lt (.ref 1 (.val (.prim .len (.ref 0 .nil)) .nil))) (.cmp .ge (.ref 3 (.val (.prim .pow (.val (.con (.int 10)) (.val (.con (.int 18)) .nil))) .nil))))) (.cons (.ret (.prim .sub (.ref 3 (.val (.prim .pow (.val (.con (.int 10)) (.val (.con (.int 18)) .nil))) .nil)))) .nil) .nil)
        (.cons (.ret (.call 14 (.val (.prim .add (.ref 3 (.val (.prim .mul (.ref 2 (.val (.con (.int 1000003)) .nil))) .nil))) (.val (.var 1) .nil)))) .nil))
        [some (.z, .list (ns.map PyData.int)), some (.z, .int i), some (.z, .int f), some (.z, .int m)]) (Done [] [(.z, .list (ns.map PyData.int)), (.z, .int i), (.z, .int f)] (fun x => ∃ v : Int, 0 ≤ v ∧ x = ((.z, .int v), [(.z, .list (ns.map PyData.int)), (.z, .int i), (.z, .int f)]))) := by
      intro m hm
      have fin : Ok (exB (callF Gt w (k + 1)) w (.cons (.ret (.call 14 (.val (.prim .add (.ref 3 (.val (.prim .mul (.ref 2 (.val (.con (.int 1000003)) .nil))) .nil))) (.val (.var 1) .nil)))) .nil)
        [some (.z, .list (ns.map PyData.int)), some (.z, .int i), some (.z, .int f), some (.z, .int m)]) (Done [] [(.z, .list (ns.map PyData.int)), (.z, .int i), (.z, .int f)] (fun x => ∃ v : Int, 0 ≤ v ∧ x = ((.z, .int v), [(.z, .list (ns.map PyData.int)), (.z, .int i), (.z, .int f)]))) := by
        refine ok_seq ?_
        trivial
        simp only [m3, if_true]
        try trivial
        refine ok_bind (mixed_ok g1) ?_
        rintro _ ⟨v, hv, rfl⟩
        trivial
        exact ⟨v, hv, rfl⟩
      refine ok_seq ?_
      trivial
      cases h1 : f == 0
      · trivial
        exact fin
      · trivial
        cases h2 : decide (i < (ns.map PyData.int).length)
        · trivial
          exact fin
        · trivial
          simp only [pw, if_true]
          trivial
          cases h3 : decide ((10 : Int) ^ (18 : Int).toNat ≤ m)
          · trivial
            exact fin
          · trivial
            refine ok_seq ?_
            trivial
            simp only [pw, if_true]
            trivial
            exact ⟨_, by have := of_decide_eq_true h3; omega, rfl⟩
    refine ok_seq ?_
    trivial
    by_cases h : n < 0
    · rw [decide_eq_true h]
      refine ok_seq ?_
      trivial
      simp only [m2, if_true]
      trivial
      exact last _ (by omega)
    · rw [decide_eq_false h]
      trivial
      exact last _ (by omega)
  refine ok_seq ?_
  trivial
  refine ok_seq ?_
  trivial
  by_cases h : 0 < ns.length
  · rw [decide_eq_true (show (0 : Int) < ((ns.map PyData.int).length : Int) by rw [script_len]; omega)]
    refine ok_seq ?_
    trivial
    rw [if_pos (show ((ns.map PyData.int).length : Int) ≠ 0 by rw [script_len]; omega)]
    have hm := mod_pos (a := i) (b := ((ns.map PyData.int).length : Int)) (by rw [script_len]; omega)
    obtain ⟨j, hj⟩ := Int.eq_ofNat_of_zero_le hm.1
    rw [hj] at hm
    have hlt : j < (ns.map PyData.int).length := by omega
    have ha : atI (ns.map PyData.int) (i.fmod ((ns.map PyData.int).length : Int)) = some (.int (ns[j]'(by rw [script_len] at hlt; exact hlt))) := by
      rw [hj]
      have := at_nat hlt
      rw [List.getElem_map] at this
      exact this
    trivial
    simp only [ha]
    trivial
    exact tail _
  · rw [decide_eq_false (show ¬ (0 : Int) < ((ns.map PyData.int).length : Int) by rw [script_len]; omega)]
    trivial
    exact tail _
/-- the state that the draws come from -/
def PoolOk (ns : List Int) (d : D) : Prop := ∃ i v f : Int, 0 ≤ i ∧ 0 ≤ v ∧ 0 ≤ f ∧ d = .list [scriptD ns, .int i, .int v, .int f]
theorem pool_ok (g1 : Gt 14 = some F14) (g2 : Gt 15 = some F15) (g : Gt 16 = some F16) {ns : List Int} : Ok (callF Gt w (k + 3) 16 [(.z, scriptD ns)]) (fun x => ∃ d, PoolOk ns d ∧ x = ((.u .z, d), [(.z, scriptD ns)])) := by
  refine ok_def 0 g rfl rfl ?_
  refine ok_seq ?_
  trivial
  refine ok_bind (rest_ok g1 g2 (Int.le_refl 0)) ?_
  rintro _ ⟨v, hv, rfl⟩
  trivial
  exact ⟨_, ⟨0, v, 0, by omega, hv, by omega, rfl⟩, rfl⟩
theorem next_ok (g1 : Gt 14 = some F14) (g2 : Gt 15 = some F15) (g : Gt 17 = some F17) {ns : List Int} {d : D} (hd : PoolOk ns d) : Ok (callF Gt w (k + 3) 17 [(.u .z, d)]) (fun x => ∃ d', PoolOk ns d' ∧ x = ((.z, .none), [(.u .z, d')])) := by
  obtain ⟨i, v, f, hi, hv, hf, rfl⟩ := hd
  refine ok_def 0 g rfl rfl ?_
  refine ok_seq ?_
  trivial
  simp only [ix4]
  trivial
  refine ok_seq ?_
  trivial
  refine ok_bind (rest_ok g1 g2 (show 0 ≤ i + 1 by omega)) ?_
  rintro _ ⟨v', hv', rfl⟩
  trivial
  simp only [ix4]
  trivial
  refine ok_seq ?_
  trivial
  simp only [ix4]
  trivial
  exact ⟨_, ⟨i + 1, v', 0, by omega, hv', by omega, rfl⟩, rfl⟩
theorem draw_ok (g1 : Gt 14 = some F14) (g2 : Gt 15 = some F15) (g : Gt 18 = some F18) {ns : List Int} {d : D} {n : Int} (hd : PoolOk ns d) (hn : 0 < n) (hb : Bd 8000 n) :
    Ok (callF Gt w (k + 3) 18 [(.u .z, d), (.z, .int n)]) (fun x => ∃ d' r, PoolOk ns d' ∧ 0 ≤ r ∧ r < n ∧ x = ((.z, .int r), [(.u .z, d'), (.z, .int n)])) := by
  obtain ⟨i, v, f, hi, hv, hf, rfl⟩ := hd
  refine ok_def 1 g rfl rfl ?_
  have hne : n ≠ 0 := by omega
  have hdv : divOk n = true := divOk_of hne hb (by decide)
  have tail : ∀ f v : Int, 0 ≤ v → 0 ≤ f → Ok (exB (callF Gt w (k + 2)) w (.cons (.asg (.nm 2) (.prim .mod (.val (.prim .toInt (.val (.prim .ix (.ref 0 (.val (.con (.int 2)) .nil))) .nil)) (.ref 1 .nil)))) (.cons (.sto 0 (.con (.int 2)) (.prim .fdiv (.val (.prim .toInt (.val (.prim .ix (.ref 0 (.val (.con (.int 2)) .nil))) .nil)) (.ref 1 .nil)))) (.cons (.ret (.mv 2)) .nil)))
      [some (.u .z, .list [scriptD ns, .int i, .int v, .int f]), some (.z, .int n), none]) (Done [0] [(.u .z, .list [scriptD ns, .int i, .int v, .int f]), (.z, .int n)] (fun x => ∃ d' r, PoolOk ns d' ∧ 0 ≤ r ∧ r < n ∧ x = ((.z, .int r), [(.u .z, d'), (.z, .int n)]))) := by
    intro f v hv hf
    refine ok_seq ?_
    trivial
    rw [if_pos hne]
    trivial
    refine ok_seq ?_
    trivial
    simp only [hdv, if_true]
    trivial
    simp only [ix4]
    trivial
    refine ok_seq ?_
    trivial
    have h1 := mod_pos (a := v) hn
    refine ⟨_, _, ⟨i, v.fdiv n, f, hi, ?_, hf, rfl⟩, h1.1, h1.2, rfl⟩
    rw [Int.fdiv_eq_ediv_of_nonneg _ (by omega)]
    exact Int.ediv_nonneg hv (by omega)
  have swap : ∀ (f v f' v' : Int) (x : Fl × Ev), Done [0] [(.u .z, .list [scriptD ns, .int i, .int v', .int f']), (.z, .int n)] (fun x => ∃ d' r, PoolOk ns d' ∧ 0 ≤ r ∧ r < n ∧ x = ((.z, .int r), [(.u .z, d'), (.z, .int n)])) x →
      Done [0] [(.u .z, .list [scriptD ns, .int i, .int v, .int f]), (.z, .int n)] (fun x => ∃ d' r, PoolOk ns d' ∧ 0 ≤ r ∧ r < n ∧ x = ((.z, .int r), [(.u .z, d'), (.z, .int n)])) x := by
    rintro f v f' v' ⟨fl, ρ⟩ h
    cases fl <;> exact h
  refine ok_seq ?_
  trivial
  by_cases h : v ≤ 1
  · rw [decide_eq_true h]
    refine ok_seq ?_
    trivial
    simp only [ix4]
    trivial
    refine ok_seq ?_
    trivial
    refine ok_bind (rest_ok g1 g2 hi) ?_
    rintro _ ⟨v', hv', rfl⟩
    trivial
    simp only [ix4]
    trivial
    exact (tail (f + 1) v' hv' (by omega)).mono (swap _ _ _ _)
  · rw [decide_eq_false h]
    trivial
    exact tail f v hv hf
theorem pick_ok (g1 : Gt 14 = some F14) (g2 : Gt 15 = some F15) (g3 : Gt 18 = some F18) (g : Gt 19 = some F19) {ns : List Int} {d : D} {xs : List D} (hd : PoolOk ns d) (hn : 0 < xs.length) (hb : xs.length < 2 ^ 64) :
    Ok (callF Gt w (k + 4) 19 [(.u .z, d), (.z, .list xs)]) (fun x => ∃ d' r, PoolOk ns d' ∧ r ∈ xs ∧ x = ((.z, r), [(.u .z, d'), (.z, .list xs)])) := by
  refine ok_def 0 g rfl rfl ?_
  refine ok_seq ?_
  trivial
  refine ok_bind (draw_ok g1 g2 g3 hd (show (0 : Int) < (xs.length : Int) by omega) (Bd.mono (a := 64) (by unfold Bd; rw [Int.natAbs_natCast]; exact hb) (by decide))) ?_
  rintro _ ⟨d', r, hd', h0, h1, rfl⟩
  obtain ⟨j, rfl⟩ := Int.eq_ofNat_of_zero_le h0
  have hj : j < xs.length := by omega
  trivial
  simp only [at_nat hj]
  trivial
  exact ⟨d', _, hd', List.getElem_mem hj, rfl⟩
/-- data that both sides can tell: truths, numbers, rows of such -/
def Sm : Nat → D → Prop
  | _, .none => True
  | _, .bool _ => True
  | _, .int _ => True
  | n + 1, .list ds => ds.length ≤ 1000 ∧ ∀ x ∈ ds, Sm n x
  | n + 1, .tuple ds => ds.length ≤ 1000 ∧ ∀ x ∈ ds, Sm n x
  | _, _ => False
theorem big_nat {n : Nat} (h : n ≤ 1000) : big (n : Int) = true := by
  refine decide_eq_true ?_
  omega
theorem sm_rD {n : Nat} {r : Rat} : Sm (n + 1) (rD r) := by
  refine ⟨by simp, fun x hx => ?_⟩
  simp only [List.mem_cons, List.not_mem_nil, or_false] at hx
  rcases hx with rfl | rfl
  · cases n <;> exact True.intro
  · cases n <;> exact True.intro
theorem sm_int {n : Nat} {i : Int} : Sm n (.int i) := by cases n <;> exact True.intro
theorem sm_bool {n : Nat} {b : Bool} : Sm n (.bool b) := by cases n <;> exact True.intro
theorem sm_list {n : Nat} {ds : List D} (h : ds.length ≤ 1000) (g : ∀ x ∈ ds, Sm n x) : Sm (n + 1) (.list ds) := ⟨h, g⟩
theorem sm_tuple {n : Nat} {ds : List D} (h : ds.length ≤ 1000) (g : ∀ x ∈ ds, Sm n x) : Sm (n + 1) (.tuple ds) := ⟨h, g⟩
theorem sm_pD {n : Nat} {p : Rat × Rat} : Sm (n + 2) (pD p) := by
  refine ⟨by simp, fun x hx => ?_⟩
  simp only [List.mem_cons, List.not_mem_nil, or_false] at hx
  rcases hx with rfl | rfl <;> exact sm_rD
theorem rb_one {b : Nat} (h : 1 ≤ b) : RB b (1 : Rat) := (show RB 1 (1 : Rat) from by unfold RB Bd; decide).mono h
theorem rD_one : rD 1 = .tuple [.int 1, .int 1] := rfl
theorem same_atom (g : Gt 142 = some F142) : ∀ d : D, (match d with | .none => True | .bool _ => True | .int _ => True | _ => False) → Ok (callF Gt w (k + 1) 142 [(.z, d), (.z, d)]) (· = ((.z, .bool true), [(.z, d), (.z, d)]))
  | .none, _ => by
    refine ok_def 2 g rfl rfl ?_
    refine ok_seq ?_
    trivial
    refine ok_seq ?_
    trivial
    refine ok_seq ?_
    trivial
    refine ok_seq ?_
    trivial
  | .bool b, _ => by
    refine ok_def 2 g rfl rfl ?_
    refine ok_seq ?_
    trivial
    refine ok_seq ?_
    trivial
    refine ok_seq ?_
    trivial
    refine ok_seq ?_
    trivial
    have e : prEq [.bool b, .bool b] = some (.z, .bool true) := by cases b <;> rfl
    refine ok_seq ?_
    trivial
    rw [e]
    trivial
  | .int i, _ => by
    refine ok_def 2 g rfl rfl ?_
    refine ok_seq ?_
    trivial
    refine ok_seq ?_
    trivial
    refine ok_seq ?_
    trivial
    refine ok_seq ?_
    trivial
    refine ok_seq ?_
    trivial
    refine ok_seq ?_
    trivial
  | .str _, h => h.elim
  | .list _, h => h.elim
  | .tuple _, h => h.elim
  | .dict _, h => h.elim
theorem bool_ne {b : Bool} : prNe [.bool b, .bool b] = some (.z, .bool false) := by cases b <;> rfl
theorem allBl_true : ∀ {l : List D}, (∀ x ∈ l, x = PyData.bool true) → ∃ bs : List Bool, allBl l = some bs ∧ bs.all id = true
  | [], _ => ⟨[], rfl, rfl⟩
  | x :: l, h => by
    obtain ⟨bs, e, ht⟩ := allBl_true (l := l) fun y hy => h y (List.mem_cons_of_mem _ hy)
    have hx := h x (List.mem_cons_self)
    subst hx
    refine ⟨true :: bs, ?_, ?_⟩
    · simp only [allBl, e, Option.map_some]
    · simp [ht]
theorem same_row (g : Gt 142 = some F142) {ds : List D} {d : D} (hd : d = .list ds ∨ d = .tuple ds) (hl : ds.length ≤ 1000) (ih : ∀ x ∈ ds, Ok (callF Gt w k 142 [(.z, x), (.z, x)]) (· = ((.z, .bool true), [(.z, x), (.z, x)]))) : Ok (callF Gt w (k + 1) 142 [(.z, d), (.z, d)]) (· = ((.z, .bool true), [(.z, d), (.z, d)])) := by
  have key : ∀ (ft : Ev → Option (Bool × Ev)) (fe : Ev → Option (SD × Ev)), (∀ ρ, ft ρ = some (true, ρ)) →
      (∀ (i : Nat) (x : D), ds[i]? = some x → Ok (fe [some (.z, d), some (.z, d), none, some (.z, .int (i : Int))]) fun y => y.1.2 = PyData.bool true ∧ y.2 = [some (.z, d), some (.z, d), none, some (.z, .int (i : Int))]) →
      Ok (turns ft fe (.nm 3) [3] (rngD 0 ds.length) [some (.z, d), some (.z, d), none, none] []) (fun x => (∀ y ∈ x.1, y = PyData.bool true) ∧ x.2 = [some (.z, d), some (.z, d), none, none]) := by
    intro ft fe ht hfe
    refine ok_turns (fun i acc ρ => (∀ y ∈ acc, y = PyData.bool true) ∧ ρ = [some (.z, d), some (.z, d), none, none]) ⟨by simp, rfl⟩ (by rw [rng_len]; exact Nat.le_trans hl (by decide)) ?_ ?_
    · rintro i dd ρ acc he _ ⟨ha, rfl⟩
      obtain ⟨hi, rfl⟩ := rng_get he
      rw [Int.zero_add]
      refine ⟨[some (.z, d), some (.z, d), none, some (.z, .int (i : Int))], rfl, _, ht _, ?_⟩
      obtain ⟨y, e, h1, h2⟩ := hfe i _ (List.getElem?_eq_getElem hi)
      refine ⟨y, e, ?_, ?_⟩
      · intro z hz
        rcases List.mem_append.mp hz with h | h
        · exact ha z h
        · rw [List.mem_singleton.mp h, h1]
      · rw [h2]
        rfl
    · rintro ρ acc _ ⟨h, rfl⟩
      exact ⟨h, rfl⟩
  have fin : ∀ x : List D × Ev, ((∀ y ∈ x.1, y = PyData.bool true) ∧ x.2 = [some (.z, d), some (.z, d), none, none]) → ∃ bs : List Bool, allBl x.1 = some bs ∧ bs.all id = true := fun x h => allBl_true h.1
  rcases hd with rfl | rfl
  all_goals
    refine ok_def 2 g rfl rfl ?_
    refine ok_seq ?_
    trivial
    refine ok_seq ?_
    trivial
    refine ok_seq ?_
    trivial
    simp only [bool_ne]
    trivial
    simp only [bool_ne]
    trivial
    refine ok_seq ?_
    trivial
    simp only [big_nat hl, if_true]
    trivial
    simp only [plainAt, List.all_cons, List.all_nil, getO]
    trivial
    simp only [noneAt]
    trivial
    refine ok_bind (key _ _ (fun _ => rfl) ?_) ?_
    · intro i x hx
      have hi := (List.getElem?_eq_some_iff.mp hx).1
      have hv := (List.getElem?_eq_some_iff.mp hx).2
      trivial
      simp only [at_nat hi, hv]
      trivial
      refine ok_bind (ih x (hv ▸ List.getElem_mem hi)) ?_
      rintro _ rfl
      trivial
      exact ⟨True.intro, True.intro⟩
    · rintro ⟨xs, ρ⟩ h
      obtain ⟨bs, e, ht⟩ := fin _ h
      obtain ⟨_, rfl⟩ := h
      simp only [restore, getO]
      trivial
      simp only [prAll, e]
      trivial
      rw [ht]
theorem same_ok (g : Gt 142 = some F142) : ∀ (n : Nat) (d : D), Sm n d → Ok (callF Gt w (k + n + 1) 142 [(.z, d), (.z, d)]) (· = ((.z, .bool true), [(.z, d), (.z, d)]))
  | n, .none, _ => same_atom (k := k + n) g .none True.intro
  | n, .bool b, _ => same_atom (k := k + n) g (.bool b) True.intro
  | n, .int i, _ => same_atom (k := k + n) g (.int i) True.intro
  | n, .str _, h => by cases n <;> exact h.elim
  | n, .dict _, h => by cases n <;> exact h.elim
  | 0, .list _, h => h.elim
  | 0, .tuple _, h => h.elim
  | n + 1, .list ds, h => same_row (k := k + n + 1) g (.inl rfl) h.1 fun x hx => same_ok g n x (h.2 x hx)
  | n + 1, .tuple ds, h => same_row (k := k + n + 1) g (.inr rfl) h.1 fun x hx => same_ok g n x (h.2 x hx)
end
theorem eqv_rD {r s : Rat} : PyData.eqv (rD r) (rD s) = decide (r = s) := by
  unfold rD
  simp only [PyData.eqv, PyData.eqvAll, Bool.and_true]
  by_cases h : r = s
  · subst h
    simp
  · rw [decide_eq_false h]
    by_cases h1 : r.num = s.num
    · have h2 : r.den ≠ s.den := fun e => h (Rat.ext h1 e)
      simp [h1]
      omega
    · simp [h1]
theorem eqv_pD {p q : Rat × Rat} : PyData.eqv (pD p) (pD q) = decide (p = q) := by
  unfold pD
  simp only [PyData.eqv, PyData.eqvAll, Bool.and_true, eqv_rD]
  obtain ⟨a, b⟩ := p
  obtain ⟨c, d⟩ := q
  simp [Prod.mk.injEq]
theorem flat_rD {r : Rat} : flatD (rD r) = true := rfl
theorem flat_pD {p : Rat × Rat} : flatD (pD p) = true := rfl
theorem shaped_rD {r : Rat} : SeqAt.shaped (rD r) = true := by
  unfold rD
  simp [SeqAt.shaped, PyData.canLay0, PyData.canLayAll0, PyData.depth, PyData.depthAll]
theorem shaped_pD {p : Rat × Rat} : SeqAt.shaped (pD p) = true := by
  unfold pD rD
  simp [SeqAt.shaped, PyData.canLay0, PyData.canLayAll0, PyData.depth, PyData.depthAll]
theorem eq_pD {p q : Rat × Rat} : prEq [pD p, pD q] = some (.z, .bool (decide (p = q))) := by
  simp only [prEq, eqOk, shaped_pD, flat_pD, eqv_pD, Bool.and_true, if_true, zd]
theorem ne_rD {r s : Rat} : prNe [rD r, rD s] = some (.z, .bool (!decide (r = s))) := by
  simp only [prNe, eqOk, shaped_rD, flat_rD, eqv_rD, Bool.and_true, if_true, zd]
theorem ix_list {xs : List D} {i : Int} : prIx [.list xs, .int i] = (atI xs i).bind zd := rfl
theorem ix_tup {xs : List D} {i : Int} : prIx [.tuple xs, .int i] = (atI xs i).bind zd := rfl
theorem ix_rD0 {r : Rat} : prIx [rD r, .int 0] = some (.z, .int r.num) := by
  unfold rD
  rw [ix_tup, at0]
  rfl
theorem ix_rD1 {r : Rat} : prIx [rD r, .int 1] = some (.z, .int r.den) := by
  unfold rD
  rw [ix_tup, at1]
  rfl
theorem ix_pD0 {p : Rat × Rat} : prIx [pD p, .int 0] = some (.z, rD p.1) := by
  unfold pD
  rw [ix_tup, at0]
  rfl
theorem ix_pD1 {p : Rat × Rat} : prIx [pD p, .int 1] = some (.z, rD p.2) := by
  unfold pD
  rw [ix_tup, at1]
  rfl
/-- a piece -/
def qD (a b : Rat × Rat) : D := .tuple [pD a, pD b]
theorem ix_qD0 {a b : Rat × Rat} : prIx [qD a b, .int 0] = some (.z, pD a) := by
  unfold qD
  rw [ix_tup, at0]
  rfl
theorem ix_qD1 {a b : Rat × Rat} : prIx [qD a b, .int 1] = some (.z, pD b) := by
  unfold qD
  rw [ix_tup, at1]
  rfl
theorem it_list {ds : List D} : items (.list ds) = some ds := rfl
theorem it_tup {ds : List D} : items (.tuple ds) = some ds := rfl
theorem items_qD {a b : Rat × Rat} : items (qD a b) = some [pD a, pD b] := rfl
theorem asg_nm {i : Nat} {sd : SD} {ρ : Ev} : asg (.nm i) sd ρ = if i < ρ.length then some (ρ.set i (some sd)) else none := rfl
theorem asg_tp {l : List Nat} {ds : List D} {ρ : Ev} : asg (.tp l) (.z, .tuple ds) ρ = binds ρ l ds := rfl
theorem asg_qD {l : List Nat} {a b : Rat × Rat} {ρ : Ev} : asg (.tp l) (.z, qD a b) ρ = binds ρ l [pD a, pD b] := rfl
def LpT (fb : Ev → Option (Fl × Ev)) (g : G) (r : List D) (P : Fl × Ev → Prop) (x : Fl × Ev) : Prop := match x.1 with
  | .nx => Ok (loop fb g r x.2) P
  | .ct => Ok (loop fb g r x.2) P
  | .bk => P (.nx, x.2)
  | .rt v => P (.rt v, x.2)
theorem ok_lp {fb : Ev → Option (Fl × Ev)} {g : G} {d : D} {r : List D} {P : Fl × Ev → Prop} {ρ : Ev} (h : Ok (asg g (.z, d) ρ) fun ρ1 => Ok (fb ρ1) (LpT fb g r P)) : Ok (loop fb g (d :: r) ρ) P := by
  obtain ⟨ρ1, e1, ⟨f, ρ2⟩, e2, h2⟩ := h
  unfold loop
  rw [e1, Option.bind_some, e2, Option.bind_some]
  cases f with
  | nx => exact h2
  | ct => exact h2
  | bk => exact ⟨_, rfl, h2⟩
  | rt x => exact ⟨_, rfl, h2⟩
theorem lp_nil {fb : Ev → Option (Fl × Ev)} {g : G} {P : Fl × Ev → Prop} {ρ : Ev} : Ok (loop fb g [] ρ) P ↔ P (.nx, ρ) := ok_some
theorem lpt_nx {fb : Ev → Option (Fl × Ev)} {g : G} {r : List D} {P : Fl × Ev → Prop} {ρ : Ev} : LpT fb g r P (.nx, ρ) ↔ Ok (loop fb g r ρ) P := Iff.rfl
theorem lpt_ct {fb : Ev → Option (Fl × Ev)} {g : G} {r : List D} {P : Fl × Ev → Prop} {ρ : Ev} : LpT fb g r P (.ct, ρ) ↔ Ok (loop fb g r ρ) P := Iff.rfl
theorem lpt_bk {fb : Ev → Option (Fl × Ev)} {g : G} {r : List D} {P : Fl × Ev → Prop} {ρ : Ev} : LpT fb g r P (.bk, ρ) ↔ P (.nx, ρ) := Iff.rfl
theorem lpt_rt {fb : Ev → Option (Fl × Ev)} {g : G} {r : List D} {P : Fl × Ev → Prop} {ρ : Ev} {v : SD} : LpT fb g r P (.rt v, ρ) ↔ P (.rt v, ρ) := Iff.rfl
/-- a comprehension that keeps what a test says and tells what a map says -/
theorem turns_fm {α : Type} {ft : Ev → Option (Bool × Ev)} {fe : Ev → Option (SD × Ev)} {g : G} {own : List Nat} {ρ : Ev} {e m : α → D} {f : α → Bool} : ∀ (ds : List α) (acc : List D), acc.length + ds.length ≤ sizeLine →
    (∀ d ∈ ds, Ok (asg g (.z, e d) ρ) fun ρ1 => Ok (ft ρ1) fun x => x.1 = f d ∧ noneAt x.2 own = ρ ∧ (f d = true → Ok (fe x.2) fun y => y.1.2 = m d ∧ noneAt y.2 own = ρ)) →
    Ok (turns ft fe g own (ds.map e) ρ acc) (· = (acc ++ (ds.filter f).map m, ρ))
  | [], acc, _, _ => by
    rw [List.map_nil]
    unfold turns
    exact ⟨_, rfl, by simp⟩
  | d :: r, acc, hl, hs => by
    obtain ⟨ρ1, e1, ⟨b, ρ2⟩, e2, h1, h2, h3⟩ := hs d (List.mem_cons_self)
    have ih := fun acc h => turns_fm (ft := ft) (fe := fe) (g := g) (own := own) (ρ := ρ) (e := e) (f := f) (m := m) r acc h fun x hx => hs x (List.mem_cons_of_mem _ hx)
    rw [List.length_cons] at hl
    rw [List.map_cons]
    unfold turns
    rw [e1, Option.bind_some, e2, Option.bind_some]
    simp only at h1 h2 h3
    subst h1
    cases hf : f d with
    | false =>
      simp only
      rw [h2, List.filter_cons_of_neg (by simp [hf])]
      exact ih acc (by omega)
    | true =>
      obtain ⟨⟨⟨s, y⟩, ρ3⟩, e3, h4, h5⟩ := h3 hf
      simp only at h4 h5
      subst h4
      have hlt : acc.length < sizeLine := by omega
      simp only [e3, Option.bind_some, if_pos hlt, h5]
      rw [List.filter_cons_of_pos hf]
      have := ih (acc ++ [m d]) (by rw [List.length_append, List.length_singleton]; omega)
      simpa using this
theorem lay_pts : ∀ {l : List (Rat × Rat)}, PyData.canLayAll0 (l.map pD) = true ∧ PyData.depthAll (l.map pD) ≤ 2 ∧ flatDs (l.map pD) = true
  | [] => ⟨rfl, by simp [PyData.depthAll], rfl⟩
  | p :: l => by
    obtain ⟨h1, h2, h3⟩ := lay_pts (l := l)
    have hs := shaped_pD (p := p)
    unfold SeqAt.shaped at hs
    rw [Bool.and_eq_true] at hs
    rw [List.map_cons]
    refine ⟨?_, ?_, ?_⟩
    · unfold PyData.canLayAll0
      rw [hs.1, h1]
      rfl
    · unfold PyData.depthAll
      have : (pD p).depth ≤ 2 := by
        unfold pD rD
        simp [PyData.depth, PyData.depthAll]
      omega
    · unfold flatDs
      rw [flat_pD, h3]
      rfl
theorem shaped_pts {l : List (Rat × Rat)} : SeqAt.shaped (.list (l.map pD)) = true := by
  obtain ⟨h1, h2, h3⟩ := lay_pts (l := l)
  unfold SeqAt.shaped PyData.canLay0 PyData.depth
  rw [h1, Bool.true_and]
  exact decide_eq_true (by omega)
theorem flat_pts {l : List (Rat × Rat)} : flatD (.list (l.map pD)) = true := by
  unfold flatD
  exact lay_pts.2.2
theorem any_pts {p : Rat × Rat} : ∀ {l : List (Rat × Rat)}, ((l.map pD).any fun z => PyData.eqv z (pD p)) = decide (p ∈ l)
  | [] => by simp
  | q :: l => by
    rw [List.map_cons, List.any_cons, any_pts, eqv_pD]
    by_cases h : q = p
    · subst h
      simp
    · have : ¬ p = q := fun e => h e.symm
      simp [h, this]
theorem notin_pts {p : Rat × Rat} {l : List (Rat × Rat)} : prNotin [pD p, .list (l.map pD)] = some (.z, .bool (!decide (p ∈ l))) := by
  simp only [prNotin, eqOk, shaped_pD, flat_pD, shaped_pts, flat_pts, Bool.and_true, if_true, any_pts, zd]
theorem ne_nil {l : List (Rat × Rat)} : prNe [.list (l.map pD), .list []] = some (.z, .bool (!l.isEmpty)) := by
  have h1 : SeqAt.shaped (.list []) = true := rfl
  have h2 : flatD (.list []) = true := rfl
  have h3 : PyData.eqv (.list (l.map pD)) (.list []) = l.isEmpty := by cases l <;> simp [PyData.eqv, PyData.eqvAll]
  simp only [prNe, eqOk, shaped_pts, flat_pts, h1, h2, h3, Bool.and_true, if_true, zd]
theorem len_pts {l : List (Rat × Rat)} : prLen [.list (l.map pD)] = some (.z, .int l.length) := by
  simp only [prLen, zd, List.length_map]
theorem eqv_pts : ∀ {l m : List (Rat × Rat)}, PyData.eqvAll (l.map pD) (m.map pD) = decide (l = m)
  | [], [] => by simp [PyData.eqvAll]
  | [], _ :: _ => by simp [PyData.eqvAll]
  | _ :: _, [] => by simp [PyData.eqvAll]
  | p :: l, q :: m => by
    rw [List.map_cons, List.map_cons]
    unfold PyData.eqvAll
    rw [eqv_pD, eqv_pts]
    by_cases h : p = q <;> by_cases g : l = m <;> simp [h, g]
theorem ne_pts {l m : List (Rat × Rat)} : prNe [.list (l.map pD), .list (m.map pD)] = some (.z, .bool (!decide (l = m))) := by
  have h3 : PyData.eqv (.list (l.map pD)) (.list (m.map pD)) = decide (l = m) := by
    unfold PyData.eqv
    exact eqv_pts
  simp only [prNe, eqOk, shaped_pts, flat_pts, h3, Bool.and_true, if_true, zd]
/-- a comprehension with two generators, the inner rows told by a map -/
theorem turns2_fm {α : Type} {ft : Ev → Option (Bool × Ev)} {fi : Ev → Option (List D × Ev)} {ft1 : Ev → Option (Bool × Ev)} {fe : Ev → Option (SD × Ev)} {g g1 : G} {own own1 : List Nat} {ρ : Ev} {e : α → D} {h : α → List D} : ∀ (ds : List α) (acc : List D), acc.length + (ds.flatMap h).length ≤ sizeLine →
    (∀ d ∈ ds, Ok (asg g (.z, e d) ρ) fun ρ1 => Ok (ft ρ1) fun x => x.1 = true ∧ Ok (fi x.2) fun y => ∀ acc : List D, acc.length + (h d).length ≤ sizeLine → Ok (turns ft1 fe g1 own1 y.1 (noneAt y.2 own1) acc) fun z => z.1 = acc ++ h d ∧ noneAt z.2 own = ρ) →
    Ok (turns2 ft fi ft1 fe g g1 own own1 (ds.map e) ρ acc) (· = (acc ++ ds.flatMap h, ρ))
  | [], acc, _, _ => by
    rw [List.map_nil]
    unfold turns2
    exact ⟨_, rfl, by simp⟩
  | d :: r, acc, hl, hs => by
    obtain ⟨ρ1, e1, ⟨b, ρ2⟩, e2, h1, ⟨dd, ρ3⟩, e3, h2⟩ := hs d (List.mem_cons_self)
    rw [List.flatMap_cons, List.length_append] at hl
    obtain ⟨⟨acc1, ρ4⟩, e4, h3, h4⟩ := h2 acc (by omega)
    have ih := turns2_fm (ft := ft) (fi := fi) (ft1 := ft1) (fe := fe) (g := g) (g1 := g1) (own := own) (own1 := own1) (ρ := ρ) (e := e) (h := h) r acc1
    simp only at h1 h3 h4 e3 e4
    subst h1 h3
    rw [List.map_cons]
    unfold turns2
    rw [e1, Option.bind_some, e2, Option.bind_some]
    simp only [e3, Option.bind_some, e4, h4]
    have := ih (by rw [List.length_append]; omega) fun x hx => hs x (List.mem_cons_of_mem _ hx)
    rw [List.flatMap_cons]
    simpa using this
end
section
local macro_rules
  | `(tactic| trivial) => `(tactic| simp only [exQ, evE, evA, evT, evI, sees, Mi.plain, hands, backs, asg_nm, asg_tp, binds, getO, rd_z, rd_uz, pr, prAdd, prSub, prMul, prFdiv, prMod, prNeg, prLt, prLe, prGt, prGe, ix_list, ix_tup, ix_rD0, ix_rD1, ix_pD0, ix_pD1, ix_qD0, ix_qD1, items_qD, asg_qD, lp_nil, lpt_nx, lpt_ct, lpt_bk, lpt_rt, eq_pD, ne_rD, prGcd, prAbs, prToInt, prToList, prToTuple, prLen, is_1, is_2, isi_1, isi_2, isi_3, isi_4, isi_5, isi_6, isi_7, Nat.reduceBEq, prPow, nonD_1, nonD_2, nonD_3, nonD_4, nonD_5, nonD_6, nonD_7, blD_1, blD_2, blD_3, blD_4, blD_5, blD_6, blD_7, bt1, bt2, beq_self_eq_true, mu, sto, zd, ud, it_list, it_tup, Option.bind_some, Option.map_some, Option.bind_none, Option.bind_assoc,
      List.map_cons, List.map_nil, List.cons_append, List.nil_append, List.append_nil, List.length_cons, List.length_nil, List.replicate_succ, List.replicate_zero, List.getElem?_cons_zero, List.getElem?_cons_succ, List.set_cons_zero, List.set_cons_succ, List.any_cons, List.any_nil, id, Nat.reduceAdd, Nat.reduceSub, Nat.reduceLT, Nat.reduceLeDiff, Nat.lt_add_one, Nat.reduceEqDiff, Nat.one_ne_zero, if_true, if_false, reduceIte, List.not_mem_nil, List.mem_singleton, outs, decide_true, decide_false, Bool.or_false, Bool.false_or, Bool.or_true, Bool.true_or, Bool.and_true, Bool.true_and, Bool.and_false, Bool.false_and, Bool.not_true, Bool.not_false, Bool.false_eq_true, ok_some, then_nx, then_rt, then_bk, then_ct, done_rt, done_nx, not_true_eq_false, not_false_eq_true, le_size, lt_size, prEq_int, prNe_int, exB_nil, List.isEmpty_nil, List.isEmpty_cons, at0, at1, at2, at3])
section
variable {Gt : Nat → Option Fn} {w k : Nat}
abbrev Pt := Rat × Rat
def cr (a b c : Pt) : Rat := (b.1 - a.1) * (c.2 - a.2) - (b.2 - a.2) * (c.1 - a.1)
theorem crossed_ok (g0 : Gt 0 = some F0) (g2 : Gt 2 = some F2) (g3 : Gt 3 = some F3) (g : Gt 132 = some F132) {p q : Pt} (hp : PB 1000 p) (hq : PB 1000 q) : Ok (callF Gt w (k + 3) 132 [(.z, pD p), (.z, pD q)]) (· = ((.z, rD (p.1 * q.2 - p.2 * q.1)), [(.z, pD p), (.z, pD q)])) := by
  refine ok_def 0 g rfl rfl ?_
  refine ok_seq ?_
  trivial
  refine ok_bind (mul_ok g0 g3 (hp.1.mono (by decide)) (hq.2.mono (by decide))) ?_
  rintro _ rfl
  trivial
  refine ok_bind (mul_ok g0 g3 (hp.2.mono (by decide)) (hq.1.mono (by decide))) ?_
  rintro _ rfl
  trivial
  refine ok_bind (minus_ok g0 g2 ((hp.1.mul hq.2).mono (by decide)) ((hp.2.mul hq.1).mono (by decide))) ?_
  rintro _ rfl
  trivial
theorem PB.mono {m n : Nat} {p : Pt} (h : PB m p) (l : m ≤ n) : PB n p := ⟨h.1.mono l, h.2.mono l⟩
theorem pb_sub {n : Nat} {p q : Pt} (hp : PB n p) (hq : PB n q) : PB (n + n + 1) (q.1 - p.1, q.2 - p.2) := ⟨hq.1.sub hp.1, hq.2.sub hp.2⟩
theorem rD_int {n : Int} : rD (n : Rat) = .tuple [.int n, .int 1] := rfl
theorem num_pos_iff {r : Rat} : 0 < r.num ↔ 0 < r := by
  have h := Rat.lt_iff 0 r
  simp at h
  exact h.symm
theorem lcross_ok (g143 : Gt 143 = some F143) (g144 : Gt 171 = some F171) (g146 : Gt 173 = some F173) (g147 : Gt 174 = some F174) (g : Gt 177 = some F177) {a b c : Pt} (ha : PB 400 a) (hb : PB 400 b) (hc : PB 400 c) :
    Ok (callF Gt w (k + 4) 177 [(.z, pD a), (.z, pD b), (.z, pD c)]) (· = ((.z, rD (cr a b c)), [(.z, pD a), (.z, pD b), (.z, pD c)])) := by
  refine ok_def 4 g rfl rfl ?_
  have up : ∀ r : Rat, RB 400 r → RB 3000 r := fun r h => h.mono (by decide)
  have up1 : ∀ r : Rat, RB (400 + 400 + 1) r → RB 3000 r := fun r h => h.mono (by decide)
  have up2 : ∀ r : Rat, RB (400 + 400 + 1 + (400 + 400 + 1)) r → RB 3000 r := fun r h => h.mono (by decide)
  have x0 := hb.1.sub ha.1
  have y0 := hb.2.sub ha.2
  have x1 := hc.1.sub ha.1
  have y1 := hc.2.sub ha.2
  refine ok_seq ?_
  trivial
  refine ok_bind (lsub_ok g143 g144 g146 (up _ hb.1) (up _ ha.1)) ?_
  rintro _ rfl
  trivial
  refine ok_seq ?_
  trivial
  refine ok_bind (lsub_ok g143 g144 g146 (up _ hb.2) (up _ ha.2)) ?_
  rintro _ rfl
  trivial
  refine ok_seq ?_
  trivial
  refine ok_bind (lsub_ok g143 g144 g146 (up _ hc.1) (up _ ha.1)) ?_
  rintro _ rfl
  trivial
  refine ok_seq ?_
  trivial
  refine ok_bind (lsub_ok g143 g144 g146 (up _ hc.2) (up _ ha.2)) ?_
  rintro _ rfl
  trivial
  refine ok_seq ?_
  trivial
  refine ok_bind (lmul_ok g143 g144 g147 (up1 _ x0) (up1 _ y1)) ?_
  rintro _ rfl
  trivial
  refine ok_bind (lmul_ok g143 g144 g147 (up1 _ y0) (up1 _ x1)) ?_
  rintro _ rfl
  trivial
  refine ok_bind (lsub_ok g143 g144 g146 (up2 _ (x0.mul y1)) (up2 _ (y0.mul x1))) ?_
  rintro _ rfl
  trivial
  rfl
theorem lnumber_ok (g14 : Gt 14 = some F14) (g15 : Gt 15 = some F15) (g18 : Gt 18 = some F18) (g143 : Gt 143 = some F143) (g144 : Gt 171 = some F171) (g : Gt 179 = some F179) {ns : List Int} {d : D} {s : Int} (hd : PoolOk ns d) (h0 : 0 < s) (h5 : s ≤ 100) :
    Ok (callF Gt w (k + 4) 179 [(.u .z, d), (.z, .int s)]) (fun x => ∃ d' r, PoolOk ns d' ∧ RB 22 r ∧ x = ((.z, rD r), [(.u .z, d'), (.z, .int s)])) := by
  refine ok_def 1 g rfl rfl ?_
  refine ok_seq ?_
  trivial
  refine ok_bind (draw_ok g14 g15 g18 hd (show (0 : Int) < 8 by decide) (bd_of (by decide) (by decide))) ?_
  rintro _ ⟨d1, n, hd1, hn0, hn8, rfl⟩
  trivial
  refine ok_seq ?_
  trivial
  cases h1 : decide (n < 6)
  · trivial
    refine ok_seq ?_
    trivial
    cases h2 : n == 6
    · trivial
      refine ok_seq ?_
      trivial
      refine ok_bind (draw_ok g14 g15 g18 hd1 (show (0 : Int) < 2000001 by decide) (bd_of (by decide) (by decide))) ?_
      rintro _ ⟨d2, p, hd2, hp0, hp1, rfl⟩
      trivial
      refine ok_bind (draw_ok g14 g15 g18 hd2 (show (0 : Int) < 1000 by decide) (bd_of (by decide) (by decide))) ?_
      rintro _ ⟨d3, q, hd3, hq0, hq1, rfl⟩
      trivial
      have hq : (1 + q) ≠ 0 := by omega
      have bq : Bd 22 (1 + q) := bd_of (by omega) (Int.lt_trans (show 1 + q < 1001 by omega) (by decide))
      have bp : Bd 22 (p - 1000000) := by
        unfold Bd
        have : (2 : Nat) ^ 22 = 4194304 := by decide
        omega
      refine ok_bind (ratio_ok g143 g144 hq (bq.mono (by decide))) ?_
      rintro _ rfl
      trivial
      exact ⟨d3, _, hd3, RB.divInt hq bp bq, rfl⟩
    · trivial
      refine ok_seq ?_
      trivial
      refine ok_bind (draw_ok g14 g15 g18 hd1 (show (0 : Int) < 41 by decide) (bd_of (by decide) (by decide))) ?_
      rintro _ ⟨d2, p, hd2, hp0, hp1, rfl⟩
      trivial
      refine ok_bind (draw_ok g14 g15 g18 hd2 (show (0 : Int) < 9 by decide) (bd_of (by decide) (by decide))) ?_
      rintro _ ⟨d3, q, hd3, hq0, hq1, rfl⟩
      trivial
      have hq : (1 + q) ≠ 0 := by omega
      have bq : Bd 22 (1 + q) := bd_of (by omega) (Int.lt_trans (show 1 + q < 1001 by omega) (by decide))
      have bp : Bd 22 (p - 20) := by
        unfold Bd
        have : (2 : Nat) ^ 22 = 4194304 := by decide
        omega
      refine ok_bind (ratio_ok g143 g144 hq (bq.mono (by decide))) ?_
      rintro _ rfl
      trivial
      exact ⟨d3, _, hd3, RB.divInt hq bp bq, rfl⟩
  · trivial
    have m1 : mulOk 2 s = true := mulOk_l (by decide) (by decide)
    refine ok_seq ?_
    trivial
    simp only [m1, if_true]
    trivial
    refine ok_bind (draw_ok g14 g15 g18 hd1 (show (0 : Int) < 2 * s + 1 by omega) (Bd.mono (a := 22) (bd_of (by omega) (Int.lt_trans (show 2 * s + 1 < 202 by omega) (by decide))) (by decide))) ?_
    rintro _ ⟨d2, p, hd2, hp0, hp1, rfl⟩
    trivial
    refine ⟨d2, ((p - s : Int) : Rat), hd2, ⟨?_, ?_⟩, rfl⟩
    · show Bd 22 (p - s)
      unfold Bd
      have : (2 : Nat) ^ 22 = 4194304 := by decide
      omega
    · show Bd 22 1
      exact bd_of (by decide) (by decide)
theorem lpoint_ok (g14 : Gt 14 = some F14) (g15 : Gt 15 = some F15) (g18 : Gt 18 = some F18) (g143 : Gt 143 = some F143) (g144 : Gt 171 = some F171) (g153 : Gt 179 = some F179) (g : Gt 180 = some F180) {ns : List Int} {d : D} {s : Int} (hd : PoolOk ns d) (h0 : 0 < s) (h5 : s ≤ 100) :
    Ok (callF Gt w (k + 5) 180 [(.u .z, d), (.z, .int s)]) (fun x => ∃ d' p, PoolOk ns d' ∧ PB 22 p ∧ x = ((.z, pD p), [(.u .z, d'), (.z, .int s)])) := by
  refine ok_def 0 g rfl rfl ?_
  refine ok_seq ?_
  trivial
  refine ok_bind (lnumber_ok g14 g15 g18 g143 g144 g153 hd h0 h5) ?_
  rintro _ ⟨d1, r, hd1, hr, rfl⟩
  trivial
  refine ok_bind (lnumber_ok g14 g15 g18 g143 g144 g153 hd1 h0 h5) ?_
  rintro _ ⟨d2, t, hd2, ht, rfl⟩
  trivial
  exact ⟨d2, (r, t), hd2, ⟨hr, ht⟩, rfl⟩
theorem ok_guard {cf : CF} {w : Nat} {t : T} {b r : B} {ρ : Ev} {P : Fl × Ev → Prop} (h : Ok (evT cf t ρ) (· = (false, ρ))) (k : Ok (exB cf w r ρ) P) : Ok (exB cf w (.cons (.iff t b .nil) r) ρ) P := by
  obtain ⟨_, e, rfl⟩ := h
  refine ok_seq ?_
  unfold exQ
  rw [e]
  exact ⟨_, rfl, k⟩
def pz : Rat × Rat := (0, 0)
/-- the piece that begins at a place of a ring -/
def pc (r : List (Rat × Rat)) (i : Nat) : (Rat × Rat) × (Rat × Rat) := (r.getD i pz, r.getD ((i + 1) % r.length) pz)
def pcs (r : List (Rat × Rat)) : List ((Rat × Rat) × (Rat × Rat)) := (List.range r.length).map (pc r)
def q2 (z : (Rat × Rat) × (Rat × Rat)) : D := qD z.1 z.2
def gD (r : List (Rat × Rat)) : D := .list (r.map pD)
theorem at_pts {r : List (Rat × Rat)} {i : Nat} (h : i < r.length) : atI (r.map pD) (i : Int) = some (pD (r.getD i pz)) := by
  have h' : i < (r.map pD).length := by rw [List.length_map]; exact h
  rw [at_nat h', List.getElem_map, List.getD_eq_getElem?_getD, List.getElem?_eq_getElem h]
  rfl
theorem en_len : ∀ {ds : List D} {n : Nat}, (enumF n ds).length = ds.length
  | [], _ => rfl
  | d :: r, n => by
    unfold enumF
    rw [List.length_cons, List.length_cons, en_len]
theorem en_get : ∀ {ds : List D} {n i : Nat} {x : D}, (enumF n ds)[i]? = some x → ∃ d, ds[i]? = some d ∧ x = .tuple [.int ((n + i : Nat) : Int), d]
  | [], _, _, _, h => by simp [enumF] at h
  | d :: r, n, 0, x, h => by
    unfold enumF at h
    rw [List.getElem?_cons_zero] at h
    cases h
    exact ⟨d, rfl, rfl⟩
  | d :: r, n, i + 1, x, h => by
    unfold enumF at h
    rw [List.getElem?_cons_succ] at h
    obtain ⟨y, h1, h2⟩ := en_get h
    refine ⟨y, h1, ?_⟩
    rw [h2]
    have : n + 1 + i = n + (i + 1) := by omega
    rw [this]
theorem rD_two : rD 2 = .tuple [.int 2, .int 1] := rfl
end
end
section
local macro_rules
  | `(tactic| trivial) => `(tactic| simp only [exQ, evE, evA, evT, evI, sees, Mi.plain, hands, backs, asg_nm, asg_tp, binds, getO, rd_z, rd_uz, pr, prAdd, prSub, prMul, prFdiv, prMod, prNeg, prLt, prLe, prGt, prGe, ix_list, ix_tup, ix_rD0, ix_rD1, ix_pD0, ix_pD1, ix_qD0, ix_qD1, items_qD, asg_qD, lp_nil, lpt_nx, lpt_ct, lpt_bk, lpt_rt, eq_pD, ne_rD, prGcd, prAbs, prToInt, prToList, prToTuple, prLen, is_1, is_2, isi_1, isi_2, isi_3, isi_4, isi_5, isi_6, isi_7, Nat.reduceBEq, prPow, nonD_1, nonD_2, nonD_3, nonD_4, nonD_5, nonD_6, nonD_7, blD_1, blD_2, blD_3, blD_4, blD_5, blD_6, blD_7, bt1, bt2, beq_self_eq_true, mu, sto, zd, ud, it_list, it_tup, Option.bind_some, Option.map_some, Option.bind_none, Option.bind_assoc,
      List.map_cons, List.map_nil, List.cons_append, List.nil_append, List.append_nil, List.length_cons, List.length_nil, List.replicate_succ, List.replicate_zero, List.getElem?_cons_zero, List.getElem?_cons_succ, List.set_cons_zero, List.set_cons_succ, List.any_cons, List.any_nil, id, Nat.reduceAdd, Nat.reduceSub, Nat.reduceLT, Nat.reduceLeDiff, Nat.lt_add_one, Nat.reduceEqDiff, Nat.one_ne_zero, if_true, if_false, reduceIte, List.not_mem_nil, List.mem_singleton, outs, decide_true, decide_false, Bool.or_false, Bool.false_or, Bool.or_true, Bool.true_or, Bool.and_true, Bool.true_and, Bool.and_false, Bool.false_and, Bool.not_true, Bool.not_false, Bool.false_eq_true, ok_some, then_nx, then_rt, then_bk, then_ct, done_rt, done_nx, not_true_eq_false, not_false_eq_true, le_size, lt_size, prEq_int, prNe_int, exB_nil, List.isEmpty_nil, List.isEmpty_cons, at0, at1, at2, at3])
section
variable {Gt : Nat → Option Fn} {w k : Nat}
theorem pieces_ok (g : Gt 162 = some F162) {r : List Pt} (hl : r.length ≤ 100) : Ok (callF Gt w (k + 1) 162 [(.z, gD r)]) (· = ((.u .z, .list ((pcs r).map q2)), [(.z, gD r)])) := by
  refine ok_def 2 g rfl rfl ?_
  unfold gD
  refine ok_seq ?_
  trivial
  simp only [plainAt, List.all_cons, List.all_nil, getO]
  trivial
  simp only [noneAt]
  trivial
  refine ok_bind (P := fun x => x.1 = (pcs r).map q2 ∧ x.2 = [some (.z, .list (r.map pD)), none, none])
    (ok_turns (fun i acc ρ => acc = (List.range i).map (fun j => q2 (pc r j)) ∧ ρ = [some (.z, .list (r.map pD)), none, none]) ⟨rfl, rfl⟩ (by rw [en_len, List.length_map]; exact Nat.le_trans hl (by decide)) ?_ ?_) ?_
  · rintro i d ρ acc he _ ⟨rfl, rfl⟩
    obtain ⟨y, hy, rfl⟩ := en_get he
    rw [List.getElem?_map, Option.map_eq_some_iff] at hy
    obtain ⟨p, hp, rfl⟩ := hy
    have hi := (List.getElem?_eq_some_iff.mp hp).1
    have hv := (List.getElem?_eq_some_iff.mp hp).2
    have ep : r.getD i pz = p := by
      rw [List.getD_eq_getElem?_getD, hp]
      rfl
    have hn : ((r.length : Nat) : Int) ≠ 0 := by omega
    have hm : ((i : Int) + 1).fmod ((r.length : Nat) : Int) = (((i + 1) % r.length : Nat) : Int) := by
      rw [Int.fmod_eq_emod_of_nonneg _ (by omega)]
      push_cast
      rfl
    have ha := at_pts (r := r) (i := (i + 1) % r.length) (Nat.mod_lt _ (by omega))
    rw [Nat.zero_add]
    trivial
    rw [List.length_map, if_pos hn]
    trivial
    rw [hm, ha]
    trivial
    simp only [noneAt]
    trivial
    refine ⟨?_, by first | rfl | exact True.intro⟩
    rw [List.range_succ, List.map_append]
    have e9 : q2 (pc r i) = .tuple [pD p, pD (r.getD ((i + 1) % r.length) pz)] := by
      unfold pc q2 qD
      rw [ep]
    rw [List.map_cons, List.map_nil, e9]
  · rintro ρ acc _ ⟨rfl, rfl⟩
    refine ⟨?_, rfl⟩
    unfold pcs
    rw [en_len, List.length_map, List.map_map]
    rfl
  · rintro ⟨_, _⟩ ⟨rfl, rfl⟩
    simp only [restore, getO]
    trivial
theorem pcs_len {r : List Pt} : (pcs r).length = r.length := by
  unfold pcs
  rw [List.length_map, List.length_range]
def rsD (rs : List (List Pt)) : D := .list (rs.map gD)
theorem asg_q2 {l : List Nat} {z : Pt × Pt} {ρ : Ev} : asg (.tp l) (.z, q2 z) ρ = binds ρ l [pD z.1, pD z.2] := rfl
theorem ix_q0 {z : Pt × Pt} : prIx [q2 z, .int 0] = some (.z, pD z.1) := ix_qD0
theorem ix_q1 {z : Pt × Pt} : prIx [q2 z, .int 1] = some (.z, pD z.2) := ix_qD1
theorem ix_g0 {r : List Pt} (h : 0 < r.length) : prIx [gD r, .int 0] = some (.z, pD (r.getD 0 pz)) := by
  unfold gD
  rw [ix_list]
  have := at_pts (r := r) (i := 0) h
  rw [show ((0 : Nat) : Int) = 0 from rfl] at this
  rw [this]
  rfl
theorem it_g {r : List Pt} : items (gD r) = some (r.map pD) := rfl
theorem it_r {rs : List (List Pt)} : items (rsD rs) = some (rs.map gD) := rfl
theorem getD_pb {n : Nat} {r : List Pt} {i : Nat} (h1 : 1 ≤ n) (h : ∀ p ∈ r, PB n p) : PB n (r.getD i pz) := by
  rw [List.getD_eq_getElem?_getD]
  cases e : r[i]? with
  | none => exact ⟨rb_zero.mono h1, rb_zero.mono h1⟩
  | some p => exact h p (List.mem_of_getElem? e)
theorem pcs_pb {n : Nat} {r : List Pt} {z : Pt × Pt} (h1 : 1 ≤ n) (h : ∀ p ∈ r, PB n p) (hz : z ∈ pcs r) : PB n z.1 ∧ PB n z.2 := by
  obtain ⟨i, _, rfl⟩ := List.mem_map.mp hz
  exact ⟨getD_pb h1 h, getD_pb h1 h⟩
theorem at4 {a b c d e : D} {r : List D} : atI (a :: b :: c :: d :: e :: r) 4 = some e := at_nat (i := 4) (by simp)
theorem at5 {a b c d e f : D} {r : List D} : atI (a :: b :: c :: d :: e :: f :: r) 5 = some f := at_nat (i := 5) (by simp)
theorem at6 {a b c d e f g : D} {r : List D} : atI (a :: b :: c :: d :: e :: f :: g :: r) 6 = some g := at_nat (i := 6) (by simp)
def chD (c0 c1 c2 c3 c4 c5 : Rat) : D := .list [rD c0, rD c1, rD c2, rD c3, rD c4, rD c5, rD (c0 * c3 - c1 * c2)]
def mp (c0 c1 c2 c3 c4 c5 : Rat) (p : Pt) : Pt := (fsum [c0 * p.1, c1 * p.2, c4], fsum [c2 * p.1, c3 * p.2, c5])
def sD (s : Int × Int) : D := .tuple [.int s.1, .int s.2]
def sm8 (s : Int × Int) : Prop := s.1.natAbs < 8 ∧ s.2.natAbs < 8
def ip (s : Int × Int) : Pt := ((s.1 : Rat), (s.2 : Rat))
theorem ix_sD0 {s : Int × Int} : prIx [sD s, .int 0] = some (.z, .int s.1) := by
  unfold sD
  rw [ix_tup, at0]
  rfl
theorem ix_sD1 {s : Int × Int} : prIx [sD s, .int 1] = some (.z, .int s.2) := by
  unfold sD
  rw [ix_tup, at1]
  rfl
theorem asg_sD {l : List Nat} {s : Int × Int} {ρ : Ev} : asg (.tp l) (.z, sD s) ρ = binds ρ l [.int s.1, .int s.2] := rfl
theorem ip_pb {s : Int × Int} (h : sm8 s) : PB 3 (ip s) := by
  refine ⟨⟨h.1, ?_⟩, ⟨h.2, ?_⟩⟩
  · show Bd 3 1
    exact bd_of (by decide) (by decide)
  · show Bd 3 1
    exact bd_of (by decide) (by decide)
theorem at_map {α : Type} {f : α → D} {l : List α} {i : Nat} (h : i < l.length) : atI (l.map f) (i : Int) = some (f l[i]) := by
  have h' : i < (l.map f).length := by rw [List.length_map]; exact h
  rw [at_nat h', List.getElem_map]
theorem at_back {α : Type} {f : α → D} {l : List α} {i : Nat} (h : i < l.length) : ∃ x ∈ l, atI (l.map f) ((i : Int) - 1) = some (f x) := by
  cases i with
  | succ j =>
    have e : ((j + 1 : Nat) : Int) - 1 = (j : Int) := by omega
    rw [e]
    exact ⟨_, List.getElem_mem (show j < l.length by omega), at_map _⟩
  | zero =>
    have h' : (l.map f).length = l.length := List.length_map _
    refine ⟨_, List.getElem_mem (show l.length - 1 < l.length by omega), ?_⟩
    have hlt : l.length - 1 < (l.map f).length := by omega
    unfold atI ixN
    rw [if_neg (by omega), if_pos (by omega), h', Option.bind_some]
    have e2 : (((0 : Nat) : Int) - 1 + (l.length : Int)).toNat = l.length - 1 := by omega
    rw [e2, List.getElem?_eq_getElem hlt, List.getElem_map]
theorem cut_from {xs : List D} {t : Nat} (h : t ≤ xs.length) : cut xs (some (t : Int)) none = xs.drop t := by
  unfold cut
  rw [HT.sIx_nat, HT.sIx_none, Nat.min_eq_left h]
  exact List.take_of_length_le (by rw [List.length_drop]; exact Nat.le_refl _)
theorem cut_to {xs : List D} {t : Nat} (h : t ≤ xs.length) : cut xs none (some (t : Int)) = xs.take t := by
  unfold cut
  rw [HT.sIx_nat, HT.sIx_none, Nat.min_eq_left h, List.drop_zero, Nat.sub_zero]
theorem tup_rD2 {p : Int} {q : Nat} (h : q ≠ 0) (g : Nat.Coprime p.natAbs q) (hp : Bd 2 p) (hq : Bd 2 (q : Int)) : ∃ t : Rat, PyData.tuple [.int p, .int (q : Int)] = rD t ∧ RB 2 t := ⟨⟨p, q, h, g⟩, rfl, hp, hq⟩
theorem chD_one : chD 1 0 0 1 0 0 = .list [.tuple [.int 1, .int 1], .tuple [.int 0, .int 1], .tuple [.int 0, .int 1], .tuple [.int 1, .int 1], .tuple [.int 0, .int 1], .tuple [.int 0, .int 1], .tuple [.int 1, .int 1]] := by
  unfold chD
  have : (1 : Rat) * 1 - 0 * 0 = 1 := by grind
  rw [this]
  rfl
end
end
section
local macro_rules
  | `(tactic| trivial) => `(tactic| simp only [exQ, evE, evA, evT, evI, sees, Mi.plain, hands, backs, asg_nm, asg_tp, binds, getO, rd_z, rd_uz, pr, prAdd, prSub, prMul, prFdiv, prMod, prNeg, prLt, prLe, prGt, prGe, ix_list, ix_tup, ix_rD0, ix_rD1, ix_pD0, ix_pD1, ix_qD0, ix_qD1, items_qD, asg_qD, asg_q2, asg_sD, ix_sD0, ix_sD1, at4, at5, at6, ix_q0, ix_q1, it_g, lp_nil, lpt_nx, lpt_ct, lpt_bk, lpt_rt, eq_pD, ne_rD, prGcd, prAbs, prToInt, prToList, prToTuple, prLen, is_1, is_2, isi_1, isi_2, isi_3, isi_4, isi_5, isi_6, isi_7, Nat.reduceBEq, prPow, nonD_1, nonD_2, nonD_3, nonD_4, nonD_5, nonD_6, nonD_7, blD_1, blD_2, blD_3, blD_4, blD_5, blD_6, blD_7, bt1, bt2, beq_self_eq_true, mu, sto, zd, ud, it_list, it_tup, Option.bind_some, Option.map_some, Option.bind_none, Option.bind_assoc,
      List.map_cons, List.map_nil, List.cons_append, List.nil_append, List.append_nil, List.length_cons, List.length_nil, List.replicate_succ, List.replicate_zero, List.getElem?_cons_zero, List.getElem?_cons_succ, List.set_cons_zero, List.set_cons_succ, List.any_cons, List.any_nil, id, Nat.reduceAdd, Nat.reduceSub, Nat.reduceLT, Nat.reduceLeDiff, Nat.lt_add_one, Nat.reduceEqDiff, Nat.one_ne_zero, if_true, if_false, reduceIte, List.not_mem_nil, List.mem_singleton, outs, decide_true, decide_false, Bool.or_false, Bool.false_or, Bool.or_true, Bool.true_or, Bool.and_true, Bool.true_and, Bool.and_false, Bool.false_and, Bool.not_true, Bool.not_false, Bool.false_eq_true, ok_some, then_nx, then_rt, then_bk, then_ct, done_rt, done_nx, not_true_eq_false, not_false_eq_true, le_size, lt_size, prEq_int, prNe_int, exB_nil, List.isEmpty_nil, List.isEmpty_cons, at0, at1, at2, at3])
section
variable {Gt : Nat → Option Fn} {w k : Nat}
theorem three_rb {a b c : Rat} {n : Nat} (ha : RB n a) (hb : RB n b) (hc : RB n c) : ∀ r ∈ [a, b, c], RB n r := by
  intro r hr
  simp only [List.mem_cons, List.not_mem_nil, or_false] at hr
  rcases hr with rfl | rfl | rfl <;> assumption
theorem fsum3 {a b c : Rat} : fsum [a, b, c] = a + b + c := by
  unfold fsum
  simp only [List.foldl_cons, List.foldl_nil]
  grind
theorem mp_pb34 {c0 c1 c2 c3 c4 c5 : Rat} {p : Pt} (h0 : RB 2 c0) (h1 : RB 2 c1) (h2 : RB 2 c2) (h3 : RB 2 c3) (h4 : RB 22 c4) (h5 : RB 22 c5) (hp : PB 3 p) : PB 34 (mp c0 c1 c2 c3 c4 c5 p) := by
  have e : ∀ a b c : Rat, RB 5 a → RB 5 b → RB 22 c → RB 34 (fsum [a, b, c]) := fun a b c ha hb hc => by
    rw [fsum3]
    exact ((ha.add hb).add hc).mono (by decide)
  exact ⟨e _ _ _ (h0.mul hp.1) (h1.mul hp.2) h4, e _ _ _ (h2.mul hp.1) (h3.mul hp.2) h5⟩
theorem mapped_ok (g143 : Gt 143 = some F143) (g171 : Gt 171 = some F171) (g172 : Gt 172 = some F172) (g174 : Gt 174 = some F174) (g176 : Gt 176 = some F176) (g : Gt 187 = some F187) {c0 c1 c2 c3 c4 c5 : Rat} {s : Int × Int} (h0 : RB 2 c0) (h1 : RB 2 c1) (h2 : RB 2 c2) (h3 : RB 2 c3) (h4 : RB 22 c4) (h5 : RB 22 c5) (hs : sm8 s) :
    Ok (callF Gt w (k + 5) 187 [(.z, chD c0 c1 c2 c3 c4 c5), (.z, sD s)]) (· = ((.z, pD (mp c0 c1 c2 c3 c4 c5 (ip s))), [(.z, chD c0 c1 c2 c3 c4 c5), (.z, sD s)])) := by
  have hp := ip_pb hs
  have e1 : PyData.tuple [.int s.1, .int 1] = rD (ip s).1 := rfl
  have e2 : PyData.tuple [.int s.2, .int 1] = rD (ip s).2 := rfl
  refine ok_def 2 g rfl rfl ?_
  unfold chD
  refine ok_seq ?_
  trivial
  rw [e1]
  refine ok_bind (lmul_ok g143 g171 g174 (h0.mono (by decide)) (hp.1.mono (by decide))) ?_
  rintro _ rfl
  trivial
  rw [e2]
  refine ok_bind (lmul_ok g143 g171 g174 (h1.mono (by decide)) (hp.2.mono (by decide))) ?_
  rintro _ rfl
  trivial
  refine ok_bind (lsum_big (l := [c0 * (ip s).1, c1 * (ip s).2, c4]) (b := 24) (n := 3) g143 g171 g172 g176 (three_rb ((h0.mul hp.1).mono (by decide)) ((h1.mul hp.2).mono (by decide)) (h4.mono (by decide))) (by simp) (by decide)) ?_
  rintro _ rfl
  trivial
  refine ok_seq ?_
  trivial
  rw [e1]
  refine ok_bind (lmul_ok g143 g171 g174 (h2.mono (by decide)) (hp.1.mono (by decide))) ?_
  rintro _ rfl
  trivial
  rw [e2]
  refine ok_bind (lmul_ok g143 g171 g174 (h3.mono (by decide)) (hp.2.mono (by decide))) ?_
  rintro _ rfl
  trivial
  refine ok_bind (lsum_big (l := [c2 * (ip s).1, c3 * (ip s).2, c5]) (b := 24) (n := 3) g143 g171 g172 g176 (three_rb ((h2.mul hp.1).mono (by decide)) ((h3.mul hp.2).mono (by decide)) (h5.mono (by decide))) (by simp) (by decide)) ?_
  rintro _ rfl
  trivial
  refine ok_seq ?_
  trivial
  all_goals rfl
theorem map_opts {r : D} (h : r ∈ [PyData.tuple [.int 1, .int 1], .tuple [.int 2, .int 1], .tuple [.int 0, .int 1], .tuple [.int (-1), .int 1], .tuple [.int 1, .int 2], .tuple [.int 3, .int 1], .tuple [.int (-2), .int 3]]) : ∃ t : Rat, r = rD t ∧ RB 2 t := by
  simp only [List.mem_cons, List.not_mem_nil, or_false] at h
  rcases h with rfl | rfl | rfl | rfl | rfl | rfl | rfl
  · exact tup_rD2 (p := 1) (q := 1) (by decide) (by decide) (by unfold Bd; decide) (by unfold Bd; decide)
  · exact tup_rD2 (p := 2) (q := 1) (by decide) (by decide) (by unfold Bd; decide) (by unfold Bd; decide)
  · exact tup_rD2 (p := 0) (q := 1) (by decide) (by decide) (by unfold Bd; decide) (by unfold Bd; decide)
  · exact tup_rD2 (p := -1) (q := 1) (by decide) (by decide) (by unfold Bd; decide) (by unfold Bd; decide)
  · exact tup_rD2 (p := 1) (q := 2) (by decide) (by decide) (by unfold Bd; decide) (by unfold Bd; decide)
  · exact tup_rD2 (p := 3) (q := 1) (by decide) (by decide) (by unfold Bd; decide) (by unfold Bd; decide)
  · exact tup_rD2 (p := -2) (q := 3) (by decide) (by decide) (by unfold Bd; decide) (by unfold Bd; decide)
def MapOk (ns : List Int) (x : SD × List SD) : Prop := ∃ d' c0 c1 c2 c3 c4 c5, PoolOk ns d' ∧ (RB 2 c0 ∧ RB 2 c1 ∧ RB 2 c2 ∧ RB 2 c3) ∧ (RB 22 c4 ∧ RB 22 c5) ∧ x = ((.u .z, chD c0 c1 c2 c3 c4 c5), [(.u .z, d')])
theorem map_ok (g14 : Gt 14 = some F14) (g15 : Gt 15 = some F15) (g18 : Gt 18 = some F18) (g19 : Gt 19 = some F19) (g143 : Gt 143 = some F143) (g171 : Gt 171 = some F171) (g173 : Gt 173 = some F173) (g174 : Gt 174 = some F174) (g179 : Gt 179 = some F179) (g : Gt 249 = some F249) {ns : List Int} {d : D} (hd : PoolOk ns d) :
    Ok (callF Gt w (k + 5) 249 [(.u .z, d)]) (MapOk ns) := by
  refine ok_def 4 g rfl rfl ?_
  refine ok_seq ?_
  trivial
  rw [if_pos (by decide)]
  trivial
  refine ok_loop (fun _ ρ => ∃ d x1 x2 x3, PoolOk ns d ∧ ρ = [some (.u .z, d), x1, x2, x3, none]) ⟨d, none, none, none, hd, rfl⟩ ?_ ?_
  · rintro i pr ρ _ ⟨d, x1, x2, x3, hd, rfl⟩
    trivial
    refine ok_seq ?_
    trivial
    rw [if_pos (by decide)]
    trivial
    simp only [plainAt, List.all_cons, List.all_nil, getO]
    trivial
    simp only [noneAt]
    trivial
    refine ok_bind (P := fun x => ∃ (d : D) (rs : List Rat), PoolOk ns d ∧ rs.length = 4 ∧ (∀ r ∈ rs, RB 2 r) ∧ x.1 = rs.map rD ∧ x.2 = [some (.u .z, d), some (.z, pr), x2, x3, none])
      (ok_turns (fun i acc ρ => ∃ (d : D) (rs : List Rat), PoolOk ns d ∧ rs.length = i ∧ (∀ r ∈ rs, RB 2 r) ∧ acc = rs.map rD ∧ ρ = [some (.u .z, d), some (.z, pr), x2, x3, none]) ⟨d, [], hd, rfl, by simp, rfl, rfl⟩ (by rw [rng_len]; decide) ?_ ?_) ?_
    · rintro i dd ρ acc _ _ ⟨d, rs, hd, hl, hb, rfl, rfl⟩
      trivial
      refine ok_bind (pick_ok g14 g15 g18 g19 hd (by simp) (by simp)) ?_
      rintro _ ⟨d', r, hd', hr, rfl⟩
      obtain ⟨t, rfl, ht⟩ := map_opts hr
      trivial
      simp only [noneAt]
      trivial
      refine ⟨d', rs ++ [t], hd', by simp [hl], ?_, by simp, rfl⟩
      intro z hz
      rcases List.mem_append.mp hz with h | h
      · exact hb z h
      · rw [List.mem_singleton.mp h]
        exact ht
    · rintro ρ acc _ ⟨d, rs, hd, hl, hb, rfl, rfl⟩
      refine ⟨d, rs, hd, ?_, hb, rfl, rfl⟩
      rw [hl, rng_len]
      rfl
    rintro ⟨_, _⟩ ⟨d2, rs, hd2, hl, hb, rfl, rfl⟩
    obtain ⟨c0, c1, c2, c3, rfl⟩ : ∃ a b c e, rs = [a, b, c, e] := by
      match rs, hl with
      | [a, b, c, e], _ => exact ⟨a, b, c, e, rfl⟩
    have b0 := hb c0 (by simp)
    have b1 := hb c1 (by simp)
    have b2 := hb c2 (by simp)
    have b3 := hb c3 (by simp)
    simp only [restore, getO]
    trivial
    refine ok_seq ?_
    trivial
    refine ok_bind (lmul_ok g143 g171 g174 (b0.mono (by decide)) (b3.mono (by decide))) ?_
    rintro _ rfl
    trivial
    refine ok_bind (lmul_ok g143 g171 g174 (b1.mono (by decide)) (b2.mono (by decide))) ?_
    rintro _ rfl
    trivial
    refine ok_bind (lsub_ok g143 g171 g173 ((b0.mul b3).mono (by decide)) ((b1.mul b2).mono (by decide))) ?_
    rintro _ rfl
    trivial
    refine ok_seq ?_
    trivial
    cases decide (0 < (c0 * c3 - c1 * c2).num)
    · trivial
      exact ⟨d2, _, _, _, hd2, rfl⟩
    · trivial
      refine ok_seq ?_
      trivial
      refine ok_bind (lnumber_ok g14 g15 g18 g143 g171 g179 hd2 (by decide) (by decide)) ?_
      rintro _ ⟨d3, c4, hd3, b4, rfl⟩
      trivial
      refine ok_bind (lnumber_ok g14 g15 g18 g143 g171 g179 hd3 (by decide) (by decide)) ?_
      rintro _ ⟨d4, c5, hd4, b5, rfl⟩
      trivial
      exact ⟨d4, c0, c1, c2, c3, c4, c5, hd4, ⟨b0, b1, b2, b3⟩, ⟨b4, b5⟩, rfl⟩
  · rintro ρ ⟨d, x1, x2, x3, hd, rfl⟩
    trivial
    refine ok_seq ?_
    trivial
    exact ⟨d, 1, 0, 0, 1, 0, 0, hd, ⟨rb_one (by decide), rb_zero.mono (by decide), rb_zero.mono (by decide), rb_one (by decide)⟩, ⟨rb_zero.mono (by decide), rb_zero.mono (by decide)⟩, by rw [chD_one]⟩
end
end
section
/-! ### sums over bits, chains and rings of spots -/
abbrev Sp := Int × Int
abbrev Bt := Sp × Sp
def sm {α : Type} (f : α → Rat) : List α → Rat
  | [] => 0
  | x :: r => f x + sm f r
theorem sm_app {α : Type} {f : α → Rat} : ∀ {l m : List α}, sm f (l ++ m) = sm f l + sm f m
  | [], m => by simp only [List.nil_append, sm]; grind
  | x :: l, m => by
    have := sm_app (f := f) (l := l) (m := m)
    simp only [List.cons_append, sm]
    grind
theorem sm_erase {α : Type} {f : α → Rat} : ∀ {l : List α} {j : Nat} {x : α}, l[j]? = some x → sm f (l.eraseIdx j) = sm f l - f x
  | [], j, x, h => by simp at h
  | y :: l, 0, x, h => by
    simp at h
    subst h
    simp only [List.eraseIdx_cons_zero, sm]
    grind
  | y :: l, j + 1, x, h => by
    have := sm_erase (f := f) (l := l) (j := j) (x := x) (by simpa using h)
    simp only [List.eraseIdx_cons_succ, sm]
    grind
theorem sm_map {α β : Type} {f : β → Rat} {g : α → β} : ∀ {l : List α}, sm f (l.map g) = sm (fun x => f (g x)) l
  | [] => rfl
  | x :: l => by simp only [List.map_cons, sm, sm_map (l := l)]
theorem sm_congr {α : Type} {f g : α → Rat} : ∀ {l : List α}, (∀ x ∈ l, f x = g x) → sm f l = sm g l
  | [], _ => rfl
  | x :: l, h => by
    simp only [sm]
    rw [h x (by simp), sm_congr fun y hy => h y (List.mem_cons_of_mem _ hy)]
theorem sm_flat {α β : Type} {f : β → Rat} {g : α → List β} : ∀ {l : List α}, sm f (l.flatMap g) = sm (fun x => sm f (g x)) l
  | [] => rfl
  | x :: l => by
    rw [List.flatMap_cons, sm_app, sm_flat (l := l)]
    rfl
def G2 (G : Sp → Sp → Rat) (b : Bt) : Rat := G b.1 b.2
def cs (G : Sp → Sp → Rat) : List Sp → Rat
  | x :: y :: r => G x y + cs G (y :: r)
  | _ => 0
theorem cs_app {G : Sp → Sp → Rat} {x : Sp} {r : List Sp} : ∀ {l : List Sp}, cs G (l ++ x :: r) = cs G (l ++ [x]) + cs G (x :: r)
  | [] => by simp only [List.nil_append, cs]; grind
  | [y] => by
    simp only [List.cons_append, List.nil_append, cs]
    grind
  | y :: z :: l => by
    have := cs_app (G := G) (x := x) (r := r) (l := z :: l)
    simp only [List.cons_append, cs] at this ⊢
    grind
def rsum (G : Sp → Sp → Rat) : List Sp → Rat
  | [] => 0
  | x :: r => cs G (x :: (r ++ [x]))
theorem rsum_rot {G : Sp → Sp → Rat} {a b : List Sp} : rsum G (a ++ b) = rsum G (b ++ a) := by
  cases a with
  | nil => rw [List.nil_append, List.append_nil]
  | cons x a =>
    cases b with
    | nil => rw [List.nil_append, List.append_nil]
    | cons y b =>
      have e1 := cs_app (G := G) (x := y) (r := b ++ [x]) (l := x :: a)
      have e2 := cs_app (G := G) (x := x) (r := a ++ [y]) (l := y :: b)
      simp only [List.cons_append] at e1 e2
      simp only [List.cons_append, rsum, List.append_assoc]
      rw [e1, e2]
      grind
/-- the edges of a chain -/
def ed : List Sp → List Bt
  | x :: y :: r => (x, y) :: ed (y :: r)
  | _ => []
theorem sm_ed {G : Sp → Sp → Rat} : ∀ {l : List Sp}, sm (G2 G) (ed l) = cs G l
  | [] => rfl
  | [x] => rfl
  | x :: y :: r => by
    have := sm_ed (G := G) (l := y :: r)
    simp only [ed, sm, cs, this]
    rfl
/-! ### straight spots left out -/
def kp (l : List (Sp × Bool)) : List Sp := (l.filter (·.2)).map (·.1)
def vs (l : List (Sp × Bool)) : List Sp := l.map (·.1)
theorem kp_app {l m : List (Sp × Bool)} : kp (l ++ m) = kp l ++ kp m := by
  unfold kp
  rw [List.filter_append, List.map_append]
theorem vs_app {l m : List (Sp × Bool)} : vs (l ++ m) = vs l ++ vs m := by
  unfold vs
  rw [List.map_append]
theorem kp_t {v : Sp × Bool} {l : List (Sp × Bool)} (h : v.2 = true) : kp (v :: l) = v.1 :: kp l := by
  unfold kp
  rw [List.filter_cons_of_pos h, List.map_cons]
theorem kp_f {v : Sp × Bool} {l : List (Sp × Bool)} (h : v.2 = false) : kp (v :: l) = kp l := by
  unfold kp
  rw [List.filter_cons_of_neg (by simp [h])]
/-- the same step on -/
def Even (u v w : Sp) : Prop := w.1 - v.1 = v.1 - u.1 ∧ w.2 - v.2 = v.2 - u.2
def Trip : Sp → List (Sp × Bool) → Sp → Prop
  | _, [], _ => True
  | u, [v], z => v.2 = false → Even u v.1 z
  | u, v :: w :: l, z => (v.2 = false → Even u v.1 w.1) ∧ Trip v.1 (w :: l) z
def far (a d : Sp) (t : Int) : Sp := (a.1 + t * d.1, a.2 + t * d.2)
/-- what is a sum along a line -/
def Adds (G : Sp → Sp → Rat) : Prop := ∀ (a d : Sp) (t : Int), G a (far a d (t + 1)) = G a (far a d t) + G (far a d t) (far a d (t + 1))
theorem even_far {a d u v w : Sp} {t : Int} (hv : v = far a d t) (hu : v.1 - u.1 = d.1 ∧ v.2 - u.2 = d.2) (h : Even u v w) : w = far a d (t + 1) := by
  obtain ⟨w1, w2⟩ := w
  obtain ⟨h1, h2⟩ := h
  subst hv
  unfold far at *
  simp only at *
  refine Prod.ext ?_ ?_
  · simp only
    rw [Int.add_mul, Int.one_mul]
    omega
  · simp only
    rw [Int.add_mul, Int.one_mul]
    omega
theorem keep_sum {G : Sp → Sp → Rat} (hG : Adds G) {z : Sp} : ∀ (l : List (Sp × Bool)) (u : Sp) (v : Sp × Bool) (a d : Sp) (t : Int), Trip u (v :: l) z → v.1 = far a d t → (v.1.1 - u.1 = d.1 ∧ v.1.2 - u.2 = d.2) →
    cs G (a :: (kp (v :: l) ++ [z])) = G a v.1 + cs G (v.1 :: (vs l ++ [z]))
  | [], u, v, a, d, t, ht, hv, hu => by
    cases hb : v.2
    · rw [kp_f hb]
      have hz := even_far hv hu (ht hb)
      show cs G [a, z] = G a v.1 + cs G [v.1, z]
      have := hG a d t
      simp only [cs]
      rw [hz, hv]
      grind
    · rw [kp_t hb]
      show cs G [a, v.1, z] = G a v.1 + cs G [v.1, z]
      simp only [cs]
  | w :: l, u, v, a, d, t, ht, hv, hu => by
    cases hb : v.2
    · rw [kp_f hb]
      have hw := even_far hv hu (ht.1 hb)
      have hs : w.1.1 - v.1.1 = d.1 ∧ w.1.2 - v.1.2 = d.2 := by
        have := ht.1 hb
        unfold Even at this
        omega
      rw [keep_sum hG l v.1 w a d (t + 1) ht.2 hw hs]
      have := hG a d t
      show G a w.1 + _ = G a v.1 + cs G (v.1 :: w.1 :: (vs l ++ [z]))
      simp only [cs]
      rw [← hw, ← hv] at this
      grind
    · rw [kp_t hb]
      have e := keep_sum hG l v.1 w v.1 (w.1.1 - v.1.1, w.1.2 - v.1.2) 1 ht.2 (by unfold far; simp only; refine Prod.ext ?_ ?_ <;> simp only <;> omega) ⟨rfl, rfl⟩
      show G a v.1 + cs G (v.1 :: (kp (w :: l) ++ [z])) = G a v.1 + cs G (v.1 :: w.1 :: (vs l ++ [z]))
      rw [e]
      rfl
theorem all_false {z : Sp} : ∀ (l : List (Sp × Bool)) (u : Sp) (v : Sp × Bool) (d : Sp), Trip u (v :: l) z → (∀ x ∈ v :: l, x.2 = false) → (v.1.1 - u.1 = d.1 ∧ v.1.2 - u.2 = d.2) → z = far v.1 d ((l.length : Int) + 1)
  | [], u, v, d, ht, hf, hu => by
    have := even_far (a := v.1) (d := d) (t := 0) (by unfold far; simp) hu (ht (hf v (by simp)))
    simpa using this
  | w :: l, u, v, d, ht, hf, hu => by
    have h1 := ht.1 (hf v (by simp))
    have hs : w.1.1 - v.1.1 = d.1 ∧ w.1.2 - v.1.2 = d.2 := by
      unfold Even at h1
      omega
    have ih := all_false l v.1 w d ht.2 (fun x hx => hf x (List.mem_cons_of_mem _ hx)) hs
    rw [ih]
    unfold far
    rw [List.length_cons]
    push_cast
    refine Prod.ext ?_ ?_
    · simp only [Int.add_mul, Int.one_mul]
      omega
    · simp only [Int.add_mul, Int.one_mul]
      omega
theorem trip_seq {q : Nat → Sp × Bool} (h : ∀ j, (q (j + 1)).2 = false → Even (q j).1 (q (j + 1)).1 (q (j + 2)).1) : ∀ (m i : Nat), Trip (q i).1 ((List.range' (i + 1) m).map q) (q (i + m + 1)).1
  | 0, i => True.intro
  | 1, i => h i
  | m + 2, i => by
    have e1 : (List.range' (i + 1) (m + 2)).map q = q (i + 1) :: q (i + 2) :: (List.range' (i + 3) m).map q := rfl
    rw [e1]
    refine ⟨h i, ?_⟩
    have ih := trip_seq h (m + 1) (i + 1)
    have e2 : (List.range' (i + 1 + 1) (m + 1)).map q = q (i + 2) :: (List.range' (i + 3) m).map q := rfl
    rw [e2] at ih
    have e3 : i + 1 + (m + 1) + 1 = i + (m + 2) + 1 := by omega
    rw [e3] at ih
    exact ih
end
section
/-! ### rows of small data -/
structure Nice {α : Type} [DecidableEq α] (f : α → D) : Prop where
  lay : ∀ x, SeqAt.shaped (f x) = true
  dep : ∀ x, (f x).depth ≤ 3
  flat : ∀ x, flatD (f x) = true
  eqv : ∀ x y, PyData.eqv (f x) (f y) = decide (x = y)
section
variable {α : Type} [DecidableEq α] {f : α → D}
theorem Nice.rows (n : Nice f) : ∀ {l : List α}, PyData.canLayAll0 (l.map f) = true ∧ PyData.depthAll (l.map f) ≤ 3 ∧ flatDs (l.map f) = true
  | [] => ⟨rfl, by simp [PyData.depthAll], rfl⟩
  | p :: l => by
    obtain ⟨h1, h2, h3⟩ := n.rows (l := l)
    have hs := n.lay p
    unfold SeqAt.shaped at hs
    rw [Bool.and_eq_true] at hs
    rw [List.map_cons]
    refine ⟨?_, ?_, ?_⟩
    · unfold PyData.canLayAll0
      rw [hs.1, h1]
      rfl
    · unfold PyData.depthAll
      have := n.dep p
      omega
    · unfold flatDs
      rw [n.flat, h3]
      rfl
theorem Nice.eqo (n : Nice f) {x : α} {l : List α} : eqOk (f x) (.list (l.map f)) = true := by
  obtain ⟨h1, h2, h3⟩ := n.rows (l := l)
  have e1 : SeqAt.shaped (.list (l.map f)) = true := by
    unfold SeqAt.shaped PyData.canLay0 PyData.depth
    rw [h1, Bool.true_and]
    exact decide_eq_true (by omega)
  have e2 : flatD (.list (l.map f)) = true := by
    unfold flatD
    exact h3
  unfold eqOk
  rw [n.lay, n.flat, e1, e2]
  rfl
theorem Nice.any (n : Nice f) {x : α} : ∀ {l : List α}, ((l.map f).any fun z => PyData.eqv z (f x)) = decide (x ∈ l)
  | [] => by simp
  | q :: l => by
    rw [List.map_cons, List.any_cons, n.any, n.eqv]
    by_cases h : q = x
    · subst h
      simp
    · have : ¬ x = q := fun e => h e.symm
      simp [h, this]
theorem Nice.isin (n : Nice f) {x : α} {l : List α} : prIsin [f x, .list (l.map f)] = some (.z, .bool (decide (x ∈ l))) := by
  simp only [prIsin, n.eqo, if_true, n.any, zd]
theorem Nice.eqnil (n : Nice f) {l : List α} : prEq [.list (l.map f), .list []] = some (.z, .bool l.isEmpty) := by
  obtain ⟨h1, h2, h3⟩ := n.rows (l := l)
  have e1 : SeqAt.shaped (.list (l.map f)) = true := by
    unfold SeqAt.shaped PyData.canLay0 PyData.depth
    rw [h1, Bool.true_and]
    exact decide_eq_true (by omega)
  have e2 : flatD (.list (l.map f)) = true := by
    unfold flatD
    exact h3
  have e3 : SeqAt.shaped (.list []) = true := rfl
  have e4 : flatD (.list []) = true := rfl
  have e5 : PyData.eqv (.list (l.map f)) (.list []) = l.isEmpty := by cases l <;> simp [PyData.eqv, PyData.eqvAll]
  simp only [prEq, eqOk, e1, e2, e3, e4, e5, Bool.and_true, if_true, zd]
theorem Nice.find (n : Nice f) {x : α} : ∀ {l : List α}, x ∈ l → ∃ A B, l = A ++ x :: B ∧ x ∉ A ∧ ((l.map f).findIdx? fun z => PyData.eqv z (f x)) = some A.length
  | [], h => by simp at h
  | y :: l, h => by
    rw [List.map_cons, List.findIdx?_cons, n.eqv]
    by_cases e : y = x
    · subst e
      exact ⟨[], l, rfl, by simp, by simp⟩
    · have hx : x ∈ l := by
        rcases List.mem_cons.mp h with h | h
        · exact absurd h.symm e
        · exact h
      obtain ⟨A, B, rfl, h2, h3⟩ := n.find hx
      refine ⟨y :: A, B, rfl, ?_, ?_⟩
      · intro h
        rcases List.mem_cons.mp h with h | h
        · exact e h.symm
        · exact h2 h
      · rw [h3]
        simp [e]
theorem Nice.rem (n : Nice f) {x : α} {l : List α} (h : x ∈ l) : ∃ j, l[j]? = some x ∧ mu .rem (.list (l.map f)) [f x] = some (.list ((l.eraseIdx j).map f), .none) := by
  obtain ⟨A, B, rfl, h2, h3⟩ := n.find h
  refine ⟨A.length, by simp, ?_⟩
  simp only [mu, n.eqo, if_true, h3, Option.map_some]
  have e : ((A ++ x :: B).map f).eraseIdx A.length = ((A ++ x :: B).eraseIdx A.length).map f := by
    rw [List.eraseIdx_append_of_length_le (Nat.le_refl _), List.map_append, List.eraseIdx_append_of_length_le (by simp), List.map_append]
    simp
  rw [e]
end
def bD (b : Bt) : D := .tuple [sD b.1, sD b.2]
theorem eqv_sD {p q : Sp} : PyData.eqv (sD p) (sD q) = decide (p = q) := by
  unfold sD
  simp only [PyData.eqv, PyData.eqvAll, Bool.and_true]
  obtain ⟨a, b⟩ := p
  obtain ⟨c, d⟩ := q
  by_cases h1 : a = c <;> by_cases h2 : b = d <;> simp [h1, h2]
theorem eqv_bD {p q : Bt} : PyData.eqv (bD p) (bD q) = decide (p = q) := by
  unfold bD
  simp only [PyData.eqv, PyData.eqvAll, Bool.and_true, eqv_sD]
  obtain ⟨a, b⟩ := p
  obtain ⟨c, d⟩ := q
  by_cases h1 : a = c <;> by_cases h2 : b = d <;> simp [h1, h2]
theorem nice_s : Nice sD := ⟨fun x => by unfold sD; simp [SeqAt.shaped, PyData.canLay0, PyData.canLayAll0, PyData.depth, PyData.depthAll], fun x => by unfold sD; simp [PyData.depth, PyData.depthAll], fun _ => rfl, fun _ _ => eqv_sD⟩
theorem nice_b : Nice bD := ⟨fun x => by unfold bD sD; simp [SeqAt.shaped, PyData.canLay0, PyData.canLayAll0, PyData.depth, PyData.depthAll], fun x => by unfold bD sD; simp [PyData.depth, PyData.depthAll], fun _ => rfl, fun _ _ => eqv_bD⟩
theorem eq_sD {p q : Sp} : prEq [sD p, sD q] = some (.z, .bool (decide (p = q))) := by
  simp only [prEq, eqOk, nice_s.lay, nice_s.flat, eqv_sD, Bool.and_true, if_true, zd]
theorem ix_b0 {b : Bt} : prIx [bD b, .int 0] = some (.z, sD b.1) := by
  unfold bD
  rw [ixt, at0]
  rfl
theorem ix_b1 {b : Bt} : prIx [bD b, .int 1] = some (.z, sD b.2) := by
  unfold bD
  rw [ixt, at1]
  rfl
/-! ### the rim of tiles -/
def opp (b : Bt) : Bt := (b.2, b.1)
def Anti (G : Sp → Sp → Rat) : Prop := ∀ p q, G q p = -G p q
def Rim (E L : List Bt) : Prop := (∀ G, Anti G → sm (G2 G) L = sm (G2 G) E) ∧ (∀ b ∈ L, b ∈ E) ∧ (∀ b ∈ L, opp b ∉ L) ∧ L.length ≤ E.length
theorem Rim.nil : Rim [] [] := ⟨fun _ _ => rfl, by simp, by simp, Nat.le_refl _⟩
theorem sm_one {α : Type} {f : α → Rat} {x : α} : sm f [x] = f x := by
  simp only [sm]
  grind
theorem opp_opp {b : Bt} : opp (opp b) = b := rfl
theorem Rim.add {E L : List Bt} {b : Bt} (h : Rim E L) (hb : opp b ∉ L) (hn : b.1 ≠ b.2) : Rim (E ++ [b]) (L ++ [b]) := by
  obtain ⟨h1, h2, h3, h4⟩ := h
  refine ⟨fun G hG => by rw [sm_app, sm_app, h1 G hG], ?_, ?_, by simp; omega⟩
  · intro x hx
    rcases List.mem_append.mp hx with h | h
    · exact List.mem_append_left _ (h2 x h)
    · exact List.mem_append_right _ h
  · intro x hx hy
    rcases List.mem_append.mp hx with hx | hx
    · rcases List.mem_append.mp hy with hy | hy
      · exact h3 x hx hy
      · rw [List.mem_singleton] at hy
        refine hb ?_
        rw [← hy]
        exact hx
    · rw [List.mem_singleton] at hx
      subst hx
      rcases List.mem_append.mp hy with hy | hy
      · exact hb hy
      · rw [List.mem_singleton] at hy
        have := congrArg Prod.fst hy
        exact hn this.symm
theorem Rim.rem {E L : List Bt} {b : Bt} {j : Nat} (h : Rim E L) (hj : L[j]? = some (opp b)) : Rim (E ++ [b]) (L.eraseIdx j) := by
  obtain ⟨h1, h2, h3, h4⟩ := h
  have hl := (List.getElem?_eq_some_iff.mp hj).1
  refine ⟨fun G hG => ?_, ?_, ?_, ?_⟩
  · rw [sm_erase hj, sm_app, sm_one, h1 G hG]
    have := hG b.1 b.2
    unfold G2 opp
    simp only
    grind
  · intro x hx
    exact List.mem_append_left _ (h2 x (List.mem_of_mem_eraseIdx hx))
  · intro x hx hy
    exact h3 x (List.mem_of_mem_eraseIdx hx) (List.mem_of_mem_eraseIdx hy)
  · rw [List.length_append, List.length_singleton, List.length_eraseIdx_of_lt hl]
    omega
abbrev T3 := Sp × Sp × Sp
def tD (t : T3) : D := .tuple [sD t.1, sD t.2.1, sD t.2.2]
def te (t : T3) : List Bt := [(t.2.2, t.1), (t.1, t.2.1), (t.2.1, t.2.2)]
def Sht (a b : Sp) : Prop := (a.1 - b.1).natAbs ≤ 1 ∧ (a.2 - b.2).natAbs ≤ 1 ∧ a ≠ b
def TOk (t : T3) : Prop := (∀ b ∈ te t, Sht b.1 b.2) ∧ sm8 t.1 ∧ sm8 t.2.1 ∧ sm8 t.2.2
theorem te_sm8 {t : T3} (h : TOk t) {b : Bt} (hb : b ∈ te t) : sm8 b.1 ∧ sm8 b.2 := by
  obtain ⟨_, h1, h2, h3⟩ := h
  unfold te at hb
  simp only [List.mem_cons, List.not_mem_nil, or_false] at hb
  rcases hb with rfl | rfl | rfl <;> exact ⟨by assumption, by assumption⟩
/-! ### rings -/
theorem ed_app {x : Sp} {r : List Sp} : ∀ {l : List Sp}, ed (l ++ x :: r) = ed (l ++ [x]) ++ ed (x :: r)
  | [] => by simp [ed]
  | [y] => by simp [ed]
  | y :: z :: l => by
    have := ed_app (x := x) (r := r) (l := z :: l)
    simp only [List.cons_append, ed] at this ⊢
    rw [this]
def z0 : Sp := (0, 0)
def rd0 (r : List Sp) : List Bt := (List.range r.length).map fun i => (r.getD i z0, r.getD ((i + 1) % r.length) z0)
theorem ed_get : ∀ {l : List Sp} {i : Nat}, (ed l)[i]? = if i + 1 < l.length then some (l.getD i z0, l.getD (i + 1) z0) else none
  | [], i => by simp [ed]
  | [x], i => by simp [ed]
  | x :: y :: r, 0 => by simp [ed]
  | x :: y :: r, i + 1 => by
    have := ed_get (l := y :: r) (i := i)
    simp only [ed, List.getElem?_cons_succ, this, List.length_cons, List.getD_cons_succ]
    by_cases h : i + 1 < r.length + 1
    · rw [if_pos h, if_pos (by omega)]
    · rw [if_neg h, if_neg (by omega)]
theorem rd0_ed {x : Sp} {t : List Sp} : rd0 (x :: t) = ed (x :: (t ++ [x])) := by
  apply List.ext_getElem?
  intro i
  rw [ed_get]
  unfold rd0
  rw [List.getElem?_map]
  simp only [List.length_cons, List.length_append, List.length_singleton, List.length_nil]
  by_cases h : i < t.length + 1
  · rw [List.getElem?_range h, Option.map_some, if_pos (by omega)]
    congr 2
    · simp only [List.getD_eq_getElem?_getD]
      rw [← List.cons_append, List.getElem?_append_left (by simpa using h)]
    · simp only [List.getD_eq_getElem?_getD]
      by_cases e : i + 1 = t.length + 1
      · rw [e, Nat.mod_self]
        simp
      · rw [Nat.mod_eq_of_lt (by omega), List.getElem?_cons_succ, List.getElem?_cons_succ, List.getElem?_append_left (by omega)]
  · rw [if_neg (by omega), List.getElem?_eq_none (by simpa using h)]
    rfl
theorem rsum_rd {G : Sp → Sp → Rat} : ∀ {r : List Sp}, rsum G r = sm (G2 G) (rd0 r)
  | [] => rfl
  | x :: t => by
    rw [rd0_ed, sm_ed]
    rfl
def RingOk (L : List Bt) (r : List Sp) : Prop := r.Nodup ∧ r ≠ [] ∧ ∀ b ∈ rd0 r, b ∈ L
def Ri (L : List Bt) (rs : List (List Sp)) (left : List Bt) : Prop := (∀ G, Anti G → sm (G2 G) L = sm (rsum G) rs + sm (G2 G) left) ∧ (∀ r ∈ rs, RingOk L r) ∧ (∀ b ∈ left, b ∈ L) ∧ (rs.map List.length).sum + left.length ≤ L.length
def Pa (L : List Bt) (rs : List (List Sp)) (path : List Sp) (a : Sp) (left : List Bt) : Prop :=
  (∀ G, Anti G → sm (G2 G) L = sm (rsum G) rs + cs G (path ++ [a]) + sm (G2 G) left) ∧ (∀ r ∈ rs, RingOk L r) ∧ (∀ b ∈ left, b ∈ L) ∧ (rs.map List.length).sum + path.length + left.length ≤ L.length ∧ path.Nodup ∧ (∀ b ∈ ed (path ++ [a]), b ∈ L)
theorem Ri.start {L : List Bt} {rs : List (List Sp)} {b : Bt} {left : List Bt} (h : Ri L rs (b :: left)) : Pa L rs [b.1] b.2 left := by
  obtain ⟨h1, h2, h3, h4⟩ := h
  refine ⟨fun G hG => ?_, h2, fun x hx => h3 x (List.mem_cons_of_mem _ hx), by simp at h4 ⊢; omega, by simp, ?_⟩
  · rw [h1 G hG]
    simp only [sm, List.cons_append, List.nil_append, cs, G2]
    grind
  · intro x hx
    simp [ed] at hx
    subst hx
    exact h3 b (by simp)
theorem Pa.cut {L : List Bt} {rs : List (List Sp)} {A B : List Sp} {a : Sp} {left : List Bt} (h : Pa L rs (A ++ a :: B) a left) : Pa L (rs ++ [a :: B]) A a left := by
  obtain ⟨h1, h2, h3, h4, h5, h6⟩ := h
  have e : A ++ a :: B ++ [a] = A ++ a :: (B ++ [a]) := by simp
  rw [e, ed_app] at h6
  refine ⟨fun G hG => ?_, ?_, h3, by simp at h4 ⊢; omega, (List.nodup_append.mp h5).1, fun b hb => h6 b (List.mem_append_left _ hb)⟩
  · rw [h1 G hG, e, cs_app, sm_app, sm_one]
    show _ = sm (rsum G) rs + cs G (a :: (B ++ [a])) + cs G (A ++ [a]) + sm (G2 G) left
    grind
  · intro r hr
    rcases List.mem_append.mp hr with hr | hr
    · exact h2 r hr
    · rw [List.mem_singleton] at hr
      subst hr
      refine ⟨(List.nodup_append.mp h5).2.1, by simp, fun b hb => ?_⟩
      rw [rd0_ed] at hb
      exact h6 b (List.mem_append_right _ hb)
theorem Pa.go {L : List Bt} {rs : List (List Sp)} {path : List Sp} {a : Sp} {left : List Bt} {b : Bt} {j : Nat} (h : Pa L rs path a left) (ha : a ∉ path) (hj : left[j]? = some b) (hb : b.1 = a) : Pa L rs (path ++ [a]) b.2 (left.eraseIdx j) := by
  obtain ⟨h1, h2, h3, h4, h5, h6⟩ := h
  have hl := (List.getElem?_eq_some_iff.mp hj).1
  have e : path ++ [a] ++ [b.2] = path ++ a :: [b.2] := by simp
  refine ⟨fun G hG => ?_, h2, fun x hx => h3 x (List.mem_of_mem_eraseIdx hx), ?_, ?_, ?_⟩
  · have e2 := cs_app (G := G) (x := a) (r := [b.2]) (l := path)
    rw [h1 G hG, e, e2, sm_erase hj]
    simp only [cs, G2, hb]
    grind
  · rw [List.length_append, List.length_singleton, List.length_eraseIdx_of_lt hl]
    omega
  · rw [List.nodup_append]
    refine ⟨h5, by simp, ?_⟩
    intro x hx y hy
    rw [List.mem_singleton] at hy
    subst hy
    intro e
    subst e
    exact ha hx
  · rw [e, ed_app]
    intro x hx
    rcases List.mem_append.mp hx with hx | hx
    · exact h6 x hx
    · simp [ed] at hx
      subst hx
      rw [← hb]
      exact h3 b (List.mem_of_getElem? hj)
def ind (v p : Sp) : Rat := if p = v then 1 else 0
def Dv (v p q : Sp) : Rat := ind v p - ind v q
theorem anti_dv {v : Sp} : Anti (Dv v) := fun p q => by unfold Dv; grind
theorem tele {v y : Sp} : ∀ {l : List Sp} {x : Sp}, cs (Dv v) (x :: (l ++ [y])) = ind v x - ind v y
  | [], x => by
    simp only [List.nil_append, cs, Dv]
    grind
  | z :: l, x => by
    have := tele (v := v) (y := y) (l := l) (x := z)
    simp only [List.cons_append, cs, Dv] at this ⊢
    grind
theorem rsum_dv {v : Sp} : ∀ {r : List Sp}, rsum (Dv v) r = 0
  | [] => rfl
  | x :: t => by
    show cs (Dv v) (x :: (t ++ [x])) = 0
    rw [tele]
    grind
theorem sm_zero {α : Type} {f : α → Rat} : ∀ {l : List α}, (∀ x ∈ l, f x = 0) → sm f l = 0
  | [], _ => rfl
  | x :: l, h => by
    simp only [sm]
    rw [h x (by simp), sm_zero fun y hy => h y (List.mem_cons_of_mem _ hy)]
    grind
theorem sm_le {v : Sp} : ∀ {l : List Bt}, (∀ b ∈ l, b.1 ≠ v) → sm (G2 (Dv v)) l ≤ 0
  | [], _ => by simp only [sm]; grind
  | b :: l, h => by
    have ih := sm_le (v := v) (l := l) fun y hy => h y (List.mem_cons_of_mem _ hy)
    have h1 := h b (by simp)
    simp only [sm, G2, Dv, ind, if_neg h1] at ih ⊢
    by_cases e : b.2 = v
    · rw [if_pos e]
      grind
    · rw [if_neg e]
      grind
def Closed (L : List Bt) : Prop := ∀ v, sm (G2 (Dv v)) L = 0
theorem Pa.stop {L : List Bt} {rs : List (List Sp)} {path : List Sp} {a : Sp} {left : List Bt} (hL : Closed L) (h : Pa L rs path a left) (ha : a ∉ path) (hb : ∀ b ∈ left, b.1 ≠ a) : path = [] ∧ Ri L rs left := by
  obtain ⟨h1, h2, h3, h4, h5, h6⟩ := h
  have hp : path = [] := by
    cases path with
    | nil => rfl
    | cons x l =>
      exfalso
      have e := h1 (Dv a) anti_dv
      rw [hL a, sm_zero (f := rsum (Dv a)) fun _ _ => rsum_dv, List.cons_append, tele] at e
      have e2 := sm_le hb
      have e3 : ind a a = 1 := if_pos rfl
      have e4 : ind a x = 0 := if_neg fun e => ha (by rw [e]; simp)
      rw [e3, e4] at e
      grind
  subst hp
  refine ⟨rfl, fun G hG => ?_, h2, h3, by simpa using h4⟩
  rw [h1 G hG]
  simp only [List.nil_append, cs]
  grind
end
theorem len_g {r : List Pt} : prLen [gD r] = some (.z, .int r.length) := len_pts
theorem mu_app {xs : List D} {d : D} (h : xs.length < 1000) : mu .app (.list xs) [d] = some (.list (xs ++ [d]), .none) := by
  have : xs.length < sizeLine := Nat.lt_of_lt_of_le h (by decide)
  simp only [mu, if_pos this]
theorem mu_pop0 {xs : List D} {d : D} : mu .popAt (.list (d :: xs)) [.int 0] = some (.list xs, d) := by
  have e : seqIndex? 0 (d :: xs).length = some 0 := by
    unfold seqIndex?
    simp
  have c : (-(2 ^ 63) : Int) ≤ 0 ∧ (0 : Int) < 2 ^ 63 := by decide
  simp only [mu, if_pos c, e]
  rfl
theorem tok4 {x y : Int} (hx : 0 ≤ x ∧ x < 3) (hy : 0 ≤ y ∧ y < 3) : TOk ((x, y), (x + 1, y), (x + 1, y + 1)) ∧ TOk ((x, y), (x + 1, y + 1), (x, y + 1)) ∧ TOk ((x, y), (x + 1, y), (x, y + 1)) ∧ TOk ((x + 1, y), (x + 1, y + 1), (x, y + 1)) := by
  have s : ∀ a b : Sp, (a.1 - b.1).natAbs ≤ 1 → (a.2 - b.2).natAbs ≤ 1 → (a.1 ≠ b.1 ∨ a.2 ≠ b.2) → Sht a b := fun a b h1 h2 h3 => ⟨h1, h2, fun e => by subst e; rcases h3 with h | h <;> exact h rfl⟩
  refine ⟨⟨?_, ?_, ?_, ?_⟩, ⟨?_, ?_, ?_, ?_⟩, ⟨?_, ?_, ?_, ?_⟩, ⟨?_, ?_, ?_, ?_⟩⟩
  all_goals first
    | (unfold sm8; dsimp only; omega)
    | (intro b hb
       unfold te at hb
       simp only [List.mem_cons, List.not_mem_nil, or_false] at hb
       rcases hb with rfl | rfl | rfl <;> exact s _ _ (by dsimp only; omega) (by dsimp only; omega) (by dsimp only; omega))
def kD (k : Nat) : D := .int (k : Int)
theorem ix_t {ts : List T3} {i : Nat} (h : i < ts.length) : prIx [.list (ts.map tD), .int (i : Int)] = some (.z, tD ts[i]) := by
  rw [ixl, at_map h]
  rfl
theorem cor {t : T3} : ∀ {j : Nat}, j < 3 → ∃ b, (te t)[j]? = some b ∧ prIx [tD t, .int ((j : Int) - 1)] = some (.z, sD b.1) ∧ prIx [tD t, .int (j : Int)] = some (.z, sD b.2)
  | 0, _ => ⟨(t.2.2, t.1), rfl, rfl, rfl⟩
  | 1, _ => ⟨(t.1, t.2.1), rfl, rfl, rfl⟩
  | 2, _ => ⟨(t.2.1, t.2.2), rfl, rfl, rfl⟩
  | j + 3, h => absurd h (by omega)
def tsel (ts : List T3) (ks : List Nat) : List T3 := ks.map fun k => ts.getD k (z0, z0, z0)
theorem Nice.isc {α : Type} [DecidableEq α] {f : α → D} (n : Nice f) (x : α) (l : List α) : ∃ c : Bool, prIsin [f x, .list (l.map f)] = some (.z, .bool c) ∧ (c = true ↔ x ∈ l) := ⟨_, n.isin, by simp⟩
theorem eqc_sD (p q : Sp) : ∃ c : Bool, prEq [sD p, sD q] = some (.z, .bool c) ∧ (c = true ↔ p = q) := ⟨_, eq_sD, by simp⟩
section
local macro_rules
  | `(tactic| trivial) => `(tactic| simp only [exQ, evE, evA, evT, evI, sees, Mi.plain, hands, backs, add_int, sub_int, sub_bool, mul_int, fdiv_int, mod_int, neg_int, lt_int, le_int, gt_int, ge_int, len_list, len_tup, abs_int, toInt_int, toInt_bool, toList_list, toList_tup, toTuple_list, toTuple_tup, ixl, ixt, it_l, it_t, asg_n, asg_t, asg_l, asg_ul, rev_l, gcd_int, pow_int, isnot_n, isnot_b, binds, getO, rd_z, rd_uz, pr, ix_rD0, ix_rD1, ix_pD0, ix_pD1, ix_qD0, ix_qD1, items_qD, asg_qD, asg_q2, asg_sD, ix_sD0, ix_sD1, at4, at5, at6, ix_q0, ix_q1, it_g, ix_b0, ix_b1, it_r, lp_nil, lpt_nx, lpt_ct, lpt_bk, lpt_rt, eq_pD, ne_rD, is_1, is_2, isi_1, isi_2, isi_3, isi_4, isi_5, isi_6, isi_7, Nat.reduceBEq, nonD_1, nonD_2, nonD_3, nonD_4, nonD_5, nonD_6, nonD_7, blD_1, blD_2, blD_3, blD_4, blD_5, blD_6, blD_7, bt1, bt2, beq_self_eq_true, sto, zd, ud, Option.bind_some, Option.map_some, Option.bind_none, Option.bind_assoc,
      List.map_cons, List.map_nil, List.cons_append, List.nil_append, List.append_nil, List.length_cons, List.length_nil, List.replicate_succ, List.replicate_zero, List.getElem?_cons_zero, List.getElem?_cons_succ, List.set_cons_zero, List.set_cons_succ, List.any_cons, List.any_nil, id, Nat.reduceAdd, Nat.reduceSub, Nat.reduceLT, Nat.reduceLeDiff, Nat.lt_add_one, Nat.reduceEqDiff, Nat.one_ne_zero, if_true, if_false, reduceIte, List.not_mem_nil, List.mem_singleton, outs, decide_true, decide_false, Bool.or_false, Bool.false_or, Bool.or_true, Bool.true_or, Bool.and_true, Bool.true_and, Bool.and_false, Bool.false_and, Bool.not_true, Bool.not_false, Bool.false_eq_true, ok_some, then_nx, then_rt, then_bk, then_ct, done_rt, done_nx, not_true_eq_false, not_false_eq_true, le_size, lt_size, prEq_int, prNe_int, exB_nil, List.isEmpty_nil, List.isEmpty_cons, at0, at1, at2, at3])
section
variable {Gt : Nat → Option Fn} {w k : Nat}
theorem grid_ok (g14 : Gt 14 = some F14) (g15 : Gt 15 = some F15) (g18 : Gt 18 = some F18) (g : Gt 199 = some F199) {ns : List Int} {d : D} {W H : Int} (hd : PoolOk ns d) (hW : 0 ≤ W ∧ W ≤ 3) (hH : 0 ≤ H ∧ H ≤ 3) :
    Ok (callF Gt w (k + 4) 199 [(.u .z, d), (.z, .int W), (.z, .int H)]) (fun x => ∃ (d' : D) (ts : List T3), PoolOk ns d' ∧ ts.length ≤ 18 ∧ (∀ t ∈ ts, TOk t) ∧ x = ((.u .z, .list (ts.map tD)), [(.u .z, d'), (.z, .int W), (.z, .int H)])) := by
  obtain ⟨W, rfl⟩ := Int.eq_ofNat_of_zero_le hW.1
  obtain ⟨H, rfl⟩ := Int.eq_ofNat_of_zero_le hH.1
  refine ok_def 7 g rfl rfl ?_
  refine ok_seq ?_
  trivial
  refine ok_seq ?_
  trivial
  rw [if_pos (big_nat (by omega))]
  trivial
  refine ok_loop (fun i ρ => ∃ (d : D) (ts : List T3) (x4 x5 x6 x7 x8 x9 : Option SD), PoolOk ns d ∧ ts.length ≤ 6 * i ∧ (∀ t ∈ ts, TOk t) ∧ ρ = [some (.u .z, d), some (.z, .int (W : Int)), some (.z, .int (H : Int)), some (.u .z, .list (ts.map tD)), x4, x5, x6, x7, x8, x9]) ⟨d, [], _, _, _, _, _, _, hd, by simp, by simp, rfl⟩ ?_ ?_
  · rintro i dd ρ he ⟨d, ts, x4, x5, x6, x7, x8, x9, hd, hl, ht, rfl⟩
    obtain ⟨hi, rfl⟩ := rng_get he
    rw [Int.toNat_natCast] at hi
    rw [Int.zero_add]
    trivial
    refine ok_seq ?_
    trivial
    rw [if_pos (big_nat (by omega))]
    trivial
    refine ok_loop (fun j ρ => ∃ (d : D) (ts : List T3) (x5 x6 x7 x8 x9 : Option SD), PoolOk ns d ∧ ts.length ≤ 6 * i + 2 * j ∧ (∀ t ∈ ts, TOk t) ∧ ρ = [some (.u .z, d), some (.z, .int (W : Int)), some (.z, .int (H : Int)), some (.u .z, .list (ts.map tD)), some (.z, .int (i : Int)), x5, x6, x7, x8, x9]) ⟨d, ts, _, _, _, _, _, hd, by simpa using hl, ht, rfl⟩ ?_ ?_
    · rintro j dd ρ he ⟨d, ts, x5, x6, x7, x8, x9, hd, hl, ht, rfl⟩
      obtain ⟨hj, rfl⟩ := rng_get he
      rw [Int.toNat_natCast] at hj
      rw [Int.zero_add]
      trivial
      have hk := tok4 (x := (i : Int)) (y := (j : Int)) ⟨by omega, by omega⟩ ⟨by omega, by omega⟩
      refine ok_seq ?_
      trivial
      refine ok_seq ?_
      trivial
      refine ok_bind (draw_ok g14 g15 g18 hd (show (0 : Int) < 2 by decide) (bd_of (by decide) (by decide))) ?_
      rintro _ ⟨d1, v, hd1, _, _, rfl⟩
      trivial
      have hz : (ts.map tD).length + 2 ≤ 1000 := by rw [List.length_map]; omega
      have two : ∀ a b : T3, TOk a → TOk b → (ts ++ [a, b]).length ≤ 6 * i + 2 * (j + 1) ∧ ∀ t ∈ ts ++ [a, b], TOk t := fun a b ha hb => by
        refine ⟨by simp; omega, fun t h => ?_⟩
        rcases List.mem_append.mp h with h | h
        · exact ht t h
        · simp only [List.mem_cons, List.not_mem_nil, or_false] at h
          rcases h with rfl | rfl <;> assumption
      cases v == 0
      · trivial
        refine ok_seq ?_
        trivial
        rw [add_list (by simpa using hz)]
        trivial
        have z := two _ _ hk.2.2.1 hk.2.2.2
        exact ⟨d1, _, _, _, _, _, _, hd1, z.1, z.2, by rw [List.map_append]; rfl⟩
      · trivial
        refine ok_seq ?_
        trivial
        rw [add_list (by simpa using hz)]
        trivial
        have z := two _ _ hk.1 hk.2.1
        exact ⟨d1, _, _, _, _, _, _, hd1, z.1, z.2, by rw [List.map_append]; rfl⟩
    · rintro ρ ⟨d, ts, x5, x6, x7, x8, x9, hd, hl, ht, rfl⟩
      rw [rng_len, Int.toNat_natCast] at hl
      trivial
      exact ⟨d, ts, _, _, _, _, _, _, hd, by omega, ht, rfl⟩
  · rintro ρ ⟨d, ts, x4, x5, x6, x7, x8, x9, hd, hl, ht, rfl⟩
    rw [rng_len, Int.toNat_natCast] at hl
    trivial
    refine ok_seq ?_
    trivial
    exact ⟨d, ts, hd, by omega, ht, rfl⟩
theorem tiles_ok (g14 : Gt 14 = some F14) (g15 : Gt 15 = some F15) (g18 : Gt 18 = some F18) (g19 : Gt 19 = some F19) (g : Gt 200 = some F200) {ns : List Int} {d : D} {ts : List T3} (hd : PoolOk ns d) (hl : ts.length ≤ 18) :
    Ok (callF Gt w (k + 5) 200 [(.u .z, d), (.z, .list (ts.map tD))]) (fun x => ∃ (d' : D) (ks : List Nat), PoolOk ns d' ∧ ks.length ≤ 18 ∧ (∀ j ∈ ks, j < ts.length) ∧ x = ((.u .z, .list (ks.map kD)), [(.u .z, d'), (.z, .list (ts.map tD))])) := by
  refine ok_def 2 g rfl rfl ?_
  refine ok_seq ?_
  trivial
  refine ok_bind (pick_ok g14 g15 g18 g19 hd (by simp) (by simp)) ?_
  rintro _ ⟨d1, q, hd1, hq, rfl⟩
  obtain ⟨m, rfl, hm0, hm1⟩ : ∃ m : Int, q = .int m ∧ 0 < m ∧ m < 8 := by
    simp only [List.mem_cons, List.not_mem_nil, or_false] at hq
    rcases hq with rfl | rfl | rfl | rfl <;> exact ⟨_, rfl, by decide, by decide⟩
  have hmb : Bd 8000 m := Bd.mono (a := 4) (bd_of (by omega) (Int.lt_trans hm1 (by decide))) (by decide)
  trivial
  refine ok_seq ?_
  trivial
  rw [List.length_map, if_pos (big_nat (by omega))]
  trivial
  simp only [plainAt, List.all_cons, List.all_nil, getO]
  trivial
  simp only [noneAt]
  trivial
  refine ok_bind (P := fun x => ∃ (d : D) (ks : List Nat), PoolOk ns d ∧ ks.length ≤ ts.length ∧ (∀ j ∈ ks, j < ts.length) ∧ x.1 = ks.map kD ∧ x.2 = [some (.u .z, d), some (.z, .list (ts.map tD)), some (.z, .int m), none])
    (ok_turns (fun i acc ρ => ∃ (d : D) (ks : List Nat), PoolOk ns d ∧ ks.length ≤ i ∧ (∀ j ∈ ks, j < ts.length) ∧ acc = ks.map kD ∧ ρ = [some (.u .z, d), some (.z, .list (ts.map tD)), some (.z, .int m), none]) ⟨d1, [], hd1, by simp, by simp, rfl, rfl⟩ (by rw [rng_len, Int.toNat_natCast]; exact Nat.le_trans hl (by decide)) ?_ ?_) ?_
  · rintro i dd ρ acc he _ ⟨d, ks, hd, hkl, hk, rfl, rfl⟩
    obtain ⟨hi, rfl⟩ := rng_get he
    rw [Int.toNat_natCast] at hi
    rw [Int.zero_add]
    trivial
    refine ok_bind (draw_ok g14 g15 g18 hd hm0 hmb) ?_
    rintro _ ⟨d', v, hd', _, _, rfl⟩
    trivial
    cases decide (0 < v)
    · trivial
      simp only [noneAt]
      trivial
      exact ⟨d', ks, hd', by omega, hk, rfl, by first | rfl | exact True.intro⟩
    · trivial
      simp only [noneAt]
      trivial
      refine ⟨d', ks ++ [i], hd', by simp; omega, ?_, by simp [kD], by first | rfl | exact True.intro⟩
      intro j hj
      rcases List.mem_append.mp hj with h | h
      · exact hk j h
      · rw [List.mem_singleton.mp h]
        exact hi
  · rintro ρ acc _ ⟨d, ks, hd, hkl, hk, rfl, rfl⟩
    rw [rng_len, Int.toNat_natCast] at hkl
    exact ⟨d, ks, hd, hkl, hk, rfl, rfl⟩
  rintro ⟨_, _⟩ ⟨d2, ks, hd2, hkl, hk, rfl, rfl⟩
  simp only [restore, getO]
  trivial
  exact ⟨d2, ks, hd2, by omega, hk, rfl⟩
theorem rim_ok (g : Gt 509 = some F509) {ts : List T3} {ks : List Nat} (ht : ∀ t ∈ ts, TOk t) (hl : ks.length ≤ 18) (hk : ∀ j ∈ ks, j < ts.length) :
    Ok (callF Gt w (k + 1) 509 [(.z, .list (ts.map tD)), (.z, .list (ks.map kD))]) (fun x => ∃ L, Rim ((tsel ts ks).flatMap te) L ∧ x = ((.u .z, .list (L.map bD)), [(.z, .list (ts.map tD)), (.z, .list (ks.map kD))])) := by
  refine ok_def 5 g rfl rfl ?_
  refine ok_seq ?_
  trivial
  refine ok_seq ?_
  trivial
  refine ok_loop (fun i ρ => ∃ (L : List Bt) (x3 x4 x5 x6 : Option SD), Rim (((tsel ts ks).take i).flatMap te) L ∧ ρ = [some (.z, .list (ts.map tD)), some (.z, .list (ks.map kD)), some (.u .z, .list (L.map bD)), x3, x4, x5, x6]) ⟨[], _, _, _, _, by simpa using Rim.nil, rfl⟩ ?_ ?_
  · rintro i dd ρ he ⟨L, x3, x4, x5, x6, hL, rfl⟩
    rw [List.getElem?_map, Option.map_eq_some_iff] at he
    obtain ⟨m, hm, rfl⟩ := he
    have hmt := hk m (List.mem_of_getElem? hm)
    have hi := (List.getElem?_eq_some_iff.mp hm).1
    have es : (tsel ts ks)[i]? = some ts[m] := by
      unfold tsel
      rw [List.getElem?_map, hm, Option.map_some, List.getD_eq_getElem?_getD, List.getElem?_eq_getElem hmt]
      rfl
    have hto := ht _ (List.getElem_mem hmt)
    rw [show kD m = .int (m : Int) from rfl]
    trivial
    refine ok_seq ?_
    trivial
    rw [at_map hmt]
    trivial
    refine ok_seq ?_
    trivial
    rw [if_pos (by decide)]
    trivial
    refine ok_loop (fun j ρ => ∃ (L : List Bt) (x5 x6 : Option SD), Rim (((tsel ts ks).take i).flatMap te ++ (te ts[m]).take j) L ∧ ρ = [some (.z, .list (ts.map tD)), some (.z, .list (ks.map kD)), some (.u .z, .list (L.map bD)), some (.z, .int (m : Int)), some (.z, tD ts[m]), x5, x6]) ⟨L, _, _, by simpa using hL, rfl⟩ ?_ ?_
    · rintro j dd ρ he ⟨L, x5, x6, hL, rfl⟩
      obtain ⟨hj, rfl⟩ := rng_get he
      rw [Int.zero_add]
      obtain ⟨b, eb, e1, e2⟩ := cor (t := ts[m]) (show j < 3 from hj)
      have hbt := hto.1 b (List.mem_of_getElem? eb)
      have hlen : L.length < 1000 := by
        have h1 := hL.2.2.2
        have h2 : (((tsel ts ks).take i).flatMap te).length ≤ 54 := by
          have : ∀ l : List T3, (l.flatMap te).length = 3 * l.length := fun l => by
            induction l with
            | nil => rfl
            | cons x l ih =>
              rw [List.flatMap_cons, List.length_append, ih, List.length_cons]
              show 3 + _ = _
              omega
          rw [this, List.length_take]
          omega
        have h3 : ((te ts[m]).take j).length ≤ 3 := by
          rw [List.length_take]
          show min j 3 ≤ 3
          omega
        rw [List.length_append] at h1
        omega
      trivial
      refine ok_seq ?_
      trivial
      rw [e1]
      trivial
      rw [e2]
      trivial
      have eo : PyData.tuple [sD b.2, sD b.1] = bD (opp b) := rfl
      have ebb : PyData.tuple [sD b.1, sD b.2] = bD b := rfl
      refine ok_seq ?_
      rw [ebb]
      trivial
      obtain ⟨c, ec, hc⟩ := nice_b.isc (opp b) L
      rw [eo, ec]
      cases c
      case true =>
        have hm := hc.mp rfl
        trivial
        refine ok_seq ?_
        trivial
        obtain ⟨q, hq, er⟩ := nice_b.rem hm
        rw [eo, er]
        trivial
        have := hL.rem hq
        rw [List.append_assoc, ← take_snoc eb] at this
        exact ⟨_, _, _, this, rfl⟩
      case false =>
        have hm : opp b ∉ L := fun h => by simpa using hc.mpr h
        trivial
        refine ok_seq ?_
        trivial
        rw [mu_app (by rw [List.length_map]; exact hlen)]
        trivial
        have := hL.add hm hbt.2.2
        rw [List.append_assoc, ← take_snoc eb] at this
        exact ⟨_, _, _, this, by rw [List.map_append]; rfl⟩
    · rintro ρ ⟨L, x5, x6, hL, rfl⟩
      trivial
      refine ⟨L, _, _, _, _, ?_, rfl⟩
      rw [take_snoc es, List.flatMap_append]
      have e3 : (te ts[m]).take (rngD 0 3).length = te ts[m] := rfl
      rw [show Int.toNat 3 = 3 from rfl, e3] at hL
      simpa using hL
  · rintro ρ ⟨L, x3, x4, x5, x6, hL, rfl⟩
    trivial
    refine ok_seq ?_
    trivial
    refine ⟨L, ?_, rfl⟩
    rw [List.length_map, List.take_of_length_le (by unfold tsel; simp)] at hL
    exact hL
end
end
def rgS (r : List Sp) : D := .list (r.map sD)
theorem sl_sf {l : List Sp} {t : Nat} (h : t ≤ l.length) : prSl true false [.list (l.map sD), .int (t : Int)] = some (.u .z, .list ((l.drop t).map sD)) := by
  simp only [prSl, cut_from (show t ≤ (l.map sD).length by rw [List.length_map]; exact h), ud, List.map_drop]
theorem sl_st {l : List Sp} {t : Nat} (h : t ≤ l.length) : prSl false true [.list (l.map sD), .int (t : Int)] = some (.u .z, .list ((l.take t).map sD)) := by
  simp only [prSl, cut_to (show t ≤ (l.map sD).length by rw [List.length_map]; exact h), ud, List.map_take]
theorem len_sum {L : List Bt} : ∀ {rs : List (List Sp)}, (∀ r ∈ rs, RingOk L r) → rs.length ≤ (rs.map List.length).sum
  | [], _ => by simp
  | r :: rs, h => by
    have ih := len_sum (rs := rs) fun x hx => h x (List.mem_cons_of_mem _ hx)
    have := (h r (by simp)).2.1
    have : 0 < r.length := List.length_pos_iff.mpr this
    rw [List.map_cons, List.sum_cons, List.length_cons]
    omega
section
local macro_rules
  | `(tactic| trivial) => `(tactic| simp only [exQ, evE, evA, evT, evI, sees, Mi.plain, hands, backs, add_int, sub_int, sub_bool, mul_int, fdiv_int, mod_int, neg_int, lt_int, le_int, gt_int, ge_int, len_list, len_tup, abs_int, toInt_int, toInt_bool, toList_list, toList_tup, toTuple_list, toTuple_tup, ixl, ixt, it_l, it_t, asg_n, asg_t, asg_l, asg_ul, rev_l, gcd_int, pow_int, isnot_n, isnot_b, binds, getO, rd_z, rd_uz, pr, ix_rD0, ix_rD1, ix_pD0, ix_pD1, ix_qD0, ix_qD1, items_qD, asg_qD, asg_q2, asg_sD, ix_sD0, ix_sD1, at4, at5, at6, ix_q0, ix_q1, it_g, ix_b0, ix_b1, it_r, lp_nil, lpt_nx, lpt_ct, lpt_bk, lpt_rt, eq_pD, ne_rD, is_1, is_2, isi_1, isi_2, isi_3, isi_4, isi_5, isi_6, isi_7, Nat.reduceBEq, nonD_1, nonD_2, nonD_3, nonD_4, nonD_5, nonD_6, nonD_7, blD_1, blD_2, blD_3, blD_4, blD_5, blD_6, blD_7, bt1, bt2, beq_self_eq_true, sto, zd, ud, Option.bind_some, Option.map_some, Option.bind_none, Option.bind_assoc,
      List.map_cons, List.map_nil, List.cons_append, List.nil_append, List.append_nil, List.length_cons, List.length_nil, List.replicate_succ, List.replicate_zero, List.getElem?_cons_zero, List.getElem?_cons_succ, List.set_cons_zero, List.set_cons_succ, List.any_cons, List.any_nil, id, Nat.reduceAdd, Nat.reduceSub, Nat.reduceLT, Nat.reduceLeDiff, Nat.lt_add_one, Nat.reduceEqDiff, Nat.one_ne_zero, if_true, if_false, reduceIte, List.not_mem_nil, List.mem_singleton, outs, decide_true, decide_false, Bool.or_false, Bool.false_or, Bool.or_true, Bool.true_or, Bool.and_true, Bool.true_and, Bool.and_false, Bool.false_and, Bool.not_true, Bool.not_false, Bool.false_eq_true, ok_some, then_nx, then_rt, then_bk, then_ct, done_rt, done_nx, not_true_eq_false, not_false_eq_true, le_size, lt_size, prEq_int, prNe_int, exB_nil, List.isEmpty_nil, List.isEmpty_cons, at0, at1, at2, at3])
section
variable {Gt : Nat → Option Fn} {w k : Nat}
theorem rings_ok (g : Gt 514 = some F514) {L : List Bt} (hl : L.length ≤ 100) (hc : Closed L) :
    Ok (callF Gt w (k + 1) 514 [(.z, .list (L.map bD))]) (fun x => ∃ rs, Ri L rs [] ∧ x = ((.u .z, .list (rs.map rgS)), [(.z, .list (L.map bD))])) := by
  refine ok_def 9 g rfl rfl ?_
  refine ok_seq ?_
  trivial
  refine ok_seq ?_
  trivial
  refine ok_seq ?_
  trivial
  have hbig : big ((L.map bD).length : Int) = true := by rw [List.length_map]; exact big_nat (by omega)
  rw [if_pos hbig]
  trivial
  refine ok_loop (fun K ρ => ∃ (rs : List (List Sp)) (left : List Bt) (x3 x4 x5 x6 x7 x8 : Option SD), Ri L rs left ∧ left.length + K ≤ L.length ∧ ρ = [some (.z, .list (L.map bD)), some (.u .z, .list (left.map bD)), some (.u .z, .list (rs.map rgS)), x3, x4, x5, x6, x7, x8, none]) ⟨[], L, _, _, _, _, _, _, ⟨fun G _ => by simp only [sm]; grind, by simp, fun _ h => h, by simp⟩, Nat.le_refl _, rfl⟩ ?_ ?_
  · rintro K dd ρ he ⟨rs, left, x3, x4, x5, x6, x7, x8, hR, hlen, rfl⟩
    obtain ⟨hi, rfl⟩ := rng_get he
    rw [Int.zero_add]
    trivial
    refine ok_seq ?_
    trivial
    have enl := nice_b.eqnil (l := left)
    rw [enl]
    cases left with
    | nil =>
      trivial
      refine ok_seq ?_
      trivial
      refine ok_seq ?_
      trivial
      exact ⟨rs, hR, rfl⟩
    | cons b left =>
      trivial
      refine ok_seq ?_
      trivial
      refine ok_seq ?_
      trivial
      rw [mu_pop0]
      trivial
      refine ok_seq ?_
      trivial
      rw [if_pos hbig]
      trivial
      refine ok_loop (fun n ρ => ∃ (rs : List (List Sp)) (path : List Sp) (a : Sp) (left : List Bt) (x6 x7 x8 : Option SD), Pa L rs path a left ∧ left.length + n + (K + 1) ≤ L.length ∧ ρ = [some (.z, .list (L.map bD)), some (.u .z, .list (left.map bD)), some (.u .z, .list (rs.map rgS)), some (.z, .int (K : Int)), some (.u .z, .list (path.map sD)), some (.z, sD a), x6, x7, x8, none]) ⟨rs, [b.1], b.2, left, _, _, _, hR.start, by simp at hlen; omega, rfl⟩ ?_ ?_
      · rintro n dd ρ he ⟨rs, path, a, left, x6, x7, x8, hP, hlen, rfl⟩
        obtain ⟨hi, rfl⟩ := rng_get he
        rw [Int.zero_add]
        trivial
        have hbd := hP.2.2.2.1
        have hrs := len_sum hP.2.1
        obtain ⟨c, ec, hcc⟩ := nice_s.isc a path
        refine ok_seq (Ok.mono (P := fun x => ∃ (rs : List (List Sp)) (path : List Sp) (x8 : Option SD), Pa L rs path a left ∧ a ∉ path ∧ x = (.nx, [some (.z, .list (L.map bD)), some (.u .z, .list (left.map bD)), some (.u .z, .list (rs.map rgS)), some (.z, .int (K : Int)), some (.u .z, .list (path.map sD)), some (.z, sD a), some (.z, .int (n : Int)), x7, x8, none])) ?_ ?_)
        · trivial
          rw [ec]
          cases c with
          | false =>
            trivial
            exact ⟨rs, path, _, hP, fun h => by simpa using hcc.mpr h, rfl⟩
          | true =>
            obtain ⟨A, B, rfl, hA, hf⟩ := nice_s.find (hcc.mp rfl)
            trivial
            refine ok_seq ?_
            trivial
            rw [nice_s.eqo, hf]
            trivial
            refine ok_seq ?_
            trivial
            rw [sl_sf (by simp)]
            trivial
            rw [mu_app (by rw [List.length_map]; omega)]
            trivial
            refine ok_seq ?_
            trivial
            rw [sl_st (by simp)]
            trivial
            rw [List.drop_left, List.take_left]
            exact ⟨rs ++ [a :: B], A, _, hP.cut, hA, by rw [List.map_append]; rfl⟩
        · rintro _ ⟨rs, path, x8, hP, hA, rfl⟩
          have hbd := hP.2.2.2.1
          trivial
          refine ok_seq ?_
          trivial
          rw [mu_app (by rw [List.length_map]; omega)]
          trivial
          refine ok_seq ?_
          trivial
          simp only [plainAt, List.all_cons, List.all_nil, getO]
          trivial
          simp only [noneAt]
          trivial
          refine ok_bind (turns_fm (e := bD) (m := bD) (f := fun b => decide (b.1 = a)) left [] (by simp only [List.length_nil]; exact Nat.le_trans (show 0 + left.length ≤ 100 by omega) (by decide)) ?_) ?_
          · intro z hz
            trivial
            obtain ⟨c, ec, hcc⟩ := eqc_sD z.1 a
            rw [ec]
            have e9 : decide (z.1 = a) = c := by
              cases c
              · exact decide_eq_false fun h => by simpa using hcc.mpr h
              · exact decide_eq_true (hcc.mp rfl)
            simp only [e9]
            trivial
            simp only [noneAt]
            trivial
            simp
          rintro _ rfl
          simp only [restore, getO]
          trivial
          refine ok_seq ?_
          trivial
          rw [nice_b.eqnil]
          cases hf : left.filter (fun b => decide (b.1 = a)) with
          | nil =>
            trivial
            refine ok_seq ?_
            trivial
            have hn : ∀ b ∈ left, b.1 ≠ a := fun b hb e => by
              have : b ∈ left.filter (fun b => decide (b.1 = a)) := List.mem_filter.mpr ⟨hb, decide_eq_true e⟩
              rw [hf] at this
              simp at this
            obtain ⟨rfl, hR⟩ := hP.stop hc hA hn
            exact ⟨rs, left, _, _, _, _, _, _, hR, by omega, rfl⟩
          | cons y t =>
            have hy : y ∈ left.filter (fun b => decide (b.1 = a)) := by rw [hf]; simp
            obtain ⟨hy, hya⟩ := List.mem_filter.mp hy
            have hya : y.1 = a := of_decide_eq_true hya
            obtain ⟨j, hj, er⟩ := nice_b.rem hy
            have hjl := (List.getElem?_eq_some_iff.mp hj).1
            trivial
            refine ok_seq ?_
            trivial
            rw [er]
            trivial
            refine ok_seq ?_
            trivial
            exact ⟨rs, path ++ [a], y.2, left.eraseIdx j, _, _, _, hP.go hA hj hya, by rw [List.length_eraseIdx_of_lt hjl]; omega, by rw [List.map_append]; rfl⟩
      · rintro ρ ⟨rs, path, a, left, x6, x7, x8, hP, hlen, rfl⟩
        rw [rng_len, Int.toNat_natCast, List.length_map] at hlen
        omega
  · rintro ρ ⟨rs, left, x3, x4, x5, x6, x7, x8, hR, hlen, rfl⟩
    rw [rng_len, Int.toNat_natCast, List.length_map] at hlen
    have : left = [] := List.length_eq_zero_iff.mp (by omega)
    subst this
    trivial
    refine ok_seq ?_
    trivial
    exact ⟨rs, hR, rfl⟩
end
end
section
/-! ### spots that a line passes -/
def cz (u v w : Sp) : Bool := (v.1 - u.1) * (w.2 - v.2) == (v.2 - u.2) * (w.1 - v.1)
def sv (r : List Sp) (i : Nat) : Bool := cz (r.getD ((i + r.length - 1) % r.length) z0) (r.getD i z0) (r.getD ((i + 1) % r.length) z0)
def keep (r : List Sp) : List Sp := ((List.range r.length).filter fun i => !sv r i).map fun i => r.getD i z0
def Gr (r : List Sp) : Prop := r.Nodup ∧ 3 ≤ r.length ∧ (∀ b ∈ rd0 r, Sht b.1 b.2) ∧ ∀ s ∈ r, sm8 s
theorem even_of {u v w : Sp} (h1 : Sht u v) (h2 : Sht v w) (hn : u ≠ w) (hc : cz u v w = true) : Even u v w := by
  obtain ⟨a1, a2, a3⟩ := h1
  obtain ⟨b1, b2, b3⟩ := h2
  have hc : (v.1 - u.1) * (w.2 - v.2) = (v.2 - u.2) * (w.1 - v.1) := by
    unfold cz at hc
    exact eq_of_beq hc
  have n1 : ¬(u.1 = v.1 ∧ u.2 = v.2) := fun h => a3 (Prod.ext h.1 h.2)
  have n2 : ¬(v.1 = w.1 ∧ v.2 = w.2) := fun h => b3 (Prod.ext h.1 h.2)
  have n3 : ¬(u.1 = w.1 ∧ u.2 = w.2) := fun h => hn (Prod.ext h.1 h.2)
  unfold Even
  have e1 : v.1 - u.1 = -1 ∨ v.1 - u.1 = 0 ∨ v.1 - u.1 = 1 := by omega
  have e2 : v.2 - u.2 = -1 ∨ v.2 - u.2 = 0 ∨ v.2 - u.2 = 1 := by omega
  rcases e1 with e1 | e1 | e1 <;> rcases e2 with e2 | e2 | e2 <;> rw [e1, e2] at hc <;> omega
def qs (r : List Sp) (j : Nat) : Sp × Bool := (r.getD (j % r.length) z0, !sv r (j % r.length))
theorem qs_edge {r : List Sp} (h : 0 < r.length) {j : Nat} : ((qs r j).1, (qs r (j + 1)).1) ∈ rd0 r := by
  unfold rd0 qs
  refine List.mem_map.mpr ⟨j % r.length, List.mem_range.mpr (Nat.mod_lt _ h), ?_⟩
  rw [Nat.mod_add_mod]
theorem mod2_ne {a m : Nat} (h3 : 3 ≤ m) (ha : a < m) : a ≠ (a + 2) % m := by
  by_cases hl : a + 2 < m
  · rw [Nat.mod_eq_of_lt hl]
    omega
  · have e : a + 2 = m + (a + 2 - m) := by omega
    rw [e, Nat.add_mod_left, Nat.mod_eq_of_lt (by omega)]
    omega
theorem qs_ne {r : List Sp} (h : r.Nodup) (h3 : 3 ≤ r.length) {j : Nat} : (qs r j).1 ≠ (qs r (j + 2)).1 := by
  unfold qs
  simp only
  have ha := Nat.mod_lt j (show 0 < r.length by omega)
  have hb := Nat.mod_lt (j + 2) (show 0 < r.length by omega)
  have e : (j + 2) % r.length = (j % r.length + 2) % r.length := by rw [Nat.mod_add_mod]
  have hne : j % r.length ≠ (j + 2) % r.length := by
    rw [e]
    exact mod2_ne h3 ha
  have hp := List.pairwise_iff_getElem.mp h
  rw [List.getD_eq_getElem?_getD, List.getD_eq_getElem?_getD, List.getElem?_eq_getElem ha, List.getElem?_eq_getElem hb]
  rcases Nat.lt_or_gt_of_ne hne with l | l
  · exact hp _ _ ha hb l
  · exact fun e => hp _ _ hb ha l e.symm
theorem qs_trip {r : List Sp} (h : Gr r) (j : Nat) (hf : (qs r (j + 1)).2 = false) : Even (qs r j).1 (qs r (j + 1)).1 (qs r (j + 2)).1 := by
  obtain ⟨h1, h2, h3, _⟩ := h
  have hp : 0 < r.length := by omega
  refine even_of (h3 _ (qs_edge hp)) (h3 _ (qs_edge hp)) (qs_ne h1 h2) ?_
  unfold qs at hf ⊢
  simp only [Bool.not_eq_false'] at hf
  unfold sv at hf
  have e1 : ((j + 1) % r.length + r.length - 1) % r.length = j % r.length := by
    have : (j + 1) % r.length + r.length - 1 = (j + 1) % r.length + (r.length - 1) := by omega
    rw [this, Nat.mod_add_mod]
    have : j + 1 + (r.length - 1) = j + r.length := by omega
    rw [this, Nat.add_mod_right]
  have e2 : ((j + 1) % r.length + 1) % r.length = (j + 2) % r.length := by rw [Nat.mod_add_mod]
  rw [e1, e2] at hf
  exact hf
theorem qs_per {r : List Sp} {j : Nat} : qs r (r.length + j) = qs r j := by
  unfold qs
  rw [Nat.add_mod_left]
theorem qs_all {r : List Sp} : vs ((List.range' 0 r.length).map (qs r)) = r ∧ kp ((List.range' 0 r.length).map (qs r)) = keep r := by
  have e : (List.range' 0 r.length).map (qs r) = (List.range r.length).map fun i => (r.getD i z0, !sv r i) := by
    rw [← List.range_eq_range']
    refine List.map_congr_left fun i hi => ?_
    unfold qs
    rw [Nat.mod_eq_of_lt (List.mem_range.mp hi)]
  rw [e]
  constructor
  · unfold vs
    rw [List.map_map]
    apply List.ext_getElem?
    intro i
    rw [List.getElem?_map]
    by_cases h : i < r.length
    · rw [List.getElem?_range h, Option.map_some, List.getElem?_eq_getElem h]
      simp only [Function.comp]
      rw [List.getD_eq_getElem?_getD, List.getElem?_eq_getElem h]
      rfl
    · rw [List.getElem?_eq_none (by simpa using h), List.getElem?_eq_none (by omega)]
      rfl
  · unfold kp keep
    rw [List.filter_map, List.map_map]
    rfl
theorem keep_some {r : List Sp} (h : Gr r) : ∃ i, i < r.length ∧ sv r i = false := by
  have hm : 0 < r.length := by have := h.2.1; omega
  refine Classical.byContradiction fun hn => ?_
  have hall : ∀ j, (qs r j).2 = false := fun j => by
    unfold qs
    simp only [Bool.not_eq_false']
    cases e : sv r (j % r.length)
    · exact absurd ⟨_, Nat.mod_lt _ hm, e⟩ hn
    · rfl
  have step : ∀ j, (qs r (j + 1)).1.1 - (qs r j).1.1 = (qs r 1).1.1 - (qs r 0).1.1 ∧ (qs r (j + 1)).1.2 - (qs r j).1.2 = (qs r 1).1.2 - (qs r 0).1.2 := by
    intro j
    induction j with
    | zero => exact ⟨rfl, rfl⟩
    | succ j ih =>
      have : Even (qs r j).1 (qs r (j + 1)).1 (qs r (j + 1 + 1)).1 := qs_trip h j (hall _)
      unfold Even at this
      omega
  have far : ∀ j : Nat, (qs r j).1.1 = (qs r 0).1.1 + (j : Int) * ((qs r 1).1.1 - (qs r 0).1.1) ∧ (qs r j).1.2 = (qs r 0).1.2 + (j : Int) * ((qs r 1).1.2 - (qs r 0).1.2) := by
    intro j
    induction j with
    | zero => simp
    | succ j ih =>
      have := step j
      push_cast
      rw [Int.add_mul, Int.add_mul, Int.one_mul, Int.one_mul]
      omega
  have hz := far r.length
  have hp : qs r r.length = qs r 0 := qs_per (j := 0)
  rw [hp] at hz
  have z1 : (r.length : Int) * ((qs r 1).1.1 - (qs r 0).1.1) = 0 := by omega
  have z2 : (r.length : Int) * ((qs r 1).1.2 - (qs r 0).1.2) = 0 := by omega
  have y1 : (qs r 1).1.1 - (qs r 0).1.1 = 0 := by
    rcases Int.mul_eq_zero.mp z1 with h | h
    · omega
    · exact h
  have y2 : (qs r 1).1.2 - (qs r 0).1.2 = 0 := by
    rcases Int.mul_eq_zero.mp z2 with h | h
    · omega
    · exact h
  have : (qs r 0).1 ≠ (qs r 1).1 := (h.2.2.1 _ (qs_edge hm (j := 0))).2.2
  exact this (Prod.ext (by omega) (by omega))
theorem keep_ne {r : List Sp} (h : Gr r) : keep r ≠ [] := by
  obtain ⟨i, hi, e⟩ := keep_some h
  unfold keep
  intro hn
  rw [List.map_eq_nil_iff] at hn
  have : i ∈ (List.range r.length).filter fun i => !sv r i := List.mem_filter.mpr ⟨List.mem_range.mpr hi, by rw [e]; rfl⟩
  rw [hn] at this
  simp at this
theorem keep_rsum {r : List Sp} (h : Gr r) {G : Sp → Sp → Rat} (hG : Adds G) : rsum G (keep r) = rsum G r := by
  obtain ⟨i, hi, e⟩ := keep_some h
  have hm3 := h.2.1
  have hq : (qs r i).2 = true := by
    unfold qs
    simp only
    rw [Nat.mod_eq_of_lt hi, e]
    rfl
  have ea : (List.range' 0 r.length).map (qs r) = (List.range' 0 i).map (qs r) ++ (List.range' i (r.length - i)).map (qs r) := by
    rw [← List.map_append]
    have := List.range'_append_1 (s := 0) (m := i) (n := r.length - i)
    rw [Nat.zero_add] at this
    rw [this]
    congr 2
    omega
  have eb : (List.range' i (r.length - i)).map (qs r) ++ (List.range' 0 i).map (qs r) = (List.range' i r.length).map (qs r) := by
    have e1 : (List.range' 0 i).map (qs r) = (List.range' r.length i).map (qs r) := by
      apply List.ext_getElem
      · simp
      · intro n h1 h2
        simp only [List.getElem_map, List.getElem_range']
        rw [Nat.one_mul, Nat.zero_add, qs_per]
    rw [e1, ← List.map_append]
    have := List.range'_append_1 (s := i) (m := r.length - i) (n := i)
    have e2 : i + (r.length - i) = r.length := by omega
    have e3 : r.length - i + i = r.length := by omega
    rw [e2, e3] at this
    rw [this]
  obtain ⟨m, hm⟩ : ∃ m, r.length = m + 2 := ⟨r.length - 2, by omega⟩
  have ec : (List.range' i r.length).map (qs r) = qs r i :: qs r (i + 1) :: (List.range' (i + 2) m).map (qs r) := by
    rw [hm]
    rfl
  have k1 : rsum G (keep r) = rsum G (kp (qs r i :: qs r (i + 1) :: (List.range' (i + 2) m).map (qs r))) := by
    rw [← qs_all.2, ea, kp_app, rsum_rot, ← kp_app, eb, ec]
  have k2 : rsum G r = rsum G (vs (qs r i :: qs r (i + 1) :: (List.range' (i + 2) m).map (qs r))) := by
    have := (qs_all (r := r)).1
    rw [ea, vs_app] at this
    rw [← ec, ← eb, vs_app, rsum_rot, this]
  rw [k1, k2, kp_t hq]
  have ht := trip_seq (qs_trip h) (m + 1) i
  have ez : (qs r (i + (m + 1) + 1)).1 = (qs r i).1 := by
    have : i + (m + 1) + 1 = r.length + i := by omega
    rw [this, qs_per]
  rw [ez] at ht
  have er : (List.range' (i + 1) (m + 1)).map (qs r) = qs r (i + 1) :: (List.range' (i + 2) m).map (qs r) := rfl
  rw [er] at ht
  have ks := keep_sum hG _ (qs r i).1 (qs r (i + 1)) (qs r i).1 ((qs r (i + 1)).1.1 - (qs r i).1.1, (qs r (i + 1)).1.2 - (qs r i).1.2) 1 ht (by unfold far; simp only; refine Prod.ext ?_ ?_ <;> simp only <;> omega) ⟨rfl, rfl⟩
  show cs G ((qs r i).1 :: (kp _ ++ [(qs r i).1])) = cs G ((qs r i).1 :: (qs r (i + 1)).1 :: (vs _ ++ [(qs r i).1]))
  rw [ks]
  simp only [cs]
theorem keep_mem {r : List Sp} {s : Sp} (h : s ∈ keep r) : s ∈ r := by
  unfold keep at h
  obtain ⟨i, hi, rfl⟩ := List.mem_map.mp h
  have hi := List.mem_range.mp (List.mem_filter.mp hi).1
  rw [List.getD_eq_getElem?_getD, List.getElem?_eq_getElem hi]
  exact List.getElem_mem hi
theorem keep_len {r : List Sp} : (keep r).length ≤ r.length := by
  unfold keep
  rw [List.length_map]
  have := List.length_filter_le (fun i => !sv r i) (List.range r.length)
  rw [List.length_range] at this
  exact this
theorem gr_of {E L : List Bt} {r : List Sp} (hR : Rim E L) (hE : ∀ b ∈ E, Sht b.1 b.2 ∧ sm8 b.1) (h : RingOk L r) : Gr r := by
  obtain ⟨h1, h2, h3⟩ := h
  obtain ⟨_, r2, r3, _⟩ := hR
  refine ⟨h1, ?_, fun b hb => (hE b (r2 b (h3 b hb))).1, fun s hs => ?_⟩
  · match r, h2, h3 with
    | [x], _, h3 =>
      have := (hE _ (r2 _ (h3 (x, x) (by simp [rd0])))).1.2.2
      exact absurd rfl this
    | [x, y], _, h3 =>
      have e : rd0 [x, y] = [(x, y), (y, x)] := by rw [rd0_ed]; rfl
      rw [e] at h3
      exact absurd (h3 (y, x) (by simp)) (r3 (x, y) (h3 (x, y) (by simp)))
    | _ :: _ :: _ :: _, _, _ => simp
  · obtain ⟨i, hi, rfl⟩ := List.getElem_of_mem hs
    have hb : (r.getD i z0, r.getD ((i + 1) % r.length) z0) ∈ rd0 r := List.mem_map.mpr ⟨i, List.mem_range.mpr hi, rfl⟩
    have := (hE _ (r2 _ (h3 _ hb))).2
    simp only at this
    rw [List.getD_eq_getElem?_getD, List.getElem?_eq_getElem hi] at this
    exact this
/-- what the shape's rings tell of the tiles -/
def Shp (ts : List T3) (us : List (List Sp)) : Prop := (∀ q ∈ us, q ≠ [] ∧ ∀ s ∈ q, sm8 s) ∧ (us.map List.length).sum ≤ 54 ∧ ∀ G, Anti G → Adds G → sm (rsum G) us = sm (G2 G) (ts.flatMap te)
theorem dv_tiles {v : Sp} {l : List T3} : sm (G2 (Dv v)) (l.flatMap te) = 0 := by
  rw [sm_flat]
  refine sm_zero fun t _ => ?_
  unfold te
  simp only [sm, G2, Dv]
  grind
theorem rim_closed {l : List T3} {L : List Bt} (h : Rim (l.flatMap te) L) : Closed L := fun v => by rw [h.1 _ anti_dv, dv_tiles]
theorem te_len {l : List T3} : (l.flatMap te).length = 3 * l.length := by
  induction l with
  | nil => rfl
  | cons x l ih =>
    rw [List.flatMap_cons, List.length_append, ih, List.length_cons]
    show 3 + _ = _
    omega
end
theorem ix_back {r : List Sp} {i : Nat} (h : i < r.length) : prIx [rgS r, .int ((i : Int) - 1)] = some (.z, sD (r.getD ((i + r.length - 1) % r.length) z0)) := by
  unfold rgS
  rw [ixl]
  cases i with
  | succ j =>
    have e : ((j + 1 : Nat) : Int) - 1 = (j : Int) := by omega
    have e2 : (j + 1 + r.length - 1) % r.length = j := by
      have : j + 1 + r.length - 1 = j + r.length := by omega
      rw [this, Nat.add_mod_right, Nat.mod_eq_of_lt (by omega)]
    rw [e, at_map (show j < r.length by omega), e2, List.getD_eq_getElem?_getD, List.getElem?_eq_getElem (show j < r.length by omega)]
    rfl
  | zero =>
    have h' : (r.map sD).length = r.length := List.length_map _
    have hlt : r.length - 1 < (r.map sD).length := by omega
    have e3 : (0 + r.length - 1) % r.length = r.length - 1 := by rw [Nat.zero_add, Nat.mod_eq_of_lt (by omega)]
    unfold atI ixN
    rw [if_neg (by omega), if_pos (by omega), h', Option.bind_some]
    have e2 : (((0 : Nat) : Int) - 1 + (r.length : Int)).toNat = r.length - 1 := by omega
    rw [e2, List.getElem?_eq_getElem hlt, List.getElem_map, e3, List.getD_eq_getElem?_getD, List.getElem?_eq_getElem (show r.length - 1 < r.length by omega)]
    rfl
theorem ix_r {r : List Sp} {i : Nat} (h : i < r.length) : prIx [rgS r, .int (i : Int)] = some (.z, sD (r.getD i z0)) := by
  unfold rgS
  rw [ixl, at_map h, List.getD_eq_getElem?_getD, List.getElem?_eq_getElem h]
  rfl
theorem len_r {r : List Sp} : prLen [rgS r] = some (.z, .int r.length) := by
  unfold rgS
  rw [len_list, List.length_map]
theorem rng_map {n : Nat} : rngD 0 n = (List.range n).map kD := by
  apply List.ext_getElem?
  intro i
  by_cases h : i < n
  · rw [rngD_get n 0 i h, List.getElem?_map, List.getElem?_range h, Option.map_some, Int.zero_add]
    rfl
  · rw [List.getElem?_eq_none (by rw [rng_len]; omega), List.getElem?_eq_none (by simpa using h)]
theorem app_s {l m : List Sp} (h : l.length + m.length ≤ 1000) : prAdd [.list (l.map sD), .list (m.map sD)] = some (.u .z, .list ((l ++ m).map sD)) := by
  rw [add_list (by rw [List.length_map, List.length_map]; exact h), List.map_append]
theorem sl_rf {l : List Sp} {t : Nat} (h : t ≤ l.length) : prSl true false [rgS l, .int (t : Int)] = some (.u .z, .list ((l.drop t).map sD)) := sl_sf h
theorem sl_rt {l : List Sp} {t : Nat} (h : t ≤ l.length) : prSl false true [rgS l, .int (t : Int)] = some (.u .z, .list ((l.take t).map sD)) := sl_st h
theorem it_s {l : List Sp} : items (rgS l) = some (l.map sD) := rfl
theorem tsel_ok {ts : List T3} {ks : List Nat} (ht : ∀ t ∈ ts, TOk t) (hk : ∀ j ∈ ks, j < ts.length) : ∀ b ∈ (tsel ts ks).flatMap te, Sht b.1 b.2 ∧ sm8 b.1 := by
  intro b hb
  obtain ⟨t, h1, h2⟩ := List.mem_flatMap.mp hb
  unfold tsel at h1
  obtain ⟨j, hj, rfl⟩ := List.mem_map.mp h1
  have := hk j hj
  have hm : ts.getD j (z0, z0, z0) ∈ ts := by
    rw [List.getD_eq_getElem?_getD, List.getElem?_eq_getElem this]
    exact List.getElem_mem this
  exact ⟨(ht _ hm).1 b h2, (te_sm8 (ht _ hm) h2).1⟩
section
local macro_rules
  | `(tactic| trivial) => `(tactic| simp only [exQ, evE, evA, evT, evI, sees, Mi.plain, hands, backs, add_int, sub_int, sub_bool, mul_int, fdiv_int, mod_int, neg_int, lt_int, le_int, gt_int, ge_int, len_list, len_tup, abs_int, toInt_int, toInt_bool, toList_list, toList_tup, toTuple_list, toTuple_tup, ixl, ixt, it_l, it_t, asg_n, asg_t, asg_l, asg_ul, rev_l, gcd_int, pow_int, isnot_n, isnot_b, binds, getO, rd_z, rd_uz, pr, ix_rD0, ix_rD1, ix_pD0, ix_pD1, ix_qD0, ix_qD1, items_qD, asg_qD, asg_q2, asg_sD, ix_sD0, ix_sD1, at4, at5, at6, ix_q0, ix_q1, it_g, ix_b0, ix_b1, it_r, lp_nil, lpt_nx, lpt_ct, lpt_bk, lpt_rt, eq_pD, ne_rD, is_1, is_2, isi_1, isi_2, isi_3, isi_4, isi_5, isi_6, isi_7, Nat.reduceBEq, nonD_1, nonD_2, nonD_3, nonD_4, nonD_5, nonD_6, nonD_7, blD_1, blD_2, blD_3, blD_4, blD_5, blD_6, blD_7, bt1, bt2, beq_self_eq_true, sto, zd, ud, Option.bind_some, Option.map_some, Option.bind_none, Option.bind_assoc,
      List.map_cons, List.map_nil, List.cons_append, List.nil_append, List.append_nil, List.length_cons, List.length_nil, List.replicate_succ, List.replicate_zero, List.getElem?_cons_zero, List.getElem?_cons_succ, List.set_cons_zero, List.set_cons_succ, List.any_cons, List.any_nil, id, Nat.reduceAdd, Nat.reduceSub, Nat.reduceLT, Nat.reduceLeDiff, Nat.lt_add_one, Nat.reduceEqDiff, Nat.one_ne_zero, if_true, if_false, reduceIte, List.not_mem_nil, List.mem_singleton, outs, decide_true, decide_false, Bool.or_false, Bool.false_or, Bool.or_true, Bool.true_or, Bool.and_true, Bool.true_and, Bool.and_false, Bool.false_and, Bool.not_true, Bool.not_false, Bool.false_eq_true, ok_some, then_nx, then_rt, then_bk, then_ct, done_rt, done_nx, not_true_eq_false, not_false_eq_true, le_size, lt_size, prEq_int, prNe_int, exB_nil, List.isEmpty_nil, List.isEmpty_cons, at0, at1, at2, at3])
section
variable {Gt : Nat → Option Fn} {w k : Nat}
theorem sm_bd {s t : Sp} (h : sm8 s) (g : sm8 t) : Bd 5 (s.1 - t.1) ∧ Bd 5 (s.2 - t.2) := by
  unfold sm8 at h g
  unfold Bd
  have : (2 : Nat) ^ 5 = 32 := by decide
  omega
theorem straight_ok (g : Gt 201 = some F201) {r : List Sp} {i : Nat} (hi : i < r.length) (hs : ∀ s ∈ r, sm8 s) : Ok (callF Gt w (k + 1) 201 [(.z, rgS r), (.z, .int (i : Int))]) (· = ((.z, .bool (sv r i)), [(.z, rgS r), (.z, .int (i : Int))])) := by
  refine ok_def 3 g rfl rfl ?_
  have hm : (i + 1) % r.length < r.length := Nat.mod_lt _ (by omega)
  have hn : ((r.length : Nat) : Int) ≠ 0 := by omega
  have fm : ((i : Int) + 1).fmod ((r.length : Nat) : Int) = (((i + 1) % r.length : Nat) : Int) := by
    rw [Int.fmod_eq_emod_of_nonneg _ (by omega)]
    push_cast
    rfl
  have mem : ∀ j, j < r.length → sm8 (r.getD j z0) := fun j hj => by
    rw [List.getD_eq_getElem?_getD, List.getElem?_eq_getElem hj]
    exact hs _ (List.getElem_mem hj)
  have ha := mem _ (Nat.mod_lt (i + r.length - 1) (show r.length > 0 by omega))
  have hb := mem _ hi
  have hc := mem _ hm
  have s1 := sm_bd hb ha
  have s2 := sm_bd hc hb
  refine ok_seq ?_
  trivial
  rw [ix_back hi]
  trivial
  rw [ix_r hi]
  trivial
  rw [len_r]
  trivial
  rw [if_pos hn]
  trivial
  rw [fm, ix_r hm]
  trivial
  refine ok_seq ?_
  trivial
  rw [if_pos (mulOk_of s1.1 s2.2 (by decide))]
  trivial
  rw [if_pos (mulOk_of s1.2 s2.1 (by decide))]
  trivial
  rfl
end
end
def ph (c0 c1 c2 c3 c4 c5 : Rat) (s : Sp) : Pt := mp c0 c1 c2 c3 c4 c5 (ip s)
theorem sum_take {rs : List (List Sp)} {i : Nat} : ((rs.take i).map List.length).sum ≤ (rs.map List.length).sum := by
    have e : (rs.map List.length).sum = ((rs.take i).map List.length).sum + ((rs.drop i).map List.length).sum := by
      rw [← List.sum_append, ← List.map_append, List.take_append_drop]
    omega
theorem fold_r {r : List Sp} : PyData.list (r.map sD) = rgS r := rfl
section
local macro_rules
  | `(tactic| trivial) => `(tactic| simp only [exQ, evE, evA, evT, evI, sees, Mi.plain, hands, backs, add_int, sub_int, sub_bool, mul_int, fdiv_int, mod_int, neg_int, lt_int, le_int, gt_int, ge_int, len_list, len_tup, abs_int, toInt_int, toInt_bool, toList_list, toList_tup, toTuple_list, toTuple_tup, ixl, ixt, it_l, it_t, asg_n, asg_t, asg_l, asg_ul, rev_l, gcd_int, pow_int, isnot_n, isnot_b, binds, getO, rd_z, rd_uz, pr, ix_rD0, ix_rD1, ix_pD0, ix_pD1, ix_qD0, ix_qD1, items_qD, asg_qD, asg_q2, asg_sD, ix_sD0, ix_sD1, at4, at5, at6, ix_q0, ix_q1, it_g, ix_b0, ix_b1, it_r, lp_nil, lpt_nx, lpt_ct, lpt_bk, lpt_rt, eq_pD, ne_rD, is_1, is_2, isi_1, isi_2, isi_3, isi_4, isi_5, isi_6, isi_7, Nat.reduceBEq, nonD_1, nonD_2, nonD_3, nonD_4, nonD_5, nonD_6, nonD_7, blD_1, blD_2, blD_3, blD_4, blD_5, blD_6, blD_7, bt1, bt2, beq_self_eq_true, sto, zd, ud, Option.bind_some, Option.map_some, Option.bind_none, Option.bind_assoc,
      List.map_cons, List.map_nil, List.cons_append, List.nil_append, List.append_nil, List.length_cons, List.length_nil, List.replicate_succ, List.replicate_zero, List.getElem?_cons_zero, List.getElem?_cons_succ, List.set_cons_zero, List.set_cons_succ, List.any_cons, List.any_nil, id, Nat.reduceAdd, Nat.reduceSub, Nat.reduceLT, Nat.reduceLeDiff, Nat.lt_add_one, Nat.reduceEqDiff, Nat.one_ne_zero, if_true, if_false, reduceIte, List.not_mem_nil, List.mem_singleton, outs, decide_true, decide_false, Bool.or_false, Bool.false_or, Bool.or_true, Bool.true_or, Bool.and_true, Bool.true_and, Bool.and_false, Bool.false_and, Bool.not_true, Bool.not_false, Bool.false_eq_true, ok_some, then_nx, then_rt, then_bk, then_ct, done_rt, done_nx, not_true_eq_false, not_false_eq_true, le_size, lt_size, prEq_int, prNe_int, exB_nil, List.isEmpty_nil, List.isEmpty_cons, at0, at1, at2, at3])
section
variable {Gt : Nat → Option Fn} {w k : Nat}
theorem shape_ok (g14 : Gt 14 = some F14) (g15 : Gt 15 = some F15) (g18 : Gt 18 = some F18) (g143 : Gt 143 = some F143) (g171 : Gt 171 = some F171) (g172 : Gt 172 = some F172) (g174 : Gt 174 = some F174) (g176 : Gt 176 = some F176) (g187 : Gt 187 = some F187) (g201 : Gt 201 = some F201) (g509 : Gt 509 = some F509) (g514 : Gt 514 = some F514) (g : Gt 515 = some F515)
    {ns : List Int} {d : D} {c0 c1 c2 c3 c4 c5 : Rat} {ts : List T3} {ks : List Nat} (hd : PoolOk ns d) (hc : RB 2 c0 ∧ RB 2 c1 ∧ RB 2 c2 ∧ RB 2 c3) (hc2 : RB 22 c4 ∧ RB 22 c5) (ht : ∀ t ∈ ts, TOk t) (hl : ks.length ≤ 18) (hk : ∀ j ∈ ks, j < ts.length) :
    Ok (callF Gt w (k + 6) 515 [(.u .z, d), (.z, chD c0 c1 c2 c3 c4 c5), (.z, .list (ts.map tD)), (.z, .list (ks.map kD))]) (fun x => ∃ (d' : D) (us : List (List Sp)), PoolOk ns d' ∧ Shp (tsel ts ks) us ∧ x = ((.u .z, rsD (us.map (·.map (ph c0 c1 c2 c3 c4 c5)))), [(.u .z, d'), (.z, chD c0 c1 c2 c3 c4 c5), (.z, .list (ts.map tD)), (.z, .list (ks.map kD))])) := by
  refine ok_def 6 g rfl rfl ?_
  refine ok_seq ?_
  trivial
  refine ok_seq ?_
  trivial
  refine ok_bind (rim_ok g509 ht hl hk) ?_
  rintro _ ⟨L, hL, rfl⟩
  have hL54 : L.length ≤ 54 := by
    have h1 := hL.2.2.2
    rw [te_len] at h1
    unfold tsel at h1
    rw [List.length_map] at h1
    omega
  trivial
  refine ok_bind (rings_ok g514 (Nat.le_trans hL54 (by decide)) (rim_closed hL)) ?_
  rintro _ ⟨rs, hR, rfl⟩
  have hE := tsel_ok ht hk
  have hsum : (rs.map List.length).sum ≤ 54 := by
    have := hR.2.2.2
    simp at this
    omega
  have hrl := len_sum hR.2.1
  trivial
  refine ok_loop (fun i ρ => ∃ (d : D) (us : List (List Sp)) (x5 x6 x7 : Option SD), PoolOk ns d ∧ us.length = i ∧ (∀ q ∈ us, q ≠ [] ∧ ∀ s ∈ q, sm8 s) ∧ (us.map List.length).sum ≤ ((rs.take i).map List.length).sum ∧ (∀ G, Adds G → sm (rsum G) us = sm (rsum G) (rs.take i)) ∧ ρ = [some (.u .z, d), some (.z, chD c0 c1 c2 c3 c4 c5), some (.z, .list (ts.map tD)), some (.z, .list (ks.map kD)), some (.u .z, .list ((us.map (·.map (ph c0 c1 c2 c3 c4 c5))).map gD)), x5, x6, x7, none, none]) ⟨d, [], _, _, _, hd, rfl, by simp, by simp, fun G _ => rfl, rfl⟩ ?_ ?_
  · rintro i dd ρ he ⟨d, us, x5, x6, x7, hd, hul, hu, hus, hug, rfl⟩
    rw [List.getElem?_map, Option.map_eq_some_iff] at he
    obtain ⟨r, hr, rfl⟩ := he
    have hrm := List.mem_of_getElem? hr
    have hi := (List.getElem?_eq_some_iff.mp hr).1
    have hg := gr_of hL hE (hR.2.1 r hrm)
    obtain ⟨hg1, hg3, hg4, hgs⟩ := id hg
    have hr54 : r.length ≤ 54 := by
      have e : ((rs.take (i + 1)).map List.length).sum = ((rs.take i).map List.length).sum + r.length := by
        rw [take_snoc hr, List.map_append, List.sum_append]
        simp
      have := sum_take (rs := rs) (i := i + 1)
      omega
    trivial
    refine ok_seq ?_
    trivial
    refine ok_seq (Ok.mono (P := fun x => ∃ (d : D) (q : List Sp) (s6 : S), PoolOk ns d ∧ q ≠ [] ∧ (∀ s ∈ q, sm8 s) ∧ q.length ≤ r.length ∧ (∀ G, Adds G → rsum G q = rsum G r) ∧ (s6 = .z ∨ s6 = .u .z) ∧ x = (.nx, [some (.u .z, d), some (.z, chD c0 c1 c2 c3 c4 c5), some (.z, .list (ts.map tD)), some (.z, .list (ks.map kD)), some (.u .z, .list ((us.map (·.map (ph c0 c1 c2 c3 c4 c5))).map gD)), some (.z, rgS r), some (s6, rgS q), x7, none, none])) ?_ ?_)
    · trivial
      refine ok_bind (draw_ok g14 g15 g18 hd (show (0 : Int) < 3 by decide) (bd_of (by decide) (by decide))) ?_
      rintro _ ⟨d1, v, hd1, _, _, rfl⟩
      trivial
      cases decide (0 < v)
      · trivial
        exact ⟨d1, r, .z, hd1, by intro e; rw [e] at hg3; simp at hg3, hgs, Nat.le_refl _, fun _ _ => rfl, .inl rfl, rfl⟩
      · trivial
        refine ok_seq ?_
        trivial
        rw [len_r]
        trivial
        rw [if_pos (big_nat (by omega))]
        trivial
        simp only [plainAt, List.all_cons, List.all_nil, getO]
        trivial
        simp only [noneAt]
        trivial
        rw [Int.toNat_natCast, rng_map]
        refine ok_bind (turns_fm (e := kD) (m := fun i => sD (r.getD i z0)) (f := fun i => !sv r i) (List.range r.length) [] (by simp only [List.length_nil, List.length_range]; exact Nat.le_trans (show 0 + r.length ≤ 54 by omega) (by decide)) ?_) ?_
        · intro j hj
          have hj := List.mem_range.mp hj
          rw [show kD j = .int (j : Int) from rfl]
          trivial
          refine ok_bind (straight_ok g201 hj hgs) ?_
          rintro _ rfl
          trivial
          simp only [noneAt]
          trivial
          rw [ix_r hj]
          trivial
          simp
        rintro _ rfl
        simp only [restore, getO]
        trivial
        refine ⟨d1, keep r, .u .z, hd1, keep_ne hg, fun s hs => hgs s (keep_mem hs), keep_len, fun G hG => keep_rsum hg hG, .inr rfl, ?_⟩
        have ek : ((List.range r.length).filter fun i => !sv r i).map (fun i => sD (r.getD i z0)) = (keep r).map sD := by
          unfold keep
          rw [List.map_map]
          rfl
        rw [ek]
        rfl
    · rintro _ ⟨d, q, s6, hd, hq0, hqs, hql, hqg, h6, rfl⟩
      have hqp : 0 < q.length := List.length_pos_iff.mpr hq0
      trivial
      rcases h6 with rfl | rfl
      all_goals
        refine ok_seq ?_
        trivial
        rw [len_r]
        trivial
        refine ok_bind (draw_ok g14 g15 g18 hd (show (0 : Int) < (q.length : Int) by omega) (Bd.mono (a := 64) (by unfold Bd; rw [Int.natAbs_natCast]; exact Nat.lt_of_le_of_lt (show q.length ≤ 54 by omega) (by decide)) (by decide))) ?_
        rintro _ ⟨d2, t, hd2, ht0, ht1, rfl⟩
        obtain ⟨t, rfl⟩ := Int.eq_ofNat_of_zero_le ht0
        have htq : t ≤ q.length := by omega
        trivial
        refine ok_seq ?_
        trivial
        rw [sl_rf htq]
        trivial
        rw [sl_rt htq]
        trivial
        rw [app_s (by rw [List.length_drop, List.length_take]; omega)]
        trivial
        simp only [plainAt, List.all_cons, List.all_nil, getO]
        trivial
        simp only [noneAt]
        trivial
        refine ok_bind (turns_fm (e := sD) (m := fun s => pD (ph c0 c1 c2 c3 c4 c5 s)) (f := fun _ => true) (q.drop t ++ q.take t) [] (by rw [List.length_append, List.length_drop, List.length_take, List.length_nil]; exact Nat.le_trans (show 0 + (q.length - t + min t q.length) ≤ 54 by omega) (by decide)) ?_) ?_
        · intro s hs
          have hs8 : sm8 s := by
            rcases List.mem_append.mp hs with h | h
            · exact hqs s (List.mem_of_mem_drop h)
            · exact hqs s (List.mem_of_mem_take h)
          trivial
          refine ⟨True.intro, ?_, fun _ => ?_⟩
          · simp only [noneAt]
            trivial
          refine ok_bind (mapped_ok g143 g171 g172 g174 g176 g187 hc.1 hc.2.1 hc.2.2.1 hc.2.2.2 hc2.1 hc2.2 hs8) ?_
          rintro _ rfl
          trivial
          simp only [noneAt]
          trivial
          exact ⟨rfl, True.intro⟩
        rintro _ rfl
        simp only [restore, getO]
        trivial
        rw [mu_app (by rw [List.length_map, List.length_map]; omega)]
        trivial
        have ek : (us.map (·.map (ph c0 c1 c2 c3 c4 c5))).map gD ++ [PyData.list (((q.drop t ++ q.take t).filter fun _ => true).map fun s => pD (ph c0 c1 c2 c3 c4 c5 s))] = ((us ++ [q.drop t ++ q.take t]).map (·.map (ph c0 c1 c2 c3 c4 c5))).map gD := by
          rw [List.map_append, List.map_append, List.filter_eq_self.mpr (by simp)]
          congr 1
          simp only [List.map_cons, List.map_nil, gD, List.map_map]
          rfl
        rw [ek]
        refine ⟨d2, us ++ [q.drop t ++ q.take t], _, _, _, hd2, by simp [hul], ?_, ?_, ?_, rfl⟩
        · intro z hz
          rcases List.mem_append.mp hz with h | h
          · exact hu z h
          · rw [List.mem_singleton.mp h]
            refine ⟨fun e => ?_, fun s hs => ?_⟩
            · have := congrArg List.length e
              rw [List.length_append, List.length_drop, List.length_take, List.length_nil] at this
              omega
            · rcases List.mem_append.mp hs with h | h
              · exact hqs s (List.mem_of_mem_drop h)
              · exact hqs s (List.mem_of_mem_take h)
        · rw [take_snoc hr, List.map_append, List.map_append, List.sum_append, List.sum_append]
          simp only [List.map_cons, List.map_nil, List.sum_cons, List.sum_nil, List.length_append, List.length_drop, List.length_take]
          omega
        · intro G hG
          rw [take_snoc hr, sm_app, sm_app, hug G hG, sm_one, sm_one, ← rsum_rot, List.take_append_drop, hqg G hG]
  · rintro ρ ⟨d, us, x5, x6, x7, hd, hul, hu, hus, hug, rfl⟩
    trivial
    refine ok_seq ?_
    trivial
    have el : (rs.map rgS).length = rs.length := List.length_map _
    refine ⟨d, us, hd, ⟨hu, ?_, fun G h1 h2 => ?_⟩, rfl⟩
    · have := sum_take (rs := rs) (i := (rs.map rgS).length)
      omega
    · rw [hug G h2, el, List.take_length]
      have e1 := hR.1 G h1
      have e2 := hL.1 G h1
      simp only [sm] at e1
      grind
end
end
section
/-! ### numbers over one denominator -/
def Sz (M B : Nat) (r : Rat) : Prop := ∃ z : Int, r * ((M : Int) : Rat) = (z : Rat) ∧ z.natAbs ≤ B
theorem Sz.le {M B C : Nat} {r : Rat} (h : Sz M B r) (l : B ≤ C) : Sz M C r := by
  obtain ⟨z, e, b⟩ := h
  exact ⟨z, e, Nat.le_trans b l⟩
theorem Sz.add {M B C : Nat} {r s : Rat} (h : Sz M B r) (g : Sz M C s) : Sz M (B + C) (r + s) := by
  obtain ⟨z, e, b⟩ := h
  obtain ⟨y, f, c⟩ := g
  refine ⟨z + y, ?_, by omega⟩
  rw [Rat.intCast_add, ← e, ← f]
  grind
theorem Sz.neg {M B : Nat} {r : Rat} (h : Sz M B r) : Sz M B (-r) := by
  obtain ⟨z, e, b⟩ := h
  refine ⟨-z, ?_, by omega⟩
  rw [Rat.intCast_neg, ← e]
  grind
theorem Sz.sub {M B C : Nat} {r s : Rat} (h : Sz M B r) (g : Sz M C s) : Sz M (B + C) (r - s) := by
  rw [Rat.sub_eq_add_neg]
  exact h.add g.neg
theorem Sz.mul {M N B C : Nat} {r s : Rat} (h : Sz M B r) (g : Sz N C s) : Sz (M * N) (B * C) (r * s) := by
  obtain ⟨z, e, b⟩ := h
  obtain ⟨y, f, c⟩ := g
  refine ⟨z * y, ?_, by rw [Int.natAbs_mul]; exact Nat.mul_le_mul b c⟩
  rw [Rat.intCast_mul, ← e, ← f, Int.natCast_mul, Rat.intCast_mul]
  grind
theorem sz_int {i : Int} {B : Nat} (h : i.natAbs ≤ B) : Sz 1 B (i : Rat) := ⟨i, by show (i : Rat) * ((1 : Int) : Rat) = _; grind, h⟩
theorem Sz.up {M B : Nat} {r : Rat} (h : Sz M B r) (K : Nat) : Sz (M * K) (B * K) r := by
  obtain ⟨z, e, b⟩ := h
  refine ⟨z * K, ?_, by rw [Int.natAbs_mul, Int.natAbs_natCast]; exact Nat.mul_le_mul_right K b⟩
  rw [Rat.intCast_mul, ← e, Int.natCast_mul, Rat.intCast_mul]
  grind
theorem Sz.rb {M B b : Nat} {r : Rat} (h : Sz M B r) (h0 : 0 < M) (hB : B < 2 ^ b) (hM : M < 2 ^ b) : RB b r := by
  obtain ⟨z, e, c⟩ := h
  have hm : (M : Int) ≠ 0 := by omega
  have hq : ((M : Int) : Rat) ≠ 0 := fun e => hm (Rat.intCast_eq_zero_iff.mp e)
  have er : r = Rat.divInt z M := by
    rw [Rat.divInt_eq_div, ← e]
    grind
  rw [er]
  exact RB.divInt hm (Nat.lt_of_le_of_lt c hB) (by unfold Bd; rw [Int.natAbs_natCast]; exact hM)
theorem sz_rb {a : Nat} {r : Rat} (h : RB a r) : Sz r.den (2 ^ a) r := by
  refine ⟨r.num, ?_, Nat.le_of_lt h.1⟩
  have e := divInt_den r
  rw [Rat.divInt_eq_div] at e
  have hq : ((r.den : Int) : Rat) ≠ 0 := fun e => den_ne r (Rat.intCast_eq_zero_iff.mp e)
  have e2 : r * ((r.den : Int) : Rat) = (r.num : Rat) / ((r.den : Int) : Rat) * ((r.den : Int) : Rat) := by rw [e]
  rw [e2]
  grind
theorem common {a : Nat} : ∀ (l : List Rat), (∀ r ∈ l, RB a r) → ∃ N : Nat, 0 < N ∧ N ≤ 2 ^ (a * l.length) ∧ ∀ r ∈ l, Sz N (2 ^ (a * l.length)) r
  | [], _ => ⟨1, by decide, by simp, by simp⟩
  | r :: t, h => by
    obtain ⟨N, h0, hN, hs⟩ := common t fun x hx => h x (List.mem_cons_of_mem _ hx)
    have hr := h r (by simp)
    have hd : r.den ≤ 2 ^ a := by
      have := hr.2
      unfold Bd at this
      rw [Int.natAbs_natCast] at this
      omega
    have ep : 2 ^ (a * (t.length + 1)) = 2 ^ (a * t.length) * 2 ^ a := by rw [Nat.mul_add, Nat.mul_one, Nat.pow_add]
    refine ⟨N * r.den, Nat.mul_pos h0 r.den_pos, ?_, ?_⟩
    · rw [List.length_cons, ep]
      exact Nat.mul_le_mul hN hd
    · intro x hx
      rw [List.length_cons, ep]
      rcases List.mem_cons.mp hx with rfl | hx
      · have := (sz_rb hr).up N
        rw [Nat.mul_comm x.den N] at this
        refine this.le ?_
        rw [Nat.mul_comm]
        exact Nat.mul_le_mul hN (Nat.le_refl _)
      · exact ((hs x hx).up r.den).le (Nat.mul_le_mul (Nat.le_refl _) hd)
/-! ### the moments of a piece and of a triangle -/
def dbl (a b : Pt) : Rat := a.1 * b.2 - a.2 * b.1
def prt (i : Nat) (a b : Pt) : Rat := match i with
  | 0 => 1
  | 1 => a.1 + b.1
  | 2 => a.2 + b.2
  | 3 => a.1 * a.1 + a.1 * b.1 + b.1 * b.1
  | 4 => 2 * (a.1 * a.2) + a.1 * b.2 + b.1 * a.2 + 2 * (b.1 * b.2)
  | _ => a.2 * a.2 + a.2 * b.2 + b.2 * b.2
def byn (i : Nat) : Int := match i with
  | 0 => 2
  | 1 => 6
  | 2 => 6
  | 3 => 12
  | 4 => 24
  | _ => 12
def mm (i : Nat) (a b : Pt) : Rat := dbl a b * (prt i a b * Rat.divInt 1 (byn i))
def trp (i : Nat) (a b c : Pt) : Rat := match i with
  | 0 => 1
  | 1 => (a.1 + b.1 + c.1) / 3
  | 2 => (a.2 + b.2 + c.2) / 3
  | 3 => ((a.1 + b.1 + c.1) * (a.1 + b.1 + c.1) + (a.1 * a.1 + b.1 * b.1 + c.1 * c.1)) / 12
  | 4 => ((a.1 + b.1 + c.1) * (a.2 + b.2 + c.2) + (a.1 * a.2 + b.1 * b.2 + c.1 * c.2)) / 12
  | _ => ((a.2 + b.2 + c.2) * (a.2 + b.2 + c.2) + (a.2 * a.2 + b.2 * b.2 + c.2 * c.2)) / 12
def tri (i : Nat) (a b c : Pt) : Rat := cr a b c / 2 * trp i a b c
theorem by_div : ∀ i, Rat.divInt 1 (byn i) = 1 / ((byn i : Int) : Rat) := fun i => by
  rw [Rat.divInt_eq_div]
  rfl
theorem mm_anti {i : Nat} {a b : Pt} : mm i b a = -mm i a b := by
  have e1 : dbl b a = -dbl a b := by unfold dbl; grind
  have e2 : prt i b a = prt i a b := by
    match i with
    | 0 => rfl
    | 1 => simp only [prt]; grind
    | 2 => simp only [prt]; grind
    | 3 => simp only [prt]; grind
    | 4 => simp only [prt]; grind
    | i + 5 => simp only [prt]; grind
  unfold mm
  rw [e1, e2]
  grind
theorem tri_mm {i : Nat} {a b c : Pt} : tri i a b c = mm i c a + (mm i a b + mm i b c) := by
  obtain ⟨a1, a2⟩ := a
  obtain ⟨b1, b2⟩ := b
  obtain ⟨c1, c2⟩ := c
  unfold tri mm
  rw [by_div]
  match i with
  | 0 => simp only [cr, trp, dbl, prt, byn]; grind
  | 1 => simp only [cr, trp, dbl, prt, byn]; grind
  | 2 => simp only [cr, trp, dbl, prt, byn]; grind
  | 3 => simp only [cr, trp, dbl, prt, byn]; grind
  | 4 => simp only [cr, trp, dbl, prt, byn]; grind
  | i + 5 => simp only [cr, trp, dbl, prt, byn]; grind
theorem cr_far {P V : Pt} {t u : Rat} : cr P (P.1 + t * V.1, P.2 + t * V.2) (P.1 + u * V.1, P.2 + u * V.2) = 0 := by
  unfold cr
  simp only
  grind
theorem mm_adds {i : Nat} {c0 c1 c2 c3 c4 c5 : Rat} : Adds fun s t => mm i (ph c0 c1 c2 c3 c4 c5 s) (ph c0 c1 c2 c3 c4 c5 t) := by
  intro a d t
  have e : ∀ t : Int, ph c0 c1 c2 c3 c4 c5 (far a d t) = ((ph c0 c1 c2 c3 c4 c5 a).1 + (t : Rat) * (c0 * (d.1 : Rat) + c1 * (d.2 : Rat)), (ph c0 c1 c2 c3 c4 c5 a).2 + (t : Rat) * (c2 * (d.1 : Rat) + c3 * (d.2 : Rat))) := by
    intro t
    unfold ph mp ip far
    simp only [fsum3, Rat.intCast_add, Rat.intCast_mul]
    refine Prod.ext ?_ ?_ <;> simp only <;> grind
  have h := tri_mm (i := i) (a := ph c0 c1 c2 c3 c4 c5 a) (b := ph c0 c1 c2 c3 c4 c5 (far a d t)) (c := ph c0 c1 c2 c3 c4 c5 (far a d (t + 1)))
  have hz : cr (ph c0 c1 c2 c3 c4 c5 a) (ph c0 c1 c2 c3 c4 c5 (far a d t)) (ph c0 c1 c2 c3 c4 c5 (far a d (t + 1))) = 0 := by
    rw [e, e]
    exact cr_far (V := (c0 * (d.1 : Rat) + c1 * (d.2 : Rat), c2 * (d.1 : Rat) + c3 * (d.2 : Rat)))
  have ha := mm_anti (i := i) (a := ph c0 c1 c2 c3 c4 c5 a) (b := ph c0 c1 c2 c3 c4 c5 (far a d (t + 1)))
  unfold tri at h
  rw [hz, ha] at h
  simp only
  grind
/-- the sums over the shape's pieces are the sums over the tiles -/
def tsum (i : Nat) (f : Sp → Pt) (ts : List T3) : Rat := sm (fun t => tri i (f t.1) (f t.2.1) (f t.2.2)) ts
theorem tsum_te {i : Nat} {f : Sp → Pt} {ts : List T3} : tsum i f ts = sm (G2 fun s t => mm i (f s) (f t)) (ts.flatMap te) := by
  rw [sm_flat]
  unfold tsum
  refine sm_congr fun t _ => ?_
  unfold te
  simp only [sm, G2, tri_mm]
  grind
theorem pcs_rd {f : Sp → Pt} {r : List Sp} : pcs (r.map f) = (rd0 r).map fun b => (f b.1, f b.2) := by
  unfold pcs rd0
  rw [List.map_map, List.length_map]
  refine List.map_congr_left fun i hi => ?_
  have hi := List.mem_range.mp hi
  have hj : (i + 1) % r.length < r.length := Nat.mod_lt _ (by omega)
  unfold pc
  simp only [Function.comp, List.length_map, List.getD_eq_getElem?_getD, List.getElem?_map]
  rw [List.getElem?_eq_getElem hi, List.getElem?_eq_getElem hj]
  rfl
def psum (i : Nat) (rs : List (List Pt)) : Rat := sm (fun z => mm i z.1 z.2) (rs.flatMap pcs)
theorem psum_rs {i : Nat} {f : Sp → Pt} {us : List (List Sp)} : psum i (us.map (·.map f)) = sm (rsum fun s t => mm i (f s) (f t)) us := by
  unfold psum
  rw [sm_flat, sm_map]
  refine sm_congr fun r _ => ?_
  rw [pcs_rd, sm_map, rsum_rd]
  rfl
theorem psum_tsum {i : Nat} {c0 c1 c2 c3 c4 c5 : Rat} {ts : List T3} {us : List (List Sp)} (h : Shp ts us) : psum i (us.map (·.map (ph c0 c1 c2 c3 c4 c5))) = tsum i (ph c0 c1 c2 c3 c4 c5) ts := by
  rw [psum_rs, tsum_te, h.2.2 _ (fun p q => mm_anti) mm_adds]
/-! ### their sizes -/
theorem fsum3b {a b c : Rat} : fsum [a, b, c] = a + b + c := fsum3
theorem ph_sz {N : Nat} {c0 c1 c2 c3 c4 c5 : Rat} {B : Nat} (h : ∀ r ∈ [c0, c1, c2, c3, c4, c5], Sz N B r) {s : Sp} (hs : sm8 s) : Sz N (B * 17) (ph c0 c1 c2 c3 c4 c5 s).1 ∧ Sz N (B * 17) (ph c0 c1 c2 c3 c4 c5 s).2 := by
  have i1 : Sz 1 8 ((s.1 : Int) : Rat) := sz_int (Nat.le_of_lt hs.1)
  have i2 : Sz 1 8 ((s.2 : Int) : Rat) := sz_int (Nat.le_of_lt hs.2)
  have e : B * 8 + B * 8 + B = B * 17 := by omega
  have m1 : N * 1 = N := Nat.mul_one N
  have key : ∀ a b c : Rat, Sz N B a → Sz N B b → Sz N B c → Sz N (B * 17) (fsum [a * (s.1 : Rat), b * (s.2 : Rat), c]) := fun a b c ha hb hc => by
    have x := ha.mul i1
    have y := hb.mul i2
    rw [m1] at x y
    rw [fsum3, ← e]
    exact (x.add y).add hc
  exact ⟨key _ _ _ (h c0 (by simp)) (h c1 (by simp)) (h c4 (by simp)), key _ _ _ (h c2 (by simp)) (h c3 (by simp)) (h c5 (by simp))⟩
theorem mm_sz {N : Nat} {a b : Pt} {B C : Nat} (i : Nat) (hi : i < 6) (ha : Sz N B a.1 ∧ Sz N B a.2) (hb : Sz N B b.1 ∧ Sz N B b.2) (h1 : N * N ≤ C) (h2 : 2 * B * N ≤ C) (h3 : 6 * (B * B) ≤ C) : Sz (N * N * (N * N * 24)) (C * (C * 12)) (mm i a b) := by
  have q : ∀ x y : Rat, Sz N B x → Sz N B y → Sz (N * N) (B * B) (x * y) := fun x y hx hy => hx.mul hy
  have d : Sz (N * N) C (dbl a b) := ((q _ _ ha.1 hb.2).sub (q _ _ ha.2 hb.1)).le (by omega)
  have one : ∀ x y : Rat, Sz N B x → Sz N B y → Sz (N * N) C (x + y) := fun x y hx hy => ((hx.add hy).up N).le (by rw [show B + B = 2 * B by omega]; exact h2)
  have two : Sz 1 2 (2 : Rat) := sz_int (i := 2) (by decide)
  have dou : ∀ x : Rat, Sz (N * N) (B * B) x → Sz (N * N) (2 * (B * B)) (2 * x) := fun x hx => by
    have := two.mul hx
    rw [Nat.one_mul] at this
    exact this
  have p : Sz (N * N) C (prt i a b) := by
    match i, hi with
    | 0, _ =>
      have := (sz_int (i := 1) (B := 1) (by decide)).up (N * N)
      rw [Nat.one_mul] at this
      exact this.le h1
    | 1, _ => exact one _ _ ha.1 hb.1
    | 2, _ => exact one _ _ ha.2 hb.2
    | 3, _ => exact (((q _ _ ha.1 ha.1).add (q _ _ ha.1 hb.1)).add (q _ _ hb.1 hb.1)).le (by omega)
    | 4, _ => exact ((((dou _ (q _ _ ha.1 ha.2)).add (q _ _ ha.1 hb.2)).add (q _ _ hb.1 ha.2)).add (dou _ (q _ _ hb.1 hb.2))).le (by omega)
    | 5, _ => exact (((q _ _ ha.2 ha.2).add (q _ _ ha.2 hb.2)).add (q _ _ hb.2 hb.2)).le (by omega)
  have f : Sz 24 12 (Rat.divInt 1 (byn i)) := by
    rw [by_div]
    match i, hi with
    | 0, _ => exact ⟨12, by simp only [byn]; grind, by decide⟩
    | 1, _ => exact ⟨4, by simp only [byn]; grind, by decide⟩
    | 2, _ => exact ⟨4, by simp only [byn]; grind, by decide⟩
    | 3, _ => exact ⟨2, by simp only [byn]; grind, by decide⟩
    | 4, _ => exact ⟨1, by simp only [byn]; grind, by decide⟩
    | 5, _ => exact ⟨2, by simp only [byn]; grind, by decide⟩
  exact d.mul (p.mul f)
theorem sm_sz {α : Type} {f : α → Rat} {M B : Nat} : ∀ {l : List α}, (∀ x ∈ l, Sz M B (f x)) → Sz M (l.length * B) (sm f l)
  | [], _ => ⟨0, by simp only [sm]; grind, by simp⟩
  | x :: l, h => by
    have := (h x (by simp)).add (sm_sz (f := f) (l := l) fun y hy => h y (List.mem_cons_of_mem _ hy))
    simp only [sm]
    refine this.le ?_
    rw [List.length_cons, Nat.add_mul, Nat.one_mul]
    omega
end
theorem asg_pD {l : List Nat} {p : Pt} {ρ : Ev} : asg (.tp l) (.z, pD p) ρ = binds ρ l [rD p.1, rD p.2] := rfl
theorem sizes {c0 c1 c2 c3 c4 c5 : Rat} (h : RB 2 c0 ∧ RB 2 c1 ∧ RB 2 c2 ∧ RB 2 c3) (h2 : RB 22 c4 ∧ RB 22 c5) :
    ∃ M B : Nat, 0 < M ∧ M < 2 ^ 250 ∧ 60 * B < 2 ^ 250 ∧ ∀ i, i < 6 → ∀ s t, sm8 s → sm8 t → Sz M B (mm i (ph c0 c1 c2 c3 c4 c5 s) (ph c0 c1 c2 c3 c4 c5 t)) := by
  obtain ⟨N, n0, n1, n2⟩ := common (a := 2) [c0, c1, c2, c3] (by
    intro r hr
    simp only [List.mem_cons, List.not_mem_nil, or_false] at hr
    rcases hr with rfl | rfl | rfl | rfl
    · exact h.1
    · exact h.2.1
    · exact h.2.2.1
    · exact h.2.2.2)
  obtain ⟨K, k0, k1, k2⟩ := common (a := 22) [c4, c5] (by
    intro r hr
    simp only [List.mem_cons, List.not_mem_nil, or_false] at hr
    rcases hr with rfl | rfl
    · exact h2.1
    · exact h2.2)
  have e8 : 2 * [c0, c1, c2, c3].length = 8 := rfl
  have e44 : 22 * [c4, c5].length = 44 := rfl
  rw [e8] at n1 n2
  rw [e44] at k1 k2
  have a1 : ∀ r, Sz N (2 ^ 8) r → Sz (N * K) (2 ^ 52) r := fun r hr => (hr.up K).le (Nat.le_trans (Nat.mul_le_mul (Nat.le_refl _) k1) (by decide +kernel))
  have a2 : ∀ r, Sz K (2 ^ 44) r → Sz (N * K) (2 ^ 52) r := fun r hr => by
    have := hr.up N
    rw [Nat.mul_comm K N] at this
    exact this.le (Nat.le_trans (Nat.mul_le_mul (Nat.le_refl _) n1) (by decide +kernel))
  have all : ∀ r ∈ [c0, c1, c2, c3, c4, c5], Sz (N * K) (2 ^ 52) r := fun r hr => by
    simp only [List.mem_cons, List.not_mem_nil, or_false] at hr
    rcases hr with rfl | rfl | rfl | rfl | rfl | rfl
    · exact a1 _ (n2 _ (by simp))
    · exact a1 _ (n2 _ (by simp))
    · exact a1 _ (n2 _ (by simp))
    · exact a1 _ (n2 _ (by simp))
    · exact a2 _ (k2 _ (by simp))
    · exact a2 _ (k2 _ (by simp))
  have hN : N * K ≤ 2 ^ 52 := Nat.le_trans (Nat.mul_le_mul n1 k1) (by decide +kernel)
  have h0 : 0 < N * K := Nat.mul_pos n0 k0
  generalize N * K = N at all hN h0
  have nn : N * N ≤ 2 ^ 52 * 2 ^ 52 := Nat.mul_le_mul hN hN
  refine ⟨N * N * (N * N * 24), 2 ^ 116 * (2 ^ 116 * 12), Nat.mul_pos (Nat.mul_pos h0 h0) (Nat.mul_pos (Nat.mul_pos h0 h0) (by decide)), ?_, by decide +kernel, ?_⟩
  · exact Nat.lt_of_le_of_lt (Nat.mul_le_mul nn (Nat.mul_le_mul nn (Nat.le_refl 24))) (by decide +kernel)
  · intro i hi s t hs ht
    refine mm_sz i hi (ph_sz all hs) (ph_sz all ht) (Nat.le_trans nn (by decide +kernel)) ?_ (by decide +kernel)
    exact Nat.le_trans (Nat.mul_le_mul (Nat.le_refl _) hN) (by decide +kernel)
theorem sm_rb {α : Type} {f : α → Rat} {M B : Nat} {l : List α} (h0 : 0 < M) (hM : M < 2 ^ 250) (hB : 60 * B < 2 ^ 250) (hl : l.length ≤ 60) (h : ∀ x ∈ l, Sz M B (f x)) : RB 250 (sm f l) :=
  (sm_sz h).rb h0 (Nat.lt_of_le_of_lt (Nat.mul_le_mul_right B hl) hB) hM
def sixL (f : Nat → Rat) : List D := (List.range 6).map fun i => rD (f i)
theorem fsum4 {a b c d : Rat} : fsum [a, b, c, d] = a + b + c + d := by
  unfold fsum
  simp only [List.foldl_cons, List.foldl_nil]
  grind
theorem rb_two : RB 2 (2 : Rat) := by unfold RB Bd; decide +kernel
theorem prt_rb {i : Nat} {a b : Pt} (ha : PB 34 a) (hb : PB 34 b) : RB 300 (prt i a b) := by
  match i with
  | 0 => exact rb_one (by decide)
  | 1 => exact (ha.1.add hb.1).mono (by decide)
  | 2 => exact (ha.2.add hb.2).mono (by decide)
  | 3 => exact (((ha.1.mul ha.1).add (ha.1.mul hb.1)).add (hb.1.mul hb.1)).mono (by decide)
  | 4 => exact ((((rb_two.mul (ha.1.mul ha.2)).add (ha.1.mul hb.2)).add (hb.1.mul ha.2)).add (rb_two.mul (hb.1.mul hb.2))).mono (by decide)
  | i + 5 => exact (((ha.2.mul ha.2).add (ha.2.mul hb.2)).add (hb.2.mul hb.2)).mono (by decide)
theorem byn_ok (i : Nat) : byn i ≠ 0 ∧ Bd 5 (byn i) := by
  unfold byn Bd
  match i with
  | 0 => decide
  | 1 => decide
  | 2 => decide
  | 3 => decide
  | 4 => decide
  | i + 5 => exact ⟨(by decide : (12 : Int) ≠ 0), (by decide : (12 : Int).natAbs < 2 ^ 5)⟩
theorem mm_rb {i : Nat} {a b : Pt} (ha : PB 34 a) (hb : PB 34 b) : RB 600 (mm i a b) := by
  have hd : RB 137 (dbl a b) := (((ha.1.mul hb.2).sub (ha.2.mul hb.1))).mono (by decide)
  have hf : RB 5 (Rat.divInt 1 (byn i)) := RB.divInt (byn_ok i).1 (bd_of (by decide) (by decide)) (byn_ok i).2
  exact (hd.mul ((prt_rb ha hb).mul hf)).mono (by decide)
section
local macro_rules
  | `(tactic| trivial) => `(tactic| simp only [exQ, evE, evA, evT, evI, sees, Mi.plain, hands, backs, add_int, sub_int, sub_bool, mul_int, fdiv_int, mod_int, neg_int, lt_int, le_int, gt_int, ge_int, len_list, len_tup, abs_int, toInt_int, toInt_bool, toList_list, toList_tup, toTuple_list, toTuple_tup, ixl, ixt, it_l, it_t, asg_n, asg_t, asg_l, asg_ul, rev_l, gcd_int, pow_int, isnot_n, isnot_b, binds, getO, rd_z, rd_uz, pr, ix_rD0, ix_rD1, ix_pD0, ix_pD1, ix_qD0, ix_qD1, items_qD, asg_qD, asg_q2, asg_sD, asg_pD, ix_sD0, ix_sD1, at4, at5, at6, ix_q0, ix_q1, it_g, ix_b0, ix_b1, it_r, lp_nil, lpt_nx, lpt_ct, lpt_bk, lpt_rt, eq_pD, ne_rD, is_1, is_2, isi_1, isi_2, isi_3, isi_4, isi_5, isi_6, isi_7, Nat.reduceBEq, nonD_1, nonD_2, nonD_3, nonD_4, nonD_5, nonD_6, nonD_7, blD_1, blD_2, blD_3, blD_4, blD_5, blD_6, blD_7, bt1, bt2, beq_self_eq_true, sto, zd, ud, Option.bind_some, Option.map_some, Option.bind_none, Option.bind_assoc,
      List.map_cons, List.map_nil, List.cons_append, List.nil_append, List.append_nil, List.length_cons, List.length_nil, List.replicate_succ, List.replicate_zero, List.getElem?_cons_zero, List.getElem?_cons_succ, List.set_cons_zero, List.set_cons_succ, List.any_cons, List.any_nil, id, Nat.reduceAdd, Nat.reduceSub, Nat.reduceLT, Nat.reduceLeDiff, Nat.lt_add_one, Nat.reduceEqDiff, Nat.one_ne_zero, if_true, if_false, reduceIte, List.not_mem_nil, List.mem_singleton, outs, decide_true, decide_false, Bool.or_false, Bool.false_or, Bool.or_true, Bool.true_or, Bool.and_true, Bool.true_and, Bool.and_false, Bool.false_and, Bool.not_true, Bool.not_false, Bool.false_eq_true, ok_some, then_nx, then_rt, then_bk, then_ct, done_rt, done_nx, not_true_eq_false, not_false_eq_true, le_size, lt_size, prEq_int, prNe_int, exB_nil, List.isEmpty_nil, List.isEmpty_cons, at0, at1, at2, at3])
section
variable {Gt : Nat → Option Fn} {w k : Nat}
theorem all_ok (g162 : Gt 162 = some F162) (g : Gt 422 = some F422) {rs : List (List Pt)} (h1 : ∀ r ∈ rs, r.length ≤ 100) (h2 : (rs.flatMap pcs).length ≤ 100) : Ok (callF Gt w (k + 2) 422 [(.z, rsD rs)]) (· = ((.u .z, .list ((rs.flatMap pcs).map q2)), [(.z, rsD rs)])) := by
  refine ok_def 2 g rfl rfl ?_
  refine ok_seq ?_
  trivial
  simp only [plainAt, List.all_cons, List.all_nil, getO]
  trivial
  simp only [noneAt]
  trivial
  have e0 : rs.flatMap (fun r => (pcs r).map q2) = (rs.flatMap pcs).map q2 := by rw [List.map_flatMap]
  refine ok_bind (turns2_fm (e := gD) (h := fun r => (pcs r).map q2) rs [] (by rw [e0, List.length_map, List.length_nil, Nat.zero_add]; exact Nat.le_trans h2 (by decide)) ?_) ?_
  · intro r hr
    have hr := h1 r hr
    trivial
    refine ⟨True.intro, ?_⟩
    refine ok_bind (pieces_ok (r := r) g162 (by omega)) ?_
    rintro _ rfl
    trivial
    intro acc hacc
    simp only [noneAt]
    trivial
    refine Ok.mono (turns_fm (e := q2) (m := q2) (f := fun _ => true) (pcs r) acc (by simpa using hacc) ?_) ?_
    · intro z hz
      trivial
      simp only [noneAt]
      trivial
      simp
    · rintro _ rfl
      refine ⟨?_, rfl⟩
      rw [List.filter_eq_self.mpr (by simp)]
  rintro _ rfl
  simp only [restore, getO]
  trivial
  rw [e0]
theorem triples_ok (g0 : Gt 0 = some F0) (g1 : Gt 1 = some F1) (g3 : Gt 3 = some F3) (g8 : Gt 8 = some F8) (g : Gt 247 = some F247) {a b : Rat} (ha : RB 34 a) (hb : RB 34 b) : Ok (callF Gt w (k + 4) 247 [(.z, rD a), (.z, rD b)]) (· = ((.z, rD (a * a + a * b + b * b)), [(.z, rD a), (.z, rD b)])) := by
  refine ok_def 0 g rfl rfl ?_
  refine ok_seq ?_
  trivial
  refine ok_bind (mul_ok g0 g3 (ha.mono (by decide)) (ha.mono (by decide))) ?_
  rintro _ rfl
  trivial
  refine ok_bind (mul_ok g0 g3 (ha.mono (by decide)) (hb.mono (by decide))) ?_
  rintro _ rfl
  trivial
  refine ok_bind (mul_ok g0 g3 (hb.mono (by decide)) (hb.mono (by decide))) ?_
  rintro _ rfl
  trivial
  refine ok_bind (sum_big (l := [a * a, a * b, b * b]) (b := 68) (n := 3) g0 g1 g8 (three_rb ((ha.mul ha).mono (by decide)) ((ha.mul hb).mono (by decide)) ((hb.mul hb).mono (by decide))) (by simp) (by decide)) ?_
  rintro _ rfl
  trivial
  rw [fsum3]
theorem pm_ok (g0 : Gt 0 = some F0) (g1 : Gt 1 = some F1) (g2 : Gt 2 = some F2) (g3 : Gt 3 = some F3) (g8 : Gt 8 = some F8) (g132 : Gt 132 = some F132) (g247 : Gt 247 = some F247) (g : Gt 248 = some F248) {a b : Pt} (ha : PB 34 a) (hb : PB 34 b) :
    Ok (callF Gt w (k + 5) 248 [(.z, pD a), (.z, pD b)]) (· = ((.u .z, .list (sixL fun i => mm i a b)), [(.z, pD a), (.z, pD b)])) := by
  refine ok_def 9 g rfl rfl ?_
  have p68 : ∀ x y : Rat, RB 34 x → RB 34 y → RB 68 (x * y) := fun x y hx hy => (hx.mul hy).mono (by decide)
  have up : ∀ x : Rat, RB 34 x → RB 3000 x := fun x hx => hx.mono (by decide)
  refine ok_seq ?_
  trivial
  refine ok_bind (crossed_ok g0 g2 g3 g132 (ha.mono (by decide)) (hb.mono (by decide))) ?_
  rintro _ rfl
  trivial
  refine ok_seq ?_
  trivial
  refine ok_seq ?_
  trivial
  refine ok_seq ?_
  trivial
  refine ok_bind (mul_ok g0 g3 (up _ ha.1) (up _ ha.2)) ?_
  rintro _ rfl
  trivial
  rw [← rD_two]
  refine ok_bind (mul_ok g0 g3 (rb_two.mono (by decide)) ((p68 _ _ ha.1 ha.2).mono (by decide))) ?_
  rintro _ rfl
  trivial
  refine ok_bind (mul_ok g0 g3 (up _ ha.1) (up _ hb.2)) ?_
  rintro _ rfl
  trivial
  refine ok_bind (mul_ok g0 g3 (up _ hb.1) (up _ ha.2)) ?_
  rintro _ rfl
  trivial
  refine ok_bind (mul_ok g0 g3 (up _ hb.1) (up _ hb.2)) ?_
  rintro _ rfl
  trivial
  refine ok_bind (mul_ok g0 g3 (rb_two.mono (by decide)) ((p68 _ _ hb.1 hb.2).mono (by decide))) ?_
  rintro _ rfl
  trivial
  refine ok_bind (sum_big (l := [2 * (a.1 * a.2), a.1 * b.2, b.1 * a.2, 2 * (b.1 * b.2)]) (b := 70) (n := 4) g0 g1 g8 (by
    intro r hr
    simp only [List.mem_cons, List.not_mem_nil, or_false] at hr
    rcases hr with rfl | rfl | rfl | rfl
    · exact (rb_two.mul (p68 _ _ ha.1 ha.2)).mono (by decide)
    · exact (p68 _ _ ha.1 hb.2).mono (by decide)
    · exact (p68 _ _ hb.1 ha.2).mono (by decide)
    · exact (rb_two.mul (p68 _ _ hb.1 hb.2)).mono (by decide)) (by simp) (by decide)) ?_
  rintro _ rfl
  rw [fsum4]
  trivial
  refine ok_seq ?_
  trivial
  refine ok_bind (plus_ok g0 g1 (up _ ha.1) (up _ hb.1)) ?_
  rintro _ rfl
  trivial
  refine ok_bind (plus_ok g0 g1 (up _ ha.2) (up _ hb.2)) ?_
  rintro _ rfl
  trivial
  refine ok_bind (triples_ok g0 g1 g3 g8 g247 ha.1 hb.1) ?_
  rintro _ rfl
  trivial
  refine ok_bind (triples_ok g0 g1 g3 g8 g247 ha.2 hb.2) ?_
  rintro _ rfl
  trivial
  refine ok_seq ?_
  trivial
  simp only [plainAt, List.all_cons, List.all_nil, getO]
  trivial
  simp only [noneAt]
  trivial
  have ez : zipD [PyData.tuple [.int 1, .int 1], rD (a.1 + b.1), rD (a.2 + b.2), rD (a.1 * a.1 + a.1 * b.1 + b.1 * b.1), rD (2 * (a.1 * a.2) + a.1 * b.2 + b.1 * a.2 + 2 * (b.1 * b.2)), rD (a.2 * a.2 + a.2 * b.2 + b.2 * b.2)] [.int 2, .int 6, .int 6, .int 12, .int 24, .int 12] = (List.range 6).map fun i => PyData.tuple [rD (prt i a b), .int (byn i)] := rfl
  rw [ez]
  refine ok_bind (turns_fm (e := fun i => PyData.tuple [rD (prt i a b), .int (byn i)]) (m := fun i => rD (mm i a b)) (f := fun _ => true) (List.range 6) [] (by decide +kernel) ?_) ?_
  · intro i hi
    trivial
    refine ⟨True.intro, ?_, fun _ => ?_⟩
    · simp only [noneAt]
      trivial
    refine ok_bind (frac_ok g0 (byn_ok i).1 ((byn_ok i).2.mono (by decide))) ?_
    rintro _ rfl
    trivial
    have hf : RB 5 (Rat.divInt 1 (byn i)) := RB.divInt (byn_ok i).1 (bd_of (by decide) (by decide)) (byn_ok i).2
    have hp := prt_rb (i := i) ha hb
    refine ok_bind (mul_ok g0 g3 (hp.mono (by decide)) (hf.mono (by decide))) ?_
    rintro _ rfl
    trivial
    refine ok_bind (mul_ok g0 g3 (((ha.1.mul hb.2).sub (ha.2.mul hb.1)).mono (by decide)) ((hp.mul hf).mono (by decide))) ?_
    rintro _ rfl
    trivial
    simp only [noneAt]
    trivial
    exact ⟨rfl, True.intro⟩
  rintro _ rfl
  simp only [restore, getO]
  trivial
  rfl
end
end
theorem zip_six {f g : Nat → Rat} : zipD (sixL f) (sixL g) = (List.range 6).map fun i => PyData.tuple [rD (f i), rD (g i)] := rfl
theorem six_len {f : Nat → Rat} : (sixL f).length = 6 := rfl
theorem six_zero : (List.replicate (Int.toNat 6) [PyData.tuple [.int 0, .int 1]]).flatten = sixL fun _ => 0 := rfl
theorem ix_six {f : Nat → Rat} {i : Nat} (h : i < 6) : prIx [.list (sixL f), .int (i : Int)] = some (.z, rD (f i)) := by
  unfold sixL
  rw [ixl, at_map (by simpa using h)]
  simp [zd]
theorem it_q {z : List (Pt × Pt)} : items (.list (z.map q2)) = some (z.map q2) := rfl
theorem rs_ge {rs : List (List Pt)} {z : Pt × Pt} {n : Nat} (h1 : 1 ≤ n) (h : ∀ r ∈ rs, ∀ p ∈ r, PB n p) (hz : z ∈ rs.flatMap pcs) : PB n z.1 ∧ PB n z.2 := by
  obtain ⟨r, hr, hz⟩ := List.mem_flatMap.mp hz
  exact pcs_pb h1 (h r hr) hz
def co (o : Int) (p : Pt) : Rat := if o = 0 then p.1 else p.2
theorem ix_co {p : Pt} {o : Int} (h : o = 0 ∨ o = 1) : prIx [pD p, .int o] = some (.z, rD (co o p)) := by
  rcases h with rfl | rfl
  · exact ix_pD0
  · exact ix_pD1
theorem rb_three : RB 2 (3 : Rat) := by unfold RB Bd; decide +kernel
theorem rb_twelve : RB 4 (12 : Rat) := by unfold RB Bd; decide +kernel
theorem rD_three : rD 3 = .tuple [.int 3, .int 1] := rfl
theorem rD_twelve : rD 12 = .tuple [.int 12, .int 1] := rfl
theorem rb_quo {a b : Nat} {r s : Rat} (hr : RB a r) (hs : RB b s) (h0 : s.num ≠ 0) : RB (a + b) (quo r s) := by
  unfold quo
  exact RB.divInt (Int.mul_ne_zero (den_ne r) h0) (hr.1.mul hs.2) (hr.2.mul hs.1)
section
local macro_rules
  | `(tactic| trivial) => `(tactic| simp only [exQ, evE, evA, evT, evI, sees, Mi.plain, hands, backs, add_int, sub_int, sub_bool, mul_int, fdiv_int, mod_int, neg_int, lt_int, le_int, gt_int, ge_int, len_list, len_tup, abs_int, toInt_int, toInt_bool, toList_list, toList_tup, toTuple_list, toTuple_tup, ixl, ixt, it_l, it_t, asg_n, asg_t, asg_l, asg_ul, rev_l, gcd_int, pow_int, isnot_n, isnot_b, binds, getO, rd_z, rd_uz, pr, ix_rD0, ix_rD1, ix_pD0, ix_pD1, ix_qD0, ix_qD1, items_qD, asg_qD, asg_q2, asg_sD, asg_pD, ix_sD0, ix_sD1, at4, at5, at6, ix_q0, ix_q1, it_g, ix_b0, ix_b1, it_r, lp_nil, lpt_nx, lpt_ct, lpt_bk, lpt_rt, eq_pD, ne_rD, is_1, is_2, isi_1, isi_2, isi_3, isi_4, isi_5, isi_6, isi_7, Nat.reduceBEq, nonD_1, nonD_2, nonD_3, nonD_4, nonD_5, nonD_6, nonD_7, blD_1, blD_2, blD_3, blD_4, blD_5, blD_6, blD_7, bt1, bt2, beq_self_eq_true, sto, zd, ud, Option.bind_some, Option.map_some, Option.bind_none, Option.bind_assoc,
      List.map_cons, List.map_nil, List.cons_append, List.nil_append, List.append_nil, List.length_cons, List.length_nil, List.replicate_succ, List.replicate_zero, List.getElem?_cons_zero, List.getElem?_cons_succ, List.set_cons_zero, List.set_cons_succ, List.any_cons, List.any_nil, id, Nat.reduceAdd, Nat.reduceSub, Nat.reduceLT, Nat.reduceLeDiff, Nat.lt_add_one, Nat.reduceEqDiff, Nat.one_ne_zero, if_true, if_false, reduceIte, List.not_mem_nil, List.mem_singleton, outs, decide_true, decide_false, Bool.or_false, Bool.false_or, Bool.or_true, Bool.true_or, Bool.and_true, Bool.true_and, Bool.and_false, Bool.false_and, Bool.not_true, Bool.not_false, Bool.false_eq_true, ok_some, then_nx, then_rt, then_bk, then_ct, done_rt, done_nx, not_true_eq_false, not_false_eq_true, le_size, lt_size, prEq_int, prNe_int, exB_nil, List.isEmpty_nil, List.isEmpty_cons, at0, at1, at2, at3])
section
variable {Gt : Nat → Option Fn} {w k : Nat}
theorem moments_ok (g0 : Gt 0 = some F0) (g1 : Gt 1 = some F1) (g2 : Gt 2 = some F2) (g3 : Gt 3 = some F3) (g8 : Gt 8 = some F8) (g132 : Gt 132 = some F132) (g162 : Gt 162 = some F162) (g422 : Gt 422 = some F422) (g247 : Gt 247 = some F247) (g248 : Gt 248 = some F248) (g : Gt 506 = some F506)
    {rs : List (List Pt)} (h1 : ∀ r ∈ rs, r.length ≤ 100) (h2 : (rs.flatMap pcs).length ≤ 100) (h3 : ∀ r ∈ rs, ∀ p ∈ r, PB 34 p) (h4 : ∀ i k, i < 6 → RB 700 (sm (fun z => mm i z.1 z.2) ((rs.flatMap pcs).take k))) :
    Ok (callF Gt w (k + 6) 506 [(.z, rsD rs)]) (· = ((.z, .tuple (sixL fun i => psum i rs)), [(.z, rsD rs)])) := by
  refine ok_def 5 g rfl rfl ?_
  refine ok_seq ?_
  trivial
  rw [if_pos (by decide)]
  trivial
  rw [six_zero]
  refine ok_seq ?_
  trivial
  refine ok_bind (all_ok g162 g422 h1 h2) ?_
  rintro _ rfl
  trivial
  refine ok_loop (fun j ρ => ∃ x2 x3 : Option SD, ρ = [some (.z, rsD rs), some (.u .z, .list (sixL fun i => sm (fun z => mm i z.1 z.2) ((rs.flatMap pcs).take j))), x2, x3, none, none]) ⟨none, none, rfl⟩ ?_ ?_
  · rintro j dd ρ he ⟨x2, x3, rfl⟩
    rw [List.getElem?_map, Option.map_eq_some_iff] at he
    obtain ⟨z, hz, rfl⟩ := he
    have hb := rs_ge (by decide) h3 (List.mem_of_getElem? hz)
    trivial
    refine ok_seq ?_
    trivial
    refine ok_bind (pm_ok g0 g1 g2 g3 g8 g132 g247 g248 hb.1 hb.2) ?_
    rintro _ rfl
    trivial
    rw [six_len, six_len, if_pos rfl]
    trivial
    simp only [plainAt, List.all_cons, List.all_nil, getO]
    trivial
    simp only [noneAt]
    trivial
    rw [zip_six]
    refine ok_bind (turns_fm (e := fun i => PyData.tuple [rD (sm (fun z => mm i z.1 z.2) ((rs.flatMap pcs).take j)), rD (mm i z.1 z.2)]) (m := fun i => rD (sm (fun z => mm i z.1 z.2) ((rs.flatMap pcs).take (j + 1)))) (f := fun _ => true) (List.range 6) [] (by decide +kernel) ?_) ?_
    · intro i hi
      have hi := List.mem_range.mp hi
      trivial
      refine ⟨True.intro, ?_, fun _ => ?_⟩
      · simp only [noneAt]
        trivial
      refine ok_bind (plus_ok g0 g1 ((h4 i j hi).mono (by decide)) ((mm_rb hb.1 hb.2).mono (by decide))) ?_
      rintro _ rfl
      trivial
      simp only [noneAt]
      trivial
      refine ⟨?_, True.intro⟩
      rw [take_snoc hz, sm_app, sm_one]
    rintro _ rfl
    simp only [restore, getO]
    trivial
    exact ⟨_, _, rfl⟩
  · rintro ρ ⟨x2, x3, rfl⟩
    trivial
    refine ok_seq ?_
    trivial
    unfold psum
    rw [List.length_map, List.take_length]
theorem csum_ok (g143 : Gt 143 = some F143) (g171 : Gt 171 = some F171) (g172 : Gt 172 = some F172) (g174 : Gt 174 = some F174) (g176 : Gt 176 = some F176) (g : Gt 250 = some F250) {a b c : Pt} (ha : PB 34 a) (hb : PB 34 b) (hc : PB 34 c) {o q : Int} (ho : o = 0 ∨ o = 1) (hq : q = 0 ∨ q = 1) :
    Ok (callF Gt w (k + 5) 250 [(.z, gD [a, b, c]), (.z, .int o), (.z, .int q)]) (· = ((.z, rD (co o a * co q a + co o b * co q b + co o c * co q c)), [(.z, gD [a, b, c]), (.z, .int o), (.z, .int q)])) := by
  have cb : ∀ (o : Int) (p : Pt), PB 34 p → RB 34 (co o p) := fun o p hp => by
    unfold co
    split
    · exact hp.1
    · exact hp.2
  refine ok_def 1 g rfl rfl ?_
  refine ok_seq ?_
  trivial
  simp only [plainAt, List.all_cons, List.all_nil, getO]
  trivial
  simp only [noneAt]
  trivial
  rw [show [pD a, pD b, pD c] = [a, b, c].map pD from rfl]
  refine ok_bind (turns_fm (e := pD) (m := fun p => rD (co o p * co q p)) (f := fun _ => true) [a, b, c] [] (show 0 + 3 ≤ sizeLine by decide) ?_) ?_
  · intro p hp
    have hp : PB 34 p := by
      simp only [List.mem_cons, List.not_mem_nil, or_false] at hp
      rcases hp with rfl | rfl | rfl <;> assumption
    trivial
    refine ⟨True.intro, ?_, fun _ => ?_⟩
    · simp only [noneAt]
      trivial
    rw [ix_co ho]
    trivial
    rw [ix_co hq]
    trivial
    refine ok_bind (lmul_ok g143 g171 g174 ((cb o p hp).mono (by decide)) ((cb q p hp).mono (by decide))) ?_
    rintro _ rfl
    trivial
    simp only [noneAt]
    trivial
    exact ⟨True.intro, True.intro⟩
  rintro _ rfl
  simp only [restore, getO]
  trivial
  refine ok_bind (lsum_big (l := [co o a * co q a, co o b * co q b, co o c * co q c]) (b := 68) (n := 3) g143 g171 g172 g176 (three_rb (((cb o a ha).mul (cb q a ha)).mono (by decide)) (((cb o b hb).mul (cb q b hb)).mono (by decide)) (((cb o c hc).mul (cb q c hc)).mono (by decide))) (by simp) (by decide)) ?_
  rintro _ rfl
  trivial
  rw [fsum3]
end
end
theorem tri_sz {i : Nat} {M B : Nat} {a b c : Pt} (h1 : Sz M B (mm i c a)) (h2 : Sz M B (mm i a b)) (h3 : Sz M B (mm i b c)) : Sz M (3 * B) (tri i a b c) := by
  rw [tri_mm]
  exact (h1.add (h2.add h3)).le (by omega)
section
local macro_rules
  | `(tactic| trivial) => `(tactic| simp only [exQ, evE, evA, evT, evI, sees, Mi.plain, hands, backs, add_int, sub_int, sub_bool, mul_int, fdiv_int, mod_int, neg_int, lt_int, le_int, gt_int, ge_int, len_list, len_tup, abs_int, toInt_int, toInt_bool, toList_list, toList_tup, toTuple_list, toTuple_tup, ixl, ixt, it_l, it_t, asg_n, asg_t, asg_l, asg_ul, rev_l, gcd_int, pow_int, isnot_n, isnot_b, binds, getO, rd_z, rd_uz, pr, ix_rD0, ix_rD1, ix_pD0, ix_pD1, ix_qD0, ix_qD1, items_qD, asg_qD, asg_q2, asg_sD, asg_pD, ix_sD0, ix_sD1, at4, at5, at6, ix_q0, ix_q1, it_g, ix_b0, ix_b1, it_r, lp_nil, lpt_nx, lpt_ct, lpt_bk, lpt_rt, eq_pD, ne_rD, is_1, is_2, isi_1, isi_2, isi_3, isi_4, isi_5, isi_6, isi_7, Nat.reduceBEq, nonD_1, nonD_2, nonD_3, nonD_4, nonD_5, nonD_6, nonD_7, blD_1, blD_2, blD_3, blD_4, blD_5, blD_6, blD_7, bt1, bt2, beq_self_eq_true, sto, zd, ud, Option.bind_some, Option.map_some, Option.bind_none, Option.bind_assoc,
      List.map_cons, List.map_nil, List.cons_append, List.nil_append, List.append_nil, List.length_cons, List.length_nil, List.replicate_succ, List.replicate_zero, List.getElem?_cons_zero, List.getElem?_cons_succ, List.set_cons_zero, List.set_cons_succ, List.any_cons, List.any_nil, id, Nat.reduceAdd, Nat.reduceSub, Nat.reduceLT, Nat.reduceLeDiff, Nat.lt_add_one, Nat.reduceEqDiff, Nat.one_ne_zero, if_true, if_false, reduceIte, List.not_mem_nil, List.mem_singleton, outs, decide_true, decide_false, Bool.or_false, Bool.false_or, Bool.or_true, Bool.true_or, Bool.and_true, Bool.true_and, Bool.and_false, Bool.false_and, Bool.not_true, Bool.not_false, Bool.false_eq_true, ok_some, then_nx, then_rt, then_bk, then_ct, done_rt, done_nx, not_true_eq_false, not_false_eq_true, le_size, lt_size, prEq_int, prNe_int, exB_nil, List.isEmpty_nil, List.isEmpty_cons, at0, at1, at2, at3])
section
variable {Gt : Nat → Option Fn} {w k : Nat}
theorem tri_ok (g143 : Gt 143 = some F143) (g171 : Gt 171 = some F171) (g172 : Gt 172 = some F172) (g173 : Gt 173 = some F173) (g174 : Gt 174 = some F174) (g175 : Gt 175 = some F175) (g176 : Gt 176 = some F176) (g177 : Gt 177 = some F177) (g250 : Gt 250 = some F250) (g : Gt 251 = some F251) {a b c : Pt} (ha : PB 34 a) (hb : PB 34 b) (hc : PB 34 c) :
    Ok (callF Gt w (k + 6) 251 [(.z, gD [a, b, c])]) (· = ((.u .z, .list (sixL fun i => tri i a b c)), [(.z, gD [a, b, c])])) := by
  have hn2 : (2 : Rat).num ≠ 0 := by decide
  have hn3 : (3 : Rat).num ≠ 0 := by decide
  have hn12 : (12 : Rat).num ≠ 0 := by decide
  have up : ∀ {n : Nat} {p : Pt}, PB 34 p → 34 ≤ n → PB n p := fun h l => h.mono l
  have hcr : RB 277 (cr a b c) := (((hb.1.sub ha.1).mul (hc.2.sub ha.2)).sub ((hb.2.sub ha.2).mul (hc.1.sub ha.1))).mono (by decide)
  have hx : RB 104 (a.1 + b.1 + c.1) := ((ha.1.add hb.1).add hc.1).mono (by decide)
  have hy : RB 104 (a.2 + b.2 + c.2) := ((ha.2.add hb.2).add hc.2).mono (by decide)
  have s3 : ∀ x1 y1 x2 y2 x3 y3 : Rat, RB 34 x1 → RB 34 y1 → RB 34 x2 → RB 34 y2 → RB 34 x3 → RB 34 y3 → RB 206 (x1 * y1 + x2 * y2 + x3 * y3) := fun _ _ _ _ _ _ h1 h2 h3 h4 h5 h6 => (((h1.mul h2).add (h3.mul h4)).add (h5.mul h6)).mono (by decide)
  refine ok_def 6 g rfl rfl ?_
  refine ok_seq ?_
  trivial
  rw [show gD [a, b, c] = .list [pD a, pD b, pD c] from rfl]
  trivial
  refine ok_bind (lcross_ok g143 g171 g173 g174 g177 (ha.mono (by decide)) (hb.mono (by decide)) (hc.mono (by decide))) ?_
  rintro _ rfl
  trivial
  rw [← rD_two]
  refine ok_bind (ldiv_ok g143 g171 g175 (hcr.mono (by decide)) (rb_two.mono (by decide)) hn2) ?_
  rintro _ rfl
  trivial
  have sumx : ∀ (o : Nat), True := fun _ => True.intro
  refine ok_seq ?_
  trivial
  simp only [plainAt, List.all_cons, List.all_nil, getO]
  trivial
  simp only [noneAt]
  trivial
  rw [show [pD a, pD b, pD c] = [a, b, c].map pD from rfl]
  refine ok_bind (turns_fm (e := pD) (m := fun p => rD p.1) (f := fun _ => true) [a, b, c] [] (show 0 + 3 ≤ sizeLine by decide) ?_) ?_
  · intro p hp
    trivial
    simp only [noneAt]
    trivial
    simp
  rintro _ rfl
  simp only [restore, getO]
  trivial
  refine ok_bind (lsum_big (l := [a.1, b.1, c.1]) (b := 34) (n := 3) g143 g171 g172 g176 (three_rb ha.1 hb.1 hc.1) (by simp) (by decide)) ?_
  rintro _ rfl
  rw [fsum3]
  trivial
  refine ok_seq ?_
  trivial
  simp only [plainAt, List.all_cons, List.all_nil, getO]
  trivial
  simp only [noneAt]
  trivial
  rw [show [pD a, pD b, pD c] = [a, b, c].map pD from rfl]
  refine ok_bind (turns_fm (e := pD) (m := fun p => rD p.2) (f := fun _ => true) [a, b, c] [] (show 0 + 3 ≤ sizeLine by decide) ?_) ?_
  · intro p hp
    trivial
    simp only [noneAt]
    trivial
    simp
  rintro _ rfl
  simp only [restore, getO]
  trivial
  refine ok_bind (lsum_big (l := [a.2, b.2, c.2]) (b := 34) (n := 3) g143 g171 g172 g176 (three_rb ha.2 hb.2 hc.2) (by simp) (by decide)) ?_
  rintro _ rfl
  rw [fsum3]
  trivial
  refine ok_seq ?_
  trivial
  rw [← rD_three]
  refine ok_bind (ldiv_ok g143 g171 g175 (hx.mono (by decide)) (rb_three.mono (by decide)) hn3) ?_
  rintro _ rfl
  trivial
  refine ok_bind (ldiv_ok g143 g171 g175 (hy.mono (by decide)) (rb_three.mono (by decide)) hn3) ?_
  rintro _ rfl
  trivial
  rw [show PyData.list [pD a, pD b, pD c] = gD [a, b, c] from rfl]
  refine ok_seq ?_
  trivial
  refine ok_bind (lmul_ok g143 g171 g174 (hx.mono (by decide)) (hx.mono (by decide))) ?_
  rintro _ rfl
  trivial
  refine ok_bind (csum_ok g143 g171 g172 g174 g176 g250 ha hb hc (.inl rfl) (.inl rfl)) ?_
  rintro _ rfl
  trivial
  refine ok_bind (ladd_ok g143 g171 g172 ((hx.mul hx).mono (by decide)) ((s3 _ _ _ _ _ _ ha.1 ha.1 hb.1 hb.1 hc.1 hc.1).mono (by decide))) ?_
  rintro _ rfl
  trivial
  rw [← rD_twelve]
  refine ok_bind (ldiv_ok g143 g171 g175 (((hx.mul hx).add (s3 _ _ _ _ _ _ ha.1 ha.1 hb.1 hb.1 hc.1 hc.1)).mono (by decide)) (rb_twelve.mono (by decide)) hn12) ?_
  rintro _ rfl
  trivial
  rw [mu_app (by simp)]
  trivial
  refine ok_seq ?_
  trivial
  refine ok_bind (lmul_ok g143 g171 g174 (hx.mono (by decide)) (hy.mono (by decide))) ?_
  rintro _ rfl
  trivial
  refine ok_bind (csum_ok g143 g171 g172 g174 g176 g250 ha hb hc (.inl rfl) (.inr rfl)) ?_
  rintro _ rfl
  trivial
  refine ok_bind (ladd_ok g143 g171 g172 ((hx.mul hy).mono (by decide)) ((s3 _ _ _ _ _ _ ha.1 ha.2 hb.1 hb.2 hc.1 hc.2).mono (by decide))) ?_
  rintro _ rfl
  trivial
  rw [← rD_twelve]
  refine ok_bind (ldiv_ok g143 g171 g175 (((hx.mul hy).add (s3 _ _ _ _ _ _ ha.1 ha.2 hb.1 hb.2 hc.1 hc.2)).mono (by decide)) (rb_twelve.mono (by decide)) hn12) ?_
  rintro _ rfl
  trivial
  rw [mu_app (by simp)]
  trivial
  refine ok_seq ?_
  trivial
  refine ok_bind (lmul_ok g143 g171 g174 (hy.mono (by decide)) (hy.mono (by decide))) ?_
  rintro _ rfl
  trivial
  refine ok_bind (csum_ok g143 g171 g172 g174 g176 g250 ha hb hc (.inr rfl) (.inr rfl)) ?_
  rintro _ rfl
  trivial
  refine ok_bind (ladd_ok g143 g171 g172 ((hy.mul hy).mono (by decide)) ((s3 _ _ _ _ _ _ ha.2 ha.2 hb.2 hb.2 hc.2 hc.2).mono (by decide))) ?_
  rintro _ rfl
  trivial
  rw [← rD_twelve]
  refine ok_bind (ldiv_ok g143 g171 g175 (((hy.mul hy).add (s3 _ _ _ _ _ _ ha.2 ha.2 hb.2 hb.2 hc.2 hc.2)).mono (by decide)) (rb_twelve.mono (by decide)) hn12) ?_
  rintro _ rfl
  trivial
  rw [mu_app (by simp)]
  trivial
  refine ok_seq ?_
  trivial
  simp only [plainAt, List.all_cons, List.all_nil, getO]
  trivial
  simp only [noneAt]
  trivial
  have ez : sixL (fun i => trp i a b c) = [PyData.tuple [.int 1, .int 1], rD (quo (a.1 + b.1 + c.1) 3), rD (quo (a.2 + b.2 + c.2) 3), rD (quo ((a.1 + b.1 + c.1) * (a.1 + b.1 + c.1) + (co 0 a * co 0 a + co 0 b * co 0 b + co 0 c * co 0 c)) 12),
      rD (quo ((a.1 + b.1 + c.1) * (a.2 + b.2 + c.2) + (co 0 a * co 1 a + co 0 b * co 1 b + co 0 c * co 1 c)) 12), rD (quo ((a.2 + b.2 + c.2) * (a.2 + b.2 + c.2) + (co 1 a * co 1 a + co 1 b * co 1 b + co 1 c * co 1 c)) 12)] := by
    simp only [quo_eq]
    rfl
  have etp : ∀ i, RB 420 (trp i a b c) := fun i => by
    match i with
    | 0 => exact rb_one (by decide)
    | 1 => simp only [trp, ← quo_eq]; exact (rb_quo hx rb_three hn3).mono (by decide)
    | 2 => simp only [trp, ← quo_eq]; exact (rb_quo hy rb_three hn3).mono (by decide)
    | 3 => simp only [trp, ← quo_eq]; exact (rb_quo ((hx.mul hx).add (s3 _ _ _ _ _ _ ha.1 ha.1 hb.1 hb.1 hc.1 hc.1)) rb_twelve hn12).mono (by decide)
    | 4 => simp only [trp, ← quo_eq]; exact (rb_quo ((hx.mul hy).add (s3 _ _ _ _ _ _ ha.1 ha.2 hb.1 hb.2 hc.1 hc.2)) rb_twelve hn12).mono (by decide)
    | i + 5 => simp only [trp, ← quo_eq]; exact (rb_quo ((hy.mul hy).add (s3 _ _ _ _ _ _ ha.2 ha.2 hb.2 hb.2 hc.2 hc.2)) rb_twelve hn12).mono (by decide)
  rw [← ez]
  unfold sixL
  refine ok_bind (turns_fm (e := fun i => rD (trp i a b c)) (m := fun i => rD (tri i a b c)) (f := fun _ => true) (List.range 6) [] (by decide +kernel) ?_) ?_
  · intro i hi
    trivial
    refine ⟨True.intro, ?_, fun _ => ?_⟩
    · simp only [noneAt]
      trivial
    refine ok_bind (lmul_ok g143 g171 g174 ((rb_quo hcr rb_two hn2).mono (by decide)) ((etp i).mono (by decide))) ?_
    rintro _ rfl
    trivial
    simp only [noneAt]
    trivial
    refine ⟨?_, True.intro⟩
    unfold tri
    rw [quo_eq]
  rintro _ rfl
  simp only [restore, getO]
  trivial
  rfl
theorem lmom_ok (g143 : Gt 143 = some F143) (g171 : Gt 171 = some F171) (g172 : Gt 172 = some F172) (g173 : Gt 173 = some F173) (g174 : Gt 174 = some F174) (g175 : Gt 175 = some F175) (g176 : Gt 176 = some F176) (g177 : Gt 177 = some F177) (g187 : Gt 187 = some F187) (g250 : Gt 250 = some F250) (g251 : Gt 251 = some F251) (g : Gt 512 = some F512)
    {c0 c1 c2 c3 c4 c5 : Rat} {ts : List T3} {ks : List Nat} (hc : RB 2 c0 ∧ RB 2 c1 ∧ RB 2 c2 ∧ RB 2 c3) (hc2 : RB 22 c4 ∧ RB 22 c5) (ht : ∀ t ∈ ts, TOk t) (hl : ks.length ≤ 18) (hk : ∀ j ∈ ks, j < ts.length) (h4 : ∀ i k, i < 6 → RB 700 (tsum i (ph c0 c1 c2 c3 c4 c5) ((tsel ts ks).take k))) (h5 : ∀ i, i < 6 → ∀ s t u, sm8 s → sm8 t → sm8 u → RB 1000 (tri i (ph c0 c1 c2 c3 c4 c5 s) (ph c0 c1 c2 c3 c4 c5 t) (ph c0 c1 c2 c3 c4 c5 u))) :
    Ok (callF Gt w (k + 7) 512 [(.z, chD c0 c1 c2 c3 c4 c5), (.z, .list (ts.map tD)), (.z, .list (ks.map kD))]) (· = ((.z, .tuple (sixL fun i => tsum i (ph c0 c1 c2 c3 c4 c5) (tsel ts ks))), [(.z, chD c0 c1 c2 c3 c4 c5), (.z, .list (ts.map tD)), (.z, .list (ks.map kD))])) := by
  refine ok_def 5 g rfl rfl ?_
  refine ok_seq ?_
  trivial
  rw [if_pos (by decide)]
  trivial
  rw [six_zero]
  refine ok_seq ?_
  trivial
  refine ok_loop (fun j ρ => ∃ x4 x5 : Option SD, ρ = [some (.z, chD c0 c1 c2 c3 c4 c5), some (.z, .list (ts.map tD)), some (.z, .list (ks.map kD)), some (.u .z, .list (sixL fun i => tsum i (ph c0 c1 c2 c3 c4 c5) ((tsel ts ks).take j))), x4, x5, none, none]) ⟨none, none, rfl⟩ ?_ ?_
  · rintro j dd ρ he ⟨x4, x5, rfl⟩
    rw [List.getElem?_map, Option.map_eq_some_iff] at he
    obtain ⟨m, hm, rfl⟩ := he
    have hmt := hk m (List.mem_of_getElem? hm)
    have es : (tsel ts ks)[j]? = some ts[m] := by
      unfold tsel
      rw [List.getElem?_map, hm, Option.map_some, List.getD_eq_getElem?_getD, List.getElem?_eq_getElem hmt]
      rfl
    have hto := ht _ (List.getElem_mem hmt)
    obtain ⟨_, s1, s2, s3⟩ := hto
    generalize ts[m] = t at es s1 s2 s3 ⊢
    rw [show kD m = .int (m : Int) from rfl]
    trivial
    refine ok_seq ?_
    trivial
    have hix : atI (ts.map tD) (m : Int) = some (tD t) := by
      rw [at_map hmt]
      congr 2
      have e2 : (tsel ts ks)[j]? = some ts[m] := by
        unfold tsel
        rw [List.getElem?_map, hm, Option.map_some, List.getD_eq_getElem?_getD, List.getElem?_eq_getElem hmt]
        rfl
      rw [e2] at es
      exact Option.some.inj es
    rw [hix]
    trivial
    rw [show tD t = .tuple ([t.1, t.2.1, t.2.2].map sD) from rfl]
    trivial
    simp only [plainAt, List.all_cons, List.all_nil, getO]
    trivial
    simp only [noneAt]
    trivial
    rw [show [sD t.1, sD t.2.1, sD t.2.2] = [t.1, t.2.1, t.2.2].map sD from rfl]
    refine ok_bind (turns_fm (e := sD) (m := fun s => pD (ph c0 c1 c2 c3 c4 c5 s)) (f := fun _ => true) [t.1, t.2.1, t.2.2] [] (show 0 + 3 ≤ sizeLine by decide) ?_) ?_
    · intro s hs
      have hs8 : sm8 s := by
        simp only [List.mem_cons, List.not_mem_nil, or_false] at hs
        rcases hs with rfl | rfl | rfl <;> assumption
      trivial
      refine ⟨True.intro, ?_, fun _ => ?_⟩
      · simp only [noneAt]
        trivial
      refine ok_bind (mapped_ok g143 g171 g172 g174 g176 g187 hc.1 hc.2.1 hc.2.2.1 hc.2.2.2 hc2.1 hc2.2 hs8) ?_
      rintro _ rfl
      trivial
      simp only [noneAt]
      trivial
      exact ⟨rfl, True.intro⟩
    rintro _ rfl
    simp only [restore, getO]
    trivial
    have pb : ∀ s, sm8 s → PB 34 (ph c0 c1 c2 c3 c4 c5 s) := fun s hs => mp_pb34 hc.1 hc.2.1 hc.2.2.1 hc.2.2.2 hc2.1 hc2.2 (ip_pb hs)
    refine ok_bind (tri_ok (a := ph c0 c1 c2 c3 c4 c5 t.1) (b := ph c0 c1 c2 c3 c4 c5 t.2.1) (c := ph c0 c1 c2 c3 c4 c5 t.2.2) g143 g171 g172 g173 g174 g175 g176 g177 g250 g251 (pb _ s1) (pb _ s2) (pb _ s3)) ?_
    rintro _ rfl
    trivial
    refine ok_seq ?_
    trivial
    rw [if_pos (by decide)]
    trivial
    simp only [plainAt, List.all_cons, List.all_nil, getO]
    trivial
    simp only [noneAt]
    trivial
    rw [rng_map]
    refine ok_bind (turns_fm (e := kD) (m := fun i => rD (tsum i (ph c0 c1 c2 c3 c4 c5) ((tsel ts ks).take (j + 1)))) (f := fun _ => true) (List.range (Int.toNat 6)) [] (show 0 + 6 ≤ sizeLine by decide) ?_) ?_
    · intro i hi
      have hi : i < 6 := List.mem_range.mp hi
      rw [show kD i = .int (i : Int) from rfl]
      trivial
      refine ⟨True.intro, ?_, fun _ => ?_⟩
      · simp only [noneAt]
        trivial
      have hx : ∀ f : Nat → Rat, atI (sixL f) (i : Int) = some (rD (f i)) := fun f => by
        unfold sixL
        rw [at_map (by simpa using hi)]
        simp
      rw [hx]
      trivial
      rw [hx]
      trivial
      refine ok_bind (ladd_ok g143 g171 g172 ((h4 i j hi).mono (by decide)) ((h5 i hi _ _ _ s1 s2 s3).mono (by decide))) ?_
      rintro _ rfl
      trivial
      simp only [noneAt]
      trivial
      refine ⟨?_, True.intro⟩
      unfold tsum
      rw [take_snoc es, sm_app, sm_one]
    rintro _ rfl
    simp only [restore, getO]
    trivial
    exact ⟨_, _, rfl⟩
  · rintro ρ ⟨x4, x5, rfl⟩
    trivial
    refine ok_seq ?_
    trivial
    have e : (tsel ts ks).take (ks.map kD).length = tsel ts ks := List.take_of_length_le (by unfold tsel; simp)
    rw [e]
end
end
structure Gs (rs : List (List Pt)) : Prop where
  a : ∀ r ∈ rs, r.length ≤ 100
  b : (rs.flatMap pcs).length ≤ 100
  c : ∀ r ∈ rs, ∀ p ∈ r, PB 34 p
  d : ∀ i k, i < 6 → RB 250 (sm (fun z => mm i z.1 z.2) ((rs.flatMap pcs).take k))
theorem Gs.rb {rs : List (List Pt)} (h : Gs rs) {i : Nat} (hi : i < 6) : RB 250 (psum i rs) := by
  have := h.d i (rs.flatMap pcs).length hi
  rw [List.take_length] at this
  exact this
def cst (f : Nat → Rat) (p : Pt) : Rat := f 3 + f 5 - 2 * (p.1 * f 1 + p.2 * f 2) + (p.1 * p.1 + p.2 * p.2) * f 0
theorem six_list {f : Nat → Rat} : sixL f = [rD (f 0), rD (f 1), rD (f 2), rD (f 3), rD (f 4), rD (f 5)] := rfl
theorem cst_rb {f : Nat → Rat} {p : Pt} (h : ∀ i, i < 6 → RB 250 (f i)) (hp : PB 22 p) : RB 1500 (cst f p) := by
  have a1 := h 0 (by decide)
  have a2 := h 1 (by decide)
  have a3 := h 2 (by decide)
  have a4 := h 3 (by decide)
  have a5 := h 5 (by decide)
  exact (((a4.add a5).sub (rb_two.mul ((hp.1.mul a2).add (hp.2.mul a3)))).add (((hp.1.mul hp.1).add (hp.2.mul hp.2)).mul a1)).mono (by decide)
theorem ok_tn {ft : Ev → Option (Bool × Ev)} {fe : Ev → Option (SD × Ev)} {g : G} {own : List Nat} {d : D} {r : List D} {ρ : Ev} {acc : List D} {P : List D × Ev → Prop} (hl : acc.length < 1000)
    (h : Ok (asg g (.z, d) ρ) fun ρ1 => Ok (ft ρ1) fun x => match x.1 with
      | false => Ok (turns ft fe g own r (noneAt x.2 own) acc) P
      | true => Ok (fe x.2) fun y => Ok (turns ft fe g own r (noneAt y.2 own) (acc ++ [y.1.2])) P) : Ok (turns ft fe g own (d :: r) ρ acc) P := by
  obtain ⟨ρ1, e1, ⟨c, ρ2⟩, e2, h2⟩ := h
  unfold turns
  rw [e1, Option.bind_some, e2, Option.bind_some]
  cases c with
  | false => exact h2
  | true =>
    obtain ⟨y, e3, h3⟩ := h2
    have hlen : acc.length < sizeLine := Nat.lt_of_lt_of_le hl (by decide)
    simp only [e3, Option.bind_some, if_pos hlen]
    exact h3
theorem tn_nil {ft : Ev → Option (Bool × Ev)} {fe : Ev → Option (SD × Ev)} {g : G} {own : List Nat} {ρ : Ev} {acc : List D} {P : List D × Ev → Prop} : Ok (turns ft fe g own [] ρ acc) P ↔ P (acc, ρ) := ok_some
def dctD (A C : D) : D := .dict [(.str "a", A), (.str "c", C)]
def dct1 (A : D) : D := .dict [(.str "a", A)]
theorem in_a {A C : D} : prIsin [.str "a", dctD A C] = some (.z, .bool true) := rfl
theorem in_b {A C : D} : prIsin [.str "b", dctD A C] = some (.z, .bool false) := rfl
theorem in_c {A C : D} : prIsin [.str "c", dctD A C] = some (.z, .bool true) := rfl
theorem ix_da {A C : D} : prIx [dctD A C, .str "a"] = some (.z, A) := rfl
theorem ix_dc {A C : D} : prIx [dctD A C, .str "c"] = some (.z, C) := rfl
theorem sto_a {A : D} : sto (.dict []) (.str "a") A = some (dct1 A) := rfl
theorem sto_c {A C : D} : sto (dct1 A) (.str "c") C = some (dctD A C) := rfl
theorem ne_ab : prNe [.str "a", .str "b"] = some (.z, .bool true) := by
  have h : eqOk (.str "a") (.str "b") = true := by decide +kernel
  have h2 : PyData.eqv (.str "a") (.str "b") = false := by decide +kernel
  simp only [prNe, h, h2, if_true, zd]
  rfl
theorem ne_bb : prNe [.str "b", .str "b"] = some (.z, .bool false) := by
  have h : eqOk (.str "b") (.str "b") = true := by decide +kernel
  have h2 : PyData.eqv (.str "b") (.str "b") = true := by decide +kernel
  simp only [prNe, h, h2, if_true, zd]
  rfl
theorem ne_cb : prNe [.str "c", .str "b"] = some (.z, .bool true) := by
  have h : eqOk (.str "c") (.str "b") = true := by decide +kernel
  have h2 : PyData.eqv (.str "c") (.str "b") = false := by decide +kernel
  simp only [prNe, h, h2, if_true, zd]
  rfl
def depD (pa pb pc : Pt) : D := .list [.tuple [.str "a", pD pa], .tuple [.str "b", pD pb], .tuple [.str "c", pD pc]]
section
local macro_rules
  | `(tactic| trivial) => `(tactic| simp only [exQ, evE, evA, evT, evI, sees, Mi.plain, hands, backs, add_int, sub_int, sub_bool, mul_int, fdiv_int, mod_int, neg_int, lt_int, le_int, gt_int, ge_int, len_list, len_tup, abs_int, toInt_int, toInt_bool, toList_list, toList_tup, toTuple_list, toTuple_tup, ixl, ixt, it_l, it_t, asg_n, asg_t, asg_l, asg_ul, rev_l, gcd_int, pow_int, isnot_n, isnot_b, binds, getO, rd_z, rd_uz, pr, ix_rD0, ix_rD1, ix_pD0, ix_pD1, ix_qD0, ix_qD1, items_qD, asg_qD, asg_q2, asg_sD, asg_pD, ix_sD0, ix_sD1, at4, at5, at6, ix_q0, ix_q1, it_g, ix_b0, ix_b1, it_r, lp_nil, lpt_nx, lpt_ct, lpt_bk, lpt_rt, eq_pD, ne_rD, is_1, is_2, isi_1, isi_2, isi_3, isi_4, isi_5, isi_6, isi_7, Nat.reduceBEq, nonD_1, nonD_2, nonD_3, nonD_4, nonD_5, nonD_6, nonD_7, blD_1, blD_2, blD_3, blD_4, blD_5, blD_6, blD_7, bt1, bt2, beq_self_eq_true, sto, zd, ud, Option.bind_some, Option.map_some, Option.bind_none, Option.bind_assoc,
      List.map_cons, List.map_nil, List.cons_append, List.nil_append, List.append_nil, List.length_cons, List.length_nil, List.replicate_succ, List.replicate_zero, List.getElem?_cons_zero, List.getElem?_cons_succ, List.set_cons_zero, List.set_cons_succ, List.any_cons, List.any_nil, id, Nat.reduceAdd, Nat.reduceSub, Nat.reduceLT, Nat.reduceLeDiff, Nat.lt_add_one, Nat.reduceEqDiff, Nat.one_ne_zero, if_true, if_false, reduceIte, List.not_mem_nil, List.mem_singleton, outs, decide_true, decide_false, Bool.or_false, Bool.false_or, Bool.or_true, Bool.true_or, Bool.and_true, Bool.true_and, Bool.and_false, Bool.false_and, Bool.not_true, Bool.not_false, Bool.false_eq_true, ok_some, then_nx, then_rt, then_bk, then_ct, done_rt, done_nx, not_true_eq_false, not_false_eq_true, le_size, lt_size, prEq_int, prNe_int, exB_nil, List.isEmpty_nil, List.isEmpty_cons, at0, at1, at2, at3])
section
variable {Gt : Nat → Option Fn} {w k : Nat}
theorem costof_ok (g0 : Gt 0 = some F0) (g1 : Gt 1 = some F1) (g2 : Gt 2 = some F2) (g3 : Gt 3 = some F3) (g8 : Gt 8 = some F8) (g132 : Gt 132 = some F132) (g162 : Gt 162 = some F162) (g422 : Gt 422 = some F422) (g247 : Gt 247 = some F247) (g248 : Gt 248 = some F248) (g506 : Gt 506 = some F506) (g : Gt 507 = some F507)
    {rs : List (List Pt)} {p : Pt} (h : Gs rs) (hp : PB 22 p) : Ok (callF Gt w (k + 7) 507 [(.z, rsD rs), (.z, pD p)]) (· = ((.z, rD (cst (fun i => psum i rs) p)), [(.z, rsD rs), (.z, pD p)])) := by
  have a1 := h.rb (i := 0) (by decide)
  have a2 := h.rb (i := 1) (by decide)
  have a3 := h.rb (i := 2) (by decide)
  have a4 := h.rb (i := 3) (by decide)
  have a5 := h.rb (i := 5) (by decide)
  refine ok_def 8 g rfl rfl ?_
  refine ok_seq ?_
  trivial
  refine ok_bind (moments_ok g0 g1 g2 g3 g8 g132 g162 g422 g247 g248 g506 h.a h.b h.c fun i k hi => (h.d i k hi).mono (by decide)) ?_
  rintro _ rfl
  trivial
  rw [six_list]
  trivial
  refine ok_seq ?_
  trivial
  refine ok_bind (mul_ok g0 g3 (hp.1.mono (by decide)) (hp.1.mono (by decide))) ?_
  rintro _ rfl
  trivial
  refine ok_bind (mul_ok g0 g3 (hp.2.mono (by decide)) (hp.2.mono (by decide))) ?_
  rintro _ rfl
  trivial
  refine ok_bind (plus_ok g0 g1 ((hp.1.mul hp.1).mono (by decide)) ((hp.2.mul hp.2).mono (by decide))) ?_
  rintro _ rfl
  trivial
  refine ok_seq ?_
  trivial
  refine ok_bind (mul_ok g0 g3 (hp.1.mono (by decide)) (a2.mono (by decide))) ?_
  rintro _ rfl
  trivial
  refine ok_bind (mul_ok g0 g3 (hp.2.mono (by decide)) (a3.mono (by decide))) ?_
  rintro _ rfl
  trivial
  refine ok_bind (plus_ok g0 g1 ((hp.1.mul a2).mono (by decide)) ((hp.2.mul a3).mono (by decide))) ?_
  rintro _ rfl
  trivial
  rw [← rD_two]
  refine ok_bind (mul_ok g0 g3 (rb_two.mono (by decide)) (((hp.1.mul a2).add (hp.2.mul a3)).mono (by decide))) ?_
  rintro _ rfl
  trivial
  refine ok_seq ?_
  trivial
  refine ok_bind (plus_ok g0 g1 (a4.mono (by decide)) (a5.mono (by decide))) ?_
  rintro _ rfl
  trivial
  refine ok_bind (minus_ok g0 g2 ((a4.add a5).mono (by decide)) ((rb_two.mul ((hp.1.mul a2).add (hp.2.mul a3))).mono (by decide))) ?_
  rintro _ rfl
  trivial
  refine ok_bind (mul_ok g0 g3 (((hp.1.mul hp.1).add (hp.2.mul hp.2)).mono (by decide)) (a1.mono (by decide))) ?_
  rintro _ rfl
  trivial
  refine ok_bind (plus_ok g0 g1 (((a4.add a5).sub (rb_two.mul ((hp.1.mul a2).add (hp.2.mul a3)))).mono (by decide)) ((((hp.1.mul hp.1).add (hp.2.mul hp.2)).mul a1).mono (by decide))) ?_
  rintro _ rfl
  trivial
  rfl
theorem cost_ok (g0 : Gt 0 = some F0) (g1 : Gt 1 = some F1) (g2 : Gt 2 = some F2) (g3 : Gt 3 = some F3) (g8 : Gt 8 = some F8) (g132 : Gt 132 = some F132) (g162 : Gt 162 = some F162) (g422 : Gt 422 = some F422) (g247 : Gt 247 = some F247) (g248 : Gt 248 = some F248) (g506 : Gt 506 = some F506) (g507 : Gt 507 = some F507) (g : Gt 508 = some F508)
    {A C : List (List Pt)} {pa pb pc : Pt} (hA : Gs A) (hC : Gs C) (ha : PB 22 pa) (hc : PB 22 pc) : Ok (callF Gt w (k + 8) 508 [(.z, depD pa pb pc), (.z, dctD (rsD A) (rsD C))]) (· = ((.z, rD (cst (fun i => psum i A) pa + cst (fun i => psum i C) pc)), [(.z, depD pa pb pc), (.z, dctD (rsD A) (rsD C))])) := by
  refine ok_def 2 g rfl rfl ?_
  refine ok_seq ?_
  trivial
  rw [show depD pa pb pc = .list [.tuple [.str "a", pD pa], .tuple [.str "b", pD pb], .tuple [.str "c", pD pc]] from rfl]
  trivial
  simp only [plainAt, List.all_cons, List.all_nil, getO]
  trivial
  simp only [noneAt]
  trivial
  refine ok_bind (P := fun x => x.1 = [rD (cst (fun i => psum i A) pa), rD (cst (fun i => psum i C) pc)] ∧ x.2 = [some (.z, depD pa pb pc), some (.z, dctD (rsD A) (rsD C)), none, none]) ?_ ?_
  · refine ok_tn (by simp) ?_
    trivial
    rw [in_a]
    trivial
    rw [ix_da]
    trivial
    refine ok_bind (costof_ok g0 g1 g2 g3 g8 g132 g162 g422 g247 g248 g506 g507 hA ha) ?_
    rintro _ rfl
    trivial
    simp only [noneAt]
    trivial
    refine ok_tn (by simp) ?_
    trivial
    rw [in_b]
    trivial
    simp only [noneAt]
    trivial
    refine ok_tn (by simp) ?_
    trivial
    rw [in_c]
    trivial
    rw [ix_dc]
    trivial
    refine ok_bind (costof_ok g0 g1 g2 g3 g8 g132 g162 g422 g247 g248 g506 g507 hC hc) ?_
    rintro _ rfl
    trivial
    simp only [noneAt]
    trivial
    exact tn_nil.mpr ⟨rfl, rfl⟩
  rintro ⟨_, _⟩ ⟨rfl, rfl⟩
  simp only [restore, getO]
  trivial
  have b1 := cst_rb (f := fun i => psum i A) (fun i hi => hA.rb hi) ha
  have b2 := cst_rb (f := fun i => psum i C) (fun i hi => hC.rb hi) hc
  refine ok_bind (sum_big (l := [cst (fun i => psum i A) pa, cst (fun i => psum i C) pc]) (b := 1500) (n := 2) g0 g1 g8 (by
    intro r hr
    simp only [List.mem_cons, List.not_mem_nil, or_false] at hr
    rcases hr with rfl | rfl
    · exact b1
    · exact b2) (by simp) (by decide)) ?_
  rintro _ rfl
  trivial
  have e2 : ∀ x y : Rat, fsum [x, y] = x + y := fun x y => by
    unfold fsum
    simp only [List.foldl_cons, List.foldl_nil]
    grind
  rw [e2]
theorem lcost_ok (g143 : Gt 143 = some F143) (g171 : Gt 171 = some F171) (g172 : Gt 172 = some F172) (g173 : Gt 173 = some F173) (g174 : Gt 174 = some F174) (g176 : Gt 176 = some F176) (g : Gt 253 = some F253) {f : Nat → Rat} {p : Pt} (h : ∀ i, i < 6 → RB 250 (f i)) (hp : PB 22 p) :
    Ok (callF Gt w (k + 5) 253 [(.z, .tuple (sixL f)), (.z, pD p)]) (· = ((.z, rD (cst f p)), [(.z, .tuple (sixL f)), (.z, pD p)])) := by
  have a1 := h 0 (by decide)
  have a2 := h 1 (by decide)
  have a3 := h 2 (by decide)
  have a4 := h 3 (by decide)
  have a5 := h 5 (by decide)
  have sq := ((hp.1.mul hp.1).add (hp.2.mul hp.2)).mul a1
  have ld := (hp.1.mul a2).add (hp.2.mul a3)
  rw [six_list]
  refine ok_def 2 g rfl rfl ?_
  refine ok_seq ?_
  trivial
  refine ok_bind (lmul_ok g143 g171 g174 (hp.1.mono (by decide)) (hp.1.mono (by decide))) ?_
  rintro _ rfl
  trivial
  refine ok_bind (lmul_ok g143 g171 g174 (hp.2.mono (by decide)) (hp.2.mono (by decide))) ?_
  rintro _ rfl
  trivial
  refine ok_bind (ladd_ok g143 g171 g172 ((hp.1.mul hp.1).mono (by decide)) ((hp.2.mul hp.2).mono (by decide))) ?_
  rintro _ rfl
  trivial
  refine ok_bind (lmul_ok g143 g171 g174 (((hp.1.mul hp.1).add (hp.2.mul hp.2)).mono (by decide)) (a1.mono (by decide))) ?_
  rintro _ rfl
  trivial
  refine ok_seq ?_
  trivial
  refine ok_bind (lmul_ok g143 g171 g174 (hp.1.mono (by decide)) (a2.mono (by decide))) ?_
  rintro _ rfl
  trivial
  refine ok_bind (lmul_ok g143 g171 g174 (hp.2.mono (by decide)) (a3.mono (by decide))) ?_
  rintro _ rfl
  trivial
  refine ok_bind (ladd_ok g143 g171 g172 ((hp.1.mul a2).mono (by decide)) ((hp.2.mul a3).mono (by decide))) ?_
  rintro _ rfl
  trivial
  refine ok_seq ?_
  trivial
  refine ok_bind (lsum_big (l := [f 3, f 5, (p.1 * p.1 + p.2 * p.2) * f 0]) (b := 350) (n := 3) g143 g171 g172 g176 (three_rb (a4.mono (by decide)) (a5.mono (by decide)) (sq.mono (by decide))) (by simp) (by decide)) ?_
  rintro _ rfl
  rw [fsum3]
  trivial
  rw [← rD_two]
  refine ok_bind (lmul_ok g143 g171 g174 (rb_two.mono (by decide)) (ld.mono (by decide))) ?_
  rintro _ rfl
  trivial
  refine ok_bind (lsub_ok g143 g171 g173 (((a4.add a5).add sq).mono (by decide)) ((rb_two.mul ld).mono (by decide))) ?_
  rintro _ rfl
  trivial
  have e : f 3 + f 5 + (p.1 * p.1 + p.2 * p.2) * f 0 - 2 * (p.1 * f 1 + p.2 * f 2) = cst f p := by
    unfold cst
    grind
  rw [e]
end
end
theorem sum_flat {us : List (List Sp)} {f : Sp → Pt} : ((us.map (·.map f)).flatMap pcs).length = (us.map List.length).sum := by
  induction us with
  | nil => rfl
  | cons r us ih =>
    rw [List.map_cons, List.flatMap_cons, List.length_append, ih, pcs_len, List.length_map, List.map_cons, List.sum_cons]
theorem le_sum {us : List (List Sp)} {r : List Sp} (h : r ∈ us) : r.length ≤ (us.map List.length).sum := by
  induction us with
  | nil => simp at h
  | cons q us ih =>
    rw [List.map_cons, List.sum_cons]
    rcases List.mem_cons.mp h with rfl | h
    · omega
    · have := ih h
      omega
theorem tsel_all {ts : List T3} {ks : List Nat} (ht : ∀ t ∈ ts, TOk t) (hk : ∀ j ∈ ks, j < ts.length) : ∀ t ∈ tsel ts ks, TOk t := by
  intro t h1
  unfold tsel at h1
  obtain ⟨j, hj, rfl⟩ := List.mem_map.mp h1
  have := hk j hj
  rw [List.getD_eq_getElem?_getD, List.getElem?_eq_getElem this]
  exact ht _ (List.getElem_mem this)
theorem facts {c0 c1 c2 c3 c4 c5 : Rat} {ts : List T3} {ks : List Nat} {us : List (List Sp)} (h : RB 2 c0 ∧ RB 2 c1 ∧ RB 2 c2 ∧ RB 2 c3) (h2 : RB 22 c4 ∧ RB 22 c5) (ht : ∀ t ∈ ts, TOk t) (hl : ks.length ≤ 18) (hk : ∀ j ∈ ks, j < ts.length) (hs : Shp (tsel ts ks) us) :
    Gs (us.map (·.map (ph c0 c1 c2 c3 c4 c5))) ∧ (∀ i, psum i (us.map (·.map (ph c0 c1 c2 c3 c4 c5))) = tsum i (ph c0 c1 c2 c3 c4 c5) (tsel ts ks)) := by
  obtain ⟨M, B, m0, m1, b1, hz⟩ := sizes h h2
  refine ⟨⟨?_, ?_, ?_, ?_⟩, fun i => psum_tsum hs⟩
  · intro r hr
    obtain ⟨q, hq, rfl⟩ := List.mem_map.mp hr
    have := le_sum hq
    have := hs.2.1
    rw [List.length_map]
    omega
  · rw [sum_flat]
    have := hs.2.1
    omega
  · intro r hr p hp
    obtain ⟨q, hq, rfl⟩ := List.mem_map.mp hr
    obtain ⟨s, h8, rfl⟩ := List.mem_map.mp hp
    exact mp_pb34 h.1 h.2.1 h.2.2.1 h.2.2.2 h2.1 h2.2 (ip_pb ((hs.1 q hq).2 s h8))
  · intro i k hi
    refine sm_rb m0 m1 b1 ?_ ?_
    · rw [List.length_take, sum_flat]
      have := hs.2.1
      omega
    · intro z hz'
      have hz' := List.mem_of_mem_take hz'
      obtain ⟨r, hr, hz'⟩ := List.mem_flatMap.mp hz'
      obtain ⟨q, hq, rfl⟩ := List.mem_map.mp hr
      rw [pcs_rd] at hz'
      obtain ⟨b, hb, rfl⟩ := List.mem_map.mp hz'
      obtain ⟨j, hj, rfl⟩ := List.mem_map.mp hb
      have hj := List.mem_range.mp hj
      have h8 := (hs.1 q hq).2
      have mem : ∀ j, j < q.length → sm8 (q.getD j z0) := fun j hj => by
        rw [List.getD_eq_getElem?_getD, List.getElem?_eq_getElem hj]
        exact h8 _ (List.getElem_mem hj)
      exact hz i hi _ _ (mem _ hj) (mem _ (Nat.mod_lt _ (by omega)))
theorem facts2 {c0 c1 c2 c3 c4 c5 : Rat} {ts : List T3} {ks : List Nat} (h : RB 2 c0 ∧ RB 2 c1 ∧ RB 2 c2 ∧ RB 2 c3) (h2 : RB 22 c4 ∧ RB 22 c5) (ht : ∀ t ∈ ts, TOk t) (hl : ks.length ≤ 18) (hk : ∀ j ∈ ks, j < ts.length) :
    (∀ i k, i < 6 → RB 250 (tsum i (ph c0 c1 c2 c3 c4 c5) ((tsel ts ks).take k))) ∧ (∀ i, i < 6 → ∀ s t u, sm8 s → sm8 t → sm8 u → RB 1000 (tri i (ph c0 c1 c2 c3 c4 c5 s) (ph c0 c1 c2 c3 c4 c5 t) (ph c0 c1 c2 c3 c4 c5 u))) := by
  obtain ⟨M, B, m0, m1, b1, hz⟩ := sizes h h2
  have hta := tsel_all ht hk
  constructor
  · intro i k hi
    rw [tsum_te]
    refine sm_rb m0 m1 b1 ?_ ?_
    · rw [te_len, List.length_take]
      have : (tsel ts ks).length = ks.length := by unfold tsel; rw [List.length_map]
      omega
    · intro b hb
      obtain ⟨t, h1, h3⟩ := List.mem_flatMap.mp hb
      have h8 := te_sm8 (hta t (List.mem_of_mem_take h1)) h3
      exact hz i hi _ _ h8.1 h8.2
  · intro i hi s t u hs htt hu
    have := tri_sz (hz i hi u s hu hs) (hz i hi s t hs htt) (hz i hi t u htt hu)
    exact (this.rb m0 (by omega) m1).mono (by decide)
def nmD (i : Nat) : D := match i with
  | 0 => .str "a"
  | 1 => .str "b"
  | _ => .str "c"
def dcs (i : Nat) (A C : D) : D := match i with
  | 0 => .dict []
  | 1 => dct1 A
  | 2 => dct1 A
  | _ => dctD A C
def whs (i : Nat) (a c : Rat) : Rat := match i with
  | 0 => 0
  | 1 => a
  | 2 => a
  | _ => a + c
theorem sm_six {f : Nat → Rat} : Sm 2 (.tuple (sixL f)) := by
  refine sm_tuple (by rw [six_len]; decide) fun x hx => ?_
  obtain ⟨i, _, rfl⟩ := List.mem_map.mp hx
  exact sm_rD
section
local macro_rules
  | `(tactic| trivial) => `(tactic| simp only [exQ, evE, evA, evT, evI, sees, Mi.plain, hands, backs, add_int, sub_int, sub_bool, mul_int, fdiv_int, mod_int, neg_int, lt_int, le_int, gt_int, ge_int, len_list, len_tup, abs_int, toInt_int, toInt_bool, toList_list, toList_tup, toTuple_list, toTuple_tup, ixl, ixt, it_l, it_t, asg_n, asg_t, asg_l, asg_ul, rev_l, gcd_int, pow_int, isnot_n, isnot_b, binds, getO, rd_z, rd_uz, pr, ix_rD0, ix_rD1, ix_pD0, ix_pD1, ix_qD0, ix_qD1, items_qD, asg_qD, asg_q2, asg_sD, asg_pD, ix_sD0, ix_sD1, at4, at5, at6, ix_q0, ix_q1, it_g, ix_b0, ix_b1, it_r, lp_nil, lpt_nx, lpt_ct, lpt_bk, lpt_rt, eq_pD, ne_rD, is_1, is_2, isi_1, isi_2, isi_3, isi_4, isi_5, isi_6, isi_7, Nat.reduceBEq, nonD_1, nonD_2, nonD_3, nonD_4, nonD_5, nonD_6, nonD_7, blD_1, blD_2, blD_3, blD_4, blD_5, blD_6, blD_7, bt1, bt2, beq_self_eq_true, zd, ud, Option.bind_some, Option.map_some, Option.bind_none, Option.bind_assoc,
      List.map_cons, List.map_nil, List.cons_append, List.nil_append, List.append_nil, List.length_cons, List.length_nil, List.replicate_succ, List.replicate_zero, List.getElem?_cons_zero, List.getElem?_cons_succ, List.set_cons_zero, List.set_cons_succ, List.any_cons, List.any_nil, id, Nat.reduceAdd, Nat.reduceSub, Nat.reduceLT, Nat.reduceLeDiff, Nat.lt_add_one, Nat.reduceEqDiff, Nat.one_ne_zero, if_true, if_false, reduceIte, List.not_mem_nil, List.mem_singleton, outs, decide_true, decide_false, Bool.or_false, Bool.false_or, Bool.or_true, Bool.true_or, Bool.and_true, Bool.true_and, Bool.and_false, Bool.false_and, Bool.not_true, Bool.not_false, Bool.false_eq_true, ok_some, then_nx, then_rt, then_bk, then_ct, done_rt, done_nx, not_true_eq_false, not_false_eq_true, le_size, lt_size, prEq_int, prNe_int, exB_nil, List.isEmpty_nil, List.isEmpty_cons, at0, at1, at2, at3])
theorem g0 : find tab 0 = some F0 := rfl
theorem g1 : find tab 1 = some F1 := rfl
theorem g2 : find tab 2 = some F2 := rfl
theorem g3 : find tab 3 = some F3 := rfl
theorem g8 : find tab 8 = some F8 := rfl
theorem g14 : find tab 14 = some F14 := rfl
theorem g15 : find tab 15 = some F15 := rfl
theorem g16 : find tab 16 = some F16 := rfl
theorem g17 : find tab 17 = some F17 := rfl
theorem g18 : find tab 18 = some F18 := rfl
theorem g19 : find tab 19 = some F19 := rfl
theorem g132 : find tab 132 = some F132 := rfl
theorem g142 : find tab 142 = some F142 := rfl
theorem g143 : find tab 143 = some F143 := rfl
theorem g162 : find tab 162 = some F162 := rfl
theorem g171 : find tab 171 = some F171 := rfl
theorem g172 : find tab 172 = some F172 := rfl
theorem g173 : find tab 173 = some F173 := rfl
theorem g174 : find tab 174 = some F174 := rfl
theorem g175 : find tab 175 = some F175 := rfl
theorem g176 : find tab 176 = some F176 := rfl
theorem g177 : find tab 177 = some F177 := rfl
theorem g179 : find tab 179 = some F179 := rfl
theorem g180 : find tab 180 = some F180 := rfl
theorem g187 : find tab 187 = some F187 := rfl
theorem g199 : find tab 199 = some F199 := rfl
theorem g200 : find tab 200 = some F200 := rfl
theorem g201 : find tab 201 = some F201 := rfl
theorem g247 : find tab 247 = some F247 := rfl
theorem g248 : find tab 248 = some F248 := rfl
theorem g249 : find tab 249 = some F249 := rfl
theorem g250 : find tab 250 = some F250 := rfl
theorem g251 : find tab 251 = some F251 := rfl
theorem g253 : find tab 253 = some F253 := rfl
theorem g422 : find tab 422 = some F422 := rfl
theorem g506 : find tab 506 = some F506 := rfl
theorem g507 : find tab 507 = some F507 := rfl
theorem g508 : find tab 508 = some F508 := rfl
theorem g509 : find tab 509 = some F509 := rfl
theorem g512 : find tab 512 = some F512 := rfl
theorem g514 : find tab 514 = some F514 := rfl
theorem g515 : find tab 515 = some F515 := rfl
theorem g516 : find tab 516 = some F516 := rfl
def Inv (ns : List Int) (ρ : Ev) : Prop := ∃ d, PoolOk ns d ∧ ∃ x2 x3 x4 x5 x6 x7 x8 x9 x10 x11 x12 : Option SD, ρ = [some (.z, scriptD ns), some (.u .z, d), x2, x3, x4, x5, x6, x7, x8, x9, x10, x11, x12]
theorem law_ok {w k : Nat} {ns : List Int} : Ok (callF (find tab) w (k + 13) 516 [(.z, scriptD ns)]) (fun x => x.1 = (.z, .bool true)) := by
  refine ok_def 12 g516 rfl rfl ?_
  refine ok_seq ?_
  trivial
  refine ok_bind (pool_ok g14 g15 g16) ?_
  rintro _ ⟨d0, hd0, rfl⟩
  trivial
  refine ok_seq ?_
  trivial
  rw [if_pos (by decide)]
  trivial
  refine ok_loop (fun _ ρ => Inv ns ρ) ⟨d0, hd0, none, none, none, none, none, none, none, none, none, none, none, rfl⟩ ?_ ?_
  · rintro i pr ρ _ ⟨d, hd, x2, x3, x4, x5, x6, x7, x8, x9, x10, x11, x12, rfl⟩
    trivial
    refine ok_seq ?_
    trivial
    refine ok_bind (next_ok g14 g15 g17 hd) ?_
    rintro _ ⟨d1, hd1, rfl⟩
    trivial
    refine ok_seq ?_
    trivial
    refine ok_bind (draw_ok g14 g15 g18 hd1 (show (0 : Int) < 3 by decide) (bd_of (by decide) (by decide))) ?_
    rintro _ ⟨d2, W, hd2, hW0, hW1, rfl⟩
    trivial
    refine ok_bind (draw_ok g14 g15 g18 hd2 (show (0 : Int) < 3 by decide) (bd_of (by decide) (by decide))) ?_
    rintro _ ⟨d3, H, hd3, hH0, hH1, rfl⟩
    trivial
    refine ok_bind (grid_ok g14 g15 g18 g199 hd3 ⟨by omega, by omega⟩ ⟨by omega, by omega⟩) ?_
    rintro _ ⟨d4, ts, hd4, htl, ht, rfl⟩
    trivial
    refine ok_seq ?_
    trivial
    refine ok_bind (map_ok g14 g15 g18 g19 g143 g171 g173 g174 g179 g249 hd4) ?_
    rintro _ ⟨d5, c0, c1, c2, c3, c4, c5, hd5, hc, hc2, rfl⟩
    trivial
    refine ok_seq ?_
    trivial
    refine ok_bind (lpoint_ok g14 g15 g18 g143 g171 g179 g180 hd5 (by decide) (by decide)) ?_
    rintro _ ⟨d6, pa, hd6, hpa, rfl⟩
    trivial
    refine ok_bind (lpoint_ok g14 g15 g18 g143 g171 g179 g180 hd6 (by decide) (by decide)) ?_
    rintro _ ⟨d7, pb, hd7, hpb, rfl⟩
    trivial
    refine ok_bind (lpoint_ok g14 g15 g18 g143 g171 g179 g180 hd7 (by decide) (by decide)) ?_
    rintro _ ⟨d8, pe, hd8, hpe, rfl⟩
    trivial
    refine ok_seq ?_
    trivial
    simp only [prDict0]
    trivial
    refine ok_seq ?_
    trivial
    rw [← rD_zero]
    refine ok_seq ?_
    trivial
    refine ok_loop (fun j ρ => ∃ (d : D) (A C : List (List Pt)) (s : S) (x8 x9 x10 x11 x12 : Option SD), PoolOk ns d ∧ (0 < j → Gs A) ∧ (2 < j → Gs C) ∧ (s = .u .z ∨ s = .z) ∧ ρ = [some (.z, scriptD ns), some (.u .z, d), some (.z, pr), some (s, .list (ts.map tD)), some (s, chD c0 c1 c2 c3 c4 c5), some (.z, depD pa pb pe), some (.u .z, dcs j (rsD A) (rsD C)), some (.z, rD (whs j (cst (fun i => psum i A) pa) (cst (fun i => psum i C) pe))), x8, x9, x10, x11, x12])
      ⟨d8, [], [], .u .z, _, _, _, _, _, hd8, by simp, by simp, .inl rfl, rfl⟩ ?_ ?_
    · rintro j dd ρ he ⟨d, A, C, s, x8, x9, x10, x11, x12, hd, hA, hC, hs, rfl⟩
      obtain ⟨p, hp, hj, rfl⟩ : ∃ p, PB 22 p ∧ (j = 0 ∧ p = pa ∨ j = 1 ∧ p = pb ∨ j = 2 ∧ p = pe) ∧ dd = .tuple [nmD j, pD p] := by
        match j, he with
        | 0, he => simp at he; exact ⟨pa, hpa, .inl ⟨rfl, rfl⟩, he.symm⟩
        | 1, he => simp at he; exact ⟨pb, hpb, .inr (.inl ⟨rfl, rfl⟩), he.symm⟩
        | 2, he => simp at he; exact ⟨pe, hpe, .inr (.inr ⟨rfl, rfl⟩), he.symm⟩
        | j + 3, he => simp at he
      rcases hs with rfl | rfl
      all_goals
        trivial
        refine ok_seq ?_
        trivial
        refine ok_bind (tiles_ok g14 g15 g18 g19 g200 hd htl) ?_
        rintro _ ⟨d1, ks, hd1, hkl, hk, rfl⟩
        trivial
        refine ok_seq ?_
        trivial
        refine ok_bind (shape_ok g14 g15 g18 g143 g171 g172 g174 g176 g187 g201 g509 g514 g515 hd1 hc hc2 ht hkl hk) ?_
        rintro _ ⟨d2, us, hd2, hus, rfl⟩
        obtain ⟨hg, hps⟩ := facts hc hc2 ht hkl hk hus
        obtain ⟨hf1, hf2⟩ := facts2 hc hc2 ht hkl hk
        have hps : (fun i => psum i (us.map (·.map (ph c0 c1 c2 c3 c4 c5)))) = fun i => tsum i (ph c0 c1 c2 c3 c4 c5) (tsel ts ks) := funext hps
        trivial
        refine ok_seq ?_
        trivial
        refine ok_bind (lmom_ok g143 g171 g172 g173 g174 g175 g176 g177 g187 g250 g251 g512 hc hc2 ht hkl hk (fun i k hi => (hf1 i k hi).mono (by decide)) hf2) ?_
        rintro _ rfl
        trivial
        generalize us.map (·.map (ph c0 c1 c2 c3 c4 c5)) = R at hg hps ⊢
        rw [← hps]
        have hrb : ∀ i, i < 6 → RB 250 ((fun i => psum i R) i) := fun i hi => hg.rb hi
        refine ok_seq ?_
        trivial
        refine ok_bind (moments_ok g0 g1 g2 g3 g8 g132 g162 g422 g247 g248 g506 hg.a hg.b hg.c fun i k hi => (hg.d i k hi).mono (by decide)) ?_
        rintro _ rfl
        trivial
        refine ok_bind (same_ok (k := k + 9) g142 2 _ sm_six) ?_
        rintro _ rfl
        trivial
        refine ok_bind (lcost_ok g143 g171 g172 g173 g174 g176 g253 hrb hp) ?_
        rintro _ rfl
        trivial
        refine ok_bind (costof_ok g0 g1 g2 g3 g8 g132 g162 g422 g247 g248 g506 g507 hg hp) ?_
        rintro _ rfl
        trivial
        refine ok_bind (same_ok (k := k + 10) g142 1 _ sm_rD) ?_
        rintro _ rfl
        trivial
        refine ok_seq ?_
        trivial
        have hcb := cst_rb hrb hp
        rcases hj with ⟨rfl, rfl⟩ | ⟨rfl, rfl⟩ | ⟨rfl, rfl⟩
        · rw [show nmD 0 = .str "a" from rfl, show dcs 0 (rsD A) (rsD C) = .dict [] from rfl]
          trivial
          rw [ne_ab]
          trivial
          refine ok_seq ?_
          trivial
          rw [sto_a]
          trivial
          refine ok_seq ?_
          trivial
          refine ok_bind (lcost_ok g143 g171 g172 g173 g174 g176 g253 hrb hp) ?_
          rintro _ rfl
          trivial
          refine ok_bind (ladd_ok g143 g171 g172 (rb_zero.mono (by decide)) (hcb.mono (by decide))) ?_
          rintro _ rfl
          trivial
          rw [show ∀ a c, whs 0 a c = 0 from fun _ _ => rfl, Rat.zero_add]
          exact ⟨d2, R, [], .z, _, _, _, _, _, hd2, fun _ => hg, fun h => absurd h (by decide), .inr rfl, rfl⟩
        · rw [show nmD 1 = .str "b" from rfl]
          trivial
          rw [ne_bb]
          trivial
          exact ⟨d2, A, C, .z, _, _, _, _, _, hd2, fun _ => hA (by omega), fun h => absurd h (by decide), .inr rfl, rfl⟩
        · rw [show nmD 2 = .str "c" from rfl, show dcs 2 (rsD A) (rsD C) = dct1 (rsD A) from rfl]
          trivial
          rw [ne_cb]
          trivial
          refine ok_seq ?_
          trivial
          rw [sto_c]
          trivial
          refine ok_seq ?_
          trivial
          refine ok_bind (lcost_ok g143 g171 g172 g173 g174 g176 g253 hrb hp) ?_
          rintro _ rfl
          trivial
          refine ok_bind (ladd_ok g143 g171 g172 ((cst_rb (f := fun i => psum i A) (fun i hi => (hA (by omega)).rb hi) hpa).mono (by decide)) (hcb.mono (by decide))) ?_
          rintro _ rfl
          trivial
          exact ⟨d2, A, R, .z, _, _, _, _, _, hd2, fun _ => hA (by omega), fun _ => hg, .inr rfl, rfl⟩
    · rintro ρ ⟨d, A, C, s, x8, x9, x10, x11, x12, hd, hA, hC, hs, rfl⟩
      have gA := hA (by simp)
      have gC := hC (by simp)
      trivial
      rw [show ∀ a c, dcs 3 a c = dctD a c from fun _ _ => rfl, show ∀ a c, whs 3 a c = a + c from fun _ _ => rfl]
      refine ok_seq ?_
      trivial
      refine ok_bind (cost_ok g0 g1 g2 g3 g8 g132 g162 g422 g247 g248 g506 g507 g508 gA gC hpa hpe) ?_
      rintro _ rfl
      trivial
      refine ok_bind (same_ok (k := k + 10) g142 1 _ sm_rD) ?_
      rintro _ rfl
      trivial
      exact ⟨d, hd, _, _, _, _, _, _, _, _, _, _, _, rfl⟩
  · rintro ρ ⟨d, hd, x2, x3, x4, x5, x6, x7, x8, x9, x10, x11, x12, rfl⟩
    trivial
    refine ok_seq ?_
    trivial
    rw [if_pos (by decide)]
    trivial
    rw [six_zero]
    refine ok_bind (moments_ok (rs := []) g0 g1 g2 g3 g8 g132 g162 g422 g247 g248 g506 (by simp) (by simp) (by simp) (fun i k _ => by simpa [sm] using rb_zero.mono (by decide))) ?_
    rintro _ rfl
    trivial
    refine ok_bind (same_ok (k := k + 9) g142 2 _ sm_six) ?_
    rintro _ rfl
    trivial
theorem pure_ok {w : Nat} (ns : List Int) (_ : ns.length ≤ 63) : ∃ s os, callF (find tab) w 200 516 [(.z, scriptD ns)] = some ((s, .bool true), os) := by
  obtain ⟨⟨⟨s, d⟩, os⟩, e, h⟩ := law_ok (w := w) (k := 187) (ns := ns)
  cases h
  exact ⟨_, _, e⟩
end
end K41
namespace K41
open PySem PySem.Spec PyProof.Rows L2 Mi
/-! ### the head -/
def prog : Program := PySem.Challenge.pw_zonehouse_k41_moments_and_costs
def nameOf : Stmt → Option Str
  | .FunctionDef n _ _ _ _ _ _ _ _ _ => some n
  | .Assign [.Name x _] _ _ => some x
  | _ => none
def dOf (s : Stmt) : He.DefD := match s with
  | .FunctionDef n a b _ _ _ sc _ _ _ => ⟨(n, none), n, n, a, b, sc, [], []⟩
  | _ => ⟨("law", none), "law", "law", defArgs s, defBody s, defScope s, [], []⟩
def isDef : Stmt → Bool
  | .FunctionDef _ _ _ _ _ _ _ _ _ _ => true
  | _ => false
def dds : List He.DefD := (prog.main.body.filter isDef).map dOf
def lawIx : Nat := prog.main.body.length - 1
def loose : List Str := (prog.main.body.dropLast.filterMap nameOf).eraseDups
abbrev R : PySem.W.OpenRow := PySem.W.OpenLaw.row PySem.Challenge.rw_zonehouse_k41_moments_and_costs
def ob (s : PySem.W.SharedT) : He.AlD × Bool := looksM 4 gl bf dds (HandSHeadRun.getT s)
theorem run (w : World) : HandSHeadRun.RunEqI R (PySem.W.view R.prog [0, lawIx]) (hookM 4 gl bf dds) ob 6000 loose w := by
  unfold HandSHeadRun.RunEqI
  kernel_rfl
theorem tab_ok : tabB tab gl bf tab dds = true := by decide +kernel
theorem room : Room 200 callerA := ⟨rfl, by decide, by decide⟩
/-- the law, from its run -/
theorem holds_of {w : Nat} (pure : ∀ ns : List Int, ns.length ≤ 63 → ∃ s os, callF (find tab) w 200 516 [(.z, scriptD ns)] = some ((s, .bool true), os)) : PySem.W.OpenRow.Holds R := by
  refine HandSHeadRun.head_imp (r := R) (q := PySem.W.view R.prog [0, lawIx]) (H := hookM 4 gl bf dds) (ob := ob) (M := 6000) (loose := loose) (d := HandSHeadRun.topDef R.prog lawIx) (kwd := []) (fun s => looksM_eq (HandSHeadRun.getT_eq s)) run
    (by kernel_rfl) (by kernel_rfl) (by kernel_rfl) (by rfl) (by first | assumption | decide +kernel) (by decide +kernel) ⟨rfl, rfl, rfl, rfl, rfl, by decide +kernel⟩ ?hw ?hc
  case hw => w_witness2
  case hc => exact mi_walk (l := PySem.Challenge.rw_zonehouse_k41_moments_and_costs) (fn := F516) (k := 200) rfl (by kernel_rfl) room tab_ok rfl rfl (by kernel_rfl) pure
end K41
open PySem PySem.W PySem.Calls PyProof.Rows
theorem PySem.Challenge.cw_zonehouse_k41_moments_and_costs_holds : PySem.Challenge.rw_zonehouse_k41_moments_and_costs.Holds := by
  w_on; o_law
  exact K41.holds_of (w := 0) K41.pure_ok
