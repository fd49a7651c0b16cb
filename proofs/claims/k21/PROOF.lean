import PyProof.Rows.All
import Wide.All
import OpenK.AllK
import Wide.FinOn
import HandS.ForMost
import HandS.ForExc
import HandS.EndBits
import HandS.Wide
import HandS.Flow
import HandS.TupAny
import HandS.Exc
import HandS.ExcField
import HandS.ExcIs
import HandS.ExcInit
import HandS.TryMany
import HandS.Lambda
import HandS.Style
import HandS.Deep
import HandS.IsInst
import HandS.RaiseMore
import HandS.TupLe
import PyProof.ReprLen
import HandS.Conv
import HandS.Dict
import HandS.More
import HandS.TupSets
import HandS.Zip
import HandS.TupMul
import KE.GoesMore
import KE.KExcSuper
import KE.KExcLine
import HandS.ExcOwn
import HandS.ExcSuper
import KE.KExcIs
import HandS.Star
import HandS.ExcBuiltin
import KE.DataFind
import HandS.Iter
import HandS.SortInts
import HandS.Strs
import KE.KStar
import PyProof.EqKinds
import PyProof.EqAt
import PyProof.StrLawsRepr
import KE.KCallOwn
import KE.SortData
import HandS.FStr
import HandS.Text
import PySem.Challenge.RW_smallchange_k21_texts_of_ways
set_option Elab.async false
set_option linter.all false
set_option maxRecDepth 100000
set_option maxHeartbeats 4000000
/-! L3: the hand layer read over plain data. D: data without addresses; Rep: a value stands for data in a heap. -/
namespace L3
open PySem L2

inductive D where
  | non | bl (b : Bool) | int (i : Int) | str (x : Str) | opq (v : V)
  | tup (xs : List D) | lst (xs : List D) | dct (ks : List (Key × D)) | ins (C : Addr) (fs : List (Str × D)) | pt (ns : List Int)

mutual
inductive Rep (K : PySem.W.Frag) (H : Hp) : V → D → Prop
  | non : Rep K H .non .non
  | bl (b : Bool) : Rep K H (.bl b) (.bl b)
  | int (i : Int) : Rep K H (.int i) (.int i)
  | str (x : Str) : Rep K H (.str x) (.str x)
  | opq (v : V) : Rep K H v (.opq v)
  | tup {a : Addr} {vs : List V} {ds : List D} : SqT K H a vs → RepL K H vs ds → Rep K H (.ref a) (.tup ds)
  | lst {a : Addr} {vs : List V} {ds : List D} : H a = some (.lst vs) → RepL K H vs ds → Rep K H (.ref a) (.lst ds)
  | dct {a : Addr} {vs : List (Key × V)} {ds : List (Key × D)} : H a = some (.dK vs) → RepK K H vs ds → Rep K H (.ref a) (.dct ds)
  | ins {a dx C : Addr} {vs : List (Str × V)} {ds : List (Str × D)} : H a = some (.ins C dx vs) → H dx = some (.own a) → RepF K H vs ds → Rep K H (.ref a) (.ins C ds)
  | pt {a : Addr} {ob : Obj} {ns : List Int} : H a = some (.frz ob (.tup (ns.map V.int))) → ob.dict = none → Rep K H (.ref a) (.pt ns)
inductive RepL (K : PySem.W.Frag) (H : Hp) : List V → List D → Prop
  | nil : RepL K H [] []
  | cons {v : V} {vs : List V} {d : D} {ds : List D} : Rep K H v d → RepL K H vs ds → RepL K H (v :: vs) (d :: ds)
inductive RepK (K : PySem.W.Frag) (H : Hp) : List (Key × V) → List (Key × D) → Prop
  | nil : RepK K H [] []
  | cons {k : Key} {v : V} {vs : List (Key × V)} {d : D} {ds : List (Key × D)} : Rep K H v d → RepK K H vs ds → RepK K H ((k, v) :: vs) ((k, d) :: ds)
inductive RepF (K : PySem.W.Frag) (H : Hp) : List (Str × V) → List (Str × D) → Prop
  | nil : RepF K H [] []
  | cons {k : Str} {v : V} {vs : List (Str × V)} {d : D} {ds : List (Str × D)} : Rep K H v d → RepF K H vs ds → RepF K H ((k, v) :: vs) ((k, d) :: ds)
end

theorem Same.sqT {K : PySem.W.Frag} {H H' : Hp} {a : Addr} {xs : List V} (e : Same H H') (h : SqT K H a xs) : SqT K H' a xs := by
  rcases h with (h | ⟨o, h⟩) | h
  · exact .inl (.inl (e _ _ h))
  · exact .inl (.inr ⟨o, e _ _ h⟩)
  · exact .inr h
theorem Same.rd {H H' : Hp} {a : Addr} {u : HO} (e : Same H H') (h : Rd H a u) : Rd H' a u := by
  rcases h with h | ⟨o, h⟩
  · exact .inl (e _ _ h)
  · exact .inr ⟨o, e _ _ h⟩

mutual
theorem Rep.mono {K : PySem.W.Frag} {H H' : Hp} (e : Same H H') : ∀ {v : V} {d : D}, Rep K H v d → Rep K H' v d
  | _, _, .non => .non
  | _, _, .bl b => .bl b
  | _, _, .int i => .int i
  | _, _, .str x => .str x
  | _, _, .opq v => .opq v
  | _, _, .tup s r => .tup (Same.sqT e s) (RepL.mono e r)
  | _, _, .lst s r => .lst (e _ _ s) (RepL.mono e r)
  | _, _, .dct s r => .dct (e _ _ s) (RepK.mono e r)
  | _, _, .ins s q r => .ins (e _ _ s) (e _ _ q) (RepF.mono e r)
  | _, _, .pt s q => .pt (e _ _ s) q
theorem RepL.mono {K : PySem.W.Frag} {H H' : Hp} (e : Same H H') : ∀ {v : List V} {d : List D}, RepL K H v d → RepL K H' v d
  | _, _, .nil => .nil
  | _, _, .cons a b => .cons (Rep.mono e a) (RepL.mono e b)
theorem RepK.mono {K : PySem.W.Frag} {H H' : Hp} (e : Same H H') : ∀ {v : List (Key × V)} {d : List (Key × D)}, RepK K H v d → RepK K H' v d
  | _, _, .nil => .nil
  | _, _, .cons a b => .cons (Rep.mono e a) (RepK.mono e b)
theorem RepF.mono {K : PySem.W.Frag} {H H' : Hp} (e : Same H H') : ∀ {v : List (Str × V)} {d : List (Str × D)}, RepF K H v d → RepF K H' v d
  | _, _, .nil => .nil
  | _, _, .cons a b => .cons (Rep.mono e a) (RepF.mono e b)
end
theorem RepF.get {K : PySem.W.Frag} {H : Hp} {f : Str} : ∀ {vs : List (Str × V)} {fs : List (Str × D)} {d : D}, RepF K H vs fs → fs.lookup f = some d → ∃ v, vs.lookup f = some v ∧ Rep K H v d
  | _, _, _, .nil, e => by cases e
  | _, _, d, .cons (k := k) a b, e => by
    rw [List.lookup_cons] at e ⊢
    by_cases h : f = k
    · have z : (f == k) = true := by simpa using h
      rw [z] at e ⊢
      cases e
      exact ⟨_, rfl, a⟩
    · have z : (f == k) = false := by simpa using h
      rw [z] at e ⊢
      exact RepF.get b e

section
variable {K : PySem.W.Frag} {H : Hp}
theorem RepL.length : ∀ {vs : List V} {ds : List D}, RepL K H vs ds → vs.length = ds.length
  | _, _, .nil => rfl
  | _, _, .cons _ t => by rw [List.length_cons, List.length_cons, RepL.length t]
theorem RepL.get : ∀ {vs : List V} {ds : List D}, RepL K H vs ds → ∀ {i : Nat} {d : D}, ds[i]? = some d → ∃ v, vs[i]? = some v ∧ Rep K H v d
  | _, _, .nil, _, _, e => by simp at e
  | _, _, .cons a _, 0, _, e => by
    simp at e
    subst e
    exact ⟨_, rfl, a⟩
  | _, _, .cons _ b, i + 1, _, e => by
    obtain ⟨v, q, r⟩ := RepL.get b (i := i) (by simpa using e)
    exact ⟨v, by simpa using q, r⟩
theorem RepL.getV : ∀ {vs : List V} {ds : List D}, RepL K H vs ds → ∀ {i : Nat} {v : V}, vs[i]? = some v → ∃ d, ds[i]? = some d ∧ Rep K H v d
  | _, _, .nil, _, _, e => by simp at e
  | _, _, .cons a _, 0, _, e => by
    simp at e
    subst e
    exact ⟨_, rfl, a⟩
  | _, _, .cons _ b, i + 1, _, e => by
    obtain ⟨v, q, r⟩ := RepL.getV b (i := i) (by simpa using e)
    exact ⟨v, by simpa using q, r⟩
theorem RepL.append : ∀ {vs ws : List V} {ds es : List D}, RepL K H vs ds → RepL K H ws es → RepL K H (vs ++ ws) (ds ++ es)
  | _, _, _, _, .nil, r => r
  | _, _, _, _, .cons a t, r => .cons a (RepL.append t r)
theorem RepL.take : ∀ {vs : List V} {ds : List D} (n : Nat), RepL K H vs ds → RepL K H (vs.take n) (ds.take n)
  | _, _, 0, _ => .nil
  | _, _, _ + 1, .nil => .nil
  | _, _, n + 1, .cons a t => .cons a (RepL.take n t)
theorem RepL.drop : ∀ {vs : List V} {ds : List D} (n : Nat), RepL K H vs ds → RepL K H (vs.drop n) (ds.drop n)
  | _, _, 0, r => r
  | _, _, _ + 1, .nil => .nil
  | _, _, n + 1, .cons _ t => RepL.drop n t
theorem RepL.set {v : V} {d : D} (r : Rep K H v d) : ∀ {vs : List V} {ds : List D} (n : Nat), RepL K H vs ds → RepL K H (vs.set n v) (ds.set n d)
  | _, _, _, .nil => .nil
  | _, _, 0, .cons _ t => .cons r t
  | _, _, n + 1, .cons a t => .cons a (RepL.set r n t)
theorem RepL.ints : ∀ ns : List Int, RepL K H (ns.map V.int) (ns.map D.int)
  | [] => .nil
  | n :: r => .cons (.int n) (RepL.ints r)
theorem RepL.ints_inv : ∀ {ns : List Int} {vs : List V}, RepL K H vs (ns.map D.int) → vs = ns.map V.int
  | [], _, .nil => rfl
  | _ :: _, _, .cons a t => by
    cases a
    rw [List.map_cons, RepL.ints_inv t]
end

/-! ### slots -/
/-- what a frame owns: a list, a dict, the deck [cells, n], an instance -/
inductive Ow where
  | ol (xs : List D) | od (ks : List (Key × D)) | dk (cs : List Int) (n : Int) | oi (C : Addr) (fs : List (Str × D))
  /-- a list of our own, where it stands told -/
  | olA (q : Addr) (xs : List D)
/-- a slot: nothing known; data that nobody changes any more; a thing of the frame's own (true: the caller's, lent) -/
inductive Sl where
  | un | fz (d : D) | ow (b : Bool) (o : Ow)
  /-- the caught exception: where, its class, its dict, its fields -/
  | xc (a : Addr) (cls : Value) (d : Option Addr) (fs : List (Str × D))
  /-- a lambda: its value, what it captured -/
  | cl (v : V) (vs : List V) (ds : List D) (c : Addr) (o : HO)
abbrev En := List Sl

/-- the fields of an exception, by its dict -/
def XfRep (K : PySem.W.Frag) (Hf : Hp) (d : Option Addr) (fs : List (Str × D)) : Prop := (d = none ∧ fs = []) ∨ ∃ dd vs, d = some dd ∧ Hf dd = some (.xd vs) ∧ RepF K Hf vs fs
theorem XfRep.mono {K : PySem.W.Frag} {H H' : Hp} (e : Same H H') {d : Option Addr} {fs : List (Str × D)} (h : XfRep K H d fs) : XfRep K H' d fs := by
  rcases h with h | ⟨dd, vs, h1, h2, h3⟩
  · exact .inl h
  · exact .inr ⟨dd, vs, h1, e _ _ h2, h3.mono e⟩

/-- the tables of code objects of the defs that make lambdas, and the lambdas' names -/
class Tbs where
  T : List (Addr × Str)
variable [Tbs]
abbrev tabs [Tbs] : List Addr := Tbs.T.map (·.1)
/-- the table at P; what it tells is frozen -/
def TabF (Hf H : Hp) (P : Addr) (q : Str) : Prop := ∃ ps : Array Value, H P = some (.tbl ps) ∧ TriplesOk ps.toList ∧ ∀ (pos : Pos) (cv : Value), codeAmong pos ps.toList = some cv → ∃ c, cv = .ref c ∧ Hf c = some (LamX.CodeO c q)
theorem TabF.mono {Hf Hf' H H' : Hp} {P : Addr} {q : Str} (t : TabF Hf H P q) (e : Same Hf Hf') (k : ∀ u, H P = some u → H' P = some u) : TabF Hf' H' P q := by
  obtain ⟨ps, h1, h2, h3⟩ := t
  refine ⟨ps, k _ h1, h2, fun pos cv hc => ?_⟩
  obtain ⟨c, e1, e2⟩ := h3 pos cv hc
  exact ⟨c, e1, e _ _ e2⟩
theorem TabF.nil {Hf H : Hp} {P : Addr} {q : Str} (h : H P = some (.tbl #[])) : TabF Hf H P q := ⟨#[], h, True.intro, fun pos cv hc => by
  have z : codeAmong pos [] = some cv := hc
  simp [codeAmong] at z⟩
def ClRep (K : PySem.W.Frag) (Hf : Hp) (vs : List V) (ds : List D) (c : Addr) (o : HO) : Prop := RepL K Hf vs ds ∧ Hf c = some o
theorem ClRep.mono {K : PySem.W.Frag} {H H' : Hp} (e : Same H H') {vs : List V} {ds : List D} {c : Addr} {o : HO} (h : ClRep K H vs ds c o) : ClRep K H' vs ds c o := ⟨h.1.mono e, e _ _ h.2⟩
def OwRep (K : PySem.W.Frag) (Hf H : Hp) (v : V) : Ow → List Addr → Prop
  | .ol xs, fp => ∃ p vs, v = .ref p ∧ fp = [p] ∧ H p = some (.lst vs) ∧ RepL K Hf vs xs
  | .od ks, fp => ∃ p vs, v = .ref p ∧ fp = [p] ∧ H p = some (.dK vs) ∧ RepK K Hf vs ks
  | .dk cs n, fp => ∃ p q, v = .ref p ∧ p ≠ q ∧ fp = p :: q :: tabs ∧ H p = some (.lst [.ref q, .int n]) ∧ H q = some (.lst (cs.map V.int)) ∧ (p ∉ tabs ∧ q ∉ tabs) ∧ ∀ t ∈ Tbs.T, TabF Hf H t.1 t.2
  | .oi C fs, fp => ∃ p dx vs, v = .ref p ∧ fp = [p, dx] ∧ H p = some (.ins C dx vs) ∧ H dx = some (.own p) ∧ RepF K Hf vs fs
  | .olA q xs, fp => ∃ vs, v = .ref q ∧ fp = [q] ∧ H q = some (.lst vs) ∧ RepL K Hf vs xs
theorem OwRep.mono {K : PySem.W.Frag} {Hf Hf' H H' : Hp} {v : V} {o : Ow} {fp : List Addr} (r : OwRep K Hf H v o fp) (e : Same Hf Hf') (k : ∀ p ∈ fp, ∀ u, H p = some u → H' p = some u) : OwRep K Hf' H' v o fp := by
  cases o with
  | ol xs =>
    obtain ⟨p, vs, rfl, rfl, h, q⟩ := r
    exact ⟨p, vs, rfl, rfl, k p (by simp) _ h, q.mono e⟩
  | od xs =>
    obtain ⟨p, vs, rfl, rfl, h, q⟩ := r
    exact ⟨p, vs, rfl, rfl, k p (by simp) _ h, q.mono e⟩
  | dk cs n =>
    obtain ⟨p, q, rfl, ne, rfl, h1, h2, hn, ht⟩ := r
    exact ⟨p, q, rfl, ne, rfl, k p (by simp) _ h1, k q (by simp) _ h2, hn, fun t m => (ht t m).mono e (k t.1 (List.mem_cons_of_mem _ (List.mem_cons_of_mem _ (List.mem_map.mpr ⟨t, m, rfl⟩))))⟩
  | oi C fs =>
    obtain ⟨p, dx, vs, rfl, rfl, h, h2, q⟩ := r
    exact ⟨p, dx, vs, rfl, rfl, k p (by simp) _ h, k dx (by simp) _ h2, q.mono e⟩
  | olA p xs =>
    obtain ⟨vs, rfl, rfl, h, q⟩ := r
    exact ⟨vs, rfl, rfl, k p (by simp) _ h, q.mono e⟩
theorem OwRep.some {K : PySem.W.Frag} {Hf H : Hp} {v : V} {o : Ow} {fp : List Addr} (r : OwRep K Hf H v o fp) : ∀ p ∈ fp, ∃ u, H p = some u := by
  cases o with
  | ol xs =>
    obtain ⟨p, vs, rfl, rfl, h, q⟩ := r
    intro b hb
    obtain rfl : b = p := by simpa using hb
    exact ⟨_, h⟩
  | od xs =>
    obtain ⟨p, vs, rfl, rfl, h, q⟩ := r
    intro b hb
    obtain rfl : b = p := by simpa using hb
    exact ⟨_, h⟩
  | dk cs n =>
    obtain ⟨p, q, rfl, ne, rfl, h1, h2, hn, ht⟩ := r
    intro b hb
    rcases List.mem_cons.mp hb with rfl | hb
    · exact ⟨_, h1⟩
    · rcases List.mem_cons.mp hb with rfl | hb
      · exact ⟨_, h2⟩
      · obtain ⟨t, m, rfl⟩ := List.mem_map.mp hb
        obtain ⟨ps, h3, _⟩ := ht t m
        exact ⟨_, h3⟩
  | oi C fs =>
    obtain ⟨p, dx, vs, rfl, rfl, h, h2, q⟩ := r
    intro b hb
    rcases List.mem_cons.mp hb with rfl | hb
    · exact ⟨_, h⟩
    · obtain rfl : b = dx := by simpa using hb
      exact ⟨_, h2⟩
  | olA p xs =>
    obtain ⟨vs, rfl, rfl, h, q⟩ := r
    intro b hb
    obtain rfl : b = p := by simpa using hb
    exact ⟨_, h⟩

/-- the entry of the frame: the heap there, its frozen part, what is lent -/
structure Et where
  H0 : Hp
  Hf0 : Hp
  F0 : Nat → List Addr
  v0 : Nat → V
  Pr : Hp

def SlRep (K : PySem.W.Frag) (en : Et) (Hf H : Hp) (F : Nat → List Addr) (i : Nat) (σ : St) : Sl → Prop
  | .un => True
  | .fz d => ∃ v, σ[i]? = some (some v) ∧ Rep K Hf v d
  | .ow b o => ∃ v, σ[i]? = some (some v) ∧ OwRep K Hf H v o (F i) ∧ (b = true → v = en.v0 i ∧ F i = en.F0 i) ∧ (b = false → ∀ p ∈ F i, en.H0 p = none)
  | .xc a _ d fs => σ[i]? = some (some (.ref a)) ∧ XfRep K Hf d fs
  | .cl v vs ds c o => σ[i]? = some (some v) ∧ ClRep K Hf vs ds c o

structure Sat (K : PySem.W.Frag) (en : Et) (Hf H : Hp) (F : Nat → List Addr) (E : En) (σ : St) : Prop where
  sf : Same Hf H
  so : ∀ p o, (∀ i, p ∉ en.F0 i) → en.H0 p = some o → H p = some o
  dom : ∀ p o, en.H0 p = some o → ∃ o', H p = some o'
  sp : Same en.Pr H
  pf : ∀ p o, en.Pr p = some o → Hf p = none
  gf : Same en.Hf0 Hf
  gn : ∀ p o, Hf p = some o → en.Hf0 p = some o ∨ en.H0 p = none
  dj : ∀ i j p, p ∈ F i → p ∈ F j → i = j
  fp : ∀ i p, p ∈ F i → Hf p = none ∧ (∃ o, H p = some o) ∧ ((∃ j, p ∈ en.F0 j) ∨ en.H0 p = none) ∧ en.Pr p = none
  len : σ.length = E.length
  sl : ∀ i s, E[i]? = some s → SlRep K en Hf H F i σ s

section
variable {K : PySem.W.Frag} {en : Et} {Hf Hf' H H' : Hp} {F : Nat → List Addr} {E : En} {σ : St}
/-- both heaps grow -/
theorem Sat.grow (S : Sat K en Hf H F E σ) (h1 : Same Hf Hf') (h2 : Same Hf' H') (h3 : Same H H') (h4 : ∀ p o, Hf' p = some o → Hf p = some o ∨ H p = none) : Sat K en Hf' H' F E σ where
  sf := h2
  so := fun p o a b => h3 _ _ (S.so p o a b)
  dom := fun p o a => let ⟨o', q⟩ := S.dom p o a; ⟨o', h3 _ _ q⟩
  sp := S.sp.trans h3
  pf := fun p o a => by
    cases r : Hf' p with
    | none => rfl
    | some u =>
      rcases h4 p u r with q | q
      · rw [S.pf p o a] at q
        cases q
      · rw [S.sp p o a] at q
        cases q
  gf := S.gf.trans h1
  gn := fun p o a => by
    rcases h4 p o a with q | q
    · exact S.gn p o q
    · cases r : en.H0 p with
      | none => exact .inr rfl
      | some u =>
        obtain ⟨o', q'⟩ := S.dom p u r
        rw [q] at q'
        cases q'
  dj := S.dj
  fp := fun i p a => by
    obtain ⟨q1, ⟨o, q2⟩, q3⟩ := S.fp i p a
    refine ⟨?_, ⟨o, h3 _ _ q2⟩, q3⟩
    cases r : Hf' p with
    | none => rfl
    | some u =>
      rcases h4 p u r with z | z
      · rw [q1] at z
        cases z
      · rw [q2] at z
        cases z
  len := S.len
  sl := fun i s a => by
    have q := S.sl i s a
    cases s with
    | un => trivial
    | fz d =>
      obtain ⟨v, e, r⟩ := q
      exact ⟨v, e, r.mono h1⟩
    | xc a c d fs => exact ⟨q.1, q.2.mono h1⟩
    | cl v vs ds cc oo => exact ⟨q.1, q.2.mono h1⟩
    | ow b o =>
      obtain ⟨v, e, r, z⟩ := q
      exact ⟨v, e, r.mono h1 fun p _ u hu => h3 _ _ hu, z⟩
theorem same_upd {H : Hp} {p : Addr} {o : HO} (n : H p = none) : Same H (upd H p o) := fun b u e => by rw [upd_ne (ne_of_none e n)]; exact e
theorem Same.upd {H H' : Hp} {p : Addr} {o : HO} (s : Same H H') : Same (upd H p o) (upd H' p o) := fun b u e => by
  by_cases q : b = p
  · subst q
    rw [upd_same] at e ⊢
    exact e
  · rw [upd_ne q] at e ⊢
    exact s _ _ e
/-- a new thing that nobody changes -/
theorem Sat.new (S : Sat K en Hf H F E σ) {p : Addr} (o : HO) (n : H p = none) : Sat K en (upd Hf p o) (upd H p o) F E σ :=
  S.grow (same_upd (S.sf.free n)) (Same.upd S.sf) (same_upd n) fun b u e => by
    by_cases q : b = p
    · subst q
      exact .inr n
    · rw [upd_ne q] at e
      exact .inl e
theorem Sat.get (S : Sat K en Hf H F E σ) {i : Nat} {d : D} (e : E[i]? = some (.fz d)) : ∃ v, σ[i]? = some (some v) ∧ Rep K Hf v d := S.sl i _ e
theorem Sat.own (S : Sat K en Hf H F E σ) {i : Nat} {b : Bool} {o : Ow} (e : E[i]? = some (.ow b o)) : ∃ v, σ[i]? = some (some v) ∧ OwRep K Hf H v o (F i) ∧ (b = true → v = en.v0 i ∧ F i = en.F0 i) ∧ (b = false → ∀ p ∈ F i, en.H0 p = none) := S.sl i _ e
end
end L3
namespace L3
open PySem L2
variable [Tbs]

/-! ### readings over data -/
abbrev TEd := En → (D → En → Prop) → Prop
abbrev TTd := En → (Bool → En → Prop) → Prop
abbrev TAd := En → (List D → En → Prop) → Prop
/-- an exception: its class's name, its fields -/
structure Xd where
  nm : Str
  fs : List (Str × D)
structure EndsD where
  nx : En → Prop
  rt : D → En → Prop
  bk : En → Prop := fun _ => False
  ct : En → Prop := fun _ => False
  ex : Xd → En → Prop := fun _ _ => False
abbrev TSd := EndsD → En → Prop

def liftE (K : PySem.W.Frag) (t : TEd) : TE := fun σ H Q => ∃ en Hf F E Qd, Sat K en Hf H F E σ ∧ t E Qd ∧
  ∀ v H' Hf' F' E' d, Same Hf Hf' → Sat K en Hf' H' F' E' σ → Rep K Hf' v d → Qd d E' → Q v H'
def liftT (K : PySem.W.Frag) (t : TTd) : TT := fun σ H Q => ∃ en Hf F E Qd, Sat K en Hf H F E σ ∧ t E Qd ∧
  ∀ b H' Hf' F' E', Same Hf Hf' → Sat K en Hf' H' F' E' σ → Qd b E' → Q b H'
def liftA (K : PySem.W.Frag) (t : TAd) : TA := fun σ H Q => ∃ en Hf F E Qd, Sat K en Hf H F E σ ∧ t E Qd ∧
  ∀ vs H' Hf' F' E' ds, Same Hf Hf' → Sat K en Hf' H' F' E' σ → RepL K Hf' vs ds → Qd ds E' → Q vs H'
/-- the exception of the class cls, with the dict d, stands for x -/
def XRep (K : PySem.W.Frag) (mg : Str → Option Value) (Hf : Hp) (cls : Value) (d : Option Addr) (x : Xd) : Prop :=
  (∃ C : Addr, cls = .ref C) ∧ mg x.nm = some cls ∧ XfRep K Hf d x.fs
/-- what the context wishes of an exception -/
def Wx (X : Cx) : WX := fun cls d σ H => ∀ u s', XE X (fun c d' σ' H' => c = cls ∧ d' = d ∧ σ' = σ ∧ H' = H) u s' → X.xe u s'
def liftS (X : Cx) (t : TSd) : TS := fun D σ H => ∃ en Hf F E Dd, Sat X.K en Hf H F E σ ∧ t Dd E ∧
  (∀ σ' H' Hf' F' E', Same Hf Hf' → Sat X.K en Hf' H' F' E' σ' → Dd.nx E' → D.nx σ' H') ∧
  (∀ σ' H' Hf' F' E', Same Hf Hf' → Sat X.K en Hf' H' F' E' σ' → Dd.bk E' → D.bk σ' H') ∧
  (∀ σ' H' Hf' F' E', Same Hf Hf' → Sat X.K en Hf' H' F' E' σ' → Dd.ct E' → D.ct σ' H') ∧
  (∀ v σ' H' Hf' F' E' d, Same Hf Hf' → Sat X.K en Hf' H' F' E' σ' → Rep X.K Hf' v d → Dd.rt d E' → D.rt v H') ∧
  (∀ cls x σ' H' Hf' F' E' d, Same Hf Hf' → Sat X.K en Hf' H' F' E' σ' → XRep X.K X.mg Hf' cls d x → Dd.ex x E' → Wx X cls d σ' H')

abbrev PEd (X : Cx) (e : Expr) (t : TEd) : Prop := PE X e (liftE X.K t)
abbrev PTd (X : Cx) (e : Expr) (t : TTd) : Prop := PT X e (liftT X.K t)
abbrev PWd (X : Cx) (e : Expr) (t : TTd) : Prop := PW X e (liftT X.K t)
abbrev PAd (X : Cx) (es : List Expr) (t : TAd) : Prop := PA X es (liftA X.K t)
abbrev PSd (X : Cx) (st : Stmt) (t : TSd) : Prop := PS X st (liftS X t)
abbrev PBd (X : Cx) (st : List Stmt) (t : TSd) : Prop := PSs X st (liftS X t)

section
variable {X : Cx}
theorem pe_imp {e : Expr} {t t' : TE} (h : PE X e t) (i : ∀ σ H Q, t' σ H Q → t σ H Q) : PE X e t' := ⟨fun pins s σ H Q I q => h.run pins s σ H Q I (i σ H Q q)⟩
theorem pt_imp {e : Expr} {t t' : TT} (h : PT X e t) (i : ∀ σ H Q, t' σ H Q → t σ H Q) : PT X e t' := ⟨fun pins s σ H Q I q => h.run pins s σ H Q I (i σ H Q q)⟩
theorem pw_imp {e : Expr} {t t' : TT} (h : PW X e t) (i : ∀ σ H Q, t' σ H Q → t σ H Q) : PW X e t' := ⟨fun wh pins s σ H Q I q => h.run wh pins s σ H Q I (i σ H Q q)⟩
theorem pa_imp {e : List Expr} {t t' : TA} (h : PA X e t) (i : ∀ σ H Q, t' σ H Q → t σ H Q) : PA X e t' := ⟨fun pos pins s σ H Q I q => h.run pos pins s σ H Q I (i σ H Q q)⟩
theorem ps_imp {e : Stmt} {t t' : TS} (h : PS X e t) (i : ∀ D σ H, t' D σ H → t D σ H) : PS X e t' := ⟨fun pins s σ H D I q => h.run pins s σ H D I (i D σ H q)⟩
theorem pss_imp {e : List Stmt} {t t' : TS} (h : PSs X e t) (i : ∀ D σ H, t' D σ H → t D σ H) : PSs X e t' := ⟨fun pins s σ H D I q => h.run pins s σ H D I (i D σ H q)⟩
end

/-! ### Sat behind a store to a name -/
def setF (F : Nat → List Addr) (i : Nat) (l : List Addr) : Nat → List Addr := fun j => if j = i then l else F j
theorem setF_same {F : Nat → List Addr} {i : Nat} {l : List Addr} : setF F i l i = l := by unfold setF; rw [if_pos rfl]
theorem setF_ne {F : Nat → List Addr} {i j : Nat} {l : List Addr} (h : j ≠ i) : setF F i l j = F j := by unfold setF; rw [if_neg h]
/-- a slot that may be stored to -/
def Sl.free : Sl → Prop
  | .ow true _ => False
  | _ => True
theorem free_un : Sl.free .un = True := rfl
theorem free_fz {d : D} : Sl.free (.fz d) = True := rfl
theorem free_ow {o : Ow} : Sl.free (.ow false o) = True := rfl
def canSet (E : En) (i : Nat) : Prop := match E[i]? with
  | some s => s.free
  | none => False
theorem canSet.lt {E : En} {i : Nat} (h : canSet E i) : i < E.length := by
  unfold canSet at h
  cases e : E[i]? with
  | none =>
    rw [e] at h
    exact h.elim
  | some s => exact (List.getElem?_eq_some_iff.mp e).1
section
variable {K : PySem.W.Frag} {en : Et} {Hf Hf' H H' : Hp} {F : Nat → List Addr} {E : En} {σ : St}
theorem Sat.setG (S : Sat K en Hf H F E σ) {i : Nat} {v : V} {s : Sl} {l : List Addr} (hi : i < E.length) (hl : ∀ p ∈ l, Hf p = none ∧ (∃ o, H p = some o) ∧ ((∃ j, p ∈ en.F0 j) ∨ en.H0 p = none) ∧ en.Pr p = none ∧ ∀ j, j ≠ i → p ∉ F j)
    (r : SlRep K en Hf H (setF F i l) i (σ.set i (some v)) s) : Sat K en Hf H (setF F i l) (E.set i s) (σ.set i (some v)) where
  sf := S.sf
  so := S.so
  dom := S.dom
  sp := S.sp
  pf := S.pf
  gf := S.gf
  gn := S.gn
  dj := fun j k p a b => by
    by_cases h1 : j = i
    · subst h1
      rw [setF_same] at a
      by_cases h2 : k = j
      · exact h2.symm
      · rw [setF_ne h2] at b
        exact absurd b ((hl p a).2.2.2.2 k h2)
    · rw [setF_ne h1] at a
      by_cases h2 : k = i
      · subst h2
        rw [setF_same] at b
        exact absurd a ((hl p b).2.2.2.2 j h1)
      · rw [setF_ne h2] at b
        exact S.dj j k p a b
  fp := fun j p a => by
    by_cases h1 : j = i
    · subst h1
      rw [setF_same] at a
      obtain ⟨q1, q2, q3, q4, _⟩ := hl p a
      exact ⟨q1, q2, q3, q4⟩
    · rw [setF_ne h1] at a
      exact S.fp j p a
  len := by rw [List.length_set, List.length_set, S.len]
  sl := fun j s' a => by
    by_cases h1 : j = i
    · subst h1
      rw [List.getElem?_set_self hi] at a
      cases a
      exact r
    · rw [List.getElem?_set_ne (Ne.symm h1)] at a
      have q := S.sl j s' a
      cases s' with
      | un => trivial
      | fz d =>
        obtain ⟨u, e, z⟩ := q
        exact ⟨u, by rw [List.getElem?_set_ne (Ne.symm h1)]; exact e, z⟩
      | xc a c d fs => exact ⟨by rw [List.getElem?_set_ne (Ne.symm h1)]; exact q.1, q.2⟩
      | cl v vs ds cc oo => exact ⟨by rw [List.getElem?_set_ne (Ne.symm h1)]; exact q.1, q.2⟩
      | ow b o =>
        obtain ⟨u, e, z, w⟩ := q
        refine ⟨u, by rw [List.getElem?_set_ne (Ne.symm h1)]; exact e, ?_⟩
        rw [setF_ne h1]
        exact ⟨z, w⟩
/-- name = data -/
theorem Sat.set (S : Sat K en Hf H F E σ) {i : Nat} {v : V} {d : D} (c : canSet E i) (r : Rep K Hf v d) : Sat K en Hf H (setF F i []) (E.set i (.fz d)) (σ.set i (some v)) :=
  S.setG c.lt (fun p h => nomatch h) ⟨v, by rw [List.getElem?_set_self (by rw [S.len]; exact c.lt)], r⟩
/-- name = a new thing of our own, at p -/
theorem Sat.setNew (S : Sat K en Hf H F E σ) {i : Nat} {p : Addr} {u : HO} {o : Ow} (c : canSet E i) (n : H p = none) (r : OwRep K Hf (upd H p u) (.ref p) o [p]) :
    Sat K en Hf (upd H p u) (setF F i [p]) (E.set i (.ow false o)) (σ.set i (some (.ref p))) := by
  have S1 : Sat K en Hf (upd H p u) F E σ := S.grow (Same.refl _) (S.sf.trans (same_upd n)) (same_upd n) fun _ _ a => .inl a
  have h0 : en.H0 p = none := by
    cases q : en.H0 p with
    | none => rfl
    | some z =>
      obtain ⟨z', e⟩ := S.dom _ _ q
      rw [n] at e
      cases e
  refine S1.setG c.lt (fun b h => ?_) ⟨_, by rw [List.getElem?_set_self (by rw [S.len]; exact c.lt)], by rw [setF_same]; exact r, (fun z => by cases z), fun _ b h => ?_⟩
  · obtain rfl : b = p := by simpa using h
    refine ⟨S.sf.free n, ⟨_, upd_same⟩, .inr h0, S.sp.free n, fun j _ hb => ?_⟩
    obtain ⟨_, ⟨z, e⟩, _⟩ := S.fp j b hb
    rw [n] at e
    cases e
  · rw [setF_same] at h
    obtain rfl : b = p := by simpa using h
    exact h0
/-- our own thing (or a lent one) is changed -/
theorem Sat.change (S : Sat K en Hf H F E σ) {i : Nat} {b : Bool} {o o' : Ow} {v : V} (e : E[i]? = some (.ow b o)) (hv : σ[i]? = some (some v)) (h1 : Same Hf Hf') (h2 : Same Hf' H') (h3 : ∀ p u, p ∉ F i → H p = some u → H' p = some u) (hd : ∀ p u, H p = some u → ∃ u', H' p = some u')
    (h4 : ∀ p u, Hf' p = some u → Hf p = some u ∨ H p = none) (r : OwRep K Hf' H' v o' (F i)) : Sat K en Hf' H' F (E.set i (.ow b o')) σ where
  sf := h2
  so := fun p u a z => by
    by_cases hp : p ∈ F i
    · obtain ⟨_, _, q, _⟩ := S.fp i p hp
      rcases q with ⟨j, q⟩ | q
      · exact absurd q (a j)
      · rw [z] at q
        cases q
    · exact h3 p u hp (S.so p u a z)
  dom := fun p u a => let ⟨u', q⟩ := S.dom p u a; hd p u' q
  sp := fun p u a => by
    have np : p ∉ F i := fun hp => by
      rw [(S.fp i p hp).2.2.2] at a
      cases a
    exact h3 p u np (S.sp p u a)
  pf := fun p u a => by
    cases z : Hf' p with
    | none => rfl
    | some w =>
      rcases h4 p w z with y | y
      · rw [S.pf p u a] at y
        cases y
      · rw [S.sp p u a] at y
        cases y
  gf := S.gf.trans h1
  gn := fun p u a => by
    rcases h4 p u a with q | q
    · exact S.gn p u q
    · cases z : en.H0 p with
      | none => exact .inr rfl
      | some w =>
        obtain ⟨o', q'⟩ := S.dom p w z
        rw [q] at q'
        cases q'
  dj := S.dj
  fp := fun j p a => by
    obtain ⟨q1, ⟨u, q2⟩, q3⟩ := S.fp j p a
    refine ⟨?_, hd p u q2, q3⟩
    cases z : Hf' p with
    | none => rfl
    | some w =>
      rcases h4 p w z with y | y
      · rw [q1] at y
        cases y
      · rw [q2] at y
        cases y
  len := by rw [List.length_set, S.len]
  sl := fun j s a => by
    have hi : i < E.length := (List.getElem?_eq_some_iff.mp e).1
    by_cases hj : j = i
    · subst hj
      rw [List.getElem?_set_self hi] at a
      cases a
      obtain ⟨v1, e1, _, z⟩ := S.own e
      rw [hv] at e1
      cases e1
      exact ⟨v, hv, r, z⟩
    · rw [List.getElem?_set_ne (Ne.symm hj)] at a
      have q := S.sl j s a
      cases s with
      | un => trivial
      | fz d =>
        obtain ⟨w, e, z⟩ := q
        exact ⟨w, e, z.mono h1⟩
      | xc a c d fs => exact ⟨q.1, q.2.mono h1⟩
      | cl v vs ds cc oo => exact ⟨q.1, q.2.mono h1⟩
      | ow c oc =>
        obtain ⟨w, e, z, y⟩ := q
        exact ⟨w, e, z.mono h1 fun p hp u hu => h3 p u (fun hq => hj (S.dj j i p hp hq)) hu, y⟩
/-- our own list is changed no more -/
theorem Sat.freeze (S : Sat K en Hf H F E σ) {i : Nat} {xs : List D} (e : E[i]? = some (.ow false (.ol xs))) :
    ∃ v Hf', σ[i]? = some (some v) ∧ Same Hf Hf' ∧ Rep K Hf' v (.lst xs) ∧ Sat K en Hf' H (setF F i []) (E.set i (.fz (.lst xs))) σ := by
  obtain ⟨v, hv, ⟨p, vs, rfl, hF, hp, r⟩, _, hnew⟩ := S.own e
  have hi : i < E.length := (List.getElem?_eq_some_iff.mp e).1
  have hmem : p ∈ F i := by rw [hF]; simp
  obtain ⟨n1, n2, n3, n4⟩ := S.fp i p hmem
  have s1 : Same Hf (upd Hf p (.lst vs)) := same_upd n1
  have nj : ∀ j b, j ≠ i → b ∈ F j → b ≠ p := fun j b hj hb z => hj (S.dj j i b hb (by rw [z]; exact hmem))
  refine ⟨.ref p, upd Hf p (.lst vs), hv, s1, .lst upd_same (r.mono s1), ?_⟩
  refine { sf := fun b u z => ?_, so := S.so, dom := S.dom, sp := S.sp, pf := fun b u z => (by rw [upd_ne (fun q => by rw [q, n4] at z; cases z)]; exact S.pf b u z), gf := S.gf.trans s1, gn := fun b u z => ?_, dj := fun j k b h1 h2 => ?_, fp := fun j b h1 => ?_, len := by rw [List.length_set, S.len], sl := fun j s a => ?_ }
  · by_cases q : b = p
    · subst q
      rw [upd_same] at z
      cases z
      exact hp
    · rw [upd_ne q] at z
      exact S.sf _ _ z
  · by_cases q : b = p
    · subst q
      exact .inr (hnew rfl b hmem)
    · rw [upd_ne q] at z
      exact S.gn _ _ z
  · by_cases q1 : j = i
    · subst q1
      rw [setF_same] at h1
      cases h1
    · by_cases q2 : k = i
      · subst q2
        rw [setF_same] at h2
        cases h2
      · rw [setF_ne q1] at h1
        rw [setF_ne q2] at h2
        exact S.dj j k b h1 h2
  · by_cases q1 : j = i
    · subst q1
      rw [setF_same] at h1
      cases h1
    · rw [setF_ne q1] at h1
      obtain ⟨a1, a2, a3⟩ := S.fp j b h1
      exact ⟨by rw [upd_ne (nj j b q1 h1)]; exact a1, a2, a3⟩
  · by_cases q1 : j = i
    · subst q1
      rw [List.getElem?_set_self hi] at a
      cases a
      exact ⟨_, hv, .lst upd_same (r.mono s1)⟩
    · rw [List.getElem?_set_ne (Ne.symm q1)] at a
      have q := S.sl j s a
      cases s with
      | un => trivial
      | fz d =>
        obtain ⟨w, e, z⟩ := q
        exact ⟨w, e, z.mono s1⟩
      | xc a c d fs => exact ⟨q.1, q.2.mono s1⟩
      | cl v vs ds cc oo => exact ⟨q.1, q.2.mono s1⟩
      | ow c oc =>
        obtain ⟨w, e, z, y⟩ := q
        refine ⟨w, e, ?_⟩
        rw [setF_ne q1]
        exact ⟨z.mono s1 fun _ _ _ hu => hu, y⟩
end
end L3
namespace L3
open PySem L2
open PyProof.Rows (b2i)
variable [Tbs]
section
variable {X : Cx} {a b c e : Expr} {es : List Expr} {ta tb tc te : TEd} {t : TAd} {pos : Pos}

/-! ### names, constants -/
/-- a name: data; our own list is from now on data -/
def tVarD (i : Nat) : TEd := fun E Q => match E[i]? with
  | some (.fz d) => Q d E
  | some (.ow false (.ol xs)) => Q (.lst xs) (E.set i (.fz (.lst xs)))
  | _ => False
theorem dv (i : Nat) {x : Str} {pos : Pos} (hN : X.N[i]? = some x := by rfl) (hv : Vis X.env.scope x := by first | exact Or.inl rfl | exact Or.inr (Or.inl rfl) | exact Or.inr (Or.inr rfl)) (hd : (x == ("__debug__" : Str)) = false := by decide)
    (hcd : (x == ("__classdict__" : Str)) = false := by decide) : PEd X (.Name x pos) (tVarD i) :=
  pe_imp (pv i hN hv hd hcd) fun σ H Q ⟨en, Hf, F, E, Qd, S, h, k⟩ => by
    unfold tVarD at h
    split at h
    · rename_i d e
      obtain ⟨v, hv, r⟩ := S.get e
      exact ⟨v, hv, k v H Hf F E d (Same.refl _) S r h⟩
    · rename_i xs e
      obtain ⟨v, Hf', hv, s1, r, S'⟩ := S.freeze e
      exact ⟨v, hv, k v H Hf' _ _ _ s1 S' r h⟩
    · exact h.elim
def tCD (d : D) : TEd := fun E Q => Q d E
theorem d_const {v : V} {d : D} (h : PE X e (tC v)) (r : ∀ Hf, Rep X.K Hf v d) : PEd X e (tCD d) :=
  pe_imp h fun σ H Q ⟨en, Hf, F, E, Qd, S, h, k⟩ => k v H Hf F E d (Same.refl _) S (r Hf) h
theorem d_int {i j pos} : PEd X (.Constant (.int i) j pos) (tCD (.int i)) := d_const pe_int fun _ => .int i
theorem d_bl {b j pos} : PEd X (.Constant (.bool b) j pos) (tCD (.bl b)) := d_const pe_bl fun _ => .bl b
theorem d_non {j pos} : PEd X (.Constant .none j pos) (tCD .non) := d_const pe_non fun _ => .non
theorem d_str {x j pos} : PEd X (.Constant (.str x) j pos) (tCD (.str x)) := d_const pe_str fun _ => .str x
/-- a module's constant, a class, a def, as a value -/
theorem d_glob {x : Str} {v : V} {u : Value} {d : D} {pos : Pos} (hg : Gl X x) (hm : X.mg x = some u) (r : RelV v u) (rp : ∀ Hf, Rep X.K Hf v d) (hd : (x == ("__debug__" : Str)) = false := by decide) : PEd X (.Name x pos) (tCD d) :=
  d_const (pe_glob hg hm r hd) rp

/-! ### argument lists, displays -/
def tNilD : TAd := fun E Q => Q [] E
def tConsD (ta : TEd) (tr : TAd) : TAd := fun E Q => ta E fun x E1 => tr E1 fun xs E2 => Q (x :: xs) E2
theorem dn : PAd X [] tNilD := pa_imp pa_nil fun σ H Q ⟨en, Hf, F, E, Qd, S, h, k⟩ => k [] H Hf F E [] (Same.refl _) S .nil h
theorem dc (ha : PEd X e te) (hr : PAd X es t) (hs : starEach (e :: es) X.env = (false, eval e X.env) :: starEach es X.env := by rfl) : PAd X (e :: es) (tConsD te t) :=
  pa_imp (pa_cons ha hr hs) fun σ H Q ⟨en, Hf, F, E, Qd, S, h, k⟩ =>
    ⟨en, Hf, F, E, _, S, h, fun v H1 Hf1 F1 E1 x s1 S1 r1 h1 => ⟨en, Hf1, F1, E1, _, S1, h1, fun vs H2 Hf2 F2 E2 xs s2 S2 r2 h2 =>
      k _ _ _ _ _ _ (s1.trans s2) S2 (.cons (r1.mono s2) r2) h2⟩⟩
def tTupD (t : TAd) : TEd := fun E Q => t E fun xs E1 => xs.length ≤ sizeLine ∧ Q (.tup xs) E1
def tLstD (t : TAd) : TEd := fun E Q => t E fun xs E1 => xs.length ≤ sizeLine ∧ Q (.lst xs) E1
theorem d_tup {x1} (h : PAd X es t) : PEd X (.Tuple es x1 pos) (tTupD t) :=
  pe_imp (pe_tup h) fun σ H Q ⟨en, Hf, F, E, Qd, S, h, k⟩ =>
    ⟨en, Hf, F, E, _, S, h, fun vs H1 Hf1 F1 E1 xs s1 S1 r1 h1 => ⟨by rw [r1.length]; exact h1.1, fun p np => by
      have s2 : Same Hf1 (upd Hf1 p (.tup vs)) := same_upd (S1.sf.free np)
      exact k _ _ _ _ _ _ (s1.trans s2) (S1.new _ np) (.tup (.inl (.inl upd_same)) (r1.mono s2)) h1.2⟩⟩
theorem d_lst (h : PAd X es t) : PEd X (.List es pos) (tLstD t) :=
  pe_imp (pe_lst h) fun σ H Q ⟨en, Hf, F, E, Qd, S, h, k⟩ =>
    ⟨en, Hf, F, E, _, S, h, fun vs H1 Hf1 F1 E1 xs s1 S1 r1 h1 => ⟨by rw [r1.length]; exact h1.1, fun p np => by
      have s2 : Same Hf1 (upd Hf1 p (.lst vs)) := same_upd (S1.sf.free np)
      exact k _ _ _ _ _ _ (s1.trans s2) (S1.new _ np) (.lst upd_same (r1.mono s2)) h1.2⟩⟩

/-! ### operators of two -/
abbrev RD := D → D → En → (D → En → Prop) → Prop
def tOpD (rd : RD) (ta tb : TEd) : TEd := fun E Q => ta E fun x E1 => tb E1 fun y E2 => rd x y E2 Q
/-- what is wanted behind -/
def Fin (K : PySem.W.Frag) (en : Et) (σ : St) (Hf : Hp) (Qd : D → En → Prop) (Q : VK) : Prop := ∀ v H' Hf' F' E' d, Same Hf Hf' → Sat K en Hf' H' F' E' σ → Rep K Hf' v d → Qd d E' → Q v H'
theorem Fin.new {K : PySem.W.Frag} {en : Et} {σ : St} {Hf H : Hp} {F : Nat → List Addr} {E : En} {Qd : D → En → Prop} {Q : VK} (k : Fin K en σ Hf Qd Q) (S : Sat K en Hf H F E σ) {p : Addr} {o : HO} {d : D} (np : H p = none)
    (r : ∀ Hf', Same Hf Hf' → Hf' p = some o → Rep K Hf' (.ref p) d) (q : Qd d E) : Q (.ref p) (upd H p o) :=
  have s2 : Same Hf (upd Hf p o) := same_upd (S.sf.free np)
  k _ _ _ _ _ _ s2 (S.new o np) (r _ s2 upd_same) q
def OpOk (K : PySem.W.Frag) (r : R2) (rd : RD) : Prop := ∀ en Hf H F E σ vx vy x y Q Qd, Sat K en Hf H F E σ → Rep K Hf vx x → Rep K Hf vy y → rd x y E Qd → Fin K en σ Hf Qd Q → r vx vy H Q
theorem lift2 {K : PySem.W.Frag} {r : R2} {rd : RD} (hk : OpOk K r rd) : ∀ σ H Q, liftE K (tOpD rd ta tb) σ H Q → tOp r (liftE K ta) (liftE K tb) σ H Q := fun σ H Q ⟨en, Hf, F, E, Qd, S, h, k⟩ =>
  ⟨en, Hf, F, E, _, S, h, fun v1 H1 Hf1 F1 E1 x s1 S1 r1 h1 => ⟨en, Hf1, F1, E1, _, S1, h1, fun v2 H2 Hf2 F2 E2 y s2 S2 r2 h2 =>
    hk en Hf2 H2 F2 E2 σ v1 v2 x y Q Qd S2 (r1.mono s2) r2 h2 fun v H' Hf' F' E' d s3 S3 r3 h3 => k v H' Hf' F' E' d ((s1.trans s2).trans s3) S3 r3 h3⟩⟩
theorem d_op {op : Operator} {r : R2} {rd : RD} (ho : OpR X (binaryOp op) r) (hk : OpOk X.K r rd) (ha : PEd X a ta) (hb : PEd X b tb) : PEd X (.BinOp a op b pos) (tOpD rd ta tb) := pe_imp (pe_op ho ha hb) (lift2 hk)
theorem OpOk.or {K : PySem.W.Frag} {r r' : R2} {rd rd' : RD} (h : OpOk K r rd) (h' : OpOk K r' rd') : OpOk K (fun x y H Q => r x y H Q ∨ r' x y H Q) (fun x y E Q => rd x y E Q ∨ rd' x y E Q) :=
  fun en Hf H F E σ vx vy x y Q Qd S rx ry q k => q.elim (fun q => .inl (h en Hf H F E σ vx vy x y Q Qd S rx ry q k)) fun q => .inr (h' en Hf H F E σ vx vy x y Q Qd S rx ry q k)
theorem OpOk.imp {K : PySem.W.Frag} {r : R2} {rd rd' : RD} (h : OpOk K r rd) (i : ∀ x y E Q, rd' x y E Q → rd x y E Q) : OpOk K r rd' :=
  fun en Hf H F E σ vx vy x y Q Qd S rx ry q k => h en Hf H F E σ vx vy x y Q Qd S rx ry (i x y E Qd q) k

/-- ints -/
def rdI (C : Int → Int → Prop) (g : Int → Int → D) : RD := fun x y E Q => match x, y with
  | .int i, .int j => C i j ∧ Q (g i j) E
  | _, _ => False
def rdI0 (g : Int → Int → D) : RD := fun x y E Q => match x, y with
  | .int i, .int j => Q (g i j) E
  | _, _ => False
theorem ok_I {K : PySem.W.Frag} {C : Int → Int → Prop} {g : Int → Int → V} {g' : Int → Int → D} (hg : ∀ i j Hf, Rep K Hf (g i j) (g' i j)) : OpOk K (rI C g) (rdI C g') :=
  fun en Hf H F E σ vx vy x y Q Qd S rx ry q k => by
    unfold rdI at q
    split at q
    · cases rx
      cases ry
      exact ⟨_, _, rfl, rfl, q.1, k _ _ _ _ _ _ (Same.refl _) S (hg _ _ _) q.2⟩
    · exact q.elim
theorem ok_I0 {K : PySem.W.Frag} {g : Int → Int → V} {g' : Int → Int → D} (hg : ∀ i j Hf, Rep K Hf (g i j) (g' i j)) : OpOk K (rI0 g) (rdI0 g') :=
  fun en Hf H F E σ vx vy x y Q Qd S rx ry q k => by
    unfold rdI0 at q
    split at q
    · cases rx
      cases ry
      exact ⟨_, _, rfl, rfl, k _ _ _ _ _ _ (Same.refl _) S (hg _ _ _) q⟩
    · exact q.elim
theorem sum_le {α β : Type} {a b : List α} {c d : List β} (h1 : a.length = c.length) (h2 : b.length = d.length) (h : c.length + d.length ≤ sizeLine) : a.length + b.length ≤ sizeLine := by omega
/-- + -/
def rdAdd : RD := fun x y E Q => match x, y with
  | .int i, .int j => Q (.int (i + j)) E
  | .str u, .str w => u.length + w.length ≤ sizeLine ∧ Q (.str (u ++ w)) E
  | .tup u, .tup w => u.length + w.length ≤ sizeLine ∧ Q (.tup (u ++ w)) E
  | .lst u, .lst w => u.length + w.length ≤ sizeLine ∧ Q (.lst (u ++ w)) E
  | .int i, .bl k => Q (.int (i + b2i k)) E
  | _, _ => False
theorem ok_add {K : PySem.W.Frag} : OpOk K (fun x y H Q => rI0 (fun i j => .int (i + j)) x y H Q ∨ (∃ i j, x = .str i ∧ y = .str j ∧ i.length + j.length ≤ sizeLine ∧ Q (.str (i ++ j)) H) ∨ rCatA K x y H Q ∨ rCat x y H Q ∨ (∃ i k, x = .int i ∧ y = .bl k ∧ Q (.int (i + b2i k)) H)) rdAdd :=
  fun en Hf H F E σ vx vy x y Q Qd S rx ry q k => by
    unfold rdAdd at q
    split at q
    · cases rx
      cases ry
      exact .inl ⟨_, _, rfl, rfl, k _ _ _ _ _ _ (Same.refl _) S (.int _) q⟩
    · cases rx
      cases ry
      exact .inr (.inl ⟨_, _, rfl, rfl, q.1, k _ _ _ _ _ _ (Same.refl _) S (.str _) q.2⟩)
    · cases rx with | tup h1 l1 =>
      cases ry with | tup h2 l2 =>
      refine .inr (.inr (.inl ⟨_, _, _, _, rfl, rfl, Same.sqT S.sf h1, Same.sqT S.sf h2, sum_le l1.length l2.length q.1, fun e => ?_, fun e1 e2 => ?_, fun e1 e2 p np => ?_⟩))
      · subst e
        cases l1
        exact k _ _ _ _ _ _ (Same.refl _) S (.tup h2 l2) q.2
      · subst e2
        cases l2
        have q2 := q.2
        rw [List.append_nil] at q2
        exact k _ _ _ _ _ _ (Same.refl _) S (.tup h1 l1) q2
      · exact k.new S np (fun _ s2 e => .tup (.inl (.inl e)) ((l1.append l2).mono s2)) q.2
    · cases rx with | lst h1 l1 =>
      cases ry with | lst h2 l2 =>
      refine .inr (.inr (.inr (.inl ⟨_, _, _, _, rfl, rfl, S.sf _ _ h1, S.sf _ _ h2, sum_le l1.length l2.length q.1, fun p np => ?_⟩)))
      exact k.new S np (fun _ s2 e => .lst e ((l1.append l2).mono s2)) q.2
    · cases rx
      cases ry
      exact .inr (.inr (.inr (.inr ⟨_, _, rfl, rfl, k _ _ _ _ _ _ (Same.refl _) S (.int _) q⟩)))
    · exact q.elim
theorem d_add (ha : PEd X a ta) (hb : PEd X b tb) : PEd X (.BinOp a .Add b pos) (tOpD rdAdd ta tb) := d_op (OpR.or op_add (OpR.or op_add_str (OpR.or op_catA (OpR.or op_cat op_add_ib)))) ok_add ha hb
theorem d_sub (ha : PEd X a ta) (hb : PEd X b tb) : PEd X (.BinOp a .Sub b pos) (tOpD (rdI0 fun i j => .int (i - j)) ta tb) := d_op op_sub (ok_I0 fun _ _ _ => .int _) ha hb
def CMulA (i j : Int) : Prop := CMul i j ∨ CMulW i j
theorem op_mulA : OpR X (binaryOp .Mult) (rI CMulA fun i j => .int (i * j)) := fun pins s σ H x y v u Q I rx ry ⟨i, j, e1, e2, c, q⟩ => by
  rcases c with c | c
  · exact op_mul pins s σ H x y v u Q I rx ry ⟨i, j, e1, e2, c, q⟩
  · exact op_mulW pins s σ H x y v u Q I rx ry ⟨i, j, e1, e2, c, q⟩
/-- *: ints; a list often -/
def rdMul : RD := fun x y E Q => match x, y with
  | .int i, .int j => CMulA i j ∧ Q (.int (i * j)) E
  | .lst u, .int n => (-(2 ^ 63) ≤ n ∧ n < 2 ^ 63 ∧ u.length * n.toNat ≤ sizeLine) ∧ Q (.lst (List.replicate n.toNat u).flatten) E
  | _, _ => False
theorem RepL.rep {K : PySem.W.Frag} {H : Hp} {vs : List V} {ds : List D} (r : RepL K H vs ds) : ∀ n : Nat, RepL K H (List.replicate n vs).flatten (List.replicate n ds).flatten
  | 0 => .nil
  | n + 1 => by
    rw [List.replicate_succ, List.replicate_succ, List.flatten_cons, List.flatten_cons]
    exact r.append (r.rep n)
theorem ok_mul {K : PySem.W.Frag} : OpOk K (fun x y H Q => rI CMulA (fun i j => .int (i * j)) x y H Q ∨ rRep x y H Q) rdMul :=
  fun en Hf H F E σ vx vy x y Q Qd S rx ry q k => by
    unfold rdMul at q
    split at q
    · cases rx
      cases ry
      exact .inl ⟨_, _, rfl, rfl, q.1, k _ _ _ _ _ _ (Same.refl _) S (.int _) q.2⟩
    · cases rx with | lst h1 l1 =>
      cases ry
      refine .inr ⟨_, _, _, rfl, rfl, S.sf _ _ h1, q.1.1, q.1.2.1, by rw [l1.length]; exact q.1.2.2, fun p np => ?_⟩
      exact k.new S np (fun _ s2 e => .lst e ((l1.rep _).mono s2)) q.2
    · exact q.elim
theorem d_mul (ha : PEd X a ta) (hb : PEd X b tb) : PEd X (.BinOp a .Mult b pos) (tOpD rdMul ta tb) := d_op (OpR.or op_mulA op_rep) ok_mul ha hb
theorem d_fdiv (ha : PEd X a ta) (hb : PEd X b tb) : PEd X (.BinOp a .FloorDiv b pos) (tOpD (rdI CDivW fun i j => .int (i / j)) ta tb) := d_op op_fdivW (ok_I fun _ _ _ => .int _) ha hb
theorem d_mod (ha : PEd X a ta) (hb : PEd X b tb) : PEd X (.BinOp a .Mod b pos) (tOpD (rdI (fun _ j => 0 < j) fun i j => .int (i % j)) ta tb) := d_op op_mod (ok_I fun _ _ _ => .int _) ha hb
theorem d_pow (ha : PEd X a ta) (hb : PEd X b tb) : PEd X (.BinOp a .Pow b pos) (tOpD (rdI CPow fun i j => .int (i ^ j.toNat)) ta tb) := d_op op_pow (ok_I fun _ _ _ => .int _) ha hb
/-- -a -/
def tNegD (ta : TEd) : TEd := fun E Q => ta E fun x E1 => match x with
  | .int i => Q (.int (-i)) E1
  | _ => False
theorem d_neg (ha : PEd X a ta) : PEd X (.UnaryOp .USub a pos) (tNegD ta) := pe_imp (pe_un un_neg ha) fun σ H Q ⟨en, Hf, F, E, Qd, S, h, k⟩ =>
  ⟨en, Hf, F, E, _, S, h, fun v1 H1 Hf1 F1 E1 x s1 S1 r1 h1 => by
    split at h1
    · cases r1
      exact ⟨_, rfl, k _ _ _ _ _ _ s1 S1 (.int _) h1⟩
    · exact h1.elim⟩

/-! ### comparisons -/
abbrev rdCmp (p : Int → Int → Bool) : RD := rdI0 fun i j => .bl (p i j)
theorem d_cmp {op : CmpOp} {r : R2} {rd : RD} (ho : OpR X (compareOp op) r) (hk : OpOk X.K r rd) (ha : PEd X a ta) (hb : PEd X b tb) (hm : behindInMarks op b = false) : PEd X (.Compare a [op] [b] pos) (tOpD rd ta tb) := pe_imp (pe_cmpR ho ha hb hm) (lift2 hk)
def tTestD (t : TEd) : TTd := fun E Q => t E fun d E1 => match d with
  | .bl k => Q k E1
  | _ => False
theorem t_cmp {op : CmpOp} {r : R2} {rd : RD} (ho : OpR X (compareOp op) r) (hk : OpOk X.K r rd) (ha : PEd X a ta) (hb : PEd X b tb) (hm : behindInMarks op b = false) : PTd X (.Compare a [op] [b] pos) (tTestD (tOpD rd ta tb)) :=
  pt_imp (pt_cmpR ho ha hb hm) fun σ H Q ⟨en, Hf, F, E, Qd, S, h, k⟩ =>
    lift2 hk σ H _ ⟨en, Hf, F, E, _, S, h, fun v H' Hf' F' E' d s1 S1 r1 h1 => by
      split at h1
      · cases r1
        exact ⟨_, rfl, k _ _ _ _ _ s1 S1 h1⟩
      · exact h1.elim⟩
theorem ok_cmp {K : PySem.W.Frag} {p : Int → Int → Bool} : OpOk K (rI0 fun i j => .bl (p i j)) (rdCmp p) := ok_I0 fun _ _ _ => .bl _
abbrev rdLt : RD := rdCmp fun i j => decide (i < j)
abbrev rdLe : RD := rdCmp fun i j => decide (i ≤ j)
abbrev rdGt : RD := rdCmp fun i j => decide (j < i)
abbrev rdGe : RD := rdCmp fun i j => decide (j ≤ i)
theorem d_lt (ha : PEd X a ta) (hb : PEd X b tb) : PEd X (.Compare a [.Lt] [b] pos) (tOpD rdLt ta tb) := d_cmp op_lt ok_cmp ha hb (nomark _)
theorem d_le (ha : PEd X a ta) (hb : PEd X b tb) : PEd X (.Compare a [.LtE] [b] pos) (tOpD rdLe ta tb) := d_cmp op_le ok_cmp ha hb (nomark _)
theorem d_gt (ha : PEd X a ta) (hb : PEd X b tb) : PEd X (.Compare a [.Gt] [b] pos) (tOpD rdGt ta tb) := d_cmp op_gt ok_cmp ha hb (nomark _)
theorem d_ge (ha : PEd X a ta) (hb : PEd X b tb) : PEd X (.Compare a [.GtE] [b] pos) (tOpD rdGe ta tb) := d_cmp op_ge ok_cmp ha hb (nomark _)
theorem t_lt (ha : PEd X a ta) (hb : PEd X b tb) : PTd X (.Compare a [.Lt] [b] pos) (tTestD (tOpD rdLt ta tb)) := t_cmp op_lt ok_cmp ha hb (nomark _)
theorem t_le (ha : PEd X a ta) (hb : PEd X b tb) : PTd X (.Compare a [.LtE] [b] pos) (tTestD (tOpD rdLe ta tb)) := t_cmp op_le ok_cmp ha hb (nomark _)
theorem t_gt (ha : PEd X a ta) (hb : PEd X b tb) : PTd X (.Compare a [.Gt] [b] pos) (tTestD (tOpD rdGt ta tb)) := t_cmp op_gt ok_cmp ha hb (nomark _)
theorem t_ge (ha : PEd X a ta) (hb : PEd X b tb) : PTd X (.Compare a [.GtE] [b] pos) (tTestD (tOpD rdGe ta tb)) := t_cmp op_ge ok_cmp ha hb (nomark _)

/-! ### == at any depth -/
mutual
def D.py : D → PyData
  | .non => .none
  | .bl b => .bool b
  | .int i => .int i
  | .str x => .str x
  | .opq _ => .none
  | .pt _ => .none
  | .tup xs => .tuple (D.pyL xs)
  | .lst xs => .list (D.pyL xs)
  | .dct _ => .none
  | .ins _ _ => .none
def D.pyL : List D → List PyData
  | [] => []
  | d :: r => D.py d :: D.pyL r
end
mutual
/-- no object, no dict in it, texts that can be -/
def D.plain : D → Bool
  | .opq _ => false
  | .pt _ => false
  | .dct _ => false
  | .ins _ _ => false
  | .tup xs => D.plainL xs
  | .lst xs => D.plainL xs
  | .non => true
  | .bl _ => true
  | .int _ => true
  | .str _ => true
def D.plainL : List D → Bool
  | [] => true
  | d :: r => D.plain d && D.plainL r
end
mutual
theorem Rep.dp {K : PySem.W.Frag} {H : Hp} : ∀ {v : V} {d : D}, Rep K H v d → d.plain = true → Dp K H v d.py
  | _, _, .non, _ => .non
  | _, _, .bl b, _ => .bl b
  | _, _, .int i, _ => .int i
  | _, _, .str x, _ => .str x
  | _, _, .opq v, h => by cases h
  | _, _, .pt _ _, h => by cases h
  | _, _, .tup s r, h => .tup s (RepL.dp r h)
  | _, _, .lst s r, h => .lst (.inl (.inl s)) (RepL.dp r h)
  | _, _, .dct s r, h => by cases h
  | _, _, .ins _ _ _, h => by cases h
theorem RepL.dp {K : PySem.W.Frag} {H : Hp} : ∀ {v : List V} {d : List D}, RepL K H v d → D.plainL d = true → DpAll K H v (D.pyL d)
  | _, _, .nil, _ => .nil
  | _, _, .cons a b, h => by
    have h' := Bool.and_eq_true_iff.mp h
    exact .cons (Rep.dp a h'.1) (RepL.dp b h'.2)
end
def D.eqv (x y : D) : Bool := PyData.eqv x.py y.py
/-- what may be compared -/
def D.ok (x : D) : Prop := x.plain = true ∧ SeqAt.shaped x.py = true
def rdEq : RD := fun x y E Q => match x, y with
  | .int i, .int j => Q (.bl (decide (i = j))) E
  | .str i, .str j => Q (.bl (decide (i = j))) E
  | .bl i, .bl j => Q (.bl (decide (i = j))) E
  | x, y => x.ok ∧ y.ok ∧ Q (.bl (D.eqv x y)) E
def rdNe : RD := fun x y E Q => match x, y with
  | .int i, .int j => Q (.bl (!decide (i = j))) E
  | .str i, .str j => Q (.bl (!decide (i = j))) E
  | .bl i, .bl j => Q (.bl (!decide (i = j))) E
  | x, y => x.ok ∧ y.ok ∧ Q (.bl (!D.eqv x y)) E
theorem decV_int {i j : Int} : decide (V.int i = V.int j) = decide (i = j) := by simp
theorem decV_str {i j : Str} : decide (V.str i = V.str j) = decide (i = j) := by simp
theorem decV_bl {i j : Bool} : decide (V.bl i = V.bl j) = decide (i = j) := by simp
theorem ok_eq {K : PySem.W.Frag} : OpOk K (fun x y H Q => L2.rEq x y H Q ∨ rEqD K x y H Q) rdEq :=
  fun en Hf H F E σ vx vy x y Q Qd S rx ry q k => by
    unfold rdEq at q
    split at q
    · cases rx
      cases ry
      exact .inl ⟨rfl, k _ _ _ _ _ _ (Same.refl _) S (by rw [decV_int]; exact .bl _) q⟩
    · cases rx
      cases ry
      exact .inl ⟨rfl, k _ _ _ _ _ _ (Same.refl _) S (by rw [decV_str]; exact .bl _) q⟩
    · cases rx
      cases ry
      exact .inl ⟨rfl, k _ _ _ _ _ _ (Same.refl _) S (by rw [decV_bl]; exact .bl _) q⟩
    · exact .inr ⟨_, _, (rx.mono S.sf).dp q.1.1, (ry.mono S.sf).dp q.2.1.1, q.1.2, q.2.1.2, k _ _ _ _ _ _ (Same.refl _) S (.bl _) q.2.2⟩
theorem ok_ne {K : PySem.W.Frag} : OpOk K (fun x y H Q => L2.rNe x y H Q ∨ rNeD K x y H Q) rdNe :=
  fun en Hf H F E σ vx vy x y Q Qd S rx ry q k => by
    unfold rdNe at q
    split at q
    · cases rx
      cases ry
      exact .inl ⟨rfl, k _ _ _ _ _ _ (Same.refl _) S (by rw [decV_int]; exact .bl _) q⟩
    · cases rx
      cases ry
      exact .inl ⟨rfl, k _ _ _ _ _ _ (Same.refl _) S (by rw [decV_str]; exact .bl _) q⟩
    · cases rx
      cases ry
      exact .inl ⟨rfl, k _ _ _ _ _ _ (Same.refl _) S (by rw [decV_bl]; exact .bl _) q⟩
    · exact .inr ⟨_, _, (rx.mono S.sf).dp q.1.1, (ry.mono S.sf).dp q.2.1.1, q.1.2, q.2.1.2, k _ _ _ _ _ _ (Same.refl _) S (.bl _) q.2.2⟩
theorem d_eq (hu : X.A.units + 64 < cLine) (ha : PEd X a ta) (hb : PEd X b tb) : PEd X (.Compare a [.Eq] [b] pos) (tOpD rdEq ta tb) := d_cmp (OpR.or op_eq (op_eqD hu)) ok_eq ha hb (nomark _)
theorem d_ne (hu : X.A.units + 64 < cLine) (ha : PEd X a ta) (hb : PEd X b tb) : PEd X (.Compare a [.NotEq] [b] pos) (tOpD rdNe ta tb) := d_cmp (OpR.or op_ne (op_neD hu)) ok_ne ha hb (nomark _)
theorem t_eq (hu : X.A.units + 64 < cLine) (ha : PEd X a ta) (hb : PEd X b tb) : PTd X (.Compare a [.Eq] [b] pos) (tTestD (tOpD rdEq ta tb)) := t_cmp (OpR.or op_eq (op_eqD hu)) ok_eq ha hb (nomark _)
theorem t_ne (hu : X.A.units + 64 < cLine) (ha : PEd X a ta) (hb : PEd X b tb) : PTd X (.Compare a [.NotEq] [b] pos) (tTestD (tOpD rdNe ta tb)) := t_cmp (OpR.or op_ne (op_neD hu)) ok_ne ha hb (nomark _)

/-! ### is None, is not None -/
def D.isNon : D → Option Bool
  | .non => some true
  | .opq v => some (decide (v = .non))
  | _ => some false
def rdIsN : RD := fun x y E Q => match y with
  | .non => (match D.isNon x with | some k => Q (.bl k) E | none => False)
  | _ => False
def rdNotN : RD := fun x y E Q => match y with
  | .non => (match D.isNon x with | some k => Q (.bl (!k)) E | none => False)
  | _ => False
theorem isNon_ok {K : PySem.W.Frag} {H : Hp} {v : V} {d : D} {k : Bool} (r : Rep K H v d) (e : D.isNon d = some k) : decide (v = V.non) = k := by
  cases r <;> first | (simp [D.isNon] at e; simpa using e) | (simp [D.isNon] at e; subst e; simp)
theorem ok_isN {K : PySem.W.Frag} : OpOk K (fun x y H Q => y = .non ∧ Q (.bl (decide (x = .non))) H) rdIsN :=
  fun en Hf H F E σ vx vy x y Q Qd S rx ry q k => by
    unfold rdIsN at q
    split at q
    · split at q
      · rename_i kk e
        cases ry
        exact ⟨rfl, k _ _ _ _ _ _ (Same.refl _) S (by rw [isNon_ok rx e]; exact .bl _) q⟩
      · exact q.elim
    · exact q.elim
theorem ok_notN {K : PySem.W.Frag} : OpOk K (fun x y H Q => y = .non ∧ Q (.bl (!decide (x = .non))) H) rdNotN :=
  fun en Hf H F E σ vx vy x y Q Qd S rx ry q k => by
    unfold rdNotN at q
    split at q
    · split at q
      · rename_i kk e
        cases ry
        exact ⟨rfl, k _ _ _ _ _ _ (Same.refl _) S (by rw [isNon_ok rx e]; exact .bl _) q⟩
      · exact q.elim
    · exact q.elim
theorem d_isN (ha : PEd X a ta) (hb : PEd X b tb) : PEd X (.Compare a [.Is] [b] pos) (tOpD rdIsN ta tb) := d_cmp op_isN ok_isN ha hb (nomark _)
theorem d_notN (ha : PEd X a ta) (hb : PEd X b tb) : PEd X (.Compare a [.IsNot] [b] pos) (tOpD rdNotN ta tb) := d_cmp op_notN ok_notN ha hb (nomark _)
theorem t_isN (ha : PEd X a ta) (hb : PEd X b tb) : PTd X (.Compare a [.Is] [b] pos) (tTestD (tOpD rdIsN ta tb)) := t_cmp op_isN ok_isN ha hb (nomark _)
theorem t_notN (ha : PEd X a ta) (hb : PEd X b tb) : PTd X (.Compare a [.IsNot] [b] pos) (tTestD (tOpD rdNotN ta tb)) := t_cmp op_notN ok_notN ha hb (nomark _)
end
end L3
namespace L3
open PySem L2
open PyProof.Rows (b2i)
variable [Tbs]
section
variable {X : Cx} {a b c e : Expr} {es rest : List Expr} {ta tb tc te : TEd} {tA tB : TTd} {t : TAd} {pos : Pos}

/-! ### truth; and, or, not; tests -/
def truD : D → (Bool → Prop) → Prop
  | .non, Q => Q false
  | .bl b, Q => Q b
  | .int i, Q => Q (i != 0)
  | .str x, Q => x.length ≤ sizeLine ∧ Q ((x.length : Int) != 0)
  | .tup xs, Q => Q (!xs.isEmpty)
  | .lst xs, Q => Q (!xs.isEmpty)
  | .dct ks, Q => Q (!ks.isEmpty)
  | .opq _, _ => False
  | .pt _, _ => False
  | .ins _ _, _ => False
theorem RepL.empty {K : PySem.W.Frag} {H : Hp} {vs : List V} {ds : List D} (r : RepL K H vs ds) : ds.isEmpty = vs.isEmpty := by cases r <;> rfl
theorem RepK.empty {K : PySem.W.Frag} {H : Hp} {vs : List (Key × V)} {ds : List (Key × D)} (r : RepK K H vs ds) : ds.isEmpty = vs.isEmpty := by cases r <;> rfl
theorem tru_of {K : PySem.W.Frag} {Hf H : Hp} {v : V} {d : D} {Q : Bool → Prop} (s : Same Hf H) (r : Rep K Hf v d) (h : truD d Q) : ∃ k, TruV K v H k ∧ Q k := by
  cases r with
  | non => exact ⟨_, rfl, h⟩
  | bl b => exact ⟨_, rfl, h⟩
  | int i => exact ⟨_, rfl, h⟩
  | str x => exact ⟨_, ⟨h.1, rfl⟩, h.2⟩
  | opq v => exact h.elim
  | pt _ _ => exact h.elim
  | ins _ _ _ => exact h.elim
  | tup q l => exact ⟨_, .inr (.inl ⟨_, Same.sqT s q, rfl⟩), by rw [← l.empty]; exact h⟩
  | lst q l => exact ⟨_, .inl ⟨_, .inl (.inl (s _ _ q)), rfl⟩, by rw [← l.empty]; exact h⟩
  | dct q l => exact ⟨_, .inr (.inr ⟨_, s _ _ q, rfl⟩), by rw [← l.empty]; exact h⟩
def tOrD (ta tb : TEd) : TEd := fun E Q => ta E fun x E1 => truD x fun k => if k = true then Q x E1 else tb E1 Q
def tAndD (ta tb : TEd) : TEd := fun E Q => ta E fun x E1 => truD x fun k => if k = true then tb E1 Q else Q x E1
theorem d_or (ha : PEd X a ta) (hb : PEd X (.BoolOp .Or (b :: rest) pos) tb) : PEd X (.BoolOp .Or (a :: b :: rest) pos) (tOrD ta tb) :=
  pe_imp (pe_orT ha hb) fun σ H Q ⟨en, Hf, F, E, Qd, S, h, k⟩ => ⟨en, Hf, F, E, _, S, h, fun v1 H1 Hf1 F1 E1 x s1 S1 r1 h1 => by
    obtain ⟨kk, hk, q⟩ := tru_of S1.sf r1 h1
    refine ⟨kk, hk, ?_⟩
    cases kk with
    | true => exact k _ _ _ _ _ _ s1 S1 r1 q
    | false => exact ⟨en, Hf1, F1, E1, _, S1, q, fun v H' Hf' F' E' d s2 S2 r2 h2 => k _ _ _ _ _ _ (s1.trans s2) S2 r2 h2⟩⟩
theorem d_and (ha : PEd X a ta) (hb : PEd X (.BoolOp .And (b :: rest) pos) tb) : PEd X (.BoolOp .And (a :: b :: rest) pos) (tAndD ta tb) :=
  pe_imp (pe_andT ha hb) fun σ H Q ⟨en, Hf, F, E, Qd, S, h, k⟩ => ⟨en, Hf, F, E, _, S, h, fun v1 H1 Hf1 F1 E1 x s1 S1 r1 h1 => by
    obtain ⟨kk, hk, q⟩ := tru_of S1.sf r1 h1
    refine ⟨kk, hk, ?_⟩
    cases kk with
    | false => exact k _ _ _ _ _ _ s1 S1 r1 q
    | true => exact ⟨en, Hf1, F1, E1, _, S1, q, fun v H' Hf' F' E' d s2 S2 r2 h2 => k _ _ _ _ _ _ (s1.trans s2) S2 r2 h2⟩⟩
theorem d_one {op} (h : PEd X a ta) : PEd X (.BoolOp op [a] pos) ta := pe_one h
def tNotD (ta : TEd) : TEd := fun E Q => ta E fun x E1 => truD x fun k => Q (.bl (!k)) E1
theorem d_not (ha : PEd X a ta) : PEd X (.UnaryOp .Not a pos) (tNotD ta) :=
  pe_imp (pe_notT ha) fun σ H Q ⟨en, Hf, F, E, Qd, S, h, k⟩ => ⟨en, Hf, F, E, _, S, h, fun v1 H1 Hf1 F1 E1 x s1 S1 r1 h1 => by
    obtain ⟨kk, hk, q⟩ := tru_of S1.sf r1 h1
    exact ⟨kk, hk, k _ _ _ _ _ _ s1 S1 (.bl _) q⟩⟩
/-- any expression as a test -/
def tTruD (ta : TEd) : TTd := fun E Q => ta E fun x E1 => truD x fun k => Q k E1
theorem t_val (ha : PEd X a ta) (he : ∀ whole, isTrue a X.env whole = (do let v ← whole; standAt a.pos; holding [v] (truthy v)) := by intro _; rfl) : PTd X a (tTruD ta) :=
  pt_imp (pt_truth ha he) fun σ H Q ⟨en, Hf, F, E, Qd, S, h, k⟩ => ⟨en, Hf, F, E, _, S, h, fun v1 H1 Hf1 F1 E1 x s1 S1 r1 h1 => by
    obtain ⟨kk, hk, q⟩ := tru_of S1.sf r1 h1
    exact ⟨kk, hk, k _ _ _ _ _ s1 S1 q⟩⟩
def tAndW (tA tB : TTd) : TTd := fun E Q => tA E fun k E1 => if k = true then tB E1 Q else Q false E1
def tOrW (tA tB : TTd) : TTd := fun E Q => tA E fun k E1 => if k = true then Q true E1 else tB E1 Q
def tNotW (tA : TTd) : TTd := fun E Q => tA E fun k E1 => Q (!k) E1
theorem t_not (ha : PTd X a tA) : PTd X (.UnaryOp .Not a pos) (tNotW tA) := pt_imp (pt_not ha) fun σ H Q ⟨en, Hf, F, E, Qd, S, h, k⟩ =>
  ⟨en, Hf, F, E, _, S, h, fun b H1 Hf1 F1 E1 s1 S1 h1 => k _ _ _ _ _ s1 S1 h1⟩
theorem w_and1 (ha : PTd X a tA) : PWd X (.BoolOp .And [a] pos) tA := pw_and1 ha
theorem w_or1 (ha : PTd X a tA) : PWd X (.BoolOp .Or [a] pos) tA := pw_or1 ha
theorem w_and (ha : PTd X a tA) (hb : PWd X (.BoolOp .And (b :: rest) pos) tB) : PWd X (.BoolOp .And (a :: b :: rest) pos) (tAndW tA tB) :=
  pw_imp (pw_and ha hb) fun σ H Q ⟨en, Hf, F, E, Qd, S, h, k⟩ => ⟨en, Hf, F, E, _, S, h, fun b H1 Hf1 F1 E1 s1 S1 h1 => by
    cases b with
    | false => exact k _ _ _ _ _ s1 S1 h1
    | true => exact ⟨en, Hf1, F1, E1, _, S1, h1, fun v H' Hf' F' E' s2 S2 h2 => k _ _ _ _ _ (s1.trans s2) S2 h2⟩⟩
theorem w_or (ha : PTd X a tA) (hb : PWd X (.BoolOp .Or (b :: rest) pos) tB) : PWd X (.BoolOp .Or (a :: b :: rest) pos) (tOrW tA tB) :=
  pw_imp (pw_or ha hb) fun σ H Q ⟨en, Hf, F, E, Qd, S, h, k⟩ => ⟨en, Hf, F, E, _, S, h, fun b H1 Hf1 F1 E1 s1 S1 h1 => by
    cases b with
    | true => exact k _ _ _ _ _ s1 S1 h1
    | false => exact ⟨en, Hf1, F1, E1, _, S1, h1, fun v H' Hf' F' E' s2 S2 h2 => k _ _ _ _ _ (s1.trans s2) S2 h2⟩⟩
theorem t_w (h : PWd X a tA) : PTd X a tA := h.pt
def tIfD (tA : TTd) (ta tb : TEd) : TEd := fun E Q => tA E fun k E1 => if k = true then ta E1 Q else tb E1 Q
theorem d_ifx (hc : PTd X c tA) (ha : PEd X a ta) (hb : PEd X b tb) : PEd X (.IfExp c a b pos) (tIfD tA ta tb) :=
  pe_imp (pe_ifExp hc ha hb) fun σ H Q ⟨en, Hf, F, E, Qd, S, h, k⟩ => ⟨en, Hf, F, E, _, S, h, fun b H1 Hf1 F1 E1 s1 S1 h1 => by
    cases b with
    | true => exact ⟨en, Hf1, F1, E1, _, S1, h1, fun v H' Hf' F' E' d s2 S2 r2 h2 => k _ _ _ _ _ _ (s1.trans s2) S2 r2 h2⟩
    | false => exact ⟨en, Hf1, F1, E1, _, S1, h1, fun v H' Hf' F' E' d s2 S2 r2 h2 => k _ _ _ _ _ _ (s1.trans s2) S2 r2 h2⟩⟩
/-- a < b < c, of ints -/
def tChainD (rd rd' : RD) (ta tb tc : TEd) : TEd := fun E Q => ta E fun x E1 => tb E1 fun y E2 => rd x y E2 fun z E3 => match z with
  | .bl k => if k = true then tc E3 fun w E4 => rd' y w E4 Q else Q (.bl false) E3
  | _ => False
theorem lift3 {K : PySem.W.Frag} {r r' : R2} {rd rd' : RD} (hk : OpOk K r rd) (hk' : OpOk K r' rd') : ∀ σ H Q, liftE K (tChainD rd rd' ta tb tc) σ H Q → tChain r r' (liftE K ta) (liftE K tb) (liftE K tc) σ H Q := fun σ H Q ⟨en, Hf, F, E, Qd, S, h, k⟩ =>
  ⟨en, Hf, F, E, _, S, h, fun v1 H1 Hf1 F1 E1 x s1 S1 r1 h1 => ⟨en, Hf1, F1, E1, _, S1, h1, fun v2 H2 Hf2 F2 E2 y s2 S2 r2 h2 =>
    hk en Hf2 H2 F2 E2 σ v1 v2 x y _ _ S2 (r1.mono s2) r2 h2 fun v3 H3 Hf3 F3 E3 z s3 S3 r3 h3 => by
      split at h3
      · rename_i kk
        cases r3
        refine ⟨kk, rfl, ?_⟩
        cases kk with
        | false => exact k _ _ _ _ _ _ ((s1.trans s2).trans s3) S3 (.bl _) h3
        | true => exact ⟨en, Hf3, F3, E3, _, S3, h3, fun v4 H4 Hf4 F4 E4 w s4 S4 r4 h4 =>
            hk' en Hf4 H4 F4 E4 σ v2 v4 y w Q Qd S4 (r2.mono (s3.trans s4)) r4 h4 fun v H' Hf' F' E' d s5 S5 r5 h5 => k v H' Hf' F' E' d ((((s1.trans s2).trans s3).trans s4).trans s5) S5 r5 h5⟩
      · exact h3.elim⟩⟩
theorem d_chain {op op' : CmpOp} {r r' : R2} {rd rd' : RD} (ho : OpR X (compareOp op) r) (hk : OpOk X.K r rd) (ho' : OpR X (compareOp op') r') (hk' : OpOk X.K r' rd') (ha : PEd X a ta) (hb : PEd X b tb) (hc : PEd X c tc)
    (hm : lastMarks [op, op'] [b, c] = false := by with_unfolding_all rfl) : PEd X (.Compare a [op, op'] [b, c] pos) (tChainD rd rd' ta tb tc) := pe_imp (pe_chain ho ho' ha hb hc hm) (lift3 hk hk')
theorem t_chain {op op' : CmpOp} {r r' : R2} {rd rd' : RD} (ho : OpR X (compareOp op) r) (hk : OpOk X.K r rd) (ho' : OpR X (compareOp op') r') (hk' : OpOk X.K r' rd') (ha : PEd X a ta) (hb : PEd X b tb) (hc : PEd X c tc)
    (hm : lastMarks [op, op'] [b, c] = false := by with_unfolding_all rfl) : PTd X (.Compare a [op, op'] [b, c] pos) (tTestD (tChainD rd rd' ta tb tc)) := pt_imp (pt_chain ho ho' ha hb hc hm) fun σ H Q ⟨en, Hf, F, E, Qd, S, h, k⟩ =>
  lift3 hk hk' σ H _ ⟨en, Hf, F, E, _, S, h, fun v H' Hf' F' E' d s1 S1 r1 h1 => by
    split at h1
    · cases r1
      exact ⟨_, rfl, k _ _ _ _ _ s1 S1 h1⟩
    · exact h1.elim⟩
theorem d_lele (ha : PEd X a ta) (hb : PEd X b tb) (hc : PEd X c tc) (hm : lastMarks [.LtE, .LtE] [b, c] = false := by with_unfolding_all rfl) : PEd X (.Compare a [.LtE, .LtE] [b, c] pos) (tChainD rdLe rdLe ta tb tc) := d_chain op_le ok_cmp op_le ok_cmp ha hb hc hm
theorem t_lele (ha : PEd X a ta) (hb : PEd X b tb) (hc : PEd X c tc) (hm : lastMarks [.LtE, .LtE] [b, c] = false := by with_unfolding_all rfl) : PTd X (.Compare a [.LtE, .LtE] [b, c] pos) (tTestD (tChainD rdLe rdLe ta tb tc)) := t_chain op_le ok_cmp op_le ok_cmp ha hb hc hm

/-! ### subscripts, slices -/
theorem ixN_len {α β : Type} {xs : List α} {ys : List β} (h : xs.length = ys.length) (i : Int) : ixN xs.length i = ixN ys.length i := by rw [h]
theorem RepL.atI {K : PySem.W.Frag} {H : Hp} {vs : List V} {ds : List D} {i : Int} {d : D} (r : RepL K H vs ds) (h : L2.atI ds i = some d) : ∃ v, L2.atI vs i = some v ∧ Rep K H v d := by
  unfold L2.atI at h ⊢
  rw [r.length]
  cases e : ixN ds.length i with
  | none =>
    rw [e] at h
    cases h
  | some j =>
    rw [e] at h
    exact r.get h
/-- a[i]: a list, a tuple, a text -/
def rdIx : RD := fun x y E Q => match x, y with
  | .lst xs, .int i => (match atI xs i with | some d => Q d E | none => False)
  | .tup xs, .int i => (match atI xs i with | some d => Q d E | none => False)
  | .str z, .int i => z.length ≤ sizeLine ∧ (match atI z.cps.toList i with | some c => Q (.str ⟨#[c]⟩) E | none => False)
  | _, _ => False
theorem ok_ix {K : PySem.W.Frag} : OpOk K (rIx K) rdIx :=
  fun en Hf H F E σ vx vy x y Q Qd S rx ry q k => by
    unfold rdIx at q
    split at q
    · cases rx with | lst h1 l1 =>
      cases ry
      split at q
      · rename_i d e
        obtain ⟨v, e', r⟩ := l1.atI e
        exact .inl ⟨_, _, _, v, rfl, rfl, .inl (.inl (S.sf _ _ h1)), e', k _ _ _ _ _ _ (Same.refl _) S r q⟩
      · exact q.elim
    · cases rx with | tup h1 l1 =>
      cases ry
      split at q
      · rename_i d e
        obtain ⟨v, e', r⟩ := l1.atI e
        exact .inr (.inl ⟨_, _, _, v, rfl, rfl, Same.sqT S.sf h1, e', k _ _ _ _ _ _ (Same.refl _) S r q⟩)
      · exact q.elim
    · cases rx
      cases ry
      obtain ⟨hz, q⟩ := q
      split at q
      · rename_i c e
        exact .inr (.inr ⟨_, _, c, rfl, rfl, hz, e, k _ _ _ _ _ _ (Same.refl _) S (.str _) q⟩)
      · exact q.elim
    · exact q.elim
theorem d_ix (ha : PEd X a ta) (hb : PEd X b tb) (hs : PlainIx b := by exact fun _ _ => rfl) : PEd X (.Subscript a b pos) (tOpD rdIx ta tb) := pe_imp (pe_ix ix_seq ha hb hs) (lift2 ok_ix)
/-- x[i] of a name whose list may be our own: it stays so -/
def held (E : En) (j : Nat) : Prop := match E[j]? with
  | some (.fz _) => True
  | some (.ow _ _) => True
  | _ => False
theorem held.val {K : PySem.W.Frag} {en : Et} {Hf H : Hp} {F : Nat → List Addr} {E : En} {σ : St} (S : Sat K en Hf H F E σ) {j : Nat} (h : held E j) : ∃ v, σ[j]? = some (some v) := by
  unfold held at h
  split at h
  · rename_i d e
    obtain ⟨v, e, _⟩ := S.get e
    exact ⟨v, e⟩
  · rename_i b o e
    obtain ⟨v, e, _⟩ := S.own e
    exact ⟨v, e⟩
  · exact h.elim
def tIxV (j : Nat) (tb : TEd) : TEd := fun E Q => held E j ∧ tb E fun y E1 => match E1[j]? with
  | some (.fz x) => rdIx x y E1 Q
  | some (.ow _ (.ol xs)) => rdIx (.lst xs) y E1 Q
  | _ => False
theorem d_ixV (j : Nat) {x : Str} {p : Pos} (hb : PEd X b tb) (hs : PlainIx b := by exact fun _ _ => rfl) (hN : X.N[j]? = some x := by rfl) (hv : Vis X.env.scope x := by first | exact Or.inl rfl | exact Or.inr (Or.inl rfl) | exact Or.inr (Or.inr rfl))
    (hd : (x == ("__debug__" : Str)) = false := by decide) (hcd : (x == ("__classdict__" : Str)) = false := by decide) : PEd X (.Subscript (.Name x p) b pos) (tIxV j tb) :=
  pe_imp (pe_ix ix_seq (pv j hN hv hd hcd) hb hs) fun σ H Q ⟨en, Hf, F, E, Qd, S, ⟨hh, h⟩, k⟩ => by
    obtain ⟨v, hv⟩ := hh.val S
    refine ⟨v, hv, en, Hf, F, E, _, S, h, fun v1 H1 Hf1 F1 E1 y s1 S1 r1 h1 => ?_⟩
    split at h1
    · rename_i xd e
      obtain ⟨v', e', r'⟩ := S1.get e
      rw [hv] at e'
      cases e'
      exact ok_ix en Hf1 H1 F1 E1 σ v v1 xd y Q Qd S1 r' r1 h1 fun v H' Hf' F' E' d s2 S2 r2 h2 => k v H' Hf' F' E' d (s1.trans s2) S2 r2 h2
    · rename_i bb xs e
      obtain ⟨v', e', ⟨p, vs, rfl, _, hp, l⟩, _⟩ := S1.own e
      rw [hv] at e'
      cases e'
      unfold rdIx at h1
      cases r1 with
      | int i =>
        simp only at h1
        split at h1
        · rename_i d e1
          obtain ⟨w, e2, r2⟩ := l.atI e1
          exact .inl ⟨_, _, _, w, rfl, rfl, .inl (.inl hp), e2, k _ _ _ _ _ _ s1 S1 r2 h1⟩
        · exact h1.elim
      | _ => exact h1.elim
    · exact h1.elim
/-- slices -/
def cutL {α : Type} (xs : List α) (lo hi : Option Int) : List α := (xs.drop (HT.sIx xs.length 0 lo)).take (HT.sIx xs.length xs.length hi - HT.sIx xs.length 0 lo)
theorem RepL.cut {K : PySem.W.Frag} {H : Hp} {vs : List V} {ds : List D} (r : RepL K H vs ds) (lo hi : Option Int) : RepL K H (cutV vs lo hi) (cutL ds lo hi) := by
  unfold cutV cutL
  rw [r.length]
  exact (r.drop _).take _
abbrev TOd := En → (Option Int → En → Prop) → Prop
def liftO (K : PySem.W.Frag) (t : TOd) : St → Hp → (Option Int → Hp → Prop) → Prop := fun σ H Q => ∃ en Hf F E Qd, Sat K en Hf H F E σ ∧ t E Qd ∧
  ∀ o H' Hf' F' E', Same Hf Hf' → Sat K en Hf' H' F' E' σ → Qd o E' → Q o H'
abbrev POd (X : Cx) (e : Option Expr) (t : TOd) : Prop := PO X e (liftO X.K t)
theorem po_imp {e : Option Expr} {t t' : St → Hp → (Option Int → Hp → Prop) → Prop} (h : PO X e t) (i : ∀ σ H Q, t' σ H Q → t σ H Q) : PO X e t' := ⟨fun pins s σ H Q I q => h.run pins s σ H Q I (i σ H Q q)⟩
def tNoPartD : TOd := fun E Q => Q none E
def tPartD (ta : TEd) : TOd := fun E Q => ta E fun x E1 => match x with
  | .int i => Q (some i) E1
  | _ => False
theorem o_none : POd X none tNoPartD := po_imp po_none fun σ H Q ⟨en, Hf, F, E, Qd, S, h, k⟩ => k _ _ _ _ _ (Same.refl _) S h
theorem o_some (h : PEd X e te) : POd X (some e) (tPartD te) := po_imp (po_some h) fun σ H Q ⟨en, Hf, F, E, Qd, S, h, k⟩ => ⟨en, Hf, F, E, _, S, h, fun v1 H1 Hf1 F1 E1 x s1 S1 r1 h1 => by
  split at h1
  · cases r1
    exact ⟨_, rfl, k _ _ _ _ _ s1 S1 h1⟩
  · exact h1.elim⟩
def cutStr (z : Str) (lo hi : Option Int) : Str := cutS z lo hi
def rdSl (x : D) (lo hi : Option Int) (E : En) (Q : D → En → Prop) : Prop := match x with
  | .lst xs => Q (.lst (cutL xs lo hi)) E
  | .tup xs => Q (.tup (cutL xs lo hi)) E
  | .str z => z.length ≤ sizeLine ∧ Q (.str (cutS z lo hi)) E
  | _ => False
def tSlD (te : TEd) (tl th : TOd) : TEd := fun E Q => te E fun x E1 => tl E1 fun l E2 => th E2 fun u E3 => rdSl x l u E3 Q
theorem cut_whole {α : Type} {xs : List α} {lo hi : Option Int} (h : HT.sIx xs.length 0 lo = 0 ∧ HT.sIx xs.length xs.length hi = xs.length) : cutL xs lo hi = xs := by
  unfold cutL
  rw [h.1, h.2]
  simp
theorem d_slice {lo hi : Option Expr} {tl th : TOd} {p2 : Pos} (he : PEd X e te) (hl : POd X lo tl) (hu : POd X hi th) : PEd X (.Subscript e (.Slice lo hi none p2) pos) (tSlD te tl th) :=
  pe_imp (pe_slice (SlR.or sl_list (SlR.or sl_tupA sl_str)) he hl hu) fun σ H Q ⟨en, Hf, F, E, Qd, S, h, k⟩ =>
    ⟨en, Hf, F, E, _, S, h, fun v1 H1 Hf1 F1 E1 x s1 S1 r1 h1 => ⟨en, Hf1, F1, E1, _, S1, h1, fun lo H2 Hf2 F2 E2 s2 S2 h2 => ⟨en, Hf2, F2, E2, _, S2, h2, fun hi H3 Hf3 F3 E3 s3 S3 h3 => by
      have kk : Fin X.K en σ Hf3 Qd Q := fun v H' Hf' F' E' d s4 S4 r4 h4 => k v H' Hf' F' E' d (((s1.trans s2).trans s3).trans s4) S4 r4 h4
      have r3 := r1.mono (s2.trans s3)
      unfold rdSl at h3
      split at h3
      · cases r3 with | lst q l =>
        exact .inl ⟨_, _, rfl, .inl (.inl (S3.sf _ _ q)), fun p np => kk.new S3 np (fun _ s4 e => .lst e ((l.cut _ _).mono s4)) h3⟩
      · cases r3 with | tup q l =>
        refine .inr (.inl ⟨_, _, rfl, Same.sqT S3.sf q, fun w => ?_, fun w p np => kk.new S3 np (fun _ s4 e => .tup (.inl (.inl e)) ((l.cut _ _).mono s4)) h3⟩)
        rw [l.length] at w
        rw [cut_whole w] at h3
        exact kk _ _ _ _ _ _ (Same.refl _) S3 (.tup q l) h3
      · cases r3
        exact .inr (.inr ⟨_, rfl, h3.1, kk _ _ _ _ _ _ (Same.refl _) S3 (.str _) h3.2⟩)
      · exact h3.elim⟩⟩⟩

/-! ### in, not in: flat things in a list or a tuple -/
def D.fv : D → V
  | .bl b => .bl b
  | .int i => .int i
  | .str x => .str x
  | .opq v => v
  | _ => .non
def D.flat : D → Bool
  | .bl _ => true
  | .int _ => true
  | .str _ => true
  | .non => true
  | _ => false
theorem Rep.fv {K : PySem.W.Frag} {H : Hp} {v : V} {d : D} (r : Rep K H v d) (h : d.flat = true) : v = d.fv ∧ flatV v = true := by
  cases r <;> first | exact ⟨rfl, rfl⟩ | cases h
theorem RepL.fv {K : PySem.W.Frag} {H : Hp} : ∀ {vs : List V} {ds : List D}, RepL K H vs ds → ds.all D.flat = true → vs = ds.map D.fv ∧ vs.all flatV = true
  | _, _, .nil, _ => ⟨rfl, rfl⟩
  | _, _, .cons a l, h => by
    rw [List.all_cons, Bool.and_eq_true] at h
    obtain ⟨e1, e2⟩ := a.fv h.1
    obtain ⟨e3, e4⟩ := RepL.fv l h.2
    exact ⟨by rw [List.map_cons, ← e1, ← e3], by rw [List.all_cons, e2, e4]; rfl⟩
def inD (x : D) (ys : List D) : Bool := inV x.fv (ys.map D.fv)
def rdIn (neg : Bool) : RD := fun x y E Q => match y with
  | .lst ys => x.flat = true ∧ ys.all D.flat = true ∧ Q (.bl (if neg then !inD x ys else inD x ys)) E
  | .tup ys => x.flat = true ∧ ys.all D.flat = true ∧ Q (.bl (if neg then !inD x ys else inD x ys)) E
  | _ => False
theorem ok_in {K : PySem.W.Frag} {neg : Bool} : OpOk K (rIn K neg) (rdIn neg) :=
  fun en Hf H F E σ vx vy x y Q Qd S rx ry q k => by
    unfold rdIn at q
    split at q
    · cases ry with | lst h1 l1 =>
      obtain ⟨e1, e2⟩ := rx.fv q.1
      obtain ⟨e3, e4⟩ := l1.fv q.2.1
      exact ⟨_, _, rfl, .inl (.inl (.inl (S.sf _ _ h1))), e2, e4, k _ _ _ _ _ _ (Same.refl _) S (by rw [e1, e3]; exact .bl _) q.2.2⟩
    · cases ry with | tup h1 l1 =>
      obtain ⟨e1, e2⟩ := rx.fv q.1
      obtain ⟨e3, e4⟩ := l1.fv q.2.1
      exact ⟨_, _, rfl, .inr (Same.sqT S.sf h1), e2, e4, k _ _ _ _ _ _ (Same.refl _) S (by rw [e1, e3]; exact .bl _) q.2.2⟩
    · exact q.elim
theorem d_in (ha : PEd X a ta) (hb : PEd X b tb) (hm : behindInMarks .In b = false := by rfl) : PEd X (.Compare a [.In] [b] pos) (tOpD (rdIn false) ta tb) := d_cmp op_in_seq ok_in ha hb hm
theorem d_notin (ha : PEd X a ta) (hb : PEd X b tb) (hm : behindInMarks .NotIn b = false := by rfl) : PEd X (.Compare a [.NotIn] [b] pos) (tOpD (rdIn true) ta tb) := d_cmp op_notIn_seq ok_in ha hb hm
theorem t_in (ha : PEd X a ta) (hb : PEd X b tb) (hm : behindInMarks .In b = false := by rfl) : PTd X (.Compare a [.In] [b] pos) (tTestD (tOpD (rdIn false) ta tb)) := t_cmp op_in_seq ok_in ha hb hm
theorem t_notin (ha : PEd X a ta) (hb : PEd X b tb) (hm : behindInMarks .NotIn b = false := by rfl) : PTd X (.Compare a [.NotIn] [b] pos) (tTestD (tOpD (rdIn true) ta tb)) := t_cmp op_notIn_seq ok_in ha hb hm
end
end L3
namespace L3
open PySem L2
variable [Tbs]
section
variable {X : Cx} {a b c e : Expr} {es : List Expr} {ta tb tc te : TEd} {tA tB : TTd} {t : TAd} {pos : Pos} {st : Stmt} {sts : List Stmt} {u w : TSd}

/-! ### blocks, small statements -/
def tNextD : TSd := fun D E => D.nx E
def tSeqD (u w : TSd) : TSd := fun D E => u { D with nx := w D } E
theorem b_nil : PBd X [] tNextD := pss_imp pss_nil fun D σ H ⟨en, Hf, F, E, Dd, S, h, k1, k2, k3, k4, k5⟩ => k1 _ _ _ _ _ (Same.refl _) S h
theorem b_cons (h1 : PSd X st u) (h2 : PBd X sts w) : PBd X (st :: sts) (tSeqD u w) := pss_imp (pss_cons h1 h2) fun D σ H ⟨en, Hf, F, E, Dd, S, h, k1, k2, k3, k4, k5⟩ =>
  ⟨en, Hf, F, E, _, S, h, fun σ' H' Hf' F' E' s1 S1 q => ⟨en, Hf', F', E', _, S1, q, fun _ _ _ _ _ s2 => k1 _ _ _ _ _ (s1.trans s2), fun _ _ _ _ _ s2 => k2 _ _ _ _ _ (s1.trans s2), fun _ _ _ _ _ s2 => k3 _ _ _ _ _ (s1.trans s2), fun _ _ _ _ _ _ _ s2 => k4 _ _ _ _ _ _ _ (s1.trans s2), fun _ _ _ _ _ _ _ _ s2 => k5 _ _ _ _ _ _ _ _ (s1.trans s2)⟩, k2, k3, k4, k5⟩
theorem b_one (h1 : PSd X st u) : PBd X [st] u := pss_one h1
def tBreakD : TSd := fun D E => D.bk E
def tContD : TSd := fun D E => D.ct E
theorem s_pass : PSd X (.Pass pos) tNextD := ps_imp ps_pass fun D σ H ⟨en, Hf, F, E, Dd, S, h, k1, k2, k3, k4, k5⟩ => k1 _ _ _ _ _ (Same.refl _) S h
theorem s_break : PSd X (.Break pos) tBreakD := ps_imp ps_break fun D σ H ⟨en, Hf, F, E, Dd, S, h, k1, k2, k3, k4, k5⟩ => k2 _ _ _ _ _ (Same.refl _) S h
theorem s_cont : PSd X (.Continue pos) tContD := ps_imp ps_continue fun D σ H ⟨en, Hf, F, E, Dd, S, h, k1, k2, k3, k4, k5⟩ => k3 _ _ _ _ _ (Same.refl _) S h
def tDropD (te : TEd) : TSd := fun D E => te E fun _ E1 => D.nx E1
theorem s_expr (he : PEd X e te) (hs : swapsWith e none pos.line X.env = pure false := by rfl) : PSd X (.Expr e pos) (tDropD te) := ps_imp (ps_expr he hs) fun D σ H ⟨en, Hf, F, E, Dd, S, h, k1, k2, k3, k4, k5⟩ =>
  ⟨en, Hf, F, E, _, S, h, fun v H' Hf' F' E' d s1 S1 r1 q => k1 _ _ _ _ _ s1 S1 q⟩
def tRetD (te : TEd) : TSd := fun D E => te E D.rt
theorem s_ret (he : PEd X e te) : PSd X (.Return (some e) pos) (tRetD te) := ps_imp (ps_ret he) fun D σ H ⟨en, Hf, F, E, Dd, S, h, k1, k2, k3, k4, k5⟩ =>
  ⟨en, Hf, F, E, _, S, h, fun v H' Hf' F' E' d s1 S1 r1 q => k4 _ _ _ _ _ _ _ s1 S1 r1 q⟩
def tRetND : TSd := fun D E => D.rt .non E
theorem s_retN : PSd X (.Return none pos) tRetND := ps_imp ps_retN fun D σ H ⟨en, Hf, F, E, Dd, S, h, k1, k2, k3, k4, k5⟩ => k4 _ _ _ _ _ _ _ (Same.refl _) S .non h
def tIfSD (tA : TTd) (u w : TSd) : TSd := fun D E => tA E fun k E1 => if k = true then u D E1 else w D E1
theorem s_if {p q : List Stmt} (hc : PTd X c tA) (ha : PBd X p u) (hb : PBd X q w) : PSd X (.If c p q pos) (tIfSD tA u w) := ps_imp (ps_if hc ha hb) fun D σ H ⟨en, Hf, F, E, Dd, S, h, k1, k2, k3, k4, k5⟩ =>
  ⟨en, Hf, F, E, _, S, h, fun b H1 Hf1 F1 E1 s1 S1 h1 => by
    cases b with
    | true => exact ⟨en, Hf1, F1, E1, Dd, S1, h1, fun _ _ _ _ _ s2 => k1 _ _ _ _ _ (s1.trans s2), fun _ _ _ _ _ s2 => k2 _ _ _ _ _ (s1.trans s2), fun _ _ _ _ _ s2 => k3 _ _ _ _ _ (s1.trans s2), fun _ _ _ _ _ _ _ s2 => k4 _ _ _ _ _ _ _ (s1.trans s2), fun _ _ _ _ _ _ _ _ s2 => k5 _ _ _ _ _ _ _ _ (s1.trans s2)⟩
    | false => exact ⟨en, Hf1, F1, E1, Dd, S1, h1, fun _ _ _ _ _ s2 => k1 _ _ _ _ _ (s1.trans s2), fun _ _ _ _ _ s2 => k2 _ _ _ _ _ (s1.trans s2), fun _ _ _ _ _ s2 => k3 _ _ _ _ _ (s1.trans s2), fun _ _ _ _ _ _ _ s2 => k4 _ _ _ _ _ _ _ (s1.trans s2), fun _ _ _ _ _ _ _ _ s2 => k5 _ _ _ _ _ _ _ _ (s1.trans s2)⟩⟩

/-! ### targets, assignments -/
abbrev TGd := D → En → (En → Prop) → Prop
abbrev TGsd := List D → En → (En → Prop) → Prop
def liftG (K : PySem.W.Frag) (t : TGd) : TG := fun v σ H Q => ∃ en Hf F E d Qd, Sat K en Hf H F E σ ∧ Rep K Hf v d ∧ t d E Qd ∧ ∀ σ' H' Hf' F' E', Same Hf Hf' → Sat K en Hf' H' F' E' σ' → Qd E' → Q σ' H'
def liftGs (K : PySem.W.Frag) (t : TGsd) : TGs := fun vs σ H Q => ∃ en Hf F E ds Qd, Sat K en Hf H F E σ ∧ RepL K Hf vs ds ∧ t ds E Qd ∧ ∀ σ' H' Hf' F' E', Same Hf Hf' → Sat K en Hf' H' F' E' σ' → Qd E' → Q σ' H'
abbrev PGd (X : Cx) (e : Expr) (t : TGd) : Prop := PG X e (liftG X.K t)
abbrev PGsd (X : Cx) (es : List Expr) (t : TGsd) : Prop := PGs X es (liftGs X.K t)
theorem pg_imp {e : Expr} {t t' : TG} (h : PG X e t) (i : ∀ v σ H Q, t' v σ H Q → t v σ H Q) : PG X e t' := ⟨fun pins s σ H v u Q I r q => h.run pins s σ H v u Q I r (i v σ H Q q)⟩
theorem pgs_imp {e : List Expr} {t t' : TGs} (h : PGs X e t) (i : ∀ v σ H Q, t' v σ H Q → t v σ H Q) : PGs X e t' := ⟨fun pins s σ H v u Q I r q => h.run pins s σ H v u Q I r (i v σ H Q q)⟩
def gNameD (i : Nat) : TGd := fun d E Q => canSet E i ∧ Q (E.set i (.fz d))
theorem g_name {i : Nat} {x : Str} (hN : X.N.Nodup) (hi : X.N[i]? = some x := by rfl) (hx : Loc X.env.scope x := by first | exact .inl rfl | exact .inr rfl) (hf : X.fn x = true ∨ X.env.scope.names.lookup x = some .local := by first | exact .inl rfl | exact .inr rfl | assumption) : PGd X (.Name x pos) (gNameD i) :=
  pg_imp (pg_name hN hi hx hf) fun v σ H Q ⟨en, Hf, F, E, d, Qd, S, r, h, k⟩ => k _ _ _ _ _ (Same.refl _) (S.set h.1 r) h.2
def gNilD : TGsd := fun ds E Q => match ds with
  | [] => Q E
  | _ => False
def gConsD (t : TGd) (u : TGsd) : TGsd := fun ds E Q => match ds with
  | d :: r => t d E fun E1 => u r E1 Q
  | _ => False
theorem gs_nil : PGsd X [] gNilD := pgs_imp pgs_nil fun v σ H Q ⟨en, Hf, F, E, d, Qd, S, r, h, k⟩ => by
  unfold gNilD at h
  split at h
  · cases r
    exact ⟨rfl, k _ _ _ _ _ (Same.refl _) S h⟩
  · exact h.elim
theorem gs_cons {t : TGd} {u : TGsd} (h1 : PGd X e t) (h2 : PGsd X es u) (hs : (assignEach (e :: es) X.env).map (·.2) = assign e X.env :: (assignEach es X.env).map (·.2) := by rfl) : PGsd X (e :: es) (gConsD t u) :=
  pgs_imp (pgs_cons h1 h2 hs) fun v σ H Q ⟨en, Hf, F, E, d, Qd, S, r, h, k⟩ => by
    unfold gConsD at h
    split at h
    · cases r with | cons a l =>
      exact ⟨_, _, rfl, en, Hf, F, E, _, _, S, a, h, fun σ1 H1 Hf1 F1 E1 s1 S1 q => ⟨en, Hf1, F1, E1, _, _, S1, l.mono s1, q, fun _ _ _ _ _ s2 => k _ _ _ _ _ (s1.trans s2)⟩⟩
    · exact h.elim
def gTupD (n : Nat) (t : TGsd) : TGd := fun d E Q => match d with
  | .tup xs => xs.length = n ∧ t xs E Q
  | _ => False
theorem g_tup {k : Nat} {t : TGsd} {n : Nat} (hc : X.calm = true) (h : PGsd X es t) (hn : (assignEach es X.env).length = n := by rfl) (hst : (assignEach es X.env).findIdx? (·.1) = none := by rfl) : PGd X (.Tuple es k pos) (gTupD n t) :=
  pg_imp (pg_tup hc h hn hst) fun v σ H Q ⟨en, Hf, F, E, d, Qd, S, r, h, k⟩ => by
    unfold gTupD at h
    split at h
    · cases r with | tup q l =>
      exact ⟨_, _, rfl, Same.sqT S.sf q, by rw [l.length]; exact h.1, en, Hf, F, E, _, _, S, l, h.2, k⟩
    · exact h.elim
def tAsgD (te : TEd) (g : TGd) : TSd := fun D E => te E fun x E1 => g x E1 D.nx
theorem liftAsg {g : TGd} : ∀ D σ H, liftS X (tAsgD te g) D σ H → tAsg (liftE X.K te) (liftG X.K g) D σ H := fun D σ H ⟨en, Hf, F, E, Dd, S, h, k1, k2, k3, k4, k5⟩ =>
  ⟨en, Hf, F, E, _, S, h, fun v H' Hf' F' E' d s1 S1 r1 q => ⟨en, Hf', F', E', d, _, S1, r1, q, fun _ _ _ _ _ s2 => k1 _ _ _ _ _ (s1.trans s2)⟩⟩
theorem s_asg {tg : Expr} {g : TGd} (he : PEd X e te) (hg : PGd X tg g) (hs : swapsWithSole [tg] e pos.line X.env = pure false := by rfl) (hw : swappedStores [tg] e X.env = pure none := by rfl)
    (h1 : (assignEach [tg] X.env).map (·.2) = [assign tg X.env] := by rfl) : PSd X (.Assign [tg] e pos) (tAsgD te g) := ps_imp (ps_asg he hg hs hw h1) liftAsg
theorem s_set {i : Nat} {x : Str} {pos' : Pos} (hN : X.N.Nodup) (he : PEd X e te) (hi : X.N[i]? = some x := by rfl) (hx : Loc X.env.scope x := by first | exact .inl rfl | exact .inr rfl) (hs : swapsWith e (some (.Name x pos')) pos.line X.env = pure false := by rfl) (hf : X.fn x = true ∨ X.env.scope.names.lookup x = some .local := by first | exact .inl rfl | exact .inr rfl | assumption) :
    PSd X (.Assign [.Name x pos'] e pos) (tAsgD te (gNameD i)) :=
  ps_imp (ps_set hN hi hx he hs hf) fun D σ H ⟨en, Hf, F, E, Dd, S, h, k1, k2, k3, k4, k5⟩ =>
    ⟨en, Hf, F, E, _, S, h, fun v H' Hf' F' E' d s1 S1 r1 q => k1 _ _ _ _ _ s1 (S1.set q.1 r1) q.2⟩
/-- a, b = x, y -/
def tParD (i j : Nat) (t : TAd) : TSd := fun D E => t E fun ds E1 => match ds with
  | [x, y] => canSet E1 i ∧ canSet E1 j ∧ D.nx ((E1.set i (.fz x)).set j (.fz y))
  | _ => False
theorem canSet.set {E : En} {i j : Nat} {d : D} (h : canSet E j) : canSet (E.set i (.fz d)) j := by
  by_cases e : i = j
  · subst e
    have hl := h.lt
    unfold canSet
    rw [List.getElem?_set_self hl]
    exact True.intro
  · unfold canSet at h ⊢
    rw [List.getElem?_set_ne e]
    exact h
theorem s_par {i j : Nat} {x y : Str} {px py pt : Pos} {kt k2 pt2} (hc : X.calm = true) (hN : X.N.Nodup) (ha : PAd X [a, b] t) (hi : X.N[i]? = some x := by rfl) (hj : X.N[j]? = some y := by rfl) (hij : i ≠ j := by decide)
    (hx : X.env.scope.names.lookup x = some .local := by rfl) (hy : X.env.scope.names.lookup y = some .local := by rfl)
    (hw : swappedStores [.Tuple [.Name x px, .Name y py] kt pt] (.Tuple [a, b] k2 pt2) X.env = pure (some [x, y]) := by rfl)
    (hs : swapsWithSole [.Tuple [.Name x px, .Name y py] kt pt] (.Tuple [a, b] k2 pt2) pos.line X.env = pure false := by rfl) :
    PSd X (.Assign [.Tuple [.Name x px, .Name y py] kt pt] (.Tuple [a, b] k2 pt2) pos) (tParD i j t) :=
  ps_imp (ps_par hc hN hi hj hij hx hy ha hw hs) fun D σ H ⟨en, Hf, F, E, Dd, S, h, k1, k2, k3, k4, k5⟩ => ⟨en, Hf, F, E, _, S, h, fun vs H1 Hf1 F1 E1 ds s1 S1 r1 h1 => by
    split at h1
    · cases r1 with | cons a1 l1 =>
      cases l1 with | cons a2 l2 =>
      cases l2
      exact ⟨_, _, rfl, k1 _ _ _ _ _ s1 ((S1.set h1.1 a1).set h1.2.1.set a2) h1.2.2⟩
    · exact h1.elim⟩
def tPar3D (i j l : Nat) (t : TAd) : TSd := fun D E => t E fun ds E1 => match ds with
  | [x, y, z] => canSet E1 i ∧ canSet E1 j ∧ canSet E1 l ∧ D.nx (((E1.set i (.fz x)).set j (.fz y)).set l (.fz z))
  | _ => False
theorem s_par3 {i j l : Nat} {x y z : Str} {px py pz pt : Pos} {kt k2 pt2} (hc : X.calm = true) (hN : X.N.Nodup) (ha : PAd X [a, b, c] t) (hi : X.N[i]? = some x := by rfl) (hj : X.N[j]? = some y := by rfl) (hl : X.N[l]? = some z := by rfl) (hij : i ≠ j := by decide) (hil : i ≠ l := by decide) (hjl : j ≠ l := by decide)
    (hx : X.env.scope.names.lookup x = some .local := by rfl) (hy : X.env.scope.names.lookup y = some .local := by rfl) (hz : X.env.scope.names.lookup z = some .local := by rfl)
    (hw : swappedStores [.Tuple [.Name x px, .Name y py, .Name z pz] kt pt] (.Tuple [a, b, c] k2 pt2) X.env = pure (some [x, y, z]) := by rfl)
    (hs : swapsWithSole [.Tuple [.Name x px, .Name y py, .Name z pz] kt pt] (.Tuple [a, b, c] k2 pt2) pos.line X.env = pure false := by rfl) :
    PSd X (.Assign [.Tuple [.Name x px, .Name y py, .Name z pz] kt pt] (.Tuple [a, b, c] k2 pt2) pos) (tPar3D i j l t) :=
  ps_imp (ps_par3 hc hN hi hj hl hij hil hjl hx hy hz ha hw hs) fun D σ H ⟨en, Hf, F, E, Dd, S, h, k1, k2, k3, k4, k5⟩ => ⟨en, Hf, F, E, _, S, h, fun vs H1 Hf1 F1 E1 ds s1 S1 r1 h1 => by
    split at h1
    · cases r1 with | cons a1 l1 =>
      cases l1 with | cons a2 l2 =>
      cases l2 with | cons a3 l3 =>
      cases l3
      exact ⟨_, _, _, rfl, k1 _ _ _ _ _ s1 (((S1.set h1.1 a1).set h1.2.1.set a2).set h1.2.2.1.set.set a3) h1.2.2.2⟩
    · exact h1.elim⟩
/-- x += e, x -= e -/
def tAugD (i : Nat) (te : TEd) (rd : RD) : TSd := fun D E => held E i ∧ te E fun y E1 => match E1[i]? with
  | some (.fz x) => rd x y E1 fun z E2 => canSet E2 i ∧ D.nx (E2.set i (.fz z))
  | _ => False
theorem s_aug {i : Nat} {x : Str} {op : Operator} {r : R2} {rd : RD} {pos' : Pos} (hN : X.N.Nodup) (ho : OpR X (inplaceOp op) r) (hk : OpOk X.K r rd) (he : PEd X e te) (hi : X.N[i]? = some x := by rfl) (hx : Loc X.env.scope x := by first | exact .inl rfl | exact .inr rfl) (hf : X.fn x = true ∨ X.env.scope.names.lookup x = some .local := by first | exact .inl rfl | exact .inr rfl | assumption) :
    PSd X (.AugAssign (.Name x pos') op e pos) (tAugD i te rd) :=
  ps_imp (ps_aug (ti := fun x y H Q => r x y H Q) hN hi hx he (fun pins s σ H x y v u Q I rx ry q => ho pins s σ H x y v u Q I rx ry q) hf) fun D σ H ⟨en, Hf, F, E, Dd, S, h, k1, k2, k3, k4, k5⟩ => by
    obtain ⟨v, hv⟩ := h.1.val S
    refine ⟨v, hv, en, Hf, F, E, _, S, h.2, fun v1 H1 Hf1 F1 E1 y s1 S1 r1 h1 => ?_⟩
    split at h1
    · rename_i xd ex
      obtain ⟨v', e', r'⟩ := S1.get ex
      rw [hv] at e'
      cases e'
      exact hk en Hf1 H1 F1 E1 σ v v1 xd y _ _ S1 r' r1 h1 fun v2 H2 Hf2 F2 E2 z s2 S2 r2 h2 => k1 _ _ _ _ _ (s1.trans s2) (S2.set h2.1 r2) h2.2
    · exact h1.elim
theorem s_augAdd {i : Nat} {x : Str} {pos' : Pos} (hN : X.N.Nodup) (he : PEd X e te) (hi : X.N[i]? = some x := by rfl) (hx : Loc X.env.scope x := by first | exact .inl rfl | exact .inr rfl) (hf : X.fn x = true ∨ X.env.scope.names.lookup x = some .local := by first | exact .inl rfl | exact .inr rfl | assumption) :
    PSd X (.AugAssign (.Name x pos') .Add e pos) (tAugD i te (rdI0 fun i j => .int (i + j))) := s_aug hN iop_add (ok_I0 fun _ _ _ => .int _) he hi hx hf
theorem s_augSub {i : Nat} {x : Str} {pos' : Pos} (hN : X.N.Nodup) (he : PEd X e te) (hi : X.N[i]? = some x := by rfl) (hx : Loc X.env.scope x := by first | exact .inl rfl | exact .inr rfl) (hf : X.fn x = true ∨ X.env.scope.names.lookup x = some .local := by first | exact .inl rfl | exact .inr rfl | assumption) :
    PSd X (.AugAssign (.Name x pos') .Sub e pos) (tAugD i te (rdI0 fun i j => .int (i - j))) := s_aug hN iop_sub (ok_I0 fun _ _ _ => .int _) he hi hx hf
/-- x = [..], a list that will be changed -/
def tLstO (i : Nat) (t : TAd) : TSd := fun D E => t E fun xs E1 => xs.length ≤ sizeLine ∧ canSet E1 i ∧ D.nx (E1.set i (.ow false (.ol xs)))
theorem s_newL {i : Nat} {x : Str} {pos' pl : Pos} (hN : X.N.Nodup) (h : PAd X es t) (hi : X.N[i]? = some x := by rfl) (hx : Loc X.env.scope x := by first | exact .inl rfl | exact .inr rfl) (hs : swapsWith (.List es pl) (some (.Name x pos')) pos.line X.env = pure false := by rfl) (hf : X.fn x = true ∨ X.env.scope.names.lookup x = some .local := by first | exact .inl rfl | exact .inr rfl | assumption) :
    PSd X (.Assign [.Name x pos'] (.List es pl) pos) (tLstO i t) :=
  ps_imp (ps_set hN hi hx (pe_lst h) hs hf) fun D σ H ⟨en, Hf, F, E, Dd, S, h, k1, k2, k3, k4, k5⟩ =>
    ⟨en, Hf, F, E, _, S, h, fun vs H1 Hf1 F1 E1 xs s1 S1 r1 h1 => ⟨by rw [r1.length]; exact h1.1, fun p np =>
      k1 _ _ _ _ _ s1 (S1.setNew (o := .ol xs) h1.2.1 np ⟨p, vs, rfl, rfl, upd_same, r1⟩) h1.2.2⟩⟩
/-- our own list in a slot is changed in its place -/
theorem Sat.chL {K : PySem.W.Frag} {en : Et} {Hf H : Hp} {F : Nat → List Addr} {E : En} {σ : St} (S : Sat K en Hf H F E σ) {i : Nat} {b : Bool} {xs : List D} (e : E[i]? = some (.ow b (.ol xs))) :
    ∃ p vs, σ[i]? = some (some (.ref p)) ∧ H p = some (.lst vs) ∧ RepL K Hf vs xs ∧ ∀ vs' xs', RepL K Hf vs' xs' → Sat K en Hf (upd H p (.lst vs')) F (E.set i (.ow b (.ol xs'))) σ := by
  obtain ⟨v, hv, ⟨p, vs, rfl, hF, hp, r⟩, _⟩ := S.own e
  have hm : p ∈ F i := by rw [hF]; simp
  obtain ⟨n1, _, _⟩ := S.fp i p hm
  refine ⟨p, vs, hv, hp, r, fun vs' xs' r' => S.change e hv (Same.refl _) (fun b u z => ?_) (fun q u nq z => ?_) (fun q u z => ?_) (fun _ _ z => .inl z) ⟨p, vs', rfl, hF, upd_same, r'⟩⟩
  · have nb : b ≠ p := fun q => by
      rw [q, n1] at z
      cases z
    rw [upd_ne nb]
    exact S.sf _ _ z
  · have nb : q ≠ p := fun y => nq (by rw [y]; exact hm)
    rw [upd_ne nb]
    exact z
  · by_cases y : q = p
    · subst y
      exact ⟨_, upd_same⟩
    · rw [upd_ne y]
      exact ⟨u, z⟩
def ownL (E : En) (j : Nat) : Prop := match E[j]? with
  | some (.ow _ (.ol _)) => True
  | _ => False
theorem ownL.ex {E : En} {j : Nat} (h : ownL E j) : ∃ b xs, E[j]? = some (.ow b (.ol xs)) := by
  unfold ownL at h
  split at h
  · rename_i b xs e
    exact ⟨b, xs, e⟩
  · exact h.elim
/-- x.append(e), x our own list -/
def tAppD (i : Nat) (te : TEd) : TSd := fun D E => ownL E i ∧ te E fun x E1 => match E1[i]? with
  | some (.ow b (.ol xs)) => xs.length < sizeLine ∧ D.nx (E1.set i (.ow b (.ol (xs ++ [x]))))
  | _ => False
theorem s_app (i : Nat) {x : Str} {p apos cpos : Pos} (he : PEd X e te) (hN : X.N[i]? = some x := by rfl) (hv : Vis X.env.scope x := by first | exact Or.inl rfl | exact Or.inr (Or.inl rfl) | exact Or.inr (Or.inr rfl))
    (hd : (x == ("__debug__" : Str)) = false := by decide) (hcd : (x == ("__classdict__" : Str)) = false := by decide)
    (hbase : attributeBase (.Name x p) "append" X.env (eval (.Name x p) X.env) = eval (.Name x p) X.env := by rfl)
    (hfew : ((backTo cpos (starEach [e] X.env)).all (fun x => !x.1) && (backToKw cpos (keywordEach [] X.env)).all (fun x => x.1.isSome)
      && decide ([e].length + ([] : List Keyword).length + (if ([] : List Keyword).isEmpty then 0 else 1) < 30)) = true := by rfl)
    (hline : (apos.endLine == cpos.line) = true := by rfl) (hs : starEach [e] X.env = [(false, eval e X.env)] := by rfl)
    (hsw : swapsWith (.Call (.Attribute (.Name x p) "append" apos) [e] [] cpos) none pos.line X.env = pure false := by rfl) :
    PSd X (.Expr (.Call (.Attribute (.Name x p) "append" apos) [e] [] cpos) pos) (tAppD i te) :=
  ps_imp (ps_expr (pe_bm PySem.F.plainAttrs_list PySem.F.slot_list_append PySem.F.type_list_append mt_append (pv i hN hv hd hcd) (pa_cons he pa_nil (by rw [hs]; rfl)) hbase hfew hline (by rw [hs]; rfl)) hsw) fun D σ H ⟨en, Hf, F, E, Dd, S, h, k1, k2, k3, k4, k5⟩ => by
    obtain ⟨b0, xs0, e0⟩ := h.1.ex
    obtain ⟨p0, vs0, hv0, hp0, _⟩ := S.chL e0
    refine ⟨_, hv0, .inl ⟨rfl, _, .inl (.inl hp0)⟩, en, Hf, F, E, _, S, h.2, fun v1 H1 Hf1 F1 E1 y s1 S1 r1 h1 => ?_⟩
    split at h1
    · rename_i b1 xs1 e1
      obtain ⟨p1, vs1, hv1, hp1, l1, ch⟩ := S1.chL e1
      rw [hv0] at hv1
      cases hv1
      exact ⟨_, _, _, rfl, rfl, hp1, by rw [l1.length]; exact h1.1, k1 _ _ _ _ _ s1 (ch _ _ (l1.append (.cons r1 .nil))) h1.2⟩
    · exact h1.elim
/-- x[i] = e, x our own list -/
def tPutD (j : Nat) (te ti : TEd) : TSd := fun D E => te E fun y E1 => ownL E1 j ∧ ti E1 fun z E2 => match E2[j]?, z with
  | some (.ow b (.ol xs)), .int n => ∃ m, ixN xs.length n = some m ∧ D.nx (E2.set j (.ow b (.ol (xs.set m y))))
  | _, _ => False
theorem s_put (j : Nat) {x : Str} {i : Expr} {ti : TEd} {p tpos : Pos} (he : PEd X e te) (hi : PEd X i ti) (hN : X.N[j]? = some x := by rfl) (hv : Vis X.env.scope x := by first | exact Or.inl rfl | exact Or.inr (Or.inl rfl) | exact Or.inr (Or.inr rfl))
    (hd : (x == ("__debug__" : Str)) = false := by decide) (hcd : (x == ("__classdict__" : Str)) = false := by decide)
    (ha : ∀ v, assign (.Subscript (.Name x p) i tpos) X.env v = (do
      let ov ← holding [v] (eval (.Name x p) X.env)
      let iv ← holding [v, ov] (eval i X.env)
      standAt tpos
      holding [v, ov, iv] (setItem ov iv v)
      release [v, ov, iv] []) := by intro _; rfl)
    (hs : swapsWithSole [.Subscript (.Name x p) i tpos] e pos.line X.env = pure false := by rfl) (hw : swappedStores [.Subscript (.Name x p) i tpos] e X.env = pure none := by rfl)
    (h1 : (assignEach [.Subscript (.Name x p) i tpos] X.env).map (·.2) = [assign (.Subscript (.Name x p) i tpos) X.env] := by rfl) :
    PSd X (.Assign [.Subscript (.Name x p) i tpos] e pos) (tPutD j te ti) :=
  ps_imp (ps_asg he (pg_sub (pv j hN hv hd hcd) hi set_list ha) hs hw h1) fun D σ H ⟨en, Hf, F, E, Dd, S, h, k1, k2, k3, k4, k5⟩ =>
    ⟨en, Hf, F, E, _, S, h, fun v1 H1 Hf1 F1 E1 y s1 S1 r1 h1 => by
      obtain ⟨b0, xs0, e0⟩ := h1.1.ex
      obtain ⟨p0, vs0, hv0, hp0, _⟩ := S1.chL e0
      refine ⟨_, hv0, en, Hf1, F1, E1, _, S1, h1.2, fun v2 H2 Hf2 F2 E2 z s2 S2 r2 h2 => ?_⟩
      split at h2
      · rename_i b1 xs1 n e1
        cases r2
        obtain ⟨m, hm, q⟩ := h2
        obtain ⟨p1, vs1, hv1, hp1, l1, ch⟩ := S2.chL e1
        rw [hv0] at hv1
        cases hv1
        exact ⟨_, _, _, m, rfl, rfl, hp1, by rw [l1.length]; exact hm, k1 _ _ _ _ _ (s1.trans s2) (ch _ _ (RepL.set (r1.mono s2) m l1)) q⟩
      · exact h2.elim⟩
end
end L3
namespace L3
open PySem L2
variable [Tbs]
/-! ### loops -/
section
variable {X : Cx} {tg iter : Expr}
/-- a list or a tuple is walked -/
def iSeq (K : PySem.W.Frag) (tl : TE) : TI := fun σ H R => tl σ H fun x H1 => ∃ a, x = .ref a ∧ (((∃ xs, SqL K H1 a xs) ∧ R (Itl K a) H1) ∨ ((∃ xs, SqT K H1 a xs) ∧ R (Itt K a) H1))
theorem pi_seq {l : Expr} {tl : TE} (hl : PE X l tl) : PI X tg l (iSeq X.K tl) := by
  refine ⟨fun pins s σ H R I h => ?_⟩
  refine thn (hl.run pins s σ H _ I h) fun v s1 ⟨x, H1, I1, r1, q1⟩ => ?_
  obtain ⟨a, e, q⟩ := q1
  subst e
  cases r1
  rcases q with ⟨⟨xs, hq⟩, q⟩ | ⟨⟨xs, hq⟩, q⟩
  · obtain ⟨its, rv, p, hz⟩ := I1.list hq
    refine wpAny_pyIter_list p.isList ?_
    refine ⟨s1.heap.objs.size, [s1.heap.objs.size], _, _, H1, rfl, I1.kept (t' := s1.toks) fun b o e => Heap.get?_push_of_some _ e, turn_list a _, ⟨_, Heap.get?_push_size _ rfl, rfl, rfl⟩, fun b hb => ?_, q⟩
    obtain rfl : b = s1.heap.objs.size := by simpa using hb
    exact I1.fpOk (Nat.le_refl _) (I1.hok.fresh (Nat.le_refl _))
  · obtain ⟨its, rv, p, hz⟩ := I1.tuple hq
    refine wpAny_pyIter_tuple (show s1.heap.IsTuple a its.toArray from p) ?_
    refine ⟨s1.heap.objs.size, [s1.heap.objs.size], _, _, H1, rfl, I1.kept (t' := s1.toks) fun b o e => Heap.get?_push_of_some _ e, turn_tuple a _, ⟨_, Heap.get?_push_size _ rfl, rfl, rfl⟩, fun b hb => ?_, q⟩
    obtain rfl : b = s1.heap.objs.size := by simpa using hb
    exact I1.fpOk (Nat.le_refl _) (I1.hok.fresh (Nat.le_refl _))
end
section
variable {X : Cx} {a b c e tg iter : Expr} {es : List Expr} {ta tb tc te : TEd} {tA tB : TTd} {t : TAd} {g : TGd} {pos : Pos} {body : List Stmt} {u w : TSd}
def D.items : D → Option (List D)
  | .lst xs => some xs
  | .tup xs => some xs
  | _ => none
/-- the walk J yields what stands for xs, told by the frozen heap alone -/
structure JOk (K : PySem.W.Frag) (Hf : Hp) (J : It) (xs : List D) : Prop where
  go : ∀ i H', Same Hf H' → i < xs.length → J.go i H'
  stop : ∀ H', Same Hf H' → J.stop xs.length H'
  yld : ∀ i H1 v H2, Same Hf H1 → i < xs.length → J.yld i H1 v H2 → ∃ d, xs[i]? = some d ∧ ((H2 = H1 ∧ Rep K Hf v d) ∨ ∃ p o, v = .ref p ∧ H1 p = none ∧ H2 = upd H1 p o ∧ ∀ Hf', Same Hf Hf' → Hf' p = some o → Rep K Hf' v d)
theorem JOk.mono {K : PySem.W.Frag} {Hf Hf' : Hp} {J : It} {xs : List D} (h : JOk K Hf J xs) (s : Same Hf Hf') : JOk K Hf' J xs where
  go := fun i H' s' hi => h.go i H' (s.trans s') hi
  stop := fun H' s' => h.stop H' (s.trans s')
  yld := fun i H1 v H2 s1 hi y => by
    obtain ⟨d, e, q⟩ := h.yld i H1 v H2 (s.trans s1) hi y
    refine ⟨d, e, ?_⟩
    rcases q with ⟨q1, q2⟩ | ⟨p, o, q1, q2, q3, q4⟩
    · exact .inl ⟨q1, q2.mono s⟩
    · exact .inr ⟨p, o, q1, q2, q3, fun Hf2 s2 => q4 Hf2 (s.trans s2)⟩
/-- an item comes: the state behind it -/
theorem JOk.item {K : PySem.W.Frag} {Hf0 Hf : Hp} {J : It} {xs : List D} {en : Et} {H H2 : Hp} {F : Nat → List Addr} {E : En} {σ : St} {i : Nat} {v : V} (h : JOk K Hf0 J xs) (s0 : Same Hf0 Hf) (S : Sat K en Hf H F E σ) (hi : i < xs.length) (y : J.yld i H v H2) :
    ∃ d Hf', xs[i]? = some d ∧ Same Hf Hf' ∧ Sat K en Hf' H2 F E σ ∧ Rep K Hf' v d := by
  obtain ⟨d, e, q⟩ := h.yld i H v H2 (s0.trans S.sf) hi y
  rcases q with ⟨rfl, q2⟩ | ⟨p, o, rfl, q2, rfl, q4⟩
  · exact ⟨d, Hf, e, Same.refl _, S, q2.mono s0⟩
  · have s2 : Same Hf (upd Hf p o) := same_upd (S.sf.free q2)
    exact ⟨d, upd Hf p o, e, s2, S.new o q2, q4 _ (s0.trans s2) upd_same⟩
abbrev TId := En → (List D → En → Prop) → Prop
def liftI (K : PySem.W.Frag) (t : TId) : TI := fun σ H R => ∃ en Hf F E Qd, Sat K en Hf H F E σ ∧ t E Qd ∧
  ∀ J H' Hf' F' E' xs, Same Hf Hf' → Sat K en Hf' H' F' E' σ → JOk K Hf' J xs → Qd xs E' → R J H'
abbrev PId (X : Cx) (tg iter : Expr) (t : TId) : Prop := PI X tg iter (liftI X.K t)
theorem pi_imp {tg iter : Expr} {t t' : TI} (h : PI X tg iter t) (i : ∀ σ H R, t' σ H R → t σ H R) : PI X tg iter t' := ⟨fun pins s σ H R I q => h.run pins s σ H R I (i σ H R q)⟩
theorem getE {α : Type} {xs : List α} {i : Nat} (h : i < xs.length) : ∃ d, xs[i]? = some d := ⟨xs[i], by simp [h]⟩
/-- a list, a tuple -/
def iSeqD (te : TEd) : TId := fun E Q => te E fun x E1 => match x.items with
  | some xs => Q xs E1
  | none => False
theorem i_seq (he : PEd X iter te) : PId X tg iter (iSeqD te) :=
  pi_imp (pi_seq he) fun σ H R ⟨en, Hf, F, E, Qd, S, h, k⟩ => ⟨en, Hf, F, E, _, S, h, fun v1 H1 Hf1 F1 E1 x s1 S1 r1 h1 => by
    split at h1
    · rename_i xs ex
      cases r1 with
      | lst q l =>
        cases ex
        have hq : ∀ H', Same Hf1 H' → SqL X.K H' _ _ := fun H' s => .inl (.inl (s _ _ q))
        refine ⟨_, rfl, .inl ⟨⟨_, hq _ S1.sf⟩, k _ _ _ _ _ _ s1 S1 ⟨fun i H' s hi => ?_, fun H' s => ⟨_, hq _ s, Nat.le_of_eq l.length⟩, fun i H2 v H3 s hi y => ?_⟩ h1⟩⟩
        · obtain ⟨d, ed⟩ := getE hi
          obtain ⟨v, ev, _⟩ := l.get ed
          exact ⟨_, v, hq _ s, ev⟩
        · obtain ⟨d, ed⟩ := getE hi
          obtain ⟨v', ev, rv⟩ := l.get ed
          have := y.2 _ (hq _ s)
          rw [ev] at this
          cases this
          exact ⟨d, ed, .inl ⟨y.1, rv⟩⟩
      | tup q l =>
        cases ex
        have hq : ∀ H', Same Hf1 H' → SqT X.K H' _ _ := fun H' s => Same.sqT s q
        refine ⟨_, rfl, .inr ⟨⟨_, hq _ S1.sf⟩, k _ _ _ _ _ _ s1 S1 ⟨fun i H' s hi => ?_, fun H' s => ⟨_, hq _ s, Nat.le_of_eq l.length⟩, fun i H2 v H3 s hi y => ?_⟩ h1⟩⟩
        · obtain ⟨d, ed⟩ := getE hi
          obtain ⟨v, ev, _⟩ := l.get ed
          exact ⟨_, v, hq _ s, ev⟩
        · obtain ⟨d, ed⟩ := getE hi
          obtain ⟨v', ev, rv⟩ := l.get ed
          have := y.2 _ (hq _ s)
          rw [ev] at this
          cases this
          exact ⟨d, ed, .inl ⟨y.1, rv⟩⟩
      | _ => cases ex
    · exact h1.elim⟩
/-- lo, lo + 1, .. (n of them) as data -/
def rngD (lo : Int) (n : Nat) : List D := (List.range n).map fun (i : Nat) => D.int (lo + i)
theorem rngD_len (lo : Int) (n : Nat) : (rngD lo n).length = n := by unfold rngD; simp
theorem rngD_get {lo : Int} {n i : Nat} (h : i < n) : (rngD lo n)[i]? = some (.int (lo + i)) := by unfold rngD; simp [h]
theorem rngD_inv {lo : Int} {n i : Nat} {d : D} (h : (rngD lo n)[i]? = some d) : i < n ∧ d = .int (lo + i) := by
  have hi : i < n := by
    have := (List.getElem?_eq_some_iff.mp h).1
    rw [rngD_len] at this
    exact this
  rw [rngD_get hi] at h
  exact ⟨hi, (Option.some.inj h).symm⟩
theorem rng_ok {K : PySem.W.Frag} {Hf : Hp} (lo : Int) (n : Nat) : JOk K Hf (Itr lo n) (rngD lo n) where
  go := fun i H' _ hi => by
    rw [rngD_len] at hi
    exact hi
  stop := fun H' _ => by
    show n ≤ _
    rw [rngD_len]
    exact Nat.le_refl _
  yld := fun i H1 v H2 _ hi y => by
    rw [rngD_len] at hi
    obtain ⟨e1, e2⟩ := y
    subst e2
    exact ⟨_, rngD_get hi, .inl ⟨e1, .int _⟩⟩
def iRng1D (te : TAd) : TId := fun E Q => te E fun xs E1 => match xs with
  | [.int n] => (-(2 ^ 62) ≤ n ∧ n < 2 ^ 62) ∧ Q (rngD 0 n.toNat) E1
  | _ => False
def iRng2D (te : TAd) : TId := fun E Q => te E fun xs E1 => match xs with
  | [.int m, .int n] => (-(2 ^ 62) ≤ m ∧ m < 2 ^ 62 ∧ -(2 ^ 62) ≤ n ∧ n < 2 ^ 62) ∧ Q (rngD m (n - m).toNat) E1
  | _ => False
theorem i_range1 {p p2 : Pos} (hm : X.mg "range" = none) (ha : PAd X [a] t) (hg : Gl X "range" := by rfl) (hs : starEach [a] X.env = [(false, eval a X.env)] := by rfl) : PId X tg (.Call (.Name "range" p) [a] [] p2) (iRng1D t) :=
  pi_imp (pi_range1 hg hm ha hs) fun σ H R ⟨en, Hf, F, E, Qd, S, h, k⟩ => ⟨en, Hf, F, E, _, S, h, fun v1 H1 Hf1 F1 E1 x s1 S1 r1 h1 => by
    split at h1
    · cases r1 with | cons a1 l1 =>
      cases l1
      cases a1
      exact ⟨_, rfl, h1.1.1, h1.1.2, k _ _ _ _ _ _ s1 S1 (rng_ok _ _) h1.2⟩
    · exact h1.elim⟩
theorem i_range2 {p p2 : Pos} (hm : X.mg "range" = none) (ha : PAd X [a, b] t) (hg : Gl X "range" := by rfl) (hs : starEach [a, b] X.env = [(false, eval a X.env), (false, eval b X.env)] := by rfl) (hs2 : starEach [b] X.env = [(false, eval b X.env)] := by rfl) : PId X tg (.Call (.Name "range" p) [a, b] [] p2) (iRng2D t) :=
  pi_imp (pi_range2 hg hm ha hs hs2) fun σ H R ⟨en, Hf, F, E, Qd, S, h, k⟩ => ⟨en, Hf, F, E, _, S, h, fun v1 H1 Hf1 F1 E1 x s1 S1 r1 h1 => by
    split at h1
    · cases r1 with | cons a1 l1 =>
      cases l1 with | cons a2 l2 =>
      cases l2
      cases a1
      cases a2
      exact ⟨_, _, rfl, h1.1, k _ _ _ _ _ _ s1 S1 (rng_ok _ _) h1.2⟩
    · exact h1.elim⟩
/-- the turns of a for over the data xs -/
def forD (xs : List D) (g : TGd) (u : TSd) (D : EndsD) (E : En) : Prop := ∃ P : Nat → En → Prop, P 0 E ∧
  (∀ i y E, xs[i]? = some y → P i E → g y E fun E2 => u { nx := P (i + 1), ct := P (i + 1), bk := D.nx, rt := D.rt, ex := D.ex } E2) ∧ ∀ E, P xs.length E → D.nx E
/-- the turns one by one: for lists that are written out, or by induction -/
def forRun (g : TGd) (u : TSd) (A : EndsD) : List D → En → Prop
  | [], E => A.nx E
  | x :: r, E => g x E fun E2 => u { nx := forRun g u A r, ct := forRun g u A r, bk := A.nx, rt := A.rt, ex := A.ex } E2
theorem forD_run {xs : List D} {g : TGd} {u : TSd} {A : EndsD} {E : En} (h : forRun g u A xs E) : forD xs g u A E := by
  refine ⟨fun i E => forRun g u A (xs.drop i) E, by simpa using h, fun i y E e p => ?_, fun E p => ?_⟩
  · replace p : forRun g u A (xs.drop i) E := p
    have hd : xs.drop i = y :: xs.drop (i + 1) := by
      obtain ⟨hi, e2⟩ := List.getElem?_eq_some_iff.mp e
      rw [List.drop_eq_getElem_cons hi, e2]
    rw [hd] at p
    exact p
  · replace p : forRun g u A (xs.drop xs.length) E := p
    rw [List.drop_length] at p
    exact p
def tForD (ti : TId) (g : TGd) (u : TSd) : TSd := fun D E => ti E fun xs E1 => forD xs g u D E1
theorem s_for {ti : TId} (hp : PassesOwn (model X.prog X.w) X.A X.env X.xe) (hc : X.calm = true) (hi : PId X tg iter ti) (hg : PGd X tg g) (hb : PBd X body u) (hs : ∀ x, foldedSetIterable iter X.env x = pure x := by intro _; rfl) : PSd X (.For tg iter body [] pos) (tForD ti g u) :=
  ps_imp (ps_for hp hc hi hg hb hs) fun D σ0 H0 ⟨en, Hf0, F0, E0, Dd, S0, h, j1, j2, j3, j4, j5⟩ => ⟨en, Hf0, F0, E0, _, S0, h, fun J H Hf F E xs sa S jo hf => by
    have k1 : ∀ σ' H' Hf' F' E', Same Hf Hf' → Sat X.K en Hf' H' F' E' σ' → Dd.nx E' → D.nx σ' H' := fun _ _ _ _ _ s2 => j1 _ _ _ _ _ (sa.trans s2)
    have k4 : ∀ v σ' H' Hf' F' E' d, Same Hf Hf' → Sat X.K en Hf' H' F' E' σ' → Rep X.K Hf' v d → Dd.rt d E' → D.rt v H' := fun _ _ _ _ _ _ _ s2 => j4 _ _ _ _ _ _ _ (sa.trans s2)
    obtain ⟨P, p0, ps, pd⟩ := hf
    refine ⟨fun i m σ H => m = xs.length - i ∧ i ≤ xs.length ∧ ∃ Hf' F' E', Same Hf Hf' ∧ Sat X.K en Hf' H F' E' σ ∧ P i E', ⟨xs.length, by simp, Nat.zero_le _, Hf, F, E, Same.refl _, S, p0⟩, ?_⟩
    rintro i m σ1 H1 ⟨rfl, hi, Hf1, F1, E1, s1, S1, p1⟩
    have sH : Same Hf H1 := s1.trans S1.sf
    by_cases hlt : i < xs.length
    · refine .inr ⟨jo.go i H1 sH hlt, fun σ' H' => ∃ Hf' F' E', Same Hf Hf' ∧ Sat X.K en Hf' H' F' E' σ' ∧ P (i + 1) E', fun σ' H' q => ⟨xs.length - (i + 1), by omega, rfl, hlt, q⟩, fun x H' y => ?_⟩
      obtain ⟨d, Hfx, ed, sx, Sx, rx⟩ := jo.item s1 S1 hlt y
      have s1x := s1.trans sx
      refine ⟨en, Hfx, F1, E1, d, _, Sx, rx, ps i d E1 ed p1, fun σ2 H2 Hf2 F2 E2 s2 S2 q2 => ?_⟩
      refine ⟨en, Hf2, F2, E2, _, S2, q2, fun σ3 H3 Hf3 F3 E3 s3 S3 q3 => ⟨Hf3, F3, E3, (s1x.trans s2).trans s3, S3, q3⟩, fun σ3 H3 Hf3 F3 E3 s3 S3 q3 => k1 _ _ _ _ _ ((s1x.trans s2).trans s3) S3 q3,
        fun σ3 H3 Hf3 F3 E3 s3 S3 q3 => ⟨Hf3, F3, E3, (s1x.trans s2).trans s3, S3, q3⟩, fun v σ3 H3 Hf3 F3 E3 d3 s3 S3 r3 q3 => k4 _ _ _ _ _ _ _ ((s1x.trans s2).trans s3) S3 r3 q3, fun _ _ _ _ _ _ _ _ s3 => j5 _ _ _ _ _ _ _ _ (sa.trans ((s1x.trans s2).trans s3))⟩
    · obtain rfl : i = xs.length := by omega
      exact .inl ⟨jo.stop H1 sH, k1 _ _ _ _ _ s1 S1 (pd E1 p1)⟩⟩
/-- while -/
def tWhileD (tA : TTd) (u : TSd) : TSd := fun D E => ∃ P : Nat → En → Prop, (∃ m, P m E) ∧ ∀ m E, P m E → tA E fun k E1 =>
  if k = true then u { nx := fun E2 => ∃ m', m' < m ∧ P m' E2, ct := fun E2 => ∃ m', m' < m ∧ P m' E2, bk := D.nx, rt := D.rt, ex := D.ex } E1 else D.nx E1
theorem s_while (hp : PassesOwn (model X.prog X.w) X.A X.env X.xe) (hc : PTd X c tA) (hb : PBd X body u) : PSd X (.While c body [] pos) (tWhileD tA u) :=
  ps_imp (ps_while hp hc hb) fun D σ H ⟨en, Hf, F, E, Dd, S, ⟨P, ⟨m0, p0⟩, ps⟩, k1, k2, k3, k4, k5⟩ => by
    refine ⟨fun m σ H => ∃ Hf' F' E', Same Hf Hf' ∧ Sat X.K en Hf' H F' E' σ ∧ P m E', ⟨m0, Hf, F, E, Same.refl _, S, p0⟩, ?_⟩
    rintro m σ1 H1 ⟨Hf1, F1, E1, s1, S1, p1⟩
    refine ⟨en, Hf1, F1, E1, _, S1, ps m E1 p1, fun b H2 Hf2 F2 E2 s2 S2 q2 => ?_⟩
    cases b with
    | true =>
      refine ⟨fun σ' H' => ∃ m', m' < m ∧ ∃ Hf' F' E', Same Hf Hf' ∧ Sat X.K en Hf' H' F' E' σ' ∧ P m' E', fun σ' H' q => q, ?_⟩
      exact ⟨en, Hf2, F2, E2, _, S2, q2, fun σ3 H3 Hf3 F3 E3 s3 S3 ⟨m', l, q3⟩ => ⟨m', l, Hf3, F3, E3, (s1.trans s2).trans s3, S3, q3⟩, fun σ3 H3 Hf3 F3 E3 s3 S3 q3 => k1 _ _ _ _ _ ((s1.trans s2).trans s3) S3 q3,
        fun σ3 H3 Hf3 F3 E3 s3 S3 ⟨m', l, q3⟩ => ⟨m', l, Hf3, F3, E3, (s1.trans s2).trans s3, S3, q3⟩, fun v σ3 H3 Hf3 F3 E3 d3 s3 S3 r3 q3 => k4 _ _ _ _ _ _ _ ((s1.trans s2).trans s3) S3 r3 q3, fun _ _ _ _ _ _ _ _ s3 => k5 _ _ _ _ _ _ _ _ ((s1.trans s2).trans s3)⟩
    | false => exact k1 _ _ _ _ _ (s1.trans s2) S2 q2
end

/-! ### calls of defs, where no repr runs around (guards) -/
structure FnG (P : Program) (w : World) (K : PySem.W.Frag) (mg : Str → Option Value) (base : Heap) (CX : CXT) (k : Nat) (f : Addr) (fd : FuncData) (ps : List Str) (sp : Sp) : Prop where
  len : ∀ vs H Q E, sp vs H Q E → vs.length = ps.length
  run : ∀ (A : Around), A.guards = some [] → Room k A → ∀ (outer : List Env) (s : Shared) (H : Hp) (args : Args) (us : List Value) (vs : List V) (Q : VK) (E : XK), Env0 P w K mg base A outer s H → BindsTo s fd args (ps.zip us) → Vals vs us → sp vs H Q E →
    codeAny (model P w) A (.call (.ref f) args) (CR CX outer P w H s Q E) s
theorem FnG.mono {P : Program} {w : World} {K : PySem.W.Frag} {mg : Str → Option Value} {base : Heap} {CX : CXT} {j k : Nat} {f : Addr} {fd : FuncData} {ps : List Str} {sp : Sp} (F : FnG P w K mg base CX j f fd ps sp) (h : j ≤ k) : FnG P w K mg base CX k f fd ps sp :=
  ⟨F.len, fun A hg hr => F.run A hg (hr.mono h)⟩
section
variable {X : Cx} {CX : CXT} {k : Nat} {f : Addr} {fd : FuncData} {ps : List Str} {sp : Sp} {E : XK} {x : Str} {p pos : Pos} {e : Expr} {es : List Expr} {t : TA}
theorem run_G {pins : List (Addr × Obj)} {σ : St} {H : Hp} {s : Shared} {Q : VK} {us : List Value} {vs : List V} (F : FnG X.prog X.w X.K X.mg X.base CX k f fd ps sp) (hgd : X.A.guards = some []) (hr : Room k X.A) (hb : Binds X.K fd ps []) (hx : Passes CX X E)
    (I : Inv X pins σ H s) (r : Vals vs us) (h : sp vs H Q E) : wpAny (model X.prog X.w) X.A (call (.ref f) us) (EP X pins σ Q) X.xe s := by
  have lu : us.length = ps.length := r.length.symm.trans (F.len _ _ _ _ h)
  have bt : BindsTo s fd ⟨us, []⟩ (ps.zip us) := by
    have z := hb s us I.kIn (by rw [List.append_nil]; exact lu)
    rw [List.append_nil] at z
    exact z
  have main := F.run X.A hgd hr X.stack s H ⟨us, []⟩ us vs Q E I.env0 bt r h
  refine wpAny_call (codeAny_mono main fun res s' q => ?_)
  match res, q with
  | .error err, q => exact hx pins σ H s err s' I q
  | .ok (.ret u), q => exact I.after q
theorem pe_callG (F : FnG X.prog X.w X.K X.mg X.base CX k f fd ps sp) (hgd : X.A.guards = some []) (hr : Room k X.A) (hg : Gl X x) (hm : X.mg x = some (.ref f)) (hk : PySem.W.keepIn X.K (.ref f) = true) (hb : Binds X.K fd ps []) (hx : Passes CX X E) (ha : PA X (e :: es) t)
    (hdb : (x == ("__debug__" : Str)) = false := by decide) (he : starEach (e :: es) X.env = (false, eval e X.env) :: starEach es X.env := by rfl) (hpl : (backTo pos (starEach es X.env)).any (·.1) = false := by rfl) :
    PE X (.Call (.Name x p) (e :: es) [] pos) (fun σ H Q => t σ H fun vs H1 => sp vs H1 Q E) :=
  ⟨fun pins s σ H Q I h => wpAny_Call_Name_kw (ld_glob I hg hm (PySem.W.callWith_K (h₀ := X.base) I.ok.mod.kin hk
    (thn (ha.run pos pins s σ H _ I h) fun us s1 ⟨vs, H1, I1, r, q⟩ => ⟨I1.kIn, run_G F hgd hr hb hx I1 r q⟩) he hpl) hdb)⟩
theorem pe_callG0 (F : FnG X.prog X.w X.K X.mg X.base CX k f fd ps sp) (hgd : X.A.guards = some []) (hr : Room k X.A) (hg : Gl X x) (hm : X.mg x = some (.ref f)) (hk : PySem.W.keepIn X.K (.ref f) = true) (hb : Binds X.K fd ps []) (hx : Passes CX X E)
    (hdb : (x == ("__debug__" : Str)) = false := by decide) : PE X (.Call (.Name x p) [] [] pos) (fun σ H Q => sp [] H Q E) :=
  ⟨fun pins s σ H Q I h => wpAny_Call_Name_kw (ld_glob I hg hm (PySem.W.callWith_K0 I.kIn hk (run_G (us := []) F hgd hr hb hx I .nil h)) hdb)⟩
end
section
variable {P : Program} {w : World} {K : PySem.W.Frag} {mg : Str → Option Value} {base : Heap}
/-- a def keeps its promise if its body does -/
theorem FnG.body {CX : CXT} {x qual : Str} {st : Stmt} {f : Addr} {fd : FuncData} {N ps : List Str} {k : Nat} {sp : Sp} (F : Fun K x qual st f fd) (S : FnScope N ps (defScope st)) (len : ∀ vs H Q E, sp vs H Q E → vs.length = ps.length)
    (hb : ∀ (cdv : Value) (A : Around) (outer : List Env) (s : Shared) (H : Hp) (vs : List V) (Q : VK) (E : XK), A.guards = some [] → Room k (A.deeper (PyProof.Rows.envOfC qual (defScope st) s.heap.objs.size f cdv)) → sp vs H Q E →
      ∃ t, PSs (cxOf CX P w K mg base N qual (defScope st) f cdv A outer s H E) (defBody st) t ∧ t { nx := fun _ H' => Q .non H', rt := Q } (L2.start N vs) H) : FnG P w K mg base CX (k + 1) f fd ps sp := by
  obtain ⟨oc, od, kV, doc, pm, an, cdv, ct, osl, efd, lk, hcd⟩ := F.ex
  subst efd
  refine ⟨len, fun A hg hr outer s H args us vs Q E e0 bt r h => ?_⟩
  have keepB : ∀ b o, base.get? b = some o → s.heap.get? b = some o := fun b o e => (e0.bs b o e).1
  have kin : K.In s.heap := e0.mod.kin.keeps keepB
  refine codeAny_call_function hr.depth (kin _ _ lk) rfl S.co S.gen rfl (PySem.W.codeRec_of kin hcd) (bt _ _ _ _ ?_)
  refine wpAny_newFunctionEnv_cells S.kind (fun y hy => ?_) fun env he s1 xc => ?_
  · rcases S.par y.1 (List.of_mem_zip hy).1 with q | q
    · exact .inl q
    · exact .inr ⟨q, PySem.W.cellsFrom_some _ _ _ (.inl q)⟩
  · subst he
    obtain ⟨t, ht, hq⟩ := hb cdv A outer s H vs Q E hg (hr.deeper _) h
    have I0 : Inv (cxOf CX P w K mg base N qual (defScope st) f cdv A outer s H E) [] (L2.start N vs) H s1 := inv_start S hr.hd e0 (len _ _ _ _ h) r xc
    refine ⟨(e0.mod.nolimit.keeps keepB).keeps xc.toInCall.keep, codeAny_func (wpAny_mono (ht.run [] s1 _ H _ I0 hq) (fun fl s' hs => ?_) fun _ _ z => z)⟩
    match fl, hs with
    | .ret u, ⟨v, σ', H', J, rv, q⟩ => exact ⟨v, H', J.os, J.bare, J.base, J.hok, rv, q⟩
    | .next, ⟨σ', H', J, q⟩ => exact ⟨.non, H', J.os, J.bare, J.base, J.hok, rfl, q⟩
    | .brk, ⟨_, _, _, q⟩ => exact q.elim
    | .cont, ⟨_, _, _, q⟩ => exact q.elim
end

/-- a def whose arguments are data -/
abbrev SpP := List D → (D → Prop) → Prop
def liftP (K : PySem.W.Frag) (sp : SpP) : Sp := fun vs H Q _ => ∃ Hf ds Qd, Same Hf H ∧ RepL K Hf vs ds ∧ sp ds Qd ∧
  ∀ v H' Hf' d, Same Hf Hf' → Same Hf' H' → Same H H' → (∀ p o, Hf' p = some o → Hf p = some o ∨ H p = none) → Rep K Hf' v d → Qd d → Q v H'
/-- a def whose first argument is a thing that it may change -/
abbrev SpO := Ow → List D → (D → Ow → Prop) → Prop
def liftOw (K : PySem.W.Frag) (sp : SpO) : Sp := fun vs H Q _ => ∃ Hf v0 ws o fp ds Qd, vs = v0 :: ws ∧ Same Hf H ∧ OwRep K Hf H v0 o fp ∧ (∀ p ∈ fp, Hf p = none) ∧ RepL K Hf ws ds ∧ sp o ds Qd ∧
  ∀ v H' Hf' d o', Same Hf Hf' → Same Hf' H' → (∀ p u, p ∉ fp → H p = some u → H' p = some u) → (∀ p u, H p = some u → ∃ u', H' p = some u') → (∀ p u, Hf' p = some u → Hf p = some u ∨ H p = none) →
    OwRep K Hf' H' v0 o' fp → Rep K Hf' v d → Qd d o' → Q v H'
section
variable {X : Cx} {CX : CXT} {k : Nat} {f : Addr} {fd : FuncData} {ps : List Str} {sp : SpP} {so : SpO} {E : XK} {x : Str} {p pos : Pos} {e : Expr} {es : List Expr} {t : TAd}
def tCallD (sp : SpP) (t : TAd) : TEd := fun E Q => t E fun ds E1 => sp ds fun d => Q d E1
theorem d_call (F : FnG X.prog X.w X.K X.mg X.base CX k f fd ps (liftP X.K sp)) (hgd : X.A.guards = some []) (hr : Room k X.A) (hm : X.mg x = some (.ref f)) (hk : PySem.W.keepIn X.K (.ref f) = true) (hb : Binds X.K fd ps []) (hx : Passes CX X E)
    (ha : PAd X (e :: es) t) (hg : Gl X x := by rfl) (hdb : (x == ("__debug__" : Str)) = false := by decide) (he : starEach (e :: es) X.env = (false, eval e X.env) :: starEach es X.env := by rfl) (hpl : (backTo pos (starEach es X.env)).any (·.1) = false := by rfl) :
    PEd X (.Call (.Name x p) (e :: es) [] pos) (tCallD sp t) :=
  pe_imp (pe_callG F hgd hr hg hm hk hb hx ha hdb he hpl) fun σ H Q ⟨en, Hf, F, E, Qd, S, h, k⟩ => ⟨en, Hf, F, E, _, S, h, fun vs H1 Hf1 F1 E1 ds s1 S1 r1 h1 => by
    exact ⟨Hf1, ds, _, S1.sf, r1, h1, fun v H' Hf' d s2 s3 s4 g r q => k _ _ _ _ _ _ (s1.trans s2) (S1.grow s2 s3 s4 g) r q⟩⟩
theorem d_call0 (F : FnG X.prog X.w X.K X.mg X.base CX k f fd ps (liftP X.K sp)) (hgd : X.A.guards = some []) (hr : Room k X.A) (hm : X.mg x = some (.ref f)) (hk : PySem.W.keepIn X.K (.ref f) = true) (hb : Binds X.K fd ps []) (hx : Passes CX X E) (hg : Gl X x := by rfl)
    (hdb : (x == ("__debug__" : Str)) = false := by decide) : PEd X (.Call (.Name x p) [] [] pos) (tCallD sp tNilD) :=
  pe_imp (pe_callG0 F hgd hr hg hm hk hb hx hdb) fun σ H Q ⟨en, Hf, F, E, Qd, S, h, k⟩ =>
    ⟨Hf, [], _, S.sf, .nil, h, fun v H' Hf' d s2 s3 s4 g r q => k _ _ _ _ _ _ s2 (S.grow s2 s3 s4 g) r q⟩
/-- f(x, ..), x (slot j) a thing of ours, or lent to us -/
def tCallO (j : Nat) (so : SpO) (t : TAd) : TEd := fun E Q => held E j ∧ t E fun ds E1 => match E1[j]? with
  | some (.ow b o) => so o ds fun d o' => Q d (E1.set j (.ow b o'))
  | _ => False
theorem d_callO (j : Nat) {y : Str} {py : Pos} (F : FnG X.prog X.w X.K X.mg X.base CX k f fd ps (liftOw X.K so)) (hgd : X.A.guards = some []) (hr : Room k X.A) (hm : X.mg x = some (.ref f)) (hk : PySem.W.keepIn X.K (.ref f) = true) (hb : Binds X.K fd ps []) (hx : Passes CX X E)
    (ha : PAd X es t) (hN : X.N[j]? = some y := by rfl) (hv : Vis X.env.scope y := by first | exact Or.inl rfl | exact Or.inr (Or.inl rfl) | exact Or.inr (Or.inr rfl))
    (hyd : (y == ("__debug__" : Str)) = false := by decide) (hyc : (y == ("__classdict__" : Str)) = false := by decide) (hg : Gl X x := by rfl) (hdb : (x == ("__debug__" : Str)) = false := by decide)
    (he : starEach (.Name y py :: es) X.env = (false, eval (.Name y py) X.env) :: starEach es X.env := by rfl) (hpl : (backTo pos (starEach es X.env)).any (·.1) = false := by rfl) :
    PEd X (.Call (.Name x p) (.Name y py :: es) [] pos) (tCallO j so t) :=
  pe_imp (pe_callG F hgd hr hg hm hk hb hx (pa_cons (pv j hN hv hyd hyc) ha he) hdb he hpl) fun σ H Q ⟨en, Hf, F, E, Qd, S, h, k⟩ => by
    obtain ⟨v0, hv0⟩ := h.1.val S
    refine ⟨v0, hv0, en, Hf, F, E, _, S, h.2, fun vs H1 Hf1 F1 E1 ds s1 S1 r1 h1 => ?_⟩
    split at h1
    · rename_i b o eo
      obtain ⟨v1, hv1, ro, hl⟩ := S1.own eo
      rw [hv0] at hv1
      cases hv1
      exact ⟨Hf1, v0, vs, o, F1 j, ds, _, rfl, S1.sf, ro, fun q hq => (S1.fp j q hq).1, r1, h1, fun v H' Hf' d o' s2 s3 s4 dm g ro' r q =>
        k _ _ _ _ _ _ (s1.trans s2) (S1.change eo hv0 s2 s3 s4 dm g ro') r q⟩
    · exact h1.elim
end

/-! ### a def by its body -/
def noHp : Hp := fun _ => none
/-- the slots at the entry -/
def startD (N : List Str) (ds : List Sl) : En := ds ++ List.replicate (N.length - ds.length) .un
section
variable {P : Program} {w : World} {K : PySem.W.Frag} {mg : Str → Option Value} {base : Heap}
theorem start_get {N : List Str} {vs : List V} {i : Nat} (h : i < vs.length) : (start N vs)[i]? = some (some (vs[i]'h)) := by
  unfold L2.start
  rw [List.getElem?_append_left (by rw [List.length_map]; exact h)]
  simp [h]
theorem start_at {N : List Str} {vs : List V} {i : Nat} {v : V} (h : vs[i]? = some v) : (start N vs)[i]? = some (some v) := by
  unfold L2.start
  obtain ⟨hi, e⟩ := List.getElem?_eq_some_iff.mp h
  rw [List.getElem?_append_left (by rw [List.length_map]; exact hi), List.getElem?_map, h]
  rfl
theorem fn_pure {x qual : Str} {st : Stmt} {f : Addr} {fd : FuncData} {N ps : List Str} {k : Nat} {sp : SpP} (F : Fun K x qual st f fd) (S : FnScope N ps (defScope st)) (hN : ps.length ≤ N.length) (len : ∀ ds Q, sp ds Q → ds.length = ps.length)
    (hbody : ∃ t : TSd, (∀ (cdv : Value) (A : Around) (outer : List Env) (s : Shared) (H : Hp) (E : XK), A.guards = some [] → Room k (A.deeper (PyProof.Rows.envOfC qual (defScope st) s.heap.objs.size f cdv)) →
      PBd (cxOf CX0 P w K mg base N qual (defScope st) f cdv A outer s H E).nox (defBody st) t) ∧
      ∀ ds Q, sp ds Q → t { nx := fun _ => Q .non, rt := fun d _ => Q d } (startD N (ds.map .fz))) : FnG P w K mg base CX0 (k + 1) f fd ps (liftP K sp) := by
  obtain ⟨t, hd, hq⟩ := hbody
  refine FnG.body F S (fun vs H Q E ⟨Hf, ds, Qd, _, r, h, _⟩ => by rw [r.length]; exact len _ _ h) (fun cdv A outer s H vs Q E hgd hr ⟨Hf, ds, Qd, sf, r, h, kk⟩ => ⟨_, (hd cdv A outer s H E hgd hr).nox, ?_⟩)
  have hl := len _ _ h
  have hlen : (start N vs).length = (startD N (ds.map .fz)).length := by
    unfold L2.start startD
    simp only [List.length_append, List.length_map, List.length_replicate, r.length]
  refine ⟨⟨H, Hf, fun _ => [], fun _ => .non, noHp⟩, Hf, fun _ => [], startD N (ds.map .fz), _, ?_, hq ds Qd h, fun σ' H' Hf' F' E' s1 S1 q => ?_, fun _ _ _ _ _ _ _ q => q.elim, fun _ _ _ _ _ _ _ q => q.elim, fun v σ' H' Hf' F' E' d s1 S1 r1 q => ?_, fun _ _ _ _ _ _ _ _ _ _ _ q => q.elim⟩
  · refine { sf := sf, so := fun p o _ a => a, dom := fun p o a => ⟨o, a⟩, sp := fun p o a => (nomatch a), pf := fun p o a => (nomatch a), gf := Same.refl _, gn := fun p o a => .inl a, dj := fun i j p a => (nomatch a), fp := fun i p a => (nomatch a), len := hlen, sl := fun i sl e => ?_ }
    unfold startD at e
    by_cases hi : i < ds.length
    · rw [List.getElem?_append_left (by rw [List.length_map]; exact hi), List.getElem?_map] at e
      obtain ⟨d, ed⟩ := getE hi
      rw [ed] at e
      cases e
      obtain ⟨v, ev, rv⟩ := r.get ed
      exact ⟨v, start_at ev, rv⟩
    · rw [List.getElem?_append_right (by rw [List.length_map]; omega)] at e
      have e2 := List.mem_of_getElem? e
      rw [List.eq_of_mem_replicate e2]
      trivial
  · exact kk .non H' Hf' .non s1 S1.sf (fun p o a => S1.so p o (fun _ z => nomatch z) a) (fun p o a => S1.gn p o a) .non q
  · exact kk v H' Hf' d s1 S1.sf (fun p o a => S1.so p o (fun _ z => nomatch z) a) (fun p o a => S1.gn p o a) r1 q
theorem fn_own {x qual : Str} {st : Stmt} {f : Addr} {fd : FuncData} {N ps : List Str} {k : Nat} {so : SpO} (F : Fun K x qual st f fd) (S : FnScope N ps (defScope st)) (len : ∀ o ds Q, so o ds Q → ds.length + 1 = ps.length)
    (hbody : ∃ t : TSd, (∀ (cdv : Value) (A : Around) (outer : List Env) (s : Shared) (H : Hp) (E : XK), A.guards = some [] → Room k (A.deeper (PyProof.Rows.envOfC qual (defScope st) s.heap.objs.size f cdv)) →
      PBd (cxOf CX0 P w K mg base N qual (defScope st) f cdv A outer s H E).nox (defBody st) t) ∧
      ∀ o ds Q, so o ds Q → t { nx := fun E => ∃ o', E[0]? = some (.ow true o') ∧ Q .non o', rt := fun d E => ∃ o', E[0]? = some (.ow true o') ∧ Q d o' } (startD N (.ow true o :: ds.map .fz))) : FnG P w K mg base CX0 (k + 1) f fd ps (liftOw K so) := by
  obtain ⟨t, hd, hq⟩ := hbody
  refine FnG.body F S (fun vs H Q E ⟨Hf, v0, ws, o, fp, ds, Qd, e, _, _, _, r, h, _⟩ => by rw [e, List.length_cons, r.length]; exact len _ _ _ h) (fun cdv A outer s H vs Q E hgd hr ⟨Hf, v0, ws, o, fp, ds, Qd, e, sf, ro, hfp, r, h, kk⟩ => ⟨_, (hd cdv A outer s H E hgd hr).nox, ?_⟩)
  subst e
  have hlen : (start N (v0 :: ws)).length = (startD N (.ow true o :: ds.map .fz)).length := by
    unfold L2.start startD
    simp only [List.length_append, List.length_map, List.length_replicate, List.length_cons, r.length]
  have notin : ∀ {p : Addr}, (∀ i, p ∉ setF (fun _ => []) 0 fp i) → p ∉ fp := fun h => by
    have := h 0
    rw [setF_same] at this
    exact this
  have inn : ∀ {i : Nat} {p : Addr}, p ∈ setF (fun _ => []) 0 fp i → i = 0 ∧ p ∈ fp := fun {i p} h => by
    by_cases z : i = 0
    · subst z
      rw [setF_same] at h
      exact ⟨rfl, h⟩
    · rw [setF_ne z] at h
      cases h
  have fin : ∀ {v σ' H' Hf' F' E' d}, Same Hf Hf' → Sat K ⟨H, Hf, setF (fun _ => []) 0 fp, fun _ => v0, noHp⟩ Hf' H' F' E' σ' → Rep K Hf' v d → (∃ o', E'[0]? = some (Sl.ow true o') ∧ Qd d o') → Q v H' := fun {v σ' H' Hf' F' E' d} s1 S1 r1 ⟨o', e1, q⟩ => by
    obtain ⟨v1, hv1, ro1, hl1, _⟩ := S1.own e1
    obtain ⟨e2, e3⟩ := hl1 rfl
    have ro2 : OwRep K Hf' H' v0 o' fp := by
      have z : F' 0 = fp := e3.trans (show setF (fun _ => []) 0 fp 0 = fp from setF_same)
      have z2 : v1 = v0 := e2
      rw [z, z2] at ro1
      exact ro1
    refine kk v H' Hf' d o' s1 S1.sf (fun p u np a => S1.so p u (fun i z => np (inn z).2) a) S1.dom (fun p u a => S1.gn p u a) ro2 r1 q
  refine ⟨⟨H, Hf, setF (fun _ => []) 0 fp, fun _ => v0, noHp⟩, Hf, setF (fun _ => []) 0 fp, startD N (.ow true o :: ds.map .fz), _, ?_, hq o ds Qd h, fun σ' H' Hf' F' E' s1 S1 q => ?_, fun _ _ _ _ _ _ _ q => q.elim, fun _ _ _ _ _ _ _ q => q.elim, fun v σ' H' Hf' F' E' d s1 S1 r1 q => fin s1 S1 r1 q, fun _ _ _ _ _ _ _ _ _ _ _ q => q.elim⟩
  · refine { sf := sf, so := fun p o _ a => a, dom := fun p o a => ⟨o, a⟩, sp := fun p o a => (nomatch a), pf := fun p o a => (nomatch a), gf := Same.refl _, gn := fun p o a => .inl a, dj := fun i j p a b => by rw [(inn a).1, (inn b).1], fp := fun i p a => ⟨hfp p (inn a).2, ro.some p (inn a).2, .inl ⟨i, a⟩, rfl⟩, len := hlen, sl := fun i sl e => ?_ }
    unfold startD at e
    cases i with
    | zero =>
      rw [List.cons_append, List.getElem?_cons_zero] at e
      cases e
      refine ⟨v0, start_at rfl, by rw [setF_same]; exact ro, fun _ => ⟨rfl, rfl⟩, fun z => by cases z⟩
    | succ i =>
      rw [List.cons_append, List.getElem?_cons_succ] at e
      by_cases hi : i < ds.length
      · rw [List.getElem?_append_left (by rw [List.length_map]; exact hi), List.getElem?_map] at e
        obtain ⟨d, ed⟩ := getE hi
        rw [ed] at e
        cases e
        obtain ⟨v, ev, rv⟩ := r.get ed
        exact ⟨v, start_at (by rw [List.getElem?_cons_succ]; exact ev), rv⟩
      · rw [List.getElem?_append_right (by rw [List.length_map]; omega)] at e
        have e2 := List.mem_of_getElem? e
        rw [List.eq_of_mem_replicate e2]
        trivial
  · exact fin s1 S1 .non q
end
end L3
namespace L3
open PySem L2
variable [Tbs]
/-! ### list comprehensions -/
def wipeD (E : En) : List Nat → En
  | [] => E
  | v :: vs => (wipeD E vs).set v .un
theorem wipeD_length (E : En) : ∀ vs : List Nat, (wipeD E vs).length = E.length
  | [] => rfl
  | v :: vs => by unfold wipeD; rw [List.length_set, wipeD_length E vs]
theorem wipeD_get {E : En} {i : Nat} {s : Sl} : ∀ {vs : List Nat}, (wipeD E vs)[i]? = some s → s = .un ∨ (E[i]? = some s ∧ i ∉ vs)
  | [], h => .inr ⟨h, by simp⟩
  | v :: vs, h => by
    unfold wipeD at h
    by_cases hi : v = i
    · subst hi
      by_cases hv : v < (wipeD E vs).length
      · rw [List.getElem?_set_self hv] at h
        cases h
        exact .inl rfl
      · rw [List.getElem?_eq_none (by simpa using hv)] at h
        cases h
    · rw [List.getElem?_set_ne hi] at h
      rcases wipeD_get h with q | ⟨q1, q2⟩
      · exact .inl q
      · exact .inr ⟨q1, by simp only [List.mem_cons, not_or]; exact ⟨fun e => hi e.symm, q2⟩⟩
theorem wipe_off {σ : St} {i : Nat} : ∀ {vs : List Nat}, i ∉ vs → (wipe σ vs)[i]? = σ[i]?
  | [], _ => rfl
  | v :: vs, h => by
    unfold wipe
    rw [List.getElem?_set_ne (fun e => h (by simp [e]))]
    exact wipe_off fun z => h (List.mem_cons_of_mem _ z)
theorem wipe_set {σ : St} {i : Nat} {x : Option V} : ∀ {vs : List Nat}, i ∈ vs → wipe (σ.set i x) vs = wipe σ vs
  | [], h => by cases h
  | v :: vs, h => by
    unfold wipe
    by_cases hm : i ∈ vs
    · rw [wipe_set hm]
    · have e : i = v := by
        rcases List.mem_cons.mp h with e | e
        · exact e
        · exact absurd e hm
      subst e
      have : wipe (σ.set i x) vs = (wipe σ vs).set i x := by
        clear h
        induction vs with
        | nil => rfl
        | cons w ws ih =>
          have h1 : i ≠ w := fun e => hm (by simp [e])
          have h2 : i ∉ ws := fun e => hm (List.mem_cons_of_mem _ e)
          unfold wipe
          rw [ih h2, List.set_comm _ _ h1]
      rw [this, List.set_set]
theorem wipe_wipe {σ : St} : ∀ vs : List Nat, wipe (wipe σ vs) vs = wipe σ vs := fun vs => by
  have h : ∀ ws : List Nat, (∀ v ∈ ws, v ∈ vs) → wipe (wipe σ ws) vs = wipe σ vs := by
    intro ws
    induction ws with
    | nil => intro _; rfl
    | cons w ws ih =>
      intro hs
      have : wipe σ (w :: ws) = (wipe σ ws).set w none := rfl
      rw [this, wipe_set (hs w (by simp))]
      exact ih fun v hv => hs v (List.mem_cons_of_mem _ hv)
  exact h vs fun _ z => z
section
variable {K : PySem.W.Frag} {en : Et} {Hf Hf' H H' : Hp} {F : Nat → List Addr} {E : En} {σ σ' : St} {A : Addr} {o : HO}
theorem Sat.re (S : Sat K en Hf H F E σ) {E' : En} {σ' : St} (hl : σ'.length = E'.length) (h : ∀ (i : Nat) (s : Sl), E'[i]? = some s → s = .un ∨ (E[i]? = some s ∧ σ'[i]? = σ[i]?)) : Sat K en Hf H F E' σ' := by
  refine { S with len := hl, sl := fun i s e => ?_ }
  rcases h i s e with q | ⟨q1, q2⟩
  · subst q
    trivial
  · have z := S.sl i s q1
    cases s with
    | un => trivial
    | fz d =>
      obtain ⟨v, e, r⟩ := z
      exact ⟨v, q2.trans e, r⟩
    | xc a c d fs => exact ⟨q2.trans z.1, z.2⟩
    | cl v vs ds cc oo => exact ⟨q2.trans z.1, z.2⟩
    | ow b o =>
      obtain ⟨v, e, r⟩ := z
      exact ⟨v, q2.trans e, r⟩
theorem Sat.wipe (S : Sat K en Hf H F E σ) (vs : List Nat) : Sat K en Hf H F (wipeD E vs) (L2.wipe σ vs) :=
  S.re (by rw [wipe_length, wipeD_length, S.len]) fun i s e => (wipeD_get e).imp id fun ⟨a, b⟩ => ⟨a, wipe_off b⟩
theorem Sat.unwipe (S : Sat K en Hf H F E σ') (vs : List Nat) (e : L2.wipe σ' vs = L2.wipe σ vs) : Sat K en Hf H F (wipeD E vs) σ := by
  refine S.re ?_ fun i s h => (wipeD_get h).imp id fun ⟨a, b⟩ => ⟨a, ?_⟩
  · rw [wipeD_length, ← S.len, ← wipe_length σ' vs, e, wipe_length]
  · rw [← wipe_off (σ := σ) b, ← e, wipe_off b]
/-- one more thing that is not ours is not to be changed -/
def Et.prot (en : Et) (p : Addr) (o : HO) : Et := { en with Pr := upd en.Pr p o }
theorem Sat.protect (S : Sat K en Hf H F E σ) {p : Addr} {o : HO} (n : H p = none) : Sat K (en.prot p o) Hf (upd H p o) F E σ := by
  have S1 : Sat K en Hf (upd H p o) F E σ := S.grow (Same.refl _) (S.sf.trans (same_upd n)) (same_upd n) fun _ _ a => .inl a
  refine { S1 with sp := ?_, pf := ?_, fp := ?_, sl := ?_ }
  · exact Same.upd S.sp
  · intro b u z
    by_cases q : b = p
    · subst q
      exact S.sf.free n
    · have z' : upd en.Pr p o b = some u := z
      rw [upd_ne q] at z'
      exact S.pf b u z'
  · intro i b hb
    obtain ⟨a1, a2, a3, a4⟩ := S.fp i b hb
    obtain ⟨u, a2⟩ := a2
    have q : b ≠ p := ne_of_none a2 n
    refine ⟨a1, ⟨u, by rw [upd_ne q]; exact a2⟩, a3, ?_⟩
    show upd en.Pr p o b = none
    rw [upd_ne q]
    exact a4
  · intro i s e
    have z := S1.sl i s e
    cases s <;> exact z
/-- .. is changed by the rule itself -/
theorem Sat.chProt (S : Sat K (en.prot A o) Hf H F E σ) (h0 : en.Pr A = none) (h1 : en.H0 A = none) (o' : HO) : Sat K (en.prot A o') Hf (upd H A o') F E σ := by
  have hD : Hf A = none := S.pf A o (show upd en.Pr A o A = some o from upd_same)
  have nF : ∀ i, A ∉ F i := fun i hb => by
    have z : upd en.Pr A o A = some o := upd_same
    rw [show upd en.Pr A o A = none from (S.fp i A hb).2.2.2] at z
    cases z
  refine { sf := fun b u z => ?_, so := fun b u a z => ?_, dom := fun b u z => ?_, sp := fun b u z => ?_, pf := fun b u z => ?_, gf := S.gf, gn := S.gn, dj := S.dj, fp := fun i b hb => ?_, len := S.len, sl := fun i s e => ?_ }
  · have q : b ≠ A := fun q => by
      rw [q, hD] at z
      cases z
    rw [upd_ne q]
    exact S.sf _ _ z
  · have q : b ≠ A := fun q => by
      have z' : en.H0 b = some u := z
      rw [q, h1] at z'
      cases z'
    rw [upd_ne q]
    exact S.so b u a z
  · by_cases q : b = A
    · subst q
      exact ⟨_, upd_same⟩
    · rw [upd_ne q]
      exact S.dom b u z
  · have z' : upd en.Pr A o' b = some u := z
    by_cases q : b = A
    · subst q
      rw [upd_same] at z' ⊢
      exact z'
    · rw [upd_ne q] at z' ⊢
      refine S.sp b u (show upd en.Pr A o b = some u from ?_)
      rw [upd_ne q]
      exact z'
  · have z' : upd en.Pr A o' b = some u := z
    by_cases q : b = A
    · subst q
      exact hD
    · rw [upd_ne q] at z'
      refine S.pf b u (show upd en.Pr A o b = some u from ?_)
      rw [upd_ne q]
      exact z'
  · obtain ⟨a1, ⟨u, a2⟩, a3, a4⟩ := S.fp i b hb
    have q : b ≠ A := fun q => nF i (q ▸ hb)
    refine ⟨a1, ⟨u, by rw [upd_ne q]; exact a2⟩, a3, ?_⟩
    show upd en.Pr A o' b = none
    rw [upd_ne q]
    have a4' : upd en.Pr A o b = none := a4
    rw [upd_ne q] at a4'
    exact a4'
  · have z := S.sl i s e
    cases s with
    | un => trivial
    | fz d => exact z
    | xc a c d fs => exact z
    | cl v vs ds cc oo => exact z
    | ow b ow =>
      obtain ⟨v, e, r, y⟩ := z
      exact ⟨v, e, r.mono (Same.refl _) fun p hp u hu => (by
        have q : p ≠ A := fun q => nF i (by rw [← q]; exact hp)
        rw [upd_ne q]
        exact hu), y⟩
/-- .. becomes data -/
theorem Sat.unprot (S : Sat K (en.prot A o) Hf H F E σ) (h0 : en.Pr A = none) (h1 : en.H0 A = none) : Sat K en (upd Hf A o) H F E σ ∧ Same Hf (upd Hf A o) := by
  have hD : Hf A = none := S.pf A o (show upd en.Pr A o A = some o from upd_same)
  have hH : H A = some o := S.sp A o (show upd en.Pr A o A = some o from upd_same)
  have s1 : Same Hf (upd Hf A o) := same_upd hD
  have nF : ∀ i b, b ∈ F i → b ≠ A := fun i b hb q => by
    subst q
    have z : upd en.Pr b o b = some o := upd_same
    rw [show upd en.Pr b o b = none from (S.fp i b hb).2.2.2] at z
    cases z
  refine ⟨{ sf := fun b u z => ?_, so := S.so, dom := S.dom, sp := fun b u z => ?_, pf := fun b u z => ?_, gf := S.gf.trans s1, gn := fun b u z => ?_, dj := S.dj, fp := fun i b hb => ?_, len := S.len, sl := fun i s e => ?_ }, s1⟩
  · by_cases q : b = A
    · subst q
      rw [upd_same] at z
      cases z
      exact hH
    · rw [upd_ne q] at z
      exact S.sf _ _ z
  · refine S.sp b u (show upd en.Pr A o b = some u from ?_)
    rw [upd_ne (ne_of_none z h0)]
    exact z
  · have q : b ≠ A := ne_of_none z h0
    rw [upd_ne q]
    refine S.pf b u (show upd en.Pr A o b = some u from ?_)
    rw [upd_ne q]
    exact z
  · by_cases q : b = A
    · subst q
      exact .inr h1
    · rw [upd_ne q] at z
      exact S.gn b u z
  · obtain ⟨a1, a2, a3, a4⟩ := S.fp i b hb
    have q := nF i b hb
    refine ⟨by rw [upd_ne q]; exact a1, a2, a3, ?_⟩
    have a4' : upd en.Pr A o b = none := a4
    rw [upd_ne q] at a4'
    exact a4'
  · have z := S.sl i s e
    cases s with
    | un => trivial
    | fz d =>
      obtain ⟨v, e, r⟩ := z
      exact ⟨v, e, r.mono s1⟩
    | xc a c d fs => exact ⟨z.1, z.2.mono s1⟩
    | cl v vs ds cc oo => exact ⟨z.1, z.2.mono s1⟩
    | ow b ow =>
      obtain ⟨v, e, r, y⟩ := z
      exact ⟨v, e, r.mono s1 fun _ _ _ hu => hu, y⟩
theorem Sat.fresh (S : Sat K en Hf H F E σ) {p : Addr} (n : H p = none) : en.Pr p = none ∧ en.H0 p = none := by
  refine ⟨S.sp.free n, ?_⟩
  cases q : en.H0 p with
  | none => rfl
  | some u =>
    obtain ⟨u', e⟩ := S.dom p u q
    rw [n] at e
    cases e
end
section
variable {X : Cx} {a b c e tg iter elt : Expr} {es ifs : List Expr} {ta tb tc te : TEd} {tt : TTd} {t : TAd} {g : TGd} {pos : Pos} {vs : List Nat}
/-- targets of a comprehension: the frame's other slots stay -/
def liftC (K : PySem.W.Frag) (vs : List Nat) (t : TGd) : TG := fun v σ H Q => ∃ en Hf F E d Qd, Sat K en Hf H F E σ ∧ Rep K Hf v d ∧ t d E Qd ∧ ∀ σ' H' Hf' F' E', Same Hf Hf' → Sat K en Hf' H' F' E' σ' → wipe σ' vs = wipe σ vs → Qd E' → Q σ' H'
def liftCs (K : PySem.W.Frag) (vs : List Nat) (t : TGsd) : TGs := fun ws σ H Q => ∃ en Hf F E ds Qd, Sat K en Hf H F E σ ∧ RepL K Hf ws ds ∧ t ds E Qd ∧ ∀ σ' H' Hf' F' E', Same Hf Hf' → Sat K en Hf' H' F' E' σ' → wipe σ' vs = wipe σ vs → Qd E' → Q σ' H'
abbrev PCd (X : Cx) (vs : List Nat) (e : Expr) (t : TGd) : Prop := PG X e (liftC X.K vs t)
abbrev PCsd (X : Cx) (vs : List Nat) (es : List Expr) (t : TGsd) : Prop := PGs X es (liftCs X.K vs t)
theorem c_name {i : Nat} {x : Str} (hN : X.N.Nodup) (hvs : i ∈ vs := by decide) (hi : X.N[i]? = some x := by rfl) (hx : Loc X.env.scope x := by first | exact .inl rfl | exact .inr rfl) (hf : X.fn x = true ∨ X.env.scope.names.lookup x = some .local := by first | exact .inl rfl | exact .inr rfl | assumption) : PCd X vs (.Name x pos) (gNameD i) :=
  pg_imp (pg_name hN hi hx hf) fun v σ H Q ⟨en, Hf, F, E, d, Qd, S, r, h, k⟩ => k _ _ _ _ _ (Same.refl _) (S.set h.1 r) (wipe_set hvs) h.2
theorem cs_nil : PCsd X vs [] gNilD := pgs_imp pgs_nil fun v σ H Q ⟨en, Hf, F, E, d, Qd, S, r, h, k⟩ => by
  unfold gNilD at h
  split at h
  · cases r
    exact ⟨rfl, k _ _ _ _ _ (Same.refl _) S rfl h⟩
  · exact h.elim
theorem cs_cons {t : TGd} {u : TGsd} (h1 : PCd X vs e t) (h2 : PCsd X vs es u) (hs : (assignEach (e :: es) X.env).map (·.2) = assign e X.env :: (assignEach es X.env).map (·.2) := by rfl) : PCsd X vs (e :: es) (gConsD t u) :=
  pgs_imp (pgs_cons h1 h2 hs) fun v σ H Q ⟨en, Hf, F, E, d, Qd, S, r, h, k⟩ => by
    unfold gConsD at h
    split at h
    · cases r with | cons a l =>
      exact ⟨_, _, rfl, en, Hf, F, E, _, _, S, a, h, fun σ1 H1 Hf1 F1 E1 s1 S1 w1 q => ⟨en, Hf1, F1, E1, _, _, S1, l.mono s1, q, fun _ _ _ _ _ s2 S2 w2 => k _ _ _ _ _ (s1.trans s2) S2 (w2.trans w1)⟩⟩
    · exact h.elim
theorem c_tup {k : Nat} {t : TGsd} {n : Nat} (hc : X.calm = true) (h : PCsd X vs es t) (hn : (assignEach es X.env).length = n := by rfl) (hst : (assignEach es X.env).findIdx? (·.1) = none := by rfl) : PCd X vs (.Tuple es k pos) (gTupD n t) :=
  pg_imp (pg_tup hc h hn hst) fun v σ H Q ⟨en, Hf, F, E, d, Qd, S, r, h, k⟩ => by
    unfold gTupD at h
    split at h
    · cases r with | tup q l =>
      exact ⟨_, _, rfl, Same.sqT S.sf q, by rw [l.length]; exact h.1, en, Hf, F, E, _, _, S, l, h.2, k⟩
    · exact h.elim
abbrev PTsd (X : Cx) (ifs : List Expr) (t : TTd) : Prop := PTs X ifs (liftT X.K t)
theorem pts_imp {ifs : List Expr} {t t' : TT} (h : PTs X ifs t) (i : ∀ σ H Q, t' σ H Q → t σ H Q) : PTs X ifs t' := ⟨fun pins s σ H Q I q => h.run pins s σ H Q I (i σ H Q q)⟩
def tYesD : TTd := fun E Q => Q true E
theorem ts_nil : PTsd X [] tYesD := pts_imp pts_nil fun σ H Q ⟨en, Hf, F, E, Qd, S, h, k⟩ => k _ _ _ _ _ (Same.refl _) S h
theorem ts_one (h : PTd X c tt) : PTsd X [c] tt := pts_one h
def lcD (xs : List D) (g : TGd) (tt : TTd) (te : TEd) (vs : List Nat) (E : En) (Q : List D → En → Prop) : Prop := ∃ P : Nat → List D → En → Prop, P 0 [] (wipeD E vs) ∧
  (∀ i x acc E, xs[i]? = some x → P i acc E → g x (wipeD E vs) fun E2 => tt E2 fun b E3 => if b = true then te E3 fun y E4 => acc.length < sizeLine ∧ P (i + 1) (acc ++ [y]) (wipeD E4 vs) else P (i + 1) acc (wipeD E3 vs)) ∧
  ∀ acc E, P xs.length acc E → Q acc E
def lcRun (g : TGd) (tt : TTd) (te : TEd) (vs : List Nat) (Q : List D → En → Prop) : List D → List D → En → Prop
  | [], acc, E => Q acc E
  | x :: r, acc, E => g x (wipeD E vs) fun E2 => tt E2 fun b E3 => if b = true then te E3 fun y E4 => acc.length < sizeLine ∧ lcRun g tt te vs Q r (acc ++ [y]) (wipeD E4 vs) else lcRun g tt te vs Q r acc (wipeD E3 vs)
theorem lcD_run {xs : List D} {E : En} {Q : List D → En → Prop} (h : lcRun g tt te vs Q xs [] (wipeD E vs)) : lcD xs g tt te vs E Q := by
  refine ⟨fun i acc E => lcRun g tt te vs Q (xs.drop i) acc E, by simpa using h, fun i y acc E e p => ?_, fun acc E p => ?_⟩
  · replace p : lcRun g tt te vs Q (xs.drop i) acc E := p
    have hd : xs.drop i = y :: xs.drop (i + 1) := by
      obtain ⟨hi, e2⟩ := List.getElem?_eq_some_iff.mp e
      rw [List.drop_eq_getElem_cons hi, e2]
    rw [hd] at p
    exact p
  · replace p : lcRun g tt te vs Q (xs.drop xs.length) acc E := p
    rw [List.drop_length] at p
    exact p
def tLcD (ti : TId) (g : TGd) (tt : TTd) (te : TEd) (vs : List Nat) : TEd := fun E Q => ti E fun xs E1 => lcD xs g tt te vs E1 fun acc E2 => Q (.lst acc) E2
/-- the reading of the layer below, by ours -/
theorem lift_lc {ti : TId} {K : PySem.W.Frag} : ∀ σ H Q, liftE K (tLcD ti g tt te vs) σ H Q → tLc (liftI K ti) (liftC K vs g) (liftT K tt) (liftE K te) vs σ H Q := fun σ H Q ⟨en, Hf, F, E, Qd, S, h, k⟩ =>
  ⟨en, Hf, F, E, _, S, h, fun J H1 Hf1 F1 E1 xs s1 S1 jo ⟨P, p0, ps, pd⟩ => fun D nD => by
    obtain ⟨d1, d2⟩ := S1.fresh nD
    refine ⟨fun i m H => m = xs.length - i ∧ i ≤ xs.length ∧ ∃ Hf' F' E' acc ws, Same Hf1 Hf' ∧ Sat K (en.prot D (.lst ws)) Hf' H F' E' σ ∧ RepL K Hf' ws acc ∧ P i acc E',
      ⟨xs.length, by simp, Nat.zero_le _, Hf1, F1, wipeD E1 vs, [], [], Same.refl _, (S1.unwipe vs rfl).protect nD, .nil, p0⟩, ?_⟩
    rintro i m H2 ⟨rfl, hi, Hf2, F2, E2, acc, ws, s2, S2, r2, p2⟩
    have sH : Same Hf1 H2 := s2.trans S2.sf
    by_cases hlt : i < xs.length
    · refine .inr ⟨jo.go i H2 sH hlt, fun H' => ∃ Hf' F' E' acc ws, Same Hf1 Hf' ∧ Sat K (en.prot D (.lst ws)) Hf' H' F' E' σ ∧ RepL K Hf' ws acc ∧ P (i + 1) acc E', fun H' q => ⟨xs.length - (i + 1), by omega, rfl, hlt, q⟩, fun x H' y => ?_⟩
      obtain ⟨d, Hfx, ed, sx, Sx, rx⟩ := jo.item s2 S2 hlt y
      refine ⟨_, Hfx, F2, _, d, _, Sx.wipe vs, rx, ps i d acc E2 ed p2, fun σ3 H3 Hf3 F3 E3 s3 S3 w3 q3 => ⟨w3.trans (wipe_wipe vs), ?_⟩⟩
      have w3' : wipe σ3 vs = wipe σ vs := w3.trans (wipe_wipe vs)
      refine ⟨_, Hf3, F3, E3, _, S3, q3, fun b H4 Hf4 F4 E4 s4 S4 q4 => ?_⟩
      cases b with
      | false =>
        exact ⟨Hf4, F4, wipeD E4 vs, acc, ws, (((s2.trans sx).trans s3).trans s4), S4.unwipe vs w3', r2.mono ((sx.trans s3).trans s4), q4⟩
      | true =>
        refine ⟨_, Hf4, F4, E4, _, S4, q4, fun v H5 Hf5 F5 E5 y5 s5 S5 r5 q5 => ?_⟩
        have hD : H5 D = some (.lst ws) := S5.sp D _ (show upd en.Pr D (.lst ws) D = some (.lst ws) from upd_same)
        have rr := (r2.mono (((sx.trans s3).trans s4).trans s5))
        refine ⟨ws, hD, by rw [rr.length]; exact q5.1, Hf5, F5, wipeD E5 vs, acc ++ [y5], ws ++ [v], ((((s2.trans sx).trans s3).trans s4).trans s5), ?_, rr.append (.cons r5 .nil), q5.2⟩
        exact (S5.unwipe vs w3').chProt d1 d2 _
    · obtain rfl : i = xs.length := by omega
      obtain ⟨S3, s3⟩ := S2.unprot d1 d2
      exact .inl ⟨jo.stop H2 sH, k _ _ _ _ _ _ ((s1.trans s2).trans s3) S3 (.lst upd_same (r2.mono s3)) (pd acc E2 p2)⟩⟩
theorem d_lc {ti : TId} {scope : Scope} {own : List (Str × Nat)} (hc : X.calm = true) (hN : X.N.Nodup) (hi : PId X tg iter ti) (ok : BlkOk X.N X.env.scope scope own)
    (hg : ∀ (s : Shared) (H : Hp) (C : Addr) (cl : List (Str × Addr)) (fp : List Addr), PCd (X.blk s H scope (compEnvC scope cl C X.env) fp) (own.map (·.2)) tg g) (ht : ∀ (s : Shared) (H : Hp) (C : Addr) (cl : List (Str × Addr)) (fp : List Addr), PTsd (X.blk s H scope (compEnvC scope cl C X.env) fp) ifs tt)
    (he : ∀ (s : Shared) (H : Hp) (C : Addr) (cl : List (Str × Addr)) (fp : List Addr), PEd (X.blk s H scope (compEnvC scope cl C X.env) fp) elt te) (hs : ∀ x, foldedSetIterable iter X.env x = pure x := by intro _; rfl) :
    PEd X (.ListComp elt [⟨tg, iter, ifs, 0⟩] scope pos) (tLcD ti g tt te (own.map (·.2))) :=
  pe_imp (pe_lc hc hN hi ok hg ht he hs) lift_lc
theorem s_setLc {ti : TId} {i : Nat} {y : Str} {py spos : Pos} {scope : Scope} {own : List (Str × Nat)} (hc : X.calm = true) (hN : X.N.Nodup) (hi : PId X tg iter ti) (ok : BlkOk X.N X.env.scope scope own)
    (hg : ∀ (s : Shared) (H : Hp) (C : Addr) (cl : List (Str × Addr)) (fp : List Addr), PCd (X.blk s H scope (compEnvC scope cl C X.env) fp) (own.map (·.2)) tg g) (ht : ∀ (s : Shared) (H : Hp) (C : Addr) (cl : List (Str × Addr)) (fp : List Addr), PTsd (X.blk s H scope (compEnvC scope cl C X.env) fp) ifs tt)
    (he : ∀ (s : Shared) (H : Hp) (C : Addr) (cl : List (Str × Addr)) (fp : List Addr), PEd (X.blk s H scope (compEnvC scope cl C X.env) fp) elt te)
    (hsw : swapsWith (.ListComp elt [⟨tg, iter, ifs, 0⟩] scope pos) (some (.Name y py)) spos.line X.env = pure true) (hy : X.N[i]? = some y := by rfl) (hyl : X.env.scope.names.lookup y = some .local := by rfl) (hs : ∀ x, foldedSetIterable iter X.env x = pure x := by intro _; rfl) :
    PSd X (.Assign [.Name y py] (.ListComp elt [⟨tg, iter, ifs, 0⟩] scope pos) spos) (tAsgD (tLcD ti g tt te (own.map (·.2))) (gNameD i)) :=
  ps_imp (ps_setLc hc hN hy hyl hsw hi ok hg ht he hs) fun D σ H ⟨en, Hf, F, E, Dd, S, h, k1, k2, k3, k4, k5⟩ =>
    lift_lc σ H _ ⟨en, Hf, F, E, _, S, h, fun v H' Hf' F' E' d s1 S1 r1 q => k1 _ _ _ _ _ s1 (S1.set q.1 r1) q.2⟩
end
end L3
namespace L3
open PySem L2
variable [Tbs]
/-! ### built-ins by their names -/
abbrev RB := List D → En → (D → En → Prop) → Prop
def tCBd (rb : RB) (t : TAd) : TEd := fun E Q => t E fun ds E1 => rb ds E1 Q
def CallOk (K : PySem.W.Frag) (r : List V → Hp → VK → Prop) (rb : RB) : Prop := ∀ en Hf H F E σ vs ds Q Qd, Sat K en Hf H F E σ → RepL K Hf vs ds → rb ds E Qd → Fin K en σ Hf Qd Q → r vs H Q
theorem CallOk.or {K : PySem.W.Frag} {r r' : List V → Hp → VK → Prop} {rb rb' : RB} (h : CallOk K r rb) (h' : CallOk K r' rb') : CallOk K (fun xs H Q => r xs H Q ∨ r' xs H Q) (fun x E Q => rb x E Q ∨ rb' x E Q) :=
  fun en Hf H F E σ vs ds Q Qd S rx q k => q.elim (fun q => .inl (h en Hf H F E σ vs ds Q Qd S rx q k)) fun q => .inr (h' en Hf H F E σ vs ds Q Qd S rx q k)
section
variable {X : Cx} {x : Str} {p pos : Pos} {e : Expr} {es : List Expr} {t : TAd} {id T : String} {r : List V → Hp → VK → Prop} {rb : RB}
theorem lift_cb {K : PySem.W.Frag} (hk : CallOk K r rb) : ∀ σ H Q, liftE K (tCBd rb t) σ H Q → tCB r (liftA K t) σ H Q := fun σ H Q ⟨en, Hf, F, E, Qd, S, h, k⟩ =>
  ⟨en, Hf, F, E, _, S, h, fun vs H1 Hf1 F1 E1 ds s1 S1 r1 h1 => hk en Hf1 H1 F1 E1 σ vs ds Q Qd S1 r1 h1 fun v H' Hf' F' E' d s2 S2 r2 h2 => k v H' Hf' F' E' d (s1.trans s2) S2 r2 h2⟩
theorem d_callB (hc : CallR X (.builtin id) r) (hk : CallOk X.K r rb) (hm : X.mg x = none) (hv : bootBuiltins x = some (.builtin id)) (ha : PAd X (e :: es) t) (hg : Gl X x := by rfl) (hn : x ≠ "__name__" := by decide) (hdb : (x == ("__debug__" : Str)) = false := by decide)
    (he : starEach (e :: es) X.env = (false, eval e X.env) :: starEach es X.env := by rfl) (hpl : (backTo pos (starEach es X.env)).any (·.1) = false := by rfl) : PEd X (.Call (.Name x p) (e :: es) [] pos) (tCBd rb t) :=
  pe_imp (pe_callB hc hg hm hv ha hn hdb he hpl) (lift_cb hk)
theorem d_callT (hc : CallR X (.type T) r) (hk : CallOk X.K r rb) (hm : X.mg x = none) (hv : bootBuiltins x = some (.type T)) (ha : PAd X (e :: es) t) (hg : Gl X x := by rfl) (hn : x ≠ "__name__" := by decide) (hdb : (x == ("__debug__" : Str)) = false := by decide)
    (he : starEach (e :: es) X.env = (false, eval e X.env) :: starEach es X.env := by rfl) (hpl : (backTo pos (starEach es X.env)).any (·.1) = false := by rfl) : PEd X (.Call (.Name x p) (e :: es) [] pos) (tCBd rb t) :=
  pe_imp (pe_callTy hc hg hm hv ha hn hdb he hpl) (lift_cb hk)
end
/-- ready to split: what stands in the list -/
theorem RepL.one {K : PySem.W.Frag} {H : Hp} {vs : List V} {d : D} (r : RepL K H vs [d]) : ∃ v, vs = [v] ∧ Rep K H v d := by
  cases r with | cons a l =>
  cases l
  exact ⟨_, rfl, a⟩
theorem RepL.two {K : PySem.W.Frag} {H : Hp} {vs : List V} {d e : D} (r : RepL K H vs [d, e]) : ∃ v w, vs = [v, w] ∧ Rep K H v d ∧ Rep K H w e := by
  cases r with | cons a l =>
  obtain ⟨w, rfl, b⟩ := l.one
  exact ⟨_, _, rfl, a, b⟩
theorem RepL.ofInts {K : PySem.W.Frag} {H : Hp} {vs : List V} {ns : List Int} (r : RepL K H vs (ns.map D.int)) : vs = ns.map V.int := r.ints_inv
theorem RepL.ofBls {K : PySem.W.Frag} {H : Hp} : ∀ {bs : List Bool} {vs : List V}, RepL K H vs (bs.map D.bl) → vs = bs.map V.bl
  | [], _, .nil => rfl
  | _ :: _, _, .cons a t => by
    cases a
    rw [List.map_cons, RepL.ofBls t]
section
variable {X : Cx} {a e : Expr} {ta : TEd} {t : TAd} {es : List Expr} {p pos : Pos}
/-- len -/
def rbLen : RB := fun ds E Q => match ds with
  | [.str x] => x.length ≤ sizeLine ∧ Q (.int x.length) E
  | [.lst xs] => Q (.int xs.length) E
  | [.tup xs] => Q (.int xs.length) E
  | [.dct ks] => Q (.int ks.length) E
  | _ => False
theorem RepK.length {K : PySem.W.Frag} {H : Hp} : ∀ {vs : List (Key × V)} {ds : List (Key × D)}, RepK K H vs ds → vs.length = ds.length
  | _, _, .nil => rfl
  | _, _, .cons _ t => by rw [List.length_cons, List.length_cons, RepK.length t]
theorem ok_len {K : PySem.W.Frag} : CallOk K (fun xs H Q => (∃ x n, xs = [x] ∧ LenV K x H n ∧ Q (.int n) H) ∨ (∃ a kvs, xs = [V.ref a] ∧ H a = some (.dK kvs) ∧ Q (.int kvs.length) H)) rbLen :=
  fun en Hf H F E σ vs ds Q Qd S rx q k => by
    unfold rbLen at q
    split at q
    · obtain ⟨v, rfl, r⟩ := rx.one
      cases r
      exact .inl ⟨_, _, rfl, ⟨q.1, rfl⟩, k _ _ _ _ _ _ (Same.refl _) S (.int _) q.2⟩
    · obtain ⟨v, rfl, r⟩ := rx.one
      cases r with | lst h l =>
      exact .inl ⟨_, _, rfl, .inl ⟨_, .inl (.inl (S.sf _ _ h)), rfl⟩, k _ _ _ _ _ _ (Same.refl _) S (by rw [l.length]; exact .int _) q⟩
    · obtain ⟨v, rfl, r⟩ := rx.one
      cases r with | tup h l =>
      exact .inl ⟨_, _, rfl, .inr ⟨_, Same.sqT S.sf h, rfl⟩, k _ _ _ _ _ _ (Same.refl _) S (by rw [l.length]; exact .int _) q⟩
    · obtain ⟨v, rfl, r⟩ := rx.one
      cases r with | dct h l =>
      exact .inr ⟨_, _, rfl, S.sf _ _ h, k _ _ _ _ _ _ (Same.refl _) S (by rw [l.length]; exact .int _) q⟩
    · exact q.elim
theorem d_len (hm : X.mg "len" = none) (ha : PAd X [a] t) (hg : Gl X "len" := by rfl) (he : starEach [a] X.env = (false, eval a X.env) :: starEach [] X.env := by rfl) : PEd X (.Call (.Name "len" p) [a] [] pos) (tCBd rbLen t) :=
  d_callB (CallR.or call_len call_lenD) ok_len hm PySem.boot_len ha hg (by decide) (by decide) he
/-- len(x), x a list that may be our own -/
def tLenV (j : Nat) : TEd := fun E Q => match E[j]? with
  | some (.fz d) => rbLen [d] E Q
  | some (.ow _ (.ol xs)) => Q (.int xs.length) E
  | some (.ow _ (.od ks)) => Q (.int ks.length) E
  | _ => False
theorem d_lenV (j : Nat) {y : Str} {py : Pos} (hm : X.mg "len" = none) (hN : X.N[j]? = some y := by rfl) (hv : Vis X.env.scope y := by first | exact Or.inl rfl | exact Or.inr (Or.inl rfl) | exact Or.inr (Or.inr rfl))
    (hyd : (y == ("__debug__" : Str)) = false := by decide) (hyc : (y == ("__classdict__" : Str)) = false := by decide) (hg : Gl X "len" := by rfl) (he : starEach [.Name y py] X.env = (false, eval (.Name y py) X.env) :: starEach [] X.env := by rfl) :
    PEd X (.Call (.Name "len" p) [.Name y py] [] pos) (tLenV j) :=
  pe_imp (pe_callB (CallR.or call_len call_lenD) hg hm PySem.boot_len (pa_cons (pv j hN hv hyd hyc) pa_nil he) (by decide) (by decide) he) fun σ H Q ⟨en, Hf, F, E, Qd, S, h, k⟩ => by
    unfold tLenV at h
    split at h
    · rename_i d e
      obtain ⟨v, hv, r⟩ := S.get e
      exact ⟨v, hv, ok_len en Hf H F E σ [v] [d] Q Qd S (.cons r .nil) h k⟩
    · rename_i b xs e
      obtain ⟨v, hv, ⟨p, vs, rfl, _, hp, l⟩, _⟩ := S.own e
      exact ⟨_, hv, .inl ⟨_, _, rfl, .inl ⟨_, .inl (.inl hp), rfl⟩, k _ _ _ _ _ _ (Same.refl _) S (by rw [l.length]; exact .int _) h⟩⟩
    · rename_i b xs e
      obtain ⟨v, hv, ⟨p, vs, rfl, _, hp, l⟩, _⟩ := S.own e
      exact ⟨_, hv, .inr ⟨_, _, rfl, hp, k _ _ _ _ _ _ (Same.refl _) S (by rw [l.length]; exact .int _) h⟩⟩
    · exact h.elim
/-- abs, int, max, min of ints -/
def rbAbs : RB := fun ds E Q => match ds with
  | [.int i] => Q (.int (if i < 0 then -i else i)) E
  | _ => False
theorem d_abs (hm : X.mg "abs" = none) (ha : PAd X [a] t) (hg : Gl X "abs" := by rfl) (he : starEach [a] X.env = (false, eval a X.env) :: starEach [] X.env := by rfl) : PEd X (.Call (.Name "abs" p) [a] [] pos) (tCBd rbAbs t) :=
  d_callB call_abs (fun en Hf H F E σ vs ds Q Qd S rx q k => by
    unfold rbAbs at q
    split at q
    · obtain ⟨v, rfl, r⟩ := rx.one
      cases r
      exact ⟨_, rfl, k _ _ _ _ _ _ (Same.refl _) S (.int _) q⟩
    · exact q.elim) hm PyProof.Rows.boot_abs ha hg (by decide) (by decide) he
def rbInt : RB := fun ds E Q => match ds with
  | [.int i] => Q (.int i) E
  | [.bl b] => Q (.int (if b then 1 else 0)) E
  | _ => False
theorem d_intc (hm : X.mg "int" = none) (ha : PAd X [a] t) (hg : Gl X "int" := by rfl) (he : starEach [a] X.env = (false, eval a X.env) :: starEach [] X.env := by rfl) : PEd X (.Call (.Name "int" p) [a] [] pos) (tCBd rbInt t) :=
  d_callT call_int1 (fun en Hf H F E σ vs ds Q Qd S rx q k => by
    unfold rbInt at q
    split at q
    · obtain ⟨v, rfl, r⟩ := rx.one
      cases r
      exact .inl ⟨_, rfl, k _ _ _ _ _ _ (Same.refl _) S (.int _) q⟩
    · obtain ⟨v, rfl, r⟩ := rx.one
      cases r
      exact .inr ⟨_, rfl, k _ _ _ _ _ _ (Same.refl _) S (.int _) q⟩
    · exact q.elim) hm PyProof.Rows.boot_int ha hg (by decide) (by decide) he
def rbMax2 : RB := fun ds E Q => match ds with
  | [.int i, .int j] => Q (.int (if j > i then j else i)) E
  | _ => False
def rbMin2 : RB := fun ds E Q => match ds with
  | [.int i, .int j] => Q (.int (if j < i then j else i)) E
  | _ => False
theorem d_max2 {b : Expr} (hc : X.calm = true) (hm : X.mg "max" = none) (ha : PAd X [a, b] t) (hg : Gl X "max" := by rfl) (he : starEach [a, b] X.env = (false, eval a X.env) :: starEach [b] X.env := by rfl) (hpl : (backTo pos (starEach [b] X.env)).any (·.1) = false := by rfl) : PEd X (.Call (.Name "max" p) [a, b] [] pos) (tCBd rbMax2 t) :=
  d_callB (call_max2 hc) (fun en Hf H F E σ vs ds Q Qd S rx q k => by
    unfold rbMax2 at q
    split at q
    · obtain ⟨v, w, rfl, r1, r2⟩ := rx.two
      cases r1
      cases r2
      exact ⟨_, _, rfl, k _ _ _ _ _ _ (Same.refl _) S (.int _) q⟩
    · exact q.elim) hm PyProof.Rows.boot_max ha hg (by decide) (by decide) he hpl
theorem d_min2 {b : Expr} (hc : X.calm = true) (hm : X.mg "min" = none) (ha : PAd X [a, b] t) (hg : Gl X "min" := by rfl) (he : starEach [a, b] X.env = (false, eval a X.env) :: starEach [b] X.env := by rfl) (hpl : (backTo pos (starEach [b] X.env)).any (·.1) = false := by rfl) : PEd X (.Call (.Name "min" p) [a, b] [] pos) (tCBd rbMin2 t) :=
  d_callB (call_min2 hc) (fun en Hf H F E σ vs ds Q Qd S rx q k => by
    unfold rbMin2 at q
    split at q
    · obtain ⟨v, w, rfl, r1, r2⟩ := rx.two
      cases r1
      cases r2
      exact ⟨_, _, rfl, k _ _ _ _ _ _ (Same.refl _) S (.int _) q⟩
    · exact q.elim) hm PyProof.Rows.boot_min ha hg (by decide) (by decide) he hpl
/-- max, min of a list of ints -/
def rbMaxL : RB := fun ds E Q => match ds with
  | [.lst xs] => ∃ ns : List Int, xs = ns.map D.int ∧ 0 < ns.length ∧ ∀ m, m ∈ ns → (∀ y, y ∈ ns → y ≤ m) → Q (.int m) E
  | _ => False
def rbMinL : RB := fun ds E Q => match ds with
  | [.lst xs] => ∃ ns : List Int, xs = ns.map D.int ∧ 0 < ns.length ∧ ∀ m, m ∈ ns → (∀ y, y ∈ ns → m ≤ y) → Q (.int m) E
  | _ => False
theorem d_maxL (hc : X.calm = true) (hm : X.mg "max" = none) (ha : PAd X [a] t) (hg : Gl X "max" := by rfl) (he : starEach [a] X.env = (false, eval a X.env) :: starEach [] X.env := by rfl) : PEd X (.Call (.Name "max" p) [a] [] pos) (tCBd rbMaxL t) :=
  d_callB (cr_max hc) (fun en Hf H F E σ vs ds Q Qd S rx q k => by
    unfold rbMaxL at q
    split at q
    · obtain ⟨v, rfl, r⟩ := rx.one
      cases r with | lst h l =>
      obtain ⟨ns, rfl, h0, q⟩ := q
      rw [l.ofInts] at h
      exact ⟨_, ns, rfl, .inl (.inl (S.sf _ _ h)), h0, fun m hm hle => k _ _ _ _ _ _ (Same.refl _) S (.int _) (q m hm hle)⟩
    · exact q.elim) hm PyProof.Rows.boot_max ha hg (by decide) (by decide) he
theorem d_minL (hc : X.calm = true) (hm : X.mg "min" = none) (ha : PAd X [a] t) (hg : Gl X "min" := by rfl) (he : starEach [a] X.env = (false, eval a X.env) :: starEach [] X.env := by rfl) : PEd X (.Call (.Name "min" p) [a] [] pos) (tCBd rbMinL t) :=
  d_callB (cr_min hc) (fun en Hf H F E σ vs ds Q Qd S rx q k => by
    unfold rbMinL at q
    split at q
    · obtain ⟨v, rfl, r⟩ := rx.one
      cases r with | lst h l =>
      obtain ⟨ns, rfl, h0, q⟩ := q
      rw [l.ofInts] at h
      exact ⟨_, ns, rfl, .inl (.inl (S.sf _ _ h)), h0, fun m hm hle => k _ _ _ _ _ _ (Same.refl _) S (.int _) (q m hm hle)⟩
    · exact q.elim) hm PyProof.Rows.boot_min ha hg (by decide) (by decide) he
/-- tuple, list -/
def rbTuple : RB := fun ds E Q => match ds with
  | [.lst xs] => Q (.tup xs) E
  | [.tup xs] => Q (.tup xs) E
  | _ => False
def rbList : RB := fun ds E Q => match ds with
  | [.lst xs] => Q (.lst xs) E
  | [.tup xs] => Q (.lst xs) E
  | _ => False
theorem d_tuplec (hm : X.mg "tuple" = none) (ha : PAd X [a] t) (hg : Gl X "tuple" := by rfl) (he : starEach [a] X.env = (false, eval a X.env) :: starEach [] X.env := by rfl) : PEd X (.Call (.Name "tuple" p) [a] [] pos) (tCBd rbTuple t) :=
  d_callT call_tuple_of (fun en Hf H F E σ vs ds Q Qd S rx q k => by
    unfold rbTuple at q
    split at q
    · obtain ⟨v, rfl, r⟩ := rx.one
      cases r with | lst h l =>
      exact ⟨_, _, rfl, .inl ⟨.inl (.inl (S.sf _ _ h)), fun p np => k.new S np (fun _ s2 e => .tup (.inl (.inl e)) (l.mono s2)) q⟩⟩
    · obtain ⟨v, rfl, r⟩ := rx.one
      cases r with | tup h l =>
      exact ⟨_, _, rfl, .inr ⟨Same.sqT S.sf h, k _ _ _ _ _ _ (Same.refl _) S (.tup h l) q⟩⟩
    · exact q.elim) hm PyProof.Rows.boot_tuple ha hg (by decide) (by decide) he
theorem d_listc (hm : X.mg "list" = none) (ha : PAd X [a] t) (hg : Gl X "list" := by rfl) (he : starEach [a] X.env = (false, eval a X.env) :: starEach [] X.env := by rfl) : PEd X (.Call (.Name "list" p) [a] [] pos) (tCBd rbList t) :=
  d_callT call_list_of (fun en Hf H F E σ vs ds Q Qd S rx q k => by
    unfold rbList at q
    split at q
    · obtain ⟨v, rfl, r⟩ := rx.one
      cases r with | lst h l =>
      exact ⟨_, _, rfl, .inl (.inl (.inl (S.sf _ _ h))), fun p np => k.new S np (fun _ s2 e => .lst e (l.mono s2)) q⟩
    · obtain ⟨v, rfl, r⟩ := rx.one
      cases r with | tup h l =>
      exact ⟨_, _, rfl, .inr (Same.sqT S.sf h), fun p np => k.new S np (fun _ s2 e => .lst e (l.mono s2)) q⟩
    · exact q.elim) hm PyProof.Rows.boot_list ha hg (by decide) (by decide) he
/-- sum, all, any -/
def rbSum : RB := fun ds E Q => match ds with
  | [.lst xs] => ∃ ns : List Int, xs = ns.map D.int ∧ Q (.int ns.sum) E
  | _ => False
def rbAll : RB := fun ds E Q => match ds with
  | [.lst xs] => ∃ bs : List Bool, xs = bs.map D.bl ∧ Q (.bl (bs.all id)) E
  | _ => False
def rbAny : RB := fun ds E Q => match ds with
  | [.lst xs] => ∃ bs : List Bool, xs = bs.map D.bl ∧ Q (.bl (bs.any id)) E
  | _ => False
theorem d_sum (hc : X.calm = true) (hm : X.mg "sum" = none) (ha : PAd X [a] t) (hg : Gl X "sum" := by rfl) (he : starEach [a] X.env = (false, eval a X.env) :: starEach [] X.env := by rfl) : PEd X (.Call (.Name "sum" p) [a] [] pos) (tCBd rbSum t) :=
  d_callB (cr_sum hc) (fun en Hf H F E σ vs ds Q Qd S rx q k => by
    unfold rbSum at q
    split at q
    · obtain ⟨v, rfl, r⟩ := rx.one
      cases r with | lst h l =>
      obtain ⟨ns, rfl, q⟩ := q
      rw [l.ofInts] at h
      exact ⟨_, ns, rfl, .inl (.inl (S.sf _ _ h)), k _ _ _ _ _ _ (Same.refl _) S (.int _) q⟩
    · exact q.elim) hm PyProof.Rows.boot_sum ha hg (by decide) (by decide) he
theorem d_all (hc : X.calm = true) (hm : X.mg "all" = none) (ha : PAd X [a] t) (hg : Gl X "all" := by rfl) (he : starEach [a] X.env = (false, eval a X.env) :: starEach [] X.env := by rfl) : PEd X (.Call (.Name "all" p) [a] [] pos) (tCBd rbAll t) :=
  d_callB (cr_all hc) (fun en Hf H F E σ vs ds Q Qd S rx q k => by
    unfold rbAll at q
    split at q
    · obtain ⟨v, rfl, r⟩ := rx.one
      cases r with | lst h l =>
      obtain ⟨ns, rfl, q⟩ := q
      rw [l.ofBls] at h
      exact ⟨_, ns, rfl, .inl (.inl (S.sf _ _ h)), k _ _ _ _ _ _ (Same.refl _) S (.bl _) q⟩
    · exact q.elim) hm PyProof.Rows.boot_all ha hg (by decide) (by decide) he
theorem d_any (hc : X.calm = true) (hm : X.mg "any" = none) (ha : PAd X [a] t) (hg : Gl X "any" := by rfl) (he : starEach [a] X.env = (false, eval a X.env) :: starEach [] X.env := by rfl) : PEd X (.Call (.Name "any" p) [a] [] pos) (tCBd rbAny t) :=
  d_callB (cr_any hc) (fun en Hf H F E σ vs ds Q Qd S rx q k => by
    unfold rbAny at q
    split at q
    · obtain ⟨v, rfl, r⟩ := rx.one
      cases r with | lst h l =>
      obtain ⟨ns, rfl, q⟩ := q
      rw [l.ofBls] at h
      exact ⟨_, ns, rfl, .inl (.inl (S.sf _ _ h)), k _ _ _ _ _ _ (Same.refl _) S (.bl _) q⟩
    · exact q.elim) hm PyProof.Rows.boot_any ha hg (by decide) (by decide) he
/-- repr of plain data -/
theorem noDict : ∀ d : D, d.plain = true → PyData.hasDict d.py = false := by
  have h : ∀ n : Nat, (∀ d : D, sizeOf d ≤ n → d.plain = true → PyData.hasDict d.py = false) ∧ (∀ ds : List D, sizeOf ds ≤ n → D.plainL ds = true → PyData.hasDictAll (D.pyL ds) = false) := by
    intro n
    induction n with
    | zero =>
      refine ⟨fun d hd => ?_, fun ds hd => ?_⟩
      · cases d <;> simp at hd
      · cases ds <;> simp at hd
    | succ n ih =>
      refine ⟨fun d hd hp => ?_, fun ds hd hp => ?_⟩
      · cases d with
        | tup xs => exact ih.2 xs (by simp at hd; omega) hp
        | lst xs => exact ih.2 xs (by simp at hd; omega) hp
        | opq v => cases hp
        | pt _ => cases hp
        | dct ks => cases hp
        | ins C fs => cases hp
        | non => rfl
        | bl b => rfl
        | int i => rfl
        | str x => rfl
      · cases ds with
        | nil => rfl
        | cons d r =>
          have hp' := Bool.and_eq_true_iff.mp hp
          show (PyData.hasDict d.py || PyData.hasDictAll (D.pyL r)) = false
          rw [ih.1 d (by simp at hd; omega) hp'.1, ih.2 r (by simp at hd; omega) hp'.2]
          rfl
  exact fun d => (h (sizeOf d)).1 d (Nat.le_refl _)
/-- what may be shown -/
structure D.sh (d : D) : Prop where
  plain : d.plain = true
  able : PyData.showable d.py = true
  size : (PyData.shown d.py).length ≤ sizeLine
  deep : PyData.depth d.py ≤ 60
def rbRepr : RB := fun ds E Q => match ds with
  | [d] => d.sh ∧ Q (.str (PyData.shown d.py)) E
  | _ => False
theorem call_reprD (hgd : X.A.guards = some []) (hu : X.A.units + 64 < cLine) : CallR X (.builtin "repr") (fun xs H Q => ∃ v d, xs = [v] ∧ Rep X.K H v d ∧ d.sh ∧ Q (.str (PyData.shown d.py)) H) := by
  intro pins s σ H xs us Q I r h
  obtain ⟨v, d, rfl, rd, sh, q⟩ := h
  obtain ⟨u, rfl, ru⟩ := vals1 r
  obtain ⟨as, hr⟩ := Dp.reads I d.py v u (rd.dp sh.plain) ru
  cases rd with
  | non =>
    cases ru
    exact PySem.P.repr_of_none ⟨.str _, H, I.tok _, ⟨_, rfl⟩, q⟩
  | bl b =>
    cases ru
    exact PySem.P.repr_of_bool ⟨.str _, H, I.tok _, ⟨_, rfl⟩, q⟩
  | int i =>
    obtain ⟨t, rfl⟩ := ru
    exact PySem.P.repr_of_int (of_decide_eq_true sh.able) ⟨.str _, H, I.tok _, ⟨_, rfl⟩, q⟩
  | str x =>
    obtain ⟨t, rfl⟩ := ru
    exact PySem.P.repr_of_str ⟨.str _, H, I.tok _, ⟨_, rfl⟩, q⟩ sh.size
  | opq v => exact absurd sh.plain (by simp [D.plain])
  | pt _ _ => exact absurd sh.plain (by simp [D.plain])
  | dct h l => exact absurd sh.plain (by simp [D.plain])
  | ins _ _ _ => exact absurd sh.plain (by simp [D.plain])
  | tup h l =>
    cases ru
    have hd := sh.deep
    exact repr_of_reads' hr sh.able (fun z => absurd z (by rw [noDict _ sh.plain]; decide)) hgd (by omega) (fun _ _ e => e) (fun h' u tk hk => ⟨.str _, H, I.kept (h' := h') (t' := tk) hk, ⟨_, rfl⟩, q⟩) sh.size
  | lst h l =>
    cases ru
    have hd := sh.deep
    exact repr_of_reads' hr sh.able (fun z => absurd z (by rw [noDict _ sh.plain]; decide)) hgd (by omega) (fun _ _ e => e) (fun h' u tk hk => ⟨.str _, H, I.kept (h' := h') (t' := tk) hk, ⟨_, rfl⟩, q⟩) sh.size
theorem d_repr (hgd : X.A.guards = some []) (hu : X.A.units + 64 < cLine) (hm : X.mg "repr" = none) (ha : PAd X [a] t) (hg : Gl X "repr" := by rfl) (he : starEach [a] X.env = (false, eval a X.env) :: starEach [] X.env := by rfl) : PEd X (.Call (.Name "repr" p) [a] [] pos) (tCBd rbRepr t) :=
  d_callB (call_reprD hgd hu) (fun en Hf H F E σ vs ds Q Qd S rx q k => by
    unfold rbRepr at q
    split at q
    · obtain ⟨v, rfl, r⟩ := rx.one
      exact ⟨_, _, rfl, r.mono S.sf, q.1, k _ _ _ _ _ _ (Same.refl _) S (.str _) q.2⟩
    · exact q.elim) hm PyProof.Rows.boot_repr ha hg (by decide) (by decide) he
end
end L3
namespace L3
open PySem L2
variable [Tbs]
/-! ### the deck: [cells, n] -/
section
variable {K : PySem.W.Frag} {en : Et} {Hf H : Hp} {F : Nat → List Addr} {E : En} {σ : St}
/-- a lent or own deck is read and changed in its place -/
theorem Sat.deck (S : Sat K en Hf H F E σ) {j : Nat} {b : Bool} {cs : List Int} {n : Int} (e : E[j]? = some (.ow b (.dk cs n))) :
    ∃ p q, σ[j]? = some (some (.ref p)) ∧ p ≠ q ∧ H p = some (.lst [.ref q, .int n]) ∧ H q = some (.lst (cs.map V.int)) ∧
      (∀ n', Sat K en Hf (upd H p (.lst [.ref q, .int n'])) F (E.set j (.ow b (.dk cs n'))) σ) ∧ ∀ cs', Sat K en Hf (upd H q (.lst (cs'.map V.int))) F (E.set j (.ow b (.dk cs' n))) σ := by
  obtain ⟨v, hv, ⟨p, q, rfl, ne, hF, hp, hq, hn, ht⟩, _⟩ := S.own e
  have tne : ∀ t ∈ Tbs.T, t.1 ≠ p ∧ t.1 ≠ q := fun t m => ⟨fun z => hn.1 (by rw [← z]; exact List.mem_map.mpr ⟨t, m, rfl⟩), fun z => hn.2 (by rw [← z]; exact List.mem_map.mpr ⟨t, m, rfl⟩)⟩
  have mp : p ∈ F j := by rw [hF]; simp
  have mq : q ∈ F j := by rw [hF]; simp
  have np := (S.fp j p mp).1
  have nq := (S.fp j q mq).1
  have go : ∀ (r : Addr) (u : HO) (o' : Ow), r ∈ F j → Hf r = none → OwRep K Hf (upd H r u) (.ref p) o' (F j) → Sat K en Hf (upd H r u) F (E.set j (.ow b o')) σ := fun r u o' mr nr ro =>
    S.change e hv (Same.refl _) (fun c w z => by
      have nc : c ≠ r := fun y => by
        rw [y, nr] at z
        cases z
      rw [upd_ne nc]
      exact S.sf _ _ z) (fun c w nc z => by
      have ne : c ≠ r := fun y => nc (by rw [y]; exact mr)
      rw [upd_ne ne]
      exact z) (fun c w z => by
      by_cases y : c = r
      · subst y
        exact ⟨_, upd_same⟩
      · rw [upd_ne y]
        exact ⟨w, z⟩) (fun _ _ z => .inl z) ro
  refine ⟨p, q, hv, ne, hp, hq, fun n' => go p _ _ mp np ⟨p, q, rfl, ne, hF, upd_same, ?_, hn, fun t m => (ht t m).mono (Same.refl _) fun u z => by rw [upd_ne (tne t m).1]; exact z⟩, fun cs' => go q _ _ mq nq ⟨p, q, rfl, ne, hF, ?_, upd_same, hn, fun t m => (ht t m).mono (Same.refl _) fun u z => by rw [upd_ne (tne t m).2]; exact z⟩⟩
  · rw [upd_ne (Ne.symm ne)]
    exact hq
  · rw [upd_ne ne]
    exact hp
end
def isDk (E : En) (j : Nat) : Prop := match E[j]? with
  | some (.ow _ (.dk _ _)) => True
  | _ => False
theorem isDk.ex {E : En} {j : Nat} (h : isDk E j) : ∃ b cs n, E[j]? = some (.ow b (.dk cs n)) := by
  unfold isDk at h
  split at h
  · rename_i b cs n e
    exact ⟨b, cs, n, e⟩
  · exact h.elim
section
variable {X : Cx} {a b c e : Expr} {ta tb te : TEd} {pos p p1 p2 p3 p4 p5 : Pos} {c1 c2 : Nat} {x : Str}
/-- deck[1] -/
def tDkN (j : Nat) : TEd := fun E Q => match E[j]? with
  | some (.ow _ (.dk _ n)) => Q (.int n) E
  | _ => False
theorem d_dkN (j : Nat) (hN : X.N[j]? = some x := by rfl) (hv : Vis X.env.scope x := by first | exact Or.inl rfl | exact Or.inr (Or.inl rfl) | exact Or.inr (Or.inr rfl)) (hd : (x == ("__debug__" : Str)) = false := by decide) (hcd : (x == ("__classdict__" : Str)) = false := by decide)
    (hs : PlainIx (.Constant (.int 1) c1 p1) := by exact fun _ _ => rfl) : PEd X (.Subscript (.Name x p) (.Constant (.int 1) c1 p1) pos) (tDkN j) :=
  pe_imp (pe_ix ix_seq (pv j hN hv hd hcd) pe_int hs) fun σ H Q ⟨en, Hf, F, E, Qd, S, h, k⟩ => by
    unfold tDkN at h
    split at h
    · rename_i b cs n e
      obtain ⟨p, q, hv, _, hp, _⟩ := S.deck e
      exact ⟨_, hv, .inl ⟨_, _, _, _, rfl, rfl, .inl (.inl hp), rfl, k _ _ _ _ _ _ (Same.refl _) S (.int _) h⟩⟩
    · exact h.elim
/-- len(deck[0]) -/
def tDkLen (j : Nat) : TEd := fun E Q => match E[j]? with
  | some (.ow _ (.dk cs _)) => Q (.int cs.length) E
  | _ => False
theorem d_dkLen (j : Nat) (hm : X.mg "len" = none) (hN : X.N[j]? = some x := by rfl) (hv : Vis X.env.scope x := by first | exact Or.inl rfl | exact Or.inr (Or.inl rfl) | exact Or.inr (Or.inr rfl)) (hd : (x == ("__debug__" : Str)) = false := by decide) (hcd : (x == ("__classdict__" : Str)) = false := by decide)
    (hs : PlainIx (.Constant (.int 0) c1 p1) := by exact fun _ _ => rfl) (hg : Gl X "len" := by rfl) (he : starEach [.Subscript (.Name x p) (.Constant (.int 0) c1 p1) p2] X.env = (false, eval (.Subscript (.Name x p) (.Constant (.int 0) c1 p1) p2) X.env) :: starEach [] X.env := by rfl) :
    PEd X (.Call (.Name "len" p3) [.Subscript (.Name x p) (.Constant (.int 0) c1 p1) p2] [] pos) (tDkLen j) :=
  pe_imp (pe_callB call_len_seq hg hm PySem.boot_len (pa_cons (pe_ix ix_seq (pv j hN hv hd hcd) pe_int hs) pa_nil he) (by decide) (by decide) he) fun σ H Q ⟨en, Hf, F, E, Qd, S, h, k⟩ => by
    unfold tDkLen at h
    split at h
    · rename_i b cs n e
      obtain ⟨p, q, hv, _, hp, hq, _⟩ := S.deck e
      refine ⟨_, hv, .inl ⟨_, _, _, _, rfl, rfl, .inl (.inl hp), rfl, _, _, rfl, .inl (.inl (.inl hq)), ?_⟩⟩
      refine k _ _ _ _ _ _ (Same.refl _) S ?_ h
      rw [List.length_map]
      exact .int _
    · exact h.elim
/-- deck[0] + [0] -/
def tDkPad (j : Nat) : TEd := fun E Q => match E[j]? with
  | some (.ow _ (.dk cs _)) => cs.length + 1 ≤ sizeLine ∧ Q (.lst (cs.map D.int ++ [.int 0])) E
  | _ => False
theorem d_dkPad (j : Nat) (hN : X.N[j]? = some x := by rfl) (hv : Vis X.env.scope x := by first | exact Or.inl rfl | exact Or.inr (Or.inl rfl) | exact Or.inr (Or.inr rfl)) (hd : (x == ("__debug__" : Str)) = false := by decide) (hcd : (x == ("__classdict__" : Str)) = false := by decide)
    (hs : PlainIx (.Constant (.int 0) c1 p1) := by exact fun _ _ => rfl) (he : starEach [.Constant (.int 0) c2 p3] X.env = (false, eval (.Constant (.int 0) c2 p3) X.env) :: starEach [] X.env := by rfl) :
    PEd X (.BinOp (.Subscript (.Name x p) (.Constant (.int 0) c1 p1) p2) .Add (.List [.Constant (.int 0) c2 p3] p4) pos) (tDkPad j) :=
  pe_imp (pe_op op_cat (pe_ix ix_seq (pv j hN hv hd hcd) pe_int hs) (pe_lst (pa_cons pe_int pa_nil he))) fun σ H Q ⟨en, Hf, F, E, Qd, S, h, k⟩ => by
    unfold tDkPad at h
    split at h
    · rename_i b cs n e
      obtain ⟨p, q, hv, _, hp, hq, _⟩ := S.deck e
      refine ⟨_, hv, .inl ⟨_, _, _, _, rfl, rfl, .inl (.inl hp), rfl, by decide, fun l nl => ?_⟩⟩
      have S2 := S.new (.lst [.int 0]) nl
      have s2 : Same Hf (upd Hf l (.lst [.int 0])) := same_upd (S.sf.free nl)
      have hql : q ≠ l := ne_of_none hq nl
      refine ⟨_, _, _, _, rfl, rfl, (by rw [upd_ne hql]; exact hq), upd_same, (by rw [List.length_map]; exact h.1), fun r nr => ?_⟩
      have k2 : Fin X.K en σ (upd Hf l (.lst [.int 0])) Qd Q := fun v H' Hf' F' E' d s3 => k v H' Hf' F' E' d (s2.trans s3)
      exact k2.new S2 nr (fun _ _ e => .lst e ((RepL.ints cs).append (.cons (.int 0) .nil))) h.2
    · exact h.elim
theorem atI_map {α β : Type} {f : α → β} {xs : List α} {i : Int} {m : α} (h : atI xs i = some m) : atI (xs.map f) i = some (f m) := by
  unfold atI at h ⊢
  rw [List.length_map]
  cases e : ixN xs.length i with
  | none =>
    rw [e] at h
    cases h
  | some j =>
    rw [e] at h
    show (xs.map f)[j]? = _
    rw [List.getElem?_map]
    have h' : xs[j]? = some m := h
    rw [h']
    rfl
/-- deck[0][i], i a name -/
def tDkAt (j i : Nat) : TEd := fun E Q => match E[j]?, E[i]? with
  | some (.ow _ (.dk cs _)), some (.fz (.int k)) => ∃ m, atI cs k = some m ∧ Q (.int m) E
  | _, _ => False
theorem d_dkAt (j i : Nat) {y : Str} (hN : X.N[j]? = some x := by rfl) (hv : Vis X.env.scope x := by first | exact Or.inl rfl | exact Or.inr (Or.inl rfl) | exact Or.inr (Or.inr rfl)) (hd : (x == ("__debug__" : Str)) = false := by decide) (hcd : (x == ("__classdict__" : Str)) = false := by decide)
    (hN2 : X.N[i]? = some y := by rfl) (hv2 : Vis X.env.scope y := by first | exact Or.inl rfl | exact Or.inr (Or.inl rfl) | exact Or.inr (Or.inr rfl)) (hd2 : (y == ("__debug__" : Str)) = false := by decide) (hcd2 : (y == ("__classdict__" : Str)) = false := by decide)
    (hs : PlainIx (.Constant (.int 0) c1 p1) := by exact fun _ _ => rfl) (hs2 : PlainIx (.Name y p3) := by exact fun _ _ => rfl) :
    PEd X (.Subscript (.Subscript (.Name x p) (.Constant (.int 0) c1 p1) p2) (.Name y p3) pos) (tDkAt j i) :=
  pe_imp (pe_ix ix_seq (pe_ix ix_seq (pv j hN hv hd hcd) pe_int hs) (pv i hN2 hv2 hd2 hcd2) hs2) fun σ H Q ⟨en, Hf, F, E, Qd, S, h, k⟩ => by
    unfold tDkAt at h
    split at h
    · rename_i b cs n m e1 e2
      obtain ⟨p, q, hv, _, hp, hq, _⟩ := S.deck e1
      obtain ⟨v, hv2, r2⟩ := S.get e2
      cases r2
      obtain ⟨w, hw, h⟩ := h
      exact ⟨_, hv, .inl ⟨_, _, _, _, rfl, rfl, .inl (.inl hp), rfl, _, hv2, .inl ⟨_, _, _, _, rfl, rfl, .inl (.inl hq), atI_map hw, k _ _ _ _ _ _ (Same.refl _) S (.int _) h⟩⟩⟩
    · exact h.elim
/-- deck[1] = e -/
def tDkSet (j : Nat) (te : TEd) : TSd := fun D E => te E fun y E1 => match E1[j]?, y with
  | some (.ow b (.dk cs _)), .int m => D.nx (E1.set j (.ow b (.dk cs m)))
  | _, _ => False
theorem s_dkSet (j : Nat) (he : PEd X e te) (hN : X.N[j]? = some x := by rfl) (hv : Vis X.env.scope x := by first | exact Or.inl rfl | exact Or.inr (Or.inl rfl) | exact Or.inr (Or.inr rfl)) (hd : (x == ("__debug__" : Str)) = false := by decide) (hcd : (x == ("__classdict__" : Str)) = false := by decide)
    (ha : ∀ v, assign (.Subscript (.Name x p) (.Constant (.int 1) c1 p1) p2) X.env v = (do
      let ov ← holding [v] (eval (.Name x p) X.env)
      let iv ← holding [v, ov] (eval (.Constant (.int 1) c1 p1) X.env)
      standAt p2
      holding [v, ov, iv] (setItem ov iv v)
      release [v, ov, iv] []) := by intro _; rfl)
    (hs : swapsWithSole [.Subscript (.Name x p) (.Constant (.int 1) c1 p1) p2] e pos.line X.env = pure false := by rfl) (hw : swappedStores [.Subscript (.Name x p) (.Constant (.int 1) c1 p1) p2] e X.env = pure none := by rfl)
    (h1 : (assignEach [.Subscript (.Name x p) (.Constant (.int 1) c1 p1) p2] X.env).map (·.2) = [assign (.Subscript (.Name x p) (.Constant (.int 1) c1 p1) p2) X.env] := by rfl) :
    PSd X (.Assign [.Subscript (.Name x p) (.Constant (.int 1) c1 p1) p2] e pos) (tDkSet j te) :=
  ps_imp (ps_asg he (pg_sub (pv j hN hv hd hcd) pe_int set_list ha) hs hw h1) fun D σ H ⟨en, Hf, F, E, Dd, S, h, k1, k2, k3, k4, k5⟩ =>
    ⟨en, Hf, F, E, _, S, h, fun v1 H1 Hf1 F1 E1 y s1 S1 r1 h1 => by
      split at h1
      · rename_i b cs n m e1
        cases r1
        obtain ⟨p, q, hv, _, hp, hq, cn, _⟩ := S1.deck e1
        exact ⟨_, hv, _, _, _, 1, rfl, rfl, hp, rfl, k1 _ _ _ _ _ s1 (cn m) h1⟩
      · exact h1.elim⟩
/-- deck[0][i] = e, i a name -/
def tDkPut (j i : Nat) (te : TEd) : TSd := fun D E => te E fun y E1 => match E1[j]?, E1[i]?, y with
  | some (.ow b (.dk cs n)), some (.fz (.int k)), .int m => ∃ l, ixN cs.length k = some l ∧ D.nx (E1.set j (.ow b (.dk (cs.set l m) n)))
  | _, _, _ => False
theorem s_dkPut (j i : Nat) {y : Str} (he : PEd X e te) (hN : X.N[j]? = some x := by rfl) (hv : Vis X.env.scope x := by first | exact Or.inl rfl | exact Or.inr (Or.inl rfl) | exact Or.inr (Or.inr rfl)) (hd : (x == ("__debug__" : Str)) = false := by decide) (hcd : (x == ("__classdict__" : Str)) = false := by decide)
    (hN2 : X.N[i]? = some y := by rfl) (hv2 : Vis X.env.scope y := by first | exact Or.inl rfl | exact Or.inr (Or.inl rfl) | exact Or.inr (Or.inr rfl)) (hd2 : (y == ("__debug__" : Str)) = false := by decide) (hcd2 : (y == ("__classdict__" : Str)) = false := by decide)
    (hx : PlainIx (.Constant (.int 0) c1 p1) := by exact fun _ _ => rfl)
    (ha : ∀ v, assign (.Subscript (.Subscript (.Name x p) (.Constant (.int 0) c1 p1) p2) (.Name y p3) p4) X.env v = (do
      let ov ← holding [v] (eval (.Subscript (.Name x p) (.Constant (.int 0) c1 p1) p2) X.env)
      let iv ← holding [v, ov] (eval (.Name y p3) X.env)
      standAt p4
      holding [v, ov, iv] (setItem ov iv v)
      release [v, ov, iv] []) := by intro _; rfl)
    (hs : swapsWithSole [.Subscript (.Subscript (.Name x p) (.Constant (.int 0) c1 p1) p2) (.Name y p3) p4] e pos.line X.env = pure false := by rfl) (hw : swappedStores [.Subscript (.Subscript (.Name x p) (.Constant (.int 0) c1 p1) p2) (.Name y p3) p4] e X.env = pure none := by rfl)
    (h1 : (assignEach [.Subscript (.Subscript (.Name x p) (.Constant (.int 0) c1 p1) p2) (.Name y p3) p4] X.env).map (·.2) = [assign (.Subscript (.Subscript (.Name x p) (.Constant (.int 0) c1 p1) p2) (.Name y p3) p4) X.env] := by rfl) :
    PSd X (.Assign [.Subscript (.Subscript (.Name x p) (.Constant (.int 0) c1 p1) p2) (.Name y p3) p4] e pos) (tDkPut j i te) :=
  ps_imp (ps_asg he (pg_sub (pe_ix ix_seq (pv j hN hv hd hcd) pe_int hx) (pv i hN2 hv2 hd2 hcd2) set_list ha) hs hw h1) fun D σ H ⟨en, Hf, F, E, Dd, S, h, k1, k2, k3, k4, k5⟩ =>
    ⟨en, Hf, F, E, _, S, h, fun v1 H1 Hf1 F1 E1 y s1 S1 r1 h1 => by
      split at h1
      · rename_i b cs n kk m e1 e2
        cases r1
        obtain ⟨p, q, hv, _, hp, hq, _, cc⟩ := S1.deck e1
        obtain ⟨v, hv2, r2⟩ := S1.get e2
        cases r2
        obtain ⟨l, hl, h1⟩ := h1
        have eq : (cs.map V.int).set l (V.int m) = (cs.set l m).map V.int := List.map_set.symm
        refine ⟨_, hv, .inl ⟨_, _, _, _, rfl, rfl, .inl (.inl hp), rfl, _, hv2, _, _, _, l, rfl, rfl, hq, by rw [List.length_map]; exact hl, ?_⟩⟩
        rw [eq]
        exact k1 _ _ _ _ _ s1 (cc _) h1
      · exact h1.elim⟩
end

/-! ### a law: its first statement makes the deck -/
section
variable {P : Program} {w : World} {K : PySem.W.Frag} {mg : Str → Option Value} {base : Heap}
/-- what makes the deck promises -/
def spDeck (K : PySem.W.Frag) : Sp := fun vs H Q _ => ∃ (a : Addr) (ns : List Int), vs = [.ref a] ∧ SqL K H a (ns.map V.int) ∧ ns.length ≤ 63 ∧
  ∀ (p q : Addr) (H' : Hp) (cs : List Int), p ≠ q → H p = none → H q = none → Same H H' → H' p = some (.lst [.ref q, .int 0]) → H' q = some (.lst (cs.map V.int)) → cs.length ≤ 63 → Q (.ref p) H'
/-- the law's promise -/
def spLaw (K : PySem.W.Frag) : Sp := fun vs H Q _ => ∃ (a : Addr) (ns : List Int), vs = [.ref a] ∧ SqL K H a (ns.map V.int) ∧ ns.length ≤ 63 ∧ (∀ t ∈ Tbs.T, H t.1 = some (.tbl #[])) ∧ ∀ H', Q (.bl true) H'
theorem law_deck {X : Cx} {CX : CXT} {k : Nat} {f : Addr} {fd : FuncData} {x dk sc : Str} {i : Nat} {p1 p2 p3 p4 pos : Pos} {rest : List Stmt} {t : TSd} {XE : XK} (F : FnG X.prog X.w X.K X.mg X.base CX k f fd [sc] (spDeck X.K)) (hgd : X.A.guards = some []) (hr : Room k X.A) (hm : X.mg x = some (.ref f)) (hk : PySem.W.keepIn X.K (.ref f) = true) (hb : Binds X.K fd [sc] []) (hx : Passes CX X XE)
    (hN : X.N.Nodup) (h0 : X.N[0]? = some sc) (hi : X.N[i]? = some dk) (hrest : PBd X rest t) (hg : Gl X x := by rfl) (hv : Vis X.env.scope sc := by first | exact Or.inl rfl | exact Or.inr (Or.inl rfl)) (hd : (sc == ("__debug__" : Str)) = false := by decide) (hcd : (sc == ("__classdict__" : Str)) = false := by decide) (hxd : (x == ("__debug__" : Str)) = false := by decide)
    (hl : Loc X.env.scope dk := by first | exact .inl rfl | exact .inr rfl) (hf : X.fn dk = true ∨ X.env.scope.names.lookup dk = some .local := by first | exact .inl rfl | exact .inr rfl)
    (he : starEach [.Name sc p3] X.env = (false, eval (.Name sc p3) X.env) :: starEach [] X.env := by rfl) (hs : swapsWith (.Call (.Name x p2) [.Name sc p3] [] p4) (some (.Name dk p1)) pos.line X.env = pure false := by rfl)
    {N : List Str} (eN : X.N = N) (hiN : 0 < i ∧ i < N.length) :
    PSs X (.Assign [.Name dk p1] (.Call (.Name x p2) [.Name sc p3] [] p4) pos :: rest) (fun D σ H => ∃ (a : Addr) (ns : List Int), σ = L2.start N [.ref a] ∧ SqL X.K H a (ns.map V.int) ∧ ns.length ≤ 63 ∧ (∀ t ∈ Tbs.T, H t.1 = some (.tbl #[])) ∧
      (∀ cs : List Int, cs.length ≤ 63 → t { nx := fun _ => False, rt := fun d _ => d = .bl true } ((List.replicate N.length Sl.un).set i (.ow false (.dk cs 0)))) ∧ ∀ H', D.rt (.bl true) H') :=
  pss_imp (pss_cons (ps_set hN hi hl (pe_callG F hgd hr hg hm hk hb hx (pa_cons (pv 0 h0 hv hd hcd) pa_nil he) hxd he) hs hf) hrest) fun D σ H ⟨a, ns, e1, hq, hlen, hT, ht, kk⟩ => by
    subst e1
    refine ⟨_, rfl, a, ns, rfl, hq, hlen, fun p q H' cs ne np nq s1 hp hq2 hl2 => ?_⟩
    show liftS X t D _ _
    have hlenN : (L2.start N [V.ref a]).length = N.length := by
      unfold L2.start
      simp only [List.length_append, List.length_map, List.length_replicate, List.length_cons, List.length_nil]
      omega
    have isT : ∀ b ∈ tabs, H b = some (.tbl #[]) := fun b hb => by
      obtain ⟨t, m, rfl⟩ := List.mem_map.mp hb
      exact hT t m
    have pT : p ∉ tabs := fun z => by
      have y := isT p z
      rw [np] at y
      cases y
    have qT : q ∉ tabs := fun z => by
      have y := isT q z
      rw [nq] at y
      cases y
    have e0s : ∀ b o, (if b ∈ tabs then none else H b) = some o → H b = some o := fun b o z => by
      split at z
      · cases z
      · exact z
    refine ⟨⟨fun b => if b ∈ tabs then none else H b, noHp, fun _ => [], fun _ => .non, noHp⟩, noHp, setF (fun _ => []) i (p :: q :: tabs), _, _, ?_, ht cs hl2, fun _ _ _ _ _ _ _ q => q.elim, fun _ _ _ _ _ _ _ q => q.elim, fun _ _ _ _ _ _ _ q => q.elim, fun v σ' H2 Hf' F' E' d s2 S2 r2 q2 => ?_, fun _ _ _ _ _ _ _ _ _ _ _ q => q.elim⟩
    · refine { sf := fun b o z => (nomatch z), so := fun b o _ z => s1 b o (e0s b o z), dom := fun b o z => ⟨o, s1 b o (e0s b o z)⟩, sp := fun b o z => (nomatch z), pf := fun b o z => (nomatch z), gf := fun b o z => (nomatch z), gn := fun b o z => (nomatch z), dj := fun j l b z1 z2 => ?_, fp := fun j b z => ?_, len := ?_, sl := fun j s z => ?_ }
      · have only : ∀ {j : Nat} {b : Addr}, b ∈ setF (fun _ => []) i (p :: q :: tabs) j → j = i := fun {j b} z => by
          by_cases y : j = i
          · exact y
          · rw [setF_ne y] at z
            cases z
        rw [only z1, only z2]
      · have y : j = i := by
          by_cases y : j = i
          · exact y
          · rw [setF_ne y] at z
            cases z
        subst y
        rw [setF_same] at z
        rcases List.mem_cons.mp z with rfl | z
        · exact ⟨rfl, ⟨_, hp⟩, .inr ((if_neg pT).trans np), rfl⟩
        · rcases List.mem_cons.mp z with rfl | z
          · exact ⟨rfl, ⟨_, hq2⟩, .inr ((if_neg qT).trans nq), rfl⟩
          · exact ⟨rfl, ⟨_, s1 _ _ (isT b z)⟩, .inr (if_pos z), rfl⟩
      · rw [List.length_set, List.length_set, List.length_replicate, hlenN]
      · by_cases y : j = i
        · subst y
          rw [List.getElem?_set_self (by rw [List.length_replicate]; exact hiN.2)] at z
          cases z
          refine ⟨.ref p, by rw [List.getElem?_set_self (by rw [hlenN]; exact hiN.2)], by rw [setF_same]; exact ⟨p, q, rfl, ne, rfl, hp, hq2, ⟨pT, qT⟩, fun t m => TabF.nil (s1 _ _ (hT t m))⟩, (fun z => by cases z), fun _ b z => ?_⟩
          rw [setF_same] at z
          rcases List.mem_cons.mp z with rfl | z
          · exact (if_neg pT).trans np
          · rcases List.mem_cons.mp z with rfl | z
            · exact (if_neg qT).trans nq
            · exact if_pos z
        · rw [List.getElem?_set_ne (Ne.symm y)] at z
          have z2 := List.mem_of_getElem? z
          rw [List.eq_of_mem_replicate z2]
          trivial
    · have q3 : d = .bl true := q2
      subst q3
      cases r2
      exact kk H2
end
end L3
namespace L3
open PySem PySem.Spec L2
open PyProof.Rows (IntsAre AllBare)
variable [Tbs]
/-! ### the end of a law -/
section
variable {P : Program} {w : World} {K : PySem.W.Frag} {mg mb : Str → Option Value} {k : Nat} {fa a : Addr} {fd : FuncData} {x : Str} {s₁ : Shared} {vs : List Value} {ns : List Int}
/-- the call of the law over an abstract heap that tracks the script at most -/
theorem end_at (hT : Tbs.T = []) (H : Hp) (KX : K.In s₁.heap) (hns : s₁.heap.Ns mainGlobals mg) (hb : s₁.heap.Ns builtinsNs mb) (hbb : ∀ x : Str, x ≠ "__name__" → mb x = bootBuiltins x) (hlim : s₁.heap.NoLimit) (hg : s₁.gens = #[])
    (ha : s₁.heap.get? a = some { cls := .type "list", data := .seq vs.toArray }) (hr : Room k callerA)
    (F : ∀ base : Heap, K.In base → base.Ns mainGlobals mg → FnG P w K mg base CX0 k fa fd [x] (spLaw K)) (hbind : ∀ (s : Shared) (u : Value), BindsTo s fd ⟨[u], []⟩ [(x, u)]) (hl : ns.length ≤ 63)
    (hq : SqL K H a (ns.map V.int)) (hok : HOk P w H s₁.heap) (hH : ∀ b u, H b = some u → b = a ∧ ∃ o xs, u = .frz o (.lst xs)) (hK : ∀ u, H a = some u → K.lookup a = none) :
    codeAny (model P w) callerA (.call (.ref fa) ⟨[.ref a], []⟩) (fun r s' => r = .ok (.ret (.bool true)) ∧ OldK s₁.heap s'.heap ∧ s'.os = s₁.os ∧ AllBare s'.gens) s₁ := by
  -- what is no list of the script's is not tracked
  have un : ∀ b o, s₁.heap.get? b = some o → o.cls ≠ .type "list" ∨ K.lookup b = some o → H b = none := fun b o e d => by
    cases z : H b with
    | none => rfl
    | some u =>
      obtain ⟨rfl, _⟩ := hH b u z
      rw [ha] at e
      cases e
      rcases d with d | d
      · exact absurd rfl d
      · rw [hK u z] at d
        cases d
  have kin : K.In (hidT s₁.heap H) := fun b o e => hidT_get (KX b o e) (un b o (KX b o e) (.inr e))
  have nsK : ∀ {b : Addr} {m : Str → Option Value}, s₁.heap.Ns b m → (hidT s₁.heap H).Ns b m := fun {b m} ⟨o, es, ep, e, d, r⟩ => by
    refine ⟨o, es, ep, hidT_get e ?_, d, r⟩
    cases z : H b with
    | none => rfl
    | some u =>
      obtain ⟨rfl, _⟩ := hH b u z
      rw [ha] at e
      cases e
      cases d
  have md : Mod K mg (hidT s₁.heap H) := ⟨kin, nsK hns, ⟨mb, nsK hb, hbb⟩, let ⟨mc, h1, h2⟩ := hlim; ⟨mc, nsK h1, h2⟩⟩
  have e0 : Env0 P w K mg (hidT s₁.heap H) callerA [] s₁ H := ⟨rfl, md, fun b o e => of_hidT e, Nat.le_of_eq (hidT_size _ _), trivial, fun b hb => (nomatch hb), hok, .of_eq hg⟩
  refine codeAny_mono ((F _ kin (nsK hns)).run callerA rfl hr [] s₁ H ⟨[.ref a], []⟩ [.ref a] [.ref a] (fun v _ => v = .bl true) (fun _ _ _ => False) e0 (hbind s₁ (.ref a)) (.cons rfl .nil) ⟨a, ns, rfl, hq, hl, (fun t m => by rw [hT] at m; cases m), fun _ => rfl⟩) fun r s' h => ?_
  match r, h with
  | .ok (.ret u), ⟨v, H', os, bare, un', hok', rv, e⟩ =>
    cases e
    cases rv
    refine ⟨rfl, OldK.of_keep fun b o eb => ?_, os, bare⟩
    cases z : H b with
    | none => exact un'.keep b o eb z (fun y => nomatch y) (fun y => nomatch y)
    | some u =>
      obtain ⟨rfl, o1, xs, rfl⟩ := hH b u z
      obtain ⟨e1, _⟩ := hok b _ z
      obtain ⟨e2, _⟩ := hok' b _ (un'.frzs b _ _ z)
      rw [eb] at e1
      cases e1
      exact e2
end
theorem walkG {l : PySem.W.OpenLaw} {k : Nat} {q : Program} {loose : List Str} {XP : (Str → Option Value) → Heap → Prop} {YP : World → Heap → Prop} {d : DefRec} {K : Params → PySem.W.Frag} {x : Str} (hT : Tbs.T = []) (hn : l.most = some 63) (hdf : d.params.defaults = []) (hr : Room k callerA)
    (hY : ∀ (w : World) (h : Heap), YP w h → (K w.params).In h)
    (F : ∀ (w : World) (mg : Str → Option Value) (fa : Addr) (h : Heap), (K w.params).In h → h.Ns mainGlobals mg → mg d.name = some (.ref fa) →
      ∃ fd : FuncData, (∀ (s : Shared) (u : Value), BindsTo s fd ⟨[u], []⟩ [(x, u)]) ∧ ∀ base : Heap, (K w.params).In base → base.Ns mainGlobals mg → FnG l.prog w (K w.params) mg base CX0 k fa fd [x] (spLaw (K w.params))) :
    PySem.W.WalkO q loose XP YP l.row.toRowW d [] (fun f vs => PySem.call f vs) := by
  refine Att.attach_call hn hdf fun w s₀ s₁ mg mb fa o pm cd doc a vs ns G Y ho hd hcd hmg hobj hints hlen hg => ?_
  have KX := hY w _ Y
  obtain ⟨fd, hb, hF⟩ := F w mg fa _ KX G.T.g hmg
  have rv := vals_ints hints
  have go := fun (H : Hp) => end_at (mb := mb) (ns := ns) hT H KX G.T.g G.T.b G.T.builtins G.T.nolimit hg hobj hr hF hb hlen
  have h63 : (63 : Nat) ≤ sizeLine := by decide
  cases hk : (K w.params).lookup a with
  | some o =>
    have e := KX a o hk
    rw [hobj] at e
    cases e
    refine go (fun _ => none) (.inr ⟨_, vs.toArray, _, hk, rfl, rfl, rfl, ?_, by simpa using rv⟩) (fun b u z => (nomatch z)) (fun b u z => (nomatch z)) fun u z => (nomatch z)
    have e1 := hints.length
    rw [List.size_toArray]
    omega
  | none =>
    have at_a : upd noHp a (.frz { cls := .type "list", data := .seq vs.toArray } (.lst (ns.map V.int))) a = some (.frz { cls := .type "list", data := .seq vs.toArray } (.lst (ns.map V.int))) := upd_same
    have only : ∀ b u, upd noHp a (.frz { cls := .type "list", data := .seq vs.toArray } (.lst (ns.map V.int))) b = some u → b = a ∧ u = .frz { cls := .type "list", data := .seq vs.toArray } (.lst (ns.map V.int)) := fun b u z => by
      by_cases e : b = a
      · subst e
        rw [upd_same] at z
        cases z
        exact ⟨rfl, rfl⟩
      · rw [upd_ne e] at z
        cases z
    refine go (upd noHp a _) (.inl (.inr ⟨_, at_a⟩)) (fun b u z => ?_) (fun b u z => ?_) fun _ _ => hk
    · obtain ⟨rfl, rfl⟩ := only b u z
      refine ⟨hobj, ?_, vs, _, rv, hobj⟩
      rw [List.length_map]
      omega
    · obtain ⟨rfl, rfl⟩ := only b u z
      exact ⟨rfl, _, _, rfl⟩
end L3
namespace L3
open PySem L2
variable [Tbs]
section
variable {X : Cx} {a b : Expr} {ta tb : TEd} {pos : Pos}
/-! ### is True, is not True -/
def rdIsB : RD := fun x y E Q => match x, y with
  | .bl i, .bl j => Q (.bl (decide (i = j))) E
  | _, _ => False
def rdNotB : RD := fun x y E Q => match x, y with
  | .bl i, .bl j => Q (.bl (!decide (i = j))) E
  | _, _ => False
theorem ok_isB {K : PySem.W.Frag} : OpOk K (fun x y H Q => ∃ a b, x = .bl a ∧ y = .bl b ∧ Q (.bl (decide (a = b))) H) rdIsB :=
  fun en Hf H F E σ vx vy x y Q Qd S rx ry q k => by
    unfold rdIsB at q
    split at q
    · cases rx
      cases ry
      exact ⟨_, _, rfl, rfl, k _ _ _ _ _ _ (Same.refl _) S (.bl _) q⟩
    · exact q.elim
theorem ok_notB {K : PySem.W.Frag} : OpOk K (fun x y H Q => ∃ a b, x = .bl a ∧ y = .bl b ∧ Q (.bl (!decide (a = b))) H) rdNotB :=
  fun en Hf H F E σ vx vy x y Q Qd S rx ry q k => by
    unfold rdNotB at q
    split at q
    · cases rx
      cases ry
      exact ⟨_, _, rfl, rfl, k _ _ _ _ _ _ (Same.refl _) S (.bl _) q⟩
    · exact q.elim
theorem d_isB (ha : PEd X a ta) (hb : PEd X b tb) : PEd X (.Compare a [.Is] [b] pos) (tOpD rdIsB ta tb) := d_cmp op_is_bl ok_isB ha hb (nomark _)
theorem d_notB (ha : PEd X a ta) (hb : PEd X b tb) : PEd X (.Compare a [.IsNot] [b] pos) (tOpD rdNotB ta tb) := d_cmp op_isnot_bl ok_notB ha hb (nomark _)
theorem t_isB (ha : PEd X a ta) (hb : PEd X b tb) : PTd X (.Compare a [.Is] [b] pos) (tTestD (tOpD rdIsB ta tb)) := t_cmp op_is_bl ok_isB ha hb (nomark _)
theorem t_notB (ha : PEd X a ta) (hb : PEd X b tb) : PTd X (.Compare a [.IsNot] [b] pos) (tTestD (tOpD rdNotB ta tb)) := t_cmp op_isnot_bl ok_notB ha hb (nomark _)
end
/-! ### the text's defs -/
/-- the def st stands behind the name x -/
def Dfn (K : PySem.W.Frag) (mg : Str → Option Value) (x : Str) (st : Stmt) (ps : List Str) : Prop := ∃ f fd, Fun K x x st f fd ∧ mg x = some (.ref f) ∧ Binds K fd ps []
/-- a def with its promise, ready to be called -/
structure CalAt (P : Program) (w : World) (K : PySem.W.Frag) (mg : Str → Option Value) (base : Heap) (CX : CXT) (x : Str) (k : Nat) (ps : List Str) (sp : Sp) (f : Addr) (fd : FuncData) : Prop where
  fn : FnG P w K mg base CX k f fd ps sp
  mg : mg x = some (.ref f)
  kp : PySem.W.keepIn K (.ref f) = true
  bd : Binds K fd ps []
def Cal (P : Program) (w : World) (K : PySem.W.Frag) (mg : Str → Option Value) (base : Heap) (CX : CXT) (x : Str) (k : Nat) (ps : List Str) (sp : Sp) : Prop := ∃ f fd, CalAt P w K mg base CX x k ps sp f fd
/-- the built-ins' names are the built-ins' -/
structure Bl (mg : Str → Option Value) : Prop where
  len : mg "len" = none
  abs : mg "abs" = none
  int : mg "int" = none
  max : mg "max" = none
  min : mg "min" = none
  tuple : mg "tuple" = none
  list : mg "list" = none
  range : mg "range" = none
  sum : mg "sum" = none
  all : mg "all" = none
  any : mg "any" = none
  repr : mg "repr" = none
  sorted : mg "sorted" = none
  set : mg "set" = none
  isinstance : mg "isinstance" = none
  enumerate : mg "enumerate" = none
  zip : mg "zip" = none
  str : mg "str" = none
  divmod : mg "divmod" = none
  bool : mg "bool" = none
section
variable {P : Program} {w : World} {K : PySem.W.Frag} {mg : Str → Option Value} {base : Heap}
theorem cal_pure {x : Str} {st : Stmt} {N ps : List Str} {k : Nat} {sp : SpP} (d : Dfn K mg x st ps) (S : FnScope N ps (defScope st)) (hN : ps.length ≤ N.length) (len : ∀ ds Q, sp ds Q → ds.length = ps.length)
    (hbody : ∃ t : TSd, (∀ (f : Addr) (cdv : Value) (A : Around) (outer : List Env) (s : Shared) (H : Hp) (E : XK), A.guards = some [] → Room k (A.deeper (PyProof.Rows.envOfC x (defScope st) s.heap.objs.size f cdv)) →
      PBd (cxOf CX0 P w K mg base N x (defScope st) f cdv A outer s H E).nox (defBody st) t) ∧
      ∀ ds Q, sp ds Q → t { nx := fun _ => Q .non, rt := fun d _ => Q d } (startD N (ds.map .fz))) : Cal P w K mg base CX0 x (k + 1) ps (liftP K sp) := by
  obtain ⟨f, fd, F, hm, hb⟩ := d
  obtain ⟨t, h1, h2⟩ := hbody
  exact ⟨f, fd, fn_pure F S hN len ⟨t, h1 f, h2⟩, hm, F.kp, hb⟩
theorem cal_own {x : Str} {st : Stmt} {N ps : List Str} {k : Nat} {so : SpO} (d : Dfn K mg x st ps) (S : FnScope N ps (defScope st)) (len : ∀ o ds Q, so o ds Q → ds.length + 1 = ps.length)
    (hbody : ∃ t : TSd, (∀ (f : Addr) (cdv : Value) (A : Around) (outer : List Env) (s : Shared) (H : Hp) (E : XK), A.guards = some [] → Room k (A.deeper (PyProof.Rows.envOfC x (defScope st) s.heap.objs.size f cdv)) →
      PBd (cxOf CX0 P w K mg base N x (defScope st) f cdv A outer s H E).nox (defBody st) t) ∧
      ∀ o ds Q, so o ds Q → t { nx := fun E => ∃ o', E[0]? = some (.ow true o') ∧ Q .non o', rt := fun d E => ∃ o', E[0]? = some (.ow true o') ∧ Q d o' } (startD N (.ow true o :: ds.map .fz))) : Cal P w K mg base CX0 x (k + 1) ps (liftOw K so) := by
  obtain ⟨f, fd, F, hm, hb⟩ := d
  obtain ⟨t, h1, h2⟩ := hbody
  exact ⟨f, fd, fn_own F S len ⟨t, h1 f, h2⟩, hm, F.kp, hb⟩
end
/-! ### promises by the number of arguments -/
def sp1 (R : D → (D → Prop) → Prop) : SpP := fun ds Q => match ds with
  | [x] => R x Q
  | _ => False
def sp2 (R : D → D → (D → Prop) → Prop) : SpP := fun ds Q => match ds with
  | [x, y] => R x y Q
  | _ => False
def sp3 (R : D → D → D → (D → Prop) → Prop) : SpP := fun ds Q => match ds with
  | [x, y, z] => R x y z Q
  | _ => False
def sp4 (R : D → D → D → D → (D → Prop) → Prop) : SpP := fun ds Q => match ds with
  | [x, y, z, u] => R x y z u Q
  | _ => False
theorem sp1_len {R} : ∀ ds Q, sp1 R ds Q → ds.length = 1 := fun ds Q h => by
  unfold sp1 at h
  split at h
  · rfl
  · exact h.elim
theorem sp2_len {R} : ∀ ds Q, sp2 R ds Q → ds.length = 2 := fun ds Q h => by
  unfold sp2 at h
  split at h
  · rfl
  · exact h.elim
theorem sp3_len {R} : ∀ ds Q, sp3 R ds Q → ds.length = 3 := fun ds Q h => by
  unfold sp3 at h
  split at h
  · rfl
  · exact h.elim
theorem sp4_len {R} : ∀ ds Q, sp4 R ds Q → ds.length = 4 := fun ds Q h => by
  unfold sp4 at h
  split at h
  · rfl
  · exact h.elim
theorem sp1_by {R} {G : List D → (D → Prop) → Prop} (h : ∀ x Q, R x Q → G [x] Q) : ∀ ds Q, sp1 R ds Q → G ds Q := fun ds Q q => by
  unfold sp1 at q
  split at q
  · exact h _ _ q
  · exact q.elim
theorem sp2_by {R} {G : List D → (D → Prop) → Prop} (h : ∀ x y Q, R x y Q → G [x, y] Q) : ∀ ds Q, sp2 R ds Q → G ds Q := fun ds Q q => by
  unfold sp2 at q
  split at q
  · exact h _ _ _ q
  · exact q.elim
theorem sp3_by {R} {G : List D → (D → Prop) → Prop} (h : ∀ x y z Q, R x y z Q → G [x, y, z] Q) : ∀ ds Q, sp3 R ds Q → G ds Q := fun ds Q q => by
  unfold sp3 at q
  split at q
  · exact h _ _ _ _ q
  · exact q.elim
theorem sp4_by {R} {G : List D → (D → Prop) → Prop} (h : ∀ x y z u Q, R x y z u Q → G [x, y, z, u] Q) : ∀ ds Q, sp4 R ds Q → G ds Q := fun ds Q q => by
  unfold sp4 at q
  split at q
  · exact h _ _ _ _ _ q
  · exact q.elim
/-- a def over the deck: cells cs, counter n, then the other arguments -/
abbrev DkP := List Int → Int → (D → List Int → Int → Prop) → Prop
def so0 (R : DkP) : SpO := fun o ds Q => match o, ds with
  | .dk cs n, [] => R cs n fun d cs' n' => Q d (.dk cs' n')
  | _, _ => False
def so1 (R : D → DkP) : SpO := fun o ds Q => match o, ds with
  | .dk cs n, [x] => R x cs n fun d cs' n' => Q d (.dk cs' n')
  | _, _ => False
def so2 (R : D → D → DkP) : SpO := fun o ds Q => match o, ds with
  | .dk cs n, [x, y] => R x y cs n fun d cs' n' => Q d (.dk cs' n')
  | _, _ => False
def so3 (R : D → D → D → DkP) : SpO := fun o ds Q => match o, ds with
  | .dk cs n, [x, y, z] => R x y z cs n fun d cs' n' => Q d (.dk cs' n')
  | _, _ => False
theorem so0_len {R} : ∀ o ds Q, so0 R o ds Q → ds.length + 1 = 1 := fun o ds Q h => by
  unfold so0 at h
  split at h
  · rfl
  · exact h.elim
theorem so1_len {R} : ∀ o ds Q, so1 R o ds Q → ds.length + 1 = 2 := fun o ds Q h => by
  unfold so1 at h
  split at h
  · rfl
  · exact h.elim
theorem so2_len {R} : ∀ o ds Q, so2 R o ds Q → ds.length + 1 = 3 := fun o ds Q h => by
  unfold so2 at h
  split at h
  · rfl
  · exact h.elim
theorem so3_len {R} : ∀ o ds Q, so3 R o ds Q → ds.length + 1 = 4 := fun o ds Q h => by
  unfold so3 at h
  split at h
  · rfl
  · exact h.elim
theorem so0_by {R} {G : Ow → List D → (D → Ow → Prop) → Prop} (h : ∀ cs n Q, R cs n (fun d cs' n' => Q d (.dk cs' n')) → G (.dk cs n) [] Q) : ∀ o ds Q, so0 R o ds Q → G o ds Q := fun o ds Q q => by
  unfold so0 at q
  split at q
  · exact h _ _ _ q
  · exact q.elim
theorem so1_by {R} {G : Ow → List D → (D → Ow → Prop) → Prop} (h : ∀ x cs n Q, R x cs n (fun d cs' n' => Q d (.dk cs' n')) → G (.dk cs n) [x] Q) : ∀ o ds Q, so1 R o ds Q → G o ds Q := fun o ds Q q => by
  unfold so1 at q
  split at q
  · exact h _ _ _ _ q
  · exact q.elim
theorem so2_by {R} {G : Ow → List D → (D → Ow → Prop) → Prop} (h : ∀ x y cs n Q, R x y cs n (fun d cs' n' => Q d (.dk cs' n')) → G (.dk cs n) [x, y] Q) : ∀ o ds Q, so2 R o ds Q → G o ds Q := fun o ds Q q => by
  unfold so2 at q
  split at q
  · exact h _ _ _ _ _ q
  · exact q.elim
theorem so3_by {R} {G : Ow → List D → (D → Ow → Prop) → Prop} (h : ∀ x y z cs n Q, R x y z cs n (fun d cs' n' => Q d (.dk cs' n')) → G (.dk cs n) [x, y, z] Q) : ∀ o ds Q, so3 R o ds Q → G o ds Q := fun o ds Q q => by
  unfold so3 at q
  split at q
  · exact h _ _ _ _ _ _ q
  · exact q.elim
/-! ### what every law's deck promises -/
def DkOk (cs : List Int) (n : Int) : Prop := cs.length ≤ 63 ∧ 0 ≤ n
/-- _law_draw -/
def R_draw : D → DkP := fun m cs n Q => ∃ k : Int, m = .int k ∧ DkOk cs n ∧ n < 2 ^ 40 ∧ 0 < k ∧ k.natAbs.log2 < 9000 ∧ ∀ (r : Int) (cs' : List Int), cs'.length ≤ 63 → 0 ≤ r → r < k → Q (.int r) cs' (n + 1)
/-- _law_one -/
def R_one : D → DkP := fun m cs n Q => ∃ xs : List D, (m = .lst xs ∨ m = .tup xs) ∧ DkOk cs n ∧ n < 2 ^ 40 ∧ 0 < xs.length ∧ xs.length ≤ sizeLine ∧ ∀ (x : D) (cs' : List Int), cs'.length ≤ 63 → x ∈ xs → Q x cs' (n + 1)
end L3
namespace L3
open PySem L2
variable [Tbs]
/-! ### the deck's maker: its reading, once -/
theorem deck_reading {K : PySem.W.Frag} {a : Addr} {ns : List Int} {H : Hp} {Q : VK} (hq : SqL K H a (ns.map V.int)) (hl : ns.length ≤ 63)
    (k : ∀ (p q : Addr) (H' : Hp) (cs : List Int), p ≠ q → H p = none → H q = none → Same H H' → H' p = some (.lst [.ref q, .int 0]) → H' q = some (.lst (cs.map V.int)) → cs.length ≤ 63 → Q (.ref p) H') {nx : St → Hp → Prop} :
    tRet (tLst (tCons (tLc (iList K (tSl (rSlL K) (tVar 0) tNoPart (tPart (tC (.int 63))))) (gName 1) tYes (tCB (fun xs H Q => ∃ i, xs = [.int i] ∧ Q (.int (if i < 0 then -i else i)) H) (tCons (tVar 1) tNil)) [1]) (tCons (tC (.int 0)) tNil)))
      { nx := nx, rt := Q } [some (.ref a), none] H := by
  refine ⟨.ref a, rfl, 63, rfl, a, _, rfl, hq, fun l nl => ⟨l, rfl, ⟨_, SqL.of upd_same⟩, fun D nD => ?_⟩⟩
  have hcut : cutV (ns.map V.int) none (some 63) = (cutL ns none (some 63)).map V.int := by
    unfold cutV cutL
    rw [List.length_map, List.map_take, List.map_drop]
  have clen : (cutL ns none (some 63)).length ≤ 63 := by
    have h1 : (cutL ns none (some 63)).length ≤ ns.length := by
      unfold cutL
      rw [List.length_take, List.length_drop]
      omega
    omega
  have s1 : Same H (upd H l (.lst (cutV (ns.map V.int) none (some 63)))) := same_upd nl
  have nHD : H D = none := s1.free nD
  have nlD : l ≠ D := fun e => by
    rw [← e, upd_same] at nD
    cases nD
  refine lc_list (K := K) (a := l) (xs := cutV (ns.map V.int) none (some 63)) (fun i H' => i ≤ 63 ∧ ∃ acc : List Int, Same (upd H l (.lst (cutV (ns.map V.int) none (some 63)))) (upd H' D (.lst [])) ∧ (∀ b u, upd H l (.lst (cutV (ns.map V.int) none (some 63))) b = some u → H' b = some u) ∧ H' D = some (.lst (acc.map V.int)) ∧ acc.length = i) ?_ ?_ ?_ ?_
  · refine ⟨by omega, [], ?_, ?_, upd_same, rfl⟩
    · rw [upd_upd]
      exact same_upd nD
    · exact same_upd nD
  · rintro i H' hi ⟨_, acc, _, h2, _⟩
    exact SqL.of (h2 _ _ upd_same)
  · rintro i x H' hi ⟨h0, acc, h1, h2, h3, h4⟩
    have hib : i < 63 := by
      have q := (List.getElem?_eq_some_iff.mp hi).1
      rw [hcut, List.length_map] at q
      omega
    obtain ⟨m, rfl⟩ : ∃ m, x = V.int m := by
      rw [hcut, List.getElem?_map] at hi
      cases e : (cutL ns none (some 63))[i]? with
      | none =>
        rw [e] at hi
        cases hi
      | some m =>
        rw [e] at hi
        exact ⟨m, (Option.some.inj hi).symm⟩
    refine ⟨rfl, ?_⟩
    refine ⟨.int m, rfl, m, rfl, acc.map V.int, h3, ?_, by omega, acc ++ [if m < 0 then -m else m], ?_, ?_, ?_, by rw [List.length_append, h4]; rfl⟩
    · rw [List.length_map, h4]
      exact Nat.lt_of_le_of_lt h0 (by decide)
    · rw [upd_upd]
      exact h1
    · intro b u e
      have nb : b ≠ D := ne_of_none e nD
      rw [upd_ne nb]
      exact h2 b u e
    · rw [upd_same, List.map_append]
      rfl
  · rintro H' ⟨h0, acc, h1, h2, h3, h4⟩
    refine ⟨show (2 : Nat) ≤ sizeLine by decide, fun p np => ?_⟩
    have sH : Same H H' := fun b u e => h2 b u (s1 b u e)
    have hpD : p ≠ D := fun e => by
      rw [e, h3] at np
      cases np
    refine k p D _ acc hpD (sH.free np) nHD (sH.trans (same_upd np)) upd_same ?_ ?_
    · rw [upd_ne (Ne.symm hpD)]
      exact h3
    · rw [h4]
      exact h0
section
variable {P : Program} {w : World} {K : PySem.W.Frag} {mg : Str → Option Value} {base : Heap}
theorem cal_deck {x : Str} {st : Stmt} (d : Dfn K mg x st ["_law_script"]) (S : FnScope ["_law_script", "_law_cell"] ["_law_script"] (defScope st))
    (hb : ∀ (f : Addr) (cdv : Value) (A : Around) (outer : List Env) (s : Shared) (H : Hp) (E : XK), PSs (cxOf CX0 P w K mg base ["_law_script", "_law_cell"] x (defScope st) f cdv A outer s H E).nox (defBody st)
      (tRet (tLst (tCons (tLc (iList K (tSl (rSlL K) (tVar 0) tNoPart (tPart (tC (.int 63))))) (gName 1) tYes (tCB (fun xs H Q => ∃ i, xs = [.int i] ∧ Q (.int (if i < 0 then -i else i)) H) (tCons (tVar 1) tNil)) [1]) (tCons (tC (.int 0)) tNil))))) :
    Cal P w K mg base CX0 x 1 ["_law_script"] (spDeck K) := by
  obtain ⟨f, fd, F, hm, hbd⟩ := d
  refine ⟨f, fd, FnG.body F S (fun vs H Q E ⟨a, ns, e, _⟩ => by rw [e]; rfl) (fun cdv A outer s H vs Q E hgd hr h => ⟨_, (hb f cdv A outer s H E).nox, ?_⟩), hm, F.kp, hbd⟩
  obtain ⟨a, ns, rfl, hq, hl, k⟩ := h
  exact deck_reading hq hl k
end
/-! ### one statement at a time -/
theorem seq_intro {u w : TSd} {nx bk ct : En → Prop} {rt : D → En → Prop} {ex : Xd → En → Prop} {E : En} (h : ∀ k : En → Prop, k = w { nx := nx, rt := rt, bk := bk, ct := ct, ex := ex } → u { nx := k, rt := rt, bk := bk, ct := ct, ex := ex } E) : tSeqD u w { nx := nx, rt := rt, bk := bk, ct := ct, ex := ex } E := h _ rfl
theorem ite_by {c : Prop} [Decidable c] {A B : Prop} (h1 : c → A) (h2 : ¬ c → B) : if decide c = true then A else B := by
  by_cases h : c
  · rw [if_pos (decide_eq_true h)]
    exact h1 h
  · rw [if_neg (by simpa using h)]
    exact h2 h
theorem ite_nby {c : Prop} [Decidable c] {A B : Prop} (h1 : ¬ c → A) (h2 : c → B) : if (!decide c) = true then A else B := by
  by_cases h : c
  · rw [if_neg (by simpa using h)]
    exact h2 h
  · rw [if_pos (by simpa using h)]
    exact h1 h
theorem iteb_by {b : Bool} {A B : Prop} (h1 : b = true → A) (h2 : b = false → B) : if b = true then A else B := by
  cases b with
  | true => exact h1 rfl
  | false => exact h2 rfl
/-- n slots that may be stored to -/
def Frees : Nat → En → Prop
  | 0, l => l = []
  | n + 1, l => ∃ s r, l = s :: r ∧ s.free ∧ Frees n r
/-! ### items of written lists -/
theorem atI0 {α : Type} {x0 : α} {l : List α} : atI (x0 :: l) 0 = some x0 := atI_nat (xs := x0 :: l) (j := 0) rfl
theorem atI1 {α : Type} {x0 x1 : α} {l : List α} : atI (x0 :: x1 :: l) 1 = some x1 := atI_nat (xs := x0 :: x1 :: l) (j := 1) rfl
theorem atI2 {α : Type} {x0 x1 x2 : α} {l : List α} : atI (x0 :: x1 :: x2 :: l) 2 = some x2 := atI_nat (xs := x0 :: x1 :: x2 :: l) (j := 2) rfl
theorem atI3 {α : Type} {x0 x1 x2 x3 : α} {l : List α} : atI (x0 :: x1 :: x2 :: x3 :: l) 3 = some x3 := atI_nat (xs := x0 :: x1 :: x2 :: x3 :: l) (j := 3) rfl
theorem atI4 {α : Type} {x0 x1 x2 x3 x4 : α} {l : List α} : atI (x0 :: x1 :: x2 :: x3 :: x4 :: l) 4 = some x4 := atI_nat (xs := x0 :: x1 :: x2 :: x3 :: x4 :: l) (j := 4) rfl
theorem atI5 {α : Type} {x0 x1 x2 x3 x4 x5 : α} {l : List α} : atI (x0 :: x1 :: x2 :: x3 :: x4 :: x5 :: l) 5 = some x5 := atI_nat (xs := x0 :: x1 :: x2 :: x3 :: x4 :: x5 :: l) (j := 5) rfl
theorem atI6 {α : Type} {x0 x1 x2 x3 x4 x5 x6 : α} {l : List α} : atI (x0 :: x1 :: x2 :: x3 :: x4 :: x5 :: x6 :: l) 6 = some x6 := atI_nat (xs := x0 :: x1 :: x2 :: x3 :: x4 :: x5 :: x6 :: l) (j := 6) rfl
theorem atI7 {α : Type} {x0 x1 x2 x3 x4 x5 x6 x7 : α} {l : List α} : atI (x0 :: x1 :: x2 :: x3 :: x4 :: x5 :: x6 :: x7 :: l) 7 = some x7 := atI_nat (xs := x0 :: x1 :: x2 :: x3 :: x4 :: x5 :: x6 :: x7 :: l) (j := 7) rfl
theorem atI8 {α : Type} {x0 x1 x2 x3 x4 x5 x6 x7 x8 : α} {l : List α} : atI (x0 :: x1 :: x2 :: x3 :: x4 :: x5 :: x6 :: x7 :: x8 :: l) 8 = some x8 := atI_nat (xs := x0 :: x1 :: x2 :: x3 :: x4 :: x5 :: x6 :: x7 :: x8 :: l) (j := 8) rfl
theorem atI9 {α : Type} {x0 x1 x2 x3 x4 x5 x6 x7 x8 x9 : α} {l : List α} : atI (x0 :: x1 :: x2 :: x3 :: x4 :: x5 :: x6 :: x7 :: x8 :: x9 :: l) 9 = some x9 := atI_nat (xs := x0 :: x1 :: x2 :: x3 :: x4 :: x5 :: x6 :: x7 :: x8 :: x9 :: l) (j := 9) rfl
theorem atI10 {α : Type} {x0 x1 x2 x3 x4 x5 x6 x7 x8 x9 x10 : α} {l : List α} : atI (x0 :: x1 :: x2 :: x3 :: x4 :: x5 :: x6 :: x7 :: x8 :: x9 :: x10 :: l) 10 = some x10 := atI_nat (xs := x0 :: x1 :: x2 :: x3 :: x4 :: x5 :: x6 :: x7 :: x8 :: x9 :: x10 :: l) (j := 10) rfl
theorem atI11 {α : Type} {x0 x1 x2 x3 x4 x5 x6 x7 x8 x9 x10 x11 : α} {l : List α} : atI (x0 :: x1 :: x2 :: x3 :: x4 :: x5 :: x6 :: x7 :: x8 :: x9 :: x10 :: x11 :: l) 11 = some x11 := atI_nat (xs := x0 :: x1 :: x2 :: x3 :: x4 :: x5 :: x6 :: x7 :: x8 :: x9 :: x10 :: x11 :: l) (j := 11) rfl
theorem atI12 {α : Type} {x0 x1 x2 x3 x4 x5 x6 x7 x8 x9 x10 x11 x12 : α} {l : List α} : atI (x0 :: x1 :: x2 :: x3 :: x4 :: x5 :: x6 :: x7 :: x8 :: x9 :: x10 :: x11 :: x12 :: l) 12 = some x12 := atI_nat (xs := x0 :: x1 :: x2 :: x3 :: x4 :: x5 :: x6 :: x7 :: x8 :: x9 :: x10 :: x11 :: x12 :: l) (j := 12) rfl
theorem atIm1 {α : Type} {x0 : α} : atI [x0] (-1) = some x0 := rfl
theorem atIm2 {α : Type} {x0 x1 : α} : atI [x0, x1] (-1) = some x1 := rfl
theorem atIm3 {α : Type} {x0 x1 x2 : α} : atI [x0, x1, x2] (-1) = some x2 := rfl
theorem atIm4 {α : Type} {x0 x1 x2 x3 : α} : atI [x0, x1, x2, x3] (-1) = some x3 := rfl
theorem atIm5 {α : Type} {x0 x1 x2 x3 x4 : α} : atI [x0, x1, x2, x3, x4] (-1) = some x4 := rfl
/-! ### sizes of numbers -/
theorem cdiv60 {i j : Int} (h0 : 0 < j) (h1 : j < 1152921504606846976) : CDivW i j := ⟨h0, by
  have h2 : j.natAbs < 2 ^ 60 := by
    have e : (2 ^ 60 : Nat) = 1152921504606846976 := by decide
    omega
  exact Nat.lt_of_lt_of_le (PySem.Flt.log2_lt_of (by decide) h2) (by decide)⟩
theorem log60 {j : Int} (h0 : 0 < j) (h1 : j < 1152921504606846976) : j.natAbs.log2 < 9000 := (cdiv60 (i := 0) h0 h1).2
theorem log200 {j : Int} (h0 : 0 < j) (h1 : j < 1606938044258990275541962092341162602522202993782792835301376) : j.natAbs.log2 < 9000 := by
  have h2 : j.natAbs < 2 ^ 200 := by
    have e : (2 ^ 200 : Nat) = 1606938044258990275541962092341162602522202993782792835301376 := by decide
    omega
  exact Nat.lt_of_lt_of_le (PySem.Flt.log2_lt_of (by decide) h2) (by decide)
theorem cmulL {i j : Int} (h0 : -18446744073709551616 < i) (h1 : i < 18446744073709551616) : CMulA i j := .inl (.inl ⟨h0, h1⟩)
theorem cmulR {i j : Int} (h0 : -18446744073709551616 < j) (h1 : j < 18446744073709551616) : CMulA i j := .inl (.inr ⟨h0, h1⟩)
theorem cpow {i j : Int} (h0 : 0 ≤ j) (h1 : j ≤ 1000000) (h2 : -18446744073709551616 < i) (h3 : i < 18446744073709551616) : CPow i j := ⟨h0, h1, by
  have e : (2 : Nat) ^ 64 = 18446744073709551616 := by decide
  omega⟩
theorem small_le {n : Nat} (h : n ≤ 16777216) : n ≤ sizeLine := by rw [sizeLine_eq]; exact h
theorem small_lt {n : Nat} (h : n < 16777216) : n < sizeLine := by rw [sizeLine_eq]; exact h
theorem atI_ex {α : Type} {xs : List α} {i : Int} (h0 : 0 ≤ i) (h1 : i < xs.length) : ∃ x, atI xs i = some x ∧ x ∈ xs := by
  have hi : i.toNat < xs.length := by omega
  obtain ⟨x, hx⟩ : ∃ x, xs[i.toNat]? = some x := getE hi
  have e : ((i.toNat : Nat) : Int) = i := by omega
  have q := atI_nat hx
  rw [e] at q
  exact ⟨x, q, List.mem_of_getElem? hx⟩
theorem ixN_ex {n : Nat} {i : Int} (h0 : 0 ≤ i) (h1 : i < n) : ∃ l, ixN n i = some l ∧ l < n := by
  refine ⟨i.toNat, ?_, by omega⟩
  unfold ixN
  rw [if_pos h0, if_pos h1]
end L3
namespace L3
open PySem L2
variable [Tbs]
/-! ### sum of a tuple; divmod -/
theorem preSum_take (ns : List Int) : ∀ n : Nat, n ≤ ns.length → preSum (fun i => (ns[i]?).getD 0) n = (ns.take n).sum
  | 0, _ => by simp [preSum]
  | n + 1, h => by
    obtain ⟨x, hx⟩ := getE (xs := ns) (i := n) (by omega)
    have e := preSum_take ns n (by omega)
    rw [List.take_succ, hx]
    simp only [preSum, hx, Option.getD_some, e, Option.toList_some, List.sum_append, List.sum_cons, List.sum_nil]
    omega
section
variable {X : Cx} {a b : Expr} {t : TAd} {p pos : Pos}
theorem cr_sumT (hc : X.calm = true) : CallR X (.builtin "sum") (fun vs H Q => ∃ (a : Addr) (ns : List Int), vs = [V.ref a] ∧ SqT X.K H a (ns.map V.int) ∧ Q (.int ns.sum) H) := by
  intro pins s σ H vs us Q I r h
  obtain ⟨a, ns, rfl, hs, q⟩ := h
  obtain ⟨its, rv, ht, _⟩ := I.tuple hs
  rw [Vals.ref1 r]
  have hla : a < s.heap.objs.size := ht.lt
  have hlen : its.length = ns.length := by rw [← rv.length, List.length_map]
  have hh : X.A.in1.handled = none := I.ok.hd hc
  refine PySem.call_sum_walkG (wpAny_pyIter_tuple (show s.heap.IsTuple a its.toArray from ht) ?_)
  refine ⟨s.heap.objs.size, [s.heap.objs.size, a], [s.heap.objs.size], _, _, _, fun i => (ns[i]?).getD 0, rfl, Walks.tuple hh _ a (Nat.ne_of_lt hla) its.toArray, ⟨⟨_, Heap.get?_push_size _ rfl, rfl, rfl⟩, ?_⟩, fun c hc => ?_, fun i v hv => ?_, fun h' tk t' hk => ?_⟩
  · obtain ⟨o, e, c, n, d⟩ := ht
    exact ⟨o, Heap.get?_push_of_some _ e, c, n, d⟩
  · rcases List.mem_cons.mp hc with rfl | hc
    · show _ < (s.heap.push _).objs.size
      rw [Heap.size_push]
      exact Nat.lt_succ_self _
    · obtain rfl : c = a := by simpa using hc
      show _ < (s.heap.push _).objs.size
      rw [Heap.size_push]
      exact Nat.lt_succ_of_lt hla
  · have hv' : its[i]? = some v := by simpa using hv
    have hi : i < ns.length := by
      rw [← hlen]
      exact (List.getElem?_eq_some_iff.mp hv').1
    obtain ⟨m, hm⟩ := getE hi
    have e1 : (ns.map V.int)[i]? = some (V.int m) := by rw [List.getElem?_map, hm]; rfl
    obtain ⟨u, e2, r2⟩ := rv.get e1
    rw [hv'] at e2
    cases e2
    obtain ⟨tk, rfl⟩ := r2
    exact ⟨tk, by show _ = Value.int ((ns[i]?).getD 0) tk; rw [hm]; rfl⟩
  · have hsum : preSum (fun i => (ns[i]?).getD 0) its.toArray.size = ns.sum := by
      rw [List.size_toArray, hlen, preSum_take ns _ (Nat.le_refl _), List.take_length]
    rw [hsum]
    refine ⟨.int _, H, I.kept (h' := h') (t' := tk) fun b o e => hk b o (fun z => ?_) (Heap.get?_push_of_some _ e), ⟨_, rfl⟩, q⟩
    have := Heap.lt_size e
    rw [List.mem_singleton.mp z] at this
    exact absurd this (Nat.lt_irrefl _)
def rbSumA : RB := fun ds E Q => match ds with
  | [.lst xs] => ∃ ns : List Int, xs = ns.map D.int ∧ Q (.int ns.sum) E
  | [.tup xs] => ∃ ns : List Int, xs = ns.map D.int ∧ Q (.int ns.sum) E
  | _ => False
theorem d_sumA (hc : X.calm = true) (hm : X.mg "sum" = none) (ha : PAd X [a] t) (hg : Gl X "sum" := by rfl) (he : starEach [a] X.env = (false, eval a X.env) :: starEach [] X.env := by rfl) : PEd X (.Call (.Name "sum" p) [a] [] pos) (tCBd rbSumA t) :=
  d_callB (CallR.or (cr_sum hc) (cr_sumT hc)) (fun en Hf H F E σ vs ds Q Qd S rx q k => by
    unfold rbSumA at q
    split at q
    · obtain ⟨v, rfl, r⟩ := rx.one
      cases r with | lst h l =>
      obtain ⟨ns, rfl, q⟩ := q
      rw [l.ofInts] at h
      exact .inl ⟨_, ns, rfl, .inl (.inl (S.sf _ _ h)), k _ _ _ _ _ _ (Same.refl _) S (.int _) q⟩
    · obtain ⟨v, rfl, r⟩ := rx.one
      cases r with | tup h l =>
      obtain ⟨ns, rfl, q⟩ := q
      rw [l.ofInts] at h
      exact .inr ⟨_, ns, rfl, Same.sqT S.sf h, k _ _ _ _ _ _ (Same.refl _) S (.int _) q⟩
    · exact q.elim) hm PyProof.Rows.boot_sum ha hg (by decide) (by decide) he
def rbDivmod : RB := fun ds E Q => match ds with
  | [.int i, .int j] => CDiv i j ∧ Q (.tup [.int (i / j), .int (i % j)]) E
  | _ => False
theorem d_divmod (hm : X.mg "divmod" = none) (ha : PAd X [a, b] t) (hg : Gl X "divmod" := by rfl) (he : starEach [a, b] X.env = (false, eval a X.env) :: starEach [b] X.env := by rfl) (hpl : (backTo pos (starEach [b] X.env)).any (·.1) = false := by rfl) : PEd X (.Call (.Name "divmod" p) [a, b] [] pos) (tCBd rbDivmod t) :=
  d_callB call_divmod (fun en Hf H F E σ vs ds Q Qd S rx q k => by
    unfold rbDivmod at q
    split at q
    · obtain ⟨v, w, rfl, r1, r2⟩ := rx.two
      cases r1
      cases r2
      exact ⟨_, _, rfl, q.1, fun p np => k.new S np (fun _ s2 e => .tup (.inl (.inl e)) (.cons (.int _) (.cons (.int _) .nil))) q.2⟩
    · exact q.elim) hm PyProof.Rows.boot_divmod ha hg (by decide) (by decide) he hpl
end
end L3
namespace L3
open PySem L2
variable [Tbs]
/-! ### ranges between numbers of any size -/
theorem turn_long {P : Program} {w : World} {K : PySem.W.Frag} {tg : Expr} (it : Addr) (lo : Int) (n : Nat) : Turn P w K tg (Itr lo n) [it] it (fun i h => IsLongIter h it (lo + (i : Nat) * 1) ((n : Int) - (i : Nat)) 1) where
  mem := List.mem_singleton.mpr rfl
  obj := fun i h st b hb => by
    obtain rfl : b = it := List.mem_singleton.mp hb
    refine ⟨_, st, fun v z => ?_⟩
    have z2 : Data.fields _ = Data.cell v := z
    cases z2
  keep := fun i h h' st k => k it (List.mem_singleton.mpr rfl) _ st
  item := by
    intro X hP hw hK hc i pins s σ H E I hf st hg
    subst hP hw hK
    have ff := hf it (List.mem_singleton.mpr rfl)
    refine (Walks.longrange (prog := X.prog) (w := X.w) (I.ok.hd hc) it lo 1 n).item i s _ _ hg st fun v h' tk hv st2 kk => ?_
    obtain ⟨t, rfl⟩ := hv
    have I1 : L2.Inv X pins σ H { s with heap := h', toks := tk } := I.turned (fun b o hb e => kk b o (fun z => hb (List.mem_singleton.mp z)) e) ff.1 ff.2.1 ff.2.2.2.1 ff.2.2.2.2.1 ff.2.2.2.2.2
    refine ⟨_, rfl, go_of (s := { s with heap := h', toks := tk }) (n := "longrange_iterator") st2 rfl rfl (by decide) ⟨.int (lo + i), H, I1, ⟨t, by rw [Int.mul_one]⟩, ⟨rfl, rfl⟩, st2, fun b hb => (hf b hb).1⟩⟩
  done := by
    intro X hP hw hK hc i pins s σ H E I hf st hg
    subst hP hw hK
    have ff := hf it (List.mem_singleton.mpr rfl)
    have hn : n ≤ i := hg
    exact wpAny_pyNext_long_end (I.ok.hd hc) st (by omega) fun h' eb => ⟨rfl, I.turned (t' := s.toks) (fun b o hb e => eb b o hb e) ff.1 ff.2.1 ff.2.2.2.1 ff.2.2.2.2.1 ff.2.2.2.2.2⟩
  self := fun _ _ _ _ _ st h => wpAny_pyIter_longiter st h
section
variable {X : Cx} {tg a b : Expr} {p pos : Pos} {t : TAd}
theorem range_any {pins : List (Addr × Obj)} {σ : St} {H : Hp} {s : Shared} {R : It → Hp → Prop} {E : Value → Shared → Prop} {lo hi : Int} {t u v : Tok} {tk : Nat} (I : L2.Inv X pins σ H s) (q : R (Itr lo (hi - lo).toNat) H) :
    wpAny (model X.prog X.w) X.A (pyIter (.ref s.heap.objs.size)) (PIE X pins σ tg R) E { s with heap := s.heap.push { cls := .type "range", data := .fields #[.int lo t, .int hi u, .int 1 v] }, toks := tk } := by
  have I1 : L2.Inv X pins σ H { s with heap := s.heap.push { cls := .type "range", data := .fields #[.int lo t, .int hi u, .int 1 v] }, toks := tk } := I.kept fun b o e => Heap.get?_push_of_some _ e
  have e1 : lo + ((0 : Nat) : Int) * 1 = lo := by simp
  have e2 : (((hi - lo).toNat : Nat) : Int) - ((0 : Nat) : Int) = Builtin.Range.rangeSize lo hi 1 := by rw [rangeSize_one]; split <;> omega
  have fpo : ∀ b ∈ [(s.heap.push { cls := .type "range", data := .fields #[.int lo t, .int hi u, .int 1 v] }).objs.size], FpOk X pins H b := fun b hb => by
    rw [List.mem_singleton.mp hb]
    exact I1.fpOk (Nat.le_refl _) (I1.hok.fresh (Nat.le_refl _))
  cases hsm : Builtin.Range.small lo hi 1 with
  | true =>
    refine wpAny_pyIter_range (IsRange.new ..) hsm ⟨_, [_], _, _, H, rfl, I1.kept (t' := tk) fun b o e => Heap.get?_push_of_some _ e, turn_range _ lo (hi - lo).toNat, ?_, fpo, q⟩
    show IsRangeIter _ _ (lo + ((0 : Nat) : Int) * 1) ((((hi - lo).toNat : Nat) : Int) - ((0 : Nat) : Int)) 1
    rw [e1, e2]
    exact Heap.get?_push_size _ rfl
  | false =>
    refine wpAny_pyIter_longrange (IsRange.new ..) hsm ⟨_, [_], _, _, H, rfl, I1.kept (t' := tk) fun b o e => Heap.get?_push_of_some _ e, turn_long _ lo (hi - lo).toNat, ?_, fpo, q⟩
    show IsLongIter _ _ (lo + ((0 : Nat) : Int) * 1) ((((hi - lo).toNat : Nat) : Int) - ((0 : Nat) : Int)) 1
    rw [e1, e2]
    exact Heap.get?_push_size _ rfl
def iRngA (ta : TA) : TI := fun σ H R => ta σ H fun vs H1 => ∃ i j : Int, vs = [.int i, .int j] ∧ R (Itr i (j - i).toNat) H1
theorem pi_rangeA {ta : TA} (hg : Gl X "range") (hm : X.mg "range" = none) (ha : PA X [a, b] ta) (hs : starEach [a, b] X.env = [(false, eval a X.env), (false, eval b X.env)]) (hs2 : starEach [b] X.env = [(false, eval b X.env)]) :
    PI X tg (.Call (.Name "range" p) [a, b] [] pos) (iRngA ta) := by
  refine ⟨fun pins s σ H R I h => PyProof.Rows.Call_ (ld_blt I hg hm PyProof.Rows.boot_range (PyProof.Rows.callWith_type1 (thn (ha.run pos pins s σ H _ I h) fun us s1 ⟨vs, H1, I1, r1, i, j, e, q⟩ => ?_) (by rw [hs, hs2]) (by rw [hs2]; rfl)))⟩
  subst e
  obtain ⟨u1, u2, rfl, ⟨t1, rfl⟩, ⟨t2, rfl⟩⟩ := vals2 r1
  exact call_range_2 (range_any I1 q)
def iRng2W (te : TAd) : TId := fun E Q => te E fun xs E1 => match xs with
  | [.int m, .int n] => Q (rngD m (n - m).toNat) E1
  | _ => False
theorem i_range2W (hm : X.mg "range" = none) (ha : PAd X [a, b] t) (hg : Gl X "range" := by rfl) (hs : starEach [a, b] X.env = [(false, eval a X.env), (false, eval b X.env)] := by rfl) (hs2 : starEach [b] X.env = [(false, eval b X.env)] := by rfl) : PId X tg (.Call (.Name "range" p) [a, b] [] pos) (iRng2W t) :=
  pi_imp (pi_rangeA hg hm ha hs hs2) fun σ H R ⟨en, Hf, F, E, Qd, S, h, k⟩ => ⟨en, Hf, F, E, _, S, h, fun v1 H1 Hf1 F1 E1 x s1 S1 r1 h1 => by
    split at h1
    · obtain ⟨v, w, rfl, r2, r3⟩ := r1.two
      cases r2
      cases r3
      exact ⟨_, _, rfl, k _ _ _ _ _ _ s1 S1 (rng_ok _ _) h1⟩
    · exact h1.elim⟩
end
end L3
namespace L3
open PySem L2
variable [Tbs]
/-! ### slices of lists of numbers; what lists of numbers show -/
theorem cutL_map {α β : Type} (f : α → β) (xs : List α) (lo hi : Option Int) : cutL (xs.map f) lo hi = (cutL xs lo hi).map f := by
  unfold cutL
  rw [List.length_map, List.map_take, List.map_drop]
theorem sIx_nn {n d : Nat} {i : Int} (h0 : 0 ≤ i) : HT.sIx n d (some i) = min i.toNat n := by
  show (if i < 0 then (i + (n : Int)).toNat else min i.toNat n) = _
  rw [if_neg (by omega)]
theorem cutL_to {α : Type} {xs : List α} {i : Int} (h0 : 0 ≤ i) : cutL xs none (some i) = xs.take i.toNat := by
  unfold cutL
  rw [sIx_nn h0]
  show (xs.drop 0).take _ = _
  rw [List.drop_zero, List.take_eq_take_iff]
  simp [HT.sIx]
theorem cutL_from {α : Type} {xs : List α} {i : Int} (h0 : 0 ≤ i) : cutL xs (some i) none = xs.drop i.toNat := by
  unfold cutL
  rw [sIx_nn h0]
  show (xs.drop _).take (xs.length - _) = _
  rw [← List.length_drop, List.take_length]
  by_cases h : i.toNat ≤ xs.length
  · rw [Nat.min_eq_left h]
  · rw [Nat.min_eq_right (by omega), List.drop_length, List.drop_eq_nil_of_le (by omega)]
theorem cutL_mid {α : Type} {xs : List α} {i j : Int} (h0 : 0 ≤ i) (h1 : i ≤ j) : cutL xs (some i) (some j) = (xs.drop i.toNat).take (j - i).toNat := by
  unfold cutL
  rw [sIx_nn h0, sIx_nn (Int.le_trans h0 h1)]
  by_cases h : i.toNat ≤ xs.length
  · rw [Nat.min_eq_left h, List.take_eq_take_iff, List.length_drop]
    omega
  · rw [show min i.toNat xs.length = xs.length by omega, List.drop_length, List.drop_eq_nil_of_le (by omega), List.take_nil, List.take_nil]
/-- what is shown: how deep, how long -/
structure Sh (k m : Nat) (d : D) : Prop where
  plain : d.plain = true
  able : PyData.showable d.py = true
  size : (PyData.shown d.py).length ≤ m
  deep : PyData.depth d.py ≤ k
structure ShL (k m : Nat) (ds : List D) : Prop where
  plain : D.plainL ds = true
  able : PyData.showableAll (D.pyL ds) = true
  size : ((PyData.shownAll (D.pyL ds)).map (·.length)).sum + 2 * (PyData.shownAll (D.pyL ds)).length ≤ m
  deep : PyData.depthAll (D.pyL ds) ≤ k
theorem Sh.sh {k m : Nat} {d : D} (h : Sh k m d) (h1 : k ≤ 60) (h2 : m ≤ 16777216) : d.sh := ⟨h.plain, h.able, Nat.le_trans h.size (small_le h2), Nat.le_trans h.deep h1⟩
theorem log_of {a : Int} {k : Nat} (h0 : 0 < k) (h : a.natAbs < 2 ^ k) : a.natAbs.log2 < k := PySem.Flt.log2_lt_of h0 h
theorem Sh.int {a : Int} {b : Nat} (h0 : 0 < b) (h1 : b ≤ 1920) (h : a.natAbs < 2 ^ b) : Sh 0 (b + 1) (.int a) := by
  have la := log_of h0 h
  refine ⟨rfl, decide_eq_true (show a.natAbs.log2 < 1920 by omega), ?_, Nat.le_refl _⟩
  show (Str.ofString (toString a)).length ≤ _
  rw [ofString_length]
  exact int_text_length_le h0 la
theorem Sh.non : Sh 0 4 .non := ⟨rfl, rfl, Nat.le_refl _, Nat.le_refl _⟩
theorem Sh.bl {b : Bool} : Sh 0 5 (.bl b) := ⟨rfl, rfl, by cases b <;> decide, Nat.le_refl _⟩
theorem Sh.lst {k m : Nat} {ds : List D} (h : ShL k m ds) : Sh (k + 1) (m + 3) (.lst ds) := ⟨h.plain, h.able, by
  have e := listText_len_le (PyData.shownAll (D.pyL ds))
  have e2 := h.size
  show (listText (PyData.shownAll (D.pyL ds))).length ≤ _
  omega, Nat.succ_le_succ h.deep⟩
theorem Sh.tup {k m : Nat} {ds : List D} (h : ShL k m ds) : Sh (k + 1) (m + 3) (.tup ds) := ⟨h.plain, h.able, by
  have e := tupleText_len_le (PyData.shownAll (D.pyL ds))
  have e2 := h.size
  show (tupleText (PyData.shownAll (D.pyL ds))).length ≤ _
  omega, Nat.succ_le_succ h.deep⟩
theorem ShL.nil {k : Nat} : ShL k 0 [] := ⟨rfl, rfl, Nat.le_refl _, Nat.zero_le _⟩
theorem ShL.cons {k k' m m' : Nat} {d : D} {ds : List D} (h : Sh k m d) (h' : ShL k' m' ds) : ShL (max k k') (m + m' + 2) (d :: ds) := ⟨Bool.and_eq_true_iff.mpr ⟨h.plain, h'.plain⟩, Bool.and_eq_true_iff.mpr ⟨h.able, h'.able⟩, by
  show ((PyData.shown d.py :: PyData.shownAll (D.pyL ds)).map (·.length)).sum + 2 * (PyData.shown d.py :: PyData.shownAll (D.pyL ds)).length ≤ _
  have e := h.size
  have e2 := h'.size
  rw [List.map_cons, List.sum_cons, List.length_cons]
  omega, by
  show max (PyData.depth d.py) (PyData.depthAll (D.pyL ds)) ≤ _
  have e := h.deep
  have e2 := h'.deep
  omega⟩
end L3
namespace L3
open PySem L2
variable [Tbs]
/-! ### classes as values; isinstance; x[::-1]; list(range(..)) -/
/-- the name of the class -/
def D.tyN : D → Option String
  | .non => some "NoneType"
  | .bl _ => some "bool"
  | .int _ => some "int"
  | .str _ => some "str"
  | .tup _ => some "tuple"
  | .lst _ => some "list"
  | .dct _ => some "dict"
  | .opq _ => none
  | .pt _ => none
  | .ins _ _ => none
def kitD (d : D) (n : String) : Option Bool := d.tyN.bind fun m => kitB m n
theorem kit_non_int : kitD D.non "int" = some false := show kitB "NoneType" "int" = _ by decide +kernel
theorem kit_non_bool : kitD D.non "bool" = some false := show kitB "NoneType" "bool" = _ by decide +kernel
theorem kit_non_str : kitD D.non "str" = some false := show kitB "NoneType" "str" = _ by decide +kernel
theorem kit_non_tuple : kitD D.non "tuple" = some false := show kitB "NoneType" "tuple" = _ by decide +kernel
theorem kit_non_list : kitD D.non "list" = some false := show kitB "NoneType" "list" = _ by decide +kernel
theorem kit_non_dict : kitD D.non "dict" = some false := show kitB "NoneType" "dict" = _ by decide +kernel
theorem kit_bl_int {b : Bool} : kitD (D.bl b) "int" = some true := show kitB "bool" "int" = _ by decide +kernel
theorem kit_bl_bool {b : Bool} : kitD (D.bl b) "bool" = some true := show kitB "bool" "bool" = _ by decide +kernel
theorem kit_bl_str {b : Bool} : kitD (D.bl b) "str" = some false := show kitB "bool" "str" = _ by decide +kernel
theorem kit_bl_tuple {b : Bool} : kitD (D.bl b) "tuple" = some false := show kitB "bool" "tuple" = _ by decide +kernel
theorem kit_bl_list {b : Bool} : kitD (D.bl b) "list" = some false := show kitB "bool" "list" = _ by decide +kernel
theorem kit_bl_dict {b : Bool} : kitD (D.bl b) "dict" = some false := show kitB "bool" "dict" = _ by decide +kernel
theorem kit_int_int {i : Int} : kitD (D.int i) "int" = some true := show kitB "int" "int" = _ by decide +kernel
theorem kit_int_bool {i : Int} : kitD (D.int i) "bool" = some false := show kitB "int" "bool" = _ by decide +kernel
theorem kit_int_str {i : Int} : kitD (D.int i) "str" = some false := show kitB "int" "str" = _ by decide +kernel
theorem kit_int_tuple {i : Int} : kitD (D.int i) "tuple" = some false := show kitB "int" "tuple" = _ by decide +kernel
theorem kit_int_list {i : Int} : kitD (D.int i) "list" = some false := show kitB "int" "list" = _ by decide +kernel
theorem kit_int_dict {i : Int} : kitD (D.int i) "dict" = some false := show kitB "int" "dict" = _ by decide +kernel
theorem kit_str_int {x : Str} : kitD (D.str x) "int" = some false := show kitB "str" "int" = _ by decide +kernel
theorem kit_str_bool {x : Str} : kitD (D.str x) "bool" = some false := show kitB "str" "bool" = _ by decide +kernel
theorem kit_str_str {x : Str} : kitD (D.str x) "str" = some true := show kitB "str" "str" = _ by decide +kernel
theorem kit_str_tuple {x : Str} : kitD (D.str x) "tuple" = some false := show kitB "str" "tuple" = _ by decide +kernel
theorem kit_str_list {x : Str} : kitD (D.str x) "list" = some false := show kitB "str" "list" = _ by decide +kernel
theorem kit_str_dict {x : Str} : kitD (D.str x) "dict" = some false := show kitB "str" "dict" = _ by decide +kernel
theorem kit_tup_int {xs : List D} : kitD (D.tup xs) "int" = some false := show kitB "tuple" "int" = _ by decide +kernel
theorem kit_tup_bool {xs : List D} : kitD (D.tup xs) "bool" = some false := show kitB "tuple" "bool" = _ by decide +kernel
theorem kit_tup_str {xs : List D} : kitD (D.tup xs) "str" = some false := show kitB "tuple" "str" = _ by decide +kernel
theorem kit_tup_tuple {xs : List D} : kitD (D.tup xs) "tuple" = some true := show kitB "tuple" "tuple" = _ by decide +kernel
theorem kit_tup_list {xs : List D} : kitD (D.tup xs) "list" = some false := show kitB "tuple" "list" = _ by decide +kernel
theorem kit_tup_dict {xs : List D} : kitD (D.tup xs) "dict" = some false := show kitB "tuple" "dict" = _ by decide +kernel
theorem kit_lst_int {xs : List D} : kitD (D.lst xs) "int" = some false := show kitB "list" "int" = _ by decide +kernel
theorem kit_lst_bool {xs : List D} : kitD (D.lst xs) "bool" = some false := show kitB "list" "bool" = _ by decide +kernel
theorem kit_lst_str {xs : List D} : kitD (D.lst xs) "str" = some false := show kitB "list" "str" = _ by decide +kernel
theorem kit_lst_tuple {xs : List D} : kitD (D.lst xs) "tuple" = some false := show kitB "list" "tuple" = _ by decide +kernel
theorem kit_lst_list {xs : List D} : kitD (D.lst xs) "list" = some true := show kitB "list" "list" = _ by decide +kernel
theorem kit_lst_dict {xs : List D} : kitD (D.lst xs) "dict" = some false := show kitB "list" "dict" = _ by decide +kernel
theorem kit_dct_int {ks : List (Key × D)} : kitD (D.dct ks) "int" = some false := show kitB "dict" "int" = _ by decide +kernel
theorem kit_dct_bool {ks : List (Key × D)} : kitD (D.dct ks) "bool" = some false := show kitB "dict" "bool" = _ by decide +kernel
theorem kit_dct_str {ks : List (Key × D)} : kitD (D.dct ks) "str" = some false := show kitB "dict" "str" = _ by decide +kernel
theorem kit_dct_tuple {ks : List (Key × D)} : kitD (D.dct ks) "tuple" = some false := show kitB "dict" "tuple" = _ by decide +kernel
theorem kit_dct_list {ks : List (Key × D)} : kitD (D.dct ks) "list" = some false := show kitB "dict" "list" = _ by decide +kernel
theorem kit_dct_dict {ks : List (Key × D)} : kitD (D.dct ks) "dict" = some true := show kitB "dict" "dict" = _ by decide +kernel
def isTs (d : D) : List D → Option Bool
  | [] => some false
  | .opq (.ty n) :: r => (match kitD d n, isTs d r with | some a, some b => some (a || b) | _, _ => none)
  | _ => none
def isT (d : D) : D → Option Bool
  | .opq (.ty n) => kitD d n
  | .tup cs => (match d.tyN with | some _ => isTs d cs | none => none)
  | _ => none
theorem Rep.tyX {K : PySem.W.Frag} {H : Hp} {v : V} {d : D} {n : String} (r : Rep K H v d) (h : d.tyN = some n) : TyX K H v (.type n) := by
  cases r with
  | non => cases h; exact .base .non
  | bl b => cases h; exact .base (.bl b)
  | int i => cases h; exact .base (.int i)
  | str x => cases h; exact .base (.str x)
  | opq v => cases h
  | pt _ _ => cases h
  | ins _ _ _ => cases h
  | tup s l =>
    cases h
    rcases s with (e | ⟨o, e⟩) | ⟨o, its, m, e, c, _⟩
    · exact .base (.tup e)
    · exact .fTuple e
    · exact .kTuple e c
  | lst s l => cases h; exact .base (.lst s)
  | dct s l => cases h; exact .base (.dK s)
theorem isTs_ok {K : PySem.W.Frag} {H : Hp} {d : D} {m : String} (hd : d.tyN = some m) : ∀ {vs : List V} {cs : List D} {b : Bool}, RepL K H vs cs → isTs d cs = some b → ∃ us : List Value, Paired ClsV vs us ∧ PySem.W.kitAny K (.type m) us = some b
  | _, _, b, .nil, h => by
    cases h
    exact ⟨[], .nil, kitAny_nil⟩
  | _, _, b, .cons rc l, h => by
    unfold isTs at h
    split at h
    · rename_i e
      cases e
    · rename_i n r' e
      cases e
      cases rc
      split at h
      · rename_i a b' e1 e2
        cases h
        obtain ⟨us, hu, hk⟩ := isTs_ok hd l e2
        have k1 : PySem.W.kitOne K (.type m) (.type n) = some a := by
          unfold kitD at e1
          rw [hd] at e1
          exact kit_ty e1
        refine ⟨_, .cons (.ty n) hu, kitAny_cons k1 (fun z => ?_) fun z => ?_⟩
        · rw [z]
          exact hk
        · rw [z]
          rfl
      · cases h
    · cases h
def rbIsi : RB := fun ds E Q => match ds with
  | [d, c] => (match isT d c with | some b => Q (.bl b) E | none => False)
  | _ => False
section
variable {X : Cx} {a b e : Expr} {t : TAd} {te : TEd} {p p2 pos : Pos}
theorem d_ty {x : Str} {n : String} (hm : X.mg x = none) (hv : bootBuiltins x = some (.type n)) (hg : Gl X x := by rfl) (hn : x ≠ "__name__" := by decide) (hdb : (x == ("__debug__" : Str)) = false := by decide) : PEd X (.Name x pos) (tCD (.opq (.ty n))) :=
  d_const (pe_bltn (v := .ty n) hg hm hv (show Value.type n = Value.type n from rfl) hn hdb) fun _ => .opq _
theorem cr_isiT : CallR X (.builtin "isinstance") (fun xs H Q => ∃ (x : V) (tp : Addr) (cs : List V) (t : Value) (us : List Value) (b : Bool), xs = [x, .ref tp] ∧ SqT X.K H tp cs ∧ Paired ClsV cs us ∧ TyX X.K H x t ∧ PySem.W.kitAny X.K t us = some b ∧ Q (.bl b) H) := by
  intro pins s σ H xs us Q I r h
  obtain ⟨x, tp, cs, t, ws, b, rfl, hT, k, ty, e, q⟩ := h
  obtain ⟨u1, u2, rfl, r1, r2⟩ := vals2 r
  cases (show u2 = Value.ref tp from r2)
  obtain ⟨P, Z, p, hx⟩ := kit_of I r1 ty
  obtain ⟨its, rv, ⟨o, h1, h2, n, h3⟩, _⟩ := I.tuple hT
  have e3 := ClsV.all k rv
  subst e3
  obtain ⟨oc, od, dt, sl⟩ := o
  simp only at h2 h3
  subst h2 h3
  exact PySem.W.kia_tup Z I.kIn p h1 e hx fun tk => ⟨.bl b, H, I.tok tk, rfl, q⟩
theorem d_isi (hm : X.mg "isinstance" = none) (ha : PAd X [a, b] t) (hg : Gl X "isinstance" := by rfl) (he : starEach [a, b] X.env = (false, eval a X.env) :: starEach [b] X.env := by rfl) (hpl : (backTo pos (starEach [b] X.env)).any (·.1) = false := by rfl) : PEd X (.Call (.Name "isinstance" p) [a, b] [] pos) (tCBd rbIsi t) :=
  d_callB (CallR.or call_isi cr_isiT) (fun en Hf H F E σ vs ds Q Qd S rx q k => by
    unfold rbIsi at q
    split at q
    · rename_i d c
      obtain ⟨v, w, rfl, r1, r2⟩ := rx.two
      split at q
      · rename_i b e
        have fin := k _ _ _ _ _ _ (Same.refl _) S (.bl b) q
        unfold isT at e
        split at e
        · rename_i n
          cases r2
          unfold kitD at e
          cases e1 : d.tyN with
          | none =>
            rw [e1] at e
            cases e
          | some m =>
            rw [e1] at e
            exact .inl ⟨_, _, _, _, b, rfl, .ty n, (r1.mono S.sf).tyX e1, kit_ty e, fin⟩
        · rename_i cs
          split at e
          · rename_i m e1
            cases r2 with | tup h l =>
            obtain ⟨us, hu, hk⟩ := isTs_ok (K := X.K) e1 l e
            exact .inr ⟨_, _, _, _, us, b, rfl, Same.sqT S.sf h, hu, (r1.mono S.sf).tyX e1, hk, fin⟩
          · cases e
        · cases e
      · exact q.elim
    · exact q.elim) hm PyProof.Rows.boot_isinstance ha hg (by decide) (by decide) he hpl
/-! x[::-1], x a list -/
def tRevD (te : TEd) : TEd := fun E Q => te E fun x E1 => match x with
  | .lst xs => Q (.lst xs.reverse) E1
  | _ => False
theorem RepL.snoc {K : PySem.W.Frag} {H : Hp} {vs : List V} {ds : List D} {v : V} {d : D} (r : RepL K H vs ds) (h : Rep K H v d) : RepL K H (vs ++ [v]) (ds ++ [d]) := r.append (.cons h .nil)
theorem RepL.rev {K : PySem.W.Frag} {H : Hp} : ∀ {vs : List V} {ds : List D}, RepL K H vs ds → RepL K H vs.reverse ds.reverse
  | _, _, .nil => .nil
  | _, _, .cons a l => by
    rw [List.reverse_cons, List.reverse_cons]
    exact l.rev.snoc a
theorem d_rev {k : Nat} {p1 p2 p3 : Pos} (he : PEd X e te) : PEd X (.Subscript e (.Slice none none (some (.UnaryOp .USub (.Constant (.int 1) k p1) p2)) p3) pos) (tRevD te) :=
  pe_imp (pe_revL he) fun σ H Q ⟨en, Hf, F, E, Qd, S, h, k⟩ => ⟨en, Hf, F, E, _, S, h, fun v1 H1 Hf1 F1 E1 x s1 S1 r1 h1 => by
    split at h1
    · cases r1 with | lst h l =>
      refine ⟨_, _, rfl, .inl (.inl (S1.sf _ _ h)), fun p np => ?_⟩
      have kk : Fin X.K en σ Hf1 Qd Q := fun v H' Hf' F' E' d s4 S4 r4 h4 => k v H' Hf' F' E' d (s1.trans s4) S4 r4 h4
      exact kk.new S1 np (fun _ s2 e => .lst e (l.rev.mono s2)) h1
    · exact h1.elim⟩
/-! list(range(n)) -/
def tLRgD (te : TEd) : TEd := fun E Q => te E fun x E1 => match x with
  | .int n => (-(2 ^ 62) ≤ n ∧ n ≤ 16777216) ∧ Q (.lst (rngD 0 n.toNat)) E1
  | _ => False
theorem rep_rg {K : PySem.W.Frag} {H : Hp} (f : Nat → Int) : ∀ l : List Nat, RepL K H (l.map fun i => V.int (f i)) (l.map fun i => D.int (f i))
  | [] => .nil
  | x :: r => .cons (.int _) (rep_rg f r)
theorem d_listRg {p' pos' : Pos} (hc : X.calm = true) (hm : X.mg "list" = none) (hmr : X.mg "range" = none) (he : PEd X e te) (hg : Gl X "list" := by rfl) (hgr : Gl X "range" := by rfl) (na : starEach [.Call (.Name "range" p') [e] [] pos'] X.env = (false, eval (.Call (.Name "range" p') [e] [] pos') X.env) :: starEach [] X.env := by rfl) (nb : starEach [e] X.env = (false, eval e X.env) :: starEach [] X.env := by rfl) :
    PEd X (.Call (.Name "list" p) [.Call (.Name "range" p') [e] [] pos'] [] pos) (tLRgD te) :=
  pe_imp (pe_listRg hc hg hm (prg_1 hgr hmr he nb) na) fun σ H Q ⟨en, Hf, F, E, Qd, S, h, k⟩ => ⟨en, Hf, F, E, _, S, h, fun v1 H1 Hf1 F1 E1 x s1 S1 r1 h1 => by
    split at h1
    · cases r1
      rename_i n
      refine ⟨n, rfl, ⟨by decide, by decide, h1.1.1, by omega, by omega⟩, fun p np => ?_⟩
      have kk : Fin X.K en σ Hf1 Qd Q := fun v H' Hf' F' E' d s4 S4 r4 h4 => k v H' Hf' F' E' d (s1.trans s4) S4 r4 h4
      refine kk.new S1 np (fun _ s2 e => .lst e ?_) h1.2
      unfold rgV rngD
      rw [Int.sub_zero]
      exact rep_rg (fun i => 0 + (i : Int)) _
    · exact h1.elim⟩
end
theorem ShL.ints {b : Nat} (h0 : 0 < b) (h1 : b ≤ 1920) : ∀ ns : List Int, (∀ n ∈ ns, n.natAbs < 2 ^ b) → ShL 0 (ns.length * (b + 3)) (ns.map D.int)
  | [], _ => by
    have := ShL.nil (k := 0)
    simpa using this
  | n :: r, h => by
    have e := ShL.cons (Sh.int h0 h1 (h n List.mem_cons_self)) (ShL.ints h0 h1 r fun m hm => h m (List.mem_cons_of_mem _ hm))
    have e2 : b + 1 + r.length * (b + 3) + 2 = (n :: r).length * (b + 3) := by
      rw [List.length_cons, Nat.add_mul]
      omega
    rw [e2] at e
    exact e
end L3
namespace L3
open PySem L2
variable [Tbs]
/-! ### comprehensions that change nothing else -/
theorem lcD_map {xs : List D} (ys : List D) {j : Nat} {te : TEd} {vs : List Nat} {E : En} (E0 : En) {Q : List D → En → Prop} (hw : wipeD E vs = E0) (hw2 : wipeD E0 vs = E0) (hl : ys.length = xs.length) (hs : xs.length ≤ sizeLine) (hc : canSet E0 j)
    (step : ∀ (i : Nat) (x y : D), xs[i]? = some x → ys[i]? = some y → ∀ R : D → En → Prop, (∀ E4, wipeD E4 vs = E0 → R y E4) → te (E0.set j (.fz x)) R)
    (q : Q ys E0) : lcD xs (gNameD j) tYesD te vs E Q := by
  refine ⟨fun i acc E1 => i ≤ xs.length ∧ acc = ys.take i ∧ E1 = E0, ⟨Nat.zero_le _, rfl, hw⟩, ?_, ?_⟩
  · rintro i x acc E1 hi ⟨h1, rfl, h2⟩
    subst h2
    have hlt : i < xs.length := (List.getElem?_eq_some_iff.mp hi).1
    obtain ⟨y, hy⟩ := getE (xs := ys) (i := i) (by omega)
    rw [hw2]
    refine ⟨hc, ?_⟩
    unfold tYesD
    simp only [if_true]
    refine step i x y hi hy _ fun E4 h4 => ⟨?_, by omega, ?_, h4⟩
    · rw [List.length_take]
      omega
    · rw [List.take_succ, hy]
      rfl
  · rintro acc E1 ⟨_, rfl, rfl⟩
    rw [List.take_of_length_le (by omega)]
    exact q
theorem lcD_ints {ns : List Int} (f : Int → Int) {j : Nat} {te : TEd} {vs : List Nat} {E : En} (E0 : En) {Q : List D → En → Prop} (hw : wipeD E vs = E0) (hw2 : wipeD E0 vs = E0) (hs : ns.length ≤ sizeLine) (hc : canSet E0 j)
    (step : ∀ v ∈ ns, ∀ R : D → En → Prop, (∀ E4, wipeD E4 vs = E0 → R (.int (f v)) E4) → te (E0.set j (.fz (.int v))) R)
    (q : Q ((ns.map f).map D.int) E0) : lcD (ns.map D.int) (gNameD j) tYesD te vs E Q := by
  refine lcD_map ((ns.map f).map D.int) E0 hw hw2 (by simp) (by simpa using hs) hc (fun i x y hx hy R hR => ?_) q
  rw [List.getElem?_map] at hx
  rw [List.getElem?_map, List.getElem?_map] at hy
  cases e : ns[i]? with
  | none =>
    rw [e] at hx
    cases hx
  | some v =>
    rw [e] at hx hy
    cases hx
    cases hy
    exact step v (List.mem_of_getElem? e) R hR
theorem cutL_mem {α : Type} {xs : List α} {lo hi : Option Int} {x : α} (h : x ∈ cutL xs lo hi) : x ∈ xs := List.mem_of_mem_drop (List.mem_of_mem_take h)
theorem cutL_len {α : Type} (xs : List α) (lo hi : Option Int) : (cutL xs lo hi).length ≤ xs.length := by
  unfold cutL
  rw [List.length_take, List.length_drop]
  omega
theorem rngD_ints (lo : Int) (n : Nat) : rngD lo n = ((List.range n).map fun i : Nat => lo + (i : Int)).map D.int := by
  unfold rngD
  rw [List.map_map]
  rfl
end L3
namespace L3
open PySem L2
variable [Tbs]
theorem _root_.L2.Room.units1 {k : Nat} {A : Around} (r : L2.Room k A) : A.units + 1 < cLine := by have := r.un; omega
/-! ### dicts with keys that are ints and texts -/
def D.key : D → Option Key
  | .int i => some (.inl i)
  | .str x => some (.inr x)
  | _ => none
def hasK (ks : List (Key × D)) (k : Key) : Bool := ks.any fun kv => decide (kv.1 = k)
def putD (ks : List (Key × D)) (k : Key) (d : D) : List (Key × D) := if hasK ks k = true then ks.map (fun kv => if kv.1 = k then (kv.1, d) else kv) else ks ++ [(k, d)]
section
variable {K : PySem.W.Frag} {en : Et} {Hf H : Hp} {F : Nat → List Addr} {E : En} {σ : St}
theorem Rep.key {v : V} {d : D} {k : Key} (r : Rep K H v d) (h : d.key = some k) : v = kV k := by
  cases r <;> cases h <;> rfl
theorem RepK.has : ∀ {vs : List (Key × V)} {ds : List (Key × D)}, RepK K H vs ds → ∀ k : Key, (vs.any fun kv => decide (kv.1 = k)) = hasK ds k
  | _, _, .nil, _ => rfl
  | _, _, .cons (k := k0) a t, k => by
    unfold hasK
    rw [List.any_cons, List.any_cons]
    exact congrArg _ (t.has k)
theorem valV_some : ∀ (vs : List (Key × V)) (k : Key), (valV vs k).isSome = vs.any fun kv => decide (kv.1 = k)
  | [], _ => rfl
  | p :: r, k => by
    by_cases e : p.1 = k
    · rw [valV_pos e, List.any_cons, decide_eq_true e]
      rfl
    · rw [valV_neg e, List.any_cons, decide_eq_false e, valV_some r k]
      rfl
theorem RepK.repl {v : V} {d : D} {k : Key} (r : Rep K H v d) : ∀ {vs : List (Key × V)} {ds : List (Key × D)}, RepK K H vs ds → RepK K H (vs.map fun kv => if kv.1 = k then (kv.1, v) else kv) (ds.map fun kv => if kv.1 = k then (kv.1, d) else kv)
  | _, _, .nil => .nil
  | _, _, .cons (k := k0) a t => by
    rw [List.map_cons, List.map_cons]
    by_cases e : k0 = k
    · rw [if_pos e, if_pos e]
      exact .cons r (t.repl r)
    · rw [if_neg e, if_neg e]
      exact .cons a (t.repl r)
theorem RepK.snoc {v : V} {d : D} {k : Key} (r : Rep K H v d) : ∀ {vs : List (Key × V)} {ds : List (Key × D)}, RepK K H vs ds → RepK K H (vs ++ [(k, v)]) (ds ++ [(k, d)])
  | _, _, .nil => .cons r .nil
  | _, _, .cons a t => .cons a (t.snoc r)
theorem RepK.put {vs : List (Key × V)} {ds : List (Key × D)} {v : V} {d : D} {k : Key} (t : RepK K H vs ds) (r : Rep K H v d) : RepK K H (putK vs k v) (putD ds k d) := by
  unfold putK putD
  rw [t.has k]
  split
  · exact t.repl r
  · exact t.snoc r
theorem Sat.freezeD (S : Sat K en Hf H F E σ) {i : Nat} {xs : List (Key × D)} (e : E[i]? = some (.ow false (.od xs))) :
    ∃ v Hf', σ[i]? = some (some v) ∧ Same Hf Hf' ∧ Rep K Hf' v (.dct xs) ∧ Sat K en Hf' H (setF F i []) (E.set i (.fz (.dct xs))) σ := by
  obtain ⟨v, hv, ⟨p, vs, rfl, hF, hp, r⟩, _, hnew⟩ := S.own e
  have hi : i < E.length := (List.getElem?_eq_some_iff.mp e).1
  have hmem : p ∈ F i := by rw [hF]; simp
  obtain ⟨n1, n2, n3, n4⟩ := S.fp i p hmem
  have s1 : Same Hf (upd Hf p (.dK vs)) := same_upd n1
  have nj : ∀ j b, j ≠ i → b ∈ F j → b ≠ p := fun j b hj hb z => hj (S.dj j i b hb (by rw [z]; exact hmem))
  refine ⟨.ref p, upd Hf p (.dK vs), hv, s1, .dct upd_same (r.mono s1), ?_⟩
  refine { sf := fun b u z => ?_, so := S.so, dom := S.dom, sp := S.sp, pf := fun b u z => (by rw [upd_ne (fun q => by rw [q, n4] at z; cases z)]; exact S.pf b u z), gf := S.gf.trans s1, gn := fun b u z => ?_, dj := fun j k b h1 h2 => ?_, fp := fun j b h1 => ?_, len := by rw [List.length_set, S.len], sl := fun j s a => ?_ }
  · by_cases q : b = p
    · subst q
      rw [upd_same] at z
      cases z
      exact hp
    · rw [upd_ne q] at z
      exact S.sf _ _ z
  · by_cases q : b = p
    · subst q
      exact .inr (hnew rfl b hmem)
    · rw [upd_ne q] at z
      exact S.gn _ _ z
  · by_cases q1 : j = i
    · subst q1
      rw [setF_same] at h1
      cases h1
    · by_cases q2 : k = i
      · subst q2
        rw [setF_same] at h2
        cases h2
      · rw [setF_ne q1] at h1
        rw [setF_ne q2] at h2
        exact S.dj j k b h1 h2
  · by_cases q1 : j = i
    · subst q1
      rw [setF_same] at h1
      cases h1
    · rw [setF_ne q1] at h1
      obtain ⟨a1, a2, a3⟩ := S.fp j b h1
      exact ⟨by rw [upd_ne (nj j b q1 h1)]; exact a1, a2, a3⟩
  · by_cases q1 : j = i
    · subst q1
      rw [List.getElem?_set_self hi] at a
      cases a
      exact ⟨_, hv, .dct upd_same (r.mono s1)⟩
    · rw [List.getElem?_set_ne (Ne.symm q1)] at a
      have q := S.sl j s a
      cases s with
      | un => trivial
      | fz d =>
        obtain ⟨w, e, z⟩ := q
        exact ⟨w, e, z.mono s1⟩
      | xc a c d fs => exact ⟨q.1, q.2.mono s1⟩
      | cl v vs ds cc oo => exact ⟨q.1, q.2.mono s1⟩
      | ow c oc =>
        obtain ⟨w, e, z, y⟩ := q
        refine ⟨w, e, ?_⟩
        rw [setF_ne q1]
        exact ⟨z.mono s1 fun _ _ _ hu => hu, y⟩
theorem Sat.chD (S : Sat K en Hf H F E σ) {i : Nat} {b : Bool} {xs : List (Key × D)} (e : E[i]? = some (.ow b (.od xs))) :
    ∃ p vs, σ[i]? = some (some (.ref p)) ∧ H p = some (.dK vs) ∧ RepK K Hf vs xs ∧ ∀ vs' xs', RepK K Hf vs' xs' → Sat K en Hf (upd H p (.dK vs')) F (E.set i (.ow b (.od xs'))) σ := by
  obtain ⟨v, hv, ⟨p, vs, rfl, hF, hp, r⟩, _⟩ := S.own e
  have hm : p ∈ F i := by rw [hF]; simp
  obtain ⟨n1, _, _⟩ := S.fp i p hm
  refine ⟨p, vs, hv, hp, r, fun vs' xs' r' => S.change e hv (Same.refl _) (fun b u z => ?_) (fun q u nq z => ?_) (fun q u z => ?_) (fun _ _ z => .inl z) ⟨p, vs', rfl, hF, upd_same, r'⟩⟩
  · have nb : b ≠ p := fun q => by
      rw [q, n1] at z
      cases z
    rw [upd_ne nb]
    exact S.sf _ _ z
  · have nb : q ≠ p := fun y => nq (by rw [y]; exact hm)
    rw [upd_ne nb]
    exact z
  · by_cases y : q = p
    · subst y
      exact ⟨_, upd_same⟩
    · rw [upd_ne y]
      exact ⟨_, z⟩
end
section
variable {X : Cx} {a b e v : Expr} {te tv ta tb : TEd} {t : TAd} {p pos : Pos}
/-- in, not in: lists, tuples, dicts -/
theorem op_inK (hu : X.A.units + 1 < cLine) : OpR X (compareOp .In) (fun y x H Q => ∃ a o, x = .ref a ∧ DGet H a y o ∧ Q (.bl o.isSome) H) := fun pins s σ H y x v u Q I ry rx ⟨a, o, ex, g, q⟩ => by
  subst ex
  obtain rfl : u = Value.ref a := rx
  exact L2.d_in hu I g ry fun s3 I3 => ⟨.bl o.isSome, H, I3, rfl, q⟩
theorem op_notinK (hu : X.A.units + 1 < cLine) : OpR X (compareOp .NotIn) (fun y x H Q => ∃ a o, x = .ref a ∧ DGet H a y o ∧ Q (.bl (!o.isSome)) H) := fun pins s σ H y x v u Q I ry rx ⟨a, o, ex, g, q⟩ => by
  subst ex
  obtain rfl : u = Value.ref a := rx
  exact L2.d_notIn hu I g ry fun s3 I3 => ⟨.bl (!o.isSome), H, I3, rfl, q⟩
/-- a dict behind a name: our own one or data -/
def tInO (neg : Bool) (te : TEd) (j : Nat) : TEd := fun E Q => te E fun x E1 => match E1[j]?, x.key with
  | some (.ow _ (.od ks)), some k => Q (.bl (if neg then !hasK ks k else hasK ks k)) E1
  | some (.fz (.dct ks)), some k => Q (.bl (if neg then !hasK ks k else hasK ks k)) E1
  | _, _ => False
theorem slot_dict {en : Et} {Hf H : Hp} {F : Nat → List Addr} {E : En} {σ : St} {j : Nat} {ks : List (Key × D)} (S : Sat X.K en Hf H F E σ) (h : (∃ b, E[j]? = some (.ow b (.od ks))) ∨ E[j]? = some (.fz (.dct ks))) : ∃ p vs, σ[j]? = some (some (.ref p)) ∧ H p = some (.dK vs) ∧ RepK X.K Hf vs ks := by
  rcases h with ⟨b, h⟩ | h
  · obtain ⟨p, vs, h1, h2, h3, _⟩ := S.chD h
    exact ⟨p, vs, h1, h2, h3⟩
  · obtain ⟨v, hv, r⟩ := S.get h
    cases r with | dct h l =>
    exact ⟨_, _, hv, S.sf _ _ h, l⟩
theorem lift_inO {K : PySem.W.Frag} {N : List Str} {te : TEd} (j : Nat) : ∀ σ H Q, liftE K (tInO false te j) σ H Q → tDIn (liftE K te) (tVar j) σ H Q := fun σ H Q ⟨en, Hf, F, E, Qd, S, h, k⟩ => ⟨en, Hf, F, E, _, S, h, fun v1 H1 Hf1 F1 E1 x s1 S1 r1 h1 => by
    split at h1
    · rename_i b ks kk e1 e2
      obtain ⟨p, vs, hv, hp, rk, _⟩ := S1.chD e1
      have ek := r1.key e2
      subst ek
      refine ⟨_, hv, p, _, rfl, .k hp, ?_⟩
      rw [valV_some, rk.has]
      exact k _ _ _ _ _ _ s1 S1 (.bl _) h1
    · rename_i ks kk e1 e2
      obtain ⟨v, hv, r⟩ := S1.get e1
      cases r with | dct h l =>
      have ek := r1.key e2
      subst ek
      refine ⟨_, hv, _, _, rfl, .k (S1.sf _ _ h), ?_⟩
      rw [valV_some, l.has]
      exact k _ _ _ _ _ _ s1 S1 (.bl _) h1
    · exact h1.elim⟩
theorem d_inO (j : Nat) {y : Str} {py : Pos} (hu : X.A.units + 1 < cLine) (ha : PEd X a te) (hN : X.N[j]? = some y := by rfl) (hv : Vis X.env.scope y := by first | exact Or.inl rfl | exact Or.inr (Or.inl rfl) | exact Or.inr (Or.inr rfl)) (hd : (y == ("__debug__" : Str)) = false := by decide) (hcd : (y == ("__classdict__" : Str)) = false := by decide) :
    PEd X (.Compare a [.In] [.Name y py] pos) (tInO false te j) := pe_imp (pe_cmp (pc_din hu ha (pv j hN hv hd hcd)) rfl) (lift_inO (N := X.N) j)
theorem t_inO (j : Nat) {y : Str} {py : Pos} (hu : X.A.units + 1 < cLine) (ha : PEd X a te) (hN : X.N[j]? = some y := by rfl) (hv : Vis X.env.scope y := by first | exact Or.inl rfl | exact Or.inr (Or.inl rfl) | exact Or.inr (Or.inr rfl)) (hd : (y == ("__debug__" : Str)) = false := by decide) (hcd : (y == ("__classdict__" : Str)) = false := by decide) :
    PTd X (.Compare a [.In] [.Name y py] pos) (tTestD (tInO false te j)) :=
  pt_imp (pt_cmp (pc_din hu ha (pv j hN hv hd hcd)) rfl) fun σ H Q ⟨en, Hf, F, E, Qd, S, h, k⟩ =>
    lift_inO (N := X.N) j σ H _ ⟨en, Hf, F, E, _, S, h, fun v H' Hf' F' E' d s1 S1 r1 h1 => by
      split at h1
      · cases r1
        exact ⟨_, rfl, k _ _ _ _ _ s1 S1 h1⟩
      · exact h1.elim⟩
/-- in a dict that is data -/
def rdInK (neg : Bool) : RD := fun x y E Q => match y, x.key with
  | .dct ks, some k => Q (.bl (if neg then !hasK ks k else hasK ks k)) E
  | _, _ => False
theorem ok_inK {K : PySem.W.Frag} : OpOk K (fun y x H Q => ∃ a o, x = .ref a ∧ DGet H a y o ∧ Q (.bl o.isSome) H) (rdInK false) :=
  fun en Hf H F E σ vx vy x y Q Qd S rx ry q k => by
    unfold rdInK at q
    split at q
    · rename_i ks kk e2
      cases ry with | dct h l =>
      have ek := rx.key e2
      subst ek
      refine ⟨_, _, rfl, .k (S.sf _ _ h), ?_⟩
      rw [valV_some, l.has]
      exact k _ _ _ _ _ _ (Same.refl _) S (.bl _) q
    · exact q.elim
theorem d_inK (hu : X.A.units + 1 < cLine) (ha : PEd X a ta) (hb : PEd X b tb) (hm : behindInMarks .In b = false := by rfl) : PEd X (.Compare a [.In] [b] pos) (tOpD (rdInK false) ta tb) := d_cmp (op_inK hu) ok_inK ha hb hm
theorem t_inK (hu : X.A.units + 1 < cLine) (ha : PEd X a ta) (hb : PEd X b tb) (hm : behindInMarks .In b = false := by rfl) : PTd X (.Compare a [.In] [b] pos) (tTestD (tOpD (rdInK false) ta tb)) := t_cmp (op_inK hu) ok_inK ha hb hm
/-- our own dict, from now on data -/
def tVarO (i : Nat) : TEd := fun E Q => match E[i]? with
  | some (.ow false (.od ks)) => Q (.dct ks) (E.set i (.fz (.dct ks)))
  | _ => False
theorem dvO (i : Nat) {x : Str} {pos : Pos} (hN : X.N[i]? = some x := by rfl) (hv : Vis X.env.scope x := by first | exact Or.inl rfl | exact Or.inr (Or.inl rfl) | exact Or.inr (Or.inr rfl)) (hd : (x == ("__debug__" : Str)) = false := by decide)
    (hcd : (x == ("__classdict__" : Str)) = false := by decide) : PEd X (.Name x pos) (tVarO i) :=
  pe_imp (pv i hN hv hd hcd) fun σ H Q ⟨en, Hf, F, E, Qd, S, h, k⟩ => by
    unfold tVarO at h
    split at h
    · rename_i xs e
      obtain ⟨v, Hf', hv, s1, r, S'⟩ := S.freezeD e
      exact ⟨v, hv, k v H Hf' _ _ _ s1 S' r h⟩
    · exact h.elim
/-- x = {y: c}, a dict that will be changed -/
def tDctV (i j : Nat) (c : D) : TSd := fun A E => match E[j]? with
  | some (.fz d) => (match d.key with | some k => canSet E i ∧ A.nx (E.set i (.ow false (.od [(k, c)]))) | none => False)
  | _ => False
theorem s_newDV {i j : Nat} {x y : Str} {pos' py pd : Pos} {c : Expr} {cv : V} {cd : D} (hN : X.N.Nodup) (hc : PE X c (tC cv)) (rc : ∀ Hf, Rep X.K Hf cv cd) (hj : X.N[j]? = some y := by rfl) (hi : X.N[i]? = some x := by rfl) (hx : Loc X.env.scope x := by first | exact .inl rfl | exact .inr rfl)
    (hs : swapsWith (.Dict [some (.Name y py)] [c] pd) (some (.Name x pos')) pos.line X.env = pure false := by rfl) (hf : X.fn x = true ∨ X.env.scope.names.lookup x = some .local := by first | exact .inl rfl | exact .inr rfl | assumption) (hv : Vis X.env.scope y := by first | exact Or.inl rfl | exact Or.inr (Or.inl rfl) | exact Or.inr (Or.inr rfl)) (hd : (y == ("__debug__" : Str)) = false := by decide)
    (hcd : (y == ("__classdict__" : Str)) = false := by decide) :
    PSd X (.Assign [.Name x pos'] (.Dict [some (.Name y py)] [c] pd) pos) (tDctV i j cd) :=
  ps_imp (ps_set hN hi hx (pe_disp (pps_cons (pv j hj hv hd hcd) hc pps_nil) rfl rfl (by simp) (show 1 ≤ 15 by decide)) hs hf) fun D σ H ⟨en, Hf, F, E, Dd, S, h, k1, k2, k3, k4, k5⟩ => by
    unfold tDctV at h
    split at h
    · rename_i d ed
      split at h
      · rename_i kk ek
        obtain ⟨w, hw, rw_⟩ := S.get ed
        have e2 := rw_.key ek
        subst e2
        intro p np
        refine ⟨_, hw, ⟨upd_same, [(kk, cv)], rfl, (show 1 ≤ 15 by decide), ?_⟩⟩
        rw [upd_upd]
        exact k1 _ _ _ _ _ (Same.refl _) (S.setNew (o := .od [(kk, cd)]) h.1 np ⟨p, [(kk, cv)], rfl, rfl, upd_same, .cons (rc _) .nil⟩) h.2
      · exact h.elim
    · exact h.elim
/-- x[k] = v, x our own dict -/
def tPutO (j : Nat) (te ti : TEd) : TSd := fun A E => te E fun y E1 => (match E1[j]? with | some (.ow _ (.od _)) => True | _ => False) ∧ ti E1 fun z E2 => match E2[j]?, z.key with
  | some (.ow b (.od ks)), some k => ks.length < sizeLine ∧ A.nx (E2.set j (.ow b (.od (putD ks k y))))
  | _, _ => False
theorem s_putO (j : Nat) {x : Str} {i : Expr} {ti : TEd} {p tpos : Pos} (hu : X.A.units + 1 < cLine) (he : PEd X e te) (hi : PEd X i ti) (hN : X.N[j]? = some x := by rfl) (hv : Vis X.env.scope x := by first | exact Or.inl rfl | exact Or.inr (Or.inl rfl) | exact Or.inr (Or.inr rfl))
    (hd : (x == ("__debug__" : Str)) = false := by decide) (hcd : (x == ("__classdict__" : Str)) = false := by decide) (hs : swapsWith e (some (.Subscript (.Name x p) i tpos)) pos.line X.env = pure false := by rfl) :
    PSd X (.Assign [.Subscript (.Name x p) i tpos] e pos) (tPutO j te ti) :=
  ps_imp (ps_dput hu (pv j hN hv hd hcd) hi he hs) fun D σ H ⟨en, Hf, F, E, Dd, S, h, k1, k2, k3, k4, k5⟩ =>
    ⟨en, Hf, F, E, _, S, h, fun v1 H1 Hf1 F1 E1 y s1 S1 r1 h1 => by
      have h11 := h1.1
      split at h11
      · rename_i b0 ks0 e0
        obtain ⟨p0, vs0, hv0, hp0, _⟩ := S1.chD e0
        refine ⟨_, hv0, en, Hf1, F1, E1, _, S1, h1.2, fun v2 H2 Hf2 F2 E2 z s2 S2 r2 h2 => ?_⟩
        split at h2
        · rename_i b1 ks1 kk e1 ek
          obtain ⟨p1, vs1, hv1, hp1, l1, ch⟩ := S2.chD e1
          rw [hv0] at hv1
          cases hv1
          have e2 := r2.key ek
          subst e2
          exact ⟨_, _, rfl, .k hp1 (by rw [l1.length]; exact h2.1), k1 _ _ _ _ _ (s1.trans s2) (ch _ _ (l1.put (r1.mono s2))) h2.2⟩
        · exact h2.elim
      · exact h11.elim⟩
/-- sorted(d), the keys of d ints -/
def rbSortK : RB := fun ds E Q => match ds with
  | [.dct ks] => ∃ ns : List Int, ks.map (·.1) = ns.map Sum.inl ∧ ns.length < 64 ∧ ∀ ys : List Int, ys.Perm ns → ys.Pairwise (· ≤ ·) → Q (.lst (ys.map D.int)) E
  | _ => False
theorem RepK.keys {K : PySem.W.Frag} {H : Hp} : ∀ {vs : List (Key × V)} {ds : List (Key × D)}, RepK K H vs ds → vs.map (·.1) = ds.map (·.1)
  | _, _, .nil => rfl
  | _, _, .cons a t => by rw [List.map_cons, List.map_cons, t.keys]
theorem d_sortK (hc : X.calm = true) (hm : X.mg "sorted" = none) (ha : PAd X [a] t) (hg : Gl X "sorted" := by rfl) (he : starEach [a] X.env = (false, eval a X.env) :: starEach [] X.env := by rfl) : PEd X (.Call (.Name "sorted" p) [a] [] pos) (tCBd rbSortK t) :=
  d_callB (call_sortedDI hc) (fun en Hf H F E σ vs ds Q Qd S rx q k => by
    unfold rbSortK at q
    split at q
    · obtain ⟨v, rfl, r⟩ := rx.one
      cases r with | dct h l =>
      obtain ⟨ns, h1, h2, q⟩ := q
      exact ⟨_, _, ns, rfl, .inl (S.sf _ _ h), by rw [l.keys]; exact h1, h2, fun ys p y1 y2 np => k.new S np (fun _ s2 e => .lst e (RepL.ints ys)) (q ys y1 y2)⟩
    · exact q.elim) hm PyProof.Rows.boot_sorted ha hg (by decide) (by decide) he
end
end L3
namespace L3
open PySem L2
variable [Tbs]
/-! ### sorted(set(xs)), xs a list of tuples of ints -/
def tI (k : List Int) : D := .tup (k.map D.int)
theorem RepL.tups {K : PySem.W.Frag} {H : Hp} : ∀ {ks : List (List Int)} {vs : List V}, RepL K H vs (ks.map tI) → ∃ L : List (Addr × List Int), vs = L.map (fun p => V.ref p.1) ∧ L.map (·.2) = ks ∧ ∀ p ∈ L, SqT K H p.1 (p.2.map V.int)
  | [], _, .nil => ⟨[], rfl, rfl, fun _ h => nomatch h⟩
  | k :: ks, _, .cons r l => by
    obtain ⟨L, h1, h2, h3⟩ := l.tups
    unfold tI at r
    cases r with | tup h l' =>
    rename_i a vs
    rw [l'.ofInts] at h
    refine ⟨(a, k) :: L, by rw [h1]; rfl, by rw [List.map_cons, h2], fun p hp => ?_⟩
    rcases List.mem_cons.mp hp with rfl | hp
    · exact h
    · exact h3 p hp
theorem RepL.ofTups {K : PySem.W.Frag} {H : Hp} : ∀ {L : List (Addr × List Int)}, (∀ p ∈ L, SqT K H p.1 (p.2.map V.int)) → RepL K H (L.map fun p => V.ref p.1) ((L.map (·.2)).map tI)
  | [], _ => .nil
  | p :: L, h => .cons (.tup (h p List.mem_cons_self) (RepL.ints _)) (RepL.ofTups fun q hq => h q (List.mem_cons_of_mem _ hq))
def tSortSet (te : TEd) : TEd := fun E Q => te E fun x E1 => match x with
  | .lst xs => ∃ (ks : List (List Int)) (d : Nat) (B : Int), xs = ks.map tI ∧ ks.length < 64 ∧ 1 ≤ d ∧ (∀ k ∈ ks, k.length = d ∧ TS.Bd B k) ∧ ∀ ks' : List (List Int), (∀ k, k ∈ ks' ↔ k ∈ ks) → ks'.Nodup → ks'.length < 64 → ks'.Pairwise (fun q r => TS.code B q ≤ TS.code B r) → Q (.lst (ks'.map tI)) E1
  | .tup xs => False
  | _ => False
section
variable {X : Cx} {e : Expr} {te : TEd} {p p' pos pos' : Pos}
theorem d_sortSet (hc : X.calm = true) (hu : X.A.units + 64 < cLine) (hm : X.mg "sorted" = none) (hm2 : X.mg "set" = none) (he : PEd X e te) (hg : Gl X "sorted" := by rfl) (hg2 : Gl X "set" := by rfl)
    (na : starEach [.Call (.Name "set" p') [e] [] pos'] X.env = (false, eval (.Call (.Name "set" p') [e] [] pos') X.env) :: starEach [] X.env := by rfl) (nb : starEach [e] X.env = (false, eval e X.env) :: starEach [] X.env := by rfl) :
    PEd X (.Call (.Name "sorted" p) [.Call (.Name "set" p') [e] [] pos'] [] pos) (tSortSet te) :=
  pe_imp (pe_callB (cr_sortedT hc) hg hm PyProof.Rows.boot_sorted (pa_cons (pe_callTy (cr_setOfT hc hu) hg2 hm2 PyProof.Rows.boot_set (pa_cons he pa_nil nb) (by decide) (by decide) nb) pa_nil na) (by decide) (by decide) na) fun σ H Q ⟨en, Hf, F, E, Qd, S, h, k⟩ =>
    ⟨en, Hf, F, E, _, S, h, fun v1 H1 Hf1 F1 E1 x s1 S1 r1 h1 => by
      split at h1
      · cases r1 with | lst hl l =>
        obtain ⟨ks, d, B, rfl, hlen, hd, hB, q⟩ := h1
        obtain ⟨L, rfl, rfl, hL⟩ := l.tups
        refine ⟨_, L, rfl, .inl (.inl (S1.sf _ _ hl)), fun p hp => Same.sqT S1.sf (hL p hp), by simpa using hlen, fun a L2 na hsub hall => ?_⟩
        have s2 : Same H1 (upd H1 a (SetTO X.prog X.w a L2)) := same_upd na
        refine ⟨a, L2, d, B, rfl, upd_same, fun p hp => Same.sqT (S1.sf.trans s2) (hL p (hsub p hp)), hd, fun p hp => hB p.2 (List.mem_map_of_mem (hsub p hp)), fun L3 b pm nd few pw nb => ?_⟩
        have S2 := S1.new (SetTO X.prog X.w a L2) na
        have kk : Fin X.K en σ (upd Hf1 a (SetTO X.prog X.w a L2)) Qd Q := fun v H' Hf' F' E' d s4 S4 r4 h4 => k v H' Hf' F' E' d ((s1.trans (same_upd (o := SetTO X.prog X.w a L2) (S1.sf.free na))).trans s4) S4 r4 h4
        refine kk.new S2 nb (fun Hf' s3 e => .lst e (RepL.ofTups fun p hp => Same.sqT ((same_upd (S1.sf.free na)).trans s3) (hL p (hsub p (pm.mem_iff.mp hp))))) (q _ (fun k => ?_) nd (by simpa using few) (List.pairwise_map.mpr pw))
        constructor
        · intro hk
          obtain ⟨p, hp, rfl⟩ := List.mem_map.mp hk
          exact List.mem_map_of_mem (hsub p (pm.mem_iff.mp hp))
        · intro hk
          obtain ⟨p, hp, rfl⟩ := List.mem_map.mp hk
          obtain ⟨p2, hp2, e2⟩ := List.mem_map.mp (hall p hp)
          exact List.mem_map.mpr ⟨p2, pm.mem_iff.mpr hp2, e2⟩
      · exact h1.elim
      · exact h1.elim⟩
end
end L3
namespace L3
open PySem L2
variable [Tbs]
/-! ### comprehensions with a test that change nothing else -/
theorem lcD_flt {α : Type} (as : List α) (dd : α → D) (p : α → Bool) (f : α → D) {g : TGd} {tt : TTd} {te : TEd} {vs : List Nat} {E : En} (E0 : En) {Q : List D → En → Prop} (hw : wipeD E vs = E0) (hw2 : wipeD E0 vs = E0) (hs : as.length ≤ sizeLine)
    (step : ∀ a ∈ as, ∀ (R : D → En → Prop) (R' : En → Prop), (p a = true → ∀ E4, wipeD E4 vs = E0 → R (f a) E4) → (p a = false → ∀ E4, wipeD E4 vs = E0 → R' E4) → g (dd a) E0 fun E2 => tt E2 fun b E3 => if b = true then te E3 R else R' E3)
    (q : Q ((as.filter p).map f) E0) : lcD (as.map dd) g tt te vs E Q := by
  refine ⟨fun i acc E1 => i ≤ as.length ∧ acc = ((as.take i).filter p).map f ∧ E1 = E0, ⟨Nat.zero_le _, rfl, hw⟩, ?_, ?_⟩
  · rintro i x acc E1 hi ⟨h1, rfl, h2⟩
    subst h2
    rw [List.getElem?_map] at hi
    cases ea : as[i]? with
    | none =>
      rw [ea] at hi
      cases hi
    | some a =>
      rw [ea] at hi
      cases hi
      have hlt : i < as.length := (List.getElem?_eq_some_iff.mp ea).1
      have tk : as.take (i + 1) = as.take i ++ [a] := by
        rw [List.take_succ, ea]
        rfl
      have hle : (((as.take i).filter p).map f).length ≤ i := by
        rw [List.length_map]
        refine Nat.le_trans (List.length_filter_le _ _) ?_
        rw [List.length_take]
        omega
      rw [hw2]
      refine step a (List.mem_of_getElem? ea) _ _ (fun hp E4 h4 => ⟨by omega, by omega, ?_, h4⟩) fun hp E4 h4 => ⟨by omega, ?_, h4⟩
      · rw [tk, List.filter_append, List.map_append, List.filter_cons_of_pos hp]
        rfl
      · rw [tk, List.filter_append, List.filter_cons_of_neg (by rw [hp]; decide), List.filter_nil, List.append_nil]
  · rw [List.length_map]
    rintro acc E1 ⟨_, rfl, rfl⟩
    rw [List.take_length]
    exact q
/-- .. without a test -/
theorem lcD_all {α : Type} (as : List α) (dd : α → D) (f : α → D) {g : TGd} {te : TEd} {vs : List Nat} {E : En} (E0 : En) {Q : List D → En → Prop} (hw : wipeD E vs = E0) (hw2 : wipeD E0 vs = E0) (hs : as.length ≤ sizeLine)
    (step : ∀ a ∈ as, ∀ (R : D → En → Prop), (∀ E4, wipeD E4 vs = E0 → R (f a) E4) → g (dd a) E0 fun E2 => te E2 R)
    (q : Q (as.map f) E0) : lcD (as.map dd) g tYesD te vs E Q := by
  refine lcD_flt as dd (fun _ => true) f E0 hw hw2 hs (fun a ha R R' h1 _ => ?_) ?_
  · have := step a ha R (fun E4 h4 => h1 rfl E4 h4)
    unfold tYesD
    simp only [if_true]
    exact this
  · rw [List.filter_eq_self.mpr (fun _ _ => rfl)]
    exact q
theorem inD_ints {k : Int} {l : List Int} : inD (.int k) (l.map D.int) = true ↔ k ∈ l := by
  unfold inD inV
  rw [List.map_map, List.any_map, List.any_eq_true]
  constructor
  · rintro ⟨x, hx, e⟩
    have e : eqV (V.int x) (V.int k) = true := e
    have : x = k := by simpa [eqV] using e
    exact this ▸ hx
  · intro h
    exact ⟨k, h, by show eqV (V.int k) (V.int k) = true; simp [eqV]⟩
theorem inD_dec {k : Int} {l : List Int} : inD (.int k) (l.map D.int) = decide (k ∈ l) := by
  rw [Bool.eq_iff_iff, inD_ints, decide_eq_true_iff]
theorem flat_ints (l : List Int) : (l.map D.int).all D.flat = true := by
  rw [List.all_map, List.all_eq_true]
  intro _ _
  rfl
theorem atI_get {α : Type} {xs : List α} {i : Int} (h0 : 0 ≤ i) (h1 : i < xs.length) : ∃ x, xs[i.toNat]? = some x ∧ atI xs i = some x := by
  have hi : i.toNat < xs.length := by omega
  obtain ⟨x, hx⟩ : ∃ x, xs[i.toNat]? = some x := getE hi
  have e : ((i.toNat : Nat) : Int) = i := by omega
  have q := atI_nat hx
  rw [e] at q
  exact ⟨x, hx, q⟩
end L3
namespace L3
open PySem L2
variable [Tbs]
/-! ### data of ints and None alone: == is equality -/
mutual
def D.nb : D → Bool
  | .non => true
  | .int _ => true
  | .tup xs => D.nbL xs
  | .lst xs => D.nbL xs
  | .bl _ => false
  | .str _ => false
  | .opq _ => false
  | .pt _ => false
  | .dct _ => false
  | .ins _ _ => false
def D.nbL : List D → Bool
  | [] => true
  | d :: r => D.nb d && D.nbL r
end
mutual
theorem nb_plain : ∀ {d : D}, d.nb = true → d.plain = true ∧ PyData.canLay0 d.py = true
  | .non, _ => ⟨rfl, rfl⟩
  | .int _, _ => ⟨rfl, rfl⟩
  | .tup xs, h => nbL_plain (xs := xs) h
  | .lst xs, h => nbL_plain (xs := xs) h
  | .bl _, h => nomatch h
  | .str _, h => nomatch h
  | .opq _, h => nomatch h
  | .pt _, h => nomatch h
  | .dct _, h => nomatch h
  | .ins _ _, h => nomatch h
theorem nbL_plain : ∀ {xs : List D}, D.nbL xs = true → D.plainL xs = true ∧ PyData.canLayAll0 (D.pyL xs) = true
  | [], _ => ⟨rfl, rfl⟩
  | d :: r, h => by
    have h' := Bool.and_eq_true_iff.mp h
    obtain ⟨a, b⟩ := nb_plain h'.1
    obtain ⟨c, e⟩ := nbL_plain h'.2
    exact ⟨Bool.and_eq_true_iff.mpr ⟨a, c⟩, Bool.and_eq_true_iff.mpr ⟨b, e⟩⟩
end
mutual
theorem py_inj : ∀ {x y : D}, x.nb = true → y.nb = true → PyData.eqv x.py y.py = true → x = y
  | .non, y, _, hy, h => by
    cases y <;> first | rfl | (cases hy; done) | exact absurd (show false = true from h) (by decide)
  | .int i, y, _, hy, h => by
    cases y <;> first | (cases hy; done) | skip
    · exact absurd (show false = true from h) (by decide)
    · have : (i == _) = true := h
      rw [eq_of_beq this]
    · exact absurd (show false = true from h) (by decide)
    · exact absurd (show false = true from h) (by decide)
  | .tup xs, y, hx, hy, h => by
    cases y <;> first | (cases hy; done) | skip
    · exact absurd (show false = true from h) (by decide)
    · exact absurd (show false = true from h) (by decide)
    · rename_i ys
      rw [py_injL (xs := xs) (ys := ys) hx hy h]
    · exact absurd (show false = true from h) (by decide)
  | .lst xs, y, hx, hy, h => by
    cases y <;> first | (cases hy; done) | skip
    · exact absurd (show false = true from h) (by decide)
    · exact absurd (show false = true from h) (by decide)
    · exact absurd (show false = true from h) (by decide)
    · rename_i ys
      rw [py_injL (xs := xs) (ys := ys) hx hy h]
  | .bl _, _, h, _, _ => nomatch h
  | .str _, _, h, _, _ => nomatch h
  | .opq _, _, h, _, _ => nomatch h
  | .pt _, _, h, _, _ => nomatch h
  | .dct _, _, h, _, _ => nomatch h
  | .ins _ _, _, h, _, _ => nomatch h
theorem py_injL : ∀ {xs ys : List D}, D.nbL xs = true → D.nbL ys = true → PyData.eqvAll (D.pyL xs) (D.pyL ys) = true → xs = ys
  | [], [], _, _, _ => rfl
  | [], y :: ys, _, _, h => absurd (show false = true from h) (by decide)
  | x :: xs, [], _, _, h => absurd (show false = true from h) (by decide)
  | x :: xs, y :: ys, hx, hy, h => by
    have hx' := Bool.and_eq_true_iff.mp hx
    have hy' := Bool.and_eq_true_iff.mp hy
    have h' := Bool.and_eq_true_iff.mp (show (PyData.eqv x.py y.py && PyData.eqvAll (D.pyL xs) (D.pyL ys)) = true from h)
    rw [py_inj hx'.1 hy'.1 h'.1, py_injL hx'.2 hy'.2 h'.2]
end
theorem eqv_iff {x y : D} (hx : x.nb = true) (hy : y.nb = true) : D.eqv x y = true ↔ x = y :=
  ⟨py_inj hx hy, fun e => by subst e; exact PySem.SeqAt.eqv_refl _ (nb_plain hx).2⟩
theorem eqv_self {x : D} (hx : x.nb = true) : D.eqv x x = true := (eqv_iff hx hx).mpr rfl
theorem eqv_ne {x y : D} (hx : x.nb = true) (hy : y.nb = true) (h : x ≠ y) : D.eqv x y = false := by
  cases e : D.eqv x y with
  | false => rfl
  | true => exact absurd ((eqv_iff hx hy).mp e) h
theorem nb_ok {d : D} (h : d.nb = true) (hd : PyData.depth d.py ≤ 64) : d.ok := by
  refine ⟨(nb_plain h).1, ?_⟩
  unfold SeqAt.shaped
  rw [(nb_plain h).2, decide_eq_true hd]
  rfl
theorem Sh.ok {k m : Nat} {d : D} (s : Sh k m d) (h : d.nb = true) (hk : k ≤ 64) : d.ok := nb_ok h (Nat.le_trans s.deep hk)
theorem nbL_map {α : Type} {f : α → D} : ∀ {as : List α}, (∀ a ∈ as, (f a).nb = true) → D.nbL (as.map f) = true
  | [], _ => rfl
  | a :: as, h => Bool.and_eq_true_iff.mpr ⟨h a List.mem_cons_self, nbL_map fun b hb => h b (List.mem_cons_of_mem _ hb)⟩
theorem nb_ints (l : List Int) : D.nbL (l.map D.int) = true := nbL_map fun _ _ => rfl
/-! ### what is shown, of lists -/
theorem ShL.map {α : Type} {k m : Nat} {f : α → D} : ∀ {as : List α}, (∀ a ∈ as, Sh k m (f a)) → ShL k (as.length * (m + 2)) (as.map f)
  | [], _ => by
    refine ⟨rfl, rfl, Nat.zero_le _, Nat.zero_le _⟩
  | a :: as, h => by
    have e := ShL.cons (h a List.mem_cons_self) (ShL.map (as := as) fun b hb => h b (List.mem_cons_of_mem _ hb))
    rw [Nat.max_self] at e
    have e2 : (a :: as).length * (m + 2) = m + as.length * (m + 2) + 2 := by
      rw [List.length_cons, Nat.add_mul]
      omega
    rw [e2]
    exact e
theorem Sh.mono {k m k' m' : Nat} {d : D} (h : Sh k m d) (h1 : k ≤ k') (h2 : m ≤ m') : Sh k' m' d := ⟨h.plain, h.able, Nat.le_trans h.size h2, Nat.le_trans h.deep h1⟩
theorem ShL.mono {k m k' m' : Nat} {d : List D} (h : ShL k m d) (h1 : k ≤ k') (h2 : m ≤ m') : ShL k' m' d := ⟨h.plain, h.able, Nat.le_trans h.size h2, Nat.le_trans h.deep h1⟩
/-- at most n of them -/
theorem ShL.most {α : Type} {k m n : Nat} {f : α → D} {as : List α} (h : ∀ a ∈ as, Sh k m (f a)) (hl : as.length ≤ n) : ShL k (n * (m + 2)) (as.map f) := (ShL.map h).mono (Nat.le_refl _) (Nat.mul_le_mul_right _ hl)
/-- a small number -/
theorem Sh.int60 {a : Int} (h0 : -1152921504606846976 < a) (h1 : a < 1152921504606846976) : Sh 0 61 (.int a) := Sh.int (by decide) (by decide) (by
  have e : (2 ^ 60 : Nat) = 1152921504606846976 := by decide
  omega)
theorem ShL.small {l : List Int} {n : Nat} (h : ∀ v ∈ l, -1152921504606846976 < v ∧ v < 1152921504606846976) (hl : l.length ≤ n) : ShL 0 (n * 63) (l.map D.int) := ShL.most (fun v hv => Sh.int60 (h v hv).1 (h v hv).2) hl
end L3
/-! ### set(t), t a tuple of tuples of ints -/
namespace L2
open PySem PySem.Spec PyProof.Rows
/-- a new set -/
abbrev bareSet (wo : World) : Obj := { cls := .type "set", dict := none, data := .set #[] 0 (.fresh 0 0 (!wo.params.followText "set-order")) }
section
variable {pg : Program} {wo : World} {Ar : Around} {Er : Value → Shared → Prop} {z : Shared}
theorem call_set_tupT {q : Addr} {ite : Array Value} (ks : List (Addr × List Int)) {Q : Value → Shared → Prop} (nohd : Ar.handled = none) (htu : z.heap.IsTuple q ite) (hlist : ite.toList = ks.map fun p => Value.ref p.1)
    (each : ∀ p ∈ ks, IsT pg wo z.heap p.2 p.1) (few : ks.length < 64) (unit : Ar.units + 3 < cLine)
    (fin : ∀ (h' : Heap) (tk : Nat) L es ep t, SetTR pg wo h' z.heap.objs.size L es ep t → Got ks ks.length L → (∀ b o, z.heap.get? b = some o → h'.get? b = some o) → Q (.ref z.heap.objs.size) { z with heap := h', toks := tk }) :
    wpAny (model pg wo) Ar (call (.type "set") [.ref q]) Q Er z := by
  have size_ks : ite.size = ks.length := by
    have e := congrArg List.length hlist
    rwa [Array.length_toList, List.length_map] at e
  have absent : ∀ b, z.heap.objs.size ≤ b → z.heap.get? b = none := fun b hb => by
    cases e : z.heap.get? b with
    | none => rfl
    | some o => exact absurd (Nat.lt_of_lt_of_le (Heap.lt_size e) hb) (Nat.lt_irrefl _)
  have item : ∀ (i : Nat) (v : Value), ite[i]? = some v → ∃ p, ks[i]? = some p ∧ v = .ref p.1 := fun i v hv => by
    have e : ite.toList[i]? = some v := by rw [Array.getElem?_toList]; exact hv
    rw [hlist, List.getElem?_map] at e
    cases f : ks[i]? with
    | none => rw [f] at e; cases e
    | some p =>
      rw [f] at e
      exact ⟨p, rfl, (Option.some.inj e).symm⟩
  obtain ⟨cc, tt, mro⟩ := F.called_set.mro
  have made := F.called_set.made
  have subt := F.called_set.sub
  refine wpAny_call <| codeAny_of_tree ?_
  show wpAny (model pg wo) _ (callAny (.type "set") _) _ _ z
  refine wpAny_pure ⟨Code.quiet_builtin _ (by decide +kernel), codeAny_builtin F.entry_type_call ?_⟩
  rw [Around.under_plain (weight_type_call_type "set" [.ref q] []) rfl]
  have nt := F.called_set.notType
  have cr := F.called_set.canCreate
  have tc := F.typeCall_set_1 (.ref q)
  repeat (any_goals first | assumption | wp_step)
  refine codeAny_mono (code_set_led1 (.ref q) (E := Er) (Q₁ := fun ob z1 => ob = .ref z.heap.objs.size ∧ z1 = { z with heap := z.heap.push (bareSet wo) }) ⟨rfl, rfl⟩) fun rr z1 hrr => ?_
  cases rr with
  | error e => exact hrr
  | ok fl =>
    cases fl with
    | ret ob =>
      obtain ⟨rfl, rfl⟩ := hrr
      have atS : (z.heap.push (bareSet wo)).get? z.heap.objs.size = some (bareSet wo) := Heap.get?_push_size _ rfl
      have tyS : Shared.TypeIs { z with heap := z.heap.push (bareSet wo) } (.ref z.heap.objs.size) "set" := ⟨_, atS, rfl⟩
      have look := F.called_set.init.lookup
      have bind := F.called_set.init.bind (.ref z.heap.objs.size)
      repeat (any_goals first | assumption | wp_step)
      refine codeAny_mono (codeAny_call_builtin (R := wants (fun r z2 => r = .none ∧ ∃ h' tk L es ep t, z2 = { z with heap := h', toks := tk } ∧ SetTR pg wo h' z.heap.objs.size L es ep t ∧ Got ks ks.length L ∧ (∀ b o, z.heap.get? b = some o → h'.get? b = some o)) Er)
        F.called_set.init.plain F.entry_set_init (check_set_init_1 tyS ?_)) fun r2 z2 hr2 => ?_
      · obtain ⟨ob, hob, hcls, nn, hdat⟩ := htu
        obtain ⟨ocls, odict, odata, oslots⟩ := ob
        simp only at hcls hdat
        subst hcls hdat
        have hob1 : (z.heap.push (bareSet wo)).get? q = some { cls := .type "tuple", dict := odict, data := .seq ite nn, slots := oslots } := Heap.get?_push_of_some _ hob
        have s1 := F.sub_tuple_set
        have s2 := F.sub_tuple_frozenset
        have s3 : (Value.type "tuple" == Value.type "dict") = false := by decide
        have isT1 : (z.heap.push (bareSet wo)).IsTuple q ite := ⟨_, hob1, rfl, nn, rfl⟩
        unfold Builtin.«set.__init__» noKeywords Builtin.Frozenset.updateFrom
        generalize ePI : pyIter = PI
        wp_walk
        subst ePI
        refine wpAny_pyIter_tuple isT1 <| wpAny_bind (wpAny_runValue ?_)
        have ltq : q < z.heap.objs.size := Heap.lt_size hob
        have nohd3 : Ar.in1.in1.in1.handled = none := by simp [nohd]
        have neq : q ≠ (z.heap.push (bareSet wo)).objs.size := by
          rw [Heap.size_push]
          exact Nat.ne_of_lt (Nat.lt_of_lt_of_le ltq (Nat.le_succ _))
        have notin : z.heap.objs.size ∉ [(z.heap.push (bareSet wo)).objs.size, q] := by
          rw [Heap.size_push]
          simp only [List.mem_cons, List.not_mem_nil, or_false, not_or]
          exact ⟨Nat.ne_of_lt (Nat.lt_succ_self _), Ne.symm (Nat.ne_of_lt ltq)⟩
        refine set_update_tups ((Walks.tuple nohd3 _ q neq ite).toS) z.heap.objs.size notin ks size_ks few item z.heap each (absent _ (Nat.le_refl _)) (fun b hb => absent b (by
            rw [List.mem_singleton.mp hb, Heap.size_push]
            omega)) unit (ite.size - 0) 0 _ (by omega) (Nat.zero_le _) ⟨⟨_, Heap.get?_push_size _ rfl, rfl, rfl⟩, isT1.push _⟩ (fun b o e => Heap.get?_push_of_some _ (Heap.get?_push_of_some _ e)) ?_ ?_
        · have got : ((z.heap.push (bareSet wo)).push { cls := .type "tuple_iterator", data := .fields #[.ref q, .int 0 0] }).get? z.heap.objs.size = some (bareSet wo) := Heap.get?_push_of_some _ atS
          exact ⟨[], #[], 0, _, setTR_fresh got, Got.zero ks⟩
        · rintro ⟨h1, g1, d1, k1, o1⟩ L es ep t mv R gt kp
          have eg : g1 = z.gens := mv.gens
          have ed : d1 = z.drawn := mv.drawn
          have eo : o1 = z.os := mv.os
          subst eg ed eo
          show wpAny (model pg wo) _ _ _ _ _
          refine wpAny_pure ?_
          show wpAny (model pg wo) _ (ret Value.none) _ _ _
          rw [size_ks] at gt
          exact wpAny_pure ⟨rfl, h1, k1, L, es, ep, t, rfl, R, gt, kp⟩
      · cases r2 with
        | error e => exact hr2
        | ok f2 =>
          cases f2 with
          | ret r =>
            obtain ⟨rfl, h', tk, L, es, ep, t, rfl, R, gt, kp⟩ := hr2
            repeat (any_goals first | assumption | wp_step)
            exact fin _ _ _ _ _ _ R gt kp
          | _ => exact hr2.elim
    | _ => exact hrr.elim
/-- the reading of set(t), t a tuple -/
def rSetOfTT (K : PySem.W.Frag) (pg : Program) (wo : World) : List V → Hp → VK → Prop := fun xs H Q => ∃ (l : Addr) (ks : List (Addr × List Int)), xs = [V.ref l] ∧ SqT K H l (ks.map fun p => V.ref p.1) ∧ (∀ p ∈ ks, SqT K H p.1 (p.2.map V.int)) ∧ ks.length < 64 ∧
  ∀ b L, H b = none → (∀ p ∈ L, p ∈ ks) → (∀ p ∈ ks, p.2 ∈ L.map (·.2)) → Q (.ref b) (upd H b (SetTO pg wo b L))
theorem cr_setOfTT {X : Cx} (calm : X.calm = true) (room : X.A.units + 64 < cLine) : CallR X (.type "set") (rSetOfTT X.K X.prog X.w) := by
  intro pins z σ H xs us Q I r h
  obtain ⟨l, ks, rfl, hl, hk, hf, q⟩ := h
  rw [Vals.ref1 r]
  obtain ⟨its, rv, pl, _⟩ := I.tuple hl
  refine call_set_tupT (pg := X.prog) (wo := X.w) ks (I.ok.hd calm) (show z.heap.IsTuple l its.toArray from pl) (by simpa using refs_of_vals rv) (fun p hp => I.isT (hk p hp)) hf (by omega) fun h' tk L es ep t R g kp => ?_
  exact ⟨.ref z.heap.objs.size, upd H z.heap.objs.size (SetTO X.prog X.w z.heap.objs.size L), I.laid (t' := tk) kp (Nat.le_refl _) (setTO_new R.t0), rfl,
    q _ L (I.hok.fresh (Nat.le_refl _)) (fun p hp => List.mem_of_mem_take (g.sub p hp)) fun p hp => g.all p (by rw [List.take_length]; exact hp)⟩
end
end L2
namespace L3
open PySem L2
variable [Tbs]
def tSortSetT (te : TEd) : TEd := fun E Q => te E fun x E1 => match x with
  | .tup xs => ∃ (ks : List (List Int)) (d : Nat) (B : Int), xs = ks.map tI ∧ ks.length < 64 ∧ 1 ≤ d ∧ (∀ k ∈ ks, k.length = d ∧ TS.Bd B k) ∧ ∀ ks' : List (List Int), (∀ k, k ∈ ks' ↔ k ∈ ks) → ks'.Nodup → ks'.length < 64 → ks'.Pairwise (fun q r => TS.code B q ≤ TS.code B r) → Q (.lst (ks'.map tI)) E1
  | _ => False
section
variable {X : Cx} {e : Expr} {te : TEd} {p p' pos pos' : Pos}
theorem d_sortSetT (hc : X.calm = true) (hu : X.A.units + 64 < cLine) (hm : X.mg "sorted" = none) (hm2 : X.mg "set" = none) (he : PEd X e te) (hg : Gl X "sorted" := by rfl) (hg2 : Gl X "set" := by rfl)
    (na : starEach [.Call (.Name "set" p') [e] [] pos'] X.env = (false, eval (.Call (.Name "set" p') [e] [] pos') X.env) :: starEach [] X.env := by rfl) (nb : starEach [e] X.env = (false, eval e X.env) :: starEach [] X.env := by rfl) :
    PEd X (.Call (.Name "sorted" p) [.Call (.Name "set" p') [e] [] pos'] [] pos) (tSortSetT te) :=
  pe_imp (pe_callB (cr_sortedT hc) hg hm PyProof.Rows.boot_sorted (pa_cons (pe_callTy (cr_setOfTT hc hu) hg2 hm2 PyProof.Rows.boot_set (pa_cons he pa_nil nb) (by decide) (by decide) nb) pa_nil na) (by decide) (by decide) na) fun σ H Q ⟨en, Hf, F, E, Qd, S, h, k⟩ =>
    ⟨en, Hf, F, E, _, S, h, fun v1 H1 Hf1 F1 E1 x s1 S1 r1 h1 => by
      split at h1
      · cases r1 with | tup hl l =>
        obtain ⟨ks, d, B, rfl, hlen, hd, hB, q⟩ := h1
        obtain ⟨L, rfl, rfl, hL⟩ := l.tups
        refine ⟨_, L, rfl, Same.sqT S1.sf hl, fun p hp => Same.sqT S1.sf (hL p hp), by simpa using hlen, fun a L2 na hsub hall => ?_⟩
        have s2 : Same H1 (upd H1 a (SetTO X.prog X.w a L2)) := same_upd na
        refine ⟨a, L2, d, B, rfl, upd_same, fun p hp => Same.sqT (S1.sf.trans s2) (hL p (hsub p hp)), hd, fun p hp => hB p.2 (List.mem_map_of_mem (hsub p hp)), fun L3 b pm nd few pw nb => ?_⟩
        have S2 := S1.new (SetTO X.prog X.w a L2) na
        have kk : Fin X.K en σ (upd Hf1 a (SetTO X.prog X.w a L2)) Qd Q := fun v H' Hf' F' E' d s4 S4 r4 h4 => k v H' Hf' F' E' d ((s1.trans (same_upd (o := SetTO X.prog X.w a L2) (S1.sf.free na))).trans s4) S4 r4 h4
        refine kk.new S2 nb (fun Hf' s3 e => .lst e (RepL.ofTups fun p hp => Same.sqT ((same_upd (S1.sf.free na)).trans s3) (hL p (hsub p (pm.mem_iff.mp hp))))) (q _ (fun k => ?_) nd (by simpa using few) (List.pairwise_map.mpr pw))
        constructor
        · intro hk
          obtain ⟨p, hp, rfl⟩ := List.mem_map.mp hk
          exact List.mem_map_of_mem (hsub p (pm.mem_iff.mp hp))
        · intro hk
          obtain ⟨p, hp, rfl⟩ := List.mem_map.mp hk
          obtain ⟨p2, hp2, e2⟩ := List.mem_map.mp (hall p hp)
          exact List.mem_map.mpr ⟨p2, pm.mem_iff.mpr hp2, e2⟩
      · exact h1.elim⟩
end
end L3
namespace L3
open PySem L2
variable [Tbs]
/-! ### enumerate, zip -/
/-- (0, x), (1, y), .. -/
def enumL : Nat → List D → List D
  | _, [] => []
  | i, x :: xs => .tup [.int i, x] :: enumL (i + 1) xs
theorem enumL_len : ∀ (i : Nat) (xs : List D), (enumL i xs).length = xs.length
  | _, [] => rfl
  | i, _ :: xs => congrArg (· + 1) (enumL_len (i + 1) xs)
theorem enumL_get : ∀ (i : Nat) (xs : List D) (k : Nat), (enumL i xs)[k]? = xs[k]?.map fun x => D.tup [.int ((i + k : Nat) : Int), x]
  | _, [], _ => rfl
  | i, x :: xs, 0 => rfl
  | i, x :: xs, k + 1 => by
    have e := enumL_get (i + 1) xs k
    rw [show i + 1 + k = i + (k + 1) by omega] at e
    exact e
section
variable {X : Cx} {a b : Expr} {es elts : List Expr} {t : TAd} {p p2 pos tpos : Pos} {kk : Nat}
def iEnumD (t : TAd) : TId := fun E Q => t E fun xs E1 => match xs with
  | [.lst ys] => Q (enumL 0 ys) E1
  | _ => False
theorem i_enum (hm : X.mg "enumerate" = none) (ha : PAd X [a] t) (hg : Gl X "enumerate" := by rfl) (hs : starEach [a] X.env = [(false, eval a X.env)] := by rfl) : PId X (.Tuple elts kk tpos) (.Call (.Name "enumerate" p) [a] [] p2) (iEnumD t) :=
  pi_imp (pi_enum hg hm ha hs) fun σ H R ⟨en, Hf, F, E, Qd, S, h, k⟩ => ⟨en, Hf, F, E, _, S, h, fun v1 H1 Hf1 F1 E1 x s1 S1 r1 h1 => by
    split at h1
    · rename_i ys
      cases r1 with | cons a1 l1 =>
      cases l1
      cases a1 with | lst q l =>
      have hq : ∀ H', Same Hf1 H' → SqL X.K H' _ _ := fun H' s => .inl (.inl (s _ _ q))
      refine ⟨_, _, rfl, hq _ S1.sf, k _ _ _ _ _ _ s1 S1 ⟨fun i H' s hi => ?_, fun H' s => ⟨_, hq _ s, ?_⟩, fun i H2 v H3 s hi y => ?_⟩ h1⟩
      · rw [enumL_len] at hi
        obtain ⟨d, ed⟩ := getE hi
        obtain ⟨v, ev, _⟩ := l.get ed
        exact ⟨_, v, hq _ s, ev⟩
      · rw [enumL_len, l.length]
        exact Nat.le_refl _
      · rw [enumL_len] at hi
        obtain ⟨d, ed⟩ := getE hi
        obtain ⟨w, ew, rw'⟩ := l.get ed
        obtain ⟨T, x, e1, e2, e3, e4⟩ := y
        have := e4 _ (hq _ s)
        rw [ew] at this
        cases this
        refine ⟨_, by rw [enumL_get, ed]; rfl, .inr ⟨T, _, e1, e2, e3, fun Hf' s2 e => ?_⟩⟩
        rw [e1, Nat.zero_add]
        exact .tup (.inl (.inl e)) (.cons (.int _) (.cons (rw'.mono s2) .nil))
    · exact h1.elim⟩
/-- pairs of two lists, or of two tuples -/
def iZipD (t : TAd) : TId := fun E Q => t E fun xs E1 => match xs with
  | [.lst ys, .lst zs] => Q (List.zipWith (fun y z => D.tup [y, z]) ys zs) E1
  | [.tup ys, .tup zs] => Q (List.zipWith (fun y z => D.tup [y, z]) ys zs) E1
  | _ => False
theorem zip_get {ys zs : List D} {i : Nat} {y z : D} (h1 : ys[i]? = some y) (h2 : zs[i]? = some z) : (List.zipWith (fun y z => D.tup [y, z]) ys zs)[i]? = some (.tup [y, z]) := by
  rw [List.getElem?_zipWith, h1, h2]
theorem zip_len (ys zs : List D) : (List.zipWith (fun y z => D.tup [y, z]) ys zs).length = min ys.length zs.length := List.length_zipWith
end
end L3
/-! ### t * k, k = 1 (t itself), k ≤ 0 (the empty tuple) -/
namespace L2
open PySem PySem.Spec PyProof.Rows
theorem tup_mul1 (tt : Addr) (its : Array Value) (n : Nat) (dd : Option Addr) (sl : Array (Option Value)) (u : Tok) :
    Meets (Builtin.«tuple.__mul__» ⟨[.ref tt, .int 1 u], []⟩) (fun _ R s => s.heap.get? tt = some { cls := .type "tuple", dict := dd, data := .seq its n, slots := sl } ∧ R (.ok (.ret (Value.ref tt))) s) :=
  .of_wp fun prog w A R s h => by
    obtain ⟨hp, g, d, tk, os⟩ := s
    obtain ⟨hl, h⟩ := h
    have f1 := AutoSeq1.idx_int
    have b1 : (its.isEmpty || (1 : Int) == 1) = true := by cases its.isEmpty <;> rfl
    wp_walk using wpAny_loadPart' hl
    exact ⟨_, rfl, h⟩
theorem tup_mul0 (tt : Addr) (its : Array Value) (n : Nat) (dd : Option Addr) (sl : Array (Option Value)) (x : Int) (u : Tok) (h0 : (decide (x < -(2 ^ 63)) || decide (x ≥ 2 ^ 63)) = false) (h1 : (its.isEmpty || x == 1) = false) (h2 : (decide (x ≤ 0) || its.isEmpty) = true) :
    Meets (Builtin.«tuple.__mul__» ⟨[.ref tt, .int x u], []⟩) (fun _ R s => s.heap.get? tt = some { cls := .type "tuple", dict := dd, data := .seq its n, slots := sl } ∧
      R (.ok (.ret (Value.ref s.heap.objs.size))) { s with heap := s.heap.push { cls := Value.type "tuple", data := Data.seq #[] }, toks := s.toks }) :=
  .of_wp fun prog w A R s h => by
    obtain ⟨hp, g, d, tk, os⟩ := s
    obtain ⟨hl, h⟩ := h
    have f1 := AutoSeq1.idx_int
    wp_walk using wpAny_loadPart' hl
    repeat' first
      | (refine wpAny_ite_false (decide_eq_false (by rw [h0]; decide)) ?_; wp_walk using wpAny_loadPart' hl)
      | (refine wpAny_ite_false (decide_eq_false (by rw [h1]; decide)) ?_; wp_walk using wpAny_loadPart' hl)
      | (refine wpAny_ite_true (decide_eq_true h2) ?_; wp_walk using wpAny_loadPart' hl)
    exact ⟨_, rfl, h⟩
/-- a tuple, any number of times -/
def rRepA (K : PySem.W.Frag) : R2 := fun x y H Q => ∃ l k xs, x = .ref l ∧ y = .int k ∧ SqT K H l xs ∧ xs ≠ [] ∧ -1000 ≤ k ∧ k ≤ 1000 ∧ xs.length ≤ 1000 ∧ (k = 1 → Q (.ref l) H) ∧ (k ≠ 1 → ∀ p, H p = none → Q (.ref p) (upd H p (.tup (List.replicate k.toNat xs).flatten)))
section
variable {X : Cx}
theorem op_repA : OpR X (binaryOp .Mult) (rRepA X.K) := by
  intro pins s σ H x y v u Q I rx ry h
  obtain ⟨l, k, xs, rfl, rfl, hT, hne, k0, k1, hz, q1, q2⟩ := h
  by_cases c2 : 2 ≤ k
  · exact op_repT pins s σ H _ _ v u Q I rx ry ⟨l, k, xs, rfl, rfl, hT, hne, c2, k1, hz, q2 (by omega)⟩
  cases rx
  obtain ⟨t, rfl⟩ := ry
  obtain ⟨its, r, ⟨⟨cls, dd, data, sl⟩, ho, hcl, n, hd⟩, hs⟩ := I.tuple hT
  simp only at hcl hd
  subst hcl hd
  have nonempty : its.toArray.isEmpty = false := by
    cases r with
    | nil => exact absurd rfl hne
    | cons a b => rfl
  by_cases c1 : k = 1
  · subst c1
    exact wpAny_binaryOp_repeat_ref (T := "tuple") (U := "int") (by decide) ⟨_, ho, rfl⟩ (fun s' => typeIs_int s' 1 t) noFill_tuple_mul F.fills_int_mul F.slot_int_rmul repeat_tuple F.slot_int_index.lookup
      (call_meets F.slot_int_rmul (typeIs_int s 1 t) F.entry_int_rmul (F.args_int_rmul_2 _ _) (int_rmul_tuple 1 t l its.toArray n dd sl)
        ⟨ho, rfl, ⟨_, ho, rfl⟩, call_meets F.slot_tuple_mul ⟨_, ho, rfl⟩ F.entry_tuple_mul (F.args_tuple_mul_2 _ _) (tup_mul1 l its.toArray n dd sl t) ⟨ho, ⟨.ref l, H, I, rfl, q1 rfl⟩⟩⟩)
  · have b0 : (decide (k < -(2 ^ 63)) || decide (k ≥ 2 ^ 63)) = false := by
      rw [decide_eq_false (by omega), decide_eq_false (by omega)] <;> rfl
    have b1 : (its.toArray.isEmpty || k == 1) = false := by
      rw [nonempty, Bool.false_or]
      exact beq_eq_false_iff_ne.mpr c1
    have b2 : (decide (k ≤ 0) || its.toArray.isEmpty) = true := by
      rw [decide_eq_true (by omega)]
      rfl
    have e0 : (List.replicate k.toNat xs).flatten = [] := by
      rw [show k.toNat = 0 by omega]
      rfl
    have q3 := q2 c1
    rw [e0] at q3
    refine wpAny_binaryOp_repeat_ref (T := "tuple") (U := "int") (by decide) ⟨_, ho, rfl⟩ (fun s' => typeIs_int s' k t) noFill_tuple_mul F.fills_int_mul F.slot_int_rmul repeat_tuple F.slot_int_index.lookup
      (call_meets F.slot_int_rmul (typeIs_int s k t) F.entry_int_rmul (F.args_int_rmul_2 _ _) (int_rmul_tuple k t l its.toArray n dd sl)
        ⟨ho, rfl, ⟨_, ho, rfl⟩, call_meets F.slot_tuple_mul ⟨_, ho, rfl⟩ F.entry_tuple_mul (F.args_tuple_mul_2 _ _) (tup_mul0 l its.toArray n dd sl k t b0 b1 b2) ⟨ho, ?_⟩⟩)
    exact ⟨.ref s.heap.objs.size, _, I.laid (t' := s.toks) (o := .tup []) (fun b ob q => Heap.get?_push_of_some _ q) (Nat.le_refl _) ⟨by rw [sizeLine_eq]; decide, [], .nil, IsTup.new _ _⟩, rfl, q3 _ (I.hok.fresh (Nat.le_refl _))⟩
end
end L2
namespace L3
open PySem L2
variable [Tbs]
/-- *: ints; a list or a tuple often -/
def rdMulT : RD := fun x y E Q => match x, y with
  | .tup u, .int n => (u ≠ [] ∧ -1000 ≤ n ∧ n ≤ 1000 ∧ u.length ≤ 1000) ∧ Q (.tup (List.replicate n.toNat u).flatten) E
  | _, _ => False
theorem ok_mulT {K : PySem.W.Frag} : OpOk K (rRepA K) rdMulT :=
  fun en Hf H F E σ vx vy x y Q Qd S rx ry q k => by
    unfold rdMulT at q
    split at q
    · cases rx with | tup h1 l1 =>
      cases ry
      rename_i n
      obtain ⟨⟨ne, n0, n1, ln⟩, q⟩ := q
      refine ⟨_, _, _, rfl, rfl, Same.sqT S.sf h1, fun e => ?_, n0, n1, by rw [l1.length]; exact ln, fun e => ?_, fun e p np => ?_⟩
      · subst e
        cases l1
        exact ne rfl
      · subst e
        rw [show List.replicate (1 : Int).toNat _ = [_] from rfl, List.flatten_cons, List.flatten_nil, List.append_nil] at q
        exact k _ _ _ _ _ _ (Same.refl _) S (.tup h1 l1) q
      · exact k.new S np (fun _ s2 e => .tup (.inl (.inl e)) ((l1.rep _).mono s2)) q
    · exact q.elim
section
variable {X : Cx} {a b : Expr} {ta tb : TEd} {pos : Pos}
theorem d_mulT (ha : PEd X a ta) (hb : PEd X b tb) : PEd X (.BinOp a .Mult b pos) (tOpD rdMulT ta tb) := d_op op_repA ok_mulT ha hb
end
theorem depth_ints : ∀ l : List Int, PyData.depthAll (D.pyL (l.map D.int)) = 0
  | [] => rfl
  | x :: l => by
    show max 0 (PyData.depthAll (D.pyL (l.map D.int))) = 0
    rw [depth_ints l]
    rfl
theorem ok_lints (l : List Int) : (D.lst (l.map D.int)).ok := nb_ok (nb_ints l) (by
  show PyData.depthAll (D.pyL (l.map D.int)) + 1 ≤ 64
  rw [depth_ints]
  decide)
theorem ok_tints (l : List Int) : (D.tup (l.map D.int)).ok := nb_ok (nb_ints l) (by
  show PyData.depthAll (D.pyL (l.map D.int)) + 1 ≤ 64
  rw [depth_ints]
  decide)
theorem eqv_nil : D.eqv (D.lst []) (D.lst []) = true := rfl
theorem eqv_cons {x : D} {xs : List D} : D.eqv (D.lst (x :: xs)) (D.lst []) = false := rfl
theorem eqv_nil' {x : D} {xs : List D} : D.eqv (D.lst []) (D.lst (x :: xs)) = false := rfl
section
variable {X : Cx} {pos : Pos}
/-- a statement that is never come to -/
def tNevD : TSd := fun _ _ => False
theorem s_never {st : Stmt} : PSd X st tNevD := ⟨fun pins s σ H D I ⟨en, Hf, F, E, Dd, S, h, _⟩ => h.elim⟩
/-- a constant of the module -/
theorem d_globI {x : Str} {n : Int} (hm : ∃ t, X.mg x = some (.int n t)) (hg : Gl X x := by rfl) (hd : (x == ("__debug__" : Str)) = false := by decide) : PEd X (.Name x pos) (tCD (.int n)) := by
  obtain ⟨t, hm⟩ := hm
  exact d_glob hg hm (v := .int n) ⟨t, rfl⟩ (fun _ => .int n) hd
end
end L3
/-! ### enumerate(t), t a tuple -/
namespace L2
open PySem PySem.Spec PyProof.Rows
theorem draws_tup {pg : Program} {wo : World} {Ar : Around} (nohd : Ar.handled = none) (it q : Addr) (ne : q ≠ it) (ite : Array Value) :
    Draws pg wo Ar it [it, q] ite.size (fun i v => ite[i]? = some v) (fun i h => h.IsTupleIter it q i ∧ h.IsTuple q ite) where
  live := fun _ _ st => st.1.elim fun o ho => ⟨o, ho.1⟩
  frame := fun _ _ _ st hk => ⟨st.1.at fun o e => hk it (by simp) o e, st.2.at fun o e => hk q (by simp) o e⟩
  item := fun i s Q E lt st fin => wpAny_nextOf_tuple_item st.1 st.2 (x := ite[i]) (by simp [lt]) fun h1 it1 same => fin _ h1 s.toks (by simp [lt]) ⟨it1, st.2.extBut same.extBut ne⟩ same
  done := fun s Q E st fin => wpAny_nextOf_tuple_end nohd st.1 st.2 (by simp) fin
theorem meets_enum_newT (q : Addr) (ite : Array Value) (n : Nat) (dd : Option Addr) (sl : Array (Option Value)) :
    Meets (Builtin.«enumerate.__new__» ⟨[.type "enumerate", .ref q], []⟩) (fun _ R z => z.heap.get? q = some { cls := .type "tuple", dict := dd, data := .seq ite n, slots := sl } ∧
      R (.ok (.ret (.ref (z.heap.push { cls := .type "tuple_iterator", data := .fields #[.ref q, .int 0 0] }).objs.size)))
        { z with heap := (z.heap.push { cls := .type "tuple_iterator", data := .fields #[.ref q, .int 0 0] }).push { cls := .type "enumerate", data := .fields #[.none, .bool false, .ref z.heap.objs.size, rawInt 0, .none, .none] } }) :=
  .of_wp fun prog w A R z h => by
    obtain ⟨hp, g, d, tk, os⟩ := z
    obtain ⟨hl, h⟩ := h
    have sub := sub_enumerate
    have isT : Heap.IsTuple (Shared.heap ⟨hp, g, d, tk, os⟩) q ite := ⟨_, hl, rfl, n, rfl⟩
    wp_walk using wpAny_loadPart' hl
    refine wpAny_stack_any fun st => wpAny_pure ?_
    split
    · rename_i c _ _ _ _ _
      cases (c == Value.type "enumerate") <;>
      · wp_walk using wpAny_loadPart' hl, wpAny_pyIter_tuple isT
        exact ⟨_, rfl, h⟩
    · wp_walk using wpAny_loadPart' hl, wpAny_pyIter_tuple isT
      exact ⟨_, rfl, h⟩
section
variable {pg : Program} {wo : World} {Ar : Around} {Er : Value → Shared → Prop} {z : Shared}
theorem call_enumT {q : Addr} {ite : Array Value} {Q : Value → Shared → Prop} (isT : z.heap.IsTuple q ite)
    (fin : ∀ h', IsEnum h' (z.heap.objs.size + 1) z.heap.objs.size 0 .none → h'.IsTupleIter z.heap.objs.size q 0 → h'.objs.size = z.heap.objs.size + 2 →
      (∀ b o, z.heap.get? b = some o → h'.get? b = some o) → Q (.ref (z.heap.objs.size + 1)) { z with heap := h' }) :
    wpAny (model pg wo) Ar (call (.type "enumerate") [.ref q]) Q Er z := by
  obtain ⟨⟨c, dd, dt, sl⟩, hq, hcl, n, hd⟩ := isT
  simp only at hcl hd
  subst hcl hd
  refine callType_new F.called_enumerate (by decide) (F.typeCall_enumerate_1 _) (F.newCall_enumerate_1 _) (fun obj => F.args_object_init_2 obj _) F.entry_enumerate_new (meets_enum_newT q ite n dd sl) ⟨hq, ?_⟩
  have size1 : (z.heap.push { cls := .type "tuple_iterator", data := .fields #[.ref q, .int 0 0] }).objs.size = z.heap.objs.size + 1 := Heap.size_push ..
  show _ ∧ _
  rw [size1]
  have isE : IsEnum ((z.heap.push { cls := .type "tuple_iterator", data := .fields #[.ref q, .int 0 0] }).push { cls := .type "enumerate", data := .fields #[.none, .bool false, .ref z.heap.objs.size, rawInt 0, .none, .none] }) (z.heap.objs.size + 1) z.heap.objs.size 0 .none := by
    have e := Heap.get?_push_size (z.heap.push { cls := .type "tuple_iterator", data := .fields #[.ref q, .int 0 0] }) (o := { cls := .type "enumerate", data := .fields #[.none, .bool false, .ref z.heap.objs.size, rawInt 0, .none, .none] }) rfl
    rw [size1] at e
    exact e
  exact ⟨⟨_, isE, rfl⟩, fin _ isE ⟨_, Heap.get?_push_of_some _ (Heap.get?_push_size _ rfl), rfl, rfl⟩ (by rw [Heap.size_push, size1]) fun b o x => Heap.get?_push_of_some _ (Heap.get?_push_of_some _ x)⟩
end
/-- the tuple at a, each item in a new pair -/
def IteT (K : PySem.W.Frag) (a : Addr) : It :=
  ⟨fun i H => ∃ (xs : List V) (x : V), SqT K H a xs ∧ xs[i]? = some x, fun i H v H' => ∃ T x, v = .ref T ∧ H T = none ∧ H' = upd H T (.tup [.int (i : Nat), x]) ∧ ∀ xs, SqT K H a xs → xs[i]? = some x, fun i H => ∃ xs : List V, SqT K H a xs ∧ xs.length = i⟩
theorem turn_enumT {pg : Program} {wo : World} {K : PySem.W.Frag} {elts : List Expr} {kk : Nat} {tpos : Pos} (a e it : Addr) (na : a ≠ it) (nb : e ≠ a) :
    Turn pg wo K (.Tuple elts kk tpos) (IteT K a) [e, it] e (fun i h => (∃ old, IsEnum h e it ((i : Nat) : Int) old) ∧ h.IsTupleIter it a i ∧ e ≠ it) where
  mem := by simp
  obj := fun i h st b hb => by
    obtain ⟨⟨old, he⟩, ⟨o, ho, hc, hd⟩, _⟩ := st
    rcases (show b = e ∨ b = it by simpa using hb) with rfl | rfl
    · exact ⟨_, he, fun v q => nomatch q⟩
    · exact ⟨o, ho, fun v q => by rw [hd] at q; cases q⟩
  keep := fun i h h' st k => ⟨st.1.elim fun old he => ⟨old, k e (by simp) _ he⟩, st.2.1.at fun o q => k it (by simp) o q, st.2.2⟩
  item := by
    intro X hP hw hK hc i pins s σ H E I hf st hg
    subst hP hw hK
    obtain ⟨⟨old, he⟩, hit, hne⟩ := st
    obtain ⟨xs, x, hq, hx⟩ := hg
    obtain ⟨its, rv, p, hz⟩ := I.tuple hq
    have isT : s.heap.IsTuple a its.toArray := p
    obtain ⟨u, hu, ru⟩ := rv.get hx
    have hel : e < s.heap.objs.size := Heap.lt_size he
    have hil : it < s.heap.objs.size := hit.elim fun _ q => Heap.lt_size q.1
    have lt : i < its.toArray.size := by
      have := (List.getElem?_eq_some_iff.mp hu).1
      simpa using this
    refine wpAny_pyNext_enum_itemD (draws_tup (by simpa using I.ok.hd hc) it a na its.toArray) he ⟨hit, isT⟩ lt hne (by simp [hne, nb]) fun x1 h1 tk px ho hst hT hsz hk => ?_
    have ex : x1 = u := by
      have e1 : its[i]? = some x1 := by simpa using px
      rw [hu] at e1
      exact (Option.some.inj e1).symm
    subst ex
    refine ⟨_, rfl, wpAny_letOwnedTupleGo_enum (s := { s with heap := h1, toks := tk + 1 }) ho fun h2 he2 sb => ?_⟩
    have hT2 : h2.get? s.heap.objs.size = some { cls := .type "tuple", data := .seq #[.int i tk, x1] } := (sb.2 _ (Nat.ne_of_gt hel)).trans hT
    have made : ObjOk X.prog X.w (upd H s.heap.objs.size (.tup [.int (i : Nat), x])) h2 s.heap.objs.size (.tup [.int (i : Nat), x]) :=
      ⟨by show 2 ≤ sizeLine; decide, [.int i tk, x1], .cons ⟨_, rfl⟩ (.cons ru .nil), ⟨_, hT2, rfl, _, rfl⟩⟩
    have I1 : Inv X pins σ (upd H s.heap.objs.size (.tup [.int (i : Nat), x])) { s with heap := h2, toks := tk + 1 } :=
      I.turnedNew (ch := [e, it]) (fun b ob hb q => (sb.2 b (fun y => hb (by simp [y]))).trans (hk b ob (fun y => hb (by simp [y])) (fun y => hb (by simp [y])) q)) hf (Nat.le_refl _) made
    refine ⟨.ref s.heap.objs.size, _, I1, rfl, ⟨_, x, rfl, I.hok.fresh (Nat.le_refl _), rfl, fun ys hy => by rw [I.tuple_inj hy hq]; exact hx⟩, ⟨⟨x1, ?_⟩, hst.1.at fun o q => (sb.2 it (Ne.symm hne)).trans q, hne⟩, fun b hb => ?_⟩
    · rw [show ((i + 1 : Nat) : Int) = (i : Int) + 1 by omega]
      exact he2
    · have lb : b < s.heap.objs.size := by
        rcases (show b = e ∨ b = it by simpa using hb) with rfl | rfl
        · exact hel
        · exact hil
      rw [upd_ne (Nat.ne_of_lt lb)]
      exact (hf b hb).1
  done := by
    intro X hP hw hK hc i pins s σ H E I hf st hg
    subst hP hw hK
    obtain ⟨⟨old, he⟩, hit, hne⟩ := st
    obtain ⟨xs, hq, hx⟩ := hg
    obtain ⟨its, rv, p, hz⟩ := I.tuple hq
    have isT : s.heap.IsTuple a its.toArray := p
    obtain ⟨f0, f1, f2, f3, f4, f5⟩ := hf it (by simp)
    have el : i = its.toArray.size := by
      have := rv.length
      simp
      omega
    refine wpAny_pyNext_enum_endD (draws_tup (by simpa using I.ok.hd hc) it a na its.toArray) he ⟨by rw [← el]; exact hit, isT⟩ fun h1 eb => ⟨rfl, I.turned (t' := s.toks) (fun b o hb q => eb b o hb q) f0 f1 f3 f4 f5⟩
  self := fun A i s Q E st h => st.1.elim fun _ he => wpAny_pyIter_enum he h
def iEnumT (K : PySem.W.Frag) (ta : TA) : TI := fun σ H R => ta σ H fun vs H1 => ∃ a xs, vs = [.ref a] ∧ SqT K H1 a xs ∧ R (IteT K a) H1
theorem pi_enumT {X : Cx} {e : Expr} {ta : TA} {p pos tpos : Pos} {elts : List Expr} {kk : Nat} (hg : Gl X "enumerate") (hm : X.mg "enumerate" = none) (ha : PA X [e] ta) (hs : starEach [e] X.env = [(false, eval e X.env)] := by rfl) :
    PI X (.Tuple elts kk tpos) (.Call (.Name "enumerate" p) [e] [] pos) (iEnumT X.K ta) := by
  refine ⟨fun pins s σ H R I h => Call_ (ld_blt I hg hm boot_enumerate (PyProof.Rows.callWith_type1 (thn (ha.run pos pins s σ H _ I h) fun us s1 ⟨vs, H1, I1, r1, q1⟩ => ?_) hs rfl))⟩
  obtain ⟨a, xs, rfl, hq, q⟩ := q1
  rw [Vals.ref1 r1]
  obtain ⟨its, rv, p1, hz⟩ := I1.tuple hq
  have isT : s1.heap.IsTuple a its.toArray := p1
  have la : a < s1.heap.objs.size := isT.elim fun _ q => Heap.lt_size q.1
  refine call_enumT isT fun h1 he hit hsz hk => wpAny_pyIter_enum he ?_
  refine ⟨s1.heap.objs.size + 1, [s1.heap.objs.size + 1, s1.heap.objs.size], _, _, H1, rfl, I1.kept (t' := s1.toks) hk, turn_enumT a (s1.heap.objs.size + 1) s1.heap.objs.size (Nat.ne_of_lt la) (Nat.ne_of_gt (Nat.lt_succ_of_lt la)), ⟨⟨.none, he⟩, hit, Nat.succ_ne_self _⟩, fun b hb => ?_, q⟩
  have le : s1.heap.objs.size ≤ b := by
    rcases (show b = s1.heap.objs.size + 1 ∨ b = s1.heap.objs.size by simpa using hb) with rfl | rfl
    · exact Nat.le_succ _
    · exact Nat.le_refl _
  exact I1.fpOk le (I1.hok.fresh le)
end L2
namespace L3
open PySem L2
variable [Tbs]
section
variable {X : Cx} {a b : Expr} {es elts : List Expr} {t : TAd} {p p2 pos tpos : Pos} {kk : Nat}
def iEnumTD (t : TAd) : TId := fun E Q => t E fun xs E1 => match xs with
  | [.tup ys] => Q (enumL 0 ys) E1
  | _ => False
theorem i_enumT (hm : X.mg "enumerate" = none) (ha : PAd X [a] t) (hg : Gl X "enumerate" := by rfl) (hs : starEach [a] X.env = [(false, eval a X.env)] := by rfl) : PId X (.Tuple elts kk tpos) (.Call (.Name "enumerate" p) [a] [] p2) (iEnumTD t) :=
  pi_imp (pi_enumT hg hm ha hs) fun σ H R ⟨en, Hf, F, E, Qd, S, h, k⟩ => ⟨en, Hf, F, E, _, S, h, fun v1 H1 Hf1 F1 E1 x s1 S1 r1 h1 => by
    split at h1
    · rename_i ys
      cases r1 with | cons a1 l1 =>
      cases l1
      cases a1 with | tup q l =>
      have hq : ∀ H', Same Hf1 H' → SqT X.K H' _ _ := fun H' s => Same.sqT s q
      refine ⟨_, _, rfl, hq _ S1.sf, k _ _ _ _ _ _ s1 S1 ⟨fun i H' s hi => ?_, fun H' s => ⟨_, hq _ s, ?_⟩, fun i H2 v H3 s hi y => ?_⟩ h1⟩
      · rw [enumL_len] at hi
        obtain ⟨d, ed⟩ := getE hi
        obtain ⟨v, ev, _⟩ := l.get ed
        exact ⟨_, v, hq _ s, ev⟩
      · rw [enumL_len, l.length]
      · rw [enumL_len] at hi
        obtain ⟨d, ed⟩ := getE hi
        obtain ⟨w, ew, rw'⟩ := l.get ed
        obtain ⟨T, x, e1, e2, e3, e4⟩ := y
        have := e4 _ (hq _ s)
        rw [ew] at this
        cases this
        refine ⟨_, by rw [enumL_get, ed]; rfl, .inr ⟨T, _, e1, e2, e3, fun Hf' s2 e => ?_⟩⟩
        rw [e1, Nat.zero_add]
        exact .tup (.inl (.inl e)) (.cons (.int _) (.cons (rw'.mono s2) .nil))
    · exact h1.elim⟩
end
end L3
namespace L3
open PySem L2
variable [Tbs]
/-! ### exceptions of the program's own classes: made -/
namespace Xm
open PySem.W PySem.Calls PyProof.Rows
section
variable {prog : Program} {w : World} {A : Around} {E : Value → Shared → Prop} {s : Shared} {h₀ : Heap} {L : Addr} {m mg : Str → Option Value} {news : List (Addr × Obj)} {K : PySem.W.Frag} {x C D f f2 cc cda so : Addr} {ox : Obj} {odx : Option Obj}
/-- super() in a method, over what a module says of the names -/
theorem super_node {body : List Stmt} {q : Str} {scope : Scope} {p0 p1 : Pos} {attr : Str} {whole : Sem Value} {fd : FuncData} {ar : Arg} {vs : Array Value} {file : Str} {tf : Tok} {oc ccl cl : Value} {od cdd cld : Option Addr} {osl ccs csl : Array (Option Value)} {cdD : ClassData} {Q : Value → Shared → Prop}
    (F : Fr h₀ L s.heap m) (X₀ : K.In h₀) (md : Mod K mg h₀) (N : News h₀ L s.heap news)
    (hf : K.lookup f = some ⟨oc, od, .func fd, osl⟩) (hp : (fd.params.posonlyargs ++ fd.params.args).head? = some ar) (hv : m ar.arg = some (.ref x)) (I : InstAt s.heap x ox C odx)
    (hcode : K.lookup cda = some ⟨ccl, cdd, .fields vs, ccs⟩) (hvs : vs[2]? = some (.str file tf)) (hfile : ((prog.main.file : Str) == file) = true)
    (hcell : K.lookup cc = some ⟨cl, cld, .cell (some (.ref D)), csl⟩) (hD : clsIn K D = some cdD) (hsub : mroIn K C (.ref D) = some true) (hsuper : mg "super" = none)
    (hat : (attr == ("__class__" : Str)) = false) (hks : scope.names.lookup ("super" : Str) = some .globalImplicit) (hkc : scope.names.lookup ("__class__" : Str) = some .free) (hka : scope.names.lookup ar.arg = some .local) (hk : scope.kind = .function)
    (htop : (prog.main.scope.names.lookup ("super" : Str)).isSome = false) (hboot : bootBuiltins "super" = some (.type "super"))
    (h : ∀ so h', Fr h₀ L h' m → News h₀ L h' ((so, ks_superObj D x C) :: news) → (∀ p ∈ news, p.1 < so) → Q (.ref so) { s with heap := h' }) :
    _root_.PySem.wpAt (model prog w) A (.func body (ksEnv q scope L f (.ref cda) cc)) (attributeBase (.Call (.Name "super" p0) [] [] p1) attr (ksEnv q scope L f (.ref cda) cc) whole) Q E s := by
  have X : K.In s.heap := X₀.keeps F.keep
  obtain ⟨mb, hmb, hbb⟩ := md.blt
  obtain ⟨hh, g, d, t, os⟩ := s
  obtain ⟨oD, hD1, hD2⟩ : ∃ oD, hh.get? D = some oD ∧ oD.data = .cls cdD := by
    unfold clsIn at hD
    split at hD
    · rename_i c d cd' sl ho
      cases hD
      exact ⟨_, X _ _ ho, rfl⟩
    · cases hD
  refine ks_wpAt_super_base (env := ksEnv q scope L f (.ref cda) cc) hks hkc hat rfl (X _ _ hf) rfl hp rfl (X _ _ hcode) rfl hvs hfile htop ?_
  refine ks_loadName_global hk hks (loadGlobal_builtin (env := ksEnv q scope L f (.ref cda) cc) (md.glob.keeps F.keep) hsuper (hmb.keeps F.keep) ((hbb _ (by decide +kernel)).trans hboot) ⟨rfl, ?_⟩)
  refine wpAny_loadName_free hk hkc rfl ⟨_, X _ _ hcell, rfl⟩ ?_
  refine wpAny_loadName_local hk hka F.ns hv ?_
  refine ks_wpAny_isType_cls hD1 hD2 ⟨rfl, ?_⟩
  refine ks_wpAny_call_super hD1 hD2 I.at_ I.cls (fun c e => ?_) (looks_mroIn X hsub) (fun h' e k => ?_)
  · have := I.no
    unfold notCls at this
    rw [e] at this
    exact Bool.noConfusion this
  · obtain ⟨F', N', l'⟩ := ks_newsPush (s := ⟨hh, g, d, t, os⟩) F N rfl e k
    exact h _ _ F' N' l'
end
/-- what the bases ValueError and LookupError say -/
structure BaseX (B newId initId : String) (bmB : List Value) : Prop where
  kf : KxsFacts B initId
  fb : ExcBaseFacts B newId initId bmB
  sf : StoreFacts B bmB "object.__setattr__" "object"
theorem bx_VE : BaseX "ValueError" "ValueError.__new__" "ValueError.__init__" [.type "ValueError", .type "Exception", .type "BaseException", .type "object"] := ⟨kxs_ValueError, PySem.F.excBase_ValueError, PySem.F.store_ValueError⟩
theorem bx_LE : BaseX "LookupError" "LookupError.__new__" "LookupError.__init__" [.type "LookupError", .type "Exception", .type "BaseException", .type "object"] := ⟨kxs_LookupError, PySem.F.excBase_LookupError, PySem.F.store_LookupError⟩
/-- the scope of such an __init__ -/
structure IScope (sc : Scope) (ps : List Str) : Prop where
  cell : ∀ x ∈ sc.names, x.2 ≠ .cell
  loc : ∀ x ∈ ps, sc.names.lookup x = some .local
  nd : ps.Nodup
  sup : sc.names.lookup ("super" : Str) = some .globalImplicit
  cls : sc.names.lookup ("__class__" : Str) = some .free
  kind : sc.kind = .function
  co : sc.isCoroutine = false
  gen : sc.isGenerator = false
/-- what the written part says of a class whose __init__ is walked -/
structure XKey (prog : Program) (K : PySem.W.Frag) (mg : Str → Option Value) (C fI cc cda : Addr) (B newId initId : String) (bmB : List Value) : Prop where
  bx : BaseX B newId initId bmB
  hi : findIn K (.ref C) "__init__" = some (some (.ref fI))
  q : excInitIn K C bmB newId = true
  ty : typeIn K (.ref fI) = some (.type "function")
  code : ∃ ccl cdd ccs vs file tf, K.lookup cda = some ⟨ccl, cdd, .fields vs, ccs⟩ ∧ vs[2]? = some (.str file tf) ∧ ((prog.main.file : Str) == file) = true
  cell : ∃ cl cld csl, K.lookup cc = some ⟨cl, cld, .cell (some (.ref C)), csl⟩
  cd : ∃ cdD, clsIn K C = some cdD
  sub : mroIn K C (.ref C) = some true
  sup : mg "super" = none
  any : nsIn K cStatics "thirdparty.any" = some none
  si : ks_superIn K C C "__init__" = some (some (.builtin initId))
  sB : subIn K (.ref C) (.type B) = some true
  sa : findIn K (.ref C) "__setattr__" = some (some (.builtin "object.__setattr__"))
  ov : excOver K C bmB = true
  hd : hasDictIn K C = true
  top : (prog.main.scope.names.lookup ("super" : Str)).isSome = false
section
open Builtin Builtin.ObjectAttr
variable {prog : Program} {w : World} {A : Around} {E : Value → Shared → Prop} {K : PySem.W.Frag} {hp : Heap} {g : Array GenState} {d : Drawn} {t : Nat} {os : OsState}
/-- self.f = v on an exception without a dict yet -/
theorem xset0 {x C : Addr} {fv : Array Value} {name : Str} {v : Value} {B : String} {bmB : List Value} {Q : Unit → Shared → Prop} (SF : StoreFacts B bmB "object.__setattr__" "object") (X : K.In hp) (hx : hp.get? x = some { cls := .ref C, data := .fields fv })
    (hs : findIn K (.ref C) "__setattr__" = some (some (.builtin "object.__setattr__"))) (ov : excOver K C bmB = true) (ht : takerIn K C name = some none) (hh : hasDictIn K C = true)
    (hq : ∀ h' tk' dx, (∀ b o, b ≠ x → hp.get? b = some o → h'.get? b = some o) → hp.objs.size ≤ dx → dx ≠ x → h'.get? x = some { cls := .ref C, dict := some dx, data := .fields fv } →
      h'.Ns1 dx (fun y => if y = name then some v else none) → Q () ⟨h', g, d, tk', os⟩) : wpAny (model prog w) A (setAttr (.ref x) name v) Q E ⟨hp, g, d, t, os⟩ := by
  have I : PySem.W.InstAt hp x { cls := .ref C, data := .fields fv } C none := ⟨hx, rfl, rfl, trivial⟩
  have hxs : x ≠ hp.objs.size := Nat.ne_of_lt (Heap.lt_size hx)
  obtain ⟨cd, hc, hdc⟩ := any_some hh
  refine PySem.W.set_plain X I hs ?_
  refine osa_openX (s := ⟨hp, g, d, t + 1, os⟩) SF X I ov ht fun b => ?_
  have hcls : PySem.W.Looks (model prog w) hp (classData C) cd := PySem.W.looks_clsIn X hc
  obtain ⟨nm, bs, mro, ns, qn, hd, sn, sb, ab, col, del⟩ := cd
  dsimp only at hdc
  subst hdc
  unfold storeInOwnDict ownDictForStores
  repeat (first | with_reducible refine PySem.HandSPX.store_in_new ?_ ?_ | with_reducible refine wpAny_loadPart_at hx ?_ | with_reducible refine hcls.at ?_ | wp_step)
  · exact ⟨_, #[], _, (Heap.get?_update_ne _ _ _ _ hxs.symm).trans (Heap.get?_push_at rfl rfl), rfl, fun e he => absurd he (by simp), fun _ => rfl⟩
  · intro h' tk' hn' hs
    have hx₁ : (hp.push { cls := .type "dict", data := .dict #[] }).get? x = some { cls := .ref C, data := .fields fv } := Heap.get?_push_of_some _ hx
    refine hq h' tk' hp.objs.size (fun b o hb ho => ?_) (Nat.le_refl _) hxs.symm ?_ hn'
    · exact (hs.2 b (Nat.ne_of_lt (Heap.lt_size ho))).trans ((Heap.get?_update_ne _ _ _ _ hb).trans (Heap.get?_push_of_some _ ho))
    · exact (hs.2 x hxs).trans (Heap.get?_update_self _ hx₁ rfl)
/-- a further field -/
theorem xsetD {x C dx : Addr} {fv : Array Value} {name : Str} {v : Value} {B : String} {bmB : List Value} {m0 : Str → Option Value} {nl : List Str} {Q : Unit → Shared → Prop} (SF : StoreFacts B bmB "object.__setattr__" "object") (X : K.In hp)
    (hx : hp.get? x = some { cls := .ref C, dict := some dx, data := .fields fv }) (hns : hp.Ns1 dx m0) (hw : Within m0 nl) (hz : nl.length ≤ 1000)
    (hs : findIn K (.ref C) "__setattr__" = some (some (.builtin "object.__setattr__"))) (ov : excOver K C bmB = true) (ht : takerIn K C name = some none) (hh : hasDictIn K C = true)
    (hq : ∀ h' tk', (∀ b o, b ≠ dx → hp.get? b = some o → h'.get? b = some o) → h'.Ns1 dx (fun y => if y = name then some v else m0 y) → Q () ⟨h', g, d, tk', os⟩) : wpAny (model prog w) A (setAttr (.ref x) name v) Q E ⟨hp, g, d, t, os⟩ := by
  obtain ⟨oD, esD, epD, hoD, hdD, _⟩ := hns.count hw
  have I : PySem.W.InstAt hp x { cls := .ref C, dict := some dx, data := .fields fv } C (some oD) := ⟨hx, rfl, rfl, hoD⟩
  obtain ⟨cd, hc, hdc⟩ := any_some hh
  refine PySem.W.set_plain X I hs ?_
  refine osa_openX (s := ⟨hp, g, d, t + 1, os⟩) SF X I ov ht fun b => ?_
  have hcls : PySem.W.Looks (model prog w) hp (classData C) cd := PySem.W.looks_clsIn X hc
  obtain ⟨nm, bs, mro, ns, qn, hd, sn, sb, ab, col, del⟩ := cd
  dsimp only at hdc
  subst hdc
  unfold storeInOwnDict ownDictForStores
  repeat (first | with_reducible refine PySem.ESX.store_in_old hns hw hz ?_ | with_reducible refine wpAny_loadPart_at hx ?_ | with_reducible refine hcls.at ?_ | wp_step)
  intro h' tk' hn' hs
  exact hq h' tk' (fun b o hb ho => (hs.2 b hb).trans ho) hn'
end
section
open Builtin Builtin.ObjectAttr
variable {prog : Program} {w : World} {A : Around} {K : PySem.W.Frag} {mg : Str → Option Value} {hp : Heap} {g : Array GenState} {d : Drawn} {t : Nat} {os : OsState}
abbrev supCall (a1 a2 a3 a5 : Pos) (es : List Expr) : Expr := .Call (.Attribute (.Call (.Name "super" a1) [] [] a2) "__init__" a3) es [] a5
abbrev body1 (a1 a2 a3 a4 a5 a6 b1 b2 b3 b4 : Pos) (self p1 f1 : Str) : List Stmt := [.Expr (supCall a1 a2 a3 a5 [.Name p1 a4]) a6, .Assign [.Attribute (.Name self b1) f1 b2] (.Name p1 b3) b4]
/-- super().__init__(p1), in the frame of such an __init__ -/
theorem run_super {C fI cc cda : Addr} {B newId initId : String} {bmB : List Value} {name qual : Str} {params : Arguments} {body rest : List Stmt} {scope : Scope} {dV kV doc pm ct oc : Value} {an od : Option Addr} {osl : Array (Option Value)} {ar : Arg}
    {a1 a2 a3 a5 a6 : Pos} {e1 : Expr} {es : List Expr} {us : List Value} {L t0 e : Addr} {m : Str → Option Value} {Q : Flow → Shared → Prop} {E : Value → Shared → Prop} {h₁ : Heap}
    (T : XKey prog K mg C fI cc cda B newId initId bmB) (har : (params.posonlyargs ++ params.args).head? = some ar) (hks : scope.names.lookup ("super" : Str) = some .globalImplicit) (hkc : scope.names.lookup ("__class__" : Str) = some .free) (hka : scope.names.lookup ar.arg = some .local) (hk : scope.kind = .function)
    (lk : K.lookup fI = some ⟨oc, od, .func (ksFn name qual params body scope dV kV doc pm an (.ref cda) ct cc), osl⟩)
    (X₀ : K.In hp) (md : Mod K mg hp) (F : Fr hp L h₁ m) (N : News hp L h₁ [(e, excObj C t0 none .none), (t0, excTup us)]) (ne : e ≠ t0) (hv : m ar.arg = some (.ref e)) (hz : us.length ≤ sizeLine)
    (hint : interactive (ksEnv qual scope L fI (.ref cda) cc) = false) (hsw : swapsWith (supCall a1 a2 a3 a5 (e1 :: es)) none a6.line (ksEnv qual scope L fI (.ref cda) cc) = pure false)
    (hst : starEach (e1 :: es) (ksEnv qual scope L fI (.ref cda) cc) = (false, eval e1 (ksEnv qual scope L fI (.ref cda) cc)) :: starEach es (ksEnv qual scope L fI (.ref cda) cc)) (hpl : (backTo a5 (starEach es (ksEnv qual scope L fI (.ref cda) cc))).any (·.1) = false)
    {pl : Sem Bool} (hev : eval (supCall a1 a2 a3 a5 (e1 :: es)) (ksEnv qual scope L fI (.ref cda) cc) = (do
      let ov ← attributeBase (.Call (.Name "super" a1) [] [] a2) "__init__" (ksEnv qual scope L fI (.ref cda) cc) (eval (.Call (.Name "super" a1) [] [] a2) (ksEnv qual scope L fI (.ref cda) cc))
      standAt a3.atName
      let (f, first) ← holding [ov] (getMethod ov "__init__" pl)
      callWith a5 f first (backTo a5 (starEach (e1 :: es) (ksEnv qual scope L fI (.ref cda) cc))) []))
    (hargs : ∀ (s : Shared) (M : Model) (A' : Around) (Q : List Value → Shared → Prop), Fr hp L s.heap m → Q us s → wpAny M A' (spliced (backTo a5 (starEach (e1 :: es) (ksEnv qual scope L fI (.ref cda) cc)))) Q E s)
    (h : ∀ h' tk' t1 ns', Fr hp L h' m → News hp L h' ((e, excObj C t1 none .none) :: ns') → (∀ p ∈ ns', p.1 ≠ e) →
      _root_.PySem.wpAt (model prog w) A (.func body (ksEnv qual scope L fI (.ref cda) cc)) (execs rest (ksEnv qual scope L fI (.ref cda) cc)) Q E ⟨h', g, d, tk', os⟩) :
    _root_.PySem.wpAt (model prog w) A (.func body (ksEnv qual scope L fI (.ref cda) cc)) (execs (.Expr (supCall a1 a2 a3 a5 (e1 :: es)) a6 :: rest) (ksEnv qual scope L fI (.ref cda) cc)) Q E ⟨h₁, g, d, t, os⟩ := by
  obtain ⟨ccl, cdd, ccs, vs, file, tf, hcode, hvs, hfile⟩ := T.code
  obtain ⟨cl, cld, csl, hcell⟩ := T.cell
  obtain ⟨cdD, hD⟩ := T.cd
  refine ks_wpAt_execs_cons (ks_wpAt_Expr_any ?_ hint hsw)
  refine ks_wpAt_MethodCall (pl := pl) ?_ hev
  have I0 := InstAt.of_exc0 (C := C) (c2 := .none) N (List.mem_cons_self ..)
  refine super_node (s := ⟨h₁, g, d, t, os⟩) F X₀ md N lk har hv I0 hcode hvs hfile hcell hD T.sub T.sup (by decide) hks hkc hka hk T.top (by first | boot_by_name | rfl | kernel_rfl) fun so h2 F2 N2 l2 => ?_
  have ls : ∀ p ∈ [(e, excObj C t0 none .none), (t0, excTup us)], p.1 < so := l2
  have e1 : e < so := ls (e, excObj C t0 none .none) (List.mem_cons_self ..)
  have e3 : t0 < so := ls (t0, excTup us) (List.mem_cons_of_mem _ (List.mem_cons_self ..))
  have I2 := InstAt.of_exc0 (C := C) (c2 := .none) N2 (List.mem_cons_of_mem _ (List.mem_cons_self ..))
  refine kxs_method (s := ⟨h2, g, d, t, os⟩) T.bx.kf F2 X₀ N2 (List.mem_cons_self ..) I2 T.any T.si T.sB (by decide) fun q h3 F3 N3 l3 => ?_
  have lq : ∀ p ∈ [(so, ks_superObj C e C), (e, excObj C t0 none .none), (t0, excTup us)], p.1 < q := l3
  have e2 : so < q := lq (so, ks_superObj C e C) (List.mem_cons_self ..)
  refine kxs_callWith1 (i := initId) (x := e) N3 (List.mem_cons_self ..) ?_ hst hpl
  refine hargs _ _ _ _ F3 ⟨kxs_at N3 (List.mem_cons_self ..), ?_⟩
  have U : UpdF e (excObj C t0 none .none) [(q, kxs_mw initId e), (so, ks_superObj C e C), (e, excObj C t0 none .none), (t0, excTup us)] (fun o' => [(q, kxs_mw initId e), (so, ks_superObj C e C), (e, o'), (t0, excTup us)]) :=
    .tail (Nat.ne_of_gt (Nat.lt_trans e1 e2)) (.tail (Nat.ne_of_gt e1) (.head fun p hp => by
      obtain rfl : p = (t0, excTup us) := by simpa using hp
      exact Ne.symm ne))
  refine kxs_call (s := ⟨h3, g, d, t + 1, os⟩) (t := t0) (dv := none) (c2 := .none) F3 X₀ N3 T.bx.fb T.q (List.mem_cons_self ..) U hz fun t' h4 F4 N4 l4 => ?_
  have l4' : ∀ p ∈ [(q, kxs_mw initId e), (so, ks_superObj C e C), (e, excObj C t0 none .none), (t0, excTup us)], p.1 < t' := l4
  have e4 : q < t' := l4' (q, kxs_mw initId e) (List.mem_cons_self ..)
  refine h h4 (t + 1) t' [(t', excTup us), (q, kxs_mw initId e), (so, ks_superObj C e C), (t0, excTup us)] F4 (fun p hp => N4 p ?_) fun p hp => ?_
  · simp only [List.mem_cons, List.not_mem_nil, or_false] at hp ⊢
    rcases hp with h | h | h | h | h
    · exact .inr (.inr (.inr (.inl h)))
    · exact .inl h
    · exact .inr (.inl h)
    · exact .inr (.inr (.inl h))
    · exact .inr (.inr (.inr (.inr h)))
  · simp only [List.mem_cons, List.not_mem_nil, or_false] at hp
    have g1 := Nat.lt_trans e1 e2
    rcases hp with h | h | h | h
    · rw [h]
      exact Nat.ne_of_gt (Nat.lt_trans g1 e4)
    · rw [h]
      exact Nat.ne_of_gt g1
    · rw [h]
      exact Nat.ne_of_gt e1
    · rw [h]
      exact Ne.symm ne
end
section
open Builtin Builtin.ObjectAttr
variable {prog : Program} {w : World} {A : Around} {K : PySem.W.Frag} {mg : Str → Option Value} {hp : Heap} {g : Array GenState} {d : Drawn} {t : Nat} {os : OsState}
theorem lk_put {β : Type} (f g : Str) (y : β) (l : List (Str × β)) : ((f, y) :: l).lookup g = if g = f then some y else l.lookup g := by
  rw [List.lookup_cons]
  by_cases h : g = f
  · subst h
    simp
  · have e : (g == f) = false := by simpa using h
    rw [if_neg h, e]
/-- the tree of super().__init__(..) in such a frame -/
def SupOk (qual : Str) (scope : Scope) (fI cda cc : Addr) (a1 a2 a3 a5 : Pos) (e1 : Expr) (es : List Expr) : Prop := ∀ L, ∃ pl, eval (supCall a1 a2 a3 a5 (e1 :: es)) (ksEnv qual scope L fI (.ref cda) cc) = (do
      let ov ← attributeBase (.Call (.Name "super" a1) [] [] a2) "__init__" (ksEnv qual scope L fI (.ref cda) cc) (eval (.Call (.Name "super" a1) [] [] a2) (ksEnv qual scope L fI (.ref cda) cc))
      standAt a3.atName
      let (f, first) ← holding [ov] (getMethod ov "__init__" pl)
      callWith a5 f first (backTo a5 (starEach (e1 :: es) (ksEnv qual scope L fI (.ref cda) cc))) [])
theorem notInter {q : Str} {sc : Scope} {L f cda cc : Addr} (h : sc.kind = .function) : interactive (ksEnv q sc L f (.ref cda) cc) = false := by
  unfold interactive
  show (sc.kind == .module && _) = false
  rw [h]
  rfl
/-- def __init__(self, p1): super().__init__(p1); self.f1 = p1 -/
structure Init1 (K : PySem.W.Frag) (fI cc cda : Addr) (f1 : Str) : Prop where
  ex : ∃ (name qual self p1 : Str) (params : Arguments) (scope : Scope) (dV kV doc pm ct oc : Value) (an od : Option Addr) (osl : Array (Option Value)) (ar : Arg) (a1 a2 a3 a4 a5 a6 b1 b2 b3 b4 : Pos),
    K.lookup fI = some ⟨oc, od, .func (ksFn name qual params (body1 a1 a2 a3 a4 a5 a6 b1 b2 b3 b4 self p1 f1) scope dV kV doc pm an (.ref cda) ct cc), osl⟩ ∧ codeIn K (.ref cda) qual = true ∧ (params.posonlyargs ++ params.args).head? = some ar ∧ ar.arg = self ∧ IScope scope [self, p1] ∧ (self == ("__debug__" : Str)) = false ∧ (p1 == ("__debug__" : Str)) = false ∧
    (∀ u v : Value, bindArgs (ksFn name qual params (body1 a1 a2 a3 a4 a5 a6 b1 b2 b3 b4 self p1 f1) scope dV kV doc pm an (.ref cda) ct cc) ⟨[u, v], []⟩ = pure [(self, u), (p1, v)]) ∧ SupOk qual scope fI cda cc a1 a2 a3 a5 (.Name p1 a4) []
theorem call_init1 {C fI cc cda : Addr} {B newId initId : String} {bmB : List Value} {f1 : Str} {R : Result → Shared → Prop} {hp2 : Heap} {e t0 : Addr} {u : Value} (T : XKey prog K mg C fI cc cda B newId initId bmB) (J : Init1 K fI cc cda f1) (ht : takerIn K C f1 = some none)
    (X₀ : K.In hp) (md : Mod K mg hp) (hroom : A.depth < recursionLimit) (k2 : ∀ b o, hp.get? b = some o → hp2.get? b = some o) (he : hp2.get? e = some (excObj C t0 none .none)) (htt : hp2.get? t0 = some (excTup [u])) (hsz : hp.objs.size ≤ hp2.objs.size) (ne : e ≠ t0) (fe : hp.get? e = none) (ft : hp.get? t0 = none)
    (h : ∀ h' tk' t1 dx, (∀ b o, hp.get? b = some o → h'.get? b = some o) → h'.get? e = some (excObj C t1 (some dx) .none) → hp.objs.size ≤ dx → dx ≠ e → h'.Ns1 dx (fun y => if y = f1 then some u else none) → R (.ok (.ret .none)) ⟨h', g, d, tk', os⟩) :
    codeAny (model prog w) A (.call (.ref fI) ⟨[.ref e, u], []⟩) R ⟨hp2, g, d, t, os⟩ := by
  obtain ⟨name, qual, self, p1, params, scope, dV, kV, doc, pm, ct, oc, an, od, osl, ar, a1, a2, a3, a4, a5, a6, b1, b2, b3, b4, lk, hcd, har, hself, S, hs0, hp0, hb, hev⟩ := J.ex
  have X2 : K.In hp2 := X₀.keeps k2
  subst hself
  refine ks_codeAny_call_defAt (s := ⟨hp2, g, d, t, os⟩) (binds := [(ar.arg, .ref e), (p1, u)]) hroom (X2 _ _ lk) rfl (md.nolimit.keeps k2) (codeRec_of X2 hcd) rfl (BindsTo.of_eq (hb _ _)) S.cell (fun y hy => ?_) (fun h₁ hns hk₁ => ?_) S.co S.gen S.kind
  · simp only [List.mem_cons, List.not_mem_nil, or_false] at hy
    rcases hy with rfl | rfl
    · exact S.loc _ (by simp)
    · exact S.loc _ (by simp)
  have hne : ar.arg ≠ p1 := fun z => by
    have := S.nd
    rw [z] at this
    simp at this
  have hv : ([(ar.arg, Value.ref e), (p1, u)].reverse.lookup ar.arg) = some (.ref e) := by
    show List.lookup ar.arg [(p1, u), (ar.arg, Value.ref e)] = _
    rw [lk_put, if_neg hne, lk_put, if_pos rfl]
  have hv1 : ([(ar.arg, Value.ref e), (p1, u)].reverse.lookup p1) = some u := by
    show List.lookup p1 [(p1, u), (ar.arg, Value.ref e)] = _
    rw [lk_put, if_pos rfl]
  have F1 : Fr hp hp2.objs.size h₁ (fun y => [(ar.arg, Value.ref e), (p1, u)].reverse.lookup y) := ⟨hns, fun b o e => hk₁ b o (k2 b o e), hsz⟩
  have N1 : News hp hp2.objs.size h₁ [(e, excObj C t0 none .none), (t0, excTup [u])] := fun p hp' => by
    simp only [List.mem_cons, List.not_mem_nil, or_false] at hp'
    rcases hp' with h | h
    · rw [h]
      exact ⟨hk₁ _ _ he, Nat.ne_of_lt (Heap.lt_size he), fe⟩
    · rw [h]
      exact ⟨hk₁ _ _ htt, Nat.ne_of_lt (Heap.lt_size htt), ft⟩
  have lself := S.loc ar.arg (by simp)
  have lp1 := S.loc p1 (by simp)
  obtain ⟨pl, hev⟩ := hev hp2.objs.size
  refine run_super (e1 := .Name p1 a4) (es := []) (us := [u]) (pl := pl) T har S.sup S.cls lself S.kind lk X₀ md F1 N1 ne hv (by show 1 ≤ sizeLine; rw [sizeLine_eq]; decide) (notInter S.kind) (by rfl) (by rfl) (by rfl) hev (fun s M A' Q F q => ?_) (fun h' tk' t1 ns' F2 N2 ns2 => ?_)
  · exact Calls.spliced_cons (PySem.ESX.ldL F.ns hv1 (Calls.spliced_nil q) S.kind lp1 hp0)
  · obtain ⟨e0, e1, e2⟩ := N2 (e, excObj C t1 none .none) (List.mem_cons_self ..)
    refine _root_.PySem.wpAt_of_wpAny (wpAny_execs_cons (plainObj_wpAny_Assign_Attribute (PySem.ESX.ldL F2.ns hv1 (PySem.ESX.ldL F2.ns hv ?_ S.kind lself hs0) S.kind lp1 hp0) (by rfl)))
    refine xset0 T.bx.sf (X₀.keeps F2.keep) e0 T.sa T.ov ht T.hd fun h3 tk3 dx k3 dn dne hx hn => wpAny_execs_nil ?_
    have k4 : ∀ b o, hp.get? b = some o → h3.get? b = some o := fun b o eb => k3 b o (fun z => by rw [z, fe] at eb; cases eb) (F2.keep b o eb)
    obtain ⟨oL, _, _, eL, _⟩ := F2.ns
    exact h h3 tk3 t1 dx k4 hx (Nat.le_trans hsz (Nat.le_trans (Nat.le_of_lt (Heap.lt_size eL)) dn)) dne hn
abbrev body2 (a1 a2 a3 a4 a41 a5 a6 b1 b2 b3 b4 c1 c2 c3 c4 : Pos) (self p1 p2 f1 f2 : Str) : List Stmt := [.Expr (supCall a1 a2 a3 a5 [.Name p1 a4, .Name p2 a41]) a6, .Assign [.Attribute (.Name self b1) f1 b2] (.Name p1 b3) b4, .Assign [.Attribute (.Name self c1) f2 c2] (.Name p2 c3) c4]
/-- def __init__(self, p1, p2): super().__init__(p1, p2); self.f1 = p1; self.f2 = p2 -/
structure Init2 (K : PySem.W.Frag) (fI cc cda : Addr) (f1 f2 : Str) : Prop where
  ex : ∃ (name qual self p1 p2 : Str) (params : Arguments) (scope : Scope) (dV kV doc pm ct oc : Value) (an od : Option Addr) (osl : Array (Option Value)) (ar : Arg) (a1 a2 a3 a4 a41 a5 a6 b1 b2 b3 b4 c1 c2 c3 c4 : Pos),
    K.lookup fI = some ⟨oc, od, .func (ksFn name qual params (body2 a1 a2 a3 a4 a41 a5 a6 b1 b2 b3 b4 c1 c2 c3 c4 self p1 p2 f1 f2) scope dV kV doc pm an (.ref cda) ct cc), osl⟩ ∧ codeIn K (.ref cda) qual = true ∧ (params.posonlyargs ++ params.args).head? = some ar ∧ ar.arg = self ∧ IScope scope [self, p1, p2] ∧ (self == ("__debug__" : Str)) = false ∧ (p1 == ("__debug__" : Str)) = false ∧ (p2 == ("__debug__" : Str)) = false ∧
    (∀ u v v2 : Value, bindArgs (ksFn name qual params (body2 a1 a2 a3 a4 a41 a5 a6 b1 b2 b3 b4 c1 c2 c3 c4 self p1 p2 f1 f2) scope dV kV doc pm an (.ref cda) ct cc) ⟨[u, v, v2], []⟩ = pure [(self, u), (p1, v), (p2, v2)]) ∧ SupOk qual scope fI cda cc a1 a2 a3 a5 (.Name p1 a4) [.Name p2 a41]
theorem call_init2 {C fI cc cda : Addr} {B newId initId : String} {bmB : List Value} {f1 f2 : Str} {R : Result → Shared → Prop} {hp2 : Heap} {e t0 : Addr} {u u2 : Value} (T : XKey prog K mg C fI cc cda B newId initId bmB) (J : Init2 K fI cc cda f1 f2) (ht : takerIn K C f1 = some none) (ht2 : takerIn K C f2 = some none)
    (X₀ : K.In hp) (md : Mod K mg hp) (hroom : A.depth < recursionLimit) (k2 : ∀ b o, hp.get? b = some o → hp2.get? b = some o) (he : hp2.get? e = some (excObj C t0 none .none)) (htt : hp2.get? t0 = some (excTup [u, u2])) (hsz : hp.objs.size ≤ hp2.objs.size) (ne : e ≠ t0) (fe : hp.get? e = none) (ft : hp.get? t0 = none)
    (h : ∀ h' tk' t1 dx, (∀ b o, hp.get? b = some o → h'.get? b = some o) → h'.get? e = some (excObj C t1 (some dx) .none) → hp.objs.size ≤ dx → dx ≠ e → h'.Ns1 dx (fun y => if y = f2 then some u2 else if y = f1 then some u else none) → R (.ok (.ret .none)) ⟨h', g, d, tk', os⟩) :
    codeAny (model prog w) A (.call (.ref fI) ⟨[.ref e, u, u2], []⟩) R ⟨hp2, g, d, t, os⟩ := by
  obtain ⟨name, qual, self, p1, p2, params, scope, dV, kV, doc, pm, ct, oc, an, od, osl, ar, a1, a2, a3, a4, a41, a5, a6, b1, b2, b3, b4, c1, c2, c3, c4, lk, hcd, har, hself, S, hs0, hp0, hp20, hb, hev⟩ := J.ex
  have X2 : K.In hp2 := X₀.keeps k2
  subst hself
  refine ks_codeAny_call_defAt (s := ⟨hp2, g, d, t, os⟩) (binds := [(ar.arg, .ref e), (p1, u), (p2, u2)]) hroom (X2 _ _ lk) rfl (md.nolimit.keeps k2) (codeRec_of X2 hcd) rfl (BindsTo.of_eq (hb _ _ _)) S.cell (fun y hy => ?_) (fun h₁ hns hk₁ => ?_) S.co S.gen S.kind
  · simp only [List.mem_cons, List.not_mem_nil, or_false] at hy
    rcases hy with rfl | rfl | rfl
    · exact S.loc _ (by simp)
    · exact S.loc _ (by simp)
    · exact S.loc _ (by simp)
  have hnd := S.nd
  simp only [List.nodup_cons, List.mem_cons, List.not_mem_nil, or_false, not_or, List.nodup_nil, and_true, not_false_eq_true] at hnd
  have hv : ([(ar.arg, Value.ref e), (p1, u), (p2, u2)].reverse.lookup ar.arg) = some (.ref e) := by
    show List.lookup ar.arg [(p2, u2), (p1, u), (ar.arg, Value.ref e)] = _
    rw [lk_put, if_neg hnd.1.2, lk_put, if_neg hnd.1.1, lk_put, if_pos rfl]
  have hv1 : ([(ar.arg, Value.ref e), (p1, u), (p2, u2)].reverse.lookup p1) = some u := by
    show List.lookup p1 [(p2, u2), (p1, u), (ar.arg, Value.ref e)] = _
    rw [lk_put, if_neg hnd.2, lk_put, if_pos rfl]
  have hv2 : ([(ar.arg, Value.ref e), (p1, u), (p2, u2)].reverse.lookup p2) = some u2 := by
    show List.lookup p2 [(p2, u2), (p1, u), (ar.arg, Value.ref e)] = _
    rw [lk_put, if_pos rfl]
  have F1 : Fr hp hp2.objs.size h₁ (fun y => [(ar.arg, Value.ref e), (p1, u), (p2, u2)].reverse.lookup y) := ⟨hns, fun b o e => hk₁ b o (k2 b o e), hsz⟩
  have N1 : News hp hp2.objs.size h₁ [(e, excObj C t0 none .none), (t0, excTup [u, u2])] := fun p hp' => by
    simp only [List.mem_cons, List.not_mem_nil, or_false] at hp'
    rcases hp' with h | h
    · rw [h]
      exact ⟨hk₁ _ _ he, Nat.ne_of_lt (Heap.lt_size he), fe⟩
    · rw [h]
      exact ⟨hk₁ _ _ htt, Nat.ne_of_lt (Heap.lt_size htt), ft⟩
  have lself := S.loc ar.arg (by simp)
  have lp1 := S.loc p1 (by simp)
  have lp2 := S.loc p2 (by simp)
  obtain ⟨pl, hev⟩ := hev hp2.objs.size
  refine run_super (e1 := .Name p1 a4) (es := [.Name p2 a41]) (us := [u, u2]) (pl := pl) T har S.sup S.cls lself S.kind lk X₀ md F1 N1 ne hv (by show 2 ≤ sizeLine; rw [sizeLine_eq]; decide) (notInter S.kind) (by rfl) (by rfl) (by rfl) hev (fun s M A' Q F q => ?_) (fun h' tk' t1 ns' F2 N2 ns2 => ?_)
  · exact Calls.spliced_cons (PySem.ESX.ldL F.ns hv1 (Calls.spliced_cons (PySem.ESX.ldL F.ns hv2 (Calls.spliced_nil q) S.kind lp2 hp20)) S.kind lp1 hp0)
  · obtain ⟨e0, e1, e2⟩ := N2 (e, excObj C t1 none .none) (List.mem_cons_self ..)
    refine _root_.PySem.wpAt_of_wpAny (wpAny_execs_cons (plainObj_wpAny_Assign_Attribute (PySem.ESX.ldL F2.ns hv1 (PySem.ESX.ldL F2.ns hv ?_ S.kind lself hs0) S.kind lp1 hp0) (by rfl)))
    refine xset0 T.bx.sf (X₀.keeps F2.keep) e0 T.sa T.ov ht T.hd fun h3 tk3 dx k3 dn dne hx hn => ?_
    have k4 : ∀ b o, hp.get? b = some o → h3.get? b = some o := fun b o eb => k3 b o (fun z => by rw [z, fe] at eb; cases eb) (F2.keep b o eb)
    obtain ⟨oL, es5, ep5, eL, hL⟩ := F2.ns
    have dL : dx ≠ hp2.objs.size := Nat.ne_of_gt (Nat.lt_of_lt_of_le (Heap.lt_size eL) dn)
    have eLne : hp2.objs.size ≠ e := fun z => by
      have := Heap.lt_size he
      rw [← z] at this
      exact absurd this (Nat.lt_irrefl _)
    have nsL : h3.Ns hp2.objs.size (fun y => [(ar.arg, Value.ref e), (p1, u), (p2, u2)].reverse.lookup y) := ⟨oL, es5, ep5, k3 _ _ eLne eL, hL⟩
    refine wpAny_execs_cons (plainObj_wpAny_Assign_Attribute (PySem.ESX.ldL nsL hv2 (PySem.ESX.ldL nsL hv ?_ S.kind lself hs0) S.kind lp2 hp20) (by rfl))
    have wi : Within (fun y => if y = f1 then some u else none) [f1] := Within.cons f1 u Within.nil
    refine xsetD T.bx.sf (X₀.keeps k4) hx hn wi (by simp) T.sa T.ov ht2 T.hd fun h5 tk5 k5 hn5 => wpAny_execs_nil ?_
    have dhp : hp.objs.size ≤ dx := Nat.le_trans hsz (Nat.le_trans (Nat.le_of_lt (Heap.lt_size eL)) dn)
    have k6 : ∀ b o, hp.get? b = some o → h5.get? b = some o := fun b o eb => k5 b o (fun z => by
      have := Heap.lt_size eb
      rw [z] at this
      exact absurd (Nat.lt_of_lt_of_le this dhp) (Nat.lt_irrefl _)) (k4 b o eb)
    exact h h5 tk5 t1 dx k6 (k5 _ _ (Ne.symm dne) hx) dhp dne hn5
end
/-- own classes: their instances are made, raised -/
structure XOne (prog : Program) (K : PySem.W.Frag) (mg : Str → Option Value) (C : Addr) (f1 : Str) : Prop where
  ex : ∃ fI cc cda B newId initId bmB, XKey prog K mg C fI cc cda B newId initId bmB ∧ Init1 K fI cc cda f1
  ht : takerIn K C f1 = some none
  kC : keepIn K (.ref C) = true
  sE : subIn K (.ref C) (.type "BaseException") = some true
  tC : typeIn K (.ref C) = some (.type "type")
structure XTwo (prog : Program) (K : PySem.W.Frag) (mg : Str → Option Value) (C : Addr) (f1 f2 : Str) : Prop where
  ex : ∃ fI cc cda B newId initId bmB, XKey prog K mg C fI cc cda B newId initId bmB ∧ Init2 K fI cc cda f1 f2
  ht : takerIn K C f1 = some none
  ht2 : takerIn K C f2 = some none
  kC : keepIn K (.ref C) = true
  sE : subIn K (.ref C) (.type "BaseException") = some true
  tC : typeIn K (.ref C) = some (.type "type")
section
variable {X : Cx} {pins : List (Addr × Obj)} {σ : L2.St} {H : Hp} {s : Shared} {Q : XK} {C : Addr}
/-- what a made exception leaves -/
theorem mk_xd {e t1 dx : Addr} {m0 : Str → Option Value} {fs : List (Str × V)} {h' : Heap} {tk' : Nat} (sE : subIn X.K (.ref C) (.type "BaseException") = some true) (tC : typeIn X.K (.ref C) = some (.type "type")) (I : L2.Inv X pins σ H s)
    (fe : s.heap.get? e = none) (ne' : s.heap.objs.size ≤ e) (k : ∀ b o, s.heap.get? b = some o → h'.get? b = some o) (he : h'.get? e = some (excObj C t1 (some dx) .none)) (hd : s.heap.objs.size ≤ dx) (dne : dx ≠ e) (hn : h'.Ns1 dx m0) (rel : ∀ f, RelO (fs.lookup f) (m0 f))
    (q : Q (.ref C) (some dx) (upd H dx (.xd fs))) : MkP X pins σ Q (.ref e) { s with heap := h', toks := tk' } := by
  obtain ⟨G, g1, g2⟩ := L2.restrict h' fun b => decide (b ≠ e)
  have gk : ∀ b, b ≠ e → G.get? b = h'.get? b := fun b hb => g1 b (decide_eq_true hb)
  have ge : G.get? e = none := g2 e (by simp)
  have kG : ∀ b o, s.heap.get? b = some o → G.get? b = some o := fun b o eb => by
    rw [gk b (fun z => by rw [z, fe] at eb; cases eb)]
    exact k b o eb
  have hnd : H dx = none := I.hok.fresh hd
  have hne : H e = none := I.hok.fresh ne'
  have J : L2.Inv X pins σ (upd H dx (.xd fs)) { s with heap := G, toks := tk' } := I.laid (t' := tk') kG hd ⟨m0, hn.at fun o y => (gk dx dne).trans y, rel⟩
  refine ⟨e, _, _, { s with heap := G, toks := tk' }, _, .ref C, some dx, rfl, J, fun b o eb => ?_, ge, he, ⟨rfl, rfl⟩, rfl, rfl, ?_, rfl, I.bare, raises_own sE tC, q⟩
  · by_cases hb : b = e
    · rw [hb, ge] at eb
      cases eb
    · exact (gk b hb).symm.trans eb
  · rw [upd_ne (Ne.symm dne)]
    exact hne
end
section
variable {X : Cx} {x : Str} {C : Addr} {f1 f2 : Str} {e : Expr} {es : List Expr} {t : TA} {p pos : Pos}
def tXc1 (C : Addr) (f1 : Str) (t : TA) : L2.St → Hp → XK → Prop := fun σ H Q => t σ H fun vs H1 => ∃ v, vs = [v] ∧ ∀ d, H1 d = none → Q (.ref C) (some d) (upd H1 d (.xd [(f1, v)]))
def tXc2 (C : Addr) (f1 f2 : Str) (t : TA) : L2.St → Hp → XK → Prop := fun σ H Q => t σ H fun vs H1 => ∃ v v2, vs = [v, v2] ∧ ∀ d, H1 d = none → Q (.ref C) (some d) (upd H1 d (.xd [(f2, v2), (f1, v)]))
theorem md_of {pins : List (Addr × Obj)} {σ : L2.St} {H : Hp} {s : Shared} (I : L2.Inv X pins σ H s) : Mod X.K X.mg s.heap :=
  have b := I.bk
  ⟨I.kIn, I.ok.mod.glob.keeps b, let ⟨mb, h1, h2⟩ := I.ok.mod.blt; ⟨mb, h1.keeps b, h2⟩, I.nolimit⟩
theorem relO_one {f : Str} {y : V} {u : Value} (r : RelV y u) (g : Str) : RelO (([(f, y)] : List (Str × V)).lookup g) (if g = f then some u else none) := by
  rw [lk_put]
  by_cases h : g = f
  · rw [if_pos h, if_pos h]
    exact r
  · rw [if_neg h, if_neg h]
    exact True.intro
theorem relO_two {f f' : Str} {y y' : V} {u u' : Value} (r : RelV y u) (r' : RelV y' u') (g : Str) : RelO (([(f', y'), (f, y)] : List (Str × V)).lookup g) (if g = f' then some u' else if g = f then some u else none) := by
  rw [lk_put]
  by_cases h : g = f'
  · rw [if_pos h, if_pos h]
    exact r'
  · rw [if_neg h, if_neg h]
    exact relO_one r g
theorem mk_one (T : XOne X.prog X.K X.mg C f1) (hr : Room 1 X.A) (hg : Gl X x) (hm : X.mg x = some (.ref C)) (ha : PA X [e] t) (hdb : (x == ("__debug__" : Str)) = false := by decide)
    (he : starEach [e] X.env = (false, eval e X.env) :: starEach [] X.env := by rfl) : PMk X (.Call (.Name x p) [e] [] pos) (tXc1 C f1 t) := by
  intro pins s σ H Q I h
  obtain ⟨fI, cc, cda, B, newId, initId, bmB, K1, J1⟩ := T.ex
  refine wpAny_Call_Name_kw (ld_glob I hg hm ?_ hdb)
  refine PySem.W.callWith_K (h₀ := X.base) I.ok.mod.kin T.kC (thn (ha.run pos pins s σ H _ I h) fun us s1 ⟨vs, H1, I1, r1, v, ev, q1⟩ => ⟨I1.kIn, ?_⟩) he (by rfl)
  subst ev
  obtain ⟨u, rfl, ru⟩ := vals1 r1
  show wpAny _ _ (call (.ref C) [u]) _ _ _
  obtain ⟨nm, N', qn, bs, bm, hdct, sn, sub, ab, col, dd, k0, k1, k2, k3, k5, hC, hT⟩ := excInit_of I1.kIn K1.q
  have md := md_of I1
  have hi := PySem.W.looks_findIn (M := model X.prog X.w) I1.kIn K1.hi
  have kIn1 := I1.kIn
  obtain ⟨hp, g, dr, tk, os⟩ := s1
  have kk : ∀ b o, hp.get? b = some o → ((hp.push (PySem.W.kdv_tup [u])).push (PySem.HandSPX.excO C hp.objs.size)).get? b = some o := fun b o e => Heap.get?_push_of_some _ (Heap.get?_push_of_some _ e)
  have hget : ((hp.push (PySem.W.kdv_tup [u])).push (PySem.HandSPX.excO C hp.objs.size)).get? (hp.objs.size + 1) = some (PySem.HandSPX.excO C hp.objs.size) := by heap_get
  have hgt : ((hp.push (PySem.W.kdv_tup [u])).push (PySem.HandSPX.excO C hp.objs.size)).get? hp.objs.size = some (PySem.W.kdv_tup [u]) := Heap.get?_push_of_some _ (Heap.get?_push_at rfl rfl)
  have none0 : ∀ {n : Nat}, hp.objs.size ≤ n → hp.get? n = none := fun {n} hn => by
    cases z : hp.get? n with
    | none => rfl
    | some o => exact absurd (Nat.lt_of_lt_of_le (Heap.lt_size z) hn) (Nat.lt_irrefl _)
  refine wpAny_call (PySem.HandSPX.call_own K1.bx.fb hT hC hi (fun self => PySem.W.bind_fn kIn1 self K1.ty) (by show 1 ≤ sizeLine; rw [sizeLine_eq]; decide) ?_)
  refine call_init1 (hp := hp) K1 J1 T.ht kIn1 md (hr.make C [u] []).depth kk hget hgt (by rw [Heap.size_push, Heap.size_push]; omega) (Nat.succ_ne_self _) (none0 (Nat.le_succ _)) (none0 (Nat.le_refl _)) fun h' tk' t1 dx k h1 h2 h3 h4 => ?_
  refine ⟨rfl, ?_⟩
  exact mk_xd T.sE T.tC I1 (none0 (Nat.le_succ _)) (Nat.le_succ _) k h1 h2 h3 h4 (relO_one ru) (q1 dx (I1.hok.fresh h2))
theorem mk_two (T : XTwo X.prog X.K X.mg C f1 f2) (hr : Room 1 X.A) (hg : Gl X x) (hm : X.mg x = some (.ref C)) {e2 : Expr} (ha : PA X [e, e2] t) (hdb : (x == ("__debug__" : Str)) = false := by decide)
    (he : starEach [e, e2] X.env = (false, eval e X.env) :: starEach [e2] X.env := by rfl) (hpl : (backTo pos (starEach [e2] X.env)).any (·.1) = false := by rfl) : PMk X (.Call (.Name x p) [e, e2] [] pos) (tXc2 C f1 f2 t) := by
  intro pins s σ H Q I h
  obtain ⟨fI, cc, cda, B, newId, initId, bmB, K1, J1⟩ := T.ex
  refine wpAny_Call_Name_kw (ld_glob I hg hm ?_ hdb)
  refine PySem.W.callWith_K (h₀ := X.base) I.ok.mod.kin T.kC (thn (ha.run pos pins s σ H _ I h) fun us s1 ⟨vs, H1, I1, r1, v, v2, ev, q1⟩ => ⟨I1.kIn, ?_⟩) he hpl
  subst ev
  obtain ⟨u, u2, rfl, ru, ru2⟩ := vals2 r1
  show wpAny _ _ (call (.ref C) [u, u2]) _ _ _
  obtain ⟨nm, N', qn, bs, bm, hdct, sn, sub, ab, col, dd, k0, k1, k2, k3, k5, hC, hT⟩ := excInit_of I1.kIn K1.q
  have md := md_of I1
  have hi := PySem.W.looks_findIn (M := model X.prog X.w) I1.kIn K1.hi
  have kIn1 := I1.kIn
  obtain ⟨hp, g, dr, tk, os⟩ := s1
  have kk : ∀ b o, hp.get? b = some o → ((hp.push (PySem.W.kdv_tup [u, u2])).push (PySem.HandSPX.excO C hp.objs.size)).get? b = some o := fun b o e => Heap.get?_push_of_some _ (Heap.get?_push_of_some _ e)
  have hget : ((hp.push (PySem.W.kdv_tup [u, u2])).push (PySem.HandSPX.excO C hp.objs.size)).get? (hp.objs.size + 1) = some (PySem.HandSPX.excO C hp.objs.size) := by heap_get
  have hgt : ((hp.push (PySem.W.kdv_tup [u, u2])).push (PySem.HandSPX.excO C hp.objs.size)).get? hp.objs.size = some (PySem.W.kdv_tup [u, u2]) := Heap.get?_push_of_some _ (Heap.get?_push_at rfl rfl)
  have none0 : ∀ {n : Nat}, hp.objs.size ≤ n → hp.get? n = none := fun {n} hn => by
    cases z : hp.get? n with
    | none => rfl
    | some o => exact absurd (Nat.lt_of_lt_of_le (Heap.lt_size z) hn) (Nat.lt_irrefl _)
  refine wpAny_call (PySem.HandSPX.call_own K1.bx.fb hT hC hi (fun self => PySem.W.bind_fn kIn1 self K1.ty) (by show 2 ≤ sizeLine; rw [sizeLine_eq]; decide) ?_)
  refine call_init2 (hp := hp) K1 J1 T.ht T.ht2 kIn1 md (hr.make C [u, u2] []).depth kk hget hgt (by rw [Heap.size_push, Heap.size_push]; omega) (Nat.succ_ne_self _) (none0 (Nat.le_succ _)) (none0 (Nat.le_refl _)) fun h' tk' t1 dx k h1 h2 h3 h4 => ?_
  refine ⟨rfl, ?_⟩
  exact mk_xd T.sE T.tC I1 (none0 (Nat.le_succ _)) (Nat.le_succ _) k h1 h2 h3 h4 (relO_two ru ru2) (q1 dx (I1.hok.fresh h2))
/-- X(), a class without an __init__ of its own -/
theorem mk_own0 {bmB : List Value} {B newId initId : String} (F : ExcBaseFacts B newId initId bmB) (q : PySem.W.excIn X.K C bmB newId = true) (kC : PySem.W.keepIn X.K (.ref C) = true) (sE : subIn X.K (.ref C) (.type "BaseException") = some true) (tC : typeIn X.K (.ref C) = some (.type "type")) (hg : Gl X x) (hm : X.mg x = some (.ref C))
    (hdb : (x == ("__debug__" : Str)) = false := by decide) : PMk X (.Call (.Name x p) [] [] pos) (fun _ H Q => Q (.ref C) none H) := by
  intro pins s σ H Q I h
  refine wpAny_Call_Name_kw (ld_glob I hg hm (PySem.W.callWith_K0 I.kIn kC ?_) hdb)
  obtain ⟨bm, N, nm, qn, bs, hdct, sn, sub, ab, col, dd, k0, k1, k2, k3, k5, mN, hC, hN, hni, T⟩ := exc_obj I.kIn q
  refine wpAny_call_exc_subT F T hC hN hni (fun h' e hmx => ?_) (by show 0 ≤ sizeLine; exact Nat.zero_le _)
  exact mk_of I hmx (raises_own sE tC) h (I.hok.gone hmx.new)
end
end Xm
end L3
namespace L3
open PySem L2
variable [Tbs]
/-! ### wishes about exceptions -/
theorem wx_takes {X : Cx} : Takes X (Wx X) := fun u s' ⟨a, B, sI, pins, σ, H, cls, d, e, I, nb, up, sky, na, os, ag, w⟩ => w u s' ⟨a, B, sI, pins, σ, H, cls, d, e, I, nb, up, sky, na, os, ag, rfl, rfl, rfl, rfl⟩
theorem wx_of {X : Cx} {W : WX} {cls : Value} {d : Option Addr} {σ : St} {H : Hp} (tk : Takes X W) (w : W cls d σ H) : Wx X cls d σ H := fun u s' ⟨a, B, sI, pins, σ', H', cls', d', e, I, nb, up, sky, na, os, ag, e1, e2, e3, e4⟩ =>
  tk u s' ⟨a, B, sI, pins, σ', H', cls', d', e, I, nb, up, sky, na, os, ag, by rw [e1, e2, e3, e4]; exact w⟩
/-! ### raise -/
section
variable {X : Cx} {e e2 : Expr} {es : List Expr} {t : TAd} {x f1 f2 : Str} {p pos pos2 : Pos} {C : Addr}
def tRaise0 (nm : Str) : TSd := fun D E => D.ex ⟨nm, []⟩ E
def tRaise1 (nm f1 : Str) (t : TAd) : TSd := fun D E => t E fun ds E1 => match ds with
  | [d] => D.ex ⟨nm, [(f1, d)]⟩ E1
  | _ => False
def tRaise2 (nm f1 f2 : Str) (t : TAd) : TSd := fun D E => t E fun ds E1 => match ds with
  | [d, d2] => D.ex ⟨nm, [(f2, d2), (f1, d)]⟩ E1
  | _ => False
theorem s_raise0 {bmB : List Value} {B newId initId : String} (F : ExcBaseFacts B newId initId bmB) (q : PySem.W.excIn X.K C bmB newId = true) (kC : PySem.W.keepIn X.K (.ref C) = true) (sE : PySem.W.subIn X.K (.ref C) (.type "BaseException") = some true) (tC : PySem.W.typeIn X.K (.ref C) = some (.type "type"))
    (hm : X.mg x = some (.ref C)) (hc : X.calm = true := by rfl) (hg : Gl X x := by rfl) (hdb : (x == ("__debug__" : Str)) = false := by decide) : PSd X (.Raise (some (.Call (.Name x p) [] [] pos2)) none pos) (tRaise0 x) :=
  ps_imp (ps_raise hc wx_takes (Xm.mk_own0 F q kC sE tC hg hm hdb)) fun D σ H ⟨en, Hf, F, E, Dd, S, h, k1, k2, k3, k4, k5⟩ => k5 _ _ _ _ _ _ _ _ (Same.refl _) S ⟨⟨C, rfl⟩, hm, .inl ⟨rfl, rfl⟩⟩ h
theorem s_raise1 (T : Xm.XOne X.prog X.K X.mg C f1) (hr : Room 1 X.A) (hm : X.mg x = some (.ref C)) (ha : PAd X [e] t) (hc : X.calm = true := by rfl) (hg : Gl X x := by rfl) (hdb : (x == ("__debug__" : Str)) = false := by decide)
    (he : starEach [e] X.env = (false, eval e X.env) :: starEach [] X.env := by rfl) : PSd X (.Raise (some (.Call (.Name x p) [e] [] pos2)) none pos) (tRaise1 x f1 t) :=
  ps_imp (ps_raise hc wx_takes (Xm.mk_one T hr hg hm ha hdb he)) fun D σ H ⟨en, Hf, F, E, Dd, S, h, k1, k2, k3, k4, k5⟩ => ⟨en, Hf, F, E, _, S, h, fun vs H1 Hf1 F1 E1 ds s1 S1 r1 h1 => by
    split at h1
    · obtain ⟨v, rfl, r⟩ := r1.one
      refine ⟨v, rfl, fun d nd => ?_⟩
      have s2 : Same Hf1 (upd Hf1 d (.xd [(f1, v)])) := same_upd (S1.sf.free nd)
      exact k5 _ _ _ _ _ _ _ _ (s1.trans s2) (S1.new _ nd) ⟨⟨C, rfl⟩, hm, .inr ⟨d, _, rfl, upd_same, .cons (r.mono s2) .nil⟩⟩ h1
    · exact h1.elim⟩
theorem s_raise2 (T : Xm.XTwo X.prog X.K X.mg C f1 f2) (hr : Room 1 X.A) (hm : X.mg x = some (.ref C)) (ha : PAd X [e, e2] t) (hc : X.calm = true := by rfl) (hg : Gl X x := by rfl) (hdb : (x == ("__debug__" : Str)) = false := by decide)
    (he : starEach [e, e2] X.env = (false, eval e X.env) :: starEach [e2] X.env := by rfl) (hpl : (backTo pos2 (starEach [e2] X.env)).any (·.1) = false := by rfl) : PSd X (.Raise (some (.Call (.Name x p) [e, e2] [] pos2)) none pos) (tRaise2 x f1 f2 t) :=
  ps_imp (ps_raise hc wx_takes (Xm.mk_two T hr hg hm ha hdb he hpl)) fun D σ H ⟨en, Hf, F, E, Dd, S, h, k1, k2, k3, k4, k5⟩ => ⟨en, Hf, F, E, _, S, h, fun vs H1 Hf1 F1 E1 ds s1 S1 r1 h1 => by
    split at h1
    · obtain ⟨v, v2, rfl, r, r2⟩ := r1.two
      refine ⟨v, v2, rfl, fun d nd => ?_⟩
      have s2 : Same Hf1 (upd Hf1 d (.xd [(f2, v2), (f1, v)])) := same_upd (S1.sf.free nd)
      exact k5 _ _ _ _ _ _ _ _ (s1.trans s2) (S1.new _ nd) ⟨⟨C, rfl⟩, hm, .inr ⟨d, _, rfl, upd_same, .cons (r2.mono s2) (.cons (r.mono s2) .nil)⟩⟩ h1
    · exact h1.elim⟩
end
/-! ### expressions that may raise -/
abbrev TXd := (Xd → En → Prop) → TEd
abbrev TAXd := (Xd → En → Prop) → TAd
def liftX (X : Cx) (t : TXd) : TE := fun σ H Q => ∃ en Hf F E Qd Wd, Sat X.K en Hf H F E σ ∧ t Wd E Qd ∧
  (∀ v H' Hf' F' E' d, Same Hf Hf' → Sat X.K en Hf' H' F' E' σ → Rep X.K Hf' v d → Qd d E' → Q v H') ∧
  (∀ cls x H' Hf' F' E' d, Same Hf Hf' → Sat X.K en Hf' H' F' E' σ → XRep X.K X.mg Hf' cls d x → Wd x E' → Wx X cls d σ H')
def liftAX (X : Cx) (t : TAXd) : TA := fun σ H Q => ∃ en Hf F E Qd Wd, Sat X.K en Hf H F E σ ∧ t Wd E Qd ∧
  (∀ vs H' Hf' F' E' ds, Same Hf Hf' → Sat X.K en Hf' H' F' E' σ → RepL X.K Hf' vs ds → Qd ds E' → Q vs H') ∧
  (∀ cls x H' Hf' F' E' d, Same Hf Hf' → Sat X.K en Hf' H' F' E' σ → XRep X.K X.mg Hf' cls d x → Wd x E' → Wx X cls d σ H')
abbrev PXd (X : Cx) (e : Expr) (t : TXd) : Prop := PE X e (liftX X t)
abbrev PAXd (X : Cx) (es : List Expr) (t : TAXd) : Prop := PA X es (liftAX X t)
section
variable {X : Cx} {a b c e : Expr} {es : List Expr} {t : TAd} {ta : TEd} {te tf : TXd} {tx ty : TAXd} {pos : Pos}
def tOfX (t : TEd) : TXd := fun _ => t
def tOfAX (t : TAd) : TAXd := fun _ => t
theorem x_of (h : PEd X e ta) : PXd X e (tOfX ta) := pe_imp h fun σ H Q ⟨en, Hf, F, E, Qd, Wd, S, h, k, _⟩ => ⟨en, Hf, F, E, Qd, S, h, k⟩
theorem ax_of (h : PAd X es t) : PAXd X es (tOfAX t) := pa_imp h fun σ H Q ⟨en, Hf, F, E, Qd, Wd, S, h, k, _⟩ => ⟨en, Hf, F, E, Qd, S, h, k⟩
def tConsAX (ta : TXd) (tr : TAXd) : TAXd := fun W E Q => ta W E fun x E1 => tr W E1 fun xs E2 => Q (x :: xs) E2
theorem ax_cons (ha : PXd X e te) (hr : PAXd X es tx) (hs : starEach (e :: es) X.env = (false, eval e X.env) :: starEach es X.env := by rfl) : PAXd X (e :: es) (tConsAX te tx) :=
  pa_imp (pa_cons ha hr hs) fun σ H Q ⟨en, Hf, F, E, Qd, Wd, S, h, k, kx⟩ =>
    ⟨en, Hf, F, E, _, Wd, S, h, fun v H1 Hf1 F1 E1 x s1 S1 r1 h1 => ⟨en, Hf1, F1, E1, _, Wd, S1, h1, fun vs H2 Hf2 F2 E2 xs s2 S2 r2 h2 =>
      k _ _ _ _ _ _ (s1.trans s2) S2 (.cons (r1.mono s2) r2) h2, fun _ _ _ _ _ _ _ s2 => kx _ _ _ _ _ _ _ (s1.trans s2)⟩, kx⟩
/-- any rule that asks its arguments first -/
def tBindX (tx : TAXd) (r : List D → En → (D → En → Prop) → Prop) : TXd := fun W E Q => tx W E fun ds E1 => r ds E1 Q
def tBind1 (te : TXd) (r : D → En → (D → En → Prop) → Prop) : TXd := fun W E Q => te W E fun d E1 => r d E1 Q
theorem x_tup {x1} (h : PAXd X es tx) : PXd X (.Tuple es x1 pos) (tBindX tx fun xs E Q => xs.length ≤ sizeLine ∧ Q (.tup xs) E) :=
  pe_imp (pe_tup h) fun σ H Q ⟨en, Hf, F, E, Qd, Wd, S, h, k, kx⟩ =>
    ⟨en, Hf, F, E, _, Wd, S, h, fun vs H1 Hf1 F1 E1 xs s1 S1 r1 h1 => ⟨by rw [r1.length]; exact h1.1, fun p np => by
      have s2 : Same Hf1 (upd Hf1 p (.tup vs)) := same_upd (S1.sf.free np)
      exact k _ _ _ _ _ _ (s1.trans s2) (S1.new _ np) (.tup (.inl (.inl upd_same)) (r1.mono s2)) h1.2⟩, kx⟩
theorem x_lst (h : PAXd X es tx) : PXd X (.List es pos) (tBindX tx fun xs E Q => xs.length ≤ sizeLine ∧ Q (.lst xs) E) :=
  pe_imp (pe_lst h) fun σ H Q ⟨en, Hf, F, E, Qd, Wd, S, h, k, kx⟩ =>
    ⟨en, Hf, F, E, _, Wd, S, h, fun vs H1 Hf1 F1 E1 xs s1 S1 r1 h1 => ⟨by rw [r1.length]; exact h1.1, fun p np => by
      have s2 : Same Hf1 (upd Hf1 p (.lst vs)) := same_upd (S1.sf.free np)
      exact k _ _ _ _ _ _ (s1.trans s2) (S1.new _ np) (.lst upd_same (r1.mono s2)) h1.2⟩, kx⟩
/-- operators of two, comparisons -/
def tOpX (rd : RD) (ta tb : TXd) : TXd := fun W E Q => ta W E fun x E1 => tb W E1 fun y E2 => rd x y E2 Q
theorem lift2X {r : R2} {rd : RD} (hk : OpOk X.K r rd) : ∀ σ H Q, liftX X (tOpX rd te tf) σ H Q → tOp r (liftX X te) (liftX X tf) σ H Q := fun σ H Q ⟨en, Hf, F, E, Qd, Wd, S, h, k, kx⟩ =>
  ⟨en, Hf, F, E, _, Wd, S, h, fun v1 H1 Hf1 F1 E1 x s1 S1 r1 h1 => ⟨en, Hf1, F1, E1, _, Wd, S1, h1, fun v2 H2 Hf2 F2 E2 y s2 S2 r2 h2 =>
    hk en Hf2 H2 F2 E2 σ v1 v2 x y Q Qd S2 (r1.mono s2) r2 h2 fun v H' Hf' F' E' d s3 S3 r3 h3 => k v H' Hf' F' E' d ((s1.trans s2).trans s3) S3 r3 h3, fun _ _ _ _ _ _ _ s2 => kx _ _ _ _ _ _ _ (s1.trans s2)⟩, kx⟩
theorem x_op {op : Operator} {r : R2} {rd : RD} (ho : OpR X (binaryOp op) r) (hk : OpOk X.K r rd) (ha : PXd X a te) (hb : PXd X b tf) : PXd X (.BinOp a op b pos) (tOpX rd te tf) := pe_imp (pe_op ho ha hb) (lift2X hk)
theorem x_cmp {op : CmpOp} {r : R2} {rd : RD} (ho : OpR X (compareOp op) r) (hk : OpOk X.K r rd) (ha : PXd X a te) (hb : PXd X b tf) (hm : behindInMarks op b = false) : PXd X (.Compare a [op] [b] pos) (tOpX rd te tf) := pe_imp (pe_cmpR ho ha hb hm) (lift2X hk)
theorem x_ix (ha : PXd X a te) (hb : PXd X b tf) (hs : PlainIx b := by exact fun _ _ => rfl) : PXd X (.Subscript a b pos) (tOpX rdIx te tf) := pe_imp (pe_ix ix_seq ha hb hs) (lift2X ok_ix)
/-- built-ins by their names -/
theorem lift_cbX {r : List V → Hp → VK → Prop} {rb : RB} (hk : CallOk X.K r rb) : ∀ σ H Q, liftX X (tBindX tx rb) σ H Q → tCB r (liftAX X tx) σ H Q := fun σ H Q ⟨en, Hf, F, E, Qd, Wd, S, h, k, kx⟩ =>
  ⟨en, Hf, F, E, _, Wd, S, h, fun vs H1 Hf1 F1 E1 ds s1 S1 r1 h1 => hk en Hf1 H1 F1 E1 σ vs ds Q Qd S1 r1 h1 fun v H' Hf' F' E' d s2 S2 r2 h2 => k v H' Hf' F' E' d (s1.trans s2) S2 r2 h2, kx⟩
theorem x_callB {x : Str} {p : Pos} {id : String} {r : List V → Hp → VK → Prop} {rb : RB} (hc : CallR X (.builtin id) r) (hk : CallOk X.K r rb) (hm : X.mg x = none) (hv : bootBuiltins x = some (.builtin id)) (ha : PAXd X (e :: es) tx) (hg : Gl X x := by rfl) (hn : x ≠ "__name__" := by decide) (hdb : (x == ("__debug__" : Str)) = false := by decide)
    (he : starEach (e :: es) X.env = (false, eval e X.env) :: starEach es X.env := by rfl) (hpl : (backTo pos (starEach es X.env)).any (·.1) = false := by rfl) : PXd X (.Call (.Name x p) (e :: es) [] pos) (tBindX tx rb) :=
  pe_imp (pe_callB hc hg hm hv ha hn hdb he hpl) (lift_cbX hk)
theorem x_callT {x : Str} {p : Pos} {T : String} {r : List V → Hp → VK → Prop} {rb : RB} (hc : CallR X (.type T) r) (hk : CallOk X.K r rb) (hm : X.mg x = none) (hv : bootBuiltins x = some (.type T)) (ha : PAXd X (e :: es) tx) (hg : Gl X x := by rfl) (hn : x ≠ "__name__" := by decide) (hdb : (x == ("__debug__" : Str)) = false := by decide)
    (he : starEach (e :: es) X.env = (false, eval e X.env) :: starEach es X.env := by rfl) (hpl : (backTo pos (starEach es X.env)).any (·.1) = false := by rfl) : PXd X (.Call (.Name x p) (e :: es) [] pos) (tBindX tx rb) :=
  pe_imp (pe_callTy hc hg hm hv ha hn hdb he hpl) (lift_cbX hk)
/-- a def without exceptions, its arguments may raise -/
theorem x_call {CX : CXT} {k : Nat} {f : Addr} {fd : FuncData} {ps : List Str} {sp : SpP} {E : XK} {x : Str} {p : Pos} (F : FnG X.prog X.w X.K X.mg X.base CX k f fd ps (liftP X.K sp)) (hgd : X.A.guards = some []) (hr : Room k X.A) (hm : X.mg x = some (.ref f)) (hk : PySem.W.keepIn X.K (.ref f) = true) (hb : Binds X.K fd ps []) (hx : Passes CX X E)
    (ha : PAXd X (e :: es) tx) (hg : Gl X x := by rfl) (hdb : (x == ("__debug__" : Str)) = false := by decide) (he : starEach (e :: es) X.env = (false, eval e X.env) :: starEach es X.env := by rfl) (hpl : (backTo pos (starEach es X.env)).any (·.1) = false := by rfl) :
    PXd X (.Call (.Name x p) (e :: es) [] pos) (tBindX tx fun ds E Q => sp ds fun d => Q d E) :=
  pe_imp (pe_callG F hgd hr hg hm hk hb hx ha hdb he hpl) fun σ H Q ⟨en, Hf, F, E, Qd, Wd, S, h, k, kx⟩ => ⟨en, Hf, F, E, _, Wd, S, h, fun vs H1 Hf1 F1 E1 ds s1 S1 r1 h1 => by
    exact ⟨Hf1, ds, _, S1.sf, r1, h1, fun v H' Hf' d s2 s3 s4 g r q => k _ _ _ _ _ _ (s1.trans s2) (S1.grow s2 s3 s4 g) r q⟩, kx⟩
end
end L3
namespace L3
open PySem L2
variable [Tbs]
/-! ### defs that may raise -/
abbrev SpX := List D → (D → Prop) → (Xd → Prop) → Prop
def liftPX (K : PySem.W.Frag) (mg : Str → Option Value) (sp : SpX) : Sp := fun vs H Q Ex => ∃ Hf ds Qd Wd, Same Hf H ∧ RepL K Hf vs ds ∧ sp ds Qd Wd ∧
  (∀ v H' Hf' d, Same Hf Hf' → Same Hf' H' → Same H H' → (∀ p o, Hf' p = some o → Hf p = some o ∨ H p = none) → Rep K Hf' v d → Qd d → Q v H') ∧
  (∀ cls x d H' Hf', Same Hf Hf' → Same Hf' H' → Same H H' → (∀ p o, Hf' p = some o → Hf p = some o ∨ H p = none) → XRep K mg Hf' cls d x → Wd x → Ex cls d H')
/-- .. whose first argument may be changed -/
abbrev SoX := Ow → List D → (D → Ow → Prop) → (Xd → Ow → Prop) → Prop
def liftOX (K : PySem.W.Frag) (mg : Str → Option Value) (sp : SoX) : Sp := fun vs H Q Ex => ∃ Hf v0 ws o fp ds Qd Wd, vs = v0 :: ws ∧ Same Hf H ∧ OwRep K Hf H v0 o fp ∧ (∀ p ∈ fp, Hf p = none) ∧ RepL K Hf ws ds ∧ sp o ds Qd Wd ∧
  (∀ v H' Hf' d o', Same Hf Hf' → Same Hf' H' → (∀ p u, p ∉ fp → H p = some u → H' p = some u) → (∀ p u, H p = some u → ∃ u', H' p = some u') → (∀ p u, Hf' p = some u → Hf p = some u ∨ H p = none) →
    OwRep K Hf' H' v0 o' fp → Rep K Hf' v d → Qd d o' → Q v H') ∧
  (∀ cls x d H' Hf' o', Same Hf Hf' → Same Hf' H' → (∀ p u, p ∉ fp → H p = some u → H' p = some u) → (∀ p u, H p = some u → ∃ u', H' p = some u') → (∀ p u, Hf' p = some u → Hf p = some u ∨ H p = none) →
    OwRep K Hf' H' v0 o' fp → XRep K mg Hf' cls d x → Wd x o' → Ex cls d H')
section
variable {X : Cx} {k : Nat} {f : Addr} {fd : FuncData} {ps : List Str} {sp : Sp} {E : St → XK} {x : Str} {p pos : Pos} {e : Expr} {es : List Expr} {t : TA} {CX : CXT}
theorem run_GS {pins : List (Addr × Obj)} {σ : St} {H : Hp} {s : Shared} {Q : VK} {us : List Value} {vs : List V} (F : FnG X.prog X.w X.K X.mg X.base CX k f fd ps sp) (hgd : X.A.guards = some []) (hr : Room k X.A) (hb : Binds X.K fd ps []) (hx : PassesAt CX X σ (E σ))
    (I : Inv X pins σ H s) (r : Vals vs us) (h : sp vs H Q (E σ)) : wpAny (model X.prog X.w) X.A (call (.ref f) us) (EP X pins σ Q) X.xe s := by
  have lu : us.length = ps.length := r.length.symm.trans (F.len _ _ _ _ h)
  have bt : BindsTo s fd ⟨us, []⟩ (ps.zip us) := by
    have z := hb s us I.kIn (by rw [List.append_nil]; exact lu)
    rw [List.append_nil] at z
    exact z
  refine wpAny_call (codeAny_mono (F.run X.A hgd hr X.stack s H ⟨us, []⟩ us vs Q (E σ) I.env0 bt r h) fun res s' q => ?_)
  match res, q with
  | .error err, q => exact hx pins H s err s' I q
  | .ok (.ret u), q => exact I.after q
theorem pe_callGS (F : FnG X.prog X.w X.K X.mg X.base CX k f fd ps sp) (hgd : X.A.guards = some []) (hr : Room k X.A) (hg : Gl X x) (hm : X.mg x = some (.ref f)) (hk : PySem.W.keepIn X.K (.ref f) = true) (hb : Binds X.K fd ps []) (hx : ∀ σ, PassesAt CX X σ (E σ)) (ha : PA X (e :: es) t)
    (hdb : (x == ("__debug__" : Str)) = false := by decide) (he : starEach (e :: es) X.env = (false, eval e X.env) :: starEach es X.env := by rfl) (hpl : (backTo pos (starEach es X.env)).any (·.1) = false := by rfl) :
    PE X (.Call (.Name x p) (e :: es) [] pos) (fun σ H Q => t σ H fun vs H1 => sp vs H1 Q (E σ)) :=
  ⟨fun pins s σ H Q I h => wpAny_Call_Name_kw (ld_glob I hg hm (PySem.W.callWith_K (h₀ := X.base) I.ok.mod.kin hk
    (thn (ha.run pos pins s σ H _ I h) fun us s1 ⟨vs, H1, I1, r, q⟩ => ⟨I1.kIn, run_GS F hgd hr hb (hx σ) I1 r q⟩) he hpl) hdb)⟩
end
section
variable {X : Cx} {k : Nat} {f : Addr} {fd : FuncData} {ps : List Str} {sp : SpX} {so : SoX} {x : Str} {p pos : Pos} {e : Expr} {es : List Expr} {tx : TAXd} {t : TAd}
abbrev wxe (X : Cx) : St → XK := fun σ cls d H => Wx X cls d σ H
theorem wx_pass {X : Cx} (σ : St) : PassesAt (L2.CX X.prog X.w) X σ (wxe X σ) := passAt wx_takes σ
def tCallX (sp : SpX) (tx : TAXd) : TXd := fun W E Q => tx W E fun ds E1 => sp ds (fun d => Q d E1) (fun x => W x E1)
theorem x_callX (F : FnG X.prog X.w X.K X.mg X.base (L2.CX X.prog X.w) k f fd ps (liftPX X.K X.mg sp)) (hgd : X.A.guards = some []) (hr : Room k X.A) (hm : X.mg x = some (.ref f)) (hk : PySem.W.keepIn X.K (.ref f) = true) (hb : Binds X.K fd ps [])
    (ha : PAXd X (e :: es) tx) (hg : Gl X x := by rfl) (hdb : (x == ("__debug__" : Str)) = false := by decide) (he : starEach (e :: es) X.env = (false, eval e X.env) :: starEach es X.env := by rfl) (hpl : (backTo pos (starEach es X.env)).any (·.1) = false := by rfl) :
    PXd X (.Call (.Name x p) (e :: es) [] pos) (tCallX sp tx) :=
  pe_imp (pe_callGS F hgd hr hg hm hk hb wx_pass ha hdb he hpl) fun σ H Q ⟨en, Hf, F, E, Qd, Wd, S, h, k, kx⟩ => ⟨en, Hf, F, E, _, Wd, S, h, fun vs H1 Hf1 F1 E1 ds s1 S1 r1 h1 => by
    exact ⟨Hf1, ds, _, _, S1.sf, r1, h1, fun v H' Hf' d s2 s3 s4 g r q => k _ _ _ _ _ _ (s1.trans s2) (S1.grow s2 s3 s4 g) r q, fun cls x d H' Hf' s2 s3 s4 g r q => kx _ _ _ _ _ _ _ (s1.trans s2) (S1.grow s2 s3 s4 g) r q⟩, kx⟩
/-- .. where it raises nothing -/
def tCallN (sp : SpX) (t : TAd) : TEd := fun E Q => t E fun ds E1 => sp ds (fun d => Q d E1) (fun _ => False)
theorem d_callN (F : FnG X.prog X.w X.K X.mg X.base (L2.CX X.prog X.w) k f fd ps (liftPX X.K X.mg sp)) (hgd : X.A.guards = some []) (hr : Room k X.A) (hm : X.mg x = some (.ref f)) (hk : PySem.W.keepIn X.K (.ref f) = true) (hb : Binds X.K fd ps [])
    (ha : PAd X (e :: es) t) (hg : Gl X x := by rfl) (hdb : (x == ("__debug__" : Str)) = false := by decide) (he : starEach (e :: es) X.env = (false, eval e X.env) :: starEach es X.env := by rfl) (hpl : (backTo pos (starEach es X.env)).any (·.1) = false := by rfl) :
    PEd X (.Call (.Name x p) (e :: es) [] pos) (tCallN sp t) :=
  pe_imp (pe_callGS (E := fun _ _ _ _ => False) F hgd hr hg hm hk hb (fun σ => passAt (W := fun _ _ _ _ => False) (fun u s' ⟨_, _, _, _, _, _, _, _, _, _, _, _, _, _, _, _, w⟩ => w.elim) σ) ha hdb he hpl) fun σ H Q ⟨en, Hf, F, E, Qd, S, h, k⟩ => ⟨en, Hf, F, E, _, S, h, fun vs H1 Hf1 F1 E1 ds s1 S1 r1 h1 => by
    exact ⟨Hf1, ds, _, _, S1.sf, r1, h1, fun v H' Hf' d s2 s3 s4 g r q => k _ _ _ _ _ _ (s1.trans s2) (S1.grow s2 s3 s4 g) r q, fun _ _ _ _ _ _ _ _ _ _ w => w.elim⟩⟩
/-- f(x, ..), x (slot j) a thing of ours, or lent to us -/
def tCallOX (j : Nat) (so : SoX) (tx : TAXd) : TXd := fun W E Q => held E j ∧ tx W E fun ds E1 => match E1[j]? with
  | some (.ow b o) => so o ds (fun d o' => Q d (E1.set j (.ow b o'))) (fun x o' => W x (E1.set j (.ow b o')))
  | _ => False
theorem x_callOX (j : Nat) {y : Str} {py : Pos} (F : FnG X.prog X.w X.K X.mg X.base (L2.CX X.prog X.w) k f fd ps (liftOX X.K X.mg so)) (hgd : X.A.guards = some []) (hr : Room k X.A) (hm : X.mg x = some (.ref f)) (hk : PySem.W.keepIn X.K (.ref f) = true) (hb : Binds X.K fd ps [])
    (ha : PAXd X es tx) (hN : X.N[j]? = some y := by rfl) (hv : Vis X.env.scope y := by first | exact Or.inl rfl | exact Or.inr (Or.inl rfl) | exact Or.inr (Or.inr rfl))
    (hyd : (y == ("__debug__" : Str)) = false := by decide) (hyc : (y == ("__classdict__" : Str)) = false := by decide) (hg : Gl X x := by rfl) (hdb : (x == ("__debug__" : Str)) = false := by decide)
    (he : starEach (.Name y py :: es) X.env = (false, eval (.Name y py) X.env) :: starEach es X.env := by rfl) (hpl : (backTo pos (starEach es X.env)).any (·.1) = false := by rfl) :
    PXd X (.Call (.Name x p) (.Name y py :: es) [] pos) (tCallOX j so tx) :=
  pe_imp (pe_callGS F hgd hr hg hm hk hb wx_pass (pa_cons (pv j hN hv hyd hyc) ha he) hdb he hpl) fun σ H Q ⟨en, Hf, F, E, Qd, Wd, S, h, k, kx⟩ => by
    obtain ⟨v0, hv0⟩ := h.1.val S
    refine ⟨v0, hv0, en, Hf, F, E, _, Wd, S, h.2, fun vs H1 Hf1 F1 E1 ds s1 S1 r1 h1 => ?_, kx⟩
    split at h1
    · rename_i b o eo
      obtain ⟨v1, hv1, ro, hl⟩ := S1.own eo
      rw [hv0] at hv1
      cases hv1
      exact ⟨Hf1, v0, vs, o, F1 j, ds, _, _, rfl, S1.sf, ro, fun q hq => (S1.fp j q hq).1, r1, h1, fun v H' Hf' d o' s2 s3 s4 dm g ro' r q =>
        k _ _ _ _ _ _ (s1.trans s2) (S1.change eo hv0 s2 s3 s4 dm g ro') r q, fun cls x d H' Hf' o' s2 s3 s4 dm g ro' r q => kx _ _ _ _ _ _ _ (s1.trans s2) (S1.change eo hv0 s2 s3 s4 dm g ro') r q⟩
    · exact h1.elim
end
/-! ### statements whose expression may raise -/
section
variable {X : Cx} {e c tg : Expr} {te : TXd} {g : TGd} {pos : Pos} {u w : TSd} {p q : List Stmt}
def tRetX (te : TXd) : TSd := fun D E => te D.ex E D.rt
theorem s_retX (he : PXd X e te) : PSd X (.Return (some e) pos) (tRetX te) := ps_imp (ps_ret he) fun D σ H ⟨en, Hf, F, E, Dd, S, h, k1, k2, k3, k4, k5⟩ =>
  ⟨en, Hf, F, E, _, _, S, h, fun v H' Hf' F' E' d s1 S1 r1 q => k4 _ _ _ _ _ _ _ s1 S1 r1 q, fun cls x H' Hf' F' E' d s1 S1 r1 q => k5 _ _ _ _ _ _ _ _ s1 S1 r1 q⟩
def tDropX (te : TXd) : TSd := fun D E => te D.ex E fun _ E1 => D.nx E1
theorem s_exprX (he : PXd X e te) (hs : swapsWith e none pos.line X.env = pure false := by rfl) : PSd X (.Expr e pos) (tDropX te) := ps_imp (ps_expr he hs) fun D σ H ⟨en, Hf, F, E, Dd, S, h, k1, k2, k3, k4, k5⟩ =>
  ⟨en, Hf, F, E, _, _, S, h, fun v H' Hf' F' E' d s1 S1 r1 q => k1 _ _ _ _ _ s1 S1 q, fun cls x H' Hf' F' E' d s1 S1 r1 q => k5 _ _ _ _ _ _ _ _ s1 S1 r1 q⟩
def tAsgX (te : TXd) (g : TGd) : TSd := fun D E => te D.ex E fun x E1 => g x E1 D.nx
theorem s_asgX (he : PXd X e te) (hg : PGd X tg g) (hs : swapsWithSole [tg] e pos.line X.env = pure false := by rfl) (hw : swappedStores [tg] e X.env = pure none := by rfl)
    (h1 : (assignEach [tg] X.env).map (·.2) = [assign tg X.env] := by rfl) : PSd X (.Assign [tg] e pos) (tAsgX te g) := ps_imp (ps_asg he hg hs hw h1) fun D σ H ⟨en, Hf, F, E, Dd, S, h, k1, k2, k3, k4, k5⟩ =>
  ⟨en, Hf, F, E, _, _, S, h, fun v H' Hf' F' E' d s1 S1 r1 q => ⟨en, Hf', F', E', d, _, S1, r1, q, fun _ _ _ _ _ s2 => k1 _ _ _ _ _ (s1.trans s2)⟩, fun cls x H' Hf' F' E' d s1 S1 r1 q => k5 _ _ _ _ _ _ _ _ s1 S1 r1 q⟩
theorem s_setX {i : Nat} {x : Str} {pos' : Pos} (hN : X.N.Nodup) (he : PXd X e te) (hi : X.N[i]? = some x := by rfl) (hx : Loc X.env.scope x := by first | exact .inl rfl | exact .inr rfl) (hs : swapsWith e (some (.Name x pos')) pos.line X.env = pure false := by rfl) (hf : X.fn x = true ∨ X.env.scope.names.lookup x = some .local := by first | exact .inl rfl | exact .inr rfl | assumption) :
    PSd X (.Assign [.Name x pos'] e pos) (tAsgX te (gNameD i)) :=
  ps_imp (ps_set hN hi hx he hs hf) fun D σ H ⟨en, Hf, F, E, Dd, S, h, k1, k2, k3, k4, k5⟩ =>
    ⟨en, Hf, F, E, _, _, S, h, fun v H' Hf' F' E' d s1 S1 r1 q => k1 _ _ _ _ _ s1 (S1.set q.1 r1) q.2, fun cls x H' Hf' F' E' d s1 S1 r1 q => k5 _ _ _ _ _ _ _ _ s1 S1 r1 q⟩
/-- tests -/
abbrev TTXd := (Xd → En → Prop) → TTd
def liftTX (X : Cx) (t : TTXd) : TT := fun σ H Q => ∃ en Hf F E Qd Wd, Sat X.K en Hf H F E σ ∧ t Wd E Qd ∧
  (∀ b H' Hf' F' E', Same Hf Hf' → Sat X.K en Hf' H' F' E' σ → Qd b E' → Q b H') ∧
  (∀ cls x H' Hf' F' E' d, Same Hf Hf' → Sat X.K en Hf' H' F' E' σ → XRep X.K X.mg Hf' cls d x → Wd x E' → Wx X cls d σ H')
abbrev PTXd (X : Cx) (e : Expr) (t : TTXd) : Prop := PT X e (liftTX X t)
def tTruX (te : TXd) : TTXd := fun W E Q => te W E fun x E1 => truD x fun k => Q k E1
theorem tx_val (ha : PXd X c te) (he : ∀ whole, isTrue c X.env whole = (do let v ← whole; standAt c.pos; holding [v] (truthy v)) := by intro _; rfl) : PTXd X c (tTruX te) :=
  pt_imp (pt_truth ha he) fun σ H Q ⟨en, Hf, F, E, Qd, Wd, S, h, k, kx⟩ => ⟨en, Hf, F, E, _, Wd, S, h, fun v1 H1 Hf1 F1 E1 x s1 S1 r1 h1 => by
    obtain ⟨kk, hk, q⟩ := tru_of S1.sf r1 h1
    exact ⟨kk, hk, k _ _ _ _ _ s1 S1 q⟩, kx⟩
def tNotX (tt : TTXd) : TTXd := fun W E Q => tt W E fun k E1 => Q (!k) E1
theorem tx_not {tt : TTXd} (ha : PTXd X c tt) : PTXd X (.UnaryOp .Not c pos) (tNotX tt) := pt_imp (pt_not ha) fun σ H Q ⟨en, Hf, F, E, Qd, Wd, S, h, k, kx⟩ =>
  ⟨en, Hf, F, E, _, Wd, S, h, fun b H1 Hf1 F1 E1 s1 S1 h1 => k _ _ _ _ _ s1 S1 h1, kx⟩
def tTestX (te : TXd) : TTXd := fun W E Q => te W E fun d E1 => match d with
  | .bl k => Q k E1
  | _ => False
theorem tx_cmp {a b : Expr} {ta tb : TXd} {op : CmpOp} {r : R2} {rd : RD} (ho : OpR X (compareOp op) r) (hk : OpOk X.K r rd) (ha : PXd X a ta) (hb : PXd X b tb) (hm : behindInMarks op b = false) : PTXd X (.Compare a [op] [b] pos) (tTestX (tOpX rd ta tb)) :=
  pt_imp (pt_cmpR ho ha hb hm) fun σ H Q ⟨en, Hf, F, E, Qd, Wd, S, h, k, kx⟩ =>
    lift2X hk σ H _ ⟨en, Hf, F, E, _, Wd, S, h, fun v H' Hf' F' E' d s1 S1 r1 h1 => by
      split at h1
      · cases r1
        exact ⟨_, rfl, k _ _ _ _ _ s1 S1 h1⟩
      · exact h1.elim, kx⟩
def tIfX (tt : TTXd) (u w : TSd) : TSd := fun D E => tt D.ex E fun k E1 => if k = true then u D E1 else w D E1
theorem s_ifX {tt : TTXd} (hc : PTXd X c tt) (ha : PBd X p u) (hb : PBd X q w) : PSd X (.If c p q pos) (tIfX tt u w) := ps_imp (ps_if hc ha hb) fun D σ H ⟨en, Hf, F, E, Dd, S, h, k1, k2, k3, k4, k5⟩ =>
  ⟨en, Hf, F, E, _, _, S, h, fun b H1 Hf1 F1 E1 s1 S1 h1 => by
    cases b with
    | true => exact ⟨en, Hf1, F1, E1, Dd, S1, h1, fun _ _ _ _ _ s2 => k1 _ _ _ _ _ (s1.trans s2), fun _ _ _ _ _ s2 => k2 _ _ _ _ _ (s1.trans s2), fun _ _ _ _ _ s2 => k3 _ _ _ _ _ (s1.trans s2), fun _ _ _ _ _ _ _ s2 => k4 _ _ _ _ _ _ _ (s1.trans s2), fun _ _ _ _ _ _ _ _ s2 => k5 _ _ _ _ _ _ _ _ (s1.trans s2)⟩
    | false => exact ⟨en, Hf1, F1, E1, Dd, S1, h1, fun _ _ _ _ _ s2 => k1 _ _ _ _ _ (s1.trans s2), fun _ _ _ _ _ s2 => k2 _ _ _ _ _ (s1.trans s2), fun _ _ _ _ _ s2 => k3 _ _ _ _ _ (s1.trans s2), fun _ _ _ _ _ _ _ s2 => k4 _ _ _ _ _ _ _ (s1.trans s2), fun _ _ _ _ _ _ _ _ s2 => k5 _ _ _ _ _ _ _ _ (s1.trans s2)⟩,
    fun cls x H' Hf' F' E' d s1 S1 r1 q => k5 _ _ _ _ _ _ _ _ s1 S1 r1 q⟩
end
end L3
namespace L3
open PySem L2
variable [Tbs]
section
variable {P : Program} {w : World} {K : PySem.W.Frag} {mg : Str → Option Value} {base : Heap}
theorem fn_pureX {x qual : Str} {st : Stmt} {f : Addr} {fd : FuncData} {N ps : List Str} {k : Nat} {sp : SpX} (F : Fun K x qual st f fd) (S : FnScope N ps (defScope st)) (len : ∀ ds Q W, sp ds Q W → ds.length = ps.length)
    (hbody : ∃ t : TSd, (∀ (cdv : Value) (A : Around) (outer : List Env) (s : Shared) (H : Hp) (E : XK), A.guards = some [] → Room k (A.deeper (PyProof.Rows.envOfC qual (defScope st) s.heap.objs.size f cdv)) →
      PBd (cxOf (L2.CX P w) P w K mg base N qual (defScope st) f cdv A outer s H E) (defBody st) t) ∧
      ∀ ds Q W, sp ds Q W → t { nx := fun _ => Q .non, rt := fun d _ => Q d, ex := fun x _ => W x } (startD N (ds.map .fz))) : FnG P w K mg base (L2.CX P w) (k + 1) f fd ps (liftPX K mg sp) := by
  obtain ⟨t, hd, hq⟩ := hbody
  refine FnG.body F S (fun vs H Q E ⟨Hf, ds, Qd, Wd, _, r, h, _⟩ => by rw [r.length]; exact len _ _ _ h) (fun cdv A outer s H vs Q E hgd hr ⟨Hf, ds, Qd, Wd, sf, r, h, kk, kx⟩ => ⟨_, hd cdv A outer s H E hgd hr, ?_⟩)
  have hl := len _ _ _ h
  have hlen : (start N vs).length = (startD N (ds.map .fz)).length := by
    unfold L2.start startD
    simp only [List.length_append, List.length_map, List.length_replicate, r.length]
  refine ⟨⟨H, Hf, fun _ => [], fun _ => .non, noHp⟩, Hf, fun _ => [], startD N (ds.map .fz), _, ?_, hq ds Qd Wd h, fun σ' H' Hf' F' E' s1 S1 q => ?_, fun _ _ _ _ _ _ _ q => q.elim, fun _ _ _ _ _ _ _ q => q.elim, fun v σ' H' Hf' F' E' d s1 S1 r1 q => ?_, fun cls x σ' H' Hf' F' E' d s1 S1 r1 q => ?_⟩
  · refine { sf := sf, so := fun p o _ a => a, dom := fun p o a => ⟨o, a⟩, sp := fun p o a => (nomatch a), pf := fun p o a => (nomatch a), gf := Same.refl _, gn := fun p o a => .inl a, dj := fun i j p a => (nomatch a), fp := fun i p a => (nomatch a), len := hlen, sl := fun i sl e => ?_ }
    unfold startD at e
    by_cases hi : i < ds.length
    · rw [List.getElem?_append_left (by rw [List.length_map]; exact hi), List.getElem?_map] at e
      obtain ⟨d, ed⟩ := getE hi
      rw [ed] at e
      cases e
      obtain ⟨v, ev, rv⟩ := r.get ed
      exact ⟨v, start_at ev, rv⟩
    · rw [List.getElem?_append_right (by rw [List.length_map]; omega)] at e
      have e2 := List.mem_of_getElem? e
      rw [List.eq_of_mem_replicate e2]
      trivial
  · exact kk .non H' Hf' .non s1 S1.sf (fun p o a => S1.so p o (fun _ z => nomatch z) a) (fun p o a => S1.gn p o a) .non q
  · exact kk v H' Hf' d s1 S1.sf (fun p o a => S1.so p o (fun _ z => nomatch z) a) (fun p o a => S1.gn p o a) r1 q
  · exact wx_of (takes_of rfl rfl rfl rfl) (kx cls x d H' Hf' s1 S1.sf (fun p o a => S1.so p o (fun _ z => nomatch z) a) (fun p o a => S1.gn p o a) r1 q)
theorem fn_ownX {x qual : Str} {st : Stmt} {f : Addr} {fd : FuncData} {N ps : List Str} {k : Nat} {so : SoX} (F : Fun K x qual st f fd) (S : FnScope N ps (defScope st)) (len : ∀ o ds Q W, so o ds Q W → ds.length + 1 = ps.length)
    (hbody : ∃ t : TSd, (∀ (cdv : Value) (A : Around) (outer : List Env) (s : Shared) (H : Hp) (E : XK), A.guards = some [] → Room k (A.deeper (PyProof.Rows.envOfC qual (defScope st) s.heap.objs.size f cdv)) →
      PBd (cxOf (L2.CX P w) P w K mg base N qual (defScope st) f cdv A outer s H E) (defBody st) t) ∧
      ∀ o ds Q W, so o ds Q W → t { nx := fun E => ∃ o', E[0]? = some (.ow true o') ∧ Q .non o', rt := fun d E => ∃ o', E[0]? = some (.ow true o') ∧ Q d o', ex := fun x E => ∃ o', E[0]? = some (.ow true o') ∧ W x o' } (startD N (.ow true o :: ds.map .fz))) : FnG P w K mg base (L2.CX P w) (k + 1) f fd ps (liftOX K mg so) := by
  obtain ⟨t, hd, hq⟩ := hbody
  refine FnG.body F S (fun vs H Q E ⟨Hf, v0, ws, o, fp, ds, Qd, Wd, e, _, _, _, r, h, _⟩ => by rw [e, List.length_cons, r.length]; exact len _ _ _ _ h) (fun cdv A outer s H vs Q E hgd hr ⟨Hf, v0, ws, o, fp, ds, Qd, Wd, e, sf, ro, hfp, r, h, kk, kx⟩ => ⟨_, hd cdv A outer s H E hgd hr, ?_⟩)
  subst e
  have hlen : (start N (v0 :: ws)).length = (startD N (.ow true o :: ds.map .fz)).length := by
    unfold L2.start startD
    simp only [List.length_append, List.length_map, List.length_replicate, List.length_cons, r.length]
  have notin : ∀ {p : Addr}, (∀ i, p ∉ setF (fun _ => []) 0 fp i) → p ∉ fp := fun h => by
    have := h 0
    rw [setF_same] at this
    exact this
  have inn : ∀ {i : Nat} {p : Addr}, p ∈ setF (fun _ => []) 0 fp i → i = 0 ∧ p ∈ fp := fun {i p} h => by
    by_cases z : i = 0
    · subst z
      rw [setF_same] at h
      exact ⟨rfl, h⟩
    · rw [setF_ne z] at h
      cases h
  have own : ∀ {σ' H' Hf' F' E' o'}, Sat K ⟨H, Hf, setF (fun _ => []) 0 fp, fun _ => v0, noHp⟩ Hf' H' F' E' σ' → E'[0]? = some (Sl.ow true o') → OwRep K Hf' H' v0 o' fp := fun {σ' H' Hf' F' E' o'} S1 e1 => by
    obtain ⟨v1, hv1, ro1, hl1, _⟩ := S1.own e1
    obtain ⟨e2, e3⟩ := hl1 rfl
    have z : F' 0 = fp := e3.trans (show setF (fun _ => []) 0 fp 0 = fp from setF_same)
    have z2 : v1 = v0 := e2
    rw [z, z2] at ro1
    exact ro1
  have fin : ∀ {v σ' H' Hf' F' E' d}, Same Hf Hf' → Sat K ⟨H, Hf, setF (fun _ => []) 0 fp, fun _ => v0, noHp⟩ Hf' H' F' E' σ' → Rep K Hf' v d → (∃ o', E'[0]? = some (Sl.ow true o') ∧ Qd d o') → Q v H' := fun {v σ' H' Hf' F' E' d} s1 S1 r1 ⟨o', e1, q⟩ =>
    kk v H' Hf' d o' s1 S1.sf (fun p u np a => S1.so p u (fun i z => np (inn z).2) a) S1.dom (fun p u a => S1.gn p u a) (own S1 e1) r1 q
  refine ⟨⟨H, Hf, setF (fun _ => []) 0 fp, fun _ => v0, noHp⟩, Hf, setF (fun _ => []) 0 fp, startD N (.ow true o :: ds.map .fz), _, ?_, hq o ds Qd Wd h, fun σ' H' Hf' F' E' s1 S1 q => ?_, fun _ _ _ _ _ _ _ q => q.elim, fun _ _ _ _ _ _ _ q => q.elim, fun v σ' H' Hf' F' E' d s1 S1 r1 q => fin s1 S1 r1 q, fun cls x σ' H' Hf' F' E' d s1 S1 r1 ⟨o', e1, q⟩ => ?_⟩
  · refine { sf := sf, so := fun p o _ a => a, dom := fun p o a => ⟨o, a⟩, sp := fun p o a => (nomatch a), pf := fun p o a => (nomatch a), gf := Same.refl _, gn := fun p o a => .inl a, dj := fun i j p a b => by rw [(inn a).1, (inn b).1], fp := fun i p a => ⟨hfp p (inn a).2, ro.some p (inn a).2, .inl ⟨i, a⟩, rfl⟩, len := hlen, sl := fun i sl e => ?_ }
    unfold startD at e
    cases i with
    | zero =>
      rw [List.cons_append, List.getElem?_cons_zero] at e
      cases e
      refine ⟨v0, start_at rfl, by rw [setF_same]; exact ro, fun _ => ⟨rfl, rfl⟩, fun z => by cases z⟩
    | succ i =>
      rw [List.cons_append, List.getElem?_cons_succ] at e
      by_cases hi : i < ds.length
      · rw [List.getElem?_append_left (by rw [List.length_map]; exact hi), List.getElem?_map] at e
        obtain ⟨d, ed⟩ := getE hi
        rw [ed] at e
        cases e
        obtain ⟨v, ev, rv⟩ := r.get ed
        exact ⟨v, start_at (by rw [List.getElem?_cons_succ]; exact ev), rv⟩
      · rw [List.getElem?_append_right (by rw [List.length_map]; omega)] at e
        have e2 := List.mem_of_getElem? e
        rw [List.eq_of_mem_replicate e2]
        trivial
  · exact fin s1 S1 .non q
  · exact wx_of (takes_of rfl rfl rfl rfl) (kx cls x d H' Hf' o' s1 S1.sf (fun p u np a => S1.so p u (fun i z => np (inn z).2) a) S1.dom (fun p u a => S1.gn p u a) (own S1 e1) r1 q)
theorem cal_pureX {x : Str} {st : Stmt} {N ps : List Str} {k : Nat} {sp : SpX} (d : Dfn K mg x st ps) (S : FnScope N ps (defScope st)) (len : ∀ ds Q W, sp ds Q W → ds.length = ps.length)
    (hbody : ∃ t : TSd, (∀ (f : Addr) (cdv : Value) (A : Around) (outer : List Env) (s : Shared) (H : Hp) (E : XK), A.guards = some [] → Room k (A.deeper (PyProof.Rows.envOfC x (defScope st) s.heap.objs.size f cdv)) →
      PBd (cxOf (L2.CX P w) P w K mg base N x (defScope st) f cdv A outer s H E) (defBody st) t) ∧
      ∀ ds Q W, sp ds Q W → t { nx := fun _ => Q .non, rt := fun d _ => Q d, ex := fun x _ => W x } (startD N (ds.map .fz))) : Cal P w K mg base (L2.CX P w) x (k + 1) ps (liftPX K mg sp) := by
  obtain ⟨f, fd, F, hm, hb⟩ := d
  obtain ⟨t, h1, h2⟩ := hbody
  exact ⟨f, fd, fn_pureX F S len ⟨t, h1 f, h2⟩, hm, F.kp, hb⟩
theorem cal_ownX {x : Str} {st : Stmt} {N ps : List Str} {k : Nat} {so : SoX} (d : Dfn K mg x st ps) (S : FnScope N ps (defScope st)) (len : ∀ o ds Q W, so o ds Q W → ds.length + 1 = ps.length)
    (hbody : ∃ t : TSd, (∀ (f : Addr) (cdv : Value) (A : Around) (outer : List Env) (s : Shared) (H : Hp) (E : XK), A.guards = some [] → Room k (A.deeper (PyProof.Rows.envOfC x (defScope st) s.heap.objs.size f cdv)) →
      PBd (cxOf (L2.CX P w) P w K mg base N x (defScope st) f cdv A outer s H E) (defBody st) t) ∧
      ∀ o ds Q W, so o ds Q W → t { nx := fun E => ∃ o', E[0]? = some (.ow true o') ∧ Q .non o', rt := fun d E => ∃ o', E[0]? = some (.ow true o') ∧ Q d o', ex := fun x E => ∃ o', E[0]? = some (.ow true o') ∧ W x o' } (startD N (.ow true o :: ds.map .fz))) : Cal P w K mg base (L2.CX P w) x (k + 1) ps (liftOX K mg so) := by
  obtain ⟨f, fd, F, hm, hb⟩ := d
  obtain ⟨t, h1, h2⟩ := hbody
  exact ⟨f, fd, fn_ownX F S len ⟨t, h1 f, h2⟩, hm, F.kp, hb⟩
end
/-! ### promises by the number of arguments -/
def spx0 (R : (D → Prop) → (Xd → Prop) → Prop) : SpX := fun ds Q W => match ds with
  | [] => R Q W
  | _ => False
def spx1 (R : D → (D → Prop) → (Xd → Prop) → Prop) : SpX := fun ds Q W => match ds with
  | [x] => R x Q W
  | _ => False
def spx2 (R : D → D → (D → Prop) → (Xd → Prop) → Prop) : SpX := fun ds Q W => match ds with
  | [x, y] => R x y Q W
  | _ => False
def spx3 (R : D → D → D → (D → Prop) → (Xd → Prop) → Prop) : SpX := fun ds Q W => match ds with
  | [x, y, z] => R x y z Q W
  | _ => False
def spx4 (R : D → D → D → D → (D → Prop) → (Xd → Prop) → Prop) : SpX := fun ds Q W => match ds with
  | [x, y, z, u] => R x y z u Q W
  | _ => False
theorem spx0_len {R} : ∀ ds Q W, spx0 R ds Q W → ds.length = 0 := fun ds Q W h => by
  unfold spx0 at h
  split at h
  · rfl
  · exact h.elim
theorem spx1_len {R} : ∀ ds Q W, spx1 R ds Q W → ds.length = 1 := fun ds Q W h => by
  unfold spx1 at h
  split at h
  · rfl
  · exact h.elim
theorem spx2_len {R} : ∀ ds Q W, spx2 R ds Q W → ds.length = 2 := fun ds Q W h => by
  unfold spx2 at h
  split at h
  · rfl
  · exact h.elim
theorem spx3_len {R} : ∀ ds Q W, spx3 R ds Q W → ds.length = 3 := fun ds Q W h => by
  unfold spx3 at h
  split at h
  · rfl
  · exact h.elim
theorem spx4_len {R} : ∀ ds Q W, spx4 R ds Q W → ds.length = 4 := fun ds Q W h => by
  unfold spx4 at h
  split at h
  · rfl
  · exact h.elim
theorem spx0_by {R} {G : List D → (D → Prop) → (Xd → Prop) → Prop} (h : ∀ Q W, R Q W → G [] Q W) : ∀ ds Q W, spx0 R ds Q W → G ds Q W := fun ds Q W q => by
  unfold spx0 at q
  split at q
  · exact h _ _ q
  · exact q.elim
theorem spx1_by {R} {G : List D → (D → Prop) → (Xd → Prop) → Prop} (h : ∀ x Q W, R x Q W → G [x] Q W) : ∀ ds Q W, spx1 R ds Q W → G ds Q W := fun ds Q W q => by
  unfold spx1 at q
  split at q
  · exact h _ _ _ q
  · exact q.elim
theorem spx2_by {R} {G : List D → (D → Prop) → (Xd → Prop) → Prop} (h : ∀ x y Q W, R x y Q W → G [x, y] Q W) : ∀ ds Q W, spx2 R ds Q W → G ds Q W := fun ds Q W q => by
  unfold spx2 at q
  split at q
  · exact h _ _ _ _ q
  · exact q.elim
theorem spx3_by {R} {G : List D → (D → Prop) → (Xd → Prop) → Prop} (h : ∀ x y z Q W, R x y z Q W → G [x, y, z] Q W) : ∀ ds Q W, spx3 R ds Q W → G ds Q W := fun ds Q W q => by
  unfold spx3 at q
  split at q
  · exact h _ _ _ _ _ q
  · exact q.elim
theorem spx4_by {R} {G : List D → (D → Prop) → (Xd → Prop) → Prop} (h : ∀ x y z u Q W, R x y z u Q W → G [x, y, z, u] Q W) : ∀ ds Q W, spx4 R ds Q W → G ds Q W := fun ds Q W q => by
  unfold spx4 at q
  split at q
  · exact h _ _ _ _ _ _ q
  · exact q.elim
end L3
namespace L3
open PySem L2 PySem.Spec PyProof.Rows
variable [Tbs]
/-! ### try: several clauses, each with or without a name -/
/-- the ends behind a suite whose clause has the name of slot i -/
def endsBut (D : Ends) : Option Nat → Ends
  | none => D
  | some i => { nx := fun σ' H' => D.nx (σ'.set i none) H', rt := D.rt, bk := fun σ' H' => D.bk (σ'.set i none) H', ct := fun σ' H' => D.ct (σ'.set i none) H' }
def slotAt (σ : L2.St) (a : Addr) : Option Nat → L2.St
  | none => σ
  | some i => σ.set i (some (.ref a))
abbrev Clause := Value × Option Nat × (Addr → Value → Option Addr → TS)
def wAll (K : PySem.W.Frag) (Wout : WX) (D : Ends) : List Clause → WX
  | [] => Wout
  | (c, i, ts) :: r => fun cls d σ H => ∃ b, PySem.W.exmOne K cls c = some b ∧ (b = true → ∀ a, H a = none → ts a cls d (endsBut D i) (slotAt σ a i) H) ∧ (b = false → wAll K Wout D r cls d σ H)
inductive HdsAll (X : Cx) : List ExceptHandler → List Clause → Prop
  | nil : HdsAll X [] []
  | only {x : Str} {c : Value} {ts : Addr → Value → Option Addr → TS} {b₀ : Stmt} {suite : List Stmt} {np pos' : Pos} {hds : List ExceptHandler} {l : List Clause} (hc : Names X x c)
      (hsu : ∀ (a : Addr) (oe : Obj) (cls : Value) (d : Option Addr) (pn : List (Addr × Obj)), Zc cls d oe → (∃ vs, oe.data = .fields vs) → PSs (X.suite a ((a, oe) :: pn)) (b₀ :: suite) (ts a cls d)) (r : HdsAll X hds l) :
      HdsAll X (.ExceptHandler (some (.Name x np)) none (b₀ :: suite) pos' :: hds) ((c, none, ts) :: l)
  | as {x n : Str} {i : Nat} {c : Value} {ts : Addr → Value → Option Addr → TS} {b₀ : Stmt} {suite : List Stmt} {np pos' : Pos} {hds : List ExceptHandler} {l : List Clause} (hc : Names X x c) (hi : X.N[i]? = some n) (hln : X.env.kindOf n = some .local)
      (hsu : ∀ (a : Addr) (oe : Obj) (cls : Value) (d : Option Addr) (pn : List (Addr × Obj)), Zc cls d oe → (∃ vs, oe.data = .fields vs) → PSs (X.suite a ((a, oe) :: pn)) (b₀ :: suite) (ts a cls d)) (r : HdsAll X hds l) :
      HdsAll X (.ExceptHandler (some (.Name x np)) (some n) (b₀ :: suite) pos' :: hds) ((c, some i, ts) :: l)
section
variable {X : Cx} {body : List Stmt} {h₀ : ExceptHandler} {hds : List ExceptHandler} {l : List Clause} {pos : Pos} {tb : WX → TS} {Wout : WX}
theorem ps_try_all (hs : X.stack = X.env :: X.outer) (hf : X.env.frame = some X.env.locals) (hN : X.N.Nodup) (tk : Takes X Wout)
    (hb : ∀ (W : WX) (pn : List (Addr × Obj)) (xe : Value → Shared → Prop), Takes (X.tr pn xe) W → PassesOwn (model X.prog X.w) X.A X.env xe → PSs (X.tr pn xe) body (tb W))
    (hh : HdsAll X (h₀ :: hds) l) : PS X (.Try body (h₀ :: hds) [] [] pos) (fun D σ H => tb (wAll X.K Wout D l) D σ H) := by
  refine ⟨fun pins s σ H D I h => ?_⟩
  have ok := I.ok
  have hfr : X.A.frames = some (X.env :: X.outer) := by rw [ok.frames, hs]
  refine wpAny_Try_except ?_
  refine wpAny_mono ((hb (wAll X.K Wout D l) (X.pn ++ pins) (fun e s₁ => wpAny (model X.prog X.w) X.A (noteFrame e X.env) (fun _ s₂ => wpAny (model X.prog X.w) X.A (setFlight e none) (fun _ s₃ =>
    wpAny (model X.prog X.w) X.A (handleBy e X.env (h₀ :: hds)) (SP X pins D) X.xe s₃) X.xe s₂) X.xe s₁) (fun u s' xx => ?_) PassesOwn.looking).run [] s σ H D (I.toTry _) h) (fun f s1 hsp => ?_) (fun e s1 he => he)
  · -- the catch
    obtain ⟨a, B, sI, pins', σ', H', cls, d, rfl, J', nb, up, sky, na, os, ag, w⟩ := xx
    have J : L2.Inv X pins σ' H' sI := J'.ofTry ok
    have sky' : Sky B (X.env :: X.outer) a (Zc cls d) X.env.locals s'.heap := by rw [← hs]; exact sky
    show wpAny (model X.prog X.w) X.A (noteFrame (.ref a) X.env) _ _ _
    refine Sky.land Zc.steady hfr hf sky' fun h3 fl3 up3 => ?_
    have J3 : L2.Inv X pins σ' H' { s' with heap := h3 } := J.landed nb fl3.1 (up.trans up3) os ag
    obtain ⟨oe3, vs3, he3, hz3, hd3⟩ := fl3.there
    have notFr : ∀ {h : Heap} {o : Obj} {vs : Array Value}, h.FunFrames B (X.env :: X.outer) → h.get? a = some o → o.data = .fields vs → a ∉ frs (X.env :: X.outer) := fun {h o vs} ff e dd hm => by
      obtain ⟨_, o', e', hnf⟩ := ff.mem hm
      rw [e] at e'; cases e'
      exact hnf _ dd
    have nfr := notFr fl3.2.2.1 he3 hd3
    have nL : a ≠ X.env.locals := fun z => nfr (List.mem_filterMap.mpr ⟨X.env, List.mem_cons_self, by rw [hf, z]⟩)
    have nF : a ∉ X.fs := fun hm => by
      obtain ⟨e, he, q⟩ := List.mem_filterMap.mp hm
      exact nfr (List.mem_filterMap.mpr ⟨e, List.mem_cons_of_mem _ he, q⟩)
    have S3 := J3.suite he3 hd3 na nL nF
    have LT : PySem.W.Looks (model X.prog X.w) h3 (typeOf (.ref a)) cls := fun A Q E s k q => wpAny_typeOf_ref (k _ _ he3) (by rw [hz3.1]; exact q)
    have test : ∀ {x : Str} {c : Value} {np : Pos}, Names X x c → ∀ {Q : Value → Shared → Prop} {E : Value → Shared → Prop}, Q c { s' with heap := h3 } → wpAny (model X.prog X.w) (X.A.mark (some (.ref a))) (eval (.Name x np) X.env) Q E { s' with heap := h3 } := fun {x c np} hc {Q E} q => by
      obtain ⟨hg, hdbg, hm | ⟨hm, hv, hnn⟩⟩ := hc
      · exact ld_glob (X := X.suite a ((a, oe3) :: (X.pn ++ pins))) S3 hg hm q hdbg
      · exact ld_blt (X := X.suite a ((a, oe3) :: (X.pn ++ pins))) S3 hg hm hv q hnn hdbg
    have go : ∀ {hds' : List ExceptHandler} {l' : List Clause}, HdsAll X hds' l' → wAll X.K Wout D l' cls d σ' H' →
        wpAny (model X.prog X.w) X.A (handleBy (.ref a) X.env hds') (SP X pins D) X.xe { s' with heap := h3 } := by
      intro hds' l' hk
      induction hk with
      | nil =>
        intro w
        refine wpAny_handleBy_nil ?_
        obtain ⟨k1, k2, k3, oe, vs, T, oT, ts', he, hz, hd, h1, hr⟩ := id fl3
        unfold PySem.passOn
        refine wpAny_bind (wpAny_field he hd h1 ?_)
        rw [if_neg (show ¬ ((Value.ref T == Value.none) = true) from by simp)]
        have fin : wpAny (model X.prog X.w) X.A (setFlight (.ref a) X.env.frame) (fun _ s4 => wpAny (model X.prog X.w) X.A (throw (.ref a) : Sem Flow) (SP X pins D) X.xe s4) X.xe { s' with heap := h3 } := by
          rw [hf]
          refine HandSPX.setFlight_upZ fl3 fun h4 hh4 up4 => wpAny_throw (tk _ _ ?_)
          exact ⟨a, B, sI, pins, σ', H', cls, d, rfl, J, nb, (up.trans up3).trans up4, .inr (.inr (by rw [hs]; exact hh4)), na, os, ag, w⟩
        first
          | exact wpAny_bind (wpAny_pure (wpAny_bind fin))
          | exact wpAny_bind fin
      | @only x c ts b₀ suite np pos' hds2 l2 hc hsu r ih =>
        intro w
        obtain ⟨b, hb1, hyes, hno⟩ := w
        refine wpAny_handleBy_cons (codeAny_handlers_test ?_) (by intro q; cases q)
        have LM := PySem.W.exm_one (M := model X.prog X.w) (J3.kIn) LT hb1
        refine test hc (LM.here ?_)
        cases b with
        | true =>
          refine codeAny_handlers_suite ?_
          refine HandSPX.lands_againZ fl3 fun h4 fl4 up4 => ?_
          have J4 : L2.Inv X pins σ' H' { s' with heap := h4 } := J.landed nb fl4.1 ((up.trans up3).trans up4) os ag
          obtain ⟨oe4, vs4, he4, hz4, hd4⟩ := fl4.there
          have S4 := J4.suite he4 hd4 na nL nF
          refine wpAny_mono ((hsu a oe4 cls d (X.pn ++ pins) hz4 ⟨_, hd4⟩).run [] _ _ H' _ S4 (hyes rfl a na)) (fun f s6 hsp => ?_) (fun _ _ z => False.elim z)
          cases f with
          | next =>
            obtain ⟨σ6, H6, S6, q6⟩ := hsp
            exact ⟨_, _, S6.unsuite ok, q6⟩
          | brk =>
            obtain ⟨σ6, H6, S6, q6⟩ := hsp
            exact ⟨_, _, S6.unsuite ok, q6⟩
          | cont =>
            obtain ⟨σ6, H6, S6, q6⟩ := hsp
            exact ⟨_, _, S6.unsuite ok, q6⟩
          | ret u =>
            obtain ⟨v6, σ6, H6, S6, r6, q6⟩ := hsp
            exact ⟨_, _, _, S6.unsuite ok, r6, q6⟩
        | false =>
          show wpAny _ X.A (handleBy (.ref a) X.env hds2) _ _ _
          exact ih (hno rfl)
      | @as x n i c ts b₀ suite np pos' hds2 l2 hc hi hln hsu r ih =>
        intro w
        obtain ⟨b, hb1, hyes, hno⟩ := w
        refine wpAny_handleBy_cons (codeAny_handlers_test ?_) (by intro q; cases q)
        have LM := PySem.W.exm_one (M := model X.prog X.w) (J3.kIn) LT hb1
        refine test hc (LM.here ?_)
        cases b with
        | true =>
          refine codeAny_handlers_suite_as ?_
          refine HandSPX.lands_againZ fl3 fun h4 fl4 up4 => ?_
          have J4 : L2.Inv X pins σ' H' { s' with heap := h4 } := J.landed nb fl4.1 ((up.trans up3).trans up4) os ag
          obtain ⟨oe4, vs4, he4, hz4, hd4⟩ := fl4.there
          have S4 := J4.suite he4 hd4 na nL nF
          refine store_ok (X := X.suite a ((a, oe4) :: (X.pn ++ pins))) (v := .ref a) S4 hN hi (.inl hln) rfl (fun s5 S5 => ?_) (.inr hln)
          refine wpAny_mono ((hsu a oe4 cls d (X.pn ++ pins) hz4 ⟨_, hd4⟩).run [] s5 _ H' _ S5 (hyes rfl a na)) (fun f s6 hsp => ?_) (fun _ _ z => False.elim z)
          have end_ : ∀ {σ6 : L2.St} {H6 : Hp} {Q : Shared → Prop}, L2.Inv (X.suite a ((a, oe4) :: (X.pn ++ pins))) [] σ6 H6 s6 → (∀ s7, L2.Inv X pins (σ6.set i none) H6 s7 → Q s7) →
              wpAny (model X.prog X.w) X.A (do bindName X.env n .none; unbindBehindTheSuite X.env n pos') (fun _ s7 => Q s7) X.xe s6 := fun {σ6 H6 Q} S6 hq => gone_ok (S6.unsuite ok) hN hi hln hq
          cases f with
          | next =>
            obtain ⟨σ6, H6, S6, q6⟩ := hsp
            exact end_ S6 fun s7 J7 => ⟨_, _, J7, q6⟩
          | brk =>
            obtain ⟨σ6, H6, S6, q6⟩ := hsp
            exact end_ S6 fun s7 J7 => ⟨_, _, J7, q6⟩
          | cont =>
            obtain ⟨σ6, H6, S6, q6⟩ := hsp
            exact end_ S6 fun s7 J7 => ⟨_, _, J7, q6⟩
          | ret u =>
            obtain ⟨v6, σ6, H6, S6, r6, q6⟩ := hsp
            exact end_ S6 fun s7 J7 => ⟨_, _, _, J7, r6, q6⟩
        | false =>
          show wpAny _ X.A (handleBy (.ref a) X.env hds2) _ _ _
          exact ih (hno rfl)
    exact go hh w
  · cases f with
    | next =>
      obtain ⟨σ', H', J', q⟩ := hsp
      exact wpAny_execs_nil ⟨σ', H', J'.ofTry ok, q⟩
    | brk =>
      obtain ⟨σ', H', J', q⟩ := hsp
      exact ⟨σ', H', J'.ofTry ok, q⟩
    | cont =>
      obtain ⟨σ', H', J', q⟩ := hsp
      exact ⟨σ', H', J'.ofTry ok, q⟩
    | ret u =>
      obtain ⟨v, σ', H', J', r, q⟩ := hsp
      exact ⟨v, σ', H', J'.ofTry ok, r, q⟩
end
end L3
namespace L3
open PySem L2
variable [Tbs]
/-! ### try over data -/
/-- an exception of the class nm: does the clause of hn take it? -/
def XSub (K : PySem.W.Frag) (mg : Str → Option Value) (nm hn : Str) (b : Bool) : Prop := ∀ cls c, mg nm = some cls → (mg hn = some c ∨ (mg hn = none ∧ bootBuiltins hn = some c)) → PySem.W.exmOne K cls c = some b
abbrev ClauseD := Str × Option Nat × (Addr → Value → Option Addr → TSd)
def endsButD (D : EndsD) : Option Nat → EndsD
  | none => { nx := D.nx, rt := D.rt, bk := D.bk, ct := D.ct }
  | some i => { nx := fun E => D.nx (E.set i .un), rt := D.rt, bk := fun E => D.bk (E.set i .un), ct := fun E => D.ct (E.set i .un) }
def slotOkD (E : En) : Option Nat → Prop
  | none => True
  | some i => canSet E i
def slotD (E : En) (a : Addr) (cls : Value) (d : Option Addr) (fs : List (Str × D)) : Option Nat → En
  | none => E
  | some i => E.set i (.xc a cls d fs)
def clausesD (K : PySem.W.Frag) (mg : Str → Option Value) : List ClauseD → EndsD → Xd → En → Prop
  | [], D, x, E => D.ex x E
  | (hn, i, ts) :: r, D, x, E => ∃ b, XSub K mg x.nm hn b ∧ (b = true → slotOkD E i ∧ ∀ a cls d, mg x.nm = some cls → (∃ C : Addr, cls = .ref C) → (x.fs ≠ [] → ∃ dd, d = some dd) → ts a cls d (endsButD D i) (slotD E a cls d x.fs i)) ∧ (b = false → clausesD K mg r D x E)
def tTryD (K : PySem.W.Frag) (mg : Str → Option Value) (tb : TSd) (l : List ClauseD) : TSd := fun D E => tb { nx := D.nx, rt := D.rt, bk := D.bk, ct := D.ct, ex := fun x E1 => clausesD K mg l D x E1 } E
/-- a block's reading, its exceptions wished for by W -/
def liftSW (K : PySem.W.Frag) (mg : Str → Option Value) (W : WX) (t : TSd) : TS := fun D σ H => ∃ en Hf F E Dd, Sat K en Hf H F E σ ∧ t Dd E ∧
  (∀ σ' H' Hf' F' E', Same Hf Hf' → Sat K en Hf' H' F' E' σ' → Dd.nx E' → D.nx σ' H') ∧
  (∀ σ' H' Hf' F' E', Same Hf Hf' → Sat K en Hf' H' F' E' σ' → Dd.bk E' → D.bk σ' H') ∧
  (∀ σ' H' Hf' F' E', Same Hf Hf' → Sat K en Hf' H' F' E' σ' → Dd.ct E' → D.ct σ' H') ∧
  (∀ v σ' H' Hf' F' E' d, Same Hf Hf' → Sat K en Hf' H' F' E' σ' → Rep K Hf' v d → Dd.rt d E' → D.rt v H') ∧
  (∀ cls x σ' H' Hf' F' E' d, Same Hf Hf' → Sat K en Hf' H' F' E' σ' → XRep K mg Hf' cls d x → Dd.ex x E' → W cls d σ' H')
theorem sw_of {X : Cx} {W : WX} {body : List Stmt} {t : TSd} (tk : Takes X W) (h : PBd X body t) : PSs X body (liftSW X.K X.mg W t) :=
  pss_imp h fun D σ H ⟨en, Hf, F, E, Dd, S, h, k1, k2, k3, k4, k5⟩ => ⟨en, Hf, F, E, Dd, S, h, k1, k2, k3, k4, fun cls x σ' H' Hf' F' E' d s1 S1 r1 q => wx_of tk (k5 cls x σ' H' Hf' F' E' d s1 S1 r1 q)⟩
theorem sw_no {X : Cx} {body : List Stmt} {t : TSd} (h : PBd X body t) : PSs X body (liftSW X.K X.mg (fun _ _ _ _ => False) t) :=
  pss_imp h fun D σ H ⟨en, Hf, F, E, Dd, S, h, k1, k2, k3, k4, k5⟩ => ⟨en, Hf, F, E, Dd, S, h, k1, k2, k3, k4, fun cls x σ' H' Hf' F' E' d s1 S1 r1 q => (k5 cls x σ' H' Hf' F' E' d s1 S1 r1 q).elim⟩
section
variable {K : PySem.W.Frag} {en : Et} {Hf H : Hp} {F : Nat → List Addr} {E : En} {σ : St}
theorem Sat.setXc (S : Sat K en Hf H F E σ) {i : Nat} {a : Addr} {cls : Value} {d : Option Addr} {fs : List (Str × D)} (c : canSet E i) (r : XfRep K Hf d fs) : Sat K en Hf H (setF F i []) (E.set i (.xc a cls d fs)) (σ.set i (some (.ref a))) :=
  S.setG c.lt (fun p h => nomatch h) ⟨by rw [List.getElem?_set_self (by rw [S.len]; exact c.lt)], r⟩
theorem Sat.unset (S : Sat K en Hf H F E σ) (i : Nat) : Sat K en Hf H F (E.set i .un) (σ.set i none) :=
  S.re (by rw [List.length_set, List.length_set, S.len]) fun j s h => by
    by_cases hj : i = j
    · subst hj
      by_cases hl : i < E.length
      · rw [List.getElem?_set_self hl] at h
        cases h
        exact .inl rfl
      · rw [List.getElem?_eq_none (by simpa using hl)] at h
        cases h
    · rw [List.getElem?_set_ne hj] at h
      exact .inr ⟨h, List.getElem?_set_ne hj⟩
end
inductive HdsD (X : Cx) : List ExceptHandler → List ClauseD → Prop
  | nil : HdsD X [] []
  | only {x : Str} {ts : Addr → Value → Option Addr → TSd} {b₀ : Stmt} {suite : List Stmt} {np pos' : Pos} {hds : List ExceptHandler} {l : List ClauseD} (c : Value) (hc : Names X x c)
      (hsu : ∀ (a : Addr) (oe : Obj) (cls : Value) (d : Option Addr) (pn : List (Addr × Obj)), Zc cls d oe → (∃ vs, oe.data = .fields vs) → PBd (X.suite a ((a, oe) :: pn)) (b₀ :: suite) (ts a cls d)) (r : HdsD X hds l) :
      HdsD X (.ExceptHandler (some (.Name x np)) none (b₀ :: suite) pos' :: hds) ((x, none, ts) :: l)
  | as {x n : Str} (i : Nat) {ts : Addr → Value → Option Addr → TSd} {b₀ : Stmt} {suite : List Stmt} {np pos' : Pos} {hds : List ExceptHandler} {l : List ClauseD} (c : Value) (hc : Names X x c) (hi : X.N[i]? = some n) (hln : X.env.kindOf n = some .local)
      (hsu : ∀ (a : Addr) (oe : Obj) (cls : Value) (d : Option Addr) (pn : List (Addr × Obj)), Zc cls d oe → (∃ vs, oe.data = .fields vs) → PBd (X.suite a ((a, oe) :: pn)) (b₀ :: suite) (ts a cls d)) (r : HdsD X hds l) :
      HdsD X (.ExceptHandler (some (.Name x np)) (some n) (b₀ :: suite) pos' :: hds) ((x, some i, ts) :: l)
theorem names_sub {X : Cx} {x : Str} {c cls : Value} {nm : Str} {b : Bool} (hc : Names X x c) (h : XSub X.K X.mg nm x b) (hm : X.mg nm = some cls) : PySem.W.exmOne X.K cls c = some b := by
  obtain ⟨_, _, h1 | ⟨h1, h2, _⟩⟩ := hc
  · exact h _ _ hm (.inl h1)
  · exact h _ _ hm (.inr ⟨h1, h2⟩)
theorem HdsD.all {X : Cx} {hds : List ExceptHandler} {l : List ClauseD} (h : HdsD X hds l) : ∃ l2 : List Clause, HdsAll X hds l2 ∧ ∀ (D : Ends) (Dd : EndsD) (en : Et) (Hf : Hp) (H : Hp) (F : Nat → List Addr) (E : En) (σ : St) (cls : Value) (x : Xd) (d : Option Addr), Sat X.K en Hf H F E σ → XRep X.K X.mg Hf cls d x → clausesD X.K X.mg l Dd x E →
    (∀ σ' H' Hf' F' E', Same Hf Hf' → Sat X.K en Hf' H' F' E' σ' → Dd.nx E' → D.nx σ' H') →
    (∀ σ' H' Hf' F' E', Same Hf Hf' → Sat X.K en Hf' H' F' E' σ' → Dd.bk E' → D.bk σ' H') →
    (∀ σ' H' Hf' F' E', Same Hf Hf' → Sat X.K en Hf' H' F' E' σ' → Dd.ct E' → D.ct σ' H') →
    (∀ v σ' H' Hf' F' E' d, Same Hf Hf' → Sat X.K en Hf' H' F' E' σ' → Rep X.K Hf' v d → Dd.rt d E' → D.rt v H') →
    (∀ cls x σ' H' Hf' F' E' d, Same Hf Hf' → Sat X.K en Hf' H' F' E' σ' → XRep X.K X.mg Hf' cls d x → Dd.ex x E' → Wx X cls d σ' H') → wAll X.K (Wx X) D l2 cls d σ H := by
  induction h with
  | nil => exact ⟨[], .nil, fun D Dd en Hf H F E σ cls x d S r h k1 k2 k3 k4 k5 => k5 cls x σ H Hf F E d (Same.refl _) S r h⟩
  | @only x ts b₀ suite np pos' hds l c hc hsu r ih =>
    obtain ⟨l2, hl2, ih⟩ := ih
    refine ⟨(c, none, fun a cls d => liftSW X.K X.mg (fun _ _ _ _ => False) (ts a cls d)) :: l2, .only hc (fun a oe cls d pn hz hf => sw_no (hsu a oe cls d pn hz hf)) hl2, fun D Dd en Hf H F E σ cls x d S rx h k1 k2 k3 k4 k5 => ?_⟩
    obtain ⟨b, hb, h1, h2⟩ := h
    obtain ⟨⟨C, hC⟩, hm, hf⟩ := id rx
    refine ⟨b, names_sub hc hb hm, fun e a na => ?_, fun e => ih D Dd en Hf H F E σ cls x d S rx (h2 e) k1 k2 k3 k4 k5⟩
    obtain ⟨_, h1⟩ := h1 e
    exact ⟨en, Hf, F, E, _, S, h1 a cls d hm ⟨C, hC⟩ (fun ne => by
      rcases hf with ⟨_, q⟩ | ⟨dd, vs, q, _⟩
      · exact absurd q ne
      · exact ⟨dd, q⟩), k1, k2, k3, k4, fun _ _ _ _ _ _ _ _ _ _ _ w => w⟩
  | @as x n i ts b₀ suite np pos' hds l c hc hi hln hsu r ih =>
    obtain ⟨l2, hl2, ih⟩ := ih
    refine ⟨(c, some i, fun a cls d => liftSW X.K X.mg (fun _ _ _ _ => False) (ts a cls d)) :: l2, .as hc hi hln (fun a oe cls d pn hz hf => sw_no (hsu a oe cls d pn hz hf)) hl2, fun D Dd en Hf H F E σ cls x d S rx h k1 k2 k3 k4 k5 => ?_⟩
    obtain ⟨b, hb, h1, h2⟩ := h
    obtain ⟨⟨C, hC⟩, hm, hf⟩ := id rx
    refine ⟨b, names_sub hc hb hm, fun e a na => ?_, fun e => ih D Dd en Hf H F E σ cls x d S rx (h2 e) k1 k2 k3 k4 k5⟩
    obtain ⟨hs, h1⟩ := h1 e
    have hs : canSet E i := hs
    exact ⟨en, Hf, _, _, _, S.setXc hs hf, h1 a cls d hm ⟨C, hC⟩ (fun ne => by
      rcases hf with ⟨_, q⟩ | ⟨dd, vs, q, _⟩
      · exact absurd q ne
      · exact ⟨dd, q⟩), fun σ' H' Hf' F' E' s1 S1 q => k1 _ _ _ _ _ s1 (S1.unset i) q, fun σ' H' Hf' F' E' s1 S1 q => k2 _ _ _ _ _ s1 (S1.unset i) q, fun σ' H' Hf' F' E' s1 S1 q => k3 _ _ _ _ _ s1 (S1.unset i) q, k4, fun _ _ _ _ _ _ _ _ _ _ _ w => w⟩
section
variable {X : Cx} {body : List Stmt} {h₀ : ExceptHandler} {hds : List ExceptHandler} {l : List ClauseD} {pos : Pos} {u : TSd}
theorem s_try (hN : X.N.Nodup) (hb : ∀ (pn : List (Addr × Obj)) (xe : Value → Shared → Prop), PassesOwn (model X.prog X.w) X.A X.env xe → PBd (X.tr pn xe) body u) (hh : HdsD X (h₀ :: hds) l) (hs : X.stack = X.env :: X.outer := by rfl) (hf : X.env.frame = some X.env.locals := by rfl) :
    PSd X (.Try body (h₀ :: hds) [] [] pos) (tTryD X.K X.mg u l) := by
  obtain ⟨l2, h2, hc⟩ := hh.all
  refine ps_imp (ps_try_all (tb := fun W => liftSW X.K X.mg W u) hs hf hN wx_takes (fun W pn xe tk po => sw_of tk (hb pn xe po)) h2) fun D σ H ⟨en, Hf, F, E, Dd, S, h, k1, k2, k3, k4, k5⟩ => ?_
  exact ⟨en, Hf, F, E, _, S, h, k1, k2, k3, k4, fun cls x σ' H' Hf' F' E' d s1 S1 r1 q => hc D Dd en Hf' H' F' E' σ' cls x d S1 r1 q (fun _ _ _ _ _ s2 => k1 _ _ _ _ _ (s1.trans s2)) (fun _ _ _ _ _ s2 => k2 _ _ _ _ _ (s1.trans s2)) (fun _ _ _ _ _ s2 => k3 _ _ _ _ _ (s1.trans s2)) (fun _ _ _ _ _ _ _ s2 => k4 _ _ _ _ _ _ _ (s1.trans s2)) fun _ _ _ _ _ _ _ _ s2 => k5 _ _ _ _ _ _ _ _ (s1.trans s2)⟩
/-! ### in a suite: e.f, isinstance(e, T) -/
/-- what the class of nm must say for its instances' field f to be read -/
def XFld (K : PySem.W.Frag) (mg : Str → Option Value) (nm f : Str) : Prop := ∀ C, mg nm = some (.ref C) → XfC K C ∧ PySem.W.findIn K (.ref C) f = some none
def XfOk (K : PySem.W.Frag) (cls : Value) (f : Str) : Prop := ∃ C : Addr, cls = .ref C ∧ XfC K C ∧ PySem.W.findIn K (.ref C) f = some none
theorem XFld.ok {K : PySem.W.Frag} {mg : Str → Option Value} {nm f : Str} {cls : Value} (h : XFld K mg nm f) (hm : mg nm = some cls) (hc : ∃ C : Addr, cls = .ref C) : XfOk K cls f := by
  obtain ⟨C, rfl⟩ := hc
  exact ⟨C, rfl, h C hm⟩
def tXfD (K : PySem.W.Frag) (a : Addr) (cls : Value) (d : Option Addr) (i : Nat) (f : Str) : TEd := fun E Q => match E[i]? with
  | some (.xc a' cls' d' fs) => a = a' ∧ cls = cls' ∧ d = d' ∧ XfOk K cls f ∧ ∃ v, fs.lookup f = some v ∧ Q v E
  | _ => False
theorem pe_xfA {X : Cx} {a : Addr} {oe : Obj} {cls : Value} {d : Option Addr} {pn : List (Addr × Obj)} {e : Expr} {te : TE} {pos : Pos} {n : Str}
    (hz : Zc cls d oe) (hf : ∃ vs, oe.data = .fields vs) (he : PE (X.suite a ((a, oe) :: pn)) e te) (hb : attributeBase e n X.env (eval e X.env) = eval e X.env := by rfl) :
    PE (X.suite a ((a, oe) :: pn)) (.Attribute e n pos) (fun σ H Q => ∃ C, XfC X.K C ∧ PySem.W.findIn X.K (.ref C) n = some none ∧ tXf a cls d C n te σ H Q) :=
  ⟨fun pins s σ H Q I ⟨C, T, hno, h⟩ => (pe_xf T hno hz hf he hb).run pins s σ H Q I h⟩
theorem d_xf {a : Addr} {oe : Obj} {cls : Value} {d : Option Addr} {pn : List (Addr × Obj)} {x n : Str} {p : Pos} (i : Nat) (hz : Zc cls d oe) (hf : ∃ vs, oe.data = .fields vs) (hN : X.N[i]? = some x := by rfl) (hv : Vis X.env.scope x := by first | exact Or.inl rfl | exact Or.inr (Or.inl rfl) | exact Or.inr (Or.inr rfl))
    (hd : (x == ("__debug__" : Str)) = false := by decide) (hcd : (x == ("__classdict__" : Str)) = false := by decide) (hb : attributeBase (.Name x p) n X.env (eval (.Name x p) X.env) = eval (.Name x p) X.env := by rfl) :
    PEd (X.suite a ((a, oe) :: pn)) (.Attribute (.Name x p) n pos) (tXfD X.K a cls d i n) :=
  pe_imp (pe_xfA hz hf (pv (X := X.suite a ((a, oe) :: pn)) i hN hv hd hcd) hb) fun σ H Q ⟨en, Hf, F, E, Qd, S, h, k⟩ => by
    unfold tXfD at h
    split at h
    · rename_i a' cls' d' fs e
      obtain ⟨rfl, rfl, rfl, ⟨C, rfl, T, hno⟩, v, hv2, q⟩ := h
      obtain ⟨e1, hx⟩ := S.sl i _ e
      rcases hx with ⟨_, q2⟩ | ⟨dd, vs, rfl, q2, q3⟩
      · rw [q2] at hv2
        cases hv2
      · obtain ⟨w, hw, rw'⟩ := q3.get hv2
        exact ⟨C, T, hno, _, e1, rfl, rfl, dd, vs, w, rfl, S.sf _ _ q2, hw, k w H Hf F E v (Same.refl _) S rw' q⟩
    · exact h.elim
end
end L3
namespace L3
open PySem L2
variable [Tbs]
/-! ### isinstance of a caught exception, with a dict or without -/
structure ExcE (K : PySem.W.Frag) (C : Addr) : Prop where
  cl : (PySem.W.clsIn K C).isSome = true
  ga : PySem.W.findIn K (.ref C) "__getattribute__" = some (some (.builtin "BaseException.__getattribute__"))
  gt : PySem.W.findIn K (.ref C) "__getattr__" = some none
  sb : PySem.W.subIn K (.ref C) (.type "BaseException") = some true
  ac : PySem.W.findIn K (.ref C) "__class__" = some (some (.builtin "object.__class__"))
  sg : PySem.W.specialIn K (.builtin "object.__class__") "__get__" = some (some (.builtin "getset_descriptor.__get__"))
  tk : PySem.W.takesIn K (.builtin "object.__class__") = some true
  mo : PySem.W.mroIn K C (.type "object") = some true
/-- the answer: c a class, or a tuple of classes -/
def XIs (K : PySem.W.Frag) (cls : Value) (c : D) (b : Bool) : Prop := ∃ D0 : Addr, cls = .ref D0 ∧ ExcE K D0 ∧ match c with
  | .opq v => ∃ cv, ClsV v cv ∧ PySem.W.kitOne K (.ref D0) cv = some b
  | .tup cs => ∃ vs us, cs = vs.map D.opq ∧ Paired ClsV vs us ∧ PySem.W.kitAny K (.ref D0) us = some b
  | _ => False
theorem repL_opq {K : PySem.W.Frag} {H : Hp} : ∀ {ws vs : List V}, RepL K H ws (vs.map D.opq) → ws = vs
  | _, [], .nil => rfl
  | _, _ :: _, .cons r t => by
    cases r
    rw [repL_opq t]
def tIsX (K : PySem.W.Frag) (a : Addr) (cls : Value) (d : Option Addr) (i : Nat) (tb : TEd) : TEd := fun E Q => match E[i]? with
  | some (.xc a' cls' d' fs) => a = a' ∧ cls = cls' ∧ d = d' ∧ tb E fun c E1 => ∃ b, XIs K cls c b ∧ Q (.bl b) E1
  | _ => False
section
variable {X : Cx} {a D0 : Addr} {oe : Obj} {cls : Value} {d : Option Addr} {pn : List (Addr × Obj)}
theorem exc_inst {pins : List (Addr × Obj)} {σ : St} {H : Hp} {s : Shared} (hz : Zc (.ref D0) d oe) (hf : ∃ vs, oe.data = .fields vs) (I : Inv (X.suite a ((a, oe) :: pn)) pins σ H s) (hd : d = none ∨ ∃ dd fs, d = some dd ∧ H dd = some (.xd fs)) : ∃ od, PySem.W.InstAt s.heap a oe D0 od := by
  obtain ⟨hget, _⟩ := I.pin (a, oe) (List.mem_append.mpr (.inl List.mem_cons_self))
  obtain ⟨vs, hv⟩ := hf
  obtain ⟨oc, od, oda, osl⟩ := oe
  obtain ⟨h1, h2⟩ := hz
  dsimp only at h1 h2 hv
  subst h1 h2 hv
  rcases hd with rfl | ⟨dd, fs, rfl, hx⟩
  · exact ⟨none, hget, rfl, rfl, trivial⟩
  · obtain ⟨mA, ⟨o, _, _, e, _⟩, _⟩ : ∃ mA, s.heap.Ns1 dd mA ∧ ∀ f, RelO (fs.lookup f) (mA f) := I.hok dd _ hx
    exact ⟨some o, hget, rfl, rfl, e⟩
theorem call_isX : CallR (X.suite a ((a, oe) :: pn)) (.builtin "isinstance") (fun xs H Q => ∃ (c : V) (D0 : Addr), xs = [.ref a, c] ∧ Zc (.ref D0) d oe ∧ (∃ vs, oe.data = .fields vs) ∧ (d = none ∨ ∃ dd fs, d = some dd ∧ H dd = some (.xd fs)) ∧ ExcE X.K D0 ∧
    ((∃ cv b, ClsV c cv ∧ PySem.W.kitOne X.K (.ref D0) cv = some b ∧ Q (.bl b) H) ∨ ∃ tp cs us b, c = .ref tp ∧ SqT X.K H tp cs ∧ Paired ClsV cs us ∧ PySem.W.kitAny X.K (.ref D0) us = some b ∧ Q (.bl b) H)) := by
  intro pins s σ H xs us Q I r h
  obtain ⟨c, D0, rfl, hz, hf, hd, C, h⟩ := h
  obtain ⟨u1, u2, rfl, r1, r2⟩ := vals2 r
  cases (show u1 = Value.ref a from r1)
  obtain ⟨od, J⟩ := exc_inst hz hf I hd
  have Z := PySem.W.kitx_exc (x := a) (ox := oe) (od := od) C.cl C.ga C.gt C.sb C.ac C.sg C.tk C.mo
  rcases h with ⟨cv, b, hc, e, q⟩ | ⟨tp, cs, us, b, rfl, hT, hp, e, q⟩
  · have ec : u2 = cv := hc.eq r2
    subst ec
    exact PySem.W.kia_one Z I.kIn J e (fun z => nomatch z) fun tk => ⟨.bl b, H, I.tok tk, rfl, q⟩
  · cases (show u2 = Value.ref tp from r2)
    obtain ⟨its, rv, ⟨o, h1, h2, n, h3⟩, _⟩ := I.tuple hT
    have e3 := ClsV.all hp rv
    subst e3
    obtain ⟨oc, od, dt, sl⟩ := o
    simp only at h2 h3
    subst h2 h3
    exact PySem.W.kia_tup Z I.kIn J h1 e (fun z => nomatch z) fun tk => ⟨.bl b, H, I.tok tk, rfl, q⟩
theorem d_isX {b : Expr} {tb : TEd} {x : Str} {px p pos : Pos} (i : Nat) (hz : Zc cls d oe) (hf : ∃ vs, oe.data = .fields vs) (hm : X.mg "isinstance" = none) (hb : PEd (X.suite a ((a, oe) :: pn)) b tb) (hN : X.N[i]? = some x := by rfl) (hv : Vis X.env.scope x := by first | exact Or.inl rfl | exact Or.inr (Or.inl rfl) | exact Or.inr (Or.inr rfl))
    (hd : (x == ("__debug__" : Str)) = false := by decide) (hcd : (x == ("__classdict__" : Str)) = false := by decide) (hg : Gl X "isinstance" := by rfl) (he : starEach [.Name x px, b] X.env = (false, eval (.Name x px) X.env) :: starEach [b] X.env := by rfl) (he2 : starEach [b] X.env = (false, eval b X.env) :: starEach [] X.env := by rfl) (hpl : (backTo pos (starEach [b] X.env)).any (·.1) = false := by rfl) :
    PEd (X.suite a ((a, oe) :: pn)) (.Call (.Name "isinstance" p) [.Name x px, b] [] pos) (tIsX X.K a cls d i tb) :=
  pe_imp (pe_callB (X := X.suite a ((a, oe) :: pn)) (call_isX (d := d)) hg hm PyProof.Rows.boot_isinstance (pa_cons (pv (X := X.suite a ((a, oe) :: pn)) i hN hv hd hcd) (pa_cons hb pa_nil he2) he) (by decide) (by decide) he hpl) fun σ H Q ⟨en, Hf, F, E, Qd, S, h, k⟩ => by
    unfold tIsX at h
    split at h
    · rename_i a' cls' d' fs e
      obtain ⟨rfl, rfl, rfl, q⟩ := h
      obtain ⟨e1, hx⟩ := S.sl i _ e
      refine ⟨_, e1, en, Hf, F, E, _, S, q, fun v H1 Hf1 F1 E1 c s1 S1 r1 hq => ?_⟩
      obtain ⟨b, ⟨D0, rfl, C, hc⟩, q2⟩ := hq
      have hd : d = none ∨ ∃ dd fs, d = some dd ∧ H1 dd = some (.xd fs) := by
        rcases hx with ⟨h1, _⟩ | ⟨dd, vs, h1, h2, _⟩
        · exact .inl h1
        · exact .inr ⟨dd, vs, h1, S1.sf _ _ (s1 _ _ h2)⟩
      refine ⟨v, D0, rfl, hz, hf, hd, C, ?_⟩
      split at hc
      · rename_i w
        cases r1
        obtain ⟨cv, h1, h2⟩ := hc
        exact .inl ⟨cv, b, h1, h2, k _ _ _ _ _ _ s1 S1 (.bl b) q2⟩
      · rename_i cs
        cases r1 with | tup h0 l0 =>
        obtain ⟨vs, us, rfl, h1, h2⟩ := hc
        rw [repL_opq l0] at h0
        exact .inr ⟨_, _, us, b, rfl, Same.sqT S1.sf h0, h1, h2, k _ _ _ _ _ _ s1 S1 (.bl b) q2⟩
      · exact hc.elim
    · exact h.elim
/-- a class of the program, as a value -/
theorem d_cls {X : Cx} {x : Str} {C : Addr} {pos : Pos} (hm : X.mg x = some (.ref C)) (hg : Gl X x := by rfl) (hd : (x == ("__debug__" : Str)) = false := by decide) : PEd X (.Name x pos) (tCD (.opq (.ref C))) := d_glob (v := .ref C) hg hm rfl (fun _ => .opq _) hd
end
end L3
namespace L3
open PySem L2
variable [Tbs]
/-! ### f(*x) -/
section
variable {X : Cx} {CX : CXT} {k : Nat} {f : Addr} {fd : FuncData} {ps : List Str} {sp : SpP} {E : XK} {x : Str} {p sp_ pos : Pos} {e : Expr} {te : TEd}
def tStarD (sp : SpP) (te : TEd) : TEd := fun E Q => te E fun x E1 => match x.items with
  | some xs => sp xs fun d => Q d E1
  | none => False
theorem d_star (F : FnG X.prog X.w X.K X.mg X.base CX k f fd ps (liftP X.K sp)) (hgd : X.A.guards = some []) (hr : Room k X.A) (hm : X.mg x = some (.ref f)) (hk : PySem.W.keepIn X.K (.ref f) = true) (hb : Binds X.K fd ps []) (hx : Passes CX X E) (he : PEd X e te) (hg : Gl X x := by rfl) (hd : (x == ("__debug__" : Str)) = false := by decide)
    (hst : starEach [.Starred e sp_] X.env = [(true, eval e X.env)] := by rfl) : PEd X (.Call (.Name x p) [.Starred e sp_] [] pos) (tStarD sp te) := by
  refine ⟨fun pins s σ H Q I ⟨en, Hf, F1, E1, Qd, S, h, k1⟩ => ?_⟩
  refine wpAny_Call_Name_kw (ld_glob I hg hm ?_ hd)
  refine PySem.W.callWith_S (h₀ := X.base) I.ok.mod.kin hk (thn (he.run pins s σ H (fun v H1 => ∃ Hf1 F1 E1 d xs, Same Hf Hf1 ∧ Sat X.K en Hf1 H1 F1 E1 σ ∧ Rep X.K Hf1 v d ∧ d.items = some xs ∧ sp xs fun d => Qd d E1) I ⟨en, Hf, F1, E1, _, S, h, fun v H' Hf' F' E' d s1 S1 r1 q => ?_⟩) fun v s1 ⟨y, H1, I1, ry, Hf1, F1, E1, d, xs, s2, S1, r1, ex, q⟩ => ?_) hst
  · cases ei : d.items with
    | none =>
      rw [ei] at q
      exact q.elim
    | some xs =>
      rw [ei] at q
      exact ⟨Hf', F', E', d, xs, s1, S1, r1, ei, q⟩
  · obtain ⟨a, vs, rfl, hsq, rl⟩ : ∃ a vs, y = V.ref a ∧ (SqT X.K H1 a vs ∨ SqL X.K H1 a vs) ∧ RepL X.K Hf1 vs xs := by
      cases r1 with
      | tup hq l => cases ex; exact ⟨_, _, rfl, .inl (Same.sqT S1.sf hq), l⟩
      | lst hq l => cases ex; exact ⟨_, _, rfl, .inr (.inl (.inl (S1.sf _ _ hq))), l⟩
      | _ => cases ex
    obtain rfl : v = Value.ref a := ry
    refine StX.star_any I1 hsq fun us s3 I3 rv => ⟨I3.kIn, run_G (Q := Q) F hgd hr hb hx I3 rv ?_⟩
    exact ⟨Hf1, xs, _, S1.sf, rl, q, fun v H' Hf' d s4 s5 s6 g r q => k1 _ _ _ _ _ _ (s2.trans s4) (S1.grow s4 s5 s6 g) r q⟩
end
end L3
namespace L3
open PySem L2
variable [Tbs]
/-! ### values told at once, lists of our own among them: a, b = [], 0 -/
inductive It where
  | dat (d : D)
  | nw (xs : List D)
def It.sl : It → Sl
  | .dat d => .fz d
  | .nw xs => .ow false (.ol xs)
abbrev TMd := En → (List It → En → Prop) → Prop
abbrev TNd := En → (List D → En → Prop) → Prop
def enP (en : Et) : List (Addr × HO) → Et
  | [] => en
  | (p, o) :: ps => enP (en.prot p o) ps
def Fresh (en : Et) : List (Addr × HO) → Prop
  | [] => True
  | (p, o) :: ps => en.Pr p = none ∧ en.H0 p = none ∧ Fresh (en.prot p o) ps
inductive RepM (K : PySem.W.Frag) (Hf : Hp) : List V → List It → List (Addr × HO) → Prop
  | nil : RepM K Hf [] [] []
  | dat {v vs d its ps} : Rep K Hf v d → RepM K Hf vs its ps → RepM K Hf (v :: vs) (.dat d :: its) ps
  | nw {p ws xs vs its ps} : RepL K Hf ws xs → RepM K Hf vs its ps → RepM K Hf (.ref p :: vs) (.nw xs :: its) ((p, .lst ws) :: ps)
theorem RepM.mono {K : PySem.W.Frag} {H H' : Hp} (e : Same H H') : ∀ {vs its ps}, RepM K H vs its ps → RepM K H' vs its ps := fun h => by
  induction h with
  | nil => exact .nil
  | dat r _ ih => exact .dat (r.mono e) ih
  | nw r _ ih => exact .nw (r.mono e) ih
theorem prot_swap {en : Et} {p q : Addr} {o u : HO} (h : p ≠ q) : (en.prot p o).prot q u = (en.prot q u).prot p o := by
  unfold Et.prot
  congr 1
  funext b
  unfold upd
  by_cases a : b = p
  · by_cases c : b = q
    · exact absurd (a.symm.trans c) h
    · simp [a, c, h]
  · by_cases c : b = q
    · simp [a, c, Ne.symm h]
    · simp [a, c]
theorem Fresh.less {en : Et} {p : Addr} {o : HO} : ∀ {ps}, Fresh (en.prot p o) ps → en.Pr p = none → Fresh en ps ∧ (∀ b ∈ ps, b.1 ≠ p) := by
  intro ps
  induction ps generalizing en with
  | nil => exact fun _ _ => ⟨True.intro, fun b hb => nomatch hb⟩
  | cons b ps ih =>
    obtain ⟨q, u⟩ := b
    rintro ⟨a1, a2, a3⟩ hp
    have ne : q ≠ p := fun e => by
      have z : upd en.Pr p o q = none := a1
      rw [e, upd_same] at z
      cases z
    rw [prot_swap (Ne.symm ne)] at a3
    have a1' : en.Pr q = none := by
      have z : upd en.Pr p o q = none := a1
      rwa [upd_ne ne] at z
    obtain ⟨b1, b2⟩ := ih a3 (show upd en.Pr q u p = none by rw [upd_ne (Ne.symm ne)]; exact hp)
    refine ⟨⟨a1', a2, b1⟩, fun b hb => ?_⟩
    rcases List.mem_cons.mp hb with rfl | hb
    · exact ne
    · exact b2 b hb
theorem enP_prot {p : Addr} {o : HO} : ∀ {ps} {en : Et}, (∀ b ∈ ps, b.1 ≠ p) → enP (en.prot p o) ps = (enP en ps).prot p o := by
  intro ps
  induction ps with
  | nil => exact fun _ => rfl
  | cons b ps ih =>
    intro en h
    obtain ⟨q, u⟩ := b
    show enP ((en.prot p o).prot q u) ps = (enP (en.prot q u) ps).prot p o
    rw [prot_swap (q := q) (u := u) (Ne.symm (h (q, u) (by simp)))]
    exact ih fun b hb => h b (List.mem_cons_of_mem _ hb)
theorem enP_H0 : ∀ {ps} {en : Et}, (enP en ps).H0 = en.H0 := by
  intro ps
  induction ps with
  | nil => exact rfl
  | cons b ps ih => exact fun {en} => ih
theorem enP_Pr {p : Addr} : ∀ {ps} {en : Et}, (∀ b ∈ ps, b.1 ≠ p) → (enP en ps).Pr p = en.Pr p := by
  intro ps
  induction ps with
  | nil => exact fun _ => rfl
  | cons b ps ih =>
    intro en h
    refine (ih fun b hb => h b (List.mem_cons_of_mem _ hb)).trans ?_
    show upd en.Pr b.1 b.2 p = _
    rw [upd_ne (Ne.symm (h _ (by simp)))]
section
variable {K : PySem.W.Frag} {en : Et} {Hf Hf' H H' : Hp} {F : Nat → List Addr} {E : En} {σ : St}
/-- what was kept apart gets its place -/
theorem Sat.keep {A : Addr} {o : HO} {i : Nat} {ow : Ow} (S : Sat K (en.prot A o) Hf H F E σ) (h0 : en.Pr A = none) (h1 : en.H0 A = none) (c : canSet E i) (r : OwRep K Hf H (.ref A) ow [A]) :
    Sat K en Hf H (setF F i [A]) (E.set i (.ow false ow)) (σ.set i (some (.ref A))) := by
  have hD : Hf A = none := S.pf A o (show upd en.Pr A o A = some o from upd_same)
  have hH : H A = some o := S.sp A o (show upd en.Pr A o A = some o from upd_same)
  have up : ∀ b u, en.Pr b = some u → upd en.Pr A o b = some u := fun b u z => by
    rw [upd_ne (ne_of_none z h0)]
    exact z
  have dn : ∀ b, upd en.Pr A o b = none → en.Pr b = none := fun b z => by
    by_cases q : b = A
    · rw [q]
      exact h0
    · rwa [upd_ne q] at z
  have nF : ∀ i, A ∉ F i := fun i hb => by
    have z : upd en.Pr A o A = some o := upd_same
    rw [show upd en.Pr A o A = none from (S.fp i A hb).2.2.2] at z
    cases z
  have S1 : Sat K en Hf H F E σ := { sf := S.sf, so := S.so, dom := S.dom, sp := fun b u z => S.sp b u (up b u z), pf := fun b u z => S.pf b u (up b u z), gf := S.gf, gn := S.gn, dj := S.dj, fp := fun i b hb => by
                                       obtain ⟨a1, a2, a3, a4⟩ := S.fp i b hb
                                       exact ⟨a1, a2, a3, dn b a4⟩
                                     len := S.len, sl := fun i s e => by
                                       have z := S.sl i s e
                                       cases s <;> exact z }
  refine S1.setG c.lt (fun b h => ?_) ⟨_, by rw [List.getElem?_set_self (by rw [S.len]; exact c.lt)], by rw [setF_same]; exact r, (fun z => by cases z), fun _ b h => ?_⟩
  · obtain rfl : b = A := by simpa using h
    exact ⟨hD, ⟨_, hH⟩, .inr h1, h0, fun j _ hb => nF j hb⟩
  · rw [setF_same] at h
    obtain rfl : b = A := by simpa using h
    exact h1
theorem canSet.setS {E : En} {i j : Nat} {s : Sl} (h : canSet E j) (hs : s.free) : canSet (E.set i s) j := by
  by_cases e : i = j
  · subst e
    unfold canSet
    rw [List.getElem?_set_self h.lt]
    exact hs
  · unfold canSet at h ⊢
    rw [List.getElem?_set_ne e]
    exact h
theorem It.fr (a : It) : a.sl.free := by cases a <;> exact True.intro
theorem RepM.put {v : V} {vs : List V} {a : It} {its : List It} {ps : List (Addr × HO)} {i : Nat} (r : RepM K Hf (v :: vs) (a :: its) ps) (fr : Fresh en ps) (S : Sat K (enP en ps) Hf H F E σ) (c : canSet E i) :
    ∃ ps' F', Sat K (enP en ps') Hf H F' (E.set i a.sl) (σ.set i (some v)) ∧ Fresh en ps' ∧ RepM K Hf vs its ps' := by
  cases r with
  | dat r1 r2 => exact ⟨_, _, S.set c r1, fr, r2⟩
  | nw r1 r2 =>
    obtain ⟨f1, f2, f3⟩ := fr
    obtain ⟨f4, f5⟩ := f3.less f1
    have S' := S
    rw [show enP en ((_, HO.lst _) :: _) = enP (en.prot _ _) _ from rfl, enP_prot f5] at S'
    refine ⟨_, _, S'.keep (by rw [enP_Pr f5]; exact f1) (by rw [enP_H0]; exact f2) c ⟨_, _, rfl, rfl, S'.sp _ _ (show upd _ _ _ _ = _ from upd_same), r1⟩, f4, r2⟩
end
def liftM (K : PySem.W.Frag) (t : TMd) : TA := fun σ H Q => ∃ en Hf F E Qd, Sat K en Hf H F E σ ∧ t E Qd ∧
  ∀ vs H' Hf' F' E' its ps, Same Hf Hf' → Fresh en ps → Sat K (enP en ps) Hf' H' F' E' σ → RepM K Hf' vs its ps → Qd its E' → Q vs H'
def liftN (K : PySem.W.Frag) (t : TNd) : TE := fun σ H Q => ∃ en Hf F E Qd, Sat K en Hf H F E σ ∧ t E Qd ∧
  ∀ H' Hf' F' E' p vs xs, Same Hf Hf' → H' p = none → Sat K en Hf' H' F' E' σ → RepL K Hf' vs xs → Qd xs E' → Q (.ref p) (upd H' p (.lst vs))
abbrev PMd (X : Cx) (es : List Expr) (t : TMd) : Prop := PA X es (liftM X.K t)
abbrev PNd (X : Cx) (e : Expr) (t : TNd) : Prop := PE X e (liftN X.K t)
section
variable {X : Cx} {e a b c : Expr} {es : List Expr} {pos : Pos} {te : TEd} {tn : TNd} {t : TAd} {tm : TMd}
def tMNil : TMd := fun E Q => Q [] E
def tMDat (te : TEd) (tm : TMd) : TMd := fun E Q => te E fun x E1 => tm E1 fun xs E2 => Q (.dat x :: xs) E2
def tMNew (tn : TNd) (tm : TMd) : TMd := fun E Q => tn E fun x E1 => tm E1 fun xs E2 => Q (.nw x :: xs) E2
theorem m_nil : PMd X [] tMNil := pa_imp pa_nil fun σ H Q ⟨en, Hf, F, E, Qd, S, h, k⟩ => k [] H Hf F E [] [] (Same.refl _) True.intro S .nil h
theorem m_dat (he : PEd X e te) (hr : PMd X es tm) (hs : starEach (e :: es) X.env = (false, eval e X.env) :: starEach es X.env := by rfl) : PMd X (e :: es) (tMDat te tm) :=
  pa_imp (pa_cons he hr hs) fun σ H Q ⟨en, Hf, F, E, Qd, S, h, k⟩ =>
    ⟨en, Hf, F, E, _, S, h, fun v H1 Hf1 F1 E1 x s1 S1 r1 h1 => ⟨en, Hf1, F1, E1, _, S1, h1, fun vs H2 Hf2 F2 E2 its ps s2 fr S2 r2 h2 =>
      k _ _ _ _ _ _ _ (s1.trans s2) fr S2 (.dat (r1.mono s2) r2) h2⟩⟩
theorem Sat.freshPr {K : PySem.W.Frag} {en : Et} {Hf H : Hp} {F : Nat → List Addr} {E : En} {σ : St} (S : Sat K en Hf H F E σ) {p : Addr} (n : H p = none) : en.Pr p = none ∧ en.H0 p = none := by
  refine ⟨S.sp.free n, ?_⟩
  cases q : en.H0 p with
  | none => rfl
  | some z =>
    obtain ⟨z', e⟩ := S.dom _ _ q
    rw [n] at e
    cases e
theorem m_new (he : PNd X e tn) (hr : PMd X es tm) (hs : starEach (e :: es) X.env = (false, eval e X.env) :: starEach es X.env := by rfl) : PMd X (e :: es) (tMNew tn tm) :=
  pa_imp (pa_cons he hr hs) fun σ H Q ⟨en, Hf, F, E, Qd, S, h, k⟩ =>
    ⟨en, Hf, F, E, _, S, h, fun H1 Hf1 F1 E1 p ws x s1 n S1 r1 h1 => ⟨en.prot p (.lst ws), Hf1, F1, E1, _, S1.protect n, h1, fun vs H2 Hf2 F2 E2 its ps s2 fr S2 r2 h2 =>
      k _ _ _ _ _ _ ((p, .lst ws) :: ps) (s1.trans s2) ⟨(S1.freshPr n).1, (S1.freshPr n).2, fr⟩ S2 (.nw (r1.mono s2) r2) h2⟩⟩
def tNLst (t : TAd) : TNd := fun E Q => t E fun xs E1 => xs.length ≤ sizeLine ∧ Q xs E1
theorem n_lst (h : PAd X es t) : PNd X (.List es pos) (tNLst t) :=
  pe_imp (pe_lst h) fun σ H Q ⟨en, Hf, F, E, Qd, S, h, k⟩ =>
    ⟨en, Hf, F, E, _, S, h, fun vs H1 Hf1 F1 E1 xs s1 S1 r1 h1 => ⟨by rw [r1.length]; exact h1.1, fun p np => k _ _ _ _ _ _ _ s1 np S1 r1 h1.2⟩⟩
/-- name = a list of our own -/
def tSetN (i : Nat) (tn : TNd) : TSd := fun D E => tn E fun xs E1 => canSet E1 i ∧ D.nx (E1.set i (.ow false (.ol xs)))
theorem s_setN {i : Nat} {x : Str} {pos' : Pos} (hN : X.N.Nodup) (he : PNd X e tn) (hi : X.N[i]? = some x := by rfl) (hx : Loc X.env.scope x := by first | exact .inl rfl | exact .inr rfl) (hs : swapsWith e (some (.Name x pos')) pos.line X.env = pure false := by rfl) (hf : X.fn x = true ∨ X.env.scope.names.lookup x = some .local := by first | exact .inl rfl | exact .inr rfl | assumption) :
    PSd X (.Assign [.Name x pos'] e pos) (tSetN i tn) :=
  ps_imp (ps_set hN hi hx he hs hf) fun D σ H ⟨en, Hf, F, E, Dd, S, h, k1, k2, k3, k4, k5⟩ =>
    ⟨en, Hf, F, E, _, S, h, fun H1 Hf1 F1 E1 p vs xs s1 np S1 r1 h1 =>
      k1 _ _ _ _ _ s1 (S1.setNew (o := .ol xs) h1.1 np ⟨p, vs, rfl, rfl, upd_same, r1⟩) h1.2⟩
/-- a, b = x, y -/
def tParM (i j : Nat) (t : TMd) : TSd := fun D E => t E fun ds E1 => match ds with
  | [x, y] => canSet E1 i ∧ canSet E1 j ∧ D.nx ((E1.set i x.sl).set j y.sl)
  | _ => False
theorem s_parM {i j : Nat} {x y : Str} {px py pt : Pos} {kt k2 pt2} (hc : X.calm = true) (hN : X.N.Nodup) (ha : PMd X [a, b] tm) (hi : X.N[i]? = some x := by rfl) (hj : X.N[j]? = some y := by rfl) (hij : i ≠ j := by decide)
    (hx : X.env.scope.names.lookup x = some .local := by rfl) (hy : X.env.scope.names.lookup y = some .local := by rfl)
    (hw : swappedStores [.Tuple [.Name x px, .Name y py] kt pt] (.Tuple [a, b] k2 pt2) X.env = pure (some [x, y]) := by rfl)
    (hs : swapsWithSole [.Tuple [.Name x px, .Name y py] kt pt] (.Tuple [a, b] k2 pt2) pos.line X.env = pure false := by rfl) :
    PSd X (.Assign [.Tuple [.Name x px, .Name y py] kt pt] (.Tuple [a, b] k2 pt2) pos) (tParM i j tm) :=
  ps_imp (ps_par hc hN hi hj hij hx hy ha hw hs) fun D σ H ⟨en, Hf, F, E, Dd, S, h, k1, k2, k3, k4, k5⟩ => ⟨en, Hf, F, E, _, S, h, fun vs H1 Hf1 F1 E1 its ps s1 fr S1 r1 h1 => by
    match its, h1 with
    | [u, w], h1 =>
      obtain ⟨c1, c2, c3⟩ := h1
      obtain ⟨v1, vs1, rfl⟩ : ∃ v1 vs1, vs = v1 :: vs1 := by cases r1 <;> exact ⟨_, _, rfl⟩
      obtain ⟨ps2, F2, S2, fr2, r2⟩ := r1.put fr S1 c1
      obtain ⟨v2, vs2, rfl⟩ : ∃ v2 vs2, vs1 = v2 :: vs2 := by cases r2 <;> exact ⟨_, _, rfl⟩
      obtain ⟨ps3, F3, S3, fr3, r3⟩ := r2.put fr2 S2 (c2.setS u.fr)
      cases r3
      exact ⟨_, _, rfl, k1 _ _ _ _ _ s1 S3 c3⟩⟩
/-- a, b, c = x, y, z -/
def tPar3M (i j l : Nat) (t : TMd) : TSd := fun D E => t E fun ds E1 => match ds with
  | [x, y, z] => canSet E1 i ∧ canSet E1 j ∧ canSet E1 l ∧ D.nx (((E1.set i x.sl).set j y.sl).set l z.sl)
  | _ => False
theorem s_par3M {i j l : Nat} {x y z : Str} {px py pz pt : Pos} {kt k2 pt2} (hc : X.calm = true) (hN : X.N.Nodup) (ha : PMd X [a, b, c] tm) (hi : X.N[i]? = some x := by rfl) (hj : X.N[j]? = some y := by rfl) (hl : X.N[l]? = some z := by rfl) (hij : i ≠ j := by decide) (hil : i ≠ l := by decide) (hjl : j ≠ l := by decide)
    (hx : X.env.scope.names.lookup x = some .local := by rfl) (hy : X.env.scope.names.lookup y = some .local := by rfl) (hz : X.env.scope.names.lookup z = some .local := by rfl)
    (hw : swappedStores [.Tuple [.Name x px, .Name y py, .Name z pz] kt pt] (.Tuple [a, b, c] k2 pt2) X.env = pure (some [x, y, z]) := by rfl)
    (hs : swapsWithSole [.Tuple [.Name x px, .Name y py, .Name z pz] kt pt] (.Tuple [a, b, c] k2 pt2) pos.line X.env = pure false := by rfl) :
    PSd X (.Assign [.Tuple [.Name x px, .Name y py, .Name z pz] kt pt] (.Tuple [a, b, c] k2 pt2) pos) (tPar3M i j l tm) :=
  ps_imp (ps_par3 hc hN hi hj hl hij hil hjl hx hy hz ha hw hs) fun D σ H ⟨en, Hf, F, E, Dd, S, h, k1, k2, k3, k4, k5⟩ => ⟨en, Hf, F, E, _, S, h, fun vs H1 Hf1 F1 E1 its ps s1 fr S1 r1 h1 => by
    match its, h1 with
    | [u, w, q], h1 =>
      obtain ⟨c1, c2, c3, c4⟩ := h1
      obtain ⟨v1, vs1, rfl⟩ : ∃ v1 vs1, vs = v1 :: vs1 := by cases r1 <;> exact ⟨_, _, rfl⟩
      obtain ⟨ps2, F2, S2, fr2, r2⟩ := r1.put fr S1 c1
      obtain ⟨v2, vs2, rfl⟩ : ∃ v2 vs2, vs1 = v2 :: vs2 := by cases r2 <;> exact ⟨_, _, rfl⟩
      obtain ⟨ps3, F3, S3, fr3, r3⟩ := r2.put fr2 S2 (c2.setS u.fr)
      obtain ⟨v3, vs3, rfl⟩ : ∃ v3 vs3, vs2 = v3 :: vs3 := by cases r3 <;> exact ⟨_, _, rfl⟩
      obtain ⟨ps4, F4, S4, fr4, r4⟩ := r3.put fr3 S3 ((c3.setS u.fr).setS w.fr)
      cases r4
      exact ⟨_, _, _, rfl, k1 _ _ _ _ _ s1 S4 c4⟩⟩
end
end L3
namespace L3
open PySem L2 PySem.W
variable [Tbs]
/-! ### facts of exception classes, from what the law's part says -/
namespace Xm
/-- the def of an __init__ with one argument, as it stands in the tree -/
structure Shape1 (qual : Str) (st : Stmt) (f1 : Str) : Prop where
  ex : ∃ (self p1 : Str) (ar : Arg) (a1 a2 a3 a4 a5 a6 b1 b2 b3 b4 : Pos), defBody st = body1 a1 a2 a3 a4 a5 a6 b1 b2 b3 b4 self p1 f1 ∧ ((defArgs st).posonlyargs ++ (defArgs st).args).head? = some ar ∧ ar.arg = self ∧ IScope (defScope st) [self, p1] ∧ (self == ("__debug__" : Str)) = false ∧ (p1 == ("__debug__" : Str)) = false ∧
    (∀ (kV dc pm ct : Value) (an : Option Addr) (cda cc : Addr) (u v : Value), bindArgs (ksFn "__init__" qual (defArgs st) (defBody st) (defScope st) .none kV dc pm an (.ref cda) ct cc) ⟨[u, v], []⟩ = pure [(self, u), (p1, v)]) ∧ ∀ fI cda cc, SupOk qual (defScope st) fI cda cc a1 a2 a3 a5 (.Name p1 a4) []
structure Shape2 (qual : Str) (st : Stmt) (f1 f2 : Str) : Prop where
  ex : ∃ (self p1 p2 : Str) (ar : Arg) (a1 a2 a3 a4 a41 a5 a6 b1 b2 b3 b4 c1 c2 c3 c4 : Pos), defBody st = body2 a1 a2 a3 a4 a41 a5 a6 b1 b2 b3 b4 c1 c2 c3 c4 self p1 p2 f1 f2 ∧ ((defArgs st).posonlyargs ++ (defArgs st).args).head? = some ar ∧ ar.arg = self ∧ IScope (defScope st) [self, p1, p2] ∧ (self == ("__debug__" : Str)) = false ∧ (p1 == ("__debug__" : Str)) = false ∧ (p2 == ("__debug__" : Str)) = false ∧
    (∀ (kV dc pm ct : Value) (an : Option Addr) (cda cc : Addr) (u v v2 : Value), bindArgs (ksFn "__init__" qual (defArgs st) (defBody st) (defScope st) .none kV dc pm an (.ref cda) ct cc) ⟨[u, v, v2], []⟩ = pure [(self, u), (p1, v), (p2, v2)]) ∧ ∀ fI cda cc, SupOk qual (defScope st) fI cda cc a1 a2 a3 a5 (.Name p1 a4) [.Name p2 a41]
section
variable {prog : Program} {K : PySem.W.Frag} {mg : Str → Option Value} {C fI cc cda : Addr} {qual f1 f2 file : Str} {st : Stmt} {od an cdd cld : Option Addr} {osl ccs csl : Array (Option Value)} {oc kV dc pm ct ccl cl : Value} {vs : Array Value} {tf : Tok} {B newId initId : String} {bmB : List Value}
/-- the part's words of one class -/
structure XRaw (prog : Program) (K : PySem.W.Frag) (C fI cc cda : Addr) (B newId initId : String) (bmB : List Value) : Prop where
  q : excInitIn K C bmB newId = true
  ty : typeIn K (.ref fI) = some (.type "function")
  cd : (clsIn K C).isSome = true
  sub : mroIn K C (.ref C) = some true
  any : nsIn K cStatics "thirdparty.any" = some none
  si : ks_superIn K C C "__init__" = some (some (.builtin initId))
  sB : subIn K (.ref C) (.type B) = some true
  sa : findIn K (.ref C) "__setattr__" = some (some (.builtin "object.__setattr__"))
  ov : excOver K C bmB = true
  hd : hasDictIn K C = true
  kC : keepIn K (.ref C) = true
  sE : subIn K (.ref C) (.type "BaseException") = some true
  tC : typeIn K (.ref C) = some (.type "type")
theorem xkey_mk (bx : BaseX B newId initId bmB) (r : XRaw prog K C fI cc cda B newId initId bmB) (sup : mg "super" = none) (top : (prog.main.scope.names.lookup ("super" : Str)).isSome = false)
    (hi : findIn K (.ref C) "__init__" = some (some (.ref fI))) (lc : K.lookup cda = some ⟨ccl, cdd, .fields vs, ccs⟩) (v2 : vs[2]? = some (.str file tf)) (fl : ((prog.main.file : Str) == file) = true)
    (lcc : K.lookup cc = some ⟨cl, cld, .cell (some (.ref C)), csl⟩) : XKey prog K mg C fI cc cda B newId initId bmB :=
  { bx := bx, hi := hi, q := r.q, ty := r.ty, code := ⟨_, _, _, _, _, _, lc, v2, fl⟩, cell := ⟨_, _, _, lcc⟩, cd := Option.isSome_iff_exists.mp r.cd, sub := r.sub, sup := sup, any := r.any, si := r.si, sB := r.sB, sa := r.sa, ov := r.ov, hd := r.hd, top := top }
theorem xone_mk (bx : BaseX B newId initId bmB) (sh : Shape1 qual st f1) (r : XRaw prog K C fI cc cda B newId initId bmB) (sup : mg "super" = none) (top : (prog.main.scope.names.lookup ("super" : Str)).isSome = false)
    (hi : findIn K (.ref C) "__init__" = some (some (.ref fI))) (lI : K.lookup fI = some ⟨oc, od, .func (ksFn "__init__" qual (defArgs st) (defBody st) (defScope st) .none kV dc pm an (.ref cda) ct cc), osl⟩) (co : codeIn K (.ref cda) qual = true)
    (lc : K.lookup cda = some ⟨ccl, cdd, .fields vs, ccs⟩) (v2 : vs[2]? = some (.str file tf)) (fl : ((prog.main.file : Str) == file) = true)
    (lcc : K.lookup cc = some ⟨cl, cld, .cell (some (.ref C)), csl⟩) (ht : takerIn K C f1 = some none) : XOne prog K mg C f1 := by
  obtain ⟨self, p1, ar, a1, a2, a3, a4, a5, a6, b1, b2, b3, b4, eb, h1, h2, h3, h4, h5, h6, h7⟩ := sh.ex
  refine ⟨⟨fI, cc, cda, B, newId, initId, bmB, xkey_mk bx r sup top hi lc v2 fl lcc, ⟨"__init__", qual, self, p1, defArgs st, defScope st, .none, kV, dc, pm, ct, oc, an, od, osl, ar, a1, a2, a3, a4, a5, a6, b1, b2, b3, b4, ?_, co, h1, h2, h3, h4, h5, ?_, h7 fI cda cc⟩⟩, ht, r.kC, r.sE, r.tC⟩
  · rw [lI, eb]
  · intro u v
    rw [← eb]
    exact h6 _ _ _ _ _ _ _ u v
theorem xtwo_mk (bx : BaseX B newId initId bmB) (sh : Shape2 qual st f1 f2) (r : XRaw prog K C fI cc cda B newId initId bmB) (sup : mg "super" = none) (top : (prog.main.scope.names.lookup ("super" : Str)).isSome = false)
    (hi : findIn K (.ref C) "__init__" = some (some (.ref fI))) (lI : K.lookup fI = some ⟨oc, od, .func (ksFn "__init__" qual (defArgs st) (defBody st) (defScope st) .none kV dc pm an (.ref cda) ct cc), osl⟩) (co : codeIn K (.ref cda) qual = true)
    (lc : K.lookup cda = some ⟨ccl, cdd, .fields vs, ccs⟩) (v2 : vs[2]? = some (.str file tf)) (fl : ((prog.main.file : Str) == file) = true)
    (lcc : K.lookup cc = some ⟨cl, cld, .cell (some (.ref C)), csl⟩) (ht : takerIn K C f1 = some none) (ht2 : takerIn K C f2 = some none) (hne : f1 ≠ f2) : XTwo prog K mg C f1 f2 := by
  obtain ⟨self, p1, p2, ar, a1, a2, a3, a4, a41, a5, a6, b1, b2, b3, b4, c1, c2, c3, c4, eb, h1, h2, h3, h4, h5, h51, h6, h7⟩ := sh.ex
  refine ⟨⟨fI, cc, cda, B, newId, initId, bmB, xkey_mk bx r sup top hi lc v2 fl lcc, ⟨"__init__", qual, self, p1, p2, defArgs st, defScope st, .none, kV, dc, pm, ct, oc, an, od, osl, ar, a1, a2, a3, a4, a41, a5, a6, b1, b2, b3, b4, c1, c2, c3, c4, ?_, co, h1, h2, h3, h4, h5, h51, ?_, h7 fI cda cc⟩⟩, ht, ht2, r.kC, r.sE, r.tC⟩
  · rw [lI, eb]
  · intro u v w
    rw [← eb]
    exact h6 _ _ _ _ _ _ _ u v w
end
end Xm
section
variable {K : PySem.W.Frag} {mg : Str → Option Value} {C A : Addr} {nm hn f : Str} {c : Value} {b : Bool}
theorem xsub_mk (hA : mg nm = some (.ref A)) (hB : mg hn = some c) (e : exmOne K (.ref A) c = some b) : XSub K mg nm hn b := fun cls c' h1 h2 => by
  rw [hA] at h1
  cases h1
  rcases h2 with h | ⟨h, _⟩
  · rw [hB] at h
    cases h
    exact e
  · rw [hB] at h
    cases h
theorem xsub_mkB (hA : mg nm = some (.ref A)) (hN : mg hn = none) (hB : bootBuiltins hn = some c) (e : exmOne K (.ref A) c = some b) : XSub K mg nm hn b := fun cls c' h1 h2 => by
  rw [hA] at h1
  cases h1
  rcases h2 with h | ⟨_, h⟩
  · rw [hN] at h
    cases h
  · rw [hB] at h
    cases h
    exact e
theorem xfld_mk (hA : mg nm = some (.ref A)) (h : XfC K A) (hf : PySem.W.findIn K (.ref A) f = some none) : XFld K mg nm f := fun C h1 => by
  rw [hA] at h1
  cases h1
  exact ⟨h, hf⟩
theorem xis_one {n : String} (e : ExcE K A) (h : PySem.W.kitOne K (.ref A) (.type n) = some b) : XIs K (.ref A) (.opq (.ty n)) b := ⟨A, rfl, e, _, .ty n, h⟩
theorem xis_own (e : ExcE K A) (h : PySem.W.kitOne K (.ref A) (.ref C) = some b) : XIs K (.ref A) (.opq (.ref C)) b := ⟨A, rfl, e, _, .own C, h⟩
theorem paired_own : ∀ cs : List Addr, Paired ClsV (cs.map V.ref) (cs.map Value.ref)
  | [] => .nil
  | C :: r => .cons (.own C) (paired_own r)
theorem xis_any (e : ExcE K A) (cs : List Addr) (h : PySem.W.kitAny K (.ref A) (cs.map Value.ref) = some b) : XIs K (.ref A) (.tup (cs.map fun C => D.opq (.ref C))) b := ⟨A, rfl, e, cs.map V.ref, cs.map Value.ref, by rw [List.map_map]; rfl, paired_own cs, h⟩
end
/-! ### as before, the part and the names named -/
section
variable {X : Cx}
theorem s_tryK (K : PySem.W.Frag) (mg : Str → Option Value) {body : List Stmt} {h₀ : ExceptHandler} {hds : List ExceptHandler} {l : List ClauseD} {pos : Pos} {u : TSd} (hN : X.N.Nodup) (hb : ∀ (pn : List (Addr × Obj)) (xe : Value → Shared → Prop), PassesOwn (model X.prog X.w) X.A X.env xe → PBd (X.tr pn xe) body u) (hh : HdsD X (h₀ :: hds) l) (hK : X.K = K := by rfl) (hm : X.mg = mg := by rfl) (hs : X.stack = X.env :: X.outer := by rfl) (hf : X.env.frame = some X.env.locals := by rfl) :
    PSd X (.Try body (h₀ :: hds) [] [] pos) (tTryD K mg u l) := by
  subst hK hm
  exact s_try hN hb hh hs hf
theorem d_isXK (K : PySem.W.Frag) {a : Addr} {oe : Obj} {cls : Value} {d : Option Addr} {pn : List (Addr × Obj)} {b : Expr} {tb : TEd} {x : Str} {px p pos : Pos} (i : Nat) (hz : Zc cls d oe) (hf : ∃ vs, oe.data = .fields vs) (hm : X.mg "isinstance" = none) (hb : PEd (X.suite a ((a, oe) :: pn)) b tb) (hK : X.K = K := by rfl) (hN : X.N[i]? = some x := by rfl) (hv : Vis X.env.scope x := by first | exact Or.inl rfl | exact Or.inr (Or.inl rfl) | exact Or.inr (Or.inr rfl))
    (hd : (x == ("__debug__" : Str)) = false := by decide) (hcd : (x == ("__classdict__" : Str)) = false := by decide) (hg : Gl X "isinstance" := by rfl) (he : starEach [.Name x px, b] X.env = (false, eval (.Name x px) X.env) :: starEach [b] X.env := by rfl) (he2 : starEach [b] X.env = (false, eval b X.env) :: starEach [] X.env := by rfl) (hpl : (backTo pos (starEach [b] X.env)).any (·.1) = false := by rfl) :
    PEd (X.suite a ((a, oe) :: pn)) (.Call (.Name "isinstance" p) [.Name x px, b] [] pos) (tIsX K a cls d i tb) := by
  subst hK
  exact d_isX i hz hf hm hb hN hv hd hcd hg he he2 hpl
theorem d_xfK (K : PySem.W.Frag) {a : Addr} {oe : Obj} {cls : Value} {d : Option Addr} {pn : List (Addr × Obj)} {x n : Str} {p pos : Pos} (i : Nat) (hz : Zc cls d oe) (hf : ∃ vs, oe.data = .fields vs) (hK : X.K = K := by rfl) (hN : X.N[i]? = some x := by rfl) (hv : Vis X.env.scope x := by first | exact Or.inl rfl | exact Or.inr (Or.inl rfl) | exact Or.inr (Or.inr rfl))
    (hd : (x == ("__debug__" : Str)) = false := by decide) (hcd : (x == ("__classdict__" : Str)) = false := by decide) (hb : attributeBase (.Name x p) n X.env (eval (.Name x p) X.env) = eval (.Name x p) X.env := by rfl) :
    PEd (X.suite a ((a, oe) :: pn)) (.Attribute (.Name x p) n pos) (tXfD K a cls d i n) := by
  subst hK
  exact d_xf i hz hf hN hv hd hcd hb
end
end L3
namespace L3
open PySem L2 PySem.Spec PyProof.Rows
variable [Tbs]
/-! ### a tuple, some thousand times -/
def rMany (K : PySem.W.Frag) : R2 := fun x y H Q => ∃ a m ws, x = .ref a ∧ y = .int m ∧ SqT K H a ws ∧ 0 < ws.length ∧ 2 ≤ m ∧ m * ws.length ≤ 1000000 ∧ ∀ p, H p = none → Q (.ref p) (upd H p (.tup (List.replicate m.toNat ws).flatten))
section
variable {X : Cx}
theorem op_many : OpR X (binaryOp .Mult) (rMany X.K) := by
  intro pins s σ H x y v u Q I e1 e2 ⟨a, m, ws, ea, em, hT, pos, m2, many, q⟩
  subst ea em
  cases e1
  obtain ⟨t, rfl⟩ := e2
  obtain ⟨us, vals, ⟨⟨cl, dct, dat, slo⟩, at0, tcl, nn, tdat⟩, small⟩ := I.tuple hT
  dsimp only at tcl tdat
  subst tcl tdat
  have same : us.length = ws.length := vals.length.symm
  have total : (List.replicate m.toNat ws).flatten.length ≤ 16777216 := by
    have r1 := PyProof.Rows.lm_len_rep_flat ws m.toNat
    have r2 : ((m.toNat * ws.length : Nat) : Int) = m * ws.length := by rw [Int.natCast_mul, Int.toNat_of_nonneg (by omega)]
    omega
  have total' : (List.replicate m.toNat us).flatten.length ≤ 16777216 := by
    have r1 := PyProof.Rows.lm_len_rep_flat ws m.toNat
    have r2 := PyProof.Rows.lm_len_rep_flat us m.toNat
    rw [same] at r2
    omega
  have some1 : us.toArray.isEmpty = false := by
    cases us with
    | nil =>
      rw [List.length_nil] at same
      omega
    | cons _ _ => rfl
  have prodN : ((us.toArray.size : Nat) : Int) * m ≤ 1000000 := by
    rw [List.size_toArray, same, Int.mul_comm]
    exact many
  have mBig : m ≤ 1000000 := by
    have := Int.mul_le_mul_of_nonneg_left (show (1 : Int) ≤ ws.length by omega) (show 0 ≤ m by omega)
    omega
  have w0 : (decide (m < -(2 ^ 63)) || decide (m ≥ 2 ^ 63)) = false := by simp; omega
  have w1 : (us.toArray.isEmpty || m == 1) = false := by simp [some1]; omega
  have w2 : (decide (m ≤ 0) || us.toArray.isEmpty) = false := by simp [some1]; omega
  have w3 : Builtin.Tuple.tupleTooMany (((us.toArray.size : Nat) : Int) * m) = false := by
    unfold Builtin.Tuple.tupleTooMany
    have e := sizeLine_eq
    refine decide_eq_false ?_
    omega
  have w4 : (List.foldl (fun x1 x2 => x1 ++ x2) #[] (List.replicate m.toNat us.toArray)).size ≤ sizeLine := by
    rw [size_rep, List.size_toArray, sizeLine_eq]
    exact total'
  have M := tuple_mulW a us.toArray nn dct slo m t w0 w1 w2 (by omega) w3 w4
  refine wpAny_binaryOp_repeat_ref (T := "tuple") (U := "int") (by decide) ⟨_, at0, rfl⟩ (typeIs_int · m t) noFill_tuple_mul F.fills_int_mul F.slot_int_rmul repeat_tuple
    F.slot_int_index.lookup (call_meets F.slot_int_rmul (typeIs_int s m t) F.entry_int_rmul (F.args_int_rmul_2 _ _) (int_rmul_tuple m t a us.toArray nn dct slo) ⟨at0, rfl, ⟨_, at0, rfl⟩, ?_⟩)
  refine call_meets F.slot_tuple_mul ⟨_, at0, rfl⟩ F.entry_tuple_mul (F.args_tuple_mul_2 _ _) M ⟨at0, ?_⟩
  rw [size_rep]
  exact ⟨.ref s.heap.objs.size, _, I.laid (t' := s.toks) (o := .tup (List.replicate m.toNat ws).flatten) (fun _ _ z => Heap.get?_push_of_some _ z) (Nat.le_refl _) ⟨by rw [sizeLine_eq]; exact total, _, vals.rep m.toNat, IsTup.new _ _⟩, rfl, q _ (I.hok.fresh (Nat.le_refl _))⟩
def rdMany : RD := fun x y E Q => match x, y with
  | .tup u, .int n => (0 < u.length ∧ 2 ≤ n ∧ n * u.length ≤ 1000000) ∧ Q (.tup (List.replicate n.toNat u).flatten) E
  | _, _ => False
theorem ok_many {K : PySem.W.Frag} : OpOk K (rMany K) rdMany := fun en Hf H F E σ vx vy x y Q Qd S rx ry q k => by
  unfold rdMany at q
  split at q
  · cases rx with | tup h1 l1 =>
    cases ry
    obtain ⟨⟨n0, n1, ln⟩, q⟩ := q
    exact ⟨_, _, _, rfl, rfl, Same.sqT S.sf h1, by rw [l1.length]; exact n0, n1, by rw [l1.length]; exact ln, fun p np => k.new S np (fun _ s2 e => .tup (.inl (.inl e)) ((l1.rep _).mono s2)) q⟩
  · exact q.elim
theorem d_many {a b : Expr} {ta tb : TEd} {pos : Pos} (ha : PEd X a ta) (hb : PEd X b tb) : PEd X (.BinOp a .Mult b pos) (tOpD rdMany ta tb) := d_op op_many ok_many ha hb
end
end L3
namespace L3
open PySem L2 PySem.Spec PyProof.Rows PySem.W
variable [Tbs]
/-! ### xs.count(y) of a list of data -/
def rCnt (K : PySem.W.Frag) : V → List V → Hp → VK → Prop := fun x vs H Q => ∃ (es : List D) (y : V) (e : D), vs = [y] ∧ (∃ a ws, x = .ref a ∧ H a = some (.lst ws) ∧ RepL K H ws es) ∧ Rep K H y e ∧ ((D.lst es).plain = true ∧ e.plain = true ∧ PyData.plainAll (D.pyL es) = true ∧ PyData.plain e.py = true ∧ PyData.depth e.py ≤ 60) ∧ Q (.int ((es.countP fun z => D.eqv z e : Nat) : Int)) H
theorem countP_py {e : D} : ∀ es : List D, ((D.pyL es).countP fun y => PyData.eqv y e.py) = es.countP fun z => D.eqv z e
  | [] => rfl
  | z :: es => by
    show (z.py :: D.pyL es).countP _ = _
    rw [List.countP_cons, List.countP_cons, countP_py es]
    rfl
section
variable {X : Cx} {a b : Expr} {ta tb : TEd}
theorem mt_count (hu : X.A.units + 64 < cLine) : MtR X "list.count" (rCnt X.K) := by
  intro pins s σ H x vs v us Q I rx rv h
  obtain ⟨es, y, e, rfl, ⟨l, ws, rfl, hl, rl⟩, re, ⟨p1, p2, p3, p4, p5⟩, q⟩ := h
  cases rx
  obtain ⟨u, rfl, ru⟩ := rv.one
  obtain ⟨as, hr⟩ := Dp.reads I (D.lst es).py (.ref l) (.ref l) ((Rep.lst hl rl).dp p1) rfl
  obtain ⟨bs, hr2⟩ := Dp.reads I e.py y u (re.dp p2) ru
  obtain ⟨o, items, n, h1, h2, h3, h4⟩ : ∃ o items n, s.heap.get? l = some o ∧ o.cls = .type "list" ∧ o.data = .seq items n ∧ ∃ as, ReadsAll s.heap items.toList (D.pyL es) as := by
    cases hr with | list a1 a2 a3 a4 => exact ⟨_, _, _, a1, a2, a3, _, a4⟩
  obtain ⟨cs, h4⟩ := h4
  refine PySem.SeqAt.count_list_data (l := l) (vs := items) (xs := D.pyL es) (d := e.py) ⟨o, h1, h2, n, h3⟩ h4 hr2 p3 p4 (by have : min (PyData.depthAll (D.pyL es)) (PyData.depth e.py) ≤ 60 := Nat.le_trans (Nat.min_le_right _ _) p5; omega) ?_
  rw [countP_py]
  exact ⟨.int _, H, I.tok _, ⟨_, rfl⟩, q⟩
def tCntD (ta tb : TEd) : TEd := fun E Q => ta E fun x E1 => match x with
  | .lst es => tb E1 fun e E2 => ((D.lst es).plain = true ∧ e.plain = true ∧ PyData.plainAll (D.pyL es) = true ∧ PyData.plain e.py = true ∧ PyData.depth e.py ≤ 60) ∧ Q (.int ((es.countP fun z => D.eqv z e : Nat) : Int)) E2
  | _ => False
theorem d_count {apos cpos : Pos} (hu : X.A.units + 64 < cLine) (ha : PEd X a ta) (hb : PEd X b tb) (hbase : attributeBase a "count" X.env (eval a X.env) = eval a X.env := by rfl)
    (hfew : ((backTo cpos (starEach [b] X.env)).all (fun x => !x.1) && (backToKw cpos (keywordEach [] X.env)).all (fun x => x.1.isSome) && decide ([b].length + ([] : List Keyword).length + (if ([] : List Keyword).isEmpty then 0 else 1) < 30)) = true := by rfl)
    (hline : (apos.endLine == cpos.line) = true := by rfl) (hs : starEach [b] X.env = (false, eval b X.env) :: starEach [] X.env := by rfl) : PEd X (.Call (.Attribute a "count" apos) [b] [] cpos) (tCntD ta tb) :=
  pe_imp (pe_bm PySem.F.plainAttrs_list PySem.F.slot_list_count PySem.F.type_list_count (mt_count hu) ha (pa_cons hb pa_nil hs) hbase hfew hline hs) fun σ H Q ⟨en, Hf, F, E, Qd, S, h, k⟩ => ⟨en, Hf, F, E, _, S, h, fun v H1 Hf1 F1 E1 x s1 S1 r1 h1 => by
    cases x with
    | lst es =>
      cases r1 with | lst h0 l0 =>
      exact ⟨.inl ⟨rfl, _, .inl (.inl (S1.sf _ _ h0))⟩, en, Hf1, F1, E1, _, S1, h1, fun ws H2 Hf2 F2 E2 ds s2 S2 r2 h2 => by
        exact ⟨es, _, _, rfl, ⟨_, _, rfl, S2.sf _ _ (s2 _ _ h0), (l0.mono s2).mono S2.sf⟩, r2.mono S2.sf, h2.1, k _ _ _ _ _ _ (s1.trans s2) S2 (.int _) h2.2⟩⟩
    | _ => exact h1.elim⟩
end
end L3
namespace L3
open PySem L2
variable [Tbs]
/-! ### range(i, j, c), [a, *b] -/
def rngC (lo c : Int) (n : Nat) : List D := (List.range n).map fun (i : Nat) => D.int (lo + i * c)
theorem rngC_len (lo c : Int) (n : Nat) : (rngC lo c n).length = n := by unfold rngC; simp
theorem rngC_get {lo c : Int} {n i : Nat} (h : i < n) : (rngC lo c n)[i]? = some (.int (lo + i * c)) := by unfold rngC; simp [h]
theorem rngC_inv {lo c : Int} {n i : Nat} {d : D} (h : (rngC lo c n)[i]? = some d) : i < n ∧ d = .int (lo + i * c) := by
  have hi : i < n := by
    have := (List.getElem?_eq_some_iff.mp h).1
    rwa [rngC_len] at this
  rw [rngC_get hi] at h
  exact ⟨hi, (Option.some.inj h).symm⟩
theorem rngC_ints (lo c : Int) (n : Nat) : rngC lo c n = ((List.range n).map fun i : Nat => lo + (i : Int) * c).map D.int := by
  unfold rngC
  rw [List.map_map]
  rfl
theorem rngC_ok {K : PySem.W.Frag} {Hf : Hp} (lo c : Int) (n : Nat) : JOk K Hf (Itc lo c n) (rngC lo c n) where
  go := fun i H' _ hi => by rwa [rngC_len] at hi
  stop := fun H' _ => by
    show n ≤ _
    rw [rngC_len]
    exact Nat.le_refl _
  yld := fun i H1 v H2 _ hi ⟨e1, e2⟩ => by
    rw [rngC_len] at hi
    subst e2
    exact ⟨_, rngC_get hi, .inl ⟨e1, .int _⟩⟩
def iRng3D (te : TAd) : TId := fun E Q => te E fun xs E1 => match xs with
  | [.int i, .int j, .int c] => ∃ n, RgC i j c n ∧ Q (rngC i c n) E1
  | _ => False
section
variable {X : Cx} {a b c tg : Expr} {t : TAd} {p pos : Pos}
theorem i_range3 (hm : X.mg "range" = none) (ha : PAd X [a, b, c] t) (hg : Gl X "range" := by rfl) (hs : starEach [a, b, c] X.env = (false, eval a X.env) :: starEach [b, c] X.env := by rfl) (hpl : (backTo pos (starEach [b, c] X.env)).any (·.1) = false := by rfl) : PId X tg (.Call (.Name "range" p) [a, b, c] [] pos) (iRng3D t) :=
  pi_imp (pi_range3 hg hm ha hs hpl) fun σ H R ⟨en, Hf, F, E, Qd, S, h, k⟩ => ⟨en, Hf, F, E, _, S, h, fun vs H1 Hf1 F1 E1 ds s1 S1 r1 h1 => by
    match ds, h1 with
    | [.int i, .int j, .int c], ⟨n, hr, h1⟩ =>
      cases r1 with | cons a1 l1 =>
      obtain ⟨v, w, rfl, r2, r3⟩ := l1.two
      cases a1
      cases r2
      cases r3
      exact ⟨_, _, _, n, rfl, hr, k _ _ _ _ _ _ s1 S1 (rngC_ok _ _ _) h1⟩⟩
def tStarC (te : TEd) (t : TAd) : TAd := fun E Q => te E fun x E1 => match x.items with
  | some xs => t E1 fun ys E2 => Q (xs ++ ys) E2
  | none => False
theorem dcS {e : Expr} {es : List Expr} {te : TEd} (he : PEd X e te) (hr : PAd X es t) (hs : starEach (.Starred e p :: es) X.env = (true, eval e X.env) :: starEach es X.env := by rfl) : PAd X (.Starred e p :: es) (tStarC te t) :=
  pa_imp (StX.pa_star he hr hs) fun σ H Q ⟨en, Hf, F, E, Qd, S, h, k⟩ => ⟨en, Hf, F, E, _, S, h, fun v H1 Hf1 F1 E1 x s1 S1 r1 h1 => by
    cases ex : x.items with
    | none =>
      rw [ex] at h1
      exact h1.elim
    | some xs =>
      rw [ex] at h1
      obtain ⟨q, ws, rfl, hsq, rl⟩ : ∃ q ws, v = V.ref q ∧ (SqT X.K H1 q ws ∨ SqL X.K H1 q ws) ∧ RepL X.K Hf1 ws xs := by
        cases r1 with
        | tup hq l => cases ex; exact ⟨_, _, rfl, .inl (Same.sqT S1.sf hq), l⟩
        | lst hq l => cases ex; exact ⟨_, _, rfl, .inr (.inl (.inl (S1.sf _ _ hq))), l⟩
        | _ => cases ex
      exact ⟨q, ws, rfl, hsq, en, Hf1, F1, E1, _, S1, h1, fun vs H2 Hf2 F2 E2 ys s2 S2 r2 h2 => k _ _ _ _ _ _ (s1.trans s2) S2 ((rl.mono s2).append r2) h2⟩⟩
end
end L3
namespace L3
open PySem L2
variable [Tbs]
/-! ### a comprehension over our own list, which stays ours -/
section
variable {K : PySem.W.Frag} {en : Et} {Hf H : Hp} {F : Nat → List Addr} {E : En} {σ : St}
/-- our own list is kept apart -/
theorem Sat.hide (S : Sat K en Hf H F E σ) {j : Nat} {xs : List D} (e : E[j]? = some (.ow false (.ol xs))) :
    ∃ p ws, σ[j]? = some (some (.ref p)) ∧ H p = some (.lst ws) ∧ RepL K Hf ws xs ∧ en.Pr p = none ∧ en.H0 p = none ∧ Sat K (en.prot p (.lst ws)) Hf H (setF F j []) (E.set j .un) σ := by
  obtain ⟨v, hv, ⟨p, ws, rfl, hF, hp, r⟩, _, h0⟩ := S.own e
  have hm : p ∈ F j := by rw [hF]; simp
  obtain ⟨n1, _, _, n4⟩ := S.fp j p hm
  have other : ∀ i b, b ∈ setF F j [] i → b ∈ F i ∧ i ≠ j ∧ b ≠ p := fun i b hb => by
    by_cases q : i = j
    · subst q
      rw [setF_same] at hb
      nomatch hb
    · rw [setF_ne q] at hb
      exact ⟨hb, q, fun z => q (S.dj i j p (by rw [← z]; exact hb) hm)⟩
  have hj : j < E.length := (List.getElem?_eq_some_iff.mp e).1
  refine ⟨p, ws, hv, hp, r, n4, h0 rfl p hm, { sf := S.sf, so := S.so, dom := S.dom, sp := fun b u z => ?_, pf := fun b u z => ?_, gf := S.gf, gn := S.gn, dj := fun i k b h1 h2 => S.dj i k b (other i b h1).1 (other k b h2).1, fp := fun i b hb => ?_, len := by rw [S.len, List.length_set], sl := fun i s hs => ?_ }⟩
  · by_cases q : b = p
    · subst q
      have z' : upd en.Pr b (.lst ws) b = some u := z
      rw [upd_same] at z'
      cases z'
      exact hp
    · have z' : upd en.Pr p (.lst ws) b = some u := z
      rw [upd_ne q] at z'
      exact S.sp b u z'
  · by_cases q : b = p
    · rw [q]
      exact n1
    · have z' : upd en.Pr p (.lst ws) b = some u := z
      rw [upd_ne q] at z'
      exact S.pf b u z'
  · obtain ⟨h1, h2, h3⟩ := other i b hb
    obtain ⟨a1, a2, a3, a4⟩ := S.fp i b h1
    refine ⟨a1, a2, a3, ?_⟩
    show upd en.Pr p (.lst ws) b = none
    rw [upd_ne h3]
    exact a4
  · by_cases q : j = i
    · subst q
      rw [List.getElem?_set_self hj] at hs
      cases hs
      trivial
    · rw [List.getElem?_set_ne q] at hs
      have z := S.sl i s hs
      cases s with
      | un => trivial
      | fz d => exact z
      | xc a c d fs => exact z
      | cl v vs ds cc oo => exact z
      | ow b o =>
        obtain ⟨v, y1, y2, y3, y4⟩ := z
        have hne : setF F j [] i = F i := setF_ne (Ne.symm q)
        exact ⟨v, y1, by rw [hne]; exact y2, by rw [hne]; exact y3, by rw [hne]; exact y4⟩
end
section
variable {X : Cx} {elt tg : Expr} {ifs : List Expr} {te : TEd} {tt : TTd} {g : TGd} {pos p : Pos} {vs : List Nat}
def tLcO (j : Nat) (g : TGd) (tt : TTd) (te : TEd) (vs : List Nat) : TEd := fun E Q => match E[j]? with
  | some (.ow false (.ol xs)) => lcD xs g tt te vs (E.set j .un) fun acc E2 => canSet E2 j ∧ Q (.lst acc) (E2.set j (.ow false (.ol xs)))
  | _ => False
theorem lift_lcO {K : PySem.W.Frag} {j : Nat} : ∀ σ H Q, liftE K (tLcO j g tt te vs) σ H Q → tLc (iSeq K (tVar j)) (liftC K vs g) (liftT K tt) (liftE K te) vs σ H Q := fun σ H Q ⟨en, Hf, F, E, Qd, S, h, k⟩ => by
  unfold tLcO at h
  split at h
  · rename_i xs e
    obtain ⟨q, ws0, hv, hq, rq, h0, h1, S0⟩ := S.hide e
    have prq : ∀ {ps : Et} {Hf' H' : Hp} {F' : Nat → List Addr} {E' : En} {σ' : St}, ps.Pr q = some (.lst ws0) → Sat K ps Hf' H' F' E' σ' → H' q = some (.lst ws0) := fun e S' => S'.sp q _ e
    obtain ⟨P, p0, ps, pd⟩ := h
    refine ⟨_, hv, q, rfl, .inl ⟨⟨ws0, .inl (.inl hq)⟩, fun D nD => ?_⟩⟩
    obtain ⟨d1, d2⟩ := S0.fresh nD
    have qD : q ≠ D := ne_of_none hq nD
    have pr : ∀ ws, ((en.prot q (.lst ws0)).prot D (.lst ws)).Pr q = some (.lst ws0) := fun ws => by
      show upd (upd en.Pr q (.lst ws0)) D (.lst ws) q = _
      rw [upd_ne qD, upd_same]
    refine ⟨fun i m H => m = xs.length - i ∧ i ≤ xs.length ∧ ∃ Hf' F' E' acc ws, Same Hf Hf' ∧ Sat K ((en.prot q (.lst ws0)).prot D (.lst ws)) Hf' H F' E' σ ∧ RepL K Hf' ws acc ∧ P i acc E',
      ⟨xs.length, by simp, Nat.zero_le _, Hf, _, wipeD (E.set j .un) vs, [], [], Same.refl _, (S0.unwipe vs rfl).protect nD, .nil, p0⟩, ?_⟩
    rintro i m H2 ⟨rfl, hi, Hf2, F2, E2, acc, ws, s2, S2, r2, p2⟩
    have hq2 := prq (pr ws) S2
    by_cases hlt : i < xs.length
    · refine .inr ⟨?_, fun H' => ∃ Hf' F' E' acc ws, Same Hf Hf' ∧ Sat K ((en.prot q (.lst ws0)).prot D (.lst ws)) Hf' H' F' E' σ ∧ RepL K Hf' ws acc ∧ P (i + 1) acc E', fun H' z => ⟨xs.length - (i + 1), by omega, rfl, hlt, z⟩, fun x H' y => ?_⟩
      · obtain ⟨d, ed⟩ := getE hlt
        obtain ⟨v, ev, _⟩ := rq.get ed
        exact ⟨ws0, v, .inl (.inl hq2), ev⟩
      obtain ⟨rfl, y2⟩ := y
      obtain ⟨d, ed⟩ := getE hlt
      obtain ⟨v', ev, rv⟩ := rq.get ed
      have ex := y2 _ (.inl (.inl hq2))
      rw [ev] at ex
      cases ex
      refine ⟨_, Hf2, F2, _, d, _, S2.wipe vs, rv.mono s2, ps i d acc E2 ed p2, fun σ3 H3 Hf3 F3 E3 s3 S3 w3 q3 => ⟨w3.trans (wipe_wipe vs), ?_⟩⟩
      have w3' : wipe σ3 vs = wipe σ vs := w3.trans (wipe_wipe vs)
      refine ⟨_, Hf3, F3, E3, _, S3, q3, fun b H4 Hf4 F4 E4 s4 S4 q4 => ?_⟩
      cases b with
      | false => exact ⟨Hf4, F4, wipeD E4 vs, acc, ws, ((s2.trans s3).trans s4), S4.unwipe vs w3', r2.mono (s3.trans s4), q4⟩
      | true =>
        refine ⟨_, Hf4, F4, E4, _, S4, q4, fun v H5 Hf5 F5 E5 y5 s5 S5 r5 q5 => ?_⟩
        have hD : H5 D = some (.lst ws) := S5.sp D _ (show upd (upd en.Pr q (.lst ws0)) D (.lst ws) D = some (.lst ws) from upd_same)
        have rr := (r2.mono ((s3.trans s4).trans s5))
        exact ⟨ws, hD, by rw [rr.length]; exact q5.1, Hf5, F5, wipeD E5 vs, acc ++ [y5], ws ++ [v], (((s2.trans s3).trans s4).trans s5), (S5.unwipe vs w3').chProt d1 d2 _, rr.append (.cons r5 .nil), q5.2⟩
    · obtain rfl : i = xs.length := by omega
      obtain ⟨S3, s3⟩ := S2.unprot d1 d2
      obtain ⟨c, fin⟩ := pd acc E2 p2
      have S4 := S3.keep (ow := .ol xs) h0 h1 c ⟨q, ws0, rfl, rfl, hq2, rq.mono (s2.trans s3)⟩
      have es : σ.set j (some (.ref q)) = σ := by
        apply List.ext_getElem?
        intro i
        by_cases z : j = i
        · subst z
          rw [List.getElem?_set_self (List.getElem?_eq_some_iff.mp hv).1, hv]
        · rw [List.getElem?_set_ne z]
      rw [es] at S4
      exact .inl ⟨⟨ws0, .inl (.inl hq2), Nat.le_of_eq rq.length⟩, k _ _ _ _ _ _ (s2.trans s3) S4 (.lst upd_same (r2.mono s3)) fin⟩
  · exact h.elim
theorem d_lcO (j : Nat) {x : Str} {scope : Scope} {own : List (Str × Nat)} (hc : X.calm = true) (hN : X.N.Nodup) (ok : BlkOk X.N X.env.scope scope own)
    (hg : ∀ (s : Shared) (H : Hp) (C : Addr) (cl : List (Str × Addr)) (fp : List Addr), PCd (X.blk s H scope (compEnvC scope cl C X.env) fp) (own.map (·.2)) tg g) (ht : ∀ (s : Shared) (H : Hp) (C : Addr) (cl : List (Str × Addr)) (fp : List Addr), PTsd (X.blk s H scope (compEnvC scope cl C X.env) fp) ifs tt)
    (he : ∀ (s : Shared) (H : Hp) (C : Addr) (cl : List (Str × Addr)) (fp : List Addr), PEd (X.blk s H scope (compEnvC scope cl C X.env) fp) elt te) (hi : X.N[j]? = some x := by rfl) (hv : Vis X.env.scope x := by first | exact Or.inl rfl | exact Or.inr (Or.inl rfl) | exact Or.inr (Or.inr rfl))
    (hd : (x == ("__debug__" : Str)) = false := by decide) (hcd : (x == ("__classdict__" : Str)) = false := by decide) (hs : ∀ y, foldedSetIterable (.Name x p) X.env y = pure y := by intro _; rfl) :
    PEd X (.ListComp elt [⟨tg, .Name x p, ifs, 0⟩] scope pos) (tLcO j g tt te (own.map (·.2))) :=
  pe_imp (pe_lc hc hN (pi_seq (pv j hi hv hd hcd)) ok hg ht he hs) lift_lcO
theorem s_setLcO (j : Nat) {i : Nat} {x y : Str} {py spos : Pos} {scope : Scope} {own : List (Str × Nat)} (hc : X.calm = true) (hN : X.N.Nodup) (ok : BlkOk X.N X.env.scope scope own)
    (hg : ∀ (s : Shared) (H : Hp) (C : Addr) (cl : List (Str × Addr)) (fp : List Addr), PCd (X.blk s H scope (compEnvC scope cl C X.env) fp) (own.map (·.2)) tg g) (ht : ∀ (s : Shared) (H : Hp) (C : Addr) (cl : List (Str × Addr)) (fp : List Addr), PTsd (X.blk s H scope (compEnvC scope cl C X.env) fp) ifs tt)
    (he : ∀ (s : Shared) (H : Hp) (C : Addr) (cl : List (Str × Addr)) (fp : List Addr), PEd (X.blk s H scope (compEnvC scope cl C X.env) fp) elt te)
    (hsw : swapsWith (.ListComp elt [⟨tg, .Name x p, ifs, 0⟩] scope pos) (some (.Name y py)) spos.line X.env = pure true) (hi : X.N[j]? = some x := by rfl) (hv : Vis X.env.scope x := by first | exact Or.inl rfl | exact Or.inr (Or.inl rfl) | exact Or.inr (Or.inr rfl))
    (hd : (x == ("__debug__" : Str)) = false := by decide) (hcd : (x == ("__classdict__" : Str)) = false := by decide) (hy : X.N[i]? = some y := by rfl) (hyl : X.env.scope.names.lookup y = some .local := by rfl) (hs : ∀ y, foldedSetIterable (.Name x p) X.env y = pure y := by intro _; rfl) :
    PSd X (.Assign [.Name y py] (.ListComp elt [⟨tg, .Name x p, ifs, 0⟩] scope pos) spos) (tAsgD (tLcO j g tt te (own.map (·.2))) (gNameD i)) :=
  ps_imp (ps_setLc hc hN hy hyl hsw (pi_seq (pv j hi hv hd hcd)) ok hg ht he hs) fun D σ H ⟨en, Hf, F, E, Dd, S, h, k1, k2, k3, k4, k5⟩ =>
    lift_lcO σ H _ ⟨en, Hf, F, E, _, S, h, fun v H' Hf' F' E' d s1 S1 r1 q => k1 _ _ _ _ _ s1 (S1.set q.1 r1) q.2⟩
/-! ### a, b = [..], .. where a name is a cell -/
theorem s_parMC {i j : Nat} {x y : Str} {a b : Expr} {px py pt : Pos} {kt k2 pt2} {tm : TMd} (hc : X.calm = true) (hN : X.N.Nodup) (ha : PMd X [a, b] tm) (hi : X.N[i]? = some x := by rfl) (hj : X.N[j]? = some y := by rfl)
    (hx : Loc X.env.scope x := by first | exact .inl rfl | exact .inr rfl) (hy : Loc X.env.scope y := by first | exact .inl rfl | exact .inr rfl)
    (hfx : X.fn x = true ∨ X.env.scope.names.lookup x = some .local := by first | exact .inl rfl | exact .inr rfl | assumption) (hfy : X.fn y = true ∨ X.env.scope.names.lookup y = some .local := by first | exact .inl rfl | exact .inr rfl | assumption)
    (hs : swapsWithSole [.Tuple [.Name x px, .Name y py] kt pt] (.Tuple [a, b] k2 pt2) pos.line X.env = pure false := by rfl) (hw : swappedStores [.Tuple [.Name x px, .Name y py] kt pt] (.Tuple [a, b] k2 pt2) X.env = pure none := by rfl)
    (h1 : (assignEach [.Tuple [.Name x px, .Name y py] kt pt] X.env).map (·.2) = [assign (.Tuple [.Name x px, .Name y py] kt pt) X.env] := by rfl)
    (e1 : (assignEach [.Name x px, .Name y py] X.env).map (·.2) = assign (.Name x px) X.env :: (assignEach [.Name y py] X.env).map (·.2) := by rfl) (e2 : (assignEach [.Name y py] X.env).map (·.2) = assign (.Name y py) X.env :: (assignEach [] X.env).map (·.2) := by rfl)
    (hn : (assignEach [.Name x px, .Name y py] X.env).length = 2 := by rfl) (hst : (assignEach [.Name x px, .Name y py] X.env).findIdx? (·.1) = none := by rfl) :
    PSd X (.Assign [.Tuple [.Name x px, .Name y py] kt pt] (.Tuple [a, b] k2 pt2) pos) (tParM i j tm) :=
  ps_imp (ps_asg (pe_tup ha) (pg_tup hc (pgs_cons (pg_name hN hi hx hfx) (pgs_cons (pg_name hN hj hy hfy) pgs_nil e2) e1) hn hst) hs hw h1) fun D σ H ⟨en, Hf, F, E, Dd, S, h, k1, k2, k3, k4, k5⟩ => ⟨en, Hf, F, E, _, S, h, fun vs H1 Hf1 F1 E1 its ps s1 fr S1 r1 h1 => by
    match its, h1 with
    | [u, w], h1 =>
      obtain ⟨c1, c2, c3⟩ := h1
      obtain ⟨v1, vs1, rfl⟩ : ∃ v1 vs1, vs = v1 :: vs1 := by cases r1 <;> exact ⟨_, _, rfl⟩
      have r2' := r1
      obtain ⟨v2, vs2, rfl⟩ : ∃ v2 vs2, vs1 = v2 :: vs2 := by
        cases r1 with
        | dat _ r => cases r <;> exact ⟨_, _, rfl⟩
        | nw _ r => cases r <;> exact ⟨_, _, rfl⟩
      obtain rfl : vs2 = [] := by
        cases r1 with
        | dat _ r => cases r with
          | dat _ r => cases r; rfl
          | nw _ r => cases r; rfl
        | nw _ r => cases r with
          | dat _ r => cases r; rfl
          | nw _ r => cases r; rfl
      refine ⟨by show 2 ≤ sizeLine; decide, fun p np => ⟨p, [v1, v2], rfl, .inl (.inl upd_same), rfl, v1, [v2], rfl, v2, [], rfl, rfl, ?_⟩⟩
      have s2 : Same Hf1 (upd Hf1 p (.tup [v1, v2])) := same_upd (S1.sf.free np)
      have S1' := S1.new (.tup [v1, v2]) np
      obtain ⟨ps2, F2, S2, fr2, r2⟩ := (r2'.mono s2).put fr S1' c1
      obtain ⟨ps3, F3, S3, fr3, r3⟩ := r2.put fr2 S2 (c2.setS u.fr)
      cases r3
      exact k1 _ _ _ _ _ (s1.trans s2) S3 c3⟩
end
end L3
namespace L3
open PySem PySem.Spec PyProof.Rows L2
variable [Tbs]
/-! ### data with dicts in it: what repr shows -/
def keyPy : Key → PyData
  | .inl i => .int i
  | .inr x => .str x
mutual
def D.pyK : D → PyData
  | .non => .none
  | .bl b => .bool b
  | .int i => .int i
  | .str x => .str x
  | .opq _ => .none
  | .pt _ => .none
  | .tup xs => .tuple (D.pyKL xs)
  | .lst xs => .list (D.pyKL xs)
  | .dct ks => .dict (D.pyKv ks)
  | .ins _ _ => .none
def D.pyKL : List D → List PyData
  | [] => []
  | d :: r => D.pyK d :: D.pyKL r
def D.pyKv : List (Key × D) → List (PyData × PyData)
  | [] => []
  | (k, d) :: r => (keyPy k, D.pyK d) :: D.pyKv r
end
mutual
def D.plainK : D → Bool
  | .opq _ => false
  | .pt _ => false
  | .ins _ _ => false
  | .dct ks => D.plainKv ks
  | .tup xs => D.plainKL xs
  | .lst xs => D.plainKL xs
  | .non => true
  | .bl _ => true
  | .int _ => true
  | .str _ => true
def D.plainKL : List D → Bool
  | [] => true
  | d :: r => D.plainK d && D.plainKL r
def D.plainKv : List (Key × D) → Bool
  | [] => true
  | (_, d) :: r => D.plainK d && D.plainKv r
end
section
variable {X : Cx} {pins : List (Addr × Obj)} {σ : L2.St} {H : Hp} {s : Shared}
theorem amost_le {h : Heap} {n m : Nat} {a b : List Addr} (x : ReadAtMost h n a) (y : ReadAtMost h m b) : ReadAtMost h (max n m) (a ++ b) := (x.mono (Nat.le_max_left n m)).append (y.mono (Nat.le_max_right n m))
theorem amost_nil {h : Heap} {n : Nat} : ReadAtMost h n [] := fun _ z => nomatch z
/-- a key of a dict -/
theorem key_rd {k : Key} {u : Value} (h : keyIs k u = true) (sh : (keyPy k).showable = true) (z : (keyPy k).shown.length ≤ sizeLine) : Reads s.heap u (keyPy k) [] ∧ ∀ bs d, ReprK X.prog X.w bs s.heap d u (keyPy k).shown := by
  rcases keyIs_shape h with ⟨i, t, rfl, rfl⟩ | ⟨x, t, rfl, rfl⟩
  · refine ⟨.int i t, fun bs d => ?_⟩
    have e := ReprIs.int (prog := X.prog) (w := X.w) t (show i.natAbs.log2 < 1920 from of_decide_eq_true sh)
    simpa only [keyPy, PyData.shown] using ReprK.of_is e bs s.heap d
  · refine ⟨.str x t, fun bs d => ?_⟩
    have e := ReprIs.str (prog := X.prog) (w := X.w) x t (by simpa only [keyPy, PyData.shown] using z)
    simpa only [keyPy, PyData.shown] using ReprK.of_is e bs s.heap d
mutual
theorem rdK (I : Inv X pins σ H s) : ∀ (d : D) (v : V) (u : Value), d.plainK = true → Rep X.K H v d → RelV v u → d.pyK.showable = true → d.pyK.shown.length ≤ sizeLine →
    ∃ as bs, Reads s.heap u d.pyK as ∧ ReadAtMost s.heap d.pyK.depth bs ∧ ReprK X.prog X.w bs s.heap d.pyK.depth u d.pyK.shown
  | .non, _, _, _, .non, r, _, _ => by
    cases r
    refine ⟨_, [], Reads.none, amost_nil, ?_⟩
    simpa only [D.pyK, PyData.shown] using ReprK.of_is ReprIs.none [] s.heap _
  | .bl b, _, _, _, .bl _, r, _, _ => by
    cases r
    refine ⟨_, [], Reads.bool b, amost_nil, ?_⟩
    simpa only [D.pyK, PyData.shown] using ReprK.of_is (ReprIs.bool b) [] s.heap _
  | .int i, _, _, _, .int _, r, sh, _ => by
    obtain ⟨t, rfl⟩ := r
    refine ⟨_, [], Reads.int i t, amost_nil, ?_⟩
    simpa only [D.pyK, PyData.shown] using ReprK.of_is (ReprIs.int t (of_decide_eq_true sh)) [] s.heap _
  | .str x, _, _, _, .str _, r, _, z => by
    obtain ⟨t, rfl⟩ := r
    refine ⟨_, [], Reads.str x t, amost_nil, ?_⟩
    simpa only [D.pyK, PyData.shown] using ReprK.of_is (ReprIs.str x t (by simpa only [D.pyK, PyData.shown] using z)) [] s.heap _
  | .opq _, _, _, p, _, _, _, _ => by cases p
  | .pt _, _, _, p, _, _, _, _ => by cases p
  | .ins _ _, _, _, p, _, _, _, _ => by cases p
  | .tup xs, _, _, p, .tup hs l, r, sh, z => by
    cases r
    obtain ⟨its, rv, ⟨o, ho, hc, n, hd⟩, _⟩ := I.tuple hs
    have z2 : (tupleText (PyData.shownAll (D.pyKL xs))).length ≤ sizeLine := by simpa only [D.pyK, PyData.shown] using z
    obtain ⟨as, bs, q1, q2, q3⟩ := rdKL I xs _ its p l rv sh fun t ht => Nat.le_trans (tupleText_mem_le ht) z2
    have whole : Reads s.heap (.ref _) (.tuple (D.pyKL xs)) as := Reads.tuple ho hc hd (by simpa using q1)
    have dp : PyData.depthAll (D.pyKL xs) < (PyData.tuple (D.pyKL xs)).depth := by simp only [PyData.depth]; omega
    have out := not_mem_of_deeper whole dp q2
    refine ⟨as, _ :: bs, whole, ReadAtMost.cons whole (Nat.le_of_lt dp) q2, ?_⟩
    have e := ReprK.tuple ho hc hd out (by simpa using q3)
    simpa only [D.pyK, PyData.depth, PyData.shown] using e
  | .lst xs, _, _, p, .lst (a := a0) hs l, r, sh, z => by
    cases r
    obtain ⟨its, rv, ⟨o, n, ho, hc, _, hd⟩, _⟩ := I.list (.inl (.inl hs))
    have z2 : (listText (PyData.shownAll (D.pyKL xs))).length ≤ sizeLine := by simpa only [D.pyK, PyData.shown] using z
    obtain ⟨as, bs, q1, q2, q3⟩ := rdKL I xs _ its p l rv sh fun t ht => Nat.le_trans (listText_mem_le ht) z2
    have whole : Reads s.heap (.ref _) (.list (D.pyKL xs)) _ := Reads.list ho hc hd q1
    have dp : PyData.depthAll (D.pyKL xs) < (PyData.list (D.pyKL xs)).depth := by simp only [PyData.depth]; omega
    have out := not_mem_of_deeper whole dp q2
    refine ⟨_, _ :: bs, whole, ReadAtMost.cons whole (Nat.le_of_lt dp) q2, ?_⟩
    cases its with
    | nil =>
      have e : D.pyKL xs = [] := by
        generalize D.pyKL xs = ps at q1
        cases q1
        rfl
      have e2 := ReprK.listEmpty (prog := X.prog) (w := X.w) (as := a0 :: bs) (d := PyData.depthAll (D.pyKL xs) + 1) ho hc hd
      simp only [D.pyK, PyData.depth, PyData.shown]
      rw [show listText (PyData.shownAll (D.pyKL xs)) = ("[]" : Str) by rw [e]; exact listText_nil]
      exact e2
    | cons y ys => simpa only [D.pyK, PyData.depth, PyData.shown] using ReprK.list ho hc hd out (by simpa using q3.length_eq) fun i w e => q3.item i w (by simpa using e)
  | .dct ks, _, _, p, .dct hs l, r, sh, z => by
    cases r
    obtain ⟨_, sy, vs, kv, o, es, ep, ho, ex, hd, _, pr, _⟩ := dk_of I.hok hs
    have z2 : (dictText (PyData.shownKv (D.pyKv ks))).length ≤ sizeLine := by simpa only [D.pyK, PyData.shown] using z
    have sp := PyData.showableKv_split _ (show PyData.showableKv (D.pyKv ks) = true from sh)
    obtain ⟨as, bs, cs, q1, q2, q3, q4, q5⟩ := rdKv I ks _ vs es.toList p l kv pr sp.1 sp.2
      (fun t ht => let ⟨w, hw, hl⟩ := PyData.shownKv_key_le _ t ht; Nat.le_trans hl (Nat.le_trans (dictText_mem_le hw) z2))
      (fun t ht => let ⟨w, hw, hl⟩ := PyData.shownKv_val_le _ t ht; Nat.le_trans hl (Nat.le_trans (dictText_mem_le hw) z2))
    have whole : Reads s.heap (.ref _) (.dict (D.pyKv ks)) _ := Reads.dict ho ex.1 hd q1 q2
    have dp : PyData.depthKv (D.pyKv ks) < (PyData.dict (D.pyKv ks)).depth := by simp only [PyData.depth]; omega
    have out := not_mem_of_deeper whole dp q3
    refine ⟨_, _ :: cs, whole, ReadAtMost.cons whole (Nat.le_of_lt dp) q3, ?_⟩
    have e := ReprK.dict ho ex.1 hd sy out (ReprEntriesK.of_two es.toList _ _ q4 q5)
    simpa only [D.pyK, PyData.depth, PyData.shown, PyData.shownKv_eq] using e
theorem rdKL (I : Inv X pins σ H s) : ∀ (ds : List D) (vs : List V) (us : List Value), D.plainKL ds = true → RepL X.K H vs ds → Vals vs us → PyData.showableAll (D.pyKL ds) = true → (∀ t ∈ PyData.shownAll (D.pyKL ds), t.length ≤ sizeLine) →
    ∃ as bs, ReadsAll s.heap us (D.pyKL ds) as ∧ ReadAtMost s.heap (PyData.depthAll (D.pyKL ds)) bs ∧ ReprAllK X.prog X.w bs s.heap (PyData.depthAll (D.pyKL ds)) us (PyData.shownAll (D.pyKL ds))
  | [], _, _, _, .nil, r, _, _ => by
    cases r
    exact ⟨[], [], .nil, amost_nil, .nil⟩
  | d :: ds, _, _, p, .cons l1 l2, r, sh, z => by
    cases r with | cons r1 r2 =>
    have p2 := Bool.and_eq_true_iff.mp p
    have s2 := Bool.and_eq_true_iff.mp (show (d.pyK.showable && PyData.showableAll (D.pyKL ds)) = true from sh)
    obtain ⟨a1, b1, x1, y1, z1⟩ := rdK I d _ _ p2.1 l1 r1 s2.1 (z _ List.mem_cons_self)
    obtain ⟨a2, b2, x2, y2, z2⟩ := rdKL I ds _ _ p2.2 l2 r2 s2.2 fun t ht => z t (List.mem_cons_of_mem _ ht)
    exact ⟨_, b1 ++ b2, .cons x1 x2, amost_le y1 y2, .cons ((z1.more fun _ h => List.mem_append_left _ h).level_le (Nat.le_max_left _ _)) (z2.more_le (fun _ h => List.mem_append_right _ h) (Nat.le_max_right _ _))⟩
theorem rdKv (I : Inv X pins σ H s) : ∀ (ks : List (Key × D)) (kvs : List (Key × V)) (vs : List (Key × Value)) (es : List DictEntry), D.plainKv ks = true → RepK X.K H kvs ks → KV kvs vs → Pairs (mixKind X.prog X.w) es vs →
    PyData.showableAll ((D.pyKv ks).map (·.1)) = true → PyData.showableAll ((D.pyKv ks).map (·.2)) = true → (∀ t ∈ PyData.shownAll ((D.pyKv ks).map (·.1)), t.length ≤ sizeLine) → (∀ t ∈ PyData.shownAll ((D.pyKv ks).map (·.2)), t.length ≤ sizeLine) →
    ∃ as bs cs, ReadsAll s.heap (es.map (·.key)) ((D.pyKv ks).map (·.1)) as ∧ ReadsAll s.heap (es.map (·.val)) ((D.pyKv ks).map (·.2)) bs ∧ ReadAtMost s.heap (PyData.depthKv (D.pyKv ks)) cs ∧
      ReprAllK X.prog X.w cs s.heap (PyData.depthKv (D.pyKv ks)) (es.map (·.key)) (PyData.shownAll ((D.pyKv ks).map (·.1))) ∧ ReprAllK X.prog X.w cs s.heap (PyData.depthKv (D.pyKv ks)) (es.map (·.val)) (PyData.shownAll ((D.pyKv ks).map (·.2)))
  | [], _, _, _, _, .nil, r, pr, _, _, _, _ => by
    cases r
    cases pr
    exact ⟨[], [], [], .nil, .nil, amost_nil, .nil, .nil⟩
  | (k, d) :: ks, _, _, _, p, .cons l1 l2, r, pr, sk, sv, zk, zv => by
    cases r with | cons r1 r2 =>
    cases pr with | cons e1 e2 e3 =>
    obtain ⟨r11, r12⟩ := r1
    have p2 := Bool.and_eq_true_iff.mp p
    have sk2 := Bool.and_eq_true_iff.mp (show ((keyPy k).showable && PyData.showableAll ((D.pyKv ks).map (·.1))) = true from sk)
    have sv2 := Bool.and_eq_true_iff.mp (show (d.pyK.showable && PyData.showableAll ((D.pyKv ks).map (·.2))) = true from sv)
    have e4 := (show k = _ from r11) ▸ e1
    obtain ⟨xk, yk⟩ := key_rd (X := X) (s := s) e4 sk2.1 (zk _ List.mem_cons_self)
    obtain ⟨a1, b1, x1, y1, z1⟩ := rdK I d _ _ p2.1 l1 r12 sv2.1 (zv _ List.mem_cons_self)
    obtain ⟨a2, a3, b2, x2, x3, y2, z2, z3⟩ := rdKv I ks _ _ _ p2.2 l2 r2 e3 sk2.2 sv2.2 (fun t ht => zk t (List.mem_cons_of_mem _ ht)) (fun t ht => zv t (List.mem_cons_of_mem _ ht))
    have le1 : d.pyK.depth ≤ PyData.depthKv (D.pyKv ((k, d) :: ks)) := by simp only [D.pyKv, PyData.depthKv]; omega
    have le2 : PyData.depthKv (D.pyKv ks) ≤ PyData.depthKv (D.pyKv ((k, d) :: ks)) := by simp only [D.pyKv, PyData.depthKv]; omega
    have inl : ∀ b ∈ b1, b ∈ b1 ++ b2 := fun _ h => List.mem_append_left _ h
    have inr : ∀ b ∈ b2, b ∈ b1 ++ b2 := fun _ h => List.mem_append_right _ h
    refine ⟨_, _, b1 ++ b2, .cons xk x2, .cons (e2 ▸ x1) x3, (y1.mono le1).append (y2.mono le2), .cons (yk _ _) (z2.more_le inr le2), .cons ?_ (z3.more_le inr le2)⟩
    have e5 := (z1.more inl).level_le le1
    rw [← e2] at e5
    exact e5
end
/-- what may be shown, dicts too -/
structure D.shK (d : D) : Prop where
  plain : d.plainK = true
  able : PyData.showable d.pyK = true
  size : (PyData.shown d.pyK).length ≤ sizeLine
  deep : PyData.depth d.pyK ≤ 60
end
def rbReprK : RB := fun ds E Q => match ds with
  | [d] => d.shK ∧ Q (.str (PyData.shown d.pyK)) E
  | _ => False
section
variable {X : Cx} {a e : Expr} {t : TAd} {p pos : Pos}
theorem call_reprK (hgd : X.A.guards = some []) (hu : X.A.units + 64 < cLine) : CallR X (.builtin "repr") (fun xs H Q => ∃ v d, xs = [v] ∧ Rep X.K H v d ∧ d.shK ∧ Q (.str (PyData.shown d.pyK)) H) := by
  intro pins s σ H xs us Q I r h
  obtain ⟨v, d, rfl, rd, sh, q⟩ := h
  obtain ⟨u, rfl, ru⟩ := vals1 r
  have dp := sh.deep
  have fin : ∀ (T idr : String), SlotG T "__repr__" idr → s.TypeIs u T →
      (∀ (E : Value → Shared → Prop) (Q : Value → Shared → Prop), (∀ h' tu tk, (∀ b o, s.heap.get? b = some o → h'.get? b = some o) → Q (.str d.pyK.shown tu) { s with heap := h', toks := tk }) → wpAny (model X.prog X.w) X.A.in1 (call (.builtin idr) [u]) Q E s) →
      wpAny (model X.prog X.w) X.A (call (.builtin "repr") [u]) (EP X pins σ Q) X.xe s := fun T idr sl ty cl =>
    call_repr_slot (by omega) ty sl (cl _ _ fun h' tu tk hk => ⟨_, _, rfl, .str _, H, I.kept (h' := h') (t' := tk) hk, ⟨_, rfl⟩, q⟩)
  have room : ∀ n, n + 1 ≤ 60 → X.A.in1.units + (n + 1) < cLine := fun n h => by
    show X.A.units + 1 + (n + 1) < cLine
    omega
  cases rd with
  | non =>
    cases ru
    exact PySem.P.repr_of_none ⟨.str _, H, I.tok _, ⟨_, rfl⟩, q⟩
  | bl b =>
    cases ru
    exact PySem.P.repr_of_bool ⟨.str _, H, I.tok _, ⟨_, rfl⟩, q⟩
  | int i =>
    obtain ⟨t, rfl⟩ := ru
    exact PySem.P.repr_of_int (of_decide_eq_true sh.able) ⟨.str _, H, I.tok _, ⟨_, rfl⟩, q⟩
  | str x =>
    obtain ⟨t, rfl⟩ := ru
    exact PySem.P.repr_of_str ⟨.str _, H, I.tok _, ⟨_, rfl⟩, q⟩ sh.size
  | opq v => exact nomatch sh.plain
  | pt _ _ => exact nomatch sh.plain
  | ins _ _ _ => exact nomatch sh.plain
  | tup hs l =>
    rename_i a0 vs0 xs
    cases ru
    obtain ⟨its, rv, ⟨o, ho, hc, n, hd⟩, _⟩ := I.tuple hs
    have z2 : (tupleText (PyData.shownAll (D.pyKL xs))).length ≤ sizeLine := by simpa only [D.pyK, PyData.shown] using sh.size
    obtain ⟨as, bs, q1, q2, q3⟩ := rdKL I xs _ its sh.plain l rv sh.able fun t ht => Nat.le_trans (tupleText_mem_le ht) z2
    have whole : Reads s.heap (.ref a0) (.tuple (D.pyKL xs)) as := Reads.tuple ho hc hd (by simpa using q1)
    have lt : PyData.depthAll (D.pyKL xs) < (PyData.tuple (D.pyKL xs)).depth := by simp only [PyData.depth]; omega
    have out := not_mem_of_deeper whole lt q2
    simp only [D.pyK, PyData.depth] at dp
    refine fin "tuple" "tuple.__repr__" F.slot_tuple_repr ⟨o, ho, hc⟩ fun E Q2 hQ => ?_
    simp only [D.pyK, PyData.shown] at hQ
    exact call_tuple_reprK ho hc hd out (by simpa using q3) hgd (fun b _ => Clear.nil b) (room _ dp) (fun _ _ e => e) hQ z2
  | lst hs l =>
    rename_i a0 vs0 xs
    cases ru
    obtain ⟨its, rv, ⟨o, n, ho, hc, _, hd⟩, _⟩ := I.list (.inl (.inl hs))
    have z2 : (listText (PyData.shownAll (D.pyKL xs))).length ≤ sizeLine := by simpa only [D.pyK, PyData.shown] using sh.size
    obtain ⟨as, bs, q1, q2, q3⟩ := rdKL I xs _ its sh.plain l rv sh.able fun t ht => Nat.le_trans (listText_mem_le ht) z2
    have whole : Reads s.heap (.ref a0) (.list (D.pyKL xs)) _ := Reads.list ho hc hd q1
    have lt : PyData.depthAll (D.pyKL xs) < (PyData.list (D.pyKL xs)).depth := by simp only [PyData.depth]; omega
    have out := not_mem_of_deeper whole lt q2
    simp only [D.pyK, PyData.depth] at dp
    refine fin "list" "list.__repr__" F.slot_list_repr.toG ⟨o, ho, hc⟩ fun E Q2 hQ => ?_
    simp only [D.pyK, PyData.shown] at hQ
    cases its with
    | nil =>
      have e : D.pyKL xs = [] := by
        generalize D.pyKL xs = ps at q1
        cases q1
        rfl
      rw [show listText (PyData.shownAll (D.pyKL xs)) = ("[]" : Str) by rw [e]; exact listText_nil] at hQ
      exact call_list_repr_empty ⟨o, ho, hc⟩ ho hd (hQ s.heap _ _ fun _ _ e => e)
    | cons y ys => exact call_list_reprK ho hc hd out (by simpa using q3.length_eq) (fun i w e => q3.item i w (by simpa using e)) hgd (fun b _ => Clear.nil b) (room _ dp) (fun _ _ e => e) hQ z2
  | dct hs l =>
    rename_i a0 vs0 ks
    cases ru
    obtain ⟨_, sy, vs, kv, o, es, ep, ho, ex, hd, _, pr, _⟩ := dk_of I.hok hs
    have z2 : (dictText (PyData.shownKv (D.pyKv ks))).length ≤ sizeLine := by simpa only [D.pyK, PyData.shown] using sh.size
    have sp := PyData.showableKv_split _ (show PyData.showableKv (D.pyKv ks) = true from sh.able)
    obtain ⟨as, bs, cs, q1, q2, q3, q4, q5⟩ := rdKv I ks _ vs es.toList sh.plain l kv pr sp.1 sp.2
      (fun t ht => let ⟨w, hw, hl⟩ := PyData.shownKv_key_le _ t ht; Nat.le_trans hl (Nat.le_trans (dictText_mem_le hw) z2))
      (fun t ht => let ⟨w, hw, hl⟩ := PyData.shownKv_val_le _ t ht; Nat.le_trans hl (Nat.le_trans (dictText_mem_le hw) z2))
    have whole : Reads s.heap (.ref a0) (.dict (D.pyKv ks)) _ := Reads.dict ho ex.1 hd q1 q2
    have lt : PyData.depthKv (D.pyKv ks) < (PyData.dict (D.pyKv ks)).depth := by simp only [PyData.depth]; omega
    have out := not_mem_of_deeper whole lt q3
    simp only [D.pyK, PyData.depth] at dp
    refine fin "dict" "dict.__repr__" F.slot_dict_repr ⟨o, ho, ex.1⟩ fun E Q2 hQ => ?_
    simp only [D.pyK, PyData.shown, PyData.shownKv_eq] at hQ
    exact call_dict_reprK ho ex.1 hd sy out (ReprEntriesK.of_two es.toList _ _ q4 q5) hgd (fun b _ => Clear.nil b) (room _ dp) (fun _ _ e => e) hQ (by rw [← PyData.shownKv_eq]; exact z2)
theorem d_reprK (hgd : X.A.guards = some []) (hu : X.A.units + 64 < cLine) (hm : X.mg "repr" = none) (ha : PAd X [a] t) (hg : Gl X "repr" := by rfl) (he : starEach [a] X.env = (false, eval a X.env) :: starEach [] X.env := by rfl) : PEd X (.Call (.Name "repr" p) [a] [] pos) (tCBd rbReprK t) :=
  d_callB (call_reprK hgd hu) (fun en Hf H F E σ vs ds Q Qd S rx q k => by
    unfold rbReprK at q
    split at q
    · obtain ⟨v, rfl, r⟩ := rx.one
      exact ⟨_, _, rfl, r.mono S.sf, q.1, k _ _ _ _ _ _ (Same.refl _) S (.str _) q.2⟩
    · exact q.elim) hm PyProof.Rows.boot_repr ha hg (by decide) (by decide) he
/-! ### {} and {k: v} -/
def tDct0 : TEd := fun E Q => Q (.dct []) E
theorem d_dct0 : PEd X (.Dict [] [] pos) tDct0 :=
  pe_imp pe_dnewK fun σ H Q ⟨en, Hf, F, E, Qd, S, h, k⟩ p np => Fin.new k S np (fun _ _ e => .dct e .nil) h
def tDct1 (kk : Key) (d : D) : TEd := fun E Q => Q (.dct [(kk, d)]) E
theorem d_dct1 {ke ve : Expr} {kk : Key} {cv : V} {d : D} (hk : PE X ke (tC (kV kk))) (hv : PE X ve (tC cv)) (rc : ∀ Hf, Rep X.K Hf cv d) : PEd X (.Dict [some ke] [ve] pos) (tDct1 kk d) :=
  pe_imp (pe_disp (pps_cons hk hv pps_nil) rfl rfl (by simp) (show 1 ≤ 15 by decide)) fun σ H Q ⟨en, Hf, F, E, Qd, S, h, k⟩ p np => by
    refine ⟨upd_same, [(kk, cv)], rfl, (show 1 ≤ 15 by decide), ?_⟩
    rw [upd_upd]
    exact Fin.new k S np (fun Hf' _ e => .dct e (.cons (rc Hf') .nil)) h
/-! ### a tuple of texts, a constant of the module -/
def strsOf : List Value → Option (List Str)
  | [] => some []
  | .str x _ :: r => (strsOf r).map (x :: ·)
  | _ => none
theorem strsOf_vals : ∀ {us : List Value} {xs : List Str}, strsOf us = some xs → Vals (xs.map V.str) us
  | [], _, h => by
    cases h
    exact .nil
  | u :: us, xs, h => by
    cases u with
    | str x t =>
      cases e : strsOf us with
      | none =>
        rw [strsOf, e] at h
        cases h
      | some ys =>
        rw [strsOf, e] at h
        cases h
        exact .cons ⟨t, rfl⟩ (strsOf_vals e)
    | _ => cases h
theorem RepL.strs {K : PySem.W.Frag} {Hf : Hp} : ∀ xs : List Str, RepL K Hf (xs.map V.str) (xs.map D.str)
  | [] => .nil
  | x :: r => .cons (.str x) (RepL.strs r)
def GlT (K : PySem.W.Frag) (mg : Str → Option Value) (x : Str) (xs : List Str) : Prop := ∃ a, mg x = some (.ref a) ∧ ∀ Hf, Rep K Hf (.ref a) (.tup (xs.map D.str))
theorem glt_mk {K : PySem.W.Frag} {mg : Str → Option Value} {x : Str} {a : Addr} {od : Option Addr} {us : Array Value} {n : Nat} {sl : Array (Option Value)} {xs : List Str} (hm : mg x = some (.ref a)) (hk : K.lookup a = some ⟨.type "tuple", od, .seq us n, sl⟩)
    (hs : strsOf us.toList = some xs) (hl : xs.length ≤ 1000) : GlT K mg x xs := by
  have r := strsOf_vals hs
  have e : us.size = xs.length := by
    have e1 := Vals.length r
    rw [List.length_map, Array.length_toList] at e1
    exact e1.symm
  exact ⟨a, hm, fun Hf => .tup (.inr ⟨_, us, n, hk, rfl, rfl, by rw [e]; exact Nat.le_trans hl (by decide), r⟩) (RepL.strs xs)⟩
theorem d_globT {x : Str} {xs : List Str} (h : GlT X.K X.mg x xs) (hg : Gl X x := by rfl) (hd : (x == ("__debug__" : Str)) = false := by decide) : PEd X (.Name x pos) (tCD (.tup (xs.map D.str))) := by
  obtain ⟨a, hm, r⟩ := h
  exact d_glob hg hm (v := .ref a) rfl r hd
/-! ### list(x), a list of our own -/
def tNListc (t : TAd) : TNd := fun E Q => t E fun ds E1 => match ds with
  | [.lst xs] => Q xs E1
  | [.tup xs] => Q xs E1
  | _ => False
theorem n_listc (hm : X.mg "list" = none) (ha : PAd X [a] t) (hg : Gl X "list" := by rfl) (he : starEach [a] X.env = (false, eval a X.env) :: starEach [] X.env := by rfl) : PNd X (.Call (.Name "list" p) [a] [] pos) (tNListc t) :=
  pe_imp (pe_callTy call_list_of hg hm PyProof.Rows.boot_list ha (by decide) (by decide) he rfl) fun σ H Q ⟨en, Hf, F, E, Qd, S, h, k⟩ =>
    ⟨en, Hf, F, E, _, S, h, fun vs H1 Hf1 F1 E1 xs s1 S1 r1 h1 => by
      split at h1
      · obtain ⟨v, rfl, r⟩ := r1.one
        cases r with | lst hq l =>
        exact ⟨_, _, rfl, .inl (.inl (.inl (S1.sf _ _ hq))), fun p np => k _ _ _ _ _ _ _ s1 np S1 l h1⟩
      · obtain ⟨v, rfl, r⟩ := r1.one
        cases r with | tup hq l =>
        exact ⟨_, _, rfl, .inr (Same.sqT S1.sf hq), fun p np => k _ _ _ _ _ _ _ s1 np S1 l h1⟩
      · exact h1.elim⟩
/-! ### [..] * n, a list of our own -/
def tNMul (ta tb : TEd) : TNd := fun E Q => ta E fun x E1 => tb E1 fun y E2 => match x, y with
  | .lst u, .int n => (-(2 ^ 63) ≤ n ∧ n < 2 ^ 63 ∧ u.length * n.toNat ≤ sizeLine) ∧ Q (List.replicate n.toNat u).flatten E2
  | _, _ => False
theorem n_mul {a b : Expr} {ta tb : TEd} (ha : PEd X a ta) (hb : PEd X b tb) : PNd X (.BinOp a .Mult b pos) (tNMul ta tb) :=
  pe_imp (pe_op op_rep ha hb) fun σ H Q ⟨en, Hf, F, E, Qd, S, h, k⟩ =>
    ⟨en, Hf, F, E, _, S, h, fun v1 H1 Hf1 F1 E1 x s1 S1 r1 h1 => ⟨en, Hf1, F1, E1, _, S1, h1, fun v2 H2 Hf2 F2 E2 y s2 S2 r2 h2 => by
      split at h2
      · have r1 := r1.mono s2
        cases r1 with | lst hq l =>
        cases r2
        exact ⟨_, _, _, rfl, rfl, S2.sf _ _ hq, h2.1.1, h2.1.2.1, by rw [l.length]; exact h2.1.2.2, fun p np => k _ _ _ _ _ _ _ (s1.trans s2) np S2 (l.rep _) h2.2⟩
      · exact h2.elim⟩⟩
end
/-! ### what is shown of data with dicts: how deep, how long -/
structure ShK (k m : Nat) (d : D) : Prop where
  plain : d.plainK = true
  able : PyData.showable d.pyK = true
  size : (PyData.shown d.pyK).length ≤ m
  deep : PyData.depth d.pyK ≤ k
structure ShKL (k m : Nat) (ds : List D) : Prop where
  plain : D.plainKL ds = true
  able : PyData.showableAll (D.pyKL ds) = true
  size : ((PyData.shownAll (D.pyKL ds)).map (·.length)).sum + 2 * (PyData.shownAll (D.pyKL ds)).length ≤ m
  deep : PyData.depthAll (D.pyKL ds) ≤ k
theorem ShK.shK {k m : Nat} {d : D} (h : ShK k m d) (h1 : k ≤ 60) (h2 : m ≤ 16777216) : d.shK := ⟨h.plain, h.able, Nat.le_trans h.size (small_le h2), Nat.le_trans h.deep h1⟩
theorem ShK.mono {k m k' m' : Nat} {d : D} (h : ShK k m d) (h1 : k ≤ k') (h2 : m ≤ m') : ShK k' m' d := ⟨h.plain, h.able, Nat.le_trans h.size h2, Nat.le_trans h.deep h1⟩
mutual
theorem pyK_plain : ∀ d : D, d.plain = true → d.pyK = d.py ∧ d.plainK = true
  | .non, _ => ⟨rfl, rfl⟩
  | .bl _, _ => ⟨rfl, rfl⟩
  | .int _, _ => ⟨rfl, rfl⟩
  | .str _, _ => ⟨rfl, rfl⟩
  | .opq _, h => nomatch h
  | .pt _, h => nomatch h
  | .ins _ _, h => nomatch h
  | .dct _, h => nomatch h
  | .tup xs, h => ⟨congrArg PyData.tuple (pyKL_plain xs h).1, (pyKL_plain xs h).2⟩
  | .lst xs, h => ⟨congrArg PyData.list (pyKL_plain xs h).1, (pyKL_plain xs h).2⟩
theorem pyKL_plain : ∀ ds : List D, D.plainL ds = true → D.pyKL ds = D.pyL ds ∧ D.plainKL ds = true
  | [], _ => ⟨rfl, rfl⟩
  | d :: ds, h => by
    have p := Bool.and_eq_true_iff.mp h
    obtain ⟨e1, e2⟩ := pyK_plain d p.1
    obtain ⟨e3, e4⟩ := pyKL_plain ds p.2
    exact ⟨by rw [D.pyKL, D.pyL, e1, e3], Bool.and_eq_true_iff.mpr ⟨e2, e4⟩⟩
end
theorem ShK.of {k m : Nat} {d : D} (h : Sh k m d) : ShK k m d := by
  obtain ⟨e1, e2⟩ := pyK_plain d h.plain
  exact ⟨e2, by rw [e1]; exact h.able, by rw [e1]; exact h.size, by rw [e1]; exact h.deep⟩
theorem ShK.lst {k m : Nat} {ds : List D} (h : ShKL k m ds) : ShK (k + 1) (m + 3) (.lst ds) := ⟨h.plain, h.able, by
  have a := listText_len_le (PyData.shownAll (D.pyKL ds))
  have b := h.size
  show (listText (PyData.shownAll (D.pyKL ds))).length ≤ _
  omega, Nat.succ_le_succ h.deep⟩
theorem ShK.tup {k m : Nat} {ds : List D} (h : ShKL k m ds) : ShK (k + 1) (m + 3) (.tup ds) := ⟨h.plain, h.able, by
  have a := tupleText_len_le (PyData.shownAll (D.pyKL ds))
  have b := h.size
  show (tupleText (PyData.shownAll (D.pyKL ds))).length ≤ _
  omega, Nat.succ_le_succ h.deep⟩
theorem ShKL.nil {k : Nat} : ShKL k 0 [] := ⟨rfl, rfl, Nat.le_refl _, Nat.zero_le _⟩
theorem ShKL.cons {k k' m m' : Nat} {d : D} {ds : List D} (h : ShK k m d) (h' : ShKL k' m' ds) : ShKL (max k k') (m + m' + 2) (d :: ds) := ⟨Bool.and_eq_true_iff.mpr ⟨h.plain, h'.plain⟩, Bool.and_eq_true_iff.mpr ⟨h.able, h'.able⟩, by
  have a := h.size
  have b := h'.size
  show ((PyData.shown d.pyK :: PyData.shownAll (D.pyKL ds)).map (·.length)).sum + 2 * (PyData.shown d.pyK :: PyData.shownAll (D.pyKL ds)).length ≤ _
  rw [List.map_cons, List.sum_cons, List.length_cons]
  omega, by
  have a := h.deep
  have b := h'.deep
  show max (PyData.depth d.pyK) (PyData.depthAll (D.pyKL ds)) ≤ _
  omega⟩
theorem ShKL.all {k m : Nat} : ∀ {ds : List D}, (∀ d ∈ ds, ShK k m d) → ShKL k (ds.length * (m + 2)) ds
  | [], _ => ⟨rfl, rfl, by simp [D.pyKL, PyData.shownAll], Nat.zero_le _⟩
  | d :: ds, h => by
    have e := ShKL.cons (h d List.mem_cons_self) (ShKL.all (ds := ds) fun x hx => h x (List.mem_cons_of_mem _ hx))
    rw [Nat.max_self] at e
    refine ⟨e.plain, e.able, Nat.le_trans e.size ?_, e.deep⟩
    rw [List.length_cons, Nat.add_mul, Nat.one_mul]
    omega
theorem ShKL.mono {k m k' m' : Nat} {ds : List D} (h : ShKL k m ds) (h1 : k ≤ k') (h2 : m ≤ m') : ShKL k' m' ds := ⟨h.plain, h.able, Nat.le_trans h.size h2, Nat.le_trans h.deep h1⟩
theorem plainK_ty {d : D} (h : d.plainK = true) : ∃ n, d.tyN = some n := by
  cases d with
  | opq _ => cases h
  | pt _ => cases h
  | ins _ _ => cases h
  | _ => exact ⟨_, rfl⟩
theorem plainKL_all : ∀ {ds : List D}, D.plainKL ds = true → ∀ d ∈ ds, d.plainK = true
  | [], _, _, hx => nomatch hx
  | _ :: _, h, _, hx => by
    have p := Bool.and_eq_true_iff.mp h
    rcases List.mem_cons.mp hx with rfl | hx
    · exact p.1
    · exact plainKL_all p.2 _ hx
end L3
namespace L3
open PySem PySem.Spec PyProof.Rows L2
variable [Tbs]
/-! ### set(xs) of a list of ints, sorted of it: any number of them -/
/-- the new set, empty -/
abbrev newSetO (w : World) : Obj := { cls := .type "set", dict := none, data := .set #[] 0 (.fresh 0 0 (!w.params.followText "set-order")) }
section
variable {P : Program} {w : World} {A : Around} {E : Value → Shared → Prop} {s : Shared}
set_option maxRecDepth 100000 in
set_option maxHeartbeats 3200000 in
theorem set_of_ints {l : Addr} {items : Array Value} (ns : List Int) {Q : Value → Shared → Prop} (quiet : A.handled = none) (isl : s.heap.IsList l items) (isI : IntsAre items.toList ns) (few : ns.length + 1 < scanBound)
    (done : ∀ (g : Heap) (tk c : Nat), SetR w g s.heap.objs.size (fun j => decide (j ∈ ns)) c → c ≤ ns.length → (∀ b o, s.heap.get? b = some o → g.get? b = some o) → Q (.ref s.heap.objs.size) { s with heap := g, toks := tk }) :
    wpAny (model P w) A (call (.type "set") [.ref l]) Q E s := by
  have size : items.size = ns.length := by rw [← Array.length_toList]; exact IntsAre.length isI
  obtain ⟨c0, tl0, m0⟩ := F.called_set.mro; have m1 := F.called_set.made; have m2 := F.called_set.sub
  refine wpAny_call (codeAny_of_tree ?_); show wpAny _ _ (callAny (.type "set") _) _ _ _
  refine wpAny_pure ⟨Code.quiet_builtin _ (by decide +kernel), codeAny_builtin F.entry_type_call ?_⟩; rw [Around.under_plain (weight_type_call_type "set" [.ref l] []) rfl]
  have k1 := F.called_set.notType; have k2 := F.called_set.canCreate; have k3 := F.typeCall_set_1 (.ref l)
  repeat (any_goals (first | assumption | wp_step))
  refine codeAny_mono (code_set_led1 (.ref l) (E := E) (Q₁ := fun obj t => obj = .ref s.heap.objs.size ∧ t = { s with heap := s.heap.push (newSetO w) }) ⟨rfl, rfl⟩) fun r t hr => ?_
  rcases r with e | fl
  · exact hr
  cases fl with
  | ret obj =>
    obtain ⟨rfl, rfl⟩ := hr
    have at0 : (s.heap.push (newSetO w)).get? s.heap.objs.size = some (newSetO w) := Heap.get?_push_size _ rfl
    have ty : Shared.TypeIs { s with heap := s.heap.push (newSetO w) } (.ref s.heap.objs.size) "set" := ⟨_, at0, rfl⟩
    have i1 := F.called_set.init.lookup; have i2 := F.called_set.init.bind (.ref s.heap.objs.size)
    repeat (any_goals (first | assumption | wp_step))
    refine codeAny_mono (codeAny_call_builtin (R := wants (fun r t => r = .none ∧ ∃ g tk c, t = { s with heap := g, toks := tk } ∧ SetR w g s.heap.objs.size (fun j => decide (j ∈ ns)) c ∧ c ≤ ns.length ∧ (∀ b o, s.heap.get? b = some o → g.get? b = some o)) E) F.called_set.init.plain F.entry_set_init (check_set_init_1 ty ?_)) fun r2 t2 hr2 => ?_
    · obtain ⟨⟨oc, odc, odt, osl⟩, hol, hcl, nl, hdl⟩ := isl
      simp only at hcl hdl; subst hcl hdl
      have old : (s.heap.push (newSetO w)).get? l = some { cls := .type "list", dict := odc, data := .seq items nl, slots := osl } := Heap.get?_push_of_some _ hol
      have n1 := F.sub_list_set; have n2 := F.sub_list_frozenset; have n3 : (Value.type "list" == Value.type "dict") = false := by decide
      have isl2 : (s.heap.push (newSetO w)).IsList l items := ⟨_, old, rfl, nl, rfl⟩
      unfold Builtin.«set.__init__» noKeywords Builtin.Frozenset.updateFrom; generalize hPI : pyIter = PI; wp_walk; subst hPI
      refine wpAny_pyIter_list isl2 (wpAny_bind (wpAny_runValue ?_))
      have lt : l < s.heap.objs.size := Heap.lt_size hol
      have quiet3 : A.in1.in1.in1.handled = none := by simp [quiet]
      have sz : (s.heap.push (newSetO w)).objs.size = s.heap.objs.size + 1 := Heap.size_push ..
      have ne : l ≠ (s.heap.push (newSetO w)).objs.size := by rw [sz]; exact Nat.ne_of_lt (Nat.lt_succ_of_lt lt)
      have out : s.heap.objs.size ∉ [(s.heap.push (newSetO w)).objs.size, l] := by
        rw [sz]; simp only [List.mem_cons, List.mem_singleton, List.not_mem_nil, or_false, not_or]; exact ⟨Nat.ne_of_lt (Nat.lt_succ_self _), Nat.ne_of_gt lt⟩
      have vals : ∀ (i : Nat) (v : Value), items[i]? = some v → ∃ k t, ns[i]? = some k ∧ v = .int k t := fun i v hv => by
        have hi : i < ns.length := size ▸ (Array.getElem?_eq_some_iff.mp hv).1
        obtain ⟨t, e⟩ := PyProof.Rows.IntsAre.int_at isI i v (by rw [Array.getElem?_toList]; exact hv)
        exact ⟨ns[i], t, List.getElem?_eq_getElem hi, by rw [e, List.getD_eq_getElem?_getD, List.getElem?_eq_getElem hi]; rfl⟩
      refine set_update_ints ((Walks.list quiet3 _ l ne items).toS) s.heap.objs.size out ns size few vals (items.size - 0) 0 _ (by omega) (Nat.zero_le _) ⟨⟨_, Heap.get?_push_size _ rfl, rfl, rfl⟩, (isl2.push _)⟩ ⟨0, Nat.le_refl 0, setR_new_at (Heap.get?_push_of_some _ at0)⟩ ?_
      intro t c2 mv few2 R
      obtain ⟨g, gg, dd, tk2, oo⟩ := t
      have e1 : gg = s.gens := mv.gens
      have e2 : dd = s.drawn := mv.drawn
      have e3 : oo = s.os := mv.os
      subst e1 e2 e3
      show wpAny _ _ _ _ _ _
      refine wpAny_pure (show wpAny _ _ (ret Value.none) _ _ _ from wpAny_pure ⟨rfl, g, tk2, c2, rfl, R, by rw [← size]; exact few2, fun b o e => ?_⟩)
      have b0 : b < s.heap.objs.size := Heap.lt_size e
      refine mv.heap b o (fun hb => ?_) (Heap.get?_push_of_some _ (Heap.get?_push_of_some _ e))
      simp only [List.mem_cons, List.mem_singleton, List.not_mem_nil, or_false, sz] at hb
      rcases hb with e | e
      · exact Nat.ne_of_lt b0 e
      · exact Nat.ne_of_lt (Nat.lt_succ_of_lt b0) e
    · rcases r2 with e | fl2
      · exact hr2
      cases fl2 with
      | ret r =>
        obtain ⟨rfl, g, tk, c, rfl, R, few2, keep⟩ := hr2
        repeat (any_goals (first | assumption | wp_step))
        exact done _ _ _ R few2 keep
      | _ => exact hr2.elim
  | _ => exact hr.elim
/-- sorted of a set of ints, any number of them -/
theorem sorted_setI {a : Addr} {S : Int → Bool} {n : Nat} {Q : Value → Shared → Prop} (R : SetR w s.heap a S n) (quiet : A.handled = none)
    (done : ∀ (t : Shared) (p : Addr) (out : Array Value) (c : Nat) (ns : List Int), (∀ b o, s.heap.get? b = some o → t.heap.get? b = some o) → t.gens = s.gens → t.os = s.os → s.heap.objs.size ≤ p →
      t.heap.get? p = some (seqObj "list" out c) → IntsAre out.toList ns → ns.Pairwise (· < ·) → (∀ k, k ∈ ns ↔ S k = true) → ns.length = n → Q (.ref p) t) : wpAny (model P w) A (call (.builtin "sorted") [.ref a]) Q E s := by
  obtain ⟨o, es, ep, tb, ho, hex, hd, g, nd, hm, hb, hf, hn, hr, hl⟩ := R
  refine Calls.call_function_entry kind_sorted plain_sorted entry_sorted (args_sorted1 _) ?_; unfold Builtin.«sorted»
  refine wpAny_bind (m := checkCount "sorted" 1 1 _) (wpAny_pure (wpAny_bind (collect_set (A := A.in1) quiet ⟨o, ho, hex.1, hd⟩ hf hb hr hl fun t vs old up gg oo pm => ?_)))
  have len : vs.length = n := by rw [pm.length_eq, List.length_map, Array.length_toList]; exact hn
  have small : vs.length ≤ sizeLine := by rw [len, sizeLine_eq, ← hn]; unfold scanBound at hb; omega
  have isI : IntsAre vs (vs.map Builtin.Re.reRawOf) := ints_of vs fun v hv => by
    obtain ⟨e, he, q⟩ := List.mem_map.mp (pm.mem_iff.mp hv); obtain ⟨k, tk, h1, _⟩ := g e he
    exact ⟨k, tk, q ▸ h1⟩
  have keys : (vs.map Builtin.Re.reRawOf).Perm (es.toList.map keyOf) := by
    have q := pm.map Builtin.Re.reRawOf; rw [List.map_map] at q; exact q
  have at1 : (t.heap.push (seqObj "list" vs.toArray 0)).get? t.heap.objs.size = some (seqObj "list" vs.toArray 0) := Heap.get?_push_size _ rfl
  refine wpAny_bind (wpAny_newList ?_ small)
  refine wpAny_bind (wpAny_holding (wpAny_call_entry slot_list_sort ⟨_, at1, rfl⟩ entry_list_sort (SrtO.list_sort_ord SrtO.swo_int at1 small (fun h2 => SrtO.ints_sortable isI h2) fun out s1 s2 => ⟨_, rfl, ?_⟩) (args_list_sort _)))
  obtain ⟨z1, z2, z3⟩ := SrtO.ints_out isI s1 s2
  obtain ⟨c, hc⟩ := sortedHeap_at (vs := vs) (out := out.toArray) at1
  have pn := z2.trans keys
  refine wpAny_pure ⟨_, rfl, done _ t.heap.objs.size out.toArray c (out.map SrtO.iv) (fun b u e => ?_) gg oo up hc (by simpa using z1) (lt_of_le_nodup _ z3 (pn.nodup_iff.mpr nd)) (fun k => by rw [pn.mem_iff, ← hm k]) (by rw [pn.length_eq, List.length_map, Array.length_toList]; exact hn)⟩
  have q := old b u e; have lt := Heap.lt_size q
  show (sortedHeap (t.heap.push (seqObj "list" vs.toArray 0)) t.heap.objs.size vs out.toArray).get? b = some u
  rw [sortedHeap_old (Nat.ne_of_lt lt) (by rw [size_push']; exact Nat.lt_succ_of_lt lt)]; exact Heap.get?_push_of_some _ q
end
section
variable {X : Cx}
/-- sorted(set(xs)), xs a list of ints -/
def rSetI (K : PySem.W.Frag) (w : World) : List V → Hp → VK → Prop := fun xs H Q => ∃ (l : Addr) (ns : List Int), xs = [V.ref l] ∧ SqL K H l (ns.map V.int) ∧ ns.length + 1 < scanBound ∧
  ∀ a c, H a = none → Q (.ref a) (upd H a (SetO w a (fun j => decide (j ∈ ns)) c))
theorem cr_setI (calm : X.calm = true) : CallR X (.type "set") (rSetI X.K X.w) := by
  intro pins s σ H xs us Q I r h
  obtain ⟨l, ns, rfl, hl, few, q⟩ := h
  rw [Vals.ref1 r]
  obtain ⟨its, rv, pl, hz⟩ := I.list hl
  have free : H s.heap.objs.size = none := I.hok.fresh (Nat.le_refl _)
  refine set_of_ints (P := X.prog) (w := X.w) ns (I.ok.hd calm) pl.isList (by simpa using rv.ints) few fun g tk c R _ k => ?_
  exact ⟨.ref s.heap.objs.size, upd H s.heap.objs.size (SetO X.w s.heap.objs.size (fun j => decide (j ∈ ns)) c), I.laid (t' := tk) k (Nat.le_refl _) (setO_new R), rfl, q _ c free⟩
def rSortSetI (w : World) : List V → Hp → VK → Prop := fun vs H Q => ∃ (a : Addr) (S : Int → Bool) (n : Nat), vs = [V.ref a] ∧ H a = some (SetO w a S n) ∧
  ∀ (ns : List Int) (p : Addr), ns.Pairwise (· < ·) → (∀ k : Int, k ∈ ns ↔ S k = true) → H p = none → Q (.ref p) (upd H p (.lst (ns.map V.int)))
theorem cr_sortSetI (calm : X.calm = true) : CallR X (.builtin "sorted") (rSortSetI X.w) := by
  intro pins s σ H vs us Q I r h
  obtain ⟨a, S, n, rfl, ha, q⟩ := h
  have R := setO_get I ha
  have few : n < scanBound := by
    obtain ⟨_, _, _, _, _, _, _, _, _, _, hb, _, hn, _⟩ := R
    omega
  rw [Vals.ref1 r]
  refine sorted_setI R (I.ok.hd calm) fun t p out c ns k g o hp hg hi hs hm hl => ?_
  have len : (ns.map V.int).length ≤ sizeLine := by rw [List.length_map, hl, sizeLine_eq]; unfold scanBound at few; omega
  have free : H p = none := I.hok.fresh hp
  have J : Inv X pins σ (upd H p (.lst (ns.map V.int))) { s with heap := t.heap, gens := t.gens, drawn := t.drawn, toks := t.toks } :=
    I.call (ch := []) (Un.laid k hp free) (I.hok.laid k hp ⟨len, out.toList, c, vals_of_ints hi, hg⟩) (by rw [g]; exact I.bare) (fun _ z => nomatch z)
  rw [show t = { s with heap := t.heap, gens := t.gens, drawn := t.drawn, toks := t.toks } by
    cases t; cases s; cases o; rfl]
  exact ⟨.ref p, _, J, rfl, q ns p hs hm free⟩
end
def tSortSetI (te : TEd) : TEd := fun E Q => te E fun x E1 => ∃ ns : List Int, x = .lst (ns.map D.int) ∧ ns.length + 1 < scanBound ∧ ∀ out : List Int, out.Pairwise (· < ·) → (∀ k, k ∈ out ↔ k ∈ ns) → Q (.lst (out.map D.int)) E1
section
variable {X : Cx} {e : Expr} {te : TEd} {p p' pos pos' : Pos}
theorem d_sortSetI (hc : X.calm = true) (hm : X.mg "sorted" = none) (hm2 : X.mg "set" = none) (he : PEd X e te) (hg : Gl X "sorted" := by rfl) (hg2 : Gl X "set" := by rfl)
    (na : starEach [.Call (.Name "set" p') [e] [] pos'] X.env = (false, eval (.Call (.Name "set" p') [e] [] pos') X.env) :: starEach [] X.env := by rfl) (nb : starEach [e] X.env = (false, eval e X.env) :: starEach [] X.env := by rfl) :
    PEd X (.Call (.Name "sorted" p) [.Call (.Name "set" p') [e] [] pos'] [] pos) (tSortSetI te) :=
  pe_imp (pe_callB (cr_sortSetI hc) hg hm PyProof.Rows.boot_sorted (pa_cons (pe_callTy (cr_setI hc) hg2 hm2 PyProof.Rows.boot_set (pa_cons he pa_nil nb) (by decide) (by decide) nb) pa_nil na) (by decide) (by decide) na) fun σ H Q ⟨en, Hf, F, E, Qd, S, h, k⟩ =>
    ⟨en, Hf, F, E, _, S, h, fun v1 H1 Hf1 F1 E1 x s1 S1 r1 h1 => by
      obtain ⟨ns, rfl, few, q⟩ := h1
      cases r1 with | lst hl l =>
      rw [l.ofInts] at hl
      refine ⟨_, ns, rfl, .inl (.inl (S1.sf _ _ hl)), few, fun a c na => ⟨a, _, c, rfl, upd_same, fun out b pw mem nb => ?_⟩⟩
      have S2 := S1.new (SetO X.w a (fun j => decide (j ∈ ns)) c) na
      have kk : Fin X.K en σ (upd Hf1 a (SetO X.w a (fun j => decide (j ∈ ns)) c)) Qd Q := fun v H' Hf' F' E' d s4 S4 r4 h4 => k v H' Hf' F' E' d ((s1.trans (same_upd (o := SetO X.w a (fun j => decide (j ∈ ns)) c) (S1.sf.free na))).trans s4) S4 r4 h4
      exact kk.new S2 nb (fun Hf' s3 e => .lst e (RepL.ints out)) (q out pw fun k => by rw [mem k, decide_eq_true_iff])⟩
end
end L3
namespace Z3
open PySem PyProof.Rows
/-! ### zip of three lists. The objects of one zip stand in a row from n on: three iterators, the tuple of them, the tuple kept, the zip. -/
/-- two addresses stand apart -/
abbrev Tri (h : Heap) (T : Addr) (a b c : Value) : Prop := h.get? T = some { cls := .type "tuple", data := .seq #[a, b, c] }
structure Zs (h : Heap) (n l1 l2 l3 : Nat) (f : Value) (j1 j2 j3 : Nat) (a b c : Value) : Prop where
  z : IsZip h (n + 5) (n + 3) (n + 4) f
  ti : Tri h (n + 3) (.ref n) (.ref (n + 1)) (.ref (n + 2))
  to : Tri h (n + 4) a b c
  i1 : h.IsListIter n l1 j1
  i2 : h.IsListIter (n + 1) l2 j2
  i3 : h.IsListIter (n + 2) l3 j3
section
variable {prog : Program} {w : World} {A : Around} {E : Value → Shared → Prop} {s : Shared} {n l1 l2 l3 : Nat} {a b c : Value} {xs ys us : Array Value}
theorem upd_tri {T : Addr} {a b c x : Value} {k : Nat} {Q : Unit → Shared → Prop} (hT : Tri s.heap T a b c)
    (h : ∀ g, g.get? T = some { cls := .type "tuple", data := .seq ((#[a, b, c] : Array Value).setIfInBounds k x) } → Heap.SameBut T s.heap g → Q () { s with heap := g }) : wpAny (model prog w) A (updateSeq T (·.setIfInBounds k x)) Q E s := by
  refine wpAny_updateSeq hT rfl (h _ (by rw [Heap.get?_update_self _ hT rfl]; simp [Obj.mapSeq]) (Heap.SameBut.update ..))
theorem item {j : Nat} {x y u : Value} {Q : Value → Shared → Prop} (Z : Zs s.heap n l1 l2 l3 .none j j j a b c) (h1 : l1 < n) (h2 : l2 < n) (h3 : l3 < n) (L1 : s.heap.IsList l1 xs) (L2 : s.heap.IsList l2 ys) (L3 : s.heap.IsList l3 us)
    (hx : xs[j]? = some x) (hy : ys[j]? = some y) (hu : us[j]? = some u)
    (hQ : ∀ g, Zs g n l1 l2 l3 (rawInt s.heap.objs.size) (j + 1) (j + 1) (j + 1) x y u → Tri g s.heap.objs.size x y u → g.objs.size = s.heap.objs.size + 1 → (∀ (d : Nat) (o : Obj), (d < n ∨ n + 6 ≤ d) → s.heap.get? d = some o → g.get? d = some o) → Q (.ref s.heap.objs.size) { s with heap := g }) :
    wpAny (model prog w) A (Builtin.«zip.__next__» ⟨[.ref (n + 5)], []⟩) (fun fin t => ∃ v, fin = .done (.ret v) ∧ Q v t) E s := by
  obtain ⟨hz, ti, to, i1, i2, i3⟩ := Z
  show wpAny _ _ (field (.ref (n + 5)) 2 >>= _) _ _ _; refine wpAny_bind (wpAny_field hz rfl (x := .bool false) rfl ?_)
  show wpAny _ _ (field (.ref (n + 5)) 3 >>= _) _ _ _; refine wpAny_bind (wpAny_field hz rfl (x := .ref (n + 3)) rfl (wpAny_bind (wpAny_seqItems ti rfl ?_)))
  show wpAny _ _ (Builtin.SmallTypes.ownedTupleIsFree (.ref (n + 5)) >>= _) _ _ _
  refine wpAny_bind ?_; unfold Builtin.SmallTypes.ownedTupleIsFree
  refine wpAny_bind (wpAny_field hz rfl (x := .none) rfl (wpAny_pure ?_)); simp only [if_true]
  refine wpAny_bind (wpAny_rule (wpAny_bind (wpAny_field hz rfl (x := .ref (n + 4)) rfl (wpAny_bind (wpAny_setField_rec hz (by simp) fun g1 z1 s1 => ?_)))))
  replace z1 : IsZip g1 (n + 5) (n + 3) (n + 4) .ellipsis := z1
  refine wpAny_bind ?_; simp only [List.zipIdx_cons, List.zipIdx_nil, List.forIn_cons, List.forIn_nil]
  have k1 : ∀ (d : Nat) (o : Obj), d ≠ n + 5 → s.heap.get? d = some o → g1.get? d = some o := fun d o ne e => s1.extBut d o ne e
  -- the first
  refine wpAny_bind (wpAny_bind (wpAny_onRaise ?_)); show wpAny _ _ (Builtin.SmallTypes.nextOf (.ref n) >>= _) _ _ _
  refine wpAny_bind (wpAny_nextOf_list_item (i1.at fun o e => k1 _ o (by first | omega | (show @Ne Nat _ _; omega)) e) (L1.at fun o e => k1 _ o (by first | omega | (show @Ne Nat _ _; omega)) e) hx fun g2 i1b s2 => wpAny_pure ?_)
  have k2 : ∀ (d : Nat) (o : Obj), d ≠ n + 5 → d ≠ n → s.heap.get? d = some o → g2.get? d = some o := fun d o n5 n0 e => s2.extBut d o n0 (k1 d o n5 e)
  have to2 : Tri g2 (n + 4) a b c := k2 _ _ (by first | omega | (show @Ne Nat _ _; omega)) (by first | omega | (show @Ne Nat _ _; omega)) to
  refine wpAny_bind (wpAny_seqItems to2 rfl (wpAny_bind (upd_tri to2 fun g3 to3 s3 => ?_)))
  replace to3 : Tri g3 (n + 4) x b c := to3
  refine wpAny_bind (wpAny_letGo (wpAny_pure ?_))
  have k3 : ∀ (d : Nat) (o : Obj), d ≠ n + 5 → d ≠ n → d ≠ n + 4 → s.heap.get? d = some o → g3.get? d = some o := fun d o n5 n0 n4 e => s3.extBut d o n4 (k2 d o n5 n0 e)
  -- the second
  refine wpAny_bind (wpAny_bind (wpAny_onRaise ?_)); show wpAny _ _ (Builtin.SmallTypes.nextOf (.ref (n + 1)) >>= _) _ _ _
  refine wpAny_bind (wpAny_nextOf_list_item (i2.at fun o e => k3 _ o (by first | omega | (show @Ne Nat _ _; omega)) (by first | omega | (show @Ne Nat _ _; omega)) (by first | omega | (show @Ne Nat _ _; omega)) e) (L2.at fun o e => k3 _ o (by first | omega | (show @Ne Nat _ _; omega)) (by first | omega | (show @Ne Nat _ _; omega)) (by first | omega | (show @Ne Nat _ _; omega)) e) hy fun g4 i2b s4 => wpAny_pure ?_)
  have to4 : Tri g4 (n + 4) x b c := s4.extBut _ _ (by first | omega | (show @Ne Nat _ _; omega)) to3
  refine wpAny_bind (wpAny_seqItems to4 rfl (wpAny_bind (upd_tri to4 fun g5 to5 s5 => ?_)))
  replace to5 : Tri g5 (n + 4) x y c := to5
  refine wpAny_bind (wpAny_letGo (wpAny_pure ?_))
  have k5 : ∀ (d : Nat) (o : Obj), d ≠ n + 5 → d ≠ n → d ≠ n + 4 → d ≠ n + 1 → s.heap.get? d = some o → g5.get? d = some o := fun d o n5 n0 n4 n1 e => s5.extBut d o n4 (s4.extBut d o n1 (k3 d o n5 n0 n4 e))
  -- the third
  refine wpAny_bind (wpAny_bind (wpAny_onRaise ?_)); show wpAny _ _ (Builtin.SmallTypes.nextOf (.ref (n + 2)) >>= _) _ _ _
  refine wpAny_bind (wpAny_nextOf_list_item (i3.at fun o e => k5 _ o (by first | omega | (show @Ne Nat _ _; omega)) (by first | omega | (show @Ne Nat _ _; omega)) (by first | omega | (show @Ne Nat _ _; omega)) (by first | omega | (show @Ne Nat _ _; omega)) e) (L3.at fun o e => k5 _ o (by first | omega | (show @Ne Nat _ _; omega)) (by first | omega | (show @Ne Nat _ _; omega)) (by first | omega | (show @Ne Nat _ _; omega)) (by first | omega | (show @Ne Nat _ _; omega)) e) hu fun g6 i3b s6 => wpAny_pure ?_)
  have to6 : Tri g6 (n + 4) x y c := s6.extBut _ _ (by first | omega | (show @Ne Nat _ _; omega)) to5
  refine wpAny_bind (wpAny_seqItems to6 rfl (wpAny_bind (upd_tri to6 fun g7 to7 s7 => ?_)))
  replace to7 : Tri g7 (n + 4) x y u := to7
  refine wpAny_bind (wpAny_letGo (wpAny_pure (wpAny_pure ?_)))
  have k7 : ∀ (d : Nat) (o : Obj), d ≠ n + 5 → d ≠ n → d ≠ n + 4 → d ≠ n + 1 → d ≠ n + 2 → s.heap.get? d = some o → g7.get? d = some o := fun d o n5 n0 n4 n1 n2 e => s7.extBut d o n4 (s6.extBut d o n2 (k5 d o n5 n0 n4 n1 e))
  have z7 : IsZip g7 (n + 5) (n + 3) (n + 4) .ellipsis := s7.extBut _ _ (by first | omega | (show @Ne Nat _ _; omega)) (s6.extBut _ _ (by first | omega | (show @Ne Nat _ _; omega)) (s5.extBut _ _ (by first | omega | (show @Ne Nat _ _; omega)) (s4.extBut _ _ (by first | omega | (show @Ne Nat _ _; omega)) (s3.extBut _ _ (by first | omega | (show @Ne Nat _ _; omega)) (s2.extBut _ _ (by first | omega | (show @Ne Nat _ _; omega)) z1)))))
  have i17 : g7.IsListIter n l1 (j + 1) := i1b.at fun o e => s7.extBut _ _ (by first | omega | (show @Ne Nat _ _; omega)) (s6.extBut _ _ (by first | omega | (show @Ne Nat _ _; omega)) (s5.extBut _ _ (by first | omega | (show @Ne Nat _ _; omega)) (s4.extBut _ _ (by first | omega | (show @Ne Nat _ _; omega)) (s3.extBut _ _ (by first | omega | (show @Ne Nat _ _; omega)) e))))
  have i27 : g7.IsListIter (n + 1) l2 (j + 1) := i2b.at fun o e => s7.extBut _ _ (by first | omega | (show @Ne Nat _ _; omega)) (s6.extBut _ _ (by first | omega | (show @Ne Nat _ _; omega)) (s5.extBut _ _ (by first | omega | (show @Ne Nat _ _; omega)) e))
  have i37 : g7.IsListIter (n + 2) l3 (j + 1) := i3b.at fun o e => s7.extBut _ _ (by first | omega | (show @Ne Nat _ _; omega)) e
  have ti7 : Tri g7 (n + 3) (.ref n) (.ref (n + 1)) (.ref (n + 2)) := k7 _ _ (by first | omega | (show @Ne Nat _ _; omega)) (by first | omega | (show @Ne Nat _ _; omega)) (by first | omega | (show @Ne Nat _ _; omega)) (by first | omega | (show @Ne Nat _ _; omega)) (by first | omega | (show @Ne Nat _ _; omega)) ti
  have sz : g7.objs.size = s.heap.objs.size := by rw [s7.1, s6.1, s5.1, s4.1, s3.1, s2.1, s1.1]
  have zlt : n + 5 < g7.objs.size := Heap.lt_size z7
  -- the tuple is handed out
  refine wpAny_bind (wpAny_seqItems to7 rfl (wpAny_bind (wpAny_newTuple ?_)))
  show wpAny _ _ (Builtin.SmallTypes.ownedTupleHandOut (.ref (n + 5)) (.ref g7.objs.size) >>= _) _ _ _
  refine wpAny_bind ?_; unfold Builtin.SmallTypes.ownedTupleHandOut
  have z8 : IsZip (g7.push { cls := .type "tuple", data := .seq #[x, y, u] }) (n + 5) (n + 3) (n + 4) .ellipsis := Heap.get?_push_of_some _ z7
  refine wpAny_bind (wpAny_setField_rec z8 (by simp) fun g9 z9 s9 => ?_)
  replace z9 : IsZip g9 (n + 5) (n + 3) (n + 4) (rawInt g7.objs.size) := z9
  refine wpAny_setField_rec z9 (by simp) fun gA zA sA => ?_
  replace zA : IsZip gA (n + 5) (n + 3) (n + 4) (rawInt g7.objs.size) := zA
  have up : ∀ (d : Nat) (o : Obj), d ≠ n + 5 → g7.get? d = some o → gA.get? d = some o := fun d o n5 e => sA.extBut _ _ n5 (s9.extBut _ _ n5 (Heap.get?_push_of_some _ e))
  have tA : Tri gA g7.objs.size x y u := sA.extBut _ _ (Nat.ne_of_gt zlt) (s9.extBut _ _ (Nat.ne_of_gt zlt) (Heap.get?_push_size _ rfl))
  have szA : gA.objs.size = g7.objs.size + 1 := by rw [sA.1, s9.1, Heap.size_push]
  rw [sz] at zA tA szA
  refine wpAny_pure ⟨_, rfl, ?_⟩
  show Q (.ref g7.objs.size) _
  rw [sz]
  exact hQ gA ⟨zA, up _ _ (by first | omega | (show @Ne Nat _ _; omega)) ti7, up _ _ (by first | omega | (show @Ne Nat _ _; omega)) to7, i17.at fun o e => up _ o (by first | omega | (show @Ne Nat _ _; omega)) e, i27.at fun o e => up _ o (by first | omega | (show @Ne Nat _ _; omega)) e, i37.at fun o e => up _ o (by first | omega | (show @Ne Nat _ _; omega)) e⟩ tA szA fun d o hd e => up d o (by first | omega | (show @Ne Nat _ _; omega)) (k7 d o (by first | omega | (show @Ne Nat _ _; omega)) (by first | omega | (show @Ne Nat _ _; omega)) (by first | omega | (show @Ne Nat _ _; omega)) (by first | omega | (show @Ne Nat _ _; omega)) (by first | omega | (show @Ne Nat _ _; omega)) e)
/-- the first list is at its end -/
theorem stop {j : Nat} {Q : Fin → Shared → Prop} (quiet : A.handled = none) (Z : Zs s.heap n l1 l2 l3 .none j j j a b c) (h1 : l1 < n) (L1 : s.heap.IsList l1 xs) (hx : xs[j]? = none)
    (hE : ∀ g e, (∀ (d : Nat) (o : Obj), (d < n ∨ n + 6 ≤ d) → s.heap.get? d = some o → g.get? d = some o) → (∃ o, g.get? e = some o ∧ o.cls = .type "StopIteration") → E (.ref e) { s with heap := g }) :
    wpAny (model prog w) A (Builtin.«zip.__next__» ⟨[.ref (n + 5)], []⟩) Q E s := by
  obtain ⟨hz, ti, to, i1, i2, i3⟩ := Z
  show wpAny _ _ (field (.ref (n + 5)) 2 >>= _) _ _ _; refine wpAny_bind (wpAny_field hz rfl (x := .bool false) rfl ?_)
  show wpAny _ _ (field (.ref (n + 5)) 3 >>= _) _ _ _; refine wpAny_bind (wpAny_field hz rfl (x := .ref (n + 3)) rfl (wpAny_bind (wpAny_seqItems ti rfl ?_)))
  show wpAny _ _ (Builtin.SmallTypes.ownedTupleIsFree (.ref (n + 5)) >>= _) _ _ _
  refine wpAny_bind ?_; unfold Builtin.SmallTypes.ownedTupleIsFree
  refine wpAny_bind (wpAny_field hz rfl (x := .none) rfl (wpAny_pure ?_)); simp only [if_true]
  refine wpAny_bind (wpAny_rule (wpAny_bind (wpAny_field hz rfl (x := .ref (n + 4)) rfl (wpAny_bind (wpAny_setField_rec hz (by simp) fun g1 z1 s1 => ?_)))))
  replace z1 : IsZip g1 (n + 5) (n + 3) (n + 4) .ellipsis := z1
  refine wpAny_bind ?_; simp only [List.zipIdx_cons, List.zipIdx_nil, List.forIn_cons, List.forIn_nil]
  have k1 : ∀ (d : Nat) (o : Obj), d ≠ n + 5 → s.heap.get? d = some o → g1.get? d = some o := fun d o ne e => s1.extBut d o ne e
  refine wpAny_bind (wpAny_bind (wpAny_onRaise ?_)); show wpAny _ _ (Builtin.SmallTypes.nextOf (.ref n) >>= _) _ _ _
  refine wpAny_bind (wpAny_nextOf_list_end quiet (i1.at fun o e => k1 _ o (by first | omega | (show @Ne Nat _ _; omega)) e) (L1.at fun o e => k1 _ o (by first | omega | (show @Ne Nat _ _; omega)) e) hx fun g2 e s2 he => ?_)
  obtain ⟨oe, e1, e2⟩ := he
  have z2 : IsZip g2 (n + 5) (n + 3) (n + 4) .ellipsis := s2 _ _ (by first | omega | (show @Ne Nat _ _; omega)) z1
  have ne : e ≠ n + 5 := fun z => by
    rw [z, z2] at e1
    cases e1
    simp at e2
  exact wpAny_setField_rec z2 (by simp) fun g3 _ s3 => hE g3 e (fun d o hd x => s3.extBut _ _ (by first | omega | (show @Ne Nat _ _; omega)) (s2 _ _ (by first | omega | (show @Ne Nat _ _; omega)) (k1 d o (by first | omega | (show @Ne Nat _ _; omega)) x))) ⟨oe, s3.extBut _ _ ne e1, e2⟩
theorem next_item {j : Nat} {x y u : Value} {Q : Option Value → Shared → Prop} (Z : Zs s.heap n l1 l2 l3 .none j j j a b c) (h1 : l1 < n) (h2 : l2 < n) (h3 : l3 < n) (L1 : s.heap.IsList l1 xs) (L2 : s.heap.IsList l2 ys) (L3 : s.heap.IsList l3 us)
    (hx : xs[j]? = some x) (hy : ys[j]? = some y) (hu : us[j]? = some u)
    (hQ : ∀ g, Zs g n l1 l2 l3 (rawInt s.heap.objs.size) (j + 1) (j + 1) (j + 1) x y u → Tri g s.heap.objs.size x y u → g.objs.size = s.heap.objs.size + 1 → (∀ (d : Nat) (o : Obj), (d < n ∨ n + 6 ≤ d) → s.heap.get? d = some o → g.get? d = some o) → Q (some (.ref s.heap.objs.size)) { s with heap := g }) :
    wpAny (model prog w) A (pyNext (.ref (n + 5))) Q E s := by
  have ty : s.TypeIs (.ref (n + 5)) "zip" := ⟨_, Z.z, rfl⟩
  unfold pyNext
  exact wpAny_bind (wpAny_attempt (wpAny_callSpecial?_slot (name := Str.ofString "__next__") ty F.slot_zip_next (wpAny_call_entry F.slot_zip_next ty F.entry_zip_next (item Z h1 h2 h3 L1 L2 L3 hx hy hu fun g q1 q2 q3 q4 => wpAny_pure (hQ g q1 q2 q3 q4)) (F.args_zip_next_1 _))))
theorem next_stop {j : Nat} {Q : Option Value → Shared → Prop} (quiet : A.handled = none) (Z : Zs s.heap n l1 l2 l3 .none j j j a b c) (h1 : l1 < n) (L1 : s.heap.IsList l1 xs) (hx : xs[j]? = none)
    (hQ : ∀ g, (∀ (d : Nat) (o : Obj), (d < n ∨ n + 6 ≤ d) → s.heap.get? d = some o → g.get? d = some o) → Q none { s with heap := g }) : wpAny (model prog w) A (pyNext (.ref (n + 5))) Q E s := by
  have ty : s.TypeIs (.ref (n + 5)) "zip" := ⟨_, Z.z, rfl⟩
  unfold pyNext
  refine wpAny_bind (wpAny_attempt (wpAny_callSpecial?_slot (name := Str.ofString "__next__") ty F.slot_zip_next (wpAny_call_entry F.slot_zip_next ty F.entry_zip_next (stop quiet Z h1 L1 hx fun g e hk he => ?_) (F.args_zip_next_1 _))))
  obtain ⟨o, ho, hc⟩ := he
  exact wpAny_bind (wpAny_isInstance (T := "StopIteration") (b := true) ⟨o, ho, hc⟩ isSubtype_stop (wpAny_pure (hQ _ hk)))
/-! zip(l1, l2, l3) -/
theorem ty3 (a b c : Value) : checkTypeCall "zip" ⟨[a, b, c], []⟩ = pure () := by kernel_rfl
theorem new3 (a b c : Value) : checkBuiltinCall "zip.__new__" ⟨[.type "zip", a, b, c], []⟩ = pure () := by kernel_rfl
theorem init4 (a b c d : Value) : argsOk "object.__init__" ⟨[a, b, c, d], []⟩ := by
  unfold argsOk; rw [signature?_of (id := "object.__init__") (n := ['_', '_', 't', 'i', 'n', 'i', '_', '_']) (o := ['t', 'c', 'e', 'j', 'b', 'o']) (by kernel_rfl) F.owner_object]; kernel_rfl
abbrev H1 (h : Heap) (l1 : Addr) : Heap := h.push { cls := .type "list_iterator", data := .fields #[.ref l1, .int 0 0] }
abbrev H2 (h : Heap) (l1 l2 : Addr) : Heap := (H1 h l1).push { cls := .type "list_iterator", data := .fields #[.ref l2, .int 0 0] }
abbrev H3 (h : Heap) (l1 l2 l3 : Addr) : Heap := (H2 h l1 l2).push { cls := .type "list_iterator", data := .fields #[.ref l3, .int 0 0] }
abbrev H4 (h : Heap) (l1 l2 l3 : Addr) : Heap := (H3 h l1 l2 l3).push { cls := .type "tuple", data := .seq #[.ref h.objs.size, .ref (H1 h l1).objs.size, .ref (H2 h l1 l2).objs.size] }
abbrev H5 (h : Heap) (l1 l2 l3 : Addr) : Heap := (H4 h l1 l2 l3).push { cls := .type "tuple", data := .seq #[.none, .none, .none] }
abbrev H6 (h : Heap) (l1 l2 l3 : Addr) : Heap := (H5 h l1 l2 l3).push { cls := .type "zip", data := .fields #[.none, .bool false, .bool false, .ref (H3 h l1 l2 l3).objs.size, .ref (H4 h l1 l2 l3).objs.size] }
theorem meets3 (l1 l2 l3 : Addr) (xs ys us : Array Value) :
    Meets (Builtin.«zip.__new__» ⟨[.type "zip", .ref l1, .ref l2, .ref l3], []⟩) (fun _ R s => s.heap.IsList l1 xs ∧ s.heap.IsList l2 ys ∧ s.heap.IsList l3 us ∧ R (.ok (.ret (.ref (H5 s.heap l1 l2 l3).objs.size))) { s with heap := H6 s.heap l1 l2 l3 }) :=
  .of_wp fun prog w A R s h => by
    obtain ⟨hp, g, d, tk, os⟩ := s; obtain ⟨p1, p2, p3, h⟩ := h
    have hsub := sub_zip
    have q1 : Heap.IsList (Shared.heap ⟨hp, g, d, tk, os⟩) l1 xs := p1
    have q2 : Heap.IsList (Shared.heap ⟨H1 hp l1, g, d, tk, os⟩) l2 ys := Heap.IsList.push p2 _
    have q3 : Heap.IsList (Shared.heap ⟨H2 hp l1 l2, g, d, tk, os⟩) l3 us := Heap.IsList.push (Heap.IsList.push p3 _) _
    wp_walk using wpAny_pyIter_list q1, wpAny_pyIter_list q2, wpAny_pyIter_list q3
    exact ⟨_, rfl, h⟩
theorem call3 {Q : Value → Shared → Prop} (L1 : s.heap.IsList l1 xs) (L2 : s.heap.IsList l2 ys) (L3 : s.heap.IsList l3 us)
    (h : ∀ g, Zs g s.heap.objs.size l1 l2 l3 .none 0 0 0 .none .none .none → g.objs.size = s.heap.objs.size + 6 → (∀ (d : Nat) (o : Obj), s.heap.get? d = some o → g.get? d = some o) → Q (.ref (s.heap.objs.size + 5)) { s with heap := g }) :
    wpAny (model prog w) A (call (.type "zip") [.ref l1, .ref l2, .ref l3]) Q E s := by
  refine callType_new F.called_zip (by decide) (ty3 _ _ _) (new3 _ _ _) (fun obj => init4 obj _ _ _) F.entry_zip_new (meets3 l1 l2 l3 xs ys us) ⟨L1, L2, L3, ?_⟩
  have z1 : (H1 s.heap l1).objs.size = s.heap.objs.size + 1 := Heap.size_push ..
  have z2 : (H2 s.heap l1 l2).objs.size = s.heap.objs.size + 2 := by rw [Heap.size_push, z1]
  have z3 : (H3 s.heap l1 l2 l3).objs.size = s.heap.objs.size + 3 := by rw [Heap.size_push, z2]
  have z4 : (H4 s.heap l1 l2 l3).objs.size = s.heap.objs.size + 4 := by rw [Heap.size_push, z3]
  have z5 : (H5 s.heap l1 l2 l3).objs.size = s.heap.objs.size + 5 := by rw [Heap.size_push, z4]
  have z6 : (H6 s.heap l1 l2 l3).objs.size = s.heap.objs.size + 6 := by rw [Heap.size_push, z5]
  have p : ∀ {g : Heap} {d : Nat} {o : Obj} (u : Obj), g.get? d = some o → (g.push u).get? d = some o := fun u e => Heap.get?_push_of_some u e
  have g1 : (H6 s.heap l1 l2 l3).get? s.heap.objs.size = some _ := p _ (p _ (p _ (p _ (p _ (Heap.get?_push_size _ rfl)))))
  have g2 : (H6 s.heap l1 l2 l3).get? (H1 s.heap l1).objs.size = some _ := p _ (p _ (p _ (p _ (Heap.get?_push_size _ rfl))))
  have g3 : (H6 s.heap l1 l2 l3).get? (H2 s.heap l1 l2).objs.size = some _ := p _ (p _ (p _ (Heap.get?_push_size _ rfl)))
  have g4 : (H6 s.heap l1 l2 l3).get? (H3 s.heap l1 l2 l3).objs.size = some _ := p _ (p _ (Heap.get?_push_size _ rfl))
  have g5 : (H6 s.heap l1 l2 l3).get? (H4 s.heap l1 l2 l3).objs.size = some _ := p _ (Heap.get?_push_size _ rfl)
  have g6 : (H6 s.heap l1 l2 l3).get? (H5 s.heap l1 l2 l3).objs.size = some _ := Heap.get?_push_size _ rfl
  show _ ∧ _
  rw [z3, z4, z5] at g6
  rw [z4] at g5
  rw [z1, z2, z3] at g4
  rw [z2] at g3
  rw [z1] at g2
  rw [z5]
  exact ⟨⟨_, g6, rfl⟩, h _ ⟨g6, g4, g5, ⟨_, g1, rfl, rfl⟩, ⟨_, g2, rfl, rfl⟩, ⟨_, g3, rfl, rfl⟩⟩ z6 fun d o x => p _ (p _ (p _ (p _ (p _ (p _ x)))))⟩
end
end Z3
namespace L3
open PySem PySem.Spec PyProof.Rows L2 Z3
variable [Tbs]
/-- three lists as they stand at each turn, the items in new tuples -/
def Itz3 (K : PySem.W.Frag) (a b c : Addr) : L2.It :=
  ⟨fun i H => ∃ (xs ys us : List V) (x y u : V), SqL K H a xs ∧ SqL K H b ys ∧ SqL K H c us ∧ xs[i]? = some x ∧ ys[i]? = some y ∧ us[i]? = some u,
    fun i H v H' => ∃ T x y u, v = .ref T ∧ H T = none ∧ H' = upd H T (.tup [x, y, u]) ∧ (∀ xs, SqL K H a xs → xs[i]? = some x) ∧ (∀ ys, SqL K H b ys → ys[i]? = some y) ∧ ∀ us, SqL K H c us → us[i]? = some u,
    fun i H => ∃ xs : List V, SqL K H a xs ∧ xs.length ≤ i⟩
def Zn (n a b c : Nat) (i : Nat) (h : Heap) : Prop := ∃ x y u, Zs h n a b c .none i i i x y u
theorem turn_zip3 {P : Program} {w : World} {K : PySem.W.Frag} {elts : List Expr} {kk : Nat} {tpos : Pos} {n a b c : Nat} (la : a < n) (lb : b < n) (lc : c < n) :
    Turn P w K (.Tuple elts kk tpos) (Itz3 K a b c) [n + 5, n, n + 1, n + 2, n + 3, n + 4] (n + 5) (Zn n a b c) where
  mem := by simp
  obj := fun i h ⟨x, y, u, Z⟩ d hd => by
    obtain ⟨hz, ti, to, ⟨o1, e1, _, d1⟩, ⟨o2, e2, _, d2⟩, ⟨o3, e3, _, d3⟩⟩ := Z
    have e' : d = n + 5 ∨ d = n ∨ d = n + 1 ∨ d = n + 2 ∨ d = n + 3 ∨ d = n + 4 := by simpa using hd
    rcases e' with rfl | rfl | rfl | rfl | rfl | rfl
    · exact ⟨_, hz, fun v q => nomatch q⟩
    · exact ⟨o1, e1, fun v q => by rw [d1] at q; cases q⟩
    · exact ⟨o2, e2, fun v q => by rw [d2] at q; cases q⟩
    · exact ⟨o3, e3, fun v q => by rw [d3] at q; cases q⟩
    · exact ⟨_, ti, fun v q => nomatch q⟩
    · exact ⟨_, to, fun v q => nomatch q⟩
  keep := fun i h h' ⟨x, y, u, Z⟩ k => ⟨x, y, u, k (n + 5) (by simp) _ Z.z, k (n + 3) (by simp) _ Z.ti, k (n + 4) (by simp) _ Z.to, Z.i1.at fun o e => k n (by simp) o e, Z.i2.at fun o e => k (n + 1) (by simp) o e, Z.i3.at fun o e => k (n + 2) (by simp) o e⟩
  item := by
    intro X hP hw hK hc i pins s σ H E I hf st hg
    subst hP hw hK
    obtain ⟨x0, y0, u0, Z⟩ := st
    obtain ⟨xs, ys, us, x, y, u, qx, qy, qu, ex, ey, eu⟩ := hg
    obtain ⟨is1, rv1, p1, _⟩ := I.list qx
    obtain ⟨is2, rv2, p2, _⟩ := I.list qy
    obtain ⟨is3, rv3, p3, _⟩ := I.list qu
    obtain ⟨v1, hv1, r1⟩ := rv1.get ex
    obtain ⟨v2, hv2, r2⟩ := rv2.get ey
    obtain ⟨v3, hv3, r3⟩ := rv3.get eu
    have zl : n + 5 < s.heap.objs.size := Heap.lt_size Z.z
    refine next_item Z la lb lc p1.isList p2.isList p3.isList (x := v1) (y := v2) (u := v3) (by simpa using hv1) (by simpa using hv2) (by simpa using hv3) fun g Zg tg szg kg => ?_
    refine ⟨_, rfl, wpAny_letOwnedTupleGo_zip (s := { s with heap := g }) Zg.z fun g2 z2 sb => ?_⟩
    have kb : ∀ (d : Nat) (o : Obj), d ≠ n + 5 → g.get? d = some o → g2.get? d = some o := fun d o ne e => (sb.2 d ne).trans e
    have tg2 : g2.get? s.heap.objs.size = some { cls := .type "tuple", data := .seq #[v1, v2, v3] } := kb _ _ (Nat.ne_of_gt zl) tg
    have new : ObjOk X.prog X.w (upd H s.heap.objs.size (.tup [x, y, u])) g2 s.heap.objs.size (.tup [x, y, u]) :=
      ⟨by show 3 ≤ sizeLine; decide, [v1, v2, v3], .cons r1 (.cons r2 (.cons r3 .nil)), ⟨_, tg2, rfl, _, rfl⟩⟩
    have I1 : Inv X pins σ (upd H s.heap.objs.size (.tup [x, y, u])) { s with heap := g2 } :=
      I.turnedNew (t' := s.toks) (ch := [n + 5, n, n + 1, n + 2, n + 3, n + 4]) (fun d o hb q => by
        have nd : ¬ (d = n + 5 ∨ d = n ∨ d = n + 1 ∨ d = n + 2 ∨ d = n + 3 ∨ d = n + 4) := by simpa using hb
        have d' : @Ne Nat d (n + 5) := fun z => nd (.inl z)
        exact kb d o d' (kg d o (by
          have n0 : @Ne Nat d n := fun z => nd (.inr (.inl z))
          have n1 : @Ne Nat d (n + 1) := fun z => nd (.inr (.inr (.inl z)))
          have n2 : @Ne Nat d (n + 2) := fun z => nd (.inr (.inr (.inr (.inl z))))
          have n3 : @Ne Nat d (n + 3) := fun z => nd (.inr (.inr (.inr (.inr (.inl z)))))
          have n4 : @Ne Nat d (n + 4) := fun z => nd (.inr (.inr (.inr (.inr (.inr z)))))
          show @LT.lt Nat _ d n ∨ @LE.le Nat _ (n + 6) d
          omega) q)) hf (Nat.le_refl _) new
    refine ⟨.ref s.heap.objs.size, _, I1, rfl, ⟨_, x, y, u, rfl, I.hok.fresh (Nat.le_refl _), rfl, fun l hl => by rw [I.list_inj hl qx]; exact ex, fun l hl => by rw [I.list_inj hl qy]; exact ey, fun l hl => by rw [I.list_inj hl qu]; exact eu⟩, ⟨v1, v2, v3, z2, kb _ _ (by first | omega | (show @Ne Nat _ _; omega)) Zg.ti, kb _ _ (by first | omega | (show @Ne Nat _ _; omega)) Zg.to, Zg.i1.at fun o e => kb _ _ (by first | omega | (show @Ne Nat _ _; omega)) e, Zg.i2.at fun o e => kb _ _ (by first | omega | (show @Ne Nat _ _; omega)) e, Zg.i3.at fun o e => kb _ _ (by first | omega | (show @Ne Nat _ _; omega)) e⟩, fun d hd => ?_⟩
    have lt : @LT.lt Nat _ d s.heap.objs.size := by
      have e' : d = n + 5 ∨ d = n ∨ d = n + 1 ∨ d = n + 2 ∨ d = n + 3 ∨ d = n + 4 := by simpa using hd
      rcases e' with z | z | z | z | z | z <;> (rw [z]; omega)
    rw [upd_ne (Nat.ne_of_lt lt)]
    exact (hf d hd).1
  done := by
    intro X hP hw hK hc i pins s σ H E I hf st hg
    subst hP hw hK
    obtain ⟨x0, y0, u0, Z⟩ := st
    obtain ⟨xs, qx, hend⟩ := hg
    obtain ⟨is1, rv1, p1, _⟩ := I.list qx
    have len := rv1.length
    refine next_stop (I.ok.hd hc) Z la p1.isList (by simp; omega) fun g kg => ⟨rfl, I.turnedL (t' := s.toks) (ch := [n + 5, n, n + 1, n + 2, n + 3, n + 4]) (fun d o hb q => ?_) hf⟩
    have nd : ¬ (d = n + 5 ∨ d = n ∨ d = n + 1 ∨ d = n + 2 ∨ d = n + 3 ∨ d = n + 4) := by simpa using hb
    refine kg d o ?_ q
    have n5 : @Ne Nat d (n + 5) := fun z => nd (.inl z)
    have n0 : @Ne Nat d n := fun z => nd (.inr (.inl z))
    have n1 : @Ne Nat d (n + 1) := fun z => nd (.inr (.inr (.inl z)))
    have n2 : @Ne Nat d (n + 2) := fun z => nd (.inr (.inr (.inr (.inl z))))
    have n3 : @Ne Nat d (n + 3) := fun z => nd (.inr (.inr (.inr (.inr (.inl z)))))
    have n4 : @Ne Nat d (n + 4) := fun z => nd (.inr (.inr (.inr (.inr (.inr z)))))
    show @LT.lt Nat _ d n ∨ @LE.le Nat _ (n + 6) d
    omega
  self := fun A i s Q E ⟨x, y, u, Z⟩ h => wpAny_pyIter_zip Z.z h
def iZip3 (K : PySem.W.Frag) (ta : TA) : TI := fun σ H R => ta σ H fun vs H1 => ∃ a b c xs ys us, vs = [.ref a, .ref b, .ref c] ∧ SqL K H1 a xs ∧ SqL K H1 b ys ∧ SqL K H1 c us ∧ R (Itz3 K a b c) H1
theorem zip3_run {X : Cx} {pins : List (Addr × Obj)} {s : Shared} {σ : L2.St} {H : Hp} {a b c : Addr} {xs ys us : List V} {elts : List Expr} {kk : Nat} {tpos : Pos} {R : L2.It → Hp → Prop} (I : Inv X pins σ H s) (qa : SqL X.K H a xs) (qb : SqL X.K H b ys) (qc : SqL X.K H c us) (q : R (Itz3 X.K a b c) H) :
    wpAny (model X.prog X.w) X.A (call (.type "zip") [.ref a, .ref b, .ref c]) (fun v s1 => wpAny (model X.prog X.w) X.A (pyIter v) (PIE X pins σ (.Tuple elts kk tpos) R) X.xe s1) X.xe s := by
  obtain ⟨is1, rv1, p1, _⟩ := I.list qa
  obtain ⟨is2, rv2, p2, _⟩ := I.list qb
  obtain ⟨is3, rv3, p3, _⟩ := I.list qc
  refine call3 p1.isList p2.isList p3.isList fun g Z sz k => wpAny_pyIter_zip Z.z ?_
  have I2 : Inv X pins σ H { s with heap := g } := I.kept (t' := s.toks) k
  refine ⟨s.heap.objs.size + 5, _, _, _, H, rfl, I2, turn_zip3 p1.lt p2.lt p3.lt, ⟨_, _, _, Z⟩, fun d hd => ?_, q⟩
  have le : @LE.le Nat _ s.heap.objs.size d := by
    have e' : d = s.heap.objs.size + 5 ∨ d = s.heap.objs.size ∨ d = s.heap.objs.size + 1 ∨ d = s.heap.objs.size + 2 ∨ d = s.heap.objs.size + 3 ∨ d = s.heap.objs.size + 4 := by simpa using hd
    rcases e' with z | z | z | z | z | z <;> (rw [z]; omega)
  exact I.fpOk le (I.hok.fresh le)
theorem pi_zip3 {X : Cx} {e e2 e3 : Expr} {ta : TA} {p pos tpos : Pos} {elts : List Expr} {kk : Nat} (hg : Gl X "zip") (hm : X.mg "zip" = none) (ha : PA X [e, e2, e3] ta)
    (hs : starEach [e, e2, e3] X.env = (false, eval e X.env) :: starEach [e2, e3] X.env := by rfl) (hpl : (backTo pos (starEach [e2, e3] X.env)).any (·.1) = false := by rfl) :
    PI X (.Tuple elts kk tpos) (.Call (.Name "zip" p) [e, e2, e3] [] pos) (iZip3 X.K ta) := by
  refine ⟨fun pins s σ H R I h => ?_⟩
  refine Call_ (ld_blt I hg hm PyProof.Rows.boot_zip (PyProof.Rows.callWith_type1 (thn (ha.run pos pins s σ H _ I h) fun us s1 ⟨vs, H1, I1, r1, q1⟩ => ?_) hs hpl))
  obtain ⟨a, b, c, xs, ys, zs, rfl, qa, qb, qc, q⟩ := q1
  cases r1 with | cons r rr =>
  cases rr with | cons r' rr =>
  cases rr with | cons r'' rr =>
  cases rr
  cases r
  cases r'
  cases r''
  exact zip3_run I1 qa qb qc q
/-- three lists of one length, walked together -/
def zip3D (xs ys us : List D) : List D := List.zipWith (fun x q => D.tup [x, q.1, q.2]) xs (List.zip ys us)
theorem zip3D_len {xs ys us : List D} (h1 : ys.length = xs.length) (h2 : us.length = xs.length) : (zip3D xs ys us).length = xs.length := by
  unfold zip3D
  rw [List.length_zipWith, List.length_zip]
  omega
theorem zip3D_get {xs ys us : List D} {i : Nat} {x y u : D} (h1 : xs[i]? = some x) (h2 : ys[i]? = some y) (h3 : us[i]? = some u) : (zip3D xs ys us)[i]? = some (.tup [x, y, u]) := by
  unfold zip3D
  rw [List.getElem?_zipWith, h1, (List.getElem?_zip_eq_some (z := (y, u))).mpr ⟨h2, h3⟩]
section
variable {X : Cx} {a b c : Expr} {elts : List Expr} {t : TAd} {p p2 pos tpos : Pos} {kk : Nat}
def iZip3D (t : TAd) : TId := fun E Q => t E fun xs E1 => match xs with
  | [.lst xs, .lst ys, .lst us] => ys.length = xs.length ∧ us.length = xs.length ∧ Q (zip3D xs ys us) E1
  | _ => False
theorem i_zip3 (hm : X.mg "zip" = none) (ha : PAd X [a, b, c] t) (hg : Gl X "zip" := by rfl) (hs : starEach [a, b, c] X.env = (false, eval a X.env) :: starEach [b, c] X.env := by rfl) (hpl : (backTo p2 (starEach [b, c] X.env)).any (·.1) = false := by rfl) :
    PId X (.Tuple elts kk tpos) (.Call (.Name "zip" p) [a, b, c] [] p2) (iZip3D t) :=
  pi_imp (pi_zip3 hg hm ha hs hpl) fun σ H R ⟨en, Hf, F, E, Qd, S, h, k⟩ => ⟨en, Hf, F, E, _, S, h, fun v1 H1 Hf1 F1 E1 x s1 S1 r1 h1 => by
    split at h1
    · rename_i xs ys us
      obtain ⟨l1, l2, h1⟩ := h1
      cases r1 with | cons a1 rest =>
      cases rest with | cons a2 rest =>
      cases rest with | cons a3 rest =>
      cases rest
      cases a1 with | lst q1 r1 =>
      cases a2 with | lst q2 r2 =>
      cases a3 with | lst q3 r3 =>
      have w1 : ∀ H', Same Hf1 H' → SqL X.K H' _ _ := fun H' s => .inl (.inl (s _ _ q1))
      have w2 : ∀ H', Same Hf1 H' → SqL X.K H' _ _ := fun H' s => .inl (.inl (s _ _ q2))
      have w3 : ∀ H', Same Hf1 H' → SqL X.K H' _ _ := fun H' s => .inl (.inl (s _ _ q3))
      refine ⟨_, _, _, _, _, _, rfl, w1 _ S1.sf, w2 _ S1.sf, w3 _ S1.sf, k _ _ _ _ _ _ s1 S1 ⟨fun i H' s hi => ?_, fun H' s => ⟨_, w1 _ s, ?_⟩, fun i H2 v H3 s hi y => ?_⟩ h1⟩
      · rw [zip3D_len l1 l2] at hi
        obtain ⟨d1, e1⟩ := getE hi
        obtain ⟨d2, e2⟩ := getE (show i < ys.length by omega)
        obtain ⟨d3, e3⟩ := getE (show i < us.length by omega)
        obtain ⟨v1, f1, _⟩ := r1.get e1
        obtain ⟨v2, f2, _⟩ := r2.get e2
        obtain ⟨v3, f3, _⟩ := r3.get e3
        exact ⟨_, _, _, v1, v2, v3, w1 _ s, w2 _ s, w3 _ s, f1, f2, f3⟩
      · rw [zip3D_len l1 l2, r1.length]
        exact Nat.le_refl _
      · rw [zip3D_len l1 l2] at hi
        obtain ⟨d1, e1⟩ := getE hi
        obtain ⟨d2, e2⟩ := getE (show i < ys.length by omega)
        obtain ⟨d3, e3⟩ := getE (show i < us.length by omega)
        obtain ⟨v1, f1, g1⟩ := r1.get e1
        obtain ⟨v2, f2, g2⟩ := r2.get e2
        obtain ⟨v3, f3, g3⟩ := r3.get e3
        obtain ⟨T, y1, y2, y3, z1, z2, z3, z4, z5, z6⟩ := y
        have t1 := z4 _ (w1 _ s)
        have t2 := z5 _ (w2 _ s)
        have t3 := z6 _ (w3 _ s)
        rw [f1] at t1
        rw [f2] at t2
        rw [f3] at t3
        cases t1
        cases t2
        cases t3
        refine ⟨_, zip3D_get e1 e2 e3, .inr ⟨T, _, z1, z2, z3, fun Hf' s2 e => ?_⟩⟩
        rw [z1]
        exact .tup (.inl (.inl e)) (.cons (g1.mono s2) (.cons (g2.mono s2) (.cons (g3.mono s2) .nil)))
    · exact h1.elim⟩
end
end L3
namespace L3
open PySem PySem.Spec PyProof.Rows L2
variable [Tbs]
/-! ### zip of two lists; zip(*e), e a pair of two lists -/
section
variable {M : Model} {A : Around} {E : Value → Shared → Prop} {s : Shared} {env : Env} {e : Expr} {p pos : Pos}
theorem type_star {T : String} {Q : Value → Shared → Prop} (h : wpAny M A (eval e env) (fun v s1 => PySem.W.StarOf M A E v (fun vs s2 => wpAny M A (call (.type T) vs) Q E s2) s1) E s) (he : starEach [.Starred e p] env = [(true, eval e env)] := by rfl) :
    wpAny M A (callWith pos (.type T) [] (backTo pos (starEach [.Starred e p] env)) []) Q E s := by
  rw [he]
  refine PySem.W.ks_call (P := fun _ => True) rfl (fun h _ => ⟨.machine, .inr (.inl rfl), PySem.W.Looks.of_pure rfl⟩) (PySem.W.ks_lone (wpAny_mono h (fun v s1 hv => ?_) fun _ _ x => x))
  unfold PySem.W.StarOf at hv ⊢
  exact wpAny_mono hv (fun b s2 q => ⟨q.1, wpAny_mono q.2 (fun vs s3 q2 => ⟨True.intro, q2⟩) fun _ _ x => x⟩) fun _ _ x => x
end
theorem zip2_run {X : Cx} {pins : List (Addr × Obj)} {s : Shared} {σ : L2.St} {H : Hp} {a b : Addr} {xs ys : List V} {elts : List Expr} {kk : Nat} {tpos : Pos} {R : L2.It → Hp → Prop} (I : Inv X pins σ H s) (qa : SqL X.K H a xs) (qb : SqL X.K H b ys) (q : R (Itz X.K a b) H) :
    wpAny (model X.prog X.w) X.A (call (.type "zip") [.ref a, .ref b]) (fun v s1 => wpAny (model X.prog X.w) X.A (pyIter v) (PIE X pins σ (.Tuple elts kk tpos) R) X.xe s1) X.xe s := by
  obtain ⟨is1, rv1, p1, _⟩ := I.list qa
  obtain ⟨is2, rv2, p2, _⟩ := I.list qb
  refine call_zip_2 p1.isList p2.isList fun g hz hTI hTO g1 g2 sz k => wpAny_pyIter_zip hz ?_
  have I2 : Inv X pins σ H { s with heap := g } := I.kept (t' := s.toks) k
  refine ⟨s.heap.objs.size + 4, [s.heap.objs.size + 4, s.heap.objs.size + 2, s.heap.objs.size + 3, s.heap.objs.size, s.heap.objs.size + 1], _, _, H, rfl, I2, turn_zip (PySem.W.ktu_apart s.heap.objs.size a b p1.lt p2.lt), ⟨hz, hTI, ⟨_, _, hTO⟩, g1, g2⟩, fun d hd => ?_, q⟩
  have le : @LE.le Nat _ s.heap.objs.size d := by
    have e' : d = s.heap.objs.size + 4 ∨ d = s.heap.objs.size + 2 ∨ d = s.heap.objs.size + 3 ∨ d = s.heap.objs.size ∨ d = s.heap.objs.size + 1 := by simpa using hd
    rcases e' with z | z | z | z | z <;> (rw [z]; omega)
  exact I.fpOk le (I.hok.fresh le)
/-- zip(*e), e a pair of lists -/
theorem pi_zipS {X : Cx} {e : Expr} {te : TE} {p sp pos tpos : Pos} {elts : List Expr} {kk : Nat} (hg : Gl X "zip") (hm : X.mg "zip" = none) (he : PE X e te) (hst : starEach [.Starred e sp] X.env = [(true, eval e X.env)] := by rfl) :
    PI X (.Tuple elts kk tpos) (.Call (.Name "zip" p) [.Starred e sp] [] pos) (fun σ H R => te σ H fun v H1 => ∃ (t a b : Addr) (xs ys : List V), v = .ref t ∧ (SqT X.K H1 t [.ref a, .ref b] ∨ SqL X.K H1 t [.ref a, .ref b]) ∧ SqL X.K H1 a xs ∧ SqL X.K H1 b ys ∧ R (Itz X.K a b) H1) := by
  refine ⟨fun pins s σ H R I h => ?_⟩
  refine Call_ (ld_blt I hg hm PyProof.Rows.boot_zip (type_star (thn (he.run pins s σ H _ I h) fun u s1 ⟨v, H1, I1, r1, q1⟩ => ?_) hst))
  obtain ⟨t, a, b, xs, ys, rfl, ht, qa, qb, q⟩ := q1
  cases r1
  refine StX.star_any I1 ht fun us s3 I3 rv => ?_
  cases rv with | cons r rr =>
  cases rr with | cons r' rr =>
  cases rr
  cases r
  cases r'
  exact zip2_run I3 qa qb q
def zip2D (xs ys : List D) : List D := List.zipWith (fun x y => D.tup [x, y]) xs ys
theorem zip2D_len {xs ys : List D} (h : ys.length = xs.length) : (zip2D xs ys).length = xs.length := by
  unfold zip2D
  rw [List.length_zipWith]
  omega
theorem zip2D_get {xs ys : List D} {i : Nat} {x y : D} (h1 : xs[i]? = some x) (h2 : ys[i]? = some y) : (zip2D xs ys)[i]? = some (.tup [x, y]) := by
  unfold zip2D
  rw [List.getElem?_zipWith, h1, h2]
theorem zip2_ok {K : PySem.W.Frag} {Hf : Hp} {a b : Addr} {xs ys : List D} {vs ws : List V} (q1 : Hf a = some (.lst vs)) (q2 : Hf b = some (.lst ws)) (r1 : RepL K Hf vs xs) (r2 : RepL K Hf ws ys) (hl : ys.length = xs.length) : JOk K Hf (Itz K a b) (zip2D xs ys) := by
  have w1 : ∀ H', Same Hf H' → SqL K H' a vs := fun H' s => .inl (.inl (s _ _ q1))
  have w2 : ∀ H', Same Hf H' → SqL K H' b ws := fun H' s => .inl (.inl (s _ _ q2))
  refine ⟨fun i H' s hi => ?_, fun H' s => ⟨_, _, w1 _ s, w2 _ s, .inl ?_⟩, fun i H2 v H3 s hi y => ?_⟩
  · rw [zip2D_len hl] at hi
    obtain ⟨d1, e1⟩ := getE hi
    obtain ⟨d2, e2⟩ := getE (show i < ys.length by omega)
    obtain ⟨v1, f1, _⟩ := r1.get e1
    obtain ⟨v2, f2, _⟩ := r2.get e2
    exact ⟨_, _, v1, v2, w1 _ s, w2 _ s, f1, f2⟩
  · rw [zip2D_len hl, r1.length]
    exact Nat.le_refl _
  · rw [zip2D_len hl] at hi
    obtain ⟨d1, e1⟩ := getE hi
    obtain ⟨d2, e2⟩ := getE (show i < ys.length by omega)
    obtain ⟨v1, f1, g1⟩ := r1.get e1
    obtain ⟨v2, f2, g2⟩ := r2.get e2
    obtain ⟨T, y1, y2, z1, z2, z3, z4, z5⟩ := y
    have t1 := z4 _ (w1 _ s)
    have t2 := z5 _ (w2 _ s)
    rw [f1] at t1
    rw [f2] at t2
    cases t1
    cases t2
    refine ⟨_, zip2D_get e1 e2, .inr ⟨T, _, z1, z2, z3, fun Hf' s2 e => ?_⟩⟩
    rw [z1]
    exact .tup (.inl (.inl e)) (.cons (g1.mono s2) (.cons (g2.mono s2) .nil))
section
variable {X : Cx} {a b e : Expr} {elts : List Expr} {t : TAd} {te : TEd} {p p2 sp pos tpos : Pos} {kk : Nat}
def iZip2D (t : TAd) : TId := fun E Q => t E fun xs E1 => match xs with
  | [.lst xs, .lst ys] => ys.length = xs.length ∧ Q (zip2D xs ys) E1
  | _ => False
theorem i_zip2 (hm : X.mg "zip" = none) (ha : PAd X [a, b] t) (hg : Gl X "zip" := by rfl) (hs : starEach [a, b] X.env = (false, eval a X.env) :: starEach [b] X.env := by rfl) (hpl : (backTo p2 (starEach [b] X.env)).any (·.1) = false := by rfl) :
    PId X (.Tuple elts kk tpos) (.Call (.Name "zip" p) [a, b] [] p2) (iZip2D t) :=
  pi_imp (pi_zip hg hm ha hs hpl) fun σ H R ⟨en, Hf, F, E, Qd, S, h, k⟩ => ⟨en, Hf, F, E, _, S, h, fun v1 H1 Hf1 F1 E1 x s1 S1 r1 h1 => by
    split at h1
    · rename_i xs ys
      obtain ⟨l1, h1⟩ := h1
      cases r1 with | cons a1 rest =>
      cases rest with | cons a2 rest =>
      cases rest
      cases a1 with | lst q1 r1 =>
      cases a2 with | lst q2 r2 =>
      exact ⟨_, _, _, _, rfl, .inl (.inl (S1.sf _ _ q1)), .inl (.inl (S1.sf _ _ q2)), k _ _ _ _ _ _ s1 S1 (zip2_ok q1 q2 r1 r2 l1) h1⟩
    · exact h1.elim⟩
def iZipSD (te : TEd) : TId := fun E Q => te E fun x E1 => match x with
  | .tup [.lst xs, .lst ys] => ys.length = xs.length ∧ Q (zip2D xs ys) E1
  | _ => False
theorem i_zipS (hm : X.mg "zip" = none) (he : PEd X e te) (hg : Gl X "zip" := by rfl) (hst : starEach [.Starred e sp] X.env = [(true, eval e X.env)] := by rfl) :
    PId X (.Tuple elts kk tpos) (.Call (.Name "zip" p) [.Starred e sp] [] p2) (iZipSD te) :=
  pi_imp (pi_zipS hg hm he hst) fun σ H R ⟨en, Hf, F, E, Qd, S, h, k⟩ => ⟨en, Hf, F, E, _, S, h, fun v1 H1 Hf1 F1 E1 x s1 S1 r1 h1 => by
    split at h1
    · rename_i xs ys
      obtain ⟨l1, h1⟩ := h1
      cases r1 with | tup ht rest =>
      cases rest with | cons a1 rest =>
      cases rest with | cons a2 rest =>
      cases rest
      cases a1 with | lst q1 r1 =>
      cases a2 with | lst q2 r2 =>
      exact ⟨_, _, _, _, _, rfl, .inl (Same.sqT S1.sf ht), .inl (.inl (S1.sf _ _ q1)), .inl (.inl (S1.sf _ _ q2)), k _ _ _ _ _ _ s1 S1 (zip2_ok q1 q2 r1 r2 l1) h1⟩
    · exact h1.elim⟩
end
/-! ### x.extend(e), x our own list -/
section
variable {X : Cx} {e : Expr} {te : TEd} {pos : Pos}
def tExtD (i : Nat) (te : TEd) : TSd := fun D E => ownL E i ∧ te E fun x E1 => match E1[i]?, x with
  | some (.ow b (.ol xs)), .lst ys => xs.length + ys.length ≤ sizeLine ∧ D.nx (E1.set i (.ow b (.ol (xs ++ ys))))
  | _, _ => False
theorem s_ext (i : Nat) {x : Str} {p apos cpos : Pos} (he : PEd X e te) (hN : X.N[i]? = some x := by rfl) (hv : Vis X.env.scope x := by first | exact Or.inl rfl | exact Or.inr (Or.inl rfl) | exact Or.inr (Or.inr rfl))
    (hd : (x == ("__debug__" : Str)) = false := by decide) (hcd : (x == ("__classdict__" : Str)) = false := by decide)
    (hbase : attributeBase (.Name x p) "extend" X.env (eval (.Name x p) X.env) = eval (.Name x p) X.env := by rfl)
    (hfew : ((backTo cpos (starEach [e] X.env)).all (fun x => !x.1) && (backToKw cpos (keywordEach [] X.env)).all (fun x => x.1.isSome)
      && decide ([e].length + ([] : List Keyword).length + (if ([] : List Keyword).isEmpty then 0 else 1) < 30)) = true := by rfl)
    (hline : (apos.endLine == cpos.line) = true := by rfl) (hs : starEach [e] X.env = [(false, eval e X.env)] := by rfl)
    (hsw : swapsWith (.Call (.Attribute (.Name x p) "extend" apos) [e] [] cpos) none pos.line X.env = pure false := by rfl) :
    PSd X (.Expr (.Call (.Attribute (.Name x p) "extend" apos) [e] [] cpos) pos) (tExtD i te) :=
  ps_imp (ps_expr (pe_bm PySem.F.plainAttrs_list PySem.F.slot_list_extend PySem.F.type_list_extend mt_extend (pv i hN hv hd hcd) (pa_cons he pa_nil (by rw [hs]; rfl)) hbase hfew hline (by rw [hs]; rfl)) hsw) fun D σ H ⟨en, Hf, F, E, Dd, S, h, k1, k2, k3, k4, k5⟩ => by
    obtain ⟨b0, xs0, e0⟩ := h.1.ex
    obtain ⟨p0, vs0, hv0, hp0, _⟩ := S.chL e0
    refine ⟨_, hv0, .inl ⟨rfl, _, .inl (.inl hp0)⟩, en, Hf, F, E, _, S, h.2, fun v1 H1 Hf1 F1 E1 y s1 S1 r1 h1 => ?_⟩
    split at h1
    · rename_i b1 xs1 ys1 e1
      obtain ⟨p1, vs1, hv1, hp1, l1, ch⟩ := S1.chL e1
      rw [hv0] at hv1
      cases hv1
      cases r1 with | lst q1 r1 =>
      exact ⟨_, _, _, _, rfl, rfl, hp1, S1.sf _ _ q1, by rw [l1.length, r1.length]; exact h1.1, k1 _ _ _ _ _ s1 (ch _ _ (l1.append r1)) h1.2⟩
    · exact h1.elim
end
/-! ### x[i] as a target among others, x our own list -/
section
variable {X : Cx}
def gSubD (j : Nat) (ti : TEd) : TGd := fun y E Q => ownL E j ∧ ti E fun z E2 => match E2[j]?, z with
  | some (.ow b (.ol xs)), .int n => ∃ m, ixN xs.length n = some m ∧ Q (E2.set j (.ow b (.ol (xs.set m y))))
  | _, _ => False
theorem g_sub (j : Nat) {x : Str} {i : Expr} {ti : TEd} {p tpos : Pos} (hi : PEd X i ti) (hN : X.N[j]? = some x := by rfl) (hv : Vis X.env.scope x := by first | exact Or.inl rfl | exact Or.inr (Or.inl rfl) | exact Or.inr (Or.inr rfl))
    (hd : (x == ("__debug__" : Str)) = false := by decide) (hcd : (x == ("__classdict__" : Str)) = false := by decide)
    (ha : ∀ v, assign (.Subscript (.Name x p) i tpos) X.env v = (do
      let ov ← holding [v] (eval (.Name x p) X.env)
      let iv ← holding [v, ov] (eval i X.env)
      standAt tpos
      holding [v, ov, iv] (setItem ov iv v)
      release [v, ov, iv] []) := by intro _; rfl) : PGd X (.Subscript (.Name x p) i tpos) (gSubD j ti) :=
  pg_imp (pg_sub (pv j hN hv hd hcd) hi set_list ha) fun v σ H Q ⟨en, Hf, F, E, d, Qd, S, r, h, k⟩ => by
    obtain ⟨b0, xs0, e0⟩ := h.1.ex
    obtain ⟨p0, vs0, hv0, hp0, _⟩ := S.chL e0
    refine ⟨_, hv0, en, Hf, F, E, _, S, h.2, fun v2 H2 Hf2 F2 E2 z s2 S2 r2 h2 => ?_⟩
    split at h2
    · rename_i b1 xs1 n e1
      cases r2
      obtain ⟨m, hm, q⟩ := h2
      obtain ⟨p1, vs1, hv1, hp1, l1, ch⟩ := S2.chL e1
      rw [hv0] at hv1
      cases hv1
      exact ⟨_, _, _, m, rfl, rfl, hp1, by rw [l1.length]; exact hm, k _ _ _ _ _ s2 (ch _ _ (RepL.set (r.mono s2) m l1)) q⟩
    · exact h2.elim
end
end L3
namespace Z2
open PySem PyProof.Rows
/-! ### zip of two, each a list or a tuple. The objects of one zip stand in a row from n on: two iterators, the tuple of them, the tuple kept, the zip. -/
abbrev Duo (h : Heap) (T : Addr) (a b : Value) : Prop := h.get? T = some { cls := .type "tuple", data := .seq #[a, b] }
def Bx (t : Bool) (h : Heap) (a : Nat) (xs : Array Value) : Prop := if t then h.IsTuple a xs else h.IsList a xs
def It (t : Bool) (h : Heap) (i a k : Nat) : Prop := if t then h.IsTupleIter i a k else h.IsListIter i a k
theorem Bx.at {t : Bool} {h g : Heap} {a : Nat} {xs : Array Value} (x : Bx t h a xs) (e : ∀ o, h.get? a = some o → g.get? a = some o) : Bx t g a xs := by
  cases t
  · exact Heap.IsList.at (show h.IsList a xs from x) e
  · obtain ⟨o, ho, r⟩ := (show h.IsTuple a xs from x)
    exact ⟨o, e _ ho, r⟩
theorem Bx.lt {t : Bool} {h : Heap} {a : Nat} {xs : Array Value} (x : Bx t h a xs) : a < h.objs.size := by
  cases t
  · obtain ⟨o, ho, r⟩ := (show h.IsList a xs from x)
    exact Heap.lt_size ho
  · obtain ⟨o, ho, r⟩ := (show h.IsTuple a xs from x)
    exact Heap.lt_size ho
theorem It.at {t : Bool} {h g : Heap} {i a k : Nat} (x : It t h i a k) (e : ∀ o, h.get? i = some o → g.get? i = some o) : It t g i a k := by
  cases t
  · exact Heap.IsListIter.at (show h.IsListIter i a k from x) e
  · exact Heap.IsTupleIter.at (show h.IsTupleIter i a k from x) e
theorem It.ob {t : Bool} {h : Heap} {i a k : Nat} (x : It t h i a k) : ∃ o vs, h.get? i = some o ∧ o.data = .fields vs := by
  cases t
  · obtain ⟨o, e, _, d⟩ := (show h.IsListIter i a k from x)
    exact ⟨o, _, e, d⟩
  · obtain ⟨o, e, _, d⟩ := (show h.IsTupleIter i a k from x)
    exact ⟨o, _, e, d⟩
structure Zs (t1 t2 : Bool) (h : Heap) (n l1 l2 : Nat) (f : Value) (j1 j2 : Nat) (a b : Value) : Prop where
  z : IsZip h (n + 4) (n + 2) (n + 3) f
  ti : Duo h (n + 2) (.ref n) (.ref (n + 1))
  to : Duo h (n + 3) a b
  i1 : It t1 h n l1 j1
  i2 : It t2 h (n + 1) l2 j2
section
variable {prog : Program} {w : World} {A : Around} {E : Value → Shared → Prop} {s : Shared} {n l1 l2 : Nat} {a b : Value} {xs ys : Array Value} {t1 t2 : Bool}
theorem nx_item {t : Bool} {it l i : Nat} {items : Array Value} {x : Value} {Q : Value → Shared → Prop} (hit : It t s.heap it l i) (hl : Bx t s.heap l items) (hx : items[i]? = some x)
    (hQ : ∀ g, It t g it l (i + 1) → Heap.SameBut it s.heap g → Q x { s with heap := g }) : wpAny (model prog w) A (Builtin.SmallTypes.nextOf (.ref it)) Q E s := by
  cases t
  · exact wpAny_nextOf_list_item hit hl hx hQ
  · exact wpAny_nextOf_tuple_item hit hl hx hQ
theorem nx_end {t : Bool} {it l i : Nat} {items : Array Value} {Q : Value → Shared → Prop} (hh : A.handled = none) (hit : It t s.heap it l i) (hl : Bx t s.heap l items) (hx : items[i]? = none)
    (hE : ∀ g e, Heap.ExtBut it s.heap g → (∃ o, g.get? e = some o ∧ o.cls = .type "StopIteration") → E (.ref e) { s with heap := g }) : wpAny (model prog w) A (Builtin.SmallTypes.nextOf (.ref it)) Q E s := by
  cases t
  · exact wpAny_nextOf_list_end hh hit hl hx hE
  · exact wpAny_nextOf_tuple_end hh hit hl hx hE
theorem upd_duo {T : Addr} {a b x : Value} {k : Nat} {Q : Unit → Shared → Prop} (hT : Duo s.heap T a b)
    (h : ∀ g, g.get? T = some { cls := .type "tuple", data := .seq ((#[a, b] : Array Value).setIfInBounds k x) } → Heap.SameBut T s.heap g → Q () { s with heap := g }) : wpAny (model prog w) A (updateSeq T (·.setIfInBounds k x)) Q E s := by
  refine wpAny_updateSeq hT rfl (h _ (by rw [Heap.get?_update_self _ hT rfl]; simp [Obj.mapSeq]) (Heap.SameBut.update ..))
theorem item {j : Nat} {x y : Value} {Q : Value → Shared → Prop} (Z : Zs t1 t2 s.heap n l1 l2 .none j j a b) (h1 : l1 < n) (h2 : l2 < n) (L1 : Bx t1 s.heap l1 xs) (L2 : Bx t2 s.heap l2 ys)
    (hx : xs[j]? = some x) (hy : ys[j]? = some y)
    (hQ : ∀ g, Zs t1 t2 g n l1 l2 (rawInt s.heap.objs.size) (j + 1) (j + 1) x y → Duo g s.heap.objs.size x y → g.objs.size = s.heap.objs.size + 1 → (∀ (d : Nat) (o : Obj), (d < n ∨ n + 5 ≤ d) → s.heap.get? d = some o → g.get? d = some o) → Q (.ref s.heap.objs.size) { s with heap := g }) :
    wpAny (model prog w) A (Builtin.«zip.__next__» ⟨[.ref (n + 4)], []⟩) (fun fin t => ∃ v, fin = .done (.ret v) ∧ Q v t) E s := by
  obtain ⟨hz, ti, to, i1, i2⟩ := Z
  show wpAny _ _ (field (.ref (n + 4)) 2 >>= _) _ _ _; refine wpAny_bind (wpAny_field hz rfl (x := .bool false) rfl ?_)
  show wpAny _ _ (field (.ref (n + 4)) 3 >>= _) _ _ _; refine wpAny_bind (wpAny_field hz rfl (x := .ref (n + 2)) rfl (wpAny_bind (wpAny_seqItems ti rfl ?_)))
  show wpAny _ _ (Builtin.SmallTypes.ownedTupleIsFree (.ref (n + 4)) >>= _) _ _ _
  refine wpAny_bind ?_; unfold Builtin.SmallTypes.ownedTupleIsFree
  refine wpAny_bind (wpAny_field hz rfl (x := .none) rfl (wpAny_pure ?_)); simp only [if_true]
  refine wpAny_bind (wpAny_rule (wpAny_bind (wpAny_field hz rfl (x := .ref (n + 3)) rfl (wpAny_bind (wpAny_setField_rec hz (by simp) fun g1 z1 s1 => ?_)))))
  replace z1 : IsZip g1 (n + 4) (n + 2) (n + 3) .ellipsis := z1
  refine wpAny_bind ?_; simp only [List.zipIdx_cons, List.zipIdx_nil, List.forIn_cons, List.forIn_nil]
  have k1 : ∀ (d : Nat) (o : Obj), d ≠ n + 4 → s.heap.get? d = some o → g1.get? d = some o := fun d o ne e => s1.extBut d o ne e
  -- the first
  refine wpAny_bind (wpAny_bind (wpAny_onRaise ?_)); show wpAny _ _ (Builtin.SmallTypes.nextOf (.ref n) >>= _) _ _ _
  refine wpAny_bind (nx_item (i1.at fun o e => k1 _ o (by first | omega | (show @Ne Nat _ _; omega)) e) (L1.at fun o e => k1 _ o (by first | omega | (show @Ne Nat _ _; omega)) e) hx fun g2 i1b s2 => wpAny_pure ?_)
  have k2 : ∀ (d : Nat) (o : Obj), d ≠ n + 4 → d ≠ n → s.heap.get? d = some o → g2.get? d = some o := fun d o n5 n0 e => s2.extBut d o n0 (k1 d o n5 e)
  have to2 : Duo g2 (n + 3) a b := k2 _ _ (by first | omega | (show @Ne Nat _ _; omega)) (by first | omega | (show @Ne Nat _ _; omega)) to
  refine wpAny_bind (wpAny_seqItems to2 rfl (wpAny_bind (upd_duo to2 fun g3 to3 s3 => ?_)))
  replace to3 : Duo g3 (n + 3) x b := to3
  refine wpAny_bind (wpAny_letGo (wpAny_pure ?_))
  have k3 : ∀ (d : Nat) (o : Obj), d ≠ n + 4 → d ≠ n → d ≠ n + 3 → s.heap.get? d = some o → g3.get? d = some o := fun d o n5 n0 n4 e => s3.extBut d o n4 (k2 d o n5 n0 e)
  -- the second
  refine wpAny_bind (wpAny_bind (wpAny_onRaise ?_)); show wpAny _ _ (Builtin.SmallTypes.nextOf (.ref (n + 1)) >>= _) _ _ _
  refine wpAny_bind (nx_item (i2.at fun o e => k3 _ o (by first | omega | (show @Ne Nat _ _; omega)) (by first | omega | (show @Ne Nat _ _; omega)) (by first | omega | (show @Ne Nat _ _; omega)) e) (L2.at fun o e => k3 _ o (by first | omega | (show @Ne Nat _ _; omega)) (by first | omega | (show @Ne Nat _ _; omega)) (by first | omega | (show @Ne Nat _ _; omega)) e) hy fun g4 i2b s4 => wpAny_pure ?_)
  have to4 : Duo g4 (n + 3) x b := s4.extBut _ _ (by first | omega | (show @Ne Nat _ _; omega)) to3
  refine wpAny_bind (wpAny_seqItems to4 rfl (wpAny_bind (upd_duo to4 fun g5 to5 s5 => ?_)))
  replace to5 : Duo g5 (n + 3) x y := to5
  refine wpAny_bind (wpAny_letGo (wpAny_pure (wpAny_pure ?_)))
  have k5 : ∀ (d : Nat) (o : Obj), d ≠ n + 4 → d ≠ n → d ≠ n + 3 → d ≠ n + 1 → s.heap.get? d = some o → g5.get? d = some o := fun d o n5 n0 n4 n1 e => s5.extBut d o n4 (s4.extBut d o n1 (k3 d o n5 n0 n4 e))
  have z5 : IsZip g5 (n + 4) (n + 2) (n + 3) .ellipsis := s5.extBut _ _ (by first | omega | (show @Ne Nat _ _; omega)) (s4.extBut _ _ (by first | omega | (show @Ne Nat _ _; omega)) (s3.extBut _ _ (by first | omega | (show @Ne Nat _ _; omega)) (s2.extBut _ _ (by first | omega | (show @Ne Nat _ _; omega)) z1)))
  have i15 : It t1 g5 n l1 (j + 1) := i1b.at fun o e => s5.extBut _ _ (by first | omega | (show @Ne Nat _ _; omega)) (s4.extBut _ _ (by first | omega | (show @Ne Nat _ _; omega)) (s3.extBut _ _ (by first | omega | (show @Ne Nat _ _; omega)) e))
  have i25 : It t2 g5 (n + 1) l2 (j + 1) := i2b.at fun o e => s5.extBut _ _ (by first | omega | (show @Ne Nat _ _; omega)) e
  have ti5 : Duo g5 (n + 2) (.ref n) (.ref (n + 1)) := k5 _ _ (by first | omega | (show @Ne Nat _ _; omega)) (by first | omega | (show @Ne Nat _ _; omega)) (by first | omega | (show @Ne Nat _ _; omega)) (by first | omega | (show @Ne Nat _ _; omega)) ti
  have sz : g5.objs.size = s.heap.objs.size := by rw [s5.1, s4.1, s3.1, s2.1, s1.1]
  have zlt : n + 4 < g5.objs.size := Heap.lt_size z5
  -- the tuple is handed out
  refine wpAny_bind (wpAny_seqItems to5 rfl (wpAny_bind (wpAny_newTuple ?_)))
  show wpAny _ _ (Builtin.SmallTypes.ownedTupleHandOut (.ref (n + 4)) (.ref g5.objs.size) >>= _) _ _ _
  refine wpAny_bind ?_; unfold Builtin.SmallTypes.ownedTupleHandOut
  have z8 : IsZip (g5.push { cls := .type "tuple", data := .seq #[x, y] }) (n + 4) (n + 2) (n + 3) .ellipsis := Heap.get?_push_of_some _ z5
  refine wpAny_bind (wpAny_setField_rec z8 (by simp) fun g9 z9 s9 => ?_)
  replace z9 : IsZip g9 (n + 4) (n + 2) (n + 3) (rawInt g5.objs.size) := z9
  refine wpAny_setField_rec z9 (by simp) fun gA zA sA => ?_
  replace zA : IsZip gA (n + 4) (n + 2) (n + 3) (rawInt g5.objs.size) := zA
  have up : ∀ (d : Nat) (o : Obj), d ≠ n + 4 → g5.get? d = some o → gA.get? d = some o := fun d o n5 e => sA.extBut _ _ n5 (s9.extBut _ _ n5 (Heap.get?_push_of_some _ e))
  have tA : Duo gA g5.objs.size x y := sA.extBut _ _ (Nat.ne_of_gt zlt) (s9.extBut _ _ (Nat.ne_of_gt zlt) (Heap.get?_push_size _ rfl))
  have szA : gA.objs.size = g5.objs.size + 1 := by rw [sA.1, s9.1, Heap.size_push]
  rw [sz] at zA tA szA
  refine wpAny_pure ⟨_, rfl, ?_⟩
  show Q (.ref g5.objs.size) _
  rw [sz]
  exact hQ gA ⟨zA, up _ _ (by first | omega | (show @Ne Nat _ _; omega)) ti5, up _ _ (by first | omega | (show @Ne Nat _ _; omega)) to5, i15.at fun o e => up _ o (by first | omega | (show @Ne Nat _ _; omega)) e, i25.at fun o e => up _ o (by first | omega | (show @Ne Nat _ _; omega)) e⟩ tA szA fun d o hd e => up d o (by first | omega | (show @Ne Nat _ _; omega)) (k5 d o (by first | omega | (show @Ne Nat _ _; omega)) (by first | omega | (show @Ne Nat _ _; omega)) (by first | omega | (show @Ne Nat _ _; omega)) (by first | omega | (show @Ne Nat _ _; omega)) e)
/-- the first is at its end -/
theorem stop {j : Nat} {Q : Fin → Shared → Prop} (quiet : A.handled = none) (Z : Zs t1 t2 s.heap n l1 l2 .none j j a b) (h1 : l1 < n) (L1 : Bx t1 s.heap l1 xs) (hx : xs[j]? = none)
    (hE : ∀ g e, (∀ (d : Nat) (o : Obj), (d < n ∨ n + 5 ≤ d) → s.heap.get? d = some o → g.get? d = some o) → (∃ o, g.get? e = some o ∧ o.cls = .type "StopIteration") → E (.ref e) { s with heap := g }) :
    wpAny (model prog w) A (Builtin.«zip.__next__» ⟨[.ref (n + 4)], []⟩) Q E s := by
  obtain ⟨hz, ti, to, i1, i2⟩ := Z
  show wpAny _ _ (field (.ref (n + 4)) 2 >>= _) _ _ _; refine wpAny_bind (wpAny_field hz rfl (x := .bool false) rfl ?_)
  show wpAny _ _ (field (.ref (n + 4)) 3 >>= _) _ _ _; refine wpAny_bind (wpAny_field hz rfl (x := .ref (n + 2)) rfl (wpAny_bind (wpAny_seqItems ti rfl ?_)))
  show wpAny _ _ (Builtin.SmallTypes.ownedTupleIsFree (.ref (n + 4)) >>= _) _ _ _
  refine wpAny_bind ?_; unfold Builtin.SmallTypes.ownedTupleIsFree
  refine wpAny_bind (wpAny_field hz rfl (x := .none) rfl (wpAny_pure ?_)); simp only [if_true]
  refine wpAny_bind (wpAny_rule (wpAny_bind (wpAny_field hz rfl (x := .ref (n + 3)) rfl (wpAny_bind (wpAny_setField_rec hz (by simp) fun g1 z1 s1 => ?_)))))
  replace z1 : IsZip g1 (n + 4) (n + 2) (n + 3) .ellipsis := z1
  refine wpAny_bind ?_; simp only [List.zipIdx_cons, List.zipIdx_nil, List.forIn_cons, List.forIn_nil]
  have k1 : ∀ (d : Nat) (o : Obj), d ≠ n + 4 → s.heap.get? d = some o → g1.get? d = some o := fun d o ne e => s1.extBut d o ne e
  refine wpAny_bind (wpAny_bind (wpAny_onRaise ?_)); show wpAny _ _ (Builtin.SmallTypes.nextOf (.ref n) >>= _) _ _ _
  refine wpAny_bind (nx_end quiet (i1.at fun o e => k1 _ o (by first | omega | (show @Ne Nat _ _; omega)) e) (L1.at fun o e => k1 _ o (by first | omega | (show @Ne Nat _ _; omega)) e) hx fun g2 e s2 he => ?_)
  obtain ⟨oe, e1, e2⟩ := he
  have z2 : IsZip g2 (n + 4) (n + 2) (n + 3) .ellipsis := s2 _ _ (by first | omega | (show @Ne Nat _ _; omega)) z1
  have ne : e ≠ n + 4 := fun z => by
    rw [z, z2] at e1
    cases e1
    simp at e2
  exact wpAny_setField_rec z2 (by simp) fun g3 _ s3 => hE g3 e (fun d o hd x => s3.extBut _ _ (by first | omega | (show @Ne Nat _ _; omega)) (s2 _ _ (by first | omega | (show @Ne Nat _ _; omega)) (k1 d o (by first | omega | (show @Ne Nat _ _; omega)) x))) ⟨oe, s3.extBut _ _ ne e1, e2⟩
theorem next_item {j : Nat} {x y : Value} {Q : Option Value → Shared → Prop} (Z : Zs t1 t2 s.heap n l1 l2 .none j j a b) (h1 : l1 < n) (h2 : l2 < n) (L1 : Bx t1 s.heap l1 xs) (L2 : Bx t2 s.heap l2 ys)
    (hx : xs[j]? = some x) (hy : ys[j]? = some y)
    (hQ : ∀ g, Zs t1 t2 g n l1 l2 (rawInt s.heap.objs.size) (j + 1) (j + 1) x y → Duo g s.heap.objs.size x y → g.objs.size = s.heap.objs.size + 1 → (∀ (d : Nat) (o : Obj), (d < n ∨ n + 5 ≤ d) → s.heap.get? d = some o → g.get? d = some o) → Q (some (.ref s.heap.objs.size)) { s with heap := g }) :
    wpAny (model prog w) A (pyNext (.ref (n + 4))) Q E s := by
  have ty : s.TypeIs (.ref (n + 4)) "zip" := ⟨_, Z.z, rfl⟩
  unfold pyNext
  exact wpAny_bind (wpAny_attempt (wpAny_callSpecial?_slot (name := Str.ofString "__next__") ty F.slot_zip_next (wpAny_call_entry F.slot_zip_next ty F.entry_zip_next (item Z h1 h2 L1 L2 hx hy fun g q1 q2 q3 q4 => wpAny_pure (hQ g q1 q2 q3 q4)) (F.args_zip_next_1 _))))
theorem next_stop {j : Nat} {Q : Option Value → Shared → Prop} (quiet : A.handled = none) (Z : Zs t1 t2 s.heap n l1 l2 .none j j a b) (h1 : l1 < n) (L1 : Bx t1 s.heap l1 xs) (hx : xs[j]? = none)
    (hQ : ∀ g, (∀ (d : Nat) (o : Obj), (d < n ∨ n + 5 ≤ d) → s.heap.get? d = some o → g.get? d = some o) → Q none { s with heap := g }) : wpAny (model prog w) A (pyNext (.ref (n + 4))) Q E s := by
  have ty : s.TypeIs (.ref (n + 4)) "zip" := ⟨_, Z.z, rfl⟩
  unfold pyNext
  refine wpAny_bind (wpAny_attempt (wpAny_callSpecial?_slot (name := Str.ofString "__next__") ty F.slot_zip_next (wpAny_call_entry F.slot_zip_next ty F.entry_zip_next (stop quiet Z h1 L1 hx fun g e hk he => ?_) (F.args_zip_next_1 _))))
  obtain ⟨o, ho, hc⟩ := he
  exact wpAny_bind (wpAny_isInstance (T := "StopIteration") (b := true) ⟨o, ho, hc⟩ isSubtype_stop (wpAny_pure (hQ _ hk)))
/-! zip(l1, l2) -/
theorem ty2 (a b : Value) : checkTypeCall "zip" ⟨[a, b], []⟩ = pure () := by kernel_rfl
theorem new2 (a b : Value) : checkBuiltinCall "zip.__new__" ⟨[.type "zip", a, b], []⟩ = pure () := by kernel_rfl
theorem init3 (a b d : Value) : argsOk "object.__init__" ⟨[a, b, d], []⟩ := by
  unfold argsOk; rw [signature?_of (id := "object.__init__") (n := ['_', '_', 't', 'i', 'n', 'i', '_', '_']) (o := ['t', 'c', 'e', 'j', 'b', 'o']) (by kernel_rfl) F.owner_object]; kernel_rfl
abbrev itO (t : Bool) (l : Addr) : Obj := { cls := .type (if t then "tuple_iterator" else "list_iterator"), data := .fields #[.ref l, .int 0 0] }
abbrev H1 (t1 : Bool) (h : Heap) (l1 : Addr) : Heap := h.push (itO t1 l1)
abbrev H2 (t1 t2 : Bool) (h : Heap) (l1 l2 : Addr) : Heap := (H1 t1 h l1).push (itO t2 l2)
abbrev H4 (t1 t2 : Bool) (h : Heap) (l1 l2 : Addr) : Heap := (H2 t1 t2 h l1 l2).push { cls := .type "tuple", data := .seq #[.ref h.objs.size, .ref (H1 t1 h l1).objs.size] }
abbrev H5 (t1 t2 : Bool) (h : Heap) (l1 l2 : Addr) : Heap := (H4 t1 t2 h l1 l2).push { cls := .type "tuple", data := .seq #[.none, .none] }
abbrev H6 (t1 t2 : Bool) (h : Heap) (l1 l2 : Addr) : Heap := (H5 t1 t2 h l1 l2).push { cls := .type "zip", data := .fields #[.none, .bool false, .bool false, .ref (H2 t1 t2 h l1 l2).objs.size, .ref (H4 t1 t2 h l1 l2).objs.size] }
theorem pyIter_bx {t : Bool} {l : Addr} {xs : Array Value} {Q : Value → Shared → Prop} (L : Bx t s.heap l xs) (h : Q (.ref s.heap.objs.size) { s with heap := s.heap.push (itO t l) }) : wpAny (model prog w) A (pyIter (.ref l)) Q E s := by
  cases t
  · exact wpAny_pyIter_list L h
  · exact wpAny_pyIter_tuple L h
theorem Bx.push {t : Bool} {h : Heap} {a : Nat} {xs : Array Value} (x : Bx t h a xs) (o : Obj) : Bx t (h.push o) a xs := x.at fun _ e => Heap.get?_push_of_some _ e
theorem meets2 (t1 t2 : Bool) (l1 l2 : Addr) (xs ys : Array Value) :
    Meets (Builtin.«zip.__new__» ⟨[.type "zip", .ref l1, .ref l2], []⟩) (fun _ R s => Bx t1 s.heap l1 xs ∧ Bx t2 s.heap l2 ys ∧ R (.ok (.ret (.ref (H5 t1 t2 s.heap l1 l2).objs.size))) { s with heap := H6 t1 t2 s.heap l1 l2 }) :=
  .of_wp fun prog w A R s h => by
    obtain ⟨hp, g, d, tk, os⟩ := s; obtain ⟨p1, p2, h⟩ := h
    have hsub := sub_zip
    have q1 : Bx t1 (Shared.heap ⟨hp, g, d, tk, os⟩) l1 xs := p1
    have q2 : Bx t2 (Shared.heap ⟨H1 t1 hp l1, g, d, tk, os⟩) l2 ys := Bx.push p2 _
    wp_walk using pyIter_bx q1, pyIter_bx q2
    exact ⟨_, rfl, h⟩
theorem call2 {Q : Value → Shared → Prop} (L1 : Bx t1 s.heap l1 xs) (L2 : Bx t2 s.heap l2 ys)
    (h : ∀ g, Zs t1 t2 g s.heap.objs.size l1 l2 .none 0 0 .none .none → g.objs.size = s.heap.objs.size + 5 → (∀ (d : Nat) (o : Obj), s.heap.get? d = some o → g.get? d = some o) → Q (.ref (s.heap.objs.size + 4)) { s with heap := g }) :
    wpAny (model prog w) A (call (.type "zip") [.ref l1, .ref l2]) Q E s := by
  refine callType_new F.called_zip (by decide) (ty2 _ _) (new2 _ _) (fun obj => init3 obj _ _) F.entry_zip_new (meets2 t1 t2 l1 l2 xs ys) ⟨L1, L2, ?_⟩
  have z1 : (H1 t1 s.heap l1).objs.size = s.heap.objs.size + 1 := Heap.size_push ..
  have z2 : (H2 t1 t2 s.heap l1 l2).objs.size = s.heap.objs.size + 2 := by rw [Heap.size_push, z1]
  have z4 : (H4 t1 t2 s.heap l1 l2).objs.size = s.heap.objs.size + 3 := by rw [Heap.size_push, z2]
  have z5 : (H5 t1 t2 s.heap l1 l2).objs.size = s.heap.objs.size + 4 := by rw [Heap.size_push, z4]
  have z6 : (H6 t1 t2 s.heap l1 l2).objs.size = s.heap.objs.size + 5 := by rw [Heap.size_push, z5]
  have p : ∀ {g : Heap} {d : Nat} {o : Obj} (u : Obj), g.get? d = some o → (g.push u).get? d = some o := fun u e => Heap.get?_push_of_some u e
  have g1 : (H6 t1 t2 s.heap l1 l2).get? s.heap.objs.size = some _ := p _ (p _ (p _ (p _ (Heap.get?_push_size _ rfl))))
  have g2 : (H6 t1 t2 s.heap l1 l2).get? (H1 t1 s.heap l1).objs.size = some _ := p _ (p _ (p _ (Heap.get?_push_size _ rfl)))
  have g4 : (H6 t1 t2 s.heap l1 l2).get? (H2 t1 t2 s.heap l1 l2).objs.size = some _ := p _ (p _ (Heap.get?_push_size _ rfl))
  have g5 : (H6 t1 t2 s.heap l1 l2).get? (H4 t1 t2 s.heap l1 l2).objs.size = some _ := p _ (Heap.get?_push_size _ rfl)
  have g6 : (H6 t1 t2 s.heap l1 l2).get? (H5 t1 t2 s.heap l1 l2).objs.size = some _ := Heap.get?_push_size _ rfl
  show _ ∧ _
  rw [z2, z4, z5] at g6
  rw [z4] at g5
  rw [z1, z2] at g4
  rw [z1] at g2
  rw [z5]
  have j1 : It t1 (H6 t1 t2 s.heap l1 l2) s.heap.objs.size l1 0 := by
    cases t1
    · exact ⟨_, g1, rfl, rfl⟩
    · exact ⟨_, g1, rfl, rfl⟩
  have j2 : It t2 (H6 t1 t2 s.heap l1 l2) (s.heap.objs.size + 1) l2 0 := by
    cases t2
    · exact ⟨_, g2, rfl, rfl⟩
    · exact ⟨_, g2, rfl, rfl⟩
  exact ⟨⟨_, g6, rfl⟩, h _ ⟨g6, g4, g5, j1, j2⟩ z6 fun d o x => p _ (p _ (p _ (p _ (p _ x))))⟩
end
end Z2
namespace L3
open PySem PySem.Spec PyProof.Rows L2 Z2
variable [Tbs]
def SqX (t : Bool) (K : PySem.W.Frag) (H : Hp) (a : Addr) (xs : List V) : Prop := if t then SqT K H a xs else SqL K H a xs
theorem SqX.inj {X : Cx} {pins : List (Addr × Obj)} {s : Shared} {σ : L2.St} {H : Hp} {t : Bool} {a : Addr} {xs ys : List V} (I : Inv X pins σ H s) (p : SqX t X.K H a xs) (q : SqX t X.K H a ys) : xs = ys := by
  cases t
  · exact I.list_inj p q
  · exact I.tuple_inj p q
theorem SqX.get {X : Cx} {pins : List (Addr × Obj)} {s : Shared} {σ : L2.St} {H : Hp} {t : Bool} {a : Addr} {xs : List V} (I : Inv X pins σ H s) (p : SqX t X.K H a xs) : ∃ its : List Value, Vals xs its ∧ Bx t s.heap a its.toArray := by
  cases t
  · obtain ⟨its, rv, p1, _⟩ := I.list p
    exact ⟨its, rv, p1.isList⟩
  · obtain ⟨its, rv, p1, _⟩ := I.tuple p
    exact ⟨its, rv, p1⟩
/-- two as they stand at each turn, the items in new tuples -/
def Itx2 (t1 t2 : Bool) (K : PySem.W.Frag) (a b : Addr) : L2.It :=
  ⟨fun i H => ∃ (xs ys : List V) (x y : V), SqX t1 K H a xs ∧ SqX t2 K H b ys ∧ xs[i]? = some x ∧ ys[i]? = some y,
    fun i H v H' => ∃ T x y, v = .ref T ∧ H T = none ∧ H' = upd H T (.tup [x, y]) ∧ (∀ xs, SqX t1 K H a xs → xs[i]? = some x) ∧ (∀ ys, SqX t2 K H b ys → ys[i]? = some y),
    fun i H => ∃ xs : List V, SqX t1 K H a xs ∧ xs.length ≤ i⟩
def Zx (t1 t2 : Bool) (n a b : Nat) (i : Nat) (h : Heap) : Prop := ∃ x y, Z2.Zs t1 t2 h n a b .none i i x y
theorem turn_zipX {P : Program} {w : World} {K : PySem.W.Frag} {elts : List Expr} {kk : Nat} {tpos : Pos} {t1 t2 : Bool} {n a b : Nat} (la : a < n) (lb : b < n) :
    Turn P w K (.Tuple elts kk tpos) (Itx2 t1 t2 K a b) [n + 4, n, n + 1, n + 2, n + 3] (n + 4) (Zx t1 t2 n a b) where
  mem := by simp
  obj := fun i h ⟨x, y, Z⟩ d hd => by
    obtain ⟨hz, ti, to, i1, i2⟩ := Z
    obtain ⟨o1, f1, e1, d1⟩ := i1.ob
    obtain ⟨o2, f2, e2, d2⟩ := i2.ob
    have e' : d = n + 4 ∨ d = n ∨ d = n + 1 ∨ d = n + 2 ∨ d = n + 3 := by simpa using hd
    rcases e' with rfl | rfl | rfl | rfl | rfl
    · exact ⟨_, hz, fun v q => nomatch q⟩
    · exact ⟨o1, e1, fun v q => by rw [d1] at q; cases q⟩
    · exact ⟨o2, e2, fun v q => by rw [d2] at q; cases q⟩
    · exact ⟨_, ti, fun v q => nomatch q⟩
    · exact ⟨_, to, fun v q => nomatch q⟩
  keep := fun i h h' ⟨x, y, Z⟩ k => ⟨x, y, k (n + 4) (by simp) _ Z.z, k (n + 2) (by simp) _ Z.ti, k (n + 3) (by simp) _ Z.to, Z.i1.at fun o e => k n (by simp) o e, Z.i2.at fun o e => k (n + 1) (by simp) o e⟩
  item := by
    intro X hP hw hK hc i pins s σ H E I hf st hg
    subst hP hw hK
    obtain ⟨x0, y0, Z⟩ := st
    obtain ⟨xs, ys, x, y, qx, qy, ex, ey⟩ := hg
    obtain ⟨is1, rv1, p1⟩ := SqX.get I qx
    obtain ⟨is2, rv2, p2⟩ := SqX.get I qy
    obtain ⟨v1, hv1, r1⟩ := rv1.get ex
    obtain ⟨v2, hv2, r2⟩ := rv2.get ey
    have zl : n + 4 < s.heap.objs.size := Heap.lt_size Z.z
    refine Z2.next_item Z la lb p1 p2 (x := v1) (y := v2) (by simpa using hv1) (by simpa using hv2) fun g Zg tg szg kg => ?_
    refine ⟨_, rfl, wpAny_letOwnedTupleGo_zip (s := { s with heap := g }) Zg.z fun g2 z2 sb => ?_⟩
    have kb : ∀ (d : Nat) (o : Obj), d ≠ n + 4 → g.get? d = some o → g2.get? d = some o := fun d o ne e => (sb.2 d ne).trans e
    have tg2 : g2.get? s.heap.objs.size = some { cls := .type "tuple", data := .seq #[v1, v2] } := kb _ _ (Nat.ne_of_gt zl) tg
    have new : ObjOk X.prog X.w (upd H s.heap.objs.size (.tup [x, y])) g2 s.heap.objs.size (.tup [x, y]) :=
      ⟨by show 2 ≤ sizeLine; decide, [v1, v2], .cons r1 (.cons r2 .nil), ⟨_, tg2, rfl, _, rfl⟩⟩
    have I1 : Inv X pins σ (upd H s.heap.objs.size (.tup [x, y])) { s with heap := g2 } :=
      I.turnedNew (t' := s.toks) (ch := [n + 4, n, n + 1, n + 2, n + 3]) (fun d o hb q => by
        have nd : ¬ (d = n + 4 ∨ d = n ∨ d = n + 1 ∨ d = n + 2 ∨ d = n + 3) := by simpa using hb
        have d' : @Ne Nat d (n + 4) := fun z => nd (.inl z)
        exact kb d o d' (kg d o (by
          have n0 : @Ne Nat d n := fun z => nd (.inr (.inl z))
          have n1 : @Ne Nat d (n + 1) := fun z => nd (.inr (.inr (.inl z)))
          have n2 : @Ne Nat d (n + 2) := fun z => nd (.inr (.inr (.inr (.inl z))))
          have n3 : @Ne Nat d (n + 3) := fun z => nd (.inr (.inr (.inr (.inr z))))
          show @LT.lt Nat _ d n ∨ @LE.le Nat _ (n + 5) d
          omega) q)) hf (Nat.le_refl _) new
    refine ⟨.ref s.heap.objs.size, _, I1, rfl, ⟨_, x, y, rfl, I.hok.fresh (Nat.le_refl _), rfl, fun l hl => by rw [SqX.inj I hl qx]; exact ex, fun l hl => by rw [SqX.inj I hl qy]; exact ey⟩, ⟨v1, v2, z2, kb _ _ (by first | omega | (show @Ne Nat _ _; omega)) Zg.ti, kb _ _ (by first | omega | (show @Ne Nat _ _; omega)) Zg.to, Zg.i1.at fun o e => kb _ _ (by first | omega | (show @Ne Nat _ _; omega)) e, Zg.i2.at fun o e => kb _ _ (by first | omega | (show @Ne Nat _ _; omega)) e⟩, fun d hd => ?_⟩
    have lt : @LT.lt Nat _ d s.heap.objs.size := by
      have e' : d = n + 4 ∨ d = n ∨ d = n + 1 ∨ d = n + 2 ∨ d = n + 3 := by simpa using hd
      rcases e' with z | z | z | z | z <;> (rw [z]; omega)
    rw [upd_ne (Nat.ne_of_lt lt)]
    exact (hf d hd).1
  done := by
    intro X hP hw hK hc i pins s σ H E I hf st hg
    subst hP hw hK
    obtain ⟨x0, y0, Z⟩ := st
    obtain ⟨xs, qx, hend⟩ := hg
    obtain ⟨is1, rv1, p1⟩ := SqX.get I qx
    have len := rv1.length
    refine Z2.next_stop (I.ok.hd hc) Z la p1 (by simp; omega) fun g kg => ⟨rfl, I.turnedL (t' := s.toks) (ch := [n + 4, n, n + 1, n + 2, n + 3]) (fun d o hb q => ?_) hf⟩
    have nd : ¬ (d = n + 4 ∨ d = n ∨ d = n + 1 ∨ d = n + 2 ∨ d = n + 3) := by simpa using hb
    refine kg d o ?_ q
    have n4 : @Ne Nat d (n + 4) := fun z => nd (.inl z)
    have n0 : @Ne Nat d n := fun z => nd (.inr (.inl z))
    have n1 : @Ne Nat d (n + 1) := fun z => nd (.inr (.inr (.inl z)))
    have n2 : @Ne Nat d (n + 2) := fun z => nd (.inr (.inr (.inr (.inl z))))
    have n3 : @Ne Nat d (n + 3) := fun z => nd (.inr (.inr (.inr (.inr z))))
    show @LT.lt Nat _ d n ∨ @LE.le Nat _ (n + 5) d
    omega
  self := fun A i s Q E ⟨x, y, Z⟩ h => wpAny_pyIter_zip Z.z h
theorem zipX_run {X : Cx} {pins : List (Addr × Obj)} {s : Shared} {σ : L2.St} {H : Hp} {t1 t2 : Bool} {a b : Addr} {xs ys : List V} {elts : List Expr} {kk : Nat} {tpos : Pos} {R : L2.It → Hp → Prop} (I : Inv X pins σ H s) (qa : SqX t1 X.K H a xs) (qb : SqX t2 X.K H b ys) (q : R (Itx2 t1 t2 X.K a b) H) :
    wpAny (model X.prog X.w) X.A (call (.type "zip") [.ref a, .ref b]) (fun v s1 => wpAny (model X.prog X.w) X.A (pyIter v) (PIE X pins σ (.Tuple elts kk tpos) R) X.xe s1) X.xe s := by
  obtain ⟨is1, rv1, p1⟩ := SqX.get I qa
  obtain ⟨is2, rv2, p2⟩ := SqX.get I qb
  refine Z2.call2 p1 p2 fun g Z sz k => wpAny_pyIter_zip Z.z ?_
  have I2 : Inv X pins σ H { s with heap := g } := I.kept (t' := s.toks) k
  refine ⟨s.heap.objs.size + 4, _, _, _, H, rfl, I2, turn_zipX p1.lt p2.lt, ⟨_, _, Z⟩, fun d hd => ?_, q⟩
  have le : @LE.le Nat _ s.heap.objs.size d := by
    have e' : d = s.heap.objs.size + 4 ∨ d = s.heap.objs.size ∨ d = s.heap.objs.size + 1 ∨ d = s.heap.objs.size + 2 ∨ d = s.heap.objs.size + 3 := by simpa using hd
    rcases e' with z | z | z | z | z <;> (rw [z]; omega)
  exact I.fpOk le (I.hok.fresh le)
theorem pi_zipX {X : Cx} {e e2 : Expr} {ta : TA} {p pos tpos : Pos} {elts : List Expr} {kk : Nat} (hg : Gl X "zip") (hm : X.mg "zip" = none) (ha : PA X [e, e2] ta)
    (hs : starEach [e, e2] X.env = (false, eval e X.env) :: starEach [e2] X.env := by rfl) (hpl : (backTo pos (starEach [e2] X.env)).any (·.1) = false := by rfl) :
    PI X (.Tuple elts kk tpos) (.Call (.Name "zip" p) [e, e2] [] pos) (fun σ H R => ta σ H fun vs H1 => ∃ t1 t2 a b xs ys, vs = [.ref a, .ref b] ∧ SqX t1 X.K H1 a xs ∧ SqX t2 X.K H1 b ys ∧ R (Itx2 t1 t2 X.K a b) H1) := by
  refine ⟨fun pins s σ H R I h => ?_⟩
  refine Call_ (ld_blt I hg hm PyProof.Rows.boot_zip (PyProof.Rows.callWith_type1 (thn (ha.run pos pins s σ H _ I h) fun us s1 ⟨vs, H1, I1, r1, q1⟩ => ?_) hs hpl))
  obtain ⟨t1, t2, a, b, xs, ys, rfl, qa, qb, q⟩ := q1
  cases r1 with | cons r rr =>
  cases rr with | cons r' rr =>
  cases rr
  cases r
  cases r'
  exact zipX_run I1 qa qb q
theorem zipX_ok {K : PySem.W.Frag} {Hf : Hp} {t1 t2 : Bool} {a b : Addr} {xs ys : List D} {vs ws : List V} (w1 : ∀ H', Same Hf H' → SqX t1 K H' a vs) (w2 : ∀ H', Same Hf H' → SqX t2 K H' b ws) (r1 : RepL K Hf vs xs) (r2 : RepL K Hf ws ys) (hl : ys.length = xs.length) : JOk K Hf (Itx2 t1 t2 K a b) (zip2D xs ys) := by
  refine ⟨fun i H' s hi => ?_, fun H' s => ⟨_, w1 _ s, ?_⟩, fun i H2 v H3 s hi y => ?_⟩
  · rw [zip2D_len hl] at hi
    obtain ⟨d1, e1⟩ := getE hi
    obtain ⟨d2, e2⟩ := getE (show i < ys.length by omega)
    obtain ⟨v1, f1, _⟩ := r1.get e1
    obtain ⟨v2, f2, _⟩ := r2.get e2
    exact ⟨_, _, v1, v2, w1 _ s, w2 _ s, f1, f2⟩
  · rw [zip2D_len hl, r1.length]
    exact Nat.le_refl _
  · rw [zip2D_len hl] at hi
    obtain ⟨d1, e1⟩ := getE hi
    obtain ⟨d2, e2⟩ := getE (show i < ys.length by omega)
    obtain ⟨v1, f1, g1⟩ := r1.get e1
    obtain ⟨v2, f2, g2⟩ := r2.get e2
    obtain ⟨T, y1, y2, z1, z2, z3, z4, z5⟩ := y
    have t1 := z4 _ (w1 _ s)
    have t2 := z5 _ (w2 _ s)
    rw [f1] at t1
    rw [f2] at t2
    cases t1
    cases t2
    refine ⟨_, zip2D_get e1 e2, .inr ⟨T, _, z1, z2, z3, fun Hf' s2 e => ?_⟩⟩
    rw [z1]
    exact .tup (.inl (.inl e)) (.cons (g1.mono s2) (.cons (g2.mono s2) .nil))
section
variable {X : Cx} {a b e : Expr} {elts : List Expr} {t : TAd} {te : TEd} {p p2 sp pos tpos : Pos} {kk : Nat}
def iZipXD (t : TAd) : TId := fun E Q => t E fun xs E1 => match xs with
  | [.lst xs, .lst ys] => ys.length = xs.length ∧ Q (zip2D xs ys) E1
  | [.lst xs, .tup ys] => ys.length = xs.length ∧ Q (zip2D xs ys) E1
  | [.tup xs, .lst ys] => ys.length = xs.length ∧ Q (zip2D xs ys) E1
  | [.tup xs, .tup ys] => ys.length = xs.length ∧ Q (zip2D xs ys) E1
  | _ => False
theorem i_zipX (hm : X.mg "zip" = none) (ha : PAd X [a, b] t) (hg : Gl X "zip" := by rfl) (hs : starEach [a, b] X.env = (false, eval a X.env) :: starEach [b] X.env := by rfl) (hpl : (backTo p2 (starEach [b] X.env)).any (·.1) = false := by rfl) :
    PId X (.Tuple elts kk tpos) (.Call (.Name "zip" p) [a, b] [] p2) (iZipXD t) :=
  pi_imp (pi_zipX hg hm ha hs hpl) fun σ H R ⟨en, Hf, F, E, Qd, S, h, k⟩ => ⟨en, Hf, F, E, _, S, h, fun v1 H1 Hf1 F1 E1 x s1 S1 r1 h1 => by
    have ll : ∀ {u : Addr} {us : List V}, Hf1 u = some (.lst us) → ∀ H', Same Hf1 H' → SqX false X.K H' u us := fun q H' s => .inl (.inl (s _ _ q))
    have tt : ∀ {u : Addr} {us : List V}, SqT X.K Hf1 u us → ∀ H', Same Hf1 H' → SqX true X.K H' u us := fun q H' s => Same.sqT s q
    split at h1
    · rename_i xs ys
      obtain ⟨l1, h1⟩ := h1
      cases r1 with | cons a1 rest =>
      cases rest with | cons a2 rest =>
      cases rest
      cases a1 with | lst q1 r1 =>
      cases a2 with | lst q2 r2 =>
      exact ⟨false, false, _, _, _, _, rfl, ll q1 _ S1.sf, ll q2 _ S1.sf, k _ _ _ _ _ _ s1 S1 (zipX_ok (ll q1) (ll q2) r1 r2 l1) h1⟩
    · rename_i xs ys
      obtain ⟨l1, h1⟩ := h1
      cases r1 with | cons a1 rest =>
      cases rest with | cons a2 rest =>
      cases rest
      cases a1 with | lst q1 r1 =>
      cases a2 with | tup q2 r2 =>
      exact ⟨false, true, _, _, _, _, rfl, ll q1 _ S1.sf, tt q2 _ S1.sf, k _ _ _ _ _ _ s1 S1 (zipX_ok (ll q1) (tt q2) r1 r2 l1) h1⟩
    · rename_i xs ys
      obtain ⟨l1, h1⟩ := h1
      cases r1 with | cons a1 rest =>
      cases rest with | cons a2 rest =>
      cases rest
      cases a1 with | tup q1 r1 =>
      cases a2 with | lst q2 r2 =>
      exact ⟨true, false, _, _, _, _, rfl, tt q1 _ S1.sf, ll q2 _ S1.sf, k _ _ _ _ _ _ s1 S1 (zipX_ok (tt q1) (ll q2) r1 r2 l1) h1⟩
    · rename_i xs ys
      obtain ⟨l1, h1⟩ := h1
      cases r1 with | cons a1 rest =>
      cases rest with | cons a2 rest =>
      cases rest
      cases a1 with | tup q1 r1 =>
      cases a2 with | tup q2 r2 =>
      exact ⟨true, true, _, _, _, _, rfl, tt q1 _ S1.sf, tt q2 _ S1.sf, k _ _ _ _ _ _ s1 S1 (zipX_ok (tt q1) (tt q2) r1 r2 l1) h1⟩
    · exact h1.elim⟩
end
end L3
namespace TupNum
open PySem PyProof.Rows
open Sem (wp)
/-! ### max, min, sum of a tuple of ints -/
section
variable {prog : Program} {w : World} {A : Around} {E : Value → Shared → Prop} {s : Shared} {l : Addr} {xs : Array (Int × Tok)}
theorem iter_intTup {Q : Value → Shared → Prop} (hl : s.heap.IsTuple l (intItems xs))
    (h : ∀ s₂ : Shared, s₂ = { s with heap := s.heap.push { cls := .type "tuple_iterator", data := .fields #[.ref l, .int 0 0] } } →
      (s₂.heap.IsTupleIter s.heap.objs.size l 0 ∧ s₂.heap.IsTuple l (intItems xs)) → (∀ b ∈ [s.heap.objs.size, l], b < s₂.heap.objs.size) → l ≠ s.heap.objs.size → Q (.ref s.heap.objs.size) s₂) :
    wpAny (model prog w) A (pyIter (.ref l)) Q E s := by
  have hlt : l < s.heap.objs.size := by obtain ⟨_, e, _⟩ := hl; exact Heap.lt_size e
  obtain ⟨o, ho, r⟩ := id hl
  refine wpAny_pyIter_tuple hl (h _ rfl ⟨⟨_, Heap.get?_push_size _ rfl, rfl, rfl⟩, ⟨o, Heap.get?_push_of_some _ ho, r⟩⟩ (fun b hb => ?_) (Nat.ne_of_lt hlt))
  show b < (s.heap.push _).objs.size
  rw [Heap.size_push]
  rcases List.mem_cons.mp hb with rfl | hb
  · exact Nat.lt_succ_self _
  · rcases List.mem_cons.mp hb with rfl | hb
    · exact Nat.lt_succ_of_lt hlt
    · cases hb
theorem old_keptT {h' : Heap} (hk : ∀ b o, b ∉ [s.heap.objs.size] → (s.heap.push { cls := .type "tuple_iterator", data := .fields #[.ref l, .int 0 0] }).get? b = some o → h'.get? b = some o) :
    ∀ b o, s.heap.get? b = some o → h'.get? b = some o := fun b o e => by
  refine hk b o (fun hm => ?_) (Heap.get?_push_of_some _ e)
  rcases List.mem_cons.mp hm with e1 | hm
  · exact absurd (e1 ▸ Heap.lt_size e) (Nat.lt_irrefl _)
  · cases hm
theorem max_intTup {Q : Value → Shared → Prop} (hh : A.handled = none) (hl : s.heap.IsTuple l (intItems xs)) (hne : 0 < xs.size)
    (h : ∀ v h' tk, (intItems xs)[argBest (fun i j => decide (numAt xs i > numAt xs j)) (xs.size - 1)]? = some v → (∀ b o, s.heap.get? b = some o → h'.get? b = some o) → Q v { s with heap := h', toks := tk }) :
    wpAny (model prog w) A (call (.builtin "max") [.ref l]) Q E s := by
  refine call_max_walk (iter_intTup hl fun s₂ e st hfp hlI => ?_)
  subst e
  refine ⟨_, _, _, _, _, _, _, rfl, Walks.tuple (A := A.in1) hh _ l hlI (intItems xs), st, hfp, by simpa [intItems] using hne, CmpOf.ints_gt (numAt xs) (fun _ _ => intItems_at), fun v h' tk hP hk => ?_⟩
  exact h v h' tk (by simpa [intItems] using hP) (old_keptT hk)
theorem min_intTup {Q : Value → Shared → Prop} (hh : A.handled = none) (hl : s.heap.IsTuple l (intItems xs)) (hne : 0 < xs.size)
    (h : ∀ v h' tk, (intItems xs)[argBest (fun i j => decide (numAt xs i < numAt xs j)) (xs.size - 1)]? = some v → (∀ b o, s.heap.get? b = some o → h'.get? b = some o) → Q v { s with heap := h', toks := tk }) :
    wpAny (model prog w) A (call (.builtin "min") [.ref l]) Q E s := by
  refine call_min_walk (iter_intTup hl fun s₂ e st hfp hlI => ?_)
  subst e
  refine ⟨_, _, _, _, _, _, _, rfl, Walks.tuple (A := A.in1) hh _ l hlI (intItems xs), st, hfp, by simpa [intItems] using hne, CmpOf.ints_lt (numAt xs) (fun _ _ => intItems_at), fun v h' tk hP hk => ?_⟩
  exact h v h' tk (by simpa [intItems] using hP) (old_keptT hk)
theorem sum_intTup {Q : Value → Shared → Prop} (hh : A.handled = none) (hl : s.heap.IsTuple l (intItems xs))
    (h : ∀ h' tk t', (∀ b o, s.heap.get? b = some o → h'.get? b = some o) → Q (.int (preSum (numAt xs) xs.size) t') { s with heap := h', toks := tk }) :
    wpAny (model prog w) A (call (.builtin "sum") [.ref l]) Q E s := by
  refine call_sum_walkG (iter_intTup hl fun s₂ e st hfp hlI => ?_)
  subst e
  refine ⟨_, _, _, _, _, _, numAt xs, rfl, Walks.tuple (A := A.in1) hh _ l hlI (intItems xs), st, hfp, (fun _ _ => intItems_at), fun h' tk t' hk => ?_⟩
  have := h h' tk t' (old_keptT hk)
  simpa [intItems] using this
end
end TupNum
namespace L3
open PySem PySem.Spec PyProof.Rows L2
variable [Tbs]
section
variable {prog : Program} {w : World} {A : Around} {E : Value → Shared → Prop} {s : Shared} {l : Addr} {its : List Value} {ns : List Int} {Q : Value → Shared → Prop}
theorem sum_rawT (hh : A.handled = none) (hl : s.heap.IsTuple l its.toArray) (hi : IntsAre its ns)
    (h : ∀ h' tk t', (∀ b o, s.heap.get? b = some o → h'.get? b = some o) → Q (.int ns.sum t') { s with heap := h', toks := tk }) : wpAny (model prog w) A (call (.builtin "sum") [.ref l]) Q E s := by
  obtain ⟨xs, e⟩ := hi.allInts.items
  have hn : numsOf (intItems xs).toList = ns := by rw [← e]; exact hi.numsOf
  rw [nums_intItems] at hn
  rw [e] at hl
  refine TupNum.sum_intTup hh hl fun h' tk t' hk => ?_
  have := h h' tk t' hk
  rw [preSum_eq, List.take_of_length_le (by simp), hn]; exact this
theorem max_rawT (hh : A.handled = none) (hl : s.heap.IsTuple l its.toArray) (hi : IntsAre its ns) (hne : 0 < ns.length)
    (h : ∀ h' tk M t', (∀ b o, s.heap.get? b = some o → h'.get? b = some o) → M ∈ ns → (∀ a, a ∈ ns → a ≤ M) → Q (.int M t') { s with heap := h', toks := tk }) : wpAny (model prog w) A (call (.builtin "max") [.ref l]) Q E s := by
  obtain ⟨xs, e⟩ := hi.allInts.items
  have hn : numsOf (intItems xs).toList = ns := by rw [← e]; exact hi.numsOf
  rw [nums_intItems] at hn
  subst hn
  rw [e] at hl
  have hsz : 0 < xs.size := by simpa using hne
  refine TupNum.max_intTup hh hl hsz fun v h' tk hv hk => ?_
  obtain ⟨t, rfl⟩ := intItems_at hv
  obtain ⟨h1, h2⟩ := argBest_gt (numAt xs) (xs.size - 1)
  refine h h' tk _ t hk ?_ fun a ha => ?_
  · rw [numAt_eq]; exact PySem.getD_mem (by rw [List.length_map, Array.length_toList]; omega)
  · obtain ⟨j, hj, rfl⟩ := mem_getD ha
    rw [List.length_map, Array.length_toList] at hj
    rw [← numAt_eq]; exact h2 j (by omega)
theorem min_rawT (hh : A.handled = none) (hl : s.heap.IsTuple l its.toArray) (hi : IntsAre its ns) (hne : 0 < ns.length)
    (h : ∀ h' tk M t', (∀ b o, s.heap.get? b = some o → h'.get? b = some o) → M ∈ ns → (∀ a, a ∈ ns → M ≤ a) → Q (.int M t') { s with heap := h', toks := tk }) : wpAny (model prog w) A (call (.builtin "min") [.ref l]) Q E s := by
  obtain ⟨xs, e⟩ := hi.allInts.items
  have hn : numsOf (intItems xs).toList = ns := by rw [← e]; exact hi.numsOf
  rw [nums_intItems] at hn
  subst hn
  rw [e] at hl
  have hsz : 0 < xs.size := by simpa using hne
  refine TupNum.min_intTup hh hl hsz fun v h' tk hv hk => ?_
  obtain ⟨t, rfl⟩ := intItems_at hv
  obtain ⟨h1, h2⟩ := argBest_lt (numAt xs) (xs.size - 1)
  refine h h' tk _ t hk ?_ fun a ha => ?_
  · rw [numAt_eq]; exact PySem.getD_mem (by rw [List.length_map, Array.length_toList]; omega)
  · obtain ⟨j, hj, rfl⟩ := mem_getD ha
    rw [List.length_map, Array.length_toList] at hj
    rw [← numAt_eq]; exact h2 j (by omega)
end
section
variable {X : Cx}
def rSumX (K : PySem.W.Frag) : List V → Hp → VK → Prop := fun vs H Q => ∃ (a : Addr) (ns : List Int), vs = [V.ref a] ∧ (SqL K H a (ns.map V.int) ∨ SqT K H a (ns.map V.int)) ∧ Q (.int ns.sum) H
def rMaxX (K : PySem.W.Frag) : List V → Hp → VK → Prop := fun vs H Q => ∃ (a : Addr) (ns : List Int), vs = [V.ref a] ∧ (SqL K H a (ns.map V.int) ∨ SqT K H a (ns.map V.int)) ∧ 0 < ns.length ∧ ∀ m, m ∈ ns → (∀ y, y ∈ ns → y ≤ m) → Q (.int m) H
def rMinX (K : PySem.W.Frag) : List V → Hp → VK → Prop := fun vs H Q => ∃ (a : Addr) (ns : List Int), vs = [V.ref a] ∧ (SqL K H a (ns.map V.int) ∨ SqT K H a (ns.map V.int)) ∧ 0 < ns.length ∧ ∀ m, m ∈ ns → (∀ y, y ∈ ns → m ≤ y) → Q (.int m) H
theorem cr_sumX (hc : X.calm = true) : CallR X (.builtin "sum") (rSumX X.K) := by
  intro pins s σ H vs us Q I r h
  obtain ⟨a, ns, rfl, hs | hs, q⟩ := h
  · obtain ⟨its, rv, hl, _⟩ := I.list hs
    rw [Vals.ref1 r]
    exact sum_raw (I.ok.hd hc) hl.isList rv.ints fun h' tk t' hk => ⟨.int _, H, I.kept hk, ⟨_, rfl⟩, q⟩
  · obtain ⟨its, rv, hl, _⟩ := I.tuple hs
    rw [Vals.ref1 r]
    exact sum_rawT (I.ok.hd hc) hl rv.ints fun h' tk t' hk => ⟨.int _, H, I.kept hk, ⟨_, rfl⟩, q⟩
theorem cr_maxX (hc : X.calm = true) : CallR X (.builtin "max") (rMaxX X.K) := by
  intro pins s σ H vs us Q I r h
  obtain ⟨a, ns, rfl, hs | hs, hne, q⟩ := h
  · obtain ⟨its, rv, hl, _⟩ := I.list hs
    rw [Vals.ref1 r]
    exact max_raw (I.ok.hd hc) hl.isList rv.ints hne fun h' tk m t' hk h1 h2 => ⟨.int _, H, I.kept hk, ⟨_, rfl⟩, q m h1 h2⟩
  · obtain ⟨its, rv, hl, _⟩ := I.tuple hs
    rw [Vals.ref1 r]
    exact max_rawT (I.ok.hd hc) hl rv.ints hne fun h' tk m t' hk h1 h2 => ⟨.int _, H, I.kept hk, ⟨_, rfl⟩, q m h1 h2⟩
theorem cr_minX (hc : X.calm = true) : CallR X (.builtin "min") (rMinX X.K) := by
  intro pins s σ H vs us Q I r h
  obtain ⟨a, ns, rfl, hs | hs, hne, q⟩ := h
  · obtain ⟨its, rv, hl, _⟩ := I.list hs
    rw [Vals.ref1 r]
    exact min_raw (I.ok.hd hc) hl.isList rv.ints hne fun h' tk m t' hk h1 h2 => ⟨.int _, H, I.kept hk, ⟨_, rfl⟩, q m h1 h2⟩
  · obtain ⟨its, rv, hl, _⟩ := I.tuple hs
    rw [Vals.ref1 r]
    exact min_rawT (I.ok.hd hc) hl rv.ints hne fun h' tk m t' hk h1 h2 => ⟨.int _, H, I.kept hk, ⟨_, rfl⟩, q m h1 h2⟩
variable {a : Expr} {t : TAd} {p pos : Pos}
def rbMaxX : RB := fun ds E Q => match ds with
  | [.lst xs] => ∃ ns : List Int, xs = ns.map D.int ∧ 0 < ns.length ∧ ∀ m, m ∈ ns → (∀ y, y ∈ ns → y ≤ m) → Q (.int m) E
  | [.tup xs] => ∃ ns : List Int, xs = ns.map D.int ∧ 0 < ns.length ∧ ∀ m, m ∈ ns → (∀ y, y ∈ ns → y ≤ m) → Q (.int m) E
  | _ => False
def rbMinX : RB := fun ds E Q => match ds with
  | [.lst xs] => ∃ ns : List Int, xs = ns.map D.int ∧ 0 < ns.length ∧ ∀ m, m ∈ ns → (∀ y, y ∈ ns → m ≤ y) → Q (.int m) E
  | [.tup xs] => ∃ ns : List Int, xs = ns.map D.int ∧ 0 < ns.length ∧ ∀ m, m ∈ ns → (∀ y, y ∈ ns → m ≤ y) → Q (.int m) E
  | _ => False
def rbSumX : RB := fun ds E Q => match ds with
  | [.lst xs] => ∃ ns : List Int, xs = ns.map D.int ∧ Q (.int ns.sum) E
  | [.tup xs] => ∃ ns : List Int, xs = ns.map D.int ∧ Q (.int ns.sum) E
  | _ => False
theorem d_maxX (hc : X.calm = true) (hm : X.mg "max" = none) (ha : PAd X [a] t) (hg : Gl X "max" := by rfl) (he : starEach [a] X.env = (false, eval a X.env) :: starEach [] X.env := by rfl) : PEd X (.Call (.Name "max" p) [a] [] pos) (tCBd rbMaxX t) :=
  d_callB (cr_maxX hc) (fun en Hf H F E σ vs ds Q Qd S rx q k => by
    unfold rbMaxX at q
    split at q
    · obtain ⟨v, rfl, r⟩ := rx.one
      cases r with | lst h l =>
      obtain ⟨ns, rfl, h0, q⟩ := q
      rw [l.ofInts] at h
      exact ⟨_, ns, rfl, .inl (.inl (.inl (S.sf _ _ h))), h0, fun m hm hle => k _ _ _ _ _ _ (Same.refl _) S (.int _) (q m hm hle)⟩
    · obtain ⟨v, rfl, r⟩ := rx.one
      cases r with | tup h l =>
      obtain ⟨ns, rfl, h0, q⟩ := q
      rw [l.ofInts] at h
      exact ⟨_, ns, rfl, .inr (Same.sqT S.sf h), h0, fun m hm hle => k _ _ _ _ _ _ (Same.refl _) S (.int _) (q m hm hle)⟩
    · exact q.elim) hm PyProof.Rows.boot_max ha hg (by decide) (by decide) he
theorem d_minX (hc : X.calm = true) (hm : X.mg "min" = none) (ha : PAd X [a] t) (hg : Gl X "min" := by rfl) (he : starEach [a] X.env = (false, eval a X.env) :: starEach [] X.env := by rfl) : PEd X (.Call (.Name "min" p) [a] [] pos) (tCBd rbMinX t) :=
  d_callB (cr_minX hc) (fun en Hf H F E σ vs ds Q Qd S rx q k => by
    unfold rbMinX at q
    split at q
    · obtain ⟨v, rfl, r⟩ := rx.one
      cases r with | lst h l =>
      obtain ⟨ns, rfl, h0, q⟩ := q
      rw [l.ofInts] at h
      exact ⟨_, ns, rfl, .inl (.inl (.inl (S.sf _ _ h))), h0, fun m hm hle => k _ _ _ _ _ _ (Same.refl _) S (.int _) (q m hm hle)⟩
    · obtain ⟨v, rfl, r⟩ := rx.one
      cases r with | tup h l =>
      obtain ⟨ns, rfl, h0, q⟩ := q
      rw [l.ofInts] at h
      exact ⟨_, ns, rfl, .inr (Same.sqT S.sf h), h0, fun m hm hle => k _ _ _ _ _ _ (Same.refl _) S (.int _) (q m hm hle)⟩
    · exact q.elim) hm PyProof.Rows.boot_min ha hg (by decide) (by decide) he
theorem d_sumX (hc : X.calm = true) (hm : X.mg "sum" = none) (ha : PAd X [a] t) (hg : Gl X "sum" := by rfl) (he : starEach [a] X.env = (false, eval a X.env) :: starEach [] X.env := by rfl) : PEd X (.Call (.Name "sum" p) [a] [] pos) (tCBd rbSumX t) :=
  d_callB (cr_sumX hc) (fun en Hf H F E σ vs ds Q Qd S rx q k => by
    unfold rbSumX at q
    split at q
    · obtain ⟨v, rfl, r⟩ := rx.one
      cases r with | lst h l =>
      obtain ⟨ns, rfl, q⟩ := q
      rw [l.ofInts] at h
      exact ⟨_, ns, rfl, .inl (.inl (.inl (S.sf _ _ h))), k _ _ _ _ _ _ (Same.refl _) S (.int _) q⟩
    · obtain ⟨v, rfl, r⟩ := rx.one
      cases r with | tup h l =>
      obtain ⟨ns, rfl, q⟩ := q
      rw [l.ofInts] at h
      exact ⟨_, ns, rfl, .inr (Same.sqT S.sf h), k _ _ _ _ _ _ (Same.refl _) S (.int _) q⟩
    · exact q.elim) hm PyProof.Rows.boot_sum ha hg (by decide) (by decide) he
end
end L3
namespace L3
open PySem L2 PySem.Spec PyProof.Rows PySem.W
variable [Tbs]
theorem units65 {k : Nat} {A : Around} (r : Room k A) : A.units + 65 < cLine := by have := r.un; omega
/-! ### xs.index(y) of a list of data -/
theorem pyL_get : ∀ (es : List D) (j : Nat), (D.pyL es)[j]? = (es[j]?).map D.py
  | [], _ => rfl
  | e :: es, 0 => rfl
  | e :: es, j + 1 => pyL_get es j
section
variable {X : Cx} {a b : Expr} {ta tb : TEd}
def tIndexD (ta tb : TEd) : TEd := fun E Q => ta E fun x E1 => match x with
  | .lst es => tb E1 fun e E2 => ((D.lst es).ok ∧ e.ok) ∧ ∃ (j : Nat) (z : D), es[j]? = some z ∧ D.eqv z e = true ∧ (∀ (m : Nat) (z' : D), m < j → es[m]? = some z' → D.eqv z' e = false) ∧ Q (.int (j : Nat)) E2
  | _ => False
theorem d_index {apos cpos : Pos} (hu : X.A.units + 65 < cLine) (ha : PEd X a ta) (hb : PEd X b tb) (hbase : attributeBase a "index" X.env (eval a X.env) = eval a X.env := by rfl)
    (hfew : ((backTo cpos (starEach [b] X.env)).all (fun x => !x.1) && (backToKw cpos (keywordEach [] X.env)).all (fun x => x.1.isSome) && decide ([b].length + ([] : List Keyword).length + (if ([] : List Keyword).isEmpty then 0 else 1) < 30)) = true := by rfl)
    (hline : (apos.endLine == cpos.line) = true := by rfl) (hs : starEach [b] X.env = (false, eval b X.env) :: starEach [] X.env := by rfl) : PEd X (.Call (.Attribute a "index" apos) [b] [] cpos) (tIndexD ta tb) :=
  pe_imp (pe_bm PySem.F.plainAttrs_list PySem.F.slot_list_index PySem.F.type_list_index (mt_indexD hu) ha (pa_cons hb pa_nil hs) hbase hfew hline hs) fun σ H Q ⟨en, Hf, F, E, Qd, S, h, k⟩ => ⟨en, Hf, F, E, _, S, h, fun v H1 Hf1 F1 E1 x s1 S1 r1 h1 => by
    cases x with
    | lst es =>
      cases r1 with | lst h0 l0 =>
      exact ⟨.inl ⟨rfl, _, .inl (.inl (S1.sf _ _ h0))⟩, en, Hf1, F1, E1, _, S1, h1, fun ws H2 Hf2 F2 E2 ds s2 S2 r2 h2 => by
        obtain ⟨⟨ok1, ok2⟩, j, z, hj, hz, hno, q⟩ := h2
        refine ⟨_, _, _, D.pyL es, j, z.py, rfl, rfl, ((Rep.lst (s2 _ _ h0) (l0.mono s2)).mono S2.sf).dp ok1.1, (r2.mono S2.sf).dp ok2.1, ok1.2, ok2.2, by rw [pyL_get, hj]; rfl, hz, fun m z' hm hz' => ?_, k _ _ _ _ _ _ (s1.trans s2) S2 (.int _) q⟩
        rw [pyL_get] at hz'
        cases e : es[m]? with
        | none =>
          rw [e] at hz'
          cases hz'
        | some y =>
          rw [e] at hz'
          rw [← Option.some.inj hz']
          exact hno m y hm e⟩
    | _ => exact h1.elim⟩
end
/-! ### len(set(xs)), xs a list of ints -/
def rLenS (w : World) : List V → Hp → VK → Prop := fun vs H Q => ∃ (a : Addr) (S : Int → Bool) (n : Nat), vs = [V.ref a] ∧ H a = some (SetO w a S n) ∧ ∀ ns : List Int, ns.Nodup → (∀ k : Int, k ∈ ns ↔ S k = true) → Q (.int (ns.length : Nat)) H
theorem cr_lenS {X : Cx} : CallR X (.builtin "len") (rLenS X.w) := by
  intro pins s σ H vs us Q I r h
  obtain ⟨a, S, n, rfl, ha, q⟩ := h
  obtain ⟨o, es, ep, tb, ho, hex, hd, g, nd, hm, hb, hf, hn, hr, hl⟩ := setO_get I ha
  rw [Vals.ref1 r]
  have len : (es.toList.map keyOf).length = es.size := by simp
  have q := q (es.toList.map keyOf) nd (fun k => (hm k).symm)
  rw [len] at q
  exact PySem.call_len_set ho hex hd hf (by unfold scanBound at hb; omega) ⟨.int (es.size : Nat), H, I.tok _, ⟨_, rfl⟩, q⟩
def tLenSetD (te : TEd) : TEd := fun E Q => te E fun x E1 => ∃ ns : List Int, x = .lst (ns.map D.int) ∧ ns.length + 1 < scanBound ∧ ∀ out : List Int, out.Nodup → (∀ k, k ∈ out ↔ k ∈ ns) → Q (.int (out.length : Nat)) E1
section
variable {X : Cx} {e : Expr} {te : TEd} {p p' pos pos' : Pos}
theorem d_lenSetI (hc : X.calm = true) (hm : X.mg "len" = none) (hm2 : X.mg "set" = none) (he : PEd X e te) (hg : Gl X "len" := by rfl) (hg2 : Gl X "set" := by rfl)
    (na : starEach [.Call (.Name "set" p') [e] [] pos'] X.env = (false, eval (.Call (.Name "set" p') [e] [] pos') X.env) :: starEach [] X.env := by rfl) (nb : starEach [e] X.env = (false, eval e X.env) :: starEach [] X.env := by rfl) :
    PEd X (.Call (.Name "len" p) [.Call (.Name "set" p') [e] [] pos'] [] pos) (tLenSetD te) :=
  pe_imp (pe_callB cr_lenS hg hm PySem.boot_len (pa_cons (pe_callTy (cr_setI hc) hg2 hm2 PyProof.Rows.boot_set (pa_cons he pa_nil nb) (by decide) (by decide) nb) pa_nil na) (by decide) (by decide) na) fun σ H Q ⟨en, Hf, F, E, Qd, S, h, k⟩ =>
    ⟨en, Hf, F, E, _, S, h, fun v1 H1 Hf1 F1 E1 x s1 S1 r1 h1 => by
      obtain ⟨ns, rfl, few, q⟩ := h1
      cases r1 with | lst hl l =>
      rw [l.ofInts] at hl
      refine ⟨_, ns, rfl, .inl (.inl (S1.sf _ _ hl)), few, fun a c na => ⟨a, _, c, rfl, upd_same, fun out nd mem => ?_⟩⟩
      have S2 := S1.new (SetO X.w a (fun j => decide (j ∈ ns)) c) na
      exact k _ _ _ _ _ _ (s1.trans (same_upd (o := SetO X.w a (fun j => decide (j ∈ ns)) c) (S1.sf.free na))) S2 (.int _) (q out nd fun k => by rw [mem k, decide_eq_true_iff])⟩
end
end L3
namespace L3
open PySem L2 PySem.Spec PyProof.Rows PySem.W
variable [Tbs]
/-! ### a comprehension's list as a list of our own -/
section
variable {K : PySem.W.Frag} {te : TEd} {tt : TTd} {g : TGd} {vs : List Nat}
/-- the new list D stands by itself -/
def LcEnd (K : PySem.W.Frag) (en : Et) (σ : L2.St) (Hf : Hp) (Qd : List D → En → Prop) (Q : V → Hp → Prop) : Prop := ∀ Hf' H' F' E' D ws acc, Same Hf Hf' → Sat K (en.prot D (.lst ws)) Hf' H' F' E' σ → en.Pr D = none → en.H0 D = none → RepL K Hf' ws acc → Qd acc E' → Q (.ref D) H'
def tLcN (ti : TId) (g : TGd) (tt : TTd) (te : TEd) (vs : List Nat) : TNd := fun E Q => ti E fun xs E1 => lcD xs g tt te vs E1 Q
def tLcON (j : Nat) (g : TGd) (tt : TTd) (te : TEd) (vs : List Nat) : TNd := fun E Q => match E[j]? with
  | some (.ow false (.ol xs)) => lcD xs g tt te vs (E.set j .un) fun acc E2 => canSet E2 j ∧ Q acc (E2.set j (.ow false (.ol xs)))
  | _ => False
theorem prot_swap2 {en : Et} {p q : Addr} {o u : HO} (h : q ≠ p) : (en.prot p o).prot q u = (en.prot q u).prot p o := by
  show ({ en with Pr := upd (upd en.Pr p o) q u } : Et) = { en with Pr := upd (upd en.Pr q u) p o }
  congr 1
  funext b
  by_cases h1 : b = p
  · subst h1
    rw [upd_ne (Ne.symm h), upd_same, upd_same]
  · by_cases h2 : b = q
    · subst h2
      rw [upd_same, upd_ne h1, upd_same]
    · rw [upd_ne h2, upd_ne h1, upd_ne h1, upd_ne h2]
theorem lift_lcN {ti : TId} : ∀ σ H Q, (∃ en Hf F E Qd, Sat K en Hf H F E σ ∧ tLcN ti g tt te vs E Qd ∧ LcEnd K en σ Hf Qd Q) → tLc (liftI K ti) (liftC K vs g) (liftT K tt) (liftE K te) vs σ H Q := fun σ H Q ⟨en, Hf, F, E, Qd, S, h, k⟩ =>
  ⟨en, Hf, F, E, _, S, h, fun J H1 Hf1 F1 E1 xs s1 S1 jo ⟨P, p0, ps, pd⟩ => fun D nD => by
    obtain ⟨d1, d2⟩ := S1.fresh nD
    refine ⟨fun i m H => m = xs.length - i ∧ i ≤ xs.length ∧ ∃ Hf' F' E' acc ws, Same Hf1 Hf' ∧ Sat K (en.prot D (.lst ws)) Hf' H F' E' σ ∧ RepL K Hf' ws acc ∧ P i acc E',
      ⟨xs.length, by simp, Nat.zero_le _, Hf1, F1, wipeD E1 vs, [], [], Same.refl _, (S1.unwipe vs rfl).protect nD, .nil, p0⟩, ?_⟩
    rintro i m H2 ⟨rfl, hi, Hf2, F2, E2, acc, ws, s2, S2, r2, p2⟩
    have sH : Same Hf1 H2 := s2.trans S2.sf
    by_cases hlt : i < xs.length
    · refine .inr ⟨jo.go i H2 sH hlt, fun H' => ∃ Hf' F' E' acc ws, Same Hf1 Hf' ∧ Sat K (en.prot D (.lst ws)) Hf' H' F' E' σ ∧ RepL K Hf' ws acc ∧ P (i + 1) acc E', fun H' q => ⟨xs.length - (i + 1), by omega, rfl, hlt, q⟩, fun x H' y => ?_⟩
      obtain ⟨d, Hfx, ed, sx, Sx, rx⟩ := jo.item s2 S2 hlt y
      refine ⟨_, Hfx, F2, _, d, _, Sx.wipe vs, rx, ps i d acc E2 ed p2, fun σ3 H3 Hf3 F3 E3 s3 S3 w3 q3 => ⟨w3.trans (wipe_wipe vs), ?_⟩⟩
      have w3' : wipe σ3 vs = wipe σ vs := w3.trans (wipe_wipe vs)
      refine ⟨_, Hf3, F3, E3, _, S3, q3, fun b H4 Hf4 F4 E4 s4 S4 q4 => ?_⟩
      cases b with
      | false =>
        exact ⟨Hf4, F4, wipeD E4 vs, acc, ws, (((s2.trans sx).trans s3).trans s4), S4.unwipe vs w3', r2.mono ((sx.trans s3).trans s4), q4⟩
      | true =>
        refine ⟨_, Hf4, F4, E4, _, S4, q4, fun v H5 Hf5 F5 E5 y5 s5 S5 r5 q5 => ?_⟩
        have hD : H5 D = some (.lst ws) := S5.sp D _ (show upd en.Pr D (.lst ws) D = some (.lst ws) from upd_same)
        have rr := (r2.mono (((sx.trans s3).trans s4).trans s5))
        refine ⟨ws, hD, by rw [rr.length]; exact q5.1, Hf5, F5, wipeD E5 vs, acc ++ [y5], ws ++ [v], ((((s2.trans sx).trans s3).trans s4).trans s5), ?_, rr.append (.cons r5 .nil), q5.2⟩
        exact (S5.unwipe vs w3').chProt d1 d2 _
    · obtain rfl : i = xs.length := by omega
      exact .inl ⟨jo.stop H2 sH, k _ _ _ _ _ _ _ (s1.trans s2) S2 d1 d2 r2 (pd acc E2 p2)⟩⟩
theorem lift_lcON {j : Nat} : ∀ σ H Q, (∃ en Hf F E Qd, Sat K en Hf H F E σ ∧ tLcON j g tt te vs E Qd ∧ LcEnd K en σ Hf Qd Q) → tLc (iSeq K (tVar j)) (liftC K vs g) (liftT K tt) (liftE K te) vs σ H Q := fun σ H Q ⟨en, Hf, F, E, Qd, S, h, k⟩ => by
  unfold tLcON at h
  split at h
  · rename_i xs e
    obtain ⟨q, ws0, hv, hq, rq, h0, h1, S0⟩ := S.hide e
    have prq : ∀ {ps : Et} {Hf' H' : Hp} {F' : Nat → List Addr} {E' : En} {σ' : L2.St}, ps.Pr q = some (.lst ws0) → Sat K ps Hf' H' F' E' σ' → H' q = some (.lst ws0) := fun e S' => S'.sp q _ e
    obtain ⟨P, p0, ps, pd⟩ := h
    refine ⟨_, hv, q, rfl, .inl ⟨⟨ws0, .inl (.inl hq)⟩, fun D nD => ?_⟩⟩
    obtain ⟨d1, d2⟩ := S0.fresh nD
    obtain ⟨d1', d2'⟩ := S.fresh nD
    have qD : q ≠ D := ne_of_none hq nD
    have pr : ∀ ws, ((en.prot q (.lst ws0)).prot D (.lst ws)).Pr q = some (.lst ws0) := fun ws => by
      show upd (upd en.Pr q (.lst ws0)) D (.lst ws) q = _
      rw [upd_ne qD, upd_same]
    refine ⟨fun i m H => m = xs.length - i ∧ i ≤ xs.length ∧ ∃ Hf' F' E' acc ws, Same Hf Hf' ∧ Sat K ((en.prot q (.lst ws0)).prot D (.lst ws)) Hf' H F' E' σ ∧ RepL K Hf' ws acc ∧ P i acc E',
      ⟨xs.length, by simp, Nat.zero_le _, Hf, _, wipeD (E.set j .un) vs, [], [], Same.refl _, (S0.unwipe vs rfl).protect nD, .nil, p0⟩, ?_⟩
    rintro i m H2 ⟨rfl, hi, Hf2, F2, E2, acc, ws, s2, S2, r2, p2⟩
    have hq2 := prq (pr ws) S2
    by_cases hlt : i < xs.length
    · refine .inr ⟨?_, fun H' => ∃ Hf' F' E' acc ws, Same Hf Hf' ∧ Sat K ((en.prot q (.lst ws0)).prot D (.lst ws)) Hf' H' F' E' σ ∧ RepL K Hf' ws acc ∧ P (i + 1) acc E', fun H' z => ⟨xs.length - (i + 1), by omega, rfl, hlt, z⟩, fun x H' y => ?_⟩
      · obtain ⟨d, ed⟩ := getE hlt
        obtain ⟨v, ev, _⟩ := rq.get ed
        exact ⟨ws0, v, .inl (.inl hq2), ev⟩
      obtain ⟨rfl, y2⟩ := y
      obtain ⟨d, ed⟩ := getE hlt
      obtain ⟨v', ev, rv⟩ := rq.get ed
      have ex := y2 _ (.inl (.inl hq2))
      rw [ev] at ex
      cases ex
      refine ⟨_, Hf2, F2, _, d, _, S2.wipe vs, rv.mono s2, ps i d acc E2 ed p2, fun σ3 H3 Hf3 F3 E3 s3 S3 w3 q3 => ⟨w3.trans (wipe_wipe vs), ?_⟩⟩
      have w3' : wipe σ3 vs = wipe σ vs := w3.trans (wipe_wipe vs)
      refine ⟨_, Hf3, F3, E3, _, S3, q3, fun b H4 Hf4 F4 E4 s4 S4 q4 => ?_⟩
      cases b with
      | false => exact ⟨Hf4, F4, wipeD E4 vs, acc, ws, ((s2.trans s3).trans s4), S4.unwipe vs w3', r2.mono (s3.trans s4), q4⟩
      | true =>
        refine ⟨_, Hf4, F4, E4, _, S4, q4, fun v H5 Hf5 F5 E5 y5 s5 S5 r5 q5 => ?_⟩
        have hD : H5 D = some (.lst ws) := S5.sp D _ (show upd (upd en.Pr q (.lst ws0)) D (.lst ws) D = some (.lst ws) from upd_same)
        have rr := (r2.mono ((s3.trans s4).trans s5))
        exact ⟨ws, hD, by rw [rr.length]; exact q5.1, Hf5, F5, wipeD E5 vs, acc ++ [y5], ws ++ [v], (((s2.trans s3).trans s4).trans s5), (S5.unwipe vs w3').chProt d1 d2 _, rr.append (.cons r5 .nil), q5.2⟩
    · obtain rfl : i = xs.length := by omega
      obtain ⟨c, fin⟩ := pd acc E2 p2
      have hDq : D ≠ q := Ne.symm qD
      have S2' := S2
      rw [prot_swap2 hDq] at S2'
      have S4 := S2'.keep (ow := .ol xs) (by rw [show (en.prot D (.lst ws)).Pr q = upd en.Pr D (.lst ws) q from rfl, upd_ne qD]; exact h0) h1 c ⟨q, ws0, rfl, rfl, hq2, rq.mono s2⟩
      have es : σ.set j (some (.ref q)) = σ := by
        apply List.ext_getElem?
        intro i
        by_cases z : j = i
        · subst z
          rw [List.getElem?_set_self (List.getElem?_eq_some_iff.mp hv).1, hv]
        · rw [List.getElem?_set_ne z]
      rw [es] at S4
      exact .inl ⟨⟨ws0, .inl (.inl hq2), Nat.le_of_eq rq.length⟩, k _ _ _ _ _ _ _ s2 S4 d1' d2' r2 fin⟩
  · exact h.elim
end
section
variable {X : Cx} {elt tg iter a b : Expr} {ifs : List Expr} {ta tb te : TEd} {tt : TTd} {g : TGd} {pos p : Pos} {vs : List Nat}
theorem LcEnd.store {K : PySem.W.Frag} {en : Et} {Hf0 : Hp} {σ : L2.St} {i : Nat} {Qd : En → Prop} {Q : L2.St → Hp → Prop}
    (k1 : ∀ σ' H' Hf' F' E', Same Hf0 Hf' → Sat K en Hf' H' F' E' σ' → Qd E' → Q σ' H') :
    LcEnd K en σ Hf0 (fun acc E' => canSet E' i ∧ Qd (E'.set i (.ow false (.ol acc)))) (fun v H' => Q (σ.set i (some v)) H') := fun Hf' H' F' E' D ws acc s S d1 d2 r q =>
  k1 _ _ _ _ _ s (S.keep (ow := .ol acc) d1 d2 q.1 ⟨D, ws, rfl, rfl, S.sp D _ (show upd en.Pr D (.lst ws) D = some (.lst ws) from upd_same), r⟩) q.2
/-- name = [..] -/
theorem s_setLcN {ti : TId} {i : Nat} {y : Str} {py spos : Pos} {scope : Scope} {own : List (Str × Nat)} (hc : X.calm = true) (hN : X.N.Nodup) (hi : PId X tg iter ti) (ok : BlkOk X.N X.env.scope scope own)
    (hg : ∀ (s : Shared) (H : Hp) (C : Addr) (cl : List (Str × Addr)) (fp : List Addr), PCd (X.blk s H scope (compEnvC scope cl C X.env) fp) (own.map (·.2)) tg g) (ht : ∀ (s : Shared) (H : Hp) (C : Addr) (cl : List (Str × Addr)) (fp : List Addr), PTsd (X.blk s H scope (compEnvC scope cl C X.env) fp) ifs tt)
    (he : ∀ (s : Shared) (H : Hp) (C : Addr) (cl : List (Str × Addr)) (fp : List Addr), PEd (X.blk s H scope (compEnvC scope cl C X.env) fp) elt te)
    (hsw : swapsWith (.ListComp elt [⟨tg, iter, ifs, 0⟩] scope pos) (some (.Name y py)) spos.line X.env = pure true) (hy : X.N[i]? = some y := by rfl) (hyl : X.env.scope.names.lookup y = some .local := by rfl) (hs : ∀ x, foldedSetIterable iter X.env x = pure x := by intro _; rfl) :
    PSd X (.Assign [.Name y py] (.ListComp elt [⟨tg, iter, ifs, 0⟩] scope pos) spos) (tSetN i (tLcN ti g tt te (own.map (·.2)))) :=
  ps_imp (ps_setLc hc hN hy hyl hsw hi ok hg ht he hs) fun D σ H ⟨en, Hf, F, E, Dd, S, h, k1, k2, k3, k4, k5⟩ =>
    lift_lcN σ H _ ⟨en, Hf, F, E, _, S, h, LcEnd.store k1⟩
/-- name = [..], the name a cell -/
theorem s_setLcNC {ti : TId} {i : Nat} {y : Str} {py spos : Pos} {scope : Scope} {own : List (Str × Nat)} (hc : X.calm = true) (hN : X.N.Nodup) (hi : PId X tg iter ti) (ok : BlkOk X.N X.env.scope scope own)
    (hg : ∀ (s : Shared) (H : Hp) (C : Addr) (cl : List (Str × Addr)) (fp : List Addr), PCd (X.blk s H scope (compEnvC scope cl C X.env) fp) (own.map (·.2)) tg g) (ht : ∀ (s : Shared) (H : Hp) (C : Addr) (cl : List (Str × Addr)) (fp : List Addr), PTsd (X.blk s H scope (compEnvC scope cl C X.env) fp) ifs tt)
    (he : ∀ (s : Shared) (H : Hp) (C : Addr) (cl : List (Str × Addr)) (fp : List Addr), PEd (X.blk s H scope (compEnvC scope cl C X.env) fp) elt te)
    (hy : X.N[i]? = some y := by rfl) (hx : Loc X.env.scope y := by first | exact .inl rfl | exact .inr rfl) (hsw : swapsWith (.ListComp elt [⟨tg, iter, ifs, 0⟩] scope pos) (some (.Name y py)) spos.line X.env = pure false := by rfl) (hf : X.fn y = true ∨ X.env.scope.names.lookup y = some .local := by first | exact .inl rfl | exact .inr rfl | assumption) (hs : ∀ x, foldedSetIterable iter X.env x = pure x := by intro _; rfl) :
    PSd X (.Assign [.Name y py] (.ListComp elt [⟨tg, iter, ifs, 0⟩] scope pos) spos) (tSetN i (tLcN ti g tt te (own.map (·.2)))) :=
  ps_imp (ps_set hN hy hx (pe_lc hc hN hi ok hg ht he hs) hsw hf) fun D σ H ⟨en, Hf, F, E, Dd, S, h, k1, k2, k3, k4, k5⟩ =>
    lift_lcN σ H _ ⟨en, Hf, F, E, _, S, h, LcEnd.store k1⟩
/-- name = [.. for .. in own list], the name a cell -/
theorem s_setLcONC (j : Nat) {i : Nat} {x y : Str} {py spos : Pos} {scope : Scope} {own : List (Str × Nat)} (hc : X.calm = true) (hN : X.N.Nodup) (ok : BlkOk X.N X.env.scope scope own)
    (hg : ∀ (s : Shared) (H : Hp) (C : Addr) (cl : List (Str × Addr)) (fp : List Addr), PCd (X.blk s H scope (compEnvC scope cl C X.env) fp) (own.map (·.2)) tg g) (ht : ∀ (s : Shared) (H : Hp) (C : Addr) (cl : List (Str × Addr)) (fp : List Addr), PTsd (X.blk s H scope (compEnvC scope cl C X.env) fp) ifs tt)
    (he : ∀ (s : Shared) (H : Hp) (C : Addr) (cl : List (Str × Addr)) (fp : List Addr), PEd (X.blk s H scope (compEnvC scope cl C X.env) fp) elt te)
    (hi : X.N[j]? = some x := by rfl) (hv : Vis X.env.scope x := by first | exact Or.inl rfl | exact Or.inr (Or.inl rfl) | exact Or.inr (Or.inr rfl)) (hd : (x == ("__debug__" : Str)) = false := by decide) (hcd : (x == ("__classdict__" : Str)) = false := by decide)
    (hy : X.N[i]? = some y := by rfl) (hx : Loc X.env.scope y := by first | exact .inl rfl | exact .inr rfl) (hsw : swapsWith (.ListComp elt [⟨tg, .Name x p, ifs, 0⟩] scope pos) (some (.Name y py)) spos.line X.env = pure false := by rfl) (hf : X.fn y = true ∨ X.env.scope.names.lookup y = some .local := by first | exact .inl rfl | exact .inr rfl | assumption) (hs : ∀ y, foldedSetIterable (.Name x p) X.env y = pure y := by intro _; rfl) :
    PSd X (.Assign [.Name y py] (.ListComp elt [⟨tg, .Name x p, ifs, 0⟩] scope pos) spos) (tSetN i (tLcON j g tt te (own.map (·.2)))) :=
  ps_imp (ps_set hN hy hx (pe_lc hc hN (pi_seq (pv j hi hv hd hcd)) ok hg ht he hs) hsw hf) fun D σ H ⟨en, Hf, F, E, Dd, S, h, k1, k2, k3, k4, k5⟩ =>
    lift_lcON σ H _ ⟨en, Hf, F, E, _, S, h, LcEnd.store k1⟩
/-! ### xs + ys, a list of our own -/
def tNAdd (ta tb : TEd) : TNd := fun E Q => ta E fun x E1 => tb E1 fun y E2 => match x, y with
  | .lst u, .lst w => u.length + w.length ≤ sizeLine ∧ Q (u ++ w) E2
  | _, _ => False
theorem n_add (ha : PEd X a ta) (hb : PEd X b tb) : PNd X (.BinOp a .Add b pos) (tNAdd ta tb) :=
  pe_imp (pe_op op_cat ha hb) fun σ H Q ⟨en, Hf, F, E, Qd, S, h, k⟩ =>
    ⟨en, Hf, F, E, _, S, h, fun v1 H1 Hf1 F1 E1 x s1 S1 r1 h1 => ⟨en, Hf1, F1, E1, _, S1, h1, fun v2 H2 Hf2 F2 E2 y s2 S2 r2 h2 => by
      split at h2
      · have r1 := r1.mono s2
        cases r1 with | lst hq l =>
        cases r2 with | lst hq2 l2 =>
        exact ⟨_, _, _, _, rfl, rfl, S2.sf _ _ hq, S2.sf _ _ hq2, by rw [l.length, l2.length]; exact h2.1, fun p np => k _ _ _ _ _ _ _ (s1.trans s2) np S2 (l.append l2) h2.2⟩
      · exact h2.elim⟩⟩
end
end L3
namespace L3
open PySem L2 PySem.Spec PyProof.Rows PySem.W
variable [Tbs]
/-! ### d == "text", d a dict -/
section
variable {P : Program} {w : World} {A : Around} {E : Value → Shared → Prop} {s : Shared}
theorem dict_eq_str {l : Addr} {o : Obj} {b : Str} {u : Tok} {Q : Value → Shared → Prop} (ho : s.heap.get? l = some o) (hc : o.cls = .type "dict") (h : Q .notImplemented s) :
    wpAny (model P w) A (call (.builtin "dict.__eq__") [.ref l, .str b u]) Q E s := by
  have hT : s.TypeIs (.ref l) "dict" := ⟨o, ho, hc⟩
  refine wpAny_call_entry PySem.F.slot_dict_eq hT PySem.F.entry_dict_eq ?_ (PySem.F.args_dict_eq_2 _ _)
  show wpAny _ _ (Builtin.Dict.dictSlotArgs "__eq__" ⟨[.ref l, .str b u], []⟩ >>= _) _ _ s
  refine wpAny_bind ?_
  unfold Builtin.Dict.dictSlotArgs
  refine wpAny_bind (wpAny_notOrdered_dict hT ?_)
  show wpAny _ _ (pure (Value.ref l, Value.str b u)) _ _ s
  refine wpAny_pure ?_
  refine wpAny_bind (wpAny_isInstance (T := "str") (typeIs_str s b u) PySem.F.sub_str_dict ?_)
  simp only [Bool.not_false, if_true]
  refine wpAny_bind (wpAny_rule (wpAny_bind (wpAny_pure (wpAny_pure ⟨_, rfl, h⟩))))
theorem str_eq_obj (b : Str) (u : Tok) (l : Addr) (c : Value) (es : Array DictEntry) (ep : Nat) (dd : Option Addr) (sl : Array (Option Value)) :
    Meets (Builtin.«str.__eq__» ⟨[.str b u, .ref l], []⟩) (fun _ R s => s.heap.get? l = some { cls := c, dict := dd, data := .dict es ep, slots := sl } ∧ R (.ok (.ret .notImplemented)) s) :=
  .of_wp fun prog w A R s h => by obtain ⟨hp, g, d, tk, os⟩ := s; obtain ⟨hl, h⟩ := h; wp_walk using wpAny_loadPart' hl, wpAny_load hl; exact ⟨_, rfl, h⟩
theorem rc_dict_str {l : Addr} {o : Obj} {es : Array DictEntry} {ep : Nat} (b : Str) (u : Tok) (ho : s.heap.get? l = some o) (hc : o.cls = .type "dict") (hd : o.data = .dict es ep) (hu : A.units < cLine) : PySem.SeqAt.RcAt A s (.ref l) (.str b u) false := fun prog w E Q h => by
  obtain ⟨c, dd, data, sl⟩ := o
  simp only at hc hd
  subst hc hd
  exact PySem.SeqAt.rc_eq_decline_or (k := false) ⟨_, ho, rfl⟩ (typeIs_str s b u) (by decide) PySem.F.sub_str_dict PySem.F.slot_dict_eq PySem.F.slot_str_eq_refl
    (fun _ hq => dict_eq_str ho rfl hq)
    (fun _ hq => call_meets PySem.F.slot_str_eq_refl (typeIs_str s b u) PySem.F.entry_str_eq (PySem.F.args_str_eq_2 _ _) (str_eq_obj b u l _ es ep dd sl) ⟨ho, hq⟩)
    (fun _ hq => wpAny_of_eq (rfl : isSame (.ref l) (.str b u) = pure false) hq) (.inr hu) h
end
section
variable {X : Cx} {a b : Expr} {ta tb : TEd} {pos : Pos}
def rEqDS (H0 : Unit) : R2 := fun x y H Q => ∃ (a : Addr) (kvs : List (Key × V)) (t : Str), x = .ref a ∧ H a = some (.dK kvs) ∧ y = .str t ∧ Q (.bl false) H
theorem op_eqDS (hu : X.A.units < cLine) : OpR X (compareOp .Eq) (rEqDS ()) := by
  intro pins s σ H x y v u Q I rx ry h
  obtain ⟨a, kvs, t, rfl, ha, rfl, q⟩ := h
  cases rx
  obtain ⟨z, hd, vs, rel, o, es, ep, ho, hex, hdt, _⟩ := dk_rd I.hok (.inl ha)
  obtain ⟨tk, rfl⟩ := ry
  exact rc_dict_str t tk ho hex.1 hdt hu X.prog X.w _ _ ⟨.bl false, H, I, rfl, q⟩
def rdEqS : RD := fun x y E Q => match x, y with
  | .dct _, .str _ => Q (.bl false) E
  | x, y => rdEq x y E Q
theorem ok_eqS {K : PySem.W.Frag} : OpOk K (fun x y H Q => rEqDS () x y H Q ∨ (L2.rEq x y H Q ∨ rEqD K x y H Q)) rdEqS :=
  fun en Hf H F E σ vx vy x y Q Qd S rx ry q k => by
    unfold rdEqS at q
    split at q
    · cases rx with | dct h l =>
      cases ry
      exact .inl ⟨_, _, _, rfl, S.sf _ _ h, rfl, k _ _ _ _ _ _ (Same.refl _) S (.bl _) q⟩
    · exact .inr (ok_eq en Hf H F E σ vx vy _ _ Q Qd S rx ry q k)
theorem d_eqS (hu : X.A.units + 64 < cLine) (ha : PEd X a ta) (hb : PEd X b tb) : PEd X (.Compare a [.Eq] [b] pos) (tOpD rdEqS ta tb) := d_cmp (OpR.or (op_eqDS (by omega)) (OpR.or op_eq (op_eqD hu))) ok_eqS ha hb (nomark _)
theorem t_eqS (hu : X.A.units + 64 < cLine) (ha : PEd X a ta) (hb : PEd X b tb) : PTd X (.Compare a [.Eq] [b] pos) (tTestD (tOpD rdEqS ta tb)) := t_cmp (OpR.or (op_eqDS (by omega)) (OpR.or op_eq (op_eqD hu))) ok_eqS ha hb (nomark _)
end
end L3
namespace Z2
open PySem PyProof.Rows
section
variable {prog : Program} {w : World} {A : Around} {E : Value → Shared → Prop} {s : Shared} {n l1 l2 : Nat} {a b : Value} {xs ys : Array Value} {t1 t2 : Bool}
/-- the second is at its end -/
theorem stop2 {j : Nat} {x : Value} {Q : Fin → Shared → Prop} (quiet : A.handled = none) (Z : Zs t1 t2 s.heap n l1 l2 .none j j a b) (h1 : l1 < n) (h2 : l2 < n) (L1 : Bx t1 s.heap l1 xs) (L2 : Bx t2 s.heap l2 ys) (hx : xs[j]? = some x) (hy : ys[j]? = none)
    (hE : ∀ g e, (∀ (d : Nat) (o : Obj), (d < n ∨ n + 5 ≤ d) → s.heap.get? d = some o → g.get? d = some o) → (∃ o, g.get? e = some o ∧ o.cls = .type "StopIteration") → E (.ref e) { s with heap := g }) :
    wpAny (model prog w) A (Builtin.«zip.__next__» ⟨[.ref (n + 4)], []⟩) Q E s := by
  obtain ⟨hz, ti, to, i1, i2⟩ := Z
  show wpAny _ _ (field (.ref (n + 4)) 2 >>= _) _ _ _; refine wpAny_bind (wpAny_field hz rfl (x := .bool false) rfl ?_)
  show wpAny _ _ (field (.ref (n + 4)) 3 >>= _) _ _ _; refine wpAny_bind (wpAny_field hz rfl (x := .ref (n + 2)) rfl (wpAny_bind (wpAny_seqItems ti rfl ?_)))
  show wpAny _ _ (Builtin.SmallTypes.ownedTupleIsFree (.ref (n + 4)) >>= _) _ _ _
  refine wpAny_bind ?_; unfold Builtin.SmallTypes.ownedTupleIsFree
  refine wpAny_bind (wpAny_field hz rfl (x := .none) rfl (wpAny_pure ?_)); simp only [if_true]
  refine wpAny_bind (wpAny_rule (wpAny_bind (wpAny_field hz rfl (x := .ref (n + 3)) rfl (wpAny_bind (wpAny_setField_rec hz (by simp) fun g1 z1 s1 => ?_)))))
  replace z1 : IsZip g1 (n + 4) (n + 2) (n + 3) .ellipsis := z1
  refine wpAny_bind ?_; simp only [List.zipIdx_cons, List.zipIdx_nil, List.forIn_cons, List.forIn_nil]
  have k1 : ∀ (d : Nat) (o : Obj), d ≠ n + 4 → s.heap.get? d = some o → g1.get? d = some o := fun d o ne e => s1.extBut d o ne e
  -- the first
  refine wpAny_bind (wpAny_bind (wpAny_onRaise ?_)); show wpAny _ _ (Builtin.SmallTypes.nextOf (.ref n) >>= _) _ _ _
  refine wpAny_bind (nx_item (i1.at fun o e => k1 _ o (by first | omega | (show @Ne Nat _ _; omega)) e) (L1.at fun o e => k1 _ o (by first | omega | (show @Ne Nat _ _; omega)) e) hx fun g2 i1b s2 => wpAny_pure ?_)
  have k2 : ∀ (d : Nat) (o : Obj), d ≠ n + 4 → d ≠ n → s.heap.get? d = some o → g2.get? d = some o := fun d o n5 n0 e => s2.extBut d o n0 (k1 d o n5 e)
  have to2 : Duo g2 (n + 3) a b := k2 _ _ (by first | omega | (show @Ne Nat _ _; omega)) (by first | omega | (show @Ne Nat _ _; omega)) to
  refine wpAny_bind (wpAny_seqItems to2 rfl (wpAny_bind (upd_duo to2 fun g3 to3 s3 => ?_)))
  replace to3 : Duo g3 (n + 3) x b := to3
  refine wpAny_bind (wpAny_letGo (wpAny_pure ?_))
  have k3 : ∀ (d : Nat) (o : Obj), d ≠ n + 4 → d ≠ n → d ≠ n + 3 → s.heap.get? d = some o → g3.get? d = some o := fun d o n5 n0 n4 e => s3.extBut d o n4 (k2 d o n5 n0 e)
  -- the second
  refine wpAny_bind (wpAny_bind (wpAny_onRaise ?_)); show wpAny _ _ (Builtin.SmallTypes.nextOf (.ref (n + 1)) >>= _) _ _ _
  refine wpAny_bind (nx_end quiet (i2.at fun o e => k3 _ o (by first | omega | (show @Ne Nat _ _; omega)) (by first | omega | (show @Ne Nat _ _; omega)) (by first | omega | (show @Ne Nat _ _; omega)) e) (L2.at fun o e => k3 _ o (by first | omega | (show @Ne Nat _ _; omega)) (by first | omega | (show @Ne Nat _ _; omega)) (by first | omega | (show @Ne Nat _ _; omega)) e) hy fun g4 e s4 he => ?_)
  obtain ⟨oe, e1, e2⟩ := he
  have z3 : IsZip g3 (n + 4) (n + 2) (n + 3) .ellipsis := s3.extBut _ _ (by first | omega | (show @Ne Nat _ _; omega)) (s2.extBut _ _ (by first | omega | (show @Ne Nat _ _; omega)) z1)
  have z4 : IsZip g4 (n + 4) (n + 2) (n + 3) .ellipsis := s4 _ _ (by first | omega | (show @Ne Nat _ _; omega)) z3
  have ne : e ≠ n + 4 := fun z => by
    rw [z, z4] at e1
    cases e1
    simp at e2
  exact wpAny_setField_rec z4 (by simp) fun g5 _ s5 => hE g5 e (fun d o hd x => s5.extBut _ _ (by first | omega | (show @Ne Nat _ _; omega)) (s4 _ _ (by first | omega | (show @Ne Nat _ _; omega)) (k3 d o (by first | omega | (show @Ne Nat _ _; omega)) (by first | omega | (show @Ne Nat _ _; omega)) (by first | omega | (show @Ne Nat _ _; omega)) x))) ⟨oe, s5.extBut _ _ ne e1, e2⟩
theorem next_stop2 {j : Nat} {x : Value} {Q : Option Value → Shared → Prop} (quiet : A.handled = none) (Z : Zs t1 t2 s.heap n l1 l2 .none j j a b) (h1 : l1 < n) (h2 : l2 < n) (L1 : Bx t1 s.heap l1 xs) (L2 : Bx t2 s.heap l2 ys) (hx : xs[j]? = some x) (hy : ys[j]? = none)
    (hQ : ∀ g, (∀ (d : Nat) (o : Obj), (d < n ∨ n + 5 ≤ d) → s.heap.get? d = some o → g.get? d = some o) → Q none { s with heap := g }) : wpAny (model prog w) A (pyNext (.ref (n + 4))) Q E s := by
  have ty : s.TypeIs (.ref (n + 4)) "zip" := ⟨_, Z.z, rfl⟩
  unfold pyNext
  refine wpAny_bind (wpAny_attempt (wpAny_callSpecial?_slot (name := Str.ofString "__next__") ty F.slot_zip_next (wpAny_call_entry F.slot_zip_next ty F.entry_zip_next (stop2 quiet Z h1 h2 L1 L2 hx hy fun g e hk he => ?_) (F.args_zip_next_1 _))))
  obtain ⟨o, ho, hc⟩ := he
  exact wpAny_bind (wpAny_isInstance (T := "StopIteration") (b := true) ⟨o, ho, hc⟩ isSubtype_stop (wpAny_pure (hQ _ hk)))
end
end Z2
namespace L3
open PySem PySem.Spec PyProof.Rows L2 Z2
variable [Tbs]
theorem hT {xs ys : List D} (h : ys.length ≤ xs.length) : ys.length = (xs.take ys.length).length := by rw [List.length_take]; omega
/-- two as they stand at each turn, the items in new tuples -/
def Ity2 (t1 t2 : Bool) (K : PySem.W.Frag) (a b : Addr) : L2.It :=
  ⟨fun i H => ∃ (xs ys : List V) (x y : V), SqX t1 K H a xs ∧ SqX t2 K H b ys ∧ xs[i]? = some x ∧ ys[i]? = some y,
    fun i H v H' => ∃ T x y, v = .ref T ∧ H T = none ∧ H' = upd H T (.tup [x, y]) ∧ (∀ xs, SqX t1 K H a xs → xs[i]? = some x) ∧ (∀ ys, SqX t2 K H b ys → ys[i]? = some y),
    fun i H => ∃ xs ys : List V, SqX t1 K H a xs ∧ SqX t2 K H b ys ∧ ys.length ≤ i⟩
theorem turn_zipY {P : Program} {w : World} {K : PySem.W.Frag} {elts : List Expr} {kk : Nat} {tpos : Pos} {t1 t2 : Bool} {n a b : Nat} (la : a < n) (lb : b < n) :
    Turn P w K (.Tuple elts kk tpos) (Ity2 t1 t2 K a b) [n + 4, n, n + 1, n + 2, n + 3] (n + 4) (Zx t1 t2 n a b) where
  mem := by simp
  obj := fun i h ⟨x, y, Z⟩ d hd => by
    obtain ⟨hz, ti, to, i1, i2⟩ := Z
    obtain ⟨o1, f1, e1, d1⟩ := i1.ob
    obtain ⟨o2, f2, e2, d2⟩ := i2.ob
    have e' : d = n + 4 ∨ d = n ∨ d = n + 1 ∨ d = n + 2 ∨ d = n + 3 := by simpa using hd
    rcases e' with rfl | rfl | rfl | rfl | rfl
    · exact ⟨_, hz, fun v q => nomatch q⟩
    · exact ⟨o1, e1, fun v q => by rw [d1] at q; cases q⟩
    · exact ⟨o2, e2, fun v q => by rw [d2] at q; cases q⟩
    · exact ⟨_, ti, fun v q => nomatch q⟩
    · exact ⟨_, to, fun v q => nomatch q⟩
  keep := fun i h h' ⟨x, y, Z⟩ k => ⟨x, y, k (n + 4) (by simp) _ Z.z, k (n + 2) (by simp) _ Z.ti, k (n + 3) (by simp) _ Z.to, Z.i1.at fun o e => k n (by simp) o e, Z.i2.at fun o e => k (n + 1) (by simp) o e⟩
  item := by
    intro X hP hw hK hc i pins s σ H E I hf st hg
    subst hP hw hK
    obtain ⟨x0, y0, Z⟩ := st
    obtain ⟨xs, ys, x, y, qx, qy, ex, ey⟩ := hg
    obtain ⟨is1, rv1, p1⟩ := SqX.get I qx
    obtain ⟨is2, rv2, p2⟩ := SqX.get I qy
    obtain ⟨v1, hv1, r1⟩ := rv1.get ex
    obtain ⟨v2, hv2, r2⟩ := rv2.get ey
    have zl : n + 4 < s.heap.objs.size := Heap.lt_size Z.z
    refine Z2.next_item Z la lb p1 p2 (x := v1) (y := v2) (by simpa using hv1) (by simpa using hv2) fun g Zg tg szg kg => ?_
    refine ⟨_, rfl, wpAny_letOwnedTupleGo_zip (s := { s with heap := g }) Zg.z fun g2 z2 sb => ?_⟩
    have kb : ∀ (d : Nat) (o : Obj), d ≠ n + 4 → g.get? d = some o → g2.get? d = some o := fun d o ne e => (sb.2 d ne).trans e
    have tg2 : g2.get? s.heap.objs.size = some { cls := .type "tuple", data := .seq #[v1, v2] } := kb _ _ (Nat.ne_of_gt zl) tg
    have new : ObjOk X.prog X.w (upd H s.heap.objs.size (.tup [x, y])) g2 s.heap.objs.size (.tup [x, y]) :=
      ⟨by show 2 ≤ sizeLine; decide, [v1, v2], .cons r1 (.cons r2 .nil), ⟨_, tg2, rfl, _, rfl⟩⟩
    have I1 : Inv X pins σ (upd H s.heap.objs.size (.tup [x, y])) { s with heap := g2 } :=
      I.turnedNew (t' := s.toks) (ch := [n + 4, n, n + 1, n + 2, n + 3]) (fun d o hb q => by
        have nd : ¬ (d = n + 4 ∨ d = n ∨ d = n + 1 ∨ d = n + 2 ∨ d = n + 3) := by simpa using hb
        have d' : @Ne Nat d (n + 4) := fun z => nd (.inl z)
        exact kb d o d' (kg d o (by
          have n0 : @Ne Nat d n := fun z => nd (.inr (.inl z))
          have n1 : @Ne Nat d (n + 1) := fun z => nd (.inr (.inr (.inl z)))
          have n2 : @Ne Nat d (n + 2) := fun z => nd (.inr (.inr (.inr (.inl z))))
          have n3 : @Ne Nat d (n + 3) := fun z => nd (.inr (.inr (.inr (.inr z))))
          show @LT.lt Nat _ d n ∨ @LE.le Nat _ (n + 5) d
          omega) q)) hf (Nat.le_refl _) new
    refine ⟨.ref s.heap.objs.size, _, I1, rfl, ⟨_, x, y, rfl, I.hok.fresh (Nat.le_refl _), rfl, fun l hl => by rw [SqX.inj I hl qx]; exact ex, fun l hl => by rw [SqX.inj I hl qy]; exact ey⟩, ⟨v1, v2, z2, kb _ _ (by first | omega | (show @Ne Nat _ _; omega)) Zg.ti, kb _ _ (by first | omega | (show @Ne Nat _ _; omega)) Zg.to, Zg.i1.at fun o e => kb _ _ (by first | omega | (show @Ne Nat _ _; omega)) e, Zg.i2.at fun o e => kb _ _ (by first | omega | (show @Ne Nat _ _; omega)) e⟩, fun d hd => ?_⟩
    have lt : @LT.lt Nat _ d s.heap.objs.size := by
      have e' : d = n + 4 ∨ d = n ∨ d = n + 1 ∨ d = n + 2 ∨ d = n + 3 := by simpa using hd
      rcases e' with z | z | z | z | z <;> (rw [z]; omega)
    rw [upd_ne (Nat.ne_of_lt lt)]
    exact (hf d hd).1
  done := by
    intro X hP hw hK hc i pins s σ H E I hf st hg
    subst hP hw hK
    obtain ⟨x0, y0, Z⟩ := st
    obtain ⟨xs, ys, qx, qy, hend⟩ := hg
    obtain ⟨is1, rv1, p1⟩ := SqX.get I qx
    obtain ⟨is2, rv2, p2⟩ := SqX.get I qy
    have len := rv1.length
    have len2 := rv2.length
    have go : ∀ g : Heap, (∀ (d : Nat) (o : Obj), (d < n ∨ n + 5 ≤ d) → s.heap.get? d = some o → g.get? d = some o) → (none : Option Value) = none ∧ Inv X pins σ H { s with heap := g } := fun g kg => ⟨rfl, I.turnedL (t' := s.toks) (ch := [n + 4, n, n + 1, n + 2, n + 3]) (fun d o hb q => ?_) hf⟩
    · by_cases c : i < is1.length
      · exact Z2.next_stop2 (I.ok.hd hc) Z la lb p1 p2 (x := is1[i]) (by simp [c]) (by simp; omega) go
      · exact Z2.next_stop (I.ok.hd hc) Z la p1 (by simp; omega) go
    have nd : ¬ (d = n + 4 ∨ d = n ∨ d = n + 1 ∨ d = n + 2 ∨ d = n + 3) := by simpa using hb
    refine kg d o ?_ q
    have n4 : @Ne Nat d (n + 4) := fun z => nd (.inl z)
    have n0 : @Ne Nat d n := fun z => nd (.inr (.inl z))
    have n1 : @Ne Nat d (n + 1) := fun z => nd (.inr (.inr (.inl z)))
    have n2 : @Ne Nat d (n + 2) := fun z => nd (.inr (.inr (.inr (.inl z))))
    have n3 : @Ne Nat d (n + 3) := fun z => nd (.inr (.inr (.inr (.inr z))))
    show @LT.lt Nat _ d n ∨ @LE.le Nat _ (n + 5) d
    omega
  self := fun A i s Q E ⟨x, y, Z⟩ h => wpAny_pyIter_zip Z.z h
theorem zipY_run {X : Cx} {pins : List (Addr × Obj)} {s : Shared} {σ : L2.St} {H : Hp} {t1 t2 : Bool} {a b : Addr} {xs ys : List V} {elts : List Expr} {kk : Nat} {tpos : Pos} {R : L2.It → Hp → Prop} (I : Inv X pins σ H s) (qa : SqX t1 X.K H a xs) (qb : SqX t2 X.K H b ys) (q : R (Ity2 t1 t2 X.K a b) H) :
    wpAny (model X.prog X.w) X.A (call (.type "zip") [.ref a, .ref b]) (fun v s1 => wpAny (model X.prog X.w) X.A (pyIter v) (PIE X pins σ (.Tuple elts kk tpos) R) X.xe s1) X.xe s := by
  obtain ⟨is1, rv1, p1⟩ := SqX.get I qa
  obtain ⟨is2, rv2, p2⟩ := SqX.get I qb
  refine Z2.call2 p1 p2 fun g Z sz k => wpAny_pyIter_zip Z.z ?_
  have I2 : Inv X pins σ H { s with heap := g } := I.kept (t' := s.toks) k
  refine ⟨s.heap.objs.size + 4, _, _, _, H, rfl, I2, turn_zipY p1.lt p2.lt, ⟨_, _, Z⟩, fun d hd => ?_, q⟩
  have le : @LE.le Nat _ s.heap.objs.size d := by
    have e' : d = s.heap.objs.size + 4 ∨ d = s.heap.objs.size ∨ d = s.heap.objs.size + 1 ∨ d = s.heap.objs.size + 2 ∨ d = s.heap.objs.size + 3 := by simpa using hd
    rcases e' with z | z | z | z | z <;> (rw [z]; omega)
  exact I.fpOk le (I.hok.fresh le)
theorem pi_zipY {X : Cx} {e e2 : Expr} {ta : TA} {p pos tpos : Pos} {elts : List Expr} {kk : Nat} (hg : Gl X "zip") (hm : X.mg "zip" = none) (ha : PA X [e, e2] ta)
    (hs : starEach [e, e2] X.env = (false, eval e X.env) :: starEach [e2] X.env := by rfl) (hpl : (backTo pos (starEach [e2] X.env)).any (·.1) = false := by rfl) :
    PI X (.Tuple elts kk tpos) (.Call (.Name "zip" p) [e, e2] [] pos) (fun σ H R => ta σ H fun vs H1 => ∃ t1 t2 a b xs ys, vs = [.ref a, .ref b] ∧ SqX t1 X.K H1 a xs ∧ SqX t2 X.K H1 b ys ∧ R (Ity2 t1 t2 X.K a b) H1) := by
  refine ⟨fun pins s σ H R I h => ?_⟩
  refine Call_ (ld_blt I hg hm PyProof.Rows.boot_zip (PyProof.Rows.callWith_type1 (thn (ha.run pos pins s σ H _ I h) fun us s1 ⟨vs, H1, I1, r1, q1⟩ => ?_) hs hpl))
  obtain ⟨t1, t2, a, b, xs, ys, rfl, qa, qb, q⟩ := q1
  cases r1 with | cons r rr =>
  cases rr with | cons r' rr =>
  cases rr
  cases r
  cases r'
  exact zipY_run I1 qa qb q
theorem zipY_ok {K : PySem.W.Frag} {Hf : Hp} {t1 t2 : Bool} {a b : Addr} {xs ys : List D} {vs ws : List V} (w1 : ∀ H', Same Hf H' → SqX t1 K H' a vs) (w2 : ∀ H', Same Hf H' → SqX t2 K H' b ws) (r1 : RepL K Hf vs xs) (r2 : RepL K Hf ws ys) (hl : ys.length ≤ xs.length) : JOk K Hf (Ity2 t1 t2 K a b) (zip2D (xs.take ys.length) ys) := by
  refine ⟨fun i H' s hi => ?_, fun H' s => ⟨_, _, w1 _ s, w2 _ s, ?_⟩, fun i H2 v H3 s hi y => ?_⟩
  · rw [zip2D_len (hT hl)] at hi
    have hi : i < ys.length := by rw [List.length_take] at hi; omega
    obtain ⟨d1, e1⟩ := getE (show i < xs.length by omega)
    obtain ⟨d2, e2⟩ := getE hi
    obtain ⟨v1, f1, _⟩ := r1.get e1
    obtain ⟨v2, f2, _⟩ := r2.get e2
    exact ⟨_, _, v1, v2, w1 _ s, w2 _ s, f1, f2⟩
  · rw [zip2D_len (hT hl), r2.length, List.length_take]
    omega
  · rw [zip2D_len (hT hl)] at hi
    have hi : i < ys.length := by rw [List.length_take] at hi; omega
    obtain ⟨d1, e1⟩ := getE (show i < xs.length by omega)
    obtain ⟨d2, e2⟩ := getE hi
    obtain ⟨v1, f1, g1⟩ := r1.get e1
    obtain ⟨v2, f2, g2⟩ := r2.get e2
    obtain ⟨T, y1, y2, z1, z2, z3, z4, z5⟩ := y
    have t1 := z4 _ (w1 _ s)
    have t2 := z5 _ (w2 _ s)
    rw [f1] at t1
    rw [f2] at t2
    cases t1
    cases t2
    refine ⟨_, zip2D_get (by rw [List.getElem?_take, if_pos hi]; exact e1) e2, .inr ⟨T, _, z1, z2, z3, fun Hf' s2 e => ?_⟩⟩
    rw [z1]
    exact .tup (.inl (.inl e)) (.cons (g1.mono s2) (.cons (g2.mono s2) .nil))
section
variable {X : Cx} {a b e : Expr} {elts : List Expr} {t : TAd} {te : TEd} {p p2 sp pos tpos : Pos} {kk : Nat}
def iZipYD (t : TAd) : TId := fun E Q => t E fun xs E1 => match xs with
  | [.lst xs, .lst ys] => ys.length ≤ xs.length ∧ Q (zip2D (xs.take ys.length) ys) E1
  | [.lst xs, .tup ys] => ys.length ≤ xs.length ∧ Q (zip2D (xs.take ys.length) ys) E1
  | [.tup xs, .lst ys] => ys.length ≤ xs.length ∧ Q (zip2D (xs.take ys.length) ys) E1
  | [.tup xs, .tup ys] => ys.length ≤ xs.length ∧ Q (zip2D (xs.take ys.length) ys) E1
  | _ => False
theorem i_zipY (hm : X.mg "zip" = none) (ha : PAd X [a, b] t) (hg : Gl X "zip" := by rfl) (hs : starEach [a, b] X.env = (false, eval a X.env) :: starEach [b] X.env := by rfl) (hpl : (backTo p2 (starEach [b] X.env)).any (·.1) = false := by rfl) :
    PId X (.Tuple elts kk tpos) (.Call (.Name "zip" p) [a, b] [] p2) (iZipYD t) :=
  pi_imp (pi_zipY hg hm ha hs hpl) fun σ H R ⟨en, Hf, F, E, Qd, S, h, k⟩ => ⟨en, Hf, F, E, _, S, h, fun v1 H1 Hf1 F1 E1 x s1 S1 r1 h1 => by
    have ll : ∀ {u : Addr} {us : List V}, Hf1 u = some (.lst us) → ∀ H', Same Hf1 H' → SqX false X.K H' u us := fun q H' s => .inl (.inl (s _ _ q))
    have tt : ∀ {u : Addr} {us : List V}, SqT X.K Hf1 u us → ∀ H', Same Hf1 H' → SqX true X.K H' u us := fun q H' s => Same.sqT s q
    split at h1
    · rename_i xs ys
      obtain ⟨l1, h1⟩ := h1
      cases r1 with | cons a1 rest =>
      cases rest with | cons a2 rest =>
      cases rest
      cases a1 with | lst q1 r1 =>
      cases a2 with | lst q2 r2 =>
      exact ⟨false, false, _, _, _, _, rfl, ll q1 _ S1.sf, ll q2 _ S1.sf, k _ _ _ _ _ _ s1 S1 (zipY_ok (ll q1) (ll q2) r1 r2 l1) h1⟩
    · rename_i xs ys
      obtain ⟨l1, h1⟩ := h1
      cases r1 with | cons a1 rest =>
      cases rest with | cons a2 rest =>
      cases rest
      cases a1 with | lst q1 r1 =>
      cases a2 with | tup q2 r2 =>
      exact ⟨false, true, _, _, _, _, rfl, ll q1 _ S1.sf, tt q2 _ S1.sf, k _ _ _ _ _ _ s1 S1 (zipY_ok (ll q1) (tt q2) r1 r2 l1) h1⟩
    · rename_i xs ys
      obtain ⟨l1, h1⟩ := h1
      cases r1 with | cons a1 rest =>
      cases rest with | cons a2 rest =>
      cases rest
      cases a1 with | tup q1 r1 =>
      cases a2 with | lst q2 r2 =>
      exact ⟨true, false, _, _, _, _, rfl, tt q1 _ S1.sf, ll q2 _ S1.sf, k _ _ _ _ _ _ s1 S1 (zipY_ok (tt q1) (ll q2) r1 r2 l1) h1⟩
    · rename_i xs ys
      obtain ⟨l1, h1⟩ := h1
      cases r1 with | cons a1 rest =>
      cases rest with | cons a2 rest =>
      cases rest
      cases a1 with | tup q1 r1 =>
      cases a2 with | tup q2 r2 =>
      exact ⟨true, true, _, _, _, _, rfl, tt q1 _ S1.sf, tt q2 _ S1.sf, k _ _ _ _ _ _ s1 S1 (zipY_ok (tt q1) (tt q2) r1 r2 l1) h1⟩
    · exact h1.elim⟩
end
end L3
namespace L3
open PySem L2 PySem.Spec PyProof.Rows PySem.W
variable [Tbs]
/-! ### t == (), t a tuple of anything -/
section
variable {X : Cx} {a b : Expr} {ta tb : TEd} {pos : Pos}
def rEqEm (K : PySem.W.Frag) : R2 := fun x y H Q => ∃ (a b : Addr) (xs : List V), x = .ref a ∧ y = .ref b ∧ SqT K H a xs ∧ SqT K H b [] ∧ Q (.bl xs.isEmpty) H
theorem op_eqEm (hu : X.A.units < cLine) : OpR X (compareOp .Eq) (rEqEm X.K) := by
  intro pins s σ H x y v u Q I rx ry h
  obtain ⟨a, b, xs, rfl, rfl, ha, hb, q⟩ := h
  cases rx
  cases ry
  obtain ⟨its, rv, p1, _⟩ := I.tuple ha
  obtain ⟨its2, rv2, p2, _⟩ := I.tuple hb
  have z2 : its2 = [] := by
    have := rv2.length
    exact List.eq_nil_of_length_eq_zero (by simpa using this.symm)
  subst z2
  refine PySem.SeqAt.eq_tupleAt (e := fun _ => true) p1 p2 hu (fun j h1 h2 => absurd h2 (by simp)) ?_
  have e : ((List.range (min its.toArray.size ([] : List Value).toArray.size)).all (fun _ => true) && its.toArray.size == ([] : List Value).toArray.size) = xs.isEmpty := by
    cases rv with
    | nil => rfl
    | cons _ _ => simp
  rw [e]
  exact ⟨.bl _, H, I, rfl, q⟩
def rdEqE : RD := fun x y E Q => match x, y with
  | .tup xs, .tup [] => Q (.bl xs.isEmpty) E
  | x, y => rdEq x y E Q
theorem ok_eqE {K : PySem.W.Frag} : OpOk K (fun x y H Q => rEqEm K x y H Q ∨ (L2.rEq x y H Q ∨ rEqD K x y H Q)) rdEqE :=
  fun en Hf H F E σ vx vy x y Q Qd S rx ry q k => by
    unfold rdEqE at q
    split at q
    · cases rx with | tup h l =>
      cases ry with | tup h2 l2 =>
      cases l2
      refine .inl ⟨_, _, _, rfl, rfl, Same.sqT S.sf h, Same.sqT S.sf h2, k _ _ _ _ _ _ (Same.refl _) S (.bl _) ?_⟩
      cases l <;> exact q
    · exact .inr (ok_eq en Hf H F E σ vx vy _ _ Q Qd S rx ry q k)
theorem d_eqE (hu : X.A.units + 64 < cLine) (ha : PEd X a ta) (hb : PEd X b tb) : PEd X (.Compare a [.Eq] [b] pos) (tOpD rdEqE ta tb) := d_cmp (OpR.or (op_eqEm (by omega)) (OpR.or op_eq (op_eqD hu))) ok_eqE ha hb (nomark _)
theorem t_eqE (hu : X.A.units + 64 < cLine) (ha : PEd X a ta) (hb : PEd X b tb) : PTd X (.Compare a [.Eq] [b] pos) (tTestD (tOpD rdEqE ta tb)) := t_cmp (OpR.or (op_eqEm (by omega)) (OpR.or op_eq (op_eqD hu))) ok_eqE ha hb (nomark _)
end
end L3
namespace L3
open PySem L2 PySem.Spec PyProof.Rows PySem.W
variable [Tbs]
/-! ### a, b, c = .., .., .. where a name is a cell -/
theorem RepM.three {K : PySem.W.Frag} {Hf : Hp} {vs : List V} {a b c : It} {ps : List (Addr × HO)} (r : RepM K Hf vs [a, b, c] ps) : ∃ v1 v2 v3, vs = [v1, v2, v3] := by
  have one : ∀ {vs : List V} {c : It} {ps : List (Addr × HO)}, RepM K Hf vs [c] ps → ∃ v, vs = [v] := fun r => by
    cases r with
    | dat _ r => cases r; exact ⟨_, rfl⟩
    | nw _ r => cases r; exact ⟨_, rfl⟩
  have two : ∀ {vs : List V} {b c : It} {ps : List (Addr × HO)}, RepM K Hf vs [b, c] ps → ∃ v w, vs = [v, w] := fun r => by
    cases r with
    | dat _ r => obtain ⟨w, rfl⟩ := one r; exact ⟨_, _, rfl⟩
    | nw _ r => obtain ⟨w, rfl⟩ := one r; exact ⟨_, _, rfl⟩
  cases r with
  | dat _ r => obtain ⟨v, w, rfl⟩ := two r; exact ⟨_, _, _, rfl⟩
  | nw _ r => obtain ⟨v, w, rfl⟩ := two r; exact ⟨_, _, _, rfl⟩
section
variable {X : Cx} {pos : Pos}
theorem s_par3MC {i j l : Nat} {x y z : Str} {a b c : Expr} {px py pz pt : Pos} {kt k2 pt2} {tm : TMd} (hc : X.calm = true) (hN : X.N.Nodup) (ha : PMd X [a, b, c] tm) (hi : X.N[i]? = some x := by rfl) (hj : X.N[j]? = some y := by rfl) (hl : X.N[l]? = some z := by rfl)
    (hx : Loc X.env.scope x := by first | exact .inl rfl | exact .inr rfl) (hy : Loc X.env.scope y := by first | exact .inl rfl | exact .inr rfl) (hz : Loc X.env.scope z := by first | exact .inl rfl | exact .inr rfl)
    (hfx : X.fn x = true ∨ X.env.scope.names.lookup x = some .local := by first | exact .inl rfl | exact .inr rfl | assumption) (hfy : X.fn y = true ∨ X.env.scope.names.lookup y = some .local := by first | exact .inl rfl | exact .inr rfl | assumption) (hfz : X.fn z = true ∨ X.env.scope.names.lookup z = some .local := by first | exact .inl rfl | exact .inr rfl | assumption)
    (hs : swapsWithSole [.Tuple [.Name x px, .Name y py, .Name z pz] kt pt] (.Tuple [a, b, c] k2 pt2) pos.line X.env = pure false := by rfl) (hw : swappedStores [.Tuple [.Name x px, .Name y py, .Name z pz] kt pt] (.Tuple [a, b, c] k2 pt2) X.env = pure none := by rfl)
    (h1 : (assignEach [.Tuple [.Name x px, .Name y py, .Name z pz] kt pt] X.env).map (·.2) = [assign (.Tuple [.Name x px, .Name y py, .Name z pz] kt pt) X.env] := by rfl)
    (e1 : (assignEach [.Name x px, .Name y py, .Name z pz] X.env).map (·.2) = assign (.Name x px) X.env :: (assignEach [.Name y py, .Name z pz] X.env).map (·.2) := by rfl) (e2 : (assignEach [.Name y py, .Name z pz] X.env).map (·.2) = assign (.Name y py) X.env :: (assignEach [.Name z pz] X.env).map (·.2) := by rfl)
    (e3 : (assignEach [.Name z pz] X.env).map (·.2) = assign (.Name z pz) X.env :: (assignEach [] X.env).map (·.2) := by rfl)
    (hn : (assignEach [.Name x px, .Name y py, .Name z pz] X.env).length = 3 := by rfl) (hst : (assignEach [.Name x px, .Name y py, .Name z pz] X.env).findIdx? (·.1) = none := by rfl) :
    PSd X (.Assign [.Tuple [.Name x px, .Name y py, .Name z pz] kt pt] (.Tuple [a, b, c] k2 pt2) pos) (tPar3M i j l tm) :=
  ps_imp (ps_asg (pe_tup ha) (pg_tup hc (pgs_cons (pg_name hN hi hx hfx) (pgs_cons (pg_name hN hj hy hfy) (pgs_cons (pg_name hN hl hz hfz) pgs_nil e3) e2) e1) hn hst) hs hw h1) fun D σ H ⟨en, Hf, F, E, Dd, S, h, k1, k2, k3, k4, k5⟩ => ⟨en, Hf, F, E, _, S, h, fun vs H1 Hf1 F1 E1 its ps s1 fr S1 r1 h1 => by
    match its, h1 with
    | [u, w, q], h1 =>
      obtain ⟨c1, c2, c3, c4⟩ := h1
      obtain ⟨v1, v2, v3, rfl⟩ := r1.three
      refine ⟨by show 3 ≤ sizeLine; decide, fun p np => ⟨p, [v1, v2, v3], rfl, .inl (.inl upd_same), rfl, v1, [v2, v3], rfl, v2, [v3], rfl, v3, [], rfl, rfl, ?_⟩⟩
      have s2 : Same Hf1 (upd Hf1 p (.tup [v1, v2, v3])) := same_upd (S1.sf.free np)
      have S1' := S1.new (.tup [v1, v2, v3]) np
      obtain ⟨ps2, F2, S2, fr2, r2⟩ := (r1.mono s2).put fr S1' c1
      obtain ⟨ps3, F3, S3, fr3, r3⟩ := r2.put fr2 S2 (c2.setS u.fr)
      obtain ⟨ps4, F4, S4, fr4, r4⟩ := r3.put fr3 S3 ((c3.setS u.fr).setS w.fr)
      cases r4
      exact k1 _ _ _ _ _ (s1.trans s2) S4 c4⟩
end
end L3
/-! L4z: a lambda handed to a def. -/
namespace L3
open PySem PySem.Spec PyProof.Rows L2
variable [Tbs]
section
variable {X : Cx} {pins : List (Addr × Obj)} {σ : L2.St} {H : Hp} {s : Shared}
theorem Inv.addPin (I : L2.Inv X pins σ H s) {p : Addr × Obj} (h : s.heap.get? p.1 = some p.2 ∧ H p.1 = none ∧ p.1 ≠ X.env.locals ∧ p.1 ∉ X.fs ∧ ∀ v, p.2.data ≠ .cell v) : L2.Inv X (p :: pins) σ H s :=
  ⟨I.ok, I.os, I.bare, I.base, I.loc, I.cell, I.free, I.freeC, fun q hq => by
    rcases List.mem_append.mp hq with z | z
    · exact I.pin q (List.mem_append_left _ z)
    · rcases List.mem_cons.mp z with rfl | z
      · exact h
      · exact I.pin q (List.mem_append_right _ z), I.hok, I.len⟩
theorem Inv.dropPin {p : Addr × Obj} (I : L2.Inv X (p :: pins) σ H s) : L2.Inv X pins σ H s :=
  ⟨I.ok, I.os, I.bare, I.base, I.loc, I.cell, I.free, I.freeC, fun q hq => by
    rcases List.mem_append.mp hq with z | z
    · exact I.pin q (List.mem_append_left _ z)
    · exact I.pin q (List.mem_append_right _ (List.mem_cons_of_mem _ z)), I.hok, I.len⟩
abbrev lamO (X : Cx) (params : Arguments) (body : Expr) (scope : Scope) (pm : Value) (c' : Addr) (ctv : Value) : Obj := PySem.W.kla_obj "<lambda>" (X.env.qual ++ "<lambda>") params body scope (cloFrom X.env.cells scope.names []) pm c' ctv
/-- the lambda is made: its code object is new, or found in the table; what is tracked is told exactly -/
theorem lam_make3 {c P : Addr} {ps : Array Value} {params : Arguments} {body : Expr} {scope : Scope} {pos : Pos} {E : Value → Shared → Prop} {Q : Value → Shared → Prop} (I : L2.Inv X pins σ H s) (TB : LamX.TabB X.base X.mg c P) (hcode : X.env.code = .ref c)
    (hP : H P = some (.tbl ps)) (ht : TriplesOk ps.toList) (ha : ∀ (pos : Pos) (cv : Value), codeAmong pos ps.toList = some cv → ∃ c, cv = .ref c ∧ H c = some (LamX.CodeO c (X.env.qual ++ "<lambda>")))
    (hdef : defaultsOf params X.env = ([], [])) (hfree : ∀ y ∈ scope.names, y.2 = .free → ∃ c, X.env.cells.lookup y.1 = some c)
    (h : ∀ (f c' : Addr) (pm ctv : Value) (H1 : Hp) (s' : Shared), L2.Inv X ((f, lamO X params body scope pm c' ctv) :: pins) σ H1 s' →
      ((H1 = H ∧ codeAmong pos ps.toList = some (.ref c')) ∨ (H c' = none ∧ ∃ ps' : Array Value, H1 = upd (upd H P (.tbl ps')) c' (LamX.CodeO c' (X.env.qual ++ "<lambda>")) ∧ TriplesOk ps'.toList ∧ ∀ (p' : Pos) (cv : Value), codeAmong p' ps'.toList = some cv → codeAmong p' ps.toList = some cv ∨ cv = .ref c')) → Q (.ref f) s') :
    wpAny (model X.prog X.w) X.A (eval (.Lambda params body scope pos) X.env) Q E s := by
  refine PySem.W.kla_eval hdef ?_
  have bP : s.heap.BuiltinsAt X.mg P := TB.bm.keeps I.bk
  have hP' : s.heap.get? P = some { cls := .none, data := .fields ps } := I.hok P _ hP
  have nl : ∀ f, s.heap.objs.size ≤ f → f ≠ X.env.locals := fun f hf z => by
    have h1 := I.lt
    rw [← z] at h1
    exact Nat.lt_irrefl _ (Nat.lt_of_lt_of_le h1 hf)
  cases hc : codeAmong pos ps.toList with
  | none =>
    refine PySem.W.kla_makeFunction (mg := X.mg) (c := c) (P := P) (ps := ps) (closure_ok hfree) I.ok.glob (I.mod.glob.keeps I.bk) hcode (TB.code.keeps I.bk) hP' ht hc TB.gP bP fun c' ctv h' tk hx hge hlt hrec htb => ?_
    obtain ⟨c2, oc, vs, t, e2, hoc, hd, hv⟩ := hrec
    cases e2
    have hsz : s.heap.objs.size ≤ h'.objs.size := Nat.le_trans hge (Nat.le_of_lt hlt)
    have nC : H c' = none := I.hok.fresh hge
    have I1 := LamX.inv_table (q := X.env.qual ++ "<lambda>") (t' := tk) (more := #[rawInt pos.line, rawInt pos.col, .ref c']) (h' := h'.push (lamO X params body scope ((X.mg "__name__").getD .none) c' ctv)) I hP
      (fun b o hb e => Heap.get?_push_of_some _ (hx b o hb e)) (Heap.get?_push_of_some _ htb) hge ⟨oc, vs, t, Heap.get?_push_of_some _ hoc, hd, hv⟩
    have eL : (ps ++ #[rawInt pos.line, rawInt pos.col, .ref c']).toList = ps.toList ++ [rawInt pos.line, rawInt pos.col, .ref c'] := by simp
    have n1 : h'.objs.size ≠ c' := Nat.ne_of_gt hlt
    have n2 : h'.objs.size ≠ P := Nat.ne_of_gt (Nat.lt_of_lt_of_le (Heap.lt_size hP') hsz)
    refine h h'.objs.size c' ((X.mg "__name__").getD .none) ctv _ _ (Inv.addPin I1 ⟨Heap.get?_push_size _ rfl, ?_, nl _ hsz, I.nofs hsz, fun v z => (nomatch z)⟩) (.inr ⟨nC, _, rfl, by rw [eL]; exact PySem.TriplesOk_snoc _ _ _ _ ht, fun p' cv hcv => ?_⟩)
    · rw [upd_ne n1, upd_ne n2]
      exact I.hok.fresh hsz
    · rw [eL] at hcv
      exact LamX.among_app _ ht hcv
  | some cv =>
    obtain ⟨c', e, hco⟩ := ha pos cv hc
    subst e
    refine PySem.W.kla_makeFunctionHit (mg := X.mg) (c := c) (P := P) (ps := ps) (closure_ok hfree) I.ok.glob (I.mod.glob.keeps I.bk) hcode (TB.code.keeps I.bk) hP' ht hc bP fun ctv h' tk hx hsz => ?_
    have I1 : L2.Inv X pins σ H { s with heap := h'.push (lamO X params body scope ((X.mg "__name__").getD .none) c' ctv), toks := tk } := I.kept fun b o e => Heap.get?_push_of_some _ (hx b o e)
    exact h h'.objs.size c' ((X.mg "__name__").getD .none) ctv H _ (Inv.addPin I1 ⟨Heap.get?_push_size _ rfl, I.hok.fresh hsz, nl _ hsz, I.nofs hsz, fun v z => (nomatch z)⟩) (.inl ⟨rfl, hc⟩)
end
/-! ### quiet readings: what a lambda's body may do -/
/-- the slots js hold the values hv -/
def Cap (σ : L2.St) : List Nat → List V → Prop
  | [], vs => vs = []
  | j :: js, vs => ∃ v r, vs = v :: r ∧ σ[j]? = some (some v) ∧ Cap σ js r
theorem Cap.get {σ : L2.St} {K : PySem.W.Frag} {Hf : Hp} : ∀ {js : List Nat} {hv : List V} {hd : List D} {m j : Nat} {d : D}, Cap σ js hv → RepL K Hf hv hd → js[m]? = some j → hd[m]? = some d → ∃ v, σ[j]? = some (some v) ∧ Rep K Hf v d
  | [], _, _, _, _, _, _, _, e, _ => by simp at e
  | j :: js, _, _, 0, _, _, ⟨v, r, e, h, _⟩, q, e1, e2 => by
    subst e
    cases q with
    | cons a b =>
      simp at e1 e2
      subst e1
      subst e2
      exact ⟨v, h, a⟩
  | j :: js, _, _, m + 1, _, _, ⟨v, r, e, _, h⟩, q, e1, e2 => by
    subst e
    cases q with
    | cons a b => exact Cap.get h b (m := m) (by simpa using e1) (by simpa using e2)
abbrev TQe := List D → (D → Prop) → Prop
abbrev TQa := List D → (List D → Prop) → Prop
def Grow (Hf H Hf' H' : Hp) : Prop := Same Hf Hf' ∧ Same Hf' H' ∧ Same H H' ∧ ∀ p o, Hf' p = some o → Hf p = some o ∨ H p = none
theorem Grow.refl {Hf H : Hp} (s : Same Hf H) : Grow Hf H Hf H := ⟨Same.refl _, s, Same.refl _, fun _ _ a => .inl a⟩
theorem Grow.trans {Hf H Hf1 H1 Hf2 H2 : Hp} (a : Grow Hf H Hf1 H1) (b : Grow Hf1 H1 Hf2 H2) : Grow Hf H Hf2 H2 := ⟨a.1.trans b.1, b.2.1, a.2.2.1.trans b.2.2.1, fun p o z => by
  rcases b.2.2.2 p o z with q | q
  · exact a.2.2.2 p o q
  · exact .inr (a.2.2.1.free q)⟩
theorem Grow.new {Hf H : Hp} (s : Same Hf H) {p : Addr} (o : HO) (n : H p = none) : Grow Hf H (upd Hf p o) (upd H p o) := ⟨same_upd (s.free n), Same.upd s, same_upd n, fun b u e => by
  by_cases q : b = p
  · subst q
    exact .inr n
  · rw [upd_ne q] at e
    exact .inl e⟩
def liftQe (K : PySem.W.Frag) (js : List Nat) (t : TQe) : TE := fun σ H Q => ∃ Hf hv hd Qd, Cap σ js hv ∧ Same Hf H ∧ RepL K Hf hv hd ∧ t hd Qd ∧ ∀ v H' Hf' d, Grow Hf H Hf' H' → Rep K Hf' v d → Qd d → Q v H'
def liftQa (K : PySem.W.Frag) (js : List Nat) (t : TQa) : TA := fun σ H Q => ∃ Hf hv hd Qd, Cap σ js hv ∧ Same Hf H ∧ RepL K Hf hv hd ∧ t hd Qd ∧ ∀ vs H' Hf' ds, Grow Hf H Hf' H' → RepL K Hf' vs ds → Qd ds → Q vs H'
abbrev PQe (X : Cx) (js : List Nat) (e : Expr) (t : TQe) : Prop := PE X e (liftQe X.K js t)
abbrev PQa (X : Cx) (js : List Nat) (es : List Expr) (t : TQa) : Prop := PA X es (liftQa X.K js t)
section
variable {X : Cx} {js : List Nat} {e : Expr} {es : List Expr} {te : TQe} {ta : TQa} {x : Str} {p pos : Pos} {cc : Nat}
def tQn (m : Nat) : TQe := fun hd Q => match hd[m]? with
  | some d => Q d
  | none => False
theorem q_n (m j : Nat) (hj : js[m]? = some j := by rfl) (hN : X.N[j]? = some x := by rfl) (hv : Vis X.env.scope x := by first | exact Or.inl rfl | exact Or.inr (Or.inl rfl) | exact Or.inr (Or.inr rfl)) (hd : (x == ("__debug__" : Str)) = false := by decide) (hcd : (x == ("__classdict__" : Str)) = false := by decide) : PQe X js (.Name x p) (tQn m) :=
  pe_imp (pv j hN hv hd hcd) fun σ H Q ⟨Hf, hv, hd, Qd, c, s, r, h, k⟩ => by
    unfold tQn at h
    split at h
    · rename_i d e
      obtain ⟨v, h1, h2⟩ := c.get r hj e
      exact ⟨v, h1, k _ _ _ _ (Grow.refl s) h2 h⟩
    · exact h.elim
def tQc (d : D) : TQe := fun _ Q => Q d
theorem q_int {i : Int} : PQe X js (.Constant (.int i) cc p) (tQc (.int i)) := pe_imp pe_int fun σ H Q ⟨Hf, hv, hd, Qd, c, s, r, h, k⟩ => k _ _ _ _ (Grow.refl s) (.int i) h
theorem q_str {i : Str} : PQe X js (.Constant (.str i) cc p) (tQc (.str i)) := pe_imp pe_str fun σ H Q ⟨Hf, hv, hd, Qd, c, s, r, h, k⟩ => k _ _ _ _ (Grow.refl s) (.str i) h
def tQnil : TQa := fun _ Q => Q []
theorem q_nil : PQa X js [] tQnil := pa_imp pa_nil fun σ H Q ⟨Hf, hv, hd, Qd, c, s, r, h, k⟩ => k _ _ _ _ (Grow.refl s) .nil h
def tQcons (te : TQe) (ta : TQa) : TQa := fun hd Q => te hd fun d => ta hd fun ds => Q (d :: ds)
theorem q_cons (he : PQe X js e te) (hr : PQa X js es ta) (hs : starEach (e :: es) X.env = (false, eval e X.env) :: starEach es X.env := by rfl) : PQa X js (e :: es) (tQcons te ta) :=
  pa_imp (pa_cons he hr hs) fun σ H Q ⟨Hf, hv, hd, Qd, c, s, r, h, k⟩ => ⟨Hf, hv, hd, _, c, s, r, h, fun v H1 Hf1 d g1 r1 h1 => ⟨Hf1, hv, hd, _, c, g1.2.1, r.mono g1.1, h1, fun vs H2 Hf2 ds g2 r2 h2 => k _ _ _ _ (g1.trans g2) (.cons (r1.mono g2.1) r2) h2⟩⟩
def tQtup (ta : TQa) : TQe := fun hd Q => ta hd fun ds => ds.length ≤ sizeLine ∧ Q (.tup ds)
theorem q_tup {x1} (ha : PQa X js es ta) : PQe X js (.Tuple es x1 pos) (tQtup ta) :=
  pe_imp (pe_tup ha) fun σ H Q ⟨Hf, hv, hd, Qd, c, s, r, h, k⟩ => ⟨Hf, hv, hd, _, c, s, r, h, fun vs H1 Hf1 ds g1 r1 h1 => ⟨by rw [r1.length]; exact h1.1, fun p np =>
    k _ _ _ _ (g1.trans (Grow.new g1.2.1 (.tup vs) np)) (.tup (.inl (.inl upd_same)) (r1.mono (same_upd (g1.2.1.free np)))) h1.2⟩⟩
end
/-- the reading of the lambda's body: f(..), f a def of the module -/
def tLq (K : PySem.W.Frag) (mg : Str → Option Value) (js : List Nat) (ta : TQa) (sp : SpX) (E : XK) : TE := fun σ H Q => liftQa K js ta σ H fun vs H1 => liftPX K mg sp vs H1 Q E
abbrev lamE (X : Cx) (scope : Scope) (L f c' : Addr) : Env := LamX.lamEnv X scope L f c'
section
variable {X : Cx} {A : Around} {outer : List Env} {s : Shared} {H : Hp} {E : XK} {scope : Scope} {f c' : Addr} {k : Nat} {fl : Addr} {fd : FuncData} {ps : List Str} {sp : SpX} {js : List Nat} {ta : TQa} {e : Expr} {es : List Expr} {x : Str} {p pos : Pos}
theorem q_call (F : FnG X.prog X.w X.K X.mg X.base (L2.CX X.prog X.w) k fl fd ps (liftPX X.K X.mg sp)) (hgd : A.guards = some []) (hr : Room k (A.deeper (lamE X scope s.heap.objs.size f c'))) (hm : X.mg x = some (.ref fl)) (hk : PySem.W.keepIn X.K (.ref fl) = true) (hb : Binds X.K fd ps [])
    (ha : PQa (LamX.lamCx X A outer s H E scope f c') js (e :: es) ta) (hg : Gl (LamX.lamCx X A outer s H E scope f c') x := by rfl) (hdb : (x == ("__debug__" : Str)) = false := by decide)
    (he : starEach (e :: es) (LamX.lamCx X A outer s H E scope f c').env = (false, eval e (LamX.lamCx X A outer s H E scope f c').env) :: starEach es (LamX.lamCx X A outer s H E scope f c').env := by rfl) (hpl : (backTo pos (starEach es (LamX.lamCx X A outer s H E scope f c').env)).any (·.1) = false := by rfl) :
    PE (LamX.lamCx X A outer s H E scope f c') (.Call (.Name x p) (e :: es) [] pos) (tLq X.K X.mg js ta sp E) :=
  pe_callG (X := LamX.lamCx X A outer s H E scope f c') F hgd hr hg hm hk hb (passes_call (takes_of rfl rfl rfl rfl) fun _ _ _ _ h => h) ha hdb he hpl
end
/-! ### the def that gets the lambda -/
abbrev LamR := (D → Prop) → (Xd → Prop) → Prop
def LMono (L : LamR) : Prop := ∀ A B A' B', (∀ d, A d → A' d) → (∀ x, B x → B' x) → L A B → L A' B'
def mkL (F : LamR) : LamR := fun A B => ∃ A0 B0, (∀ d, A0 d → A d) ∧ (∀ x, B0 x → B x) ∧ F A0 B0
theorem mkL_mono (F : LamR) : LMono (mkL F) := fun A B A' B' a b ⟨A0, B0, h1, h2, h3⟩ => ⟨A0, B0, fun d h => a d (h1 d h), fun x h => b x (h2 x h), h3⟩
theorem mkL_of {F : LamR} {A : D → Prop} {B : Xd → Prop} (h : F A B) : mkL F A B := ⟨A, B, fun _ h => h, fun _ h => h, h⟩
def tActX (f : Addr) (hv : List V) (hd : List D) (c' : Addr) (o : HO) (L : LamR) : TXd := fun W E Q => E[0]? = some (.cl (.ref f) hv hd c' o) ∧ L (fun d => Q d E) (fun x => W x E)
def ActD (Z : Cx) (a : Str) (f : Addr) (hv : List V) (hd : List D) (c' : Addr) (o : HO) (L : LamR) : Prop := ∀ (pn : List (Addr × Obj)) (xe : Value → Shared → Prop) (p1 p2 : Pos), PXd (Z.tr pn xe) (.Call (.Name a p1) [] [] p2) (tActX f hv hd c' o L)
section
variable {X : Cx} {pins : List (Addr × Obj)} {σ : L2.St} {H : Hp} {s : Shared}
theorem lam_act {Ng : List Str} {qg : Str} {sg : Scope} {g f c' : Addr} {cdg pm ctv : Value} {params : Arguments} {body : Expr} {a : Str} {scope : Scope} {k : Nat} {sp : SpX} {js : List Nat} {ta : TQa} {hv : List V} {hd : List D} {Eg : XK}
    (I : L2.Inv X pins σ H s) (hp : (f, lamO X params body scope pm c' ctv) ∈ pins) (L : LamX.LamS X.env.scope scope)
    (hbind : bindArgs (PySem.W.kla_fn "<lambda>" (X.env.qual ++ "<lambda>") params body scope (cloFrom X.env.cells scope.names []) pm (.ref c') ctv) ⟨[], []⟩ = pure [])
    (hr : Room (k + 1) (X.A.deeper (envOfC qg sg s.heap.objs.size g cdg)))
    (hbody : ∀ (A : Around) (outer : List Env) (s1 : Shared) (H1 : Hp) (E : XK), A.guards = X.A.guards → Room k (A.deeper (lamE X scope s1.heap.objs.size f c')) → PE (LamX.lamCx X A outer s1 H1 E scope f c') body (tLq X.K X.mg js ta sp E))
    (Ca : Cap σ js hv) (hN : Ng[0]? = some a) (hva : Vis sg a) (hdb : (a == ("__debug__" : Str)) = false) (hcd : (a == ("__classdict__" : Str)) = false) :
    ActD (cxOf CX0 X.prog X.w X.K X.mg X.base Ng qg sg g cdg X.A X.stack s H Eg) a f hv hd c' (LamX.CodeO c' (X.env.qual ++ "<lambda>")) (mkL fun A B => ta hd fun ds => sp ds A B) := by
  intro pn xe p1 p2
  generalize hZ : (cxOf CX0 X.prog X.w X.K X.mg X.base Ng qg sg g cdg X.A X.stack s H Eg).tr pn xe = Z
  refine ⟨fun pinsZ sZ σZ HZ Q IZ h => ?_⟩
  obtain ⟨en, Hf, F, E, Qd, Wd, S, ⟨h0, hL⟩, kQ, kx⟩ := h
  have h00 := S.sl 0 _ h0
  obtain ⟨hs, rv, hc'⟩ := h00
  obtain ⟨A0, B0, ka, kb, hsp⟩ := hL
  have hx : PassesAt (L2.CX Z.prog Z.w) Z σZ (wxe Z σZ) := wx_pass σZ
  obtain ⟨of0, hfn, hfl, hffs, _⟩ := I.pin _ (List.mem_append_right _ hp)
  have hfr : f ∉ frs X.stack := fun z => by
    rcases List.mem_cons.mp (I.stkSub _ z) with e | e
    · exact hfl e
    · exact hffs e
  subst hZ
  refine wpAny_Call_Name_kw (thn ((pe_var (pos := p1) (i := 0) hN hva hdb hcd).run pinsZ sZ σZ HZ (fun v H1 => v = .ref f ∧ H1 = HZ) IZ ⟨.ref f, hs, rfl, rfl⟩) fun u s1 ⟨v, H1, I1, r1, q1⟩ => ?_)
  obtain ⟨ev, eH⟩ := q1
  subst ev
  rw [eH] at I1
  obtain rfl : u = Value.ref f := r1
  have of1 : s1.heap.get? f = some (lamO X params body scope pm c' ctv) := I1.base.keep f _ of0 hfn hfr (fun z => nomatch (show f ∈ ([] : List Addr) from z))
  refine PySem.W.callWith_F0 ⟨_, _, _, _, of1⟩ ?_
  have un : Un (frs X.stack) [] H HZ s.heap s1.heap := I1.base
  obtain ⟨⟨oc, vs, t, hoc, hdc, hvc⟩, _, _⟩ := I1.hok c' _ (S.sf _ _ hc')
  have rc : codeAny (model X.prog X.w) (X.A.deeper (envOfC qg sg s.heap.objs.size g cdg)) (.call (.ref f) ⟨[], []⟩) (CR (L2.CX X.prog X.w) (envOfC qg sg s.heap.objs.size g cdg :: X.stack) X.prog X.w HZ s1 Q (wxe ((cxOf CX0 X.prog X.w X.K X.mg X.base Ng qg sg g cdg X.A X.stack s H Eg).tr pn xe) σZ)) s1 := by
    refine PySem.W.kla_callFunE hr.depth of1 rfl L.co L.gen rfl ⟨c', oc, vs, t, rfl, hoc, hdc, hvc⟩ ?_
    rw [hbind]
    refine wpAny_pure (wpAny_newFunctionEnv (fun y hy => (L.own y hy).2) (fun y hy => absurd hy (by simp)) (fun h₁ hns hsb => ⟨I1.nolimit.fresh _ hsb, ?_⟩) L.kind)
    show codeAny _ _ (.expr body (LamX.lamEnv X scope s1.heap.objs.size f c')) _ _
    have kp : ∀ b o, s1.heap.get? b = some o → h₁.get? b = some o := fun b o e => hsb.extBut b o (Nat.ne_of_lt (Heap.lt_size e)) (Heap.get?_push_of_some _ e)
    have J : L2.Inv (LamX.lamCx X (X.A.deeper (envOfC qg sg s.heap.objs.size g cdg)) (envOfC qg sg s.heap.objs.size g cdg :: X.stack) s1 HZ (wxe ((cxOf CX0 X.prog X.w X.K X.mg X.base Ng qg sg g cdg X.A X.stack s H Eg).tr pn xe) σZ) scope f c') [] σ HZ { s1 with heap := h₁, toks := s1.toks + ([] : List (Str × Value)).length } :=
      LamX.lam_start2 I L I1.env0 hr.hd un hns kp
    refine PySem.W.kla_codeExpr (wpAny_mono ((hbody (X.A.deeper (envOfC qg sg s.heap.objs.size g cdg)) (envOfC qg sg s.heap.objs.size g cdg :: X.stack) s1 HZ _ rfl (hr.deeper _)).run [] _ _ HZ Q J ?_) (fun v s' hq => ?_) fun e s' hq => hq)
    · refine ⟨Hf, hv, hd, _, Ca, S.sf, rv, hsp, fun vs2 H2 Hf2 ds2 g2 r2 q2 => ⟨Hf2, ds2, A0, B0, g2.2.1, r2, q2, fun v H3 Hf3 d s3 s4 s5 g3 r3 q3 => ?_, fun cls x d H3 Hf3 s3 s4 s5 g3 r3 q3 => ?_⟩⟩
      · have g4 := g2.trans ⟨s3, s4, s5, g3⟩
        exact kQ v H3 Hf3 F E d g4.1 (S.grow g4.1 g4.2.1 g4.2.2.1 g4.2.2.2) r3 (ka d q3)
      · have g4 := g2.trans ⟨s3, s4, s5, g3⟩
        exact kx cls x H3 Hf3 F E d g4.1 (S.grow g4.1 g4.2.1 g4.2.2.1 g4.2.2.2) r3 (kb x q3)
    · obtain ⟨w', H', J', rv, q⟩ := hq
      exact ⟨w', H', J'.os, J'.bare, J'.base, J'.hok, rv, q⟩
  refine wpAny_call (codeAny_mono rc fun r s' hq => ?_)
  match r, hq with
  | .error e, hq => exact hx pinsZ HZ s1 e s' I1 hq
  | .ok (.ret u), hq => exact I1.after hq
end
def CalL (P : Program) (w : World) (K : PySem.W.Frag) (mg : Str → Option Value) (base : Heap) (x : Str) (st : Stmt) (N : List Str) (a : Str) (k : Nat) (ps : List Str) (R : LamR → List D → (D → Prop) → Prop) : Prop :=
  ∃ g fd, mg x = some (.ref g) ∧ PySem.W.keepIn K (.ref g) = true ∧ Binds K fd (a :: ps) [] ∧ N[0]? = some a ∧ Vis (defScope st) a ∧ (∀ L ds Q, R L ds Q → ds.length = ps.length) ∧
    ∀ (A : Around), A.guards = some [] → Room k A → ∀ (outer : List Env) (s : Shared) (H : Hp) (args : Args) (us : List Value) (vs : List V) (Q : VK) (E : XK) (f : Addr) (hv : List V) (hd : List D) (c' : Addr) (o : HO) (L : LamR) (Hf : Hp) (ds : List D) (Qd : D → Prop),
      Env0 P w K mg base A outer s H → BindsTo s fd args ((a :: ps).zip (.ref f :: us)) → Vals vs us → LMono L → Same Hf H → RepL K Hf vs ds → RepL K Hf hv hd → Hf c' = some o →
      (∀ cdv, ActD (cxOf CX0 P w K mg base N x (defScope st) g cdv A outer s H E) a f hv hd c' o L) → R L ds Qd →
      (∀ v H' Hf' d, Grow Hf H Hf' H' → Rep K Hf' v d → Qd d → Q v H') → codeAny (model P w) A (.call (.ref g) args) (CR CX0 outer P w H s Q E) s
section
variable {P : Program} {w : World} {K : PySem.W.Frag} {mg : Str → Option Value} {base : Heap}
theorem cal_lam {x a : Str} {st : Stmt} {N ps : List Str} {k : Nat} {R : LamR → List D → (D → Prop) → Prop} (d : Dfn K mg x st (a :: ps)) (S : FnScope N (a :: ps) (defScope st)) (h0 : N[0]? = some a) (hva : Vis (defScope st) a) (len : ∀ L ds Q, R L ds Q → ds.length = ps.length)
    (hbody : ∀ (f : Addr) (hv : List V) (hd : List D) (c' : Addr) (o : HO) (L : LamR), LMono L → ∃ t : TSd, (∀ (g : Addr) (cdv : Value) (A : Around) (outer : List Env) (s : Shared) (H : Hp) (E : XK), A.guards = some [] → Room k (A.deeper (envOfC x (defScope st) s.heap.objs.size g cdv)) →
      ActD (cxOf CX0 P w K mg base N x (defScope st) g cdv A outer s H E) a f hv hd c' o L → PBd (cxOf CX0 P w K mg base N x (defScope st) g cdv A outer s H E).nox (defBody st) t) ∧
      ∀ ds Q, R L ds Q → t { nx := fun _ => Q .non, rt := fun d _ => Q d } (startD N (.cl (.ref f) hv hd c' o :: ds.map .fz))) : CalL P w K mg base x st N a (k + 1) ps R := by
  obtain ⟨g, fd, F, hm, hb⟩ := d
  have kp := F.kp
  obtain ⟨oc, od, kV, doc, pm, an, cdv, ct, osl, efd, lk, hcd⟩ := F.ex
  subst efd
  refine ⟨g, _, hm, kp, hb, h0, hva, len, fun A hgd hr outer s H args us vs Q E f hv hd c' o L Hf ds Qd e0 bt r hL sf rd rh hc hact hR kk => ?_⟩
  have keepB : ∀ b o, base.get? b = some o → s.heap.get? b = some o := fun b o e => (e0.bs b o e).1
  have kin : K.In s.heap := e0.mod.kin.keeps keepB
  have hl := len _ _ _ hR
  obtain ⟨t, ht, hq⟩ := hbody f hv hd c' o L hL
  refine codeAny_call_function hr.depth (kin _ _ lk) rfl S.co S.gen rfl (PySem.W.codeRec_of kin hcd) (bt _ _ _ _ ?_)
  refine wpAny_newFunctionEnv_cells S.kind (fun y hy => ?_) fun env he s1 xc => ?_
  · rcases S.par y.1 (List.of_mem_zip hy).1 with q | q
    · exact .inl q
    · exact .inr ⟨q, PySem.W.cellsFrom_some _ _ _ (.inl q)⟩
  · subst he
    have hlv : (V.ref f :: vs).length = (a :: ps).length := by rw [List.length_cons, List.length_cons, rd.length, hl]
    have I0 : L2.Inv (cxOf CX0 P w K mg base N x (defScope st) g cdv A outer s H E) [] (L2.start N (.ref f :: vs)) H s1 := inv_start S hr.hd e0 hlv (.cons rfl r) xc
    have hlen : (L2.start N (V.ref f :: vs)).length = (startD N (.cl (.ref f) hv hd c' o :: ds.map .fz)).length := by
      unfold L2.start startD
      simp only [List.length_append, List.length_map, List.length_replicate, List.length_cons, rd.length]
    refine ⟨(e0.mod.nolimit.keeps keepB).keeps xc.toInCall.keep, codeAny_func (wpAny_mono ((ht g cdv A outer s H E hgd (hr.deeper _) (hact cdv)).nox.run [] s1 _ H { nx := fun _ H' => Q .non H', rt := Q } I0 ?_) (fun fl s' hs => ?_) fun _ _ z => z)⟩
    · refine ⟨⟨H, Hf, fun _ => [], fun _ => .non, noHp⟩, Hf, fun _ => [], startD N (.cl (.ref f) hv hd c' o :: ds.map .fz), _, ?_, hq ds Qd hR, fun σ' H' Hf' F' E' s1 S1 q => ?_, fun _ _ _ _ _ _ _ q => q.elim, fun _ _ _ _ _ _ _ q => q.elim, fun v σ' H' Hf' F' E' d s1 S1 r1 q => ?_, fun _ _ _ _ _ _ _ _ _ _ _ q => q.elim⟩
      · refine { sf := sf, so := fun p o _ a => a, dom := fun p o a => ⟨o, a⟩, sp := fun p o a => (nomatch a), pf := fun p o a => (nomatch a), gf := Same.refl _, gn := fun p o a => .inl a, dj := fun i j p a => (nomatch a), fp := fun i p a => (nomatch a), len := hlen, sl := fun i sl e => ?_ }
        unfold startD at e
        cases i with
        | zero =>
          rw [List.cons_append, List.getElem?_cons_zero] at e
          cases e
          exact ⟨start_at rfl, rh, hc⟩
        | succ i =>
          rw [List.cons_append, List.getElem?_cons_succ] at e
          by_cases hi : i < ds.length
          · rw [List.getElem?_append_left (by rw [List.length_map]; exact hi), List.getElem?_map] at e
            obtain ⟨d, ed⟩ := getE hi
            rw [ed] at e
            cases e
            obtain ⟨v, ev, rv⟩ := rd.get ed
            exact ⟨v, start_at (by rw [List.getElem?_cons_succ]; exact ev), rv⟩
          · rw [List.getElem?_append_right (by rw [List.length_map]; omega)] at e
            have e2 := List.mem_of_getElem? e
            rw [List.eq_of_mem_replicate e2]
            trivial
      · exact kk .non H' Hf' .non ⟨s1, S1.sf, fun p o a => S1.so p o (fun _ z => nomatch z) a, fun p o a => S1.gn p o a⟩ .non q
      · exact kk v H' Hf' d ⟨s1, S1.sf, fun p o a => S1.so p o (fun _ z => nomatch z) a, fun p o a => S1.gn p o a⟩ r1 q
    · match fl, hs with
      | .ret u, ⟨v, σ', H', J, rv, q⟩ => exact ⟨v, H', J.os, J.bare, J.base, J.hok, rv, q⟩
      | .next, ⟨σ', H', J, q⟩ => exact ⟨.non, H', J.os, J.bare, J.base, J.hok, rfl, q⟩
      | .brk, ⟨_, _, _, q⟩ => exact q.elim
      | .cont, ⟨_, _, _, q⟩ => exact q.elim
end
/-! ### the table is the deck's -/
section
variable {K : PySem.W.Frag} {en : Et} {Hf H : Hp} {F : Nat → List Addr} {E : En} {σ : L2.St} {j : Nat} {P c' : Addr} {q : Str}
theorem Sat.tab (S : Sat K en Hf H F E σ) (hj : isDk E j) (hm : (P, q) ∈ Tbs.T) : TabF Hf H P q := by
  obtain ⟨b, cs, n, e⟩ := hj.ex
  obtain ⟨v, hv, ⟨p, q', rfl, ne, hF, hp, hq, hn, ht⟩, _⟩ := S.own e
  exact ht _ hm
theorem Sat.tabNew (S : Sat K en Hf H F E σ) (hj : isDk E j) (hm : (P, q) ∈ Tbs.T) (hu : ∀ t ∈ Tbs.T, t.1 = P → t.2 = q) {ps ps' : Array Value} (hP : H P = some (.tbl ps)) (hps : ∀ (p' : Pos) (cv : Value), codeAmong p' ps.toList = some cv → ∃ c, cv = .ref c ∧ Hf c = some (LamX.CodeO c q))
    (n : H c' = none) (ht' : TriplesOk ps'.toList) (ha : ∀ (p' : Pos) (cv : Value), codeAmong p' ps'.toList = some cv → codeAmong p' ps.toList = some cv ∨ cv = .ref c') :
    Sat K en (upd Hf c' (LamX.CodeO c' q)) (upd (upd H P (.tbl ps')) c' (LamX.CodeO c' q)) F E σ := by
  obtain ⟨b, cs, m, e⟩ := hj.ex
  obtain ⟨v, hv, ⟨p, r, rfl, ne, hF, hp, hq, hn, ht⟩, _⟩ := S.own e
  have nc : Hf c' = none := S.sf.free n
  have pc : P ≠ c' := ne_of_none hP n
  have tP : P ∈ tabs := List.mem_map.mpr ⟨_, hm, rfl⟩
  have mP : P ∈ F j := by rw [hF]; exact List.mem_cons_of_mem _ (List.mem_cons_of_mem _ tP)
  have fP : Hf P = none := (S.fp j P mP).1
  have eE : E.set j (.ow b (.dk cs m)) = E := by
    apply List.ext_getElem?
    intro i
    by_cases h : j = i
    · subst h
      rw [List.getElem?_set_self (List.getElem?_eq_some_iff.mp e).1, e]
    · rw [List.getElem?_set_ne h]
  have s1 : Same Hf (upd Hf c' (LamX.CodeO c' q)) := same_upd nc
  have at_ : ∀ b u, b ≠ P → H b = some u → upd (upd H P (.tbl ps')) c' (LamX.CodeO c' q) b = some u := fun b u h1 h2 => by rw [upd_ne (ne_of_none h2 n), upd_ne h1]; exact h2
  have nep : p ≠ P := fun z => hn.1 (by rw [z]; exact tP)
  have ner : r ≠ P := fun z => hn.2 (by rw [z]; exact tP)
  have go := S.change (Hf' := upd Hf c' (LamX.CodeO c' q)) (H' := upd (upd H P (.tbl ps')) c' (LamX.CodeO c' q)) e hv s1 (fun b u z => ?_) (fun b u nb z => at_ b u (fun y => nb (by rw [y]; exact mP)) z) (fun b u z => ?_) (fun b u z => ?_) (o' := .dk cs m)
    ⟨p, r, rfl, ne, hF, at_ _ _ nep hp, at_ _ _ ner hq, hn, fun t m => ?_⟩
  · rw [eE] at go
    exact go
  · by_cases y : b = c'
    · subst y
      rw [upd_same] at z ⊢
      exact z
    · rw [upd_ne y] at z
      exact at_ b u (fun x => by rw [x, fP] at z; cases z) (S.sf _ _ z)
  · by_cases y : b = P
    · subst y
      exact ⟨_, by rw [upd_ne pc, upd_same]⟩
    · exact ⟨u, at_ b u y z⟩
  · by_cases y : b = c'
    · subst y
      exact .inr n
    · rw [upd_ne y] at z
      exact .inl z
  · by_cases y : t.1 = P
    · have y2 := hu t m y
      rw [y, y2]
      refine ⟨ps', by rw [upd_ne pc, upd_same], ht', fun p' cv hcv => ?_⟩
      rcases ha p' cv hcv with z | z
      · obtain ⟨c0, e1, e2⟩ := hps p' cv z
        exact ⟨c0, e1, s1 _ _ e2⟩
      · exact ⟨c', z, upd_same⟩
    · exact (ht t m).mono s1 fun u z => at_ _ _ y z
end
/-- what the maker of a lambda knows: its code object c, its table P -/
structure LamAt (base : Heap) (mg : Str → Option Value) (c P : Addr) (q : Str) : Prop where
  tb : LamX.TabB base mg c P
  mem : (P, q) ∈ Tbs.T
  uniq : ∀ t ∈ Tbs.T, t.1 = P → t.2 = q
/-- the captured data -/
def capD (E : En) : List Nat → Option (List D)
  | [] => some []
  | j :: js => match E[j]?, capD E js with
    | some (.fz d), some ds => some (d :: ds)
    | _, _ => none
theorem cap_of {K : PySem.W.Frag} {en : Et} {Hf H : Hp} {F : Nat → List Addr} {E : En} {σ : L2.St} (S : Sat K en Hf H F E σ) : ∀ {js : List Nat} {hd : List D}, capD E js = some hd → ∃ hv, Cap σ js hv ∧ RepL K Hf hv hd
  | [], _, e => by
    cases e
    exact ⟨[], rfl, .nil⟩
  | j :: js, hd, e => by
    unfold capD at e
    split at e
    · rename_i d ds e1 e2
      cases e
      obtain ⟨v, h1, h2⟩ := S.get e1
      obtain ⟨hv, h3, h4⟩ := cap_of S e2
      exact ⟨v :: hv, ⟨v, hv, rfl, h1, h3⟩, .cons h2 h4⟩
    · cases e
/-- g(lambda: f(..), ..): j the deck's slot, js the slots that the lambda captures -/
def tLamD (j : Nat) (js : List Nat) (tq : TQa) (sp : SpX) (R : LamR → List D → (D → Prop) → Prop) (ta : TAd) : TEd := fun E Q => isDk E j ∧ ta E fun ds E1 => match capD E1 js with
  | some hd => R (mkL fun A B => tq hd fun as => sp as A B) ds fun d => Q d E1
  | none => False
section
variable {X : Cx}
theorem d_lam {x a : Str} {st : Stmt} {N ps : List Str} {kg k : Nat} {R : LamR → List D → (D → Prop) → Prop} {c P : Addr} {params : Arguments} {body : Expr} {scope : Scope} {tq : TQa} {sp : SpX} {es : List Expr} {ta : TAd} {p lpos pos : Pos} (j : Nat) (js : List Nat)
    (C : CalL X.prog X.w X.K X.mg X.base x st N a kg ps R) (hgd : X.A.guards = some []) (hr : Room kg X.A) (hr2 : Room (k + 2) X.A) (LA : LamAt X.base X.mg c P (X.env.qual ++ "<lambda>")) (hcode : X.env.code = .ref c) (ha : PAd X es ta)
    (hbody : ∀ (A : Around) (outer : List Env) (s1 : Shared) (H1 : Hp) (E : XK) (f c' : Addr), A.guards = some [] → Room k (A.deeper (lamE X scope s1.heap.objs.size f c')) → PE (LamX.lamCx X A outer s1 H1 E scope f c') body (tLq X.K X.mg js tq sp E))
    (L : LamX.LamS X.env.scope scope := by exact LamX.lamS_by (by decide +kernel)) (hdef : defaultsOf params X.env = ([], []) := by rfl)
    (hbind : ∀ (q : Str) (cl : List (Str × Addr)) (pm cv ctv : Value), bindArgs (PySem.W.kla_fn "<lambda>" q params body scope cl pm cv ctv) ⟨[], []⟩ = pure [] := by intros; rfl) (hg : Gl X x := by rfl) (hdb : (x == ("__debug__" : Str)) = false := by decide) (had : (a == ("__debug__" : Str)) = false := by decide) (hac : (a == ("__classdict__" : Str)) = false := by decide)
    (he : starEach (.Lambda params body scope lpos :: es) X.env = (false, eval (.Lambda params body scope lpos) X.env) :: starEach es X.env := by rfl) (hpl : (backTo pos (starEach es X.env)).any (·.1) = false := by rfl) :
    PEd X (.Call (.Name x p) (.Lambda params body scope lpos :: es) [] pos) (tLamD j js tq sp R ta) := by
  obtain ⟨g, fd, hm, hk, hb, h0, hva, len, run⟩ := C
  refine ⟨fun pins s σ H Q I ⟨en, Hf, F, E, Qd, S, ⟨hj, h⟩, kk⟩ => ?_⟩
  obtain ⟨pt, hP, hT, hA⟩ := S.tab hj LA.mem
  refine wpAny_Call_Name_kw (ld_glob I hg hm ?_ hdb)
  refine PySem.W.callWith_K (h₀ := X.base) I.ok.mod.kin hk ?_ he hpl
  show wpAny _ _ (spliced ((false, eval (.Lambda params body scope lpos) X.env) :: backTo pos (starEach es X.env))) _ _ s
  refine Calls.spliced_cons (lam_make3 I LA.tb hcode hP hT (fun pos cv hcv => ?_) hdef (L.has I.ok) fun f c' pm ctv H1 s1 I1 hH => ?_)
  · obtain ⟨c0, e1, e2⟩ := hA pos cv hcv
    exact ⟨c0, e1, S.sf _ _ e2⟩
  · have hS : ∃ Hf1, Same Hf Hf1 ∧ Sat X.K en Hf1 H1 F E σ ∧ Hf1 c' = some (LamX.CodeO c' (X.env.qual ++ "<lambda>")) := by
      rcases hH with ⟨rfl, e⟩ | ⟨n, ps', rfl, ht', ha'⟩
      · obtain ⟨c0, e1, e2⟩ := hA _ _ e
        cases e1
        exact ⟨Hf, Same.refl _, S, e2⟩
      · exact ⟨_, same_upd (S.sf.free n), S.tabNew hj LA.mem LA.uniq hP hA n ht' ha', upd_same⟩
    obtain ⟨Hf1, s01, S1, hc1⟩ := hS
    refine thn (ha.run pos _ s1 σ H1 (fun vs H2 => ∃ Hf2 F2 E2 ds, Same Hf1 Hf2 ∧ Sat X.K en Hf2 H2 F2 E2 σ ∧ RepL X.K Hf2 vs ds ∧ (match capD E2 js with
      | some hd => R (mkL fun A B => tq hd fun as => sp as A B) ds fun d => Qd d E2
      | none => False)) I1 ⟨en, Hf1, F, E, _, S1, h, fun vs H2 Hf2 F2 E2 ds s2 S2 r2 h2 => ⟨Hf2, F2, E2, ds, s2, S2, r2, h2⟩⟩) fun us s2 ⟨vs, H2, I2, r2, Hf2, F2, E2, ds, s12, S2, rd, h2⟩ => ?_
    split at h2
    · rename_i hd ed
      obtain ⟨hv, hcap, rh⟩ := cap_of S2 ed
      refine ⟨I2.kIn, ?_⟩
      have lu : us.length = ps.length := by rw [← r2.length, rd.length, len _ _ _ h2]
      have bt : BindsTo s2 fd ⟨.ref f :: us, []⟩ ((a :: ps).zip (.ref f :: us)) := by
        have z := hb s2 (.ref f :: us) I2.kIn (by rw [List.append_nil, List.length_cons, List.length_cons, lu])
        rw [List.append_nil] at z
        exact z
      have rc := run X.A hgd hr X.stack s2 H2 ⟨.ref f :: us, []⟩ us vs Q (fun _ _ _ => False) f hv hd c' _ _ Hf2 ds (fun d => Qd d E2) I2.env0 bt r2 (mkL_mono _) S2.sf rd rh (s12 _ _ hc1)
        (fun cdv => lam_act (pm := pm) (ctv := ctv) (params := params) (body := body) (scope := scope) (k := k) (js := js) (sp := sp) (ta := tq) I2 (List.mem_cons_self) L (hbind _ _ _ _ _) (hr2.deeper _) (fun A outer s1 H1 E hgA hrA => hbody A outer s1 H1 E f c' (hgA.trans hgd) hrA) hcap h0 hva had hac) h2
        (fun v H' Hf' d g4 r4 q4 => kk v H' Hf' F2 E2 d ((s01.trans s12).trans g4.1) (S2.grow g4.1 g4.2.1 g4.2.2.1 g4.2.2.2) r4 q4)
      refine wpAny_call (codeAny_mono rc fun r s3 hq => ?_)
      match r, hq with
      | .error e, hq => exact (show False from hq).elim
      | .ok (.ret u), hq =>
        obtain ⟨v, H', I3, q1, q2⟩ := I2.after hq
        exact ⟨v, H', Inv.dropPin I3, q1, q2⟩
    · exact h2.elim
end
end L3
/-! L5a: defs whose code object is known; the end of a law with tables. -/
namespace L3
open PySem PySem.Spec L2
open PyProof.Rows (IntsAre AllBare recsOf)
variable [Tbs]
section
variable {P : Program} {w : World} {K : PySem.W.Frag} {mg : Str → Option Value} {base : Heap}
theorem FnG.bodyC {CX : CXT} {x qual : Str} {st : Stmt} {f : Addr} {fd : FuncData} {N ps : List Str} {k : Nat} {sp : Sp} {c : Addr} (F : Fun K x qual st f fd) (hcc : fd.code = .ref c) (S : FnScope N ps (defScope st)) (len : ∀ vs H Q E, sp vs H Q E → vs.length = ps.length)
    (hb : ∀ (cdv : Value), cdv = .ref c → ∀ (A : Around) (outer : List Env) (s : Shared) (H : Hp) (vs : List V) (Q : VK) (E : XK), A.guards = some [] → Room k (A.deeper (PyProof.Rows.envOfC qual (defScope st) s.heap.objs.size f cdv)) → sp vs H Q E →
      ∃ t, PSs (cxOf CX P w K mg base N qual (defScope st) f cdv A outer s H E) (defBody st) t ∧ t { nx := fun _ H' => Q .non H', rt := Q } (L2.start N vs) H) : FnG P w K mg base CX (k + 1) f fd ps sp := by
  obtain ⟨oc, od, kV, doc, pm, an, cdv, ct, osl, efd, lk, hcd⟩ := F.ex
  subst efd
  refine ⟨len, fun A hg hr outer s H args us vs Q E e0 bt r h => ?_⟩
  have keepB : ∀ b o, base.get? b = some o → s.heap.get? b = some o := fun b o e => (e0.bs b o e).1
  have kin : K.In s.heap := e0.mod.kin.keeps keepB
  refine codeAny_call_function hr.depth (kin _ _ lk) rfl S.co S.gen rfl (PySem.W.codeRec_of kin hcd) (bt _ _ _ _ ?_)
  refine wpAny_newFunctionEnv_cells S.kind (fun y hy => ?_) fun env he s1 xc => ?_
  · rcases S.par y.1 (List.of_mem_zip hy).1 with q | q
    · exact .inl q
    · exact .inr ⟨q, PySem.W.cellsFrom_some _ _ _ (.inl q)⟩
  · subst he
    obtain ⟨t, ht, hq⟩ := hb cdv hcc A outer s H vs Q E hg (hr.deeper _) h
    have I0 : Inv (cxOf CX P w K mg base N qual (defScope st) f cdv A outer s H E) [] (L2.start N vs) H s1 := inv_start S hr.hd e0 (len _ _ _ _ h) r xc
    refine ⟨(e0.mod.nolimit.keeps keepB).keeps xc.toInCall.keep, codeAny_func (wpAny_mono (ht.run [] s1 _ H _ I0 hq) (fun fl s' hs => ?_) fun _ _ z => z)⟩
    match fl, hs with
    | .ret u, ⟨v, σ', H', J, rv, q⟩ => exact ⟨v, H', J.os, J.bare, J.base, J.hok, rv, q⟩
    | .next, ⟨σ', H', J, q⟩ => exact ⟨.non, H', J.os, J.bare, J.base, J.hok, rfl, q⟩
    | .brk, ⟨_, _, _, q⟩ => exact q.elim
    | .cont, ⟨_, _, _, q⟩ => exact q.elim
theorem fn_ownC {x qual : Str} {st : Stmt} {f : Addr} {fd : FuncData} {N ps : List Str} {k : Nat} {so : SpO} {c : Addr} (F : Fun K x qual st f fd) (hcc : fd.code = .ref c) (S : FnScope N ps (defScope st)) (len : ∀ o ds Q, so o ds Q → ds.length + 1 = ps.length)
    (hbody : ∃ t : TSd, (∀ (cdv : Value), cdv = .ref c → ∀ (A : Around) (outer : List Env) (s : Shared) (H : Hp) (E : XK), A.guards = some [] → Room k (A.deeper (PyProof.Rows.envOfC qual (defScope st) s.heap.objs.size f cdv)) →
      PBd (cxOf CX0 P w K mg base N qual (defScope st) f cdv A outer s H E).nox (defBody st) t) ∧
      ∀ o ds Q, so o ds Q → t { nx := fun E => ∃ o', E[0]? = some (.ow true o') ∧ Q .non o', rt := fun d E => ∃ o', E[0]? = some (.ow true o') ∧ Q d o' } (startD N (.ow true o :: ds.map .fz))) : FnG P w K mg base CX0 (k + 1) f fd ps (liftOw K so) := by
  obtain ⟨t, hd, hq⟩ := hbody
  refine FnG.bodyC F hcc S (fun vs H Q E ⟨Hf, v0, ws, o, fp, ds, Qd, e, _, _, _, r, h, _⟩ => by rw [e, List.length_cons, r.length]; exact len _ _ _ h) (fun cdv hcd A outer s H vs Q E hgd hr ⟨Hf, v0, ws, o, fp, ds, Qd, e, sf, ro, hfp, r, h, kk⟩ => ⟨_, (hd cdv hcd A outer s H E hgd hr).nox, ?_⟩)
  subst e
  have hlen : (start N (v0 :: ws)).length = (startD N (.ow true o :: ds.map .fz)).length := by
    unfold L2.start startD
    simp only [List.length_append, List.length_map, List.length_replicate, List.length_cons, r.length]
  have notin : ∀ {p : Addr}, (∀ i, p ∉ setF (fun _ => []) 0 fp i) → p ∉ fp := fun h => by
    have := h 0
    rw [setF_same] at this
    exact this
  have inn : ∀ {i : Nat} {p : Addr}, p ∈ setF (fun _ => []) 0 fp i → i = 0 ∧ p ∈ fp := fun {i p} h => by
    by_cases z : i = 0
    · subst z
      rw [setF_same] at h
      exact ⟨rfl, h⟩
    · rw [setF_ne z] at h
      cases h
  have fin : ∀ {v σ' H' Hf' F' E' d}, Same Hf Hf' → Sat K ⟨H, Hf, setF (fun _ => []) 0 fp, fun _ => v0, noHp⟩ Hf' H' F' E' σ' → Rep K Hf' v d → (∃ o', E'[0]? = some (Sl.ow true o') ∧ Qd d o') → Q v H' := fun {v σ' H' Hf' F' E' d} s1 S1 r1 ⟨o', e1, q⟩ => by
    obtain ⟨v1, hv1, ro1, hl1, _⟩ := S1.own e1
    obtain ⟨e2, e3⟩ := hl1 rfl
    have ro2 : OwRep K Hf' H' v0 o' fp := by
      have z : F' 0 = fp := e3.trans (show setF (fun _ => []) 0 fp 0 = fp from setF_same)
      have z2 : v1 = v0 := e2
      rw [z, z2] at ro1
      exact ro1
    refine kk v H' Hf' d o' s1 S1.sf (fun p u np a => S1.so p u (fun i z => np (inn z).2) a) S1.dom (fun p u a => S1.gn p u a) ro2 r1 q
  refine ⟨⟨H, Hf, setF (fun _ => []) 0 fp, fun _ => v0, noHp⟩, Hf, setF (fun _ => []) 0 fp, startD N (.ow true o :: ds.map .fz), _, ?_, hq o ds Qd h, fun σ' H' Hf' F' E' s1 S1 q => ?_, fun _ _ _ _ _ _ _ q => q.elim, fun _ _ _ _ _ _ _ q => q.elim, fun v σ' H' Hf' F' E' d s1 S1 r1 q => fin s1 S1 r1 q, fun _ _ _ _ _ _ _ _ _ _ _ q => q.elim⟩
  · refine { sf := sf, so := fun p o _ a => a, dom := fun p o a => ⟨o, a⟩, sp := fun p o a => (nomatch a), pf := fun p o a => (nomatch a), gf := Same.refl _, gn := fun p o a => .inl a, dj := fun i j p a b => by rw [(inn a).1, (inn b).1], fp := fun i p a => ⟨hfp p (inn a).2, ro.some p (inn a).2, .inl ⟨i, a⟩, rfl⟩, len := hlen, sl := fun i sl e => ?_ }
    unfold startD at e
    cases i with
    | zero =>
      rw [List.cons_append, List.getElem?_cons_zero] at e
      cases e
      refine ⟨v0, start_at rfl, by rw [setF_same]; exact ro, fun _ => ⟨rfl, rfl⟩, fun z => by cases z⟩
    | succ i =>
      rw [List.cons_append, List.getElem?_cons_succ] at e
      by_cases hi : i < ds.length
      · rw [List.getElem?_append_left (by rw [List.length_map]; exact hi), List.getElem?_map] at e
        obtain ⟨d, ed⟩ := getE hi
        rw [ed] at e
        cases e
        obtain ⟨v, ev, rv⟩ := r.get ed
        exact ⟨v, start_at (by rw [List.getElem?_cons_succ]; exact ev), rv⟩
      · rw [List.getElem?_append_right (by rw [List.length_map]; omega)] at e
        have e2 := List.mem_of_getElem? e
        rw [List.eq_of_mem_replicate e2]
        trivial
  · exact fin s1 S1 .non q
def DfnC (K : PySem.W.Frag) (mg : Str → Option Value) (x : Str) (st : Stmt) (ps : List Str) (c : Addr) : Prop := ∃ f fd, Fun K x x st f fd ∧ mg x = some (.ref f) ∧ Binds K fd ps [] ∧ fd.code = .ref c
theorem cal_ownC {x : Str} {st : Stmt} {N ps : List Str} {k : Nat} {so : SpO} {c : Addr} (d : DfnC K mg x st ps c) (S : FnScope N ps (defScope st)) (len : ∀ o ds Q, so o ds Q → ds.length + 1 = ps.length)
    (hbody : ∃ t : TSd, (∀ (f : Addr) (cdv : Value), cdv = .ref c → ∀ (A : Around) (outer : List Env) (s : Shared) (H : Hp) (E : XK), A.guards = some [] → Room k (A.deeper (PyProof.Rows.envOfC x (defScope st) s.heap.objs.size f cdv)) →
      PBd (cxOf CX0 P w K mg base N x (defScope st) f cdv A outer s H E).nox (defBody st) t) ∧
      ∀ o ds Q, so o ds Q → t { nx := fun E => ∃ o', E[0]? = some (.ow true o') ∧ Q .non o', rt := fun d E => ∃ o', E[0]? = some (.ow true o') ∧ Q d o' } (startD N (.ow true o :: ds.map .fz))) : Cal P w K mg base CX0 x (k + 1) ps (liftOw K so) := by
  obtain ⟨f, fd, F, hm, hb, hcc⟩ := d
  obtain ⟨t, h1, h2⟩ := hbody
  exact ⟨f, fd, fn_ownC F hcc S len ⟨t, h1 f, h2⟩, hm, F.kp, hb⟩
end
/-! ### the end -/
section
variable {P : Program} {w : World} {K : PySem.W.Frag} {mg mb : Str → Option Value} {k : Nat} {fa a : Addr} {fd : FuncData} {x : Str} {s₁ : Shared} {vs : List Value} {ns : List Int} {cs : List (Addr × Addr)}
abbrev tabE : Obj := { cls := .none, data := .fields #[] }
theorem end_atT (H : Hp) (KX : K.In s₁.heap) (hns : s₁.heap.Ns mainGlobals mg) (hb : s₁.heap.Ns builtinsNs mb) (hbb : ∀ x : Str, x ≠ "__name__" → mb x = bootBuiltins x) (hlim : s₁.heap.NoLimit) (hg : s₁.gens = #[])
    (ha : s₁.heap.get? a = some { cls := .type "list", data := .seq vs.toArray }) (hr : Room k callerA)
    (hcs : cs.map (·.2) = tabs) (hT : ∀ p ∈ cs, s₁.heap.get? p.2 = some tabE) (nT : ∀ p ∈ cs, K.lookup p.2 = none) (C : ∀ p ∈ cs, PySem.W.CodeHd s₁.heap p.1 p.2)
    (hbm : ∃ (bm : Addr) (ob : Obj), mg "__builtins__" = some (.ref bm) ∧ bm ≠ builtinsNs ∧ s₁.heap.get? bm = some ob ∧ ob.cls = .type "module" ∧ ob.dict = some builtinsNs ∧ ob.data = .plain)
    (F : ∀ base : Heap, K.In base → base.Ns mainGlobals mg → (∀ p ∈ cs, LamX.TabB base mg p.1 p.2) → FnG P w K mg base CX0 k fa fd [x] (spLaw K)) (hbind : ∀ (s : Shared) (u : Value), BindsTo s fd ⟨[u], []⟩ [(x, u)]) (hl : ns.length ≤ 63)
    (hq : SqL K H a (ns.map V.int)) (hok : HOk P w H s₁.heap) (hH : ∀ b u, H b = some u → (b = a ∧ ∃ o xs, u = .frz o (.lst xs)) ∨ (b ∈ tabs ∧ u = .tbl #[])) (hHt : ∀ b ∈ tabs, H b = some (.tbl #[])) (hK : ∀ u, H a = some u → K.lookup a = none) :
    codeAny (model P w) callerA (.call (.ref fa) ⟨[.ref a], []⟩) (fun r s' => r = .ok (.ret (.bool true)) ∧ OldK s₁.heap s'.heap ∧ s'.os = s₁.os ∧ AllBare s'.gens) s₁ := by
  have tabP : ∀ b ∈ tabs, ∃ p ∈ cs, p.2 = b := fun b hb => by
    rw [← hcs] at hb
    obtain ⟨p, hp, e⟩ := List.mem_map.mp hb
    exact ⟨p, hp, e⟩
  have isT : ∀ b ∈ tabs, s₁.heap.get? b = some tabE := fun b hb => by
    obtain ⟨p, hp, rfl⟩ := tabP b hb
    exact hT p hp
  have inT : ∀ p ∈ cs, p.2 ∈ tabs := fun p hp => by
    rw [← hcs]
    exact List.mem_map.mpr ⟨p, hp, rfl⟩
  -- neither a list nor a table: not tracked
  have un : ∀ b o, s₁.heap.get? b = some o → (∀ vs n, o.data ≠ .seq vs n) → o.data ≠ .fields #[] → H b = none := fun b o e d1 d2 => by
    cases z : H b with
    | none => rfl
    | some u =>
      rcases hH b u z with ⟨rfl, _⟩ | ⟨m, _⟩
      · rw [ha] at e
        cases e
        exact (d1 _ _ rfl).elim
      · rw [isT b m] at e
        cases e
        exact (d2 rfl).elim
  have base_of : ∀ {b : Addr} {o : Obj}, s₁.heap.get? b = some o → H b = none → (hidT s₁.heap H).get? b = some o := fun e n => hidT_get e n
  have kin : K.In (hidT s₁.heap H) := fun b o e => base_of (KX b o e) (by
    cases z : H b with
    | none => rfl
    | some u =>
      rcases hH b u z with ⟨rfl, _⟩ | ⟨m, _⟩
      · rw [hK u z] at e
        cases e
      · obtain ⟨p, hp, rfl⟩ := tabP b m
        rw [nT p hp] at e
        cases e)
  have nsK : ∀ {b : Addr} {m : Str → Option Value}, s₁.heap.Ns b m → (hidT s₁.heap H).Ns b m := fun {b m} ⟨o, es, ep, e, d, r⟩ => ⟨o, es, ep, base_of e (un b o e (fun vs n z => by rw [d] at z; cases z) fun z => by rw [d] at z; cases z), d, r⟩
  have md : Mod K mg (hidT s₁.heap H) := ⟨kin, nsK hns, ⟨mb, nsK hb, hbb⟩, let ⟨mc, h1, h2⟩ := hlim; ⟨mc, nsK h1, h2⟩⟩
  have TB : ∀ p ∈ cs, LamX.TabB (hidT s₁.heap H) mg p.1 p.2 := fun p hp => by
    have hTp := hT p hp
    refine ⟨?_, ?_, fun z => ?_⟩
    · obtain ⟨o, us, file, tf, flags, tg, inF, text, tt, e1, r1, r2, r3, r4⟩ := C p hp
      exact ⟨o, us, file, tf, flags, tg, inF, text, tt, base_of e1 (un _ _ e1 (fun vs n z => by rw [r2] at z; cases z) fun z => by
        rw [r2] at z
        cases z
        simp at r3), r1, r2, r3, r4⟩
    · obtain ⟨bm, ob, b1, b2, b3, b4, b5, b6⟩ := hbm
      refine ⟨bm, ob, b1, b2, fun q => ?_, fun q => ?_, base_of b3 (un _ _ b3 (fun vs n z => by rw [b6] at z; cases z) fun z => by rw [b6] at z; cases z), b4, b5, b6⟩
      · obtain ⟨o, es, ep, e, hd, _⟩ := hns
        rw [q, e] at b3
        cases b3
        rw [hd] at b6
        cases b6
      · rw [q, hTp] at b3
        cases b3
        cases b6
    · obtain ⟨o, es, ep, e, hd, _⟩ := hns
      rw [z, hTp] at e
      cases e
      cases hd
  have e0 : Env0 P w K mg (hidT s₁.heap H) callerA [] s₁ H := ⟨rfl, md, fun b o e => of_hidT e, Nat.le_of_eq (hidT_size _ _), trivial, fun b hb => (nomatch hb), hok, .of_eq hg⟩
  refine codeAny_mono ((F _ kin (nsK hns) TB).run callerA rfl hr [] s₁ H ⟨[.ref a], []⟩ [.ref a] [.ref a] (fun v _ => v = .bl true) (fun _ _ _ => False) e0 (hbind s₁ (.ref a)) (.cons rfl .nil) ⟨a, ns, rfl, hq, hl, (fun t m => hHt _ (List.mem_map.mpr ⟨t, m, rfl⟩)), fun _ => rfl⟩) fun r s' h => ?_
  match r, h with
  | .ok (.ret u), ⟨v, H', os, bare, un', hok', rv, e⟩ =>
    cases e
    cases rv
    have key : ∀ b o, b ∉ tabs → s₁.heap.get? b = some o → s'.heap.get? b = some o := fun b o nb eb => by
      cases z : H b with
      | none => exact un'.keep b o eb z (fun y => nomatch y) (fun y => nomatch y)
      | some u =>
        rcases hH b u z with ⟨rfl, o1, xs, rfl⟩ | ⟨m, _⟩
        · obtain ⟨e1, _⟩ := hok b _ z
          obtain ⟨e2, _⟩ := hok' b _ (un'.frzs b _ _ z)
          rw [eb] at e1
          cases e1
          exact e2
        · exact absurd m nb
    have grown : ∀ b ∈ tabs, ∃ more : Array Value, s'.heap.get? b = some { cls := .none, data := .fields (#[] ++ more) } := fun b hb => by
      obtain ⟨more, z⟩ := un'.tbls b #[] (hHt b hb)
      exact ⟨more, hok' b _ z⟩
    refine ⟨rfl, ⟨fun b o e => ?_, fun b o e => ?_⟩, os, bare⟩
    · by_cases hb : b ∈ tabs
      · obtain ⟨p, hp, rfl⟩ := tabP b hb
        obtain ⟨more, hm⟩ := grown _ hb
        rw [hT p hp] at e
        cases e
        exact .inr (.inl ⟨((C p hp).tab (hT p hp)).isCodeTable, rfl, #[], more, rfl, hm⟩)
      · exact .inl (key b o hb e)
    · by_cases hb : b ∈ tabs
      · obtain ⟨more, hm⟩ := grown b hb
        exact ⟨_, hm⟩
      · exact ⟨o, key b o hb e⟩
end
/-- the tables of the program's defs are empty at the start -/
def TabsOf (q : Program) (K : PySem.W.Frag) (mg : Str → Option Value) (h : Heap) : Prop := ∀ (nm : Str) (f c P : Addr) (e0 e : Value) (d0 dd : Option Addr) (fd : FuncData) (vs : Array Value) (sl0 sl : Array (Option Value)), ((recsOf q).any fun r => r.name == nm) = true → mg nm = some (.ref f) → K.lookup f = some ⟨e0, d0, .func fd, sl0⟩ → fd.code = .ref c →
  K.lookup c = some ⟨e, dd, .fields vs, sl⟩ → vs[11]? = some (.ref P) → PySem.W.CodeHd h c P ∧ h.get? P = some tabE
theorem walkGT {l : PySem.W.OpenLaw} {k : Nat} {q : Program} {loose : List Str} {XP : (Str → Option Value) → Heap → Prop} {YP : World → Heap → Prop} {d : DefRec} {K : Params → PySem.W.Frag} {x : Str} (hn : l.most = some 63) (hdf : d.params.defaults = []) (hr : Room k callerA)
    (hY : ∀ (w : World) (h : Heap), YP w h → (K w.params).In h)
    (F : ∀ (w : World) (mg : Str → Option Value) (fa : Addr) (h : Heap), (K w.params).In h → h.Ns mainGlobals mg → mg d.name = some (.ref fa) → TabsOf q (K w.params) mg h →
      ∃ (fd : FuncData) (cs : List (Addr × Addr)), cs.map (·.2) = tabs ∧ (∀ p ∈ cs, h.get? p.2 = some tabE) ∧ (∀ p ∈ cs, (K w.params).lookup p.2 = none) ∧ (∀ p ∈ cs, PySem.W.CodeHd h p.1 p.2) ∧ (∀ (s : Shared) (u : Value), BindsTo s fd ⟨[u], []⟩ [(x, u)]) ∧
        ∀ base : Heap, (K w.params).In base → base.Ns mainGlobals mg → (∀ p ∈ cs, LamX.TabB base mg p.1 p.2) → FnG l.prog w (K w.params) mg base CX0 k fa fd [x] (spLaw (K w.params))) :
    PySem.W.WalkO q loose XP YP l.row.toRowW d [] (fun f vs => PySem.call f vs) := by
  refine Att.attach_call hn hdf fun w s₀ s₁ mg mb fa o pm cd doc a vs ns G Y ho hd hcd hmg hobj hints hlen hg => ?_
  have KX := hY w _ Y
  have TO : TabsOf q (K w.params) mg s₁.heap := fun nm f c P e0 e d0 dd fd1 vs1 sl0 sl k0 k1 k2 k3 k4 k5 => by
    obtain ⟨dL, hm, hn1⟩ := List.any_eq_true.mp k0
    have hn2 : dL.name = nm := beq_iff_eq.mp hn1
    obtain ⟨a', o', fd', c', P', h1, h2, h3, h4, h5, h6⟩ := G.T.tab dL hm
    rw [hn2, k1] at h1
    cases h1
    have g1 := KX _ _ k2
    rw [g1] at h2
    cases h2
    cases h3
    rw [k3] at h4
    cases h4
    have h6' := h6
    obtain ⟨⟨oc, vc, e1, _, e3, e4⟩, hP⟩ := h6
    have g2 := KX _ _ k4
    rw [g2] at e1
    cases e1
    cases e3
    rw [k5] at e4
    cases e4
    exact ⟨PySem.W.CodeHd.of h5 h6', hP⟩
  obtain ⟨fd, cs, hcs, hT, nT, C, hb, hF⟩ := F w mg fa _ KX G.T.g hmg TO
  have rv := vals_ints hints
  have aT : a ∉ tabs := fun z => by
    rw [← hcs] at z
    obtain ⟨p, hp, e⟩ := List.mem_map.mp z
    have y := hT p hp
    rw [e, hobj] at y
    have y' : Data.seq vs.toArray _ = Data.fields #[] := congrArg Obj.data (Option.some.inj y)
    cases y'
  have isT : ∀ b ∈ tabs, s₁.heap.get? b = some tabE := fun b hb => by
    rw [← hcs] at hb
    obtain ⟨p, hp, rfl⟩ := List.mem_map.mp hb
    exact hT p hp
  have go := fun (H : Hp) => end_atT (mb := mb) (ns := ns) H KX G.T.g G.T.b G.T.builtins G.T.nolimit hg hobj hr hcs hT nT C G.T.bmain hF hb hlen
  have h63 : (63 : Nat) ≤ sizeLine := by decide
  cases hk : (K w.params).lookup a with
  | some o =>
    have e := KX a o hk
    rw [hobj] at e
    cases e
    refine go (fun b => if b ∈ tabs then some (.tbl #[]) else none) (.inr ⟨_, vs.toArray, _, hk, rfl, rfl, rfl, ?_, by simpa using rv⟩) (fun b u z => ?_) (fun b u z => ?_) (fun b hb => if_pos hb) fun u z => ?_
    · have e1 := hints.length
      rw [List.size_toArray]
      omega
    · by_cases hb : b ∈ tabs
      · cases (if_pos hb).symm.trans z
        exact isT b hb
      · cases (if_neg hb).symm.trans z
    · by_cases hb : b ∈ tabs
      · cases (if_pos hb).symm.trans z
        exact .inr ⟨hb, rfl⟩
      · cases (if_neg hb).symm.trans z
    · cases (if_neg aT).symm.trans z
  | none =>
    refine go (fun b => if b = a then some (.frz { cls := .type "list", data := .seq vs.toArray } (.lst (ns.map V.int))) else if b ∈ tabs then some (.tbl #[]) else none) (.inl (.inr ⟨_, if_pos rfl⟩)) (fun b u z => ?_) (fun b u z => ?_) (fun b hb => ?_) fun _ _ => hk
    · by_cases hb : b = a
      · cases (if_pos hb).symm.trans z
        rw [hb]
        refine ⟨hobj, ?_, vs, _, rv, hobj⟩
        rw [List.length_map]
        omega
      · have z1 := (if_neg hb).symm.trans z
        by_cases hb2 : b ∈ tabs
        · cases (if_pos hb2).symm.trans z1
          exact isT b hb2
        · cases (if_neg hb2).symm.trans z1
    · by_cases hb : b = a
      · cases (if_pos hb).symm.trans z
        exact .inl ⟨hb, _, _, rfl⟩
      · have z1 := (if_neg hb).symm.trans z
        by_cases hb2 : b ∈ tabs
        · cases (if_pos hb2).symm.trans z1
          exact .inr ⟨hb2, rfl⟩
        · cases (if_neg hb2).symm.trans z1
    · exact (if_neg (fun z => aT (by rw [← z]; exact hb))).trans (if_pos hb)
end L3
/-! L5b: x in y, y a name whose list may be our own: it stays so. -/
namespace L3
open PySem L2
variable [Tbs]
/-- the name of a lambda that the def x makes -/
abbrev lamQ (x : Str) : Str := (x ++ ".<locals>.") ++ "<lambda>"
section
variable {X : Cx} {a : Expr} {ta : TEd} {pos : Pos}
def tInV (neg : Bool) (j : Nat) (ta : TEd) : TEd := fun E Q => ta E fun x E1 => held E1 j ∧ match E1[j]? with
  | some (.fz y) => rdIn neg x y E1 Q
  | some (.ow _ (.ol ys)) => x.flat = true ∧ ys.all D.flat = true ∧ Q (.bl (if neg then !inD x ys else inD x ys)) E1
  | _ => False
theorem inV_lift {neg : Bool} {j : Nat} {σ : L2.St} {H : Hp} {Q : VK} (h : liftE X.K (tInV neg j ta) σ H Q) : tOp (rIn X.K neg) (liftE X.K ta) (tVar j) σ H Q := by
  obtain ⟨en, Hf, F, E, Qd, S, h, k⟩ := h
  refine ⟨en, Hf, F, E, _, S, h, fun v1 H1 Hf1 F1 E1 x s1 S1 r1 ⟨hh, h1⟩ => ?_⟩
  obtain ⟨v, hv⟩ := hh.val S1
  refine ⟨v, hv, ?_⟩
  split at h1
  · rename_i y e
    obtain ⟨v', e', r'⟩ := S1.get e
    rw [hv] at e'
    cases e'
    exact ok_in en Hf1 H1 F1 E1 σ v1 v x y Q Qd S1 r1 r' h1 fun v H' Hf' F' E' d s2 S2 r2 h2 => k v H' Hf' F' E' d (s1.trans s2) S2 r2 h2
  · rename_i b ys e
    obtain ⟨v', e', ⟨p, vs, rfl, _, hp, l⟩, _⟩ := S1.own e
    rw [hv] at e'
    cases e'
    obtain ⟨e1, e2⟩ := r1.fv h1.1
    obtain ⟨e3, e4⟩ := l.fv h1.2.1
    exact ⟨_, _, rfl, .inl (.inl (.inl hp)), e2, e4, k _ _ _ _ _ _ s1 S1 (by rw [e1, e3]; exact .bl _) h1.2.2⟩
  · exact h1.elim
variable {x : Str} {p : Pos}
theorem d_inV (j : Nat) (ha : PEd X a ta) (hN : X.N[j]? = some x := by rfl) (hv : Vis X.env.scope x := by first | exact Or.inl rfl | exact Or.inr (Or.inl rfl) | exact Or.inr (Or.inr rfl)) (hd : (x == ("__debug__" : Str)) = false := by decide) (hcd : (x == ("__classdict__" : Str)) = false := by decide) (hm : behindInMarks .In (.Name x p) = false := by rfl) :
    PEd X (.Compare a [.In] [.Name x p] pos) (tInV false j ta) := pe_imp (pe_cmpR op_in_seq ha (pv j hN hv hd hcd) hm) fun σ H Q h => inV_lift h
theorem d_notinV (j : Nat) (ha : PEd X a ta) (hN : X.N[j]? = some x := by rfl) (hv : Vis X.env.scope x := by first | exact Or.inl rfl | exact Or.inr (Or.inl rfl) | exact Or.inr (Or.inr rfl)) (hd : (x == ("__debug__" : Str)) = false := by decide) (hcd : (x == ("__classdict__" : Str)) = false := by decide) (hm : behindInMarks .NotIn (.Name x p) = false := by rfl) :
    PEd X (.Compare a [.NotIn] [.Name x p] pos) (tInV true j ta) := pe_imp (pe_cmpR op_notIn_seq ha (pv j hN hv hd hcd) hm) fun σ H Q h => inV_lift h
theorem lift_inT {neg : Bool} {j : Nat} : ∀ σ H (Q : Bool → Hp → Prop), liftT X.K (tTestD (tInV neg j ta)) σ H Q → liftE X.K (tInV neg j ta) σ H fun v H' => ∃ k, v = .bl k ∧ Q k H' := fun σ H Q ⟨en, Hf, F, E, Qd, S, h, k⟩ =>
  ⟨en, Hf, F, E, _, S, h, fun v H' Hf' F' E' d s1 S1 r1 h1 => by
    split at h1
    · cases r1
      exact ⟨_, rfl, k _ _ _ _ _ s1 S1 h1⟩
    · exact h1.elim⟩
theorem t_inV (j : Nat) (ha : PEd X a ta) (hN : X.N[j]? = some x := by rfl) (hv : Vis X.env.scope x := by first | exact Or.inl rfl | exact Or.inr (Or.inl rfl) | exact Or.inr (Or.inr rfl)) (hd : (x == ("__debug__" : Str)) = false := by decide) (hcd : (x == ("__classdict__" : Str)) = false := by decide) (hm : behindInMarks .In (.Name x p) = false := by rfl) :
    PTd X (.Compare a [.In] [.Name x p] pos) (tTestD (tInV false j ta)) := pt_imp (pt_cmpR op_in_seq ha (pv j hN hv hd hcd) hm) fun σ H Q h => inV_lift (lift_inT σ H Q h)
theorem t_notinV (j : Nat) (ha : PEd X a ta) (hN : X.N[j]? = some x := by rfl) (hv : Vis X.env.scope x := by first | exact Or.inl rfl | exact Or.inr (Or.inl rfl) | exact Or.inr (Or.inr rfl)) (hd : (x == ("__debug__" : Str)) = false := by decide) (hcd : (x == ("__classdict__" : Str)) = false := by decide) (hm : behindInMarks .NotIn (.Name x p) = false := by rfl) :
    PTd X (.Compare a [.NotIn] [.Name x p] pos) (tTestD (tInV true j ta)) := pt_imp (pt_cmpR op_notIn_seq ha (pv j hN hv hd hcd) hm) fun σ H Q h => inV_lift (lift_inT σ H Q h)
end
def sp0 (R : (D → Prop) → Prop) : SpP := fun ds Q => match ds with
  | [] => R Q
  | _ => False
theorem sp0_len {R} : ∀ ds Q, sp0 R ds Q → ds.length = 0 := fun ds Q h => by
  unfold sp0 at h
  split at h
  · rfl
  · exact h.elim
theorem sp0_by {R} {G : List D → (D → Prop) → Prop} (h : ∀ Q, R Q → G [] Q) : ∀ ds Q, sp0 R ds Q → G ds Q := fun ds Q q => by
  unfold sp0 at q
  split at q
  · exact h _ q
  · exact q.elim
/-- * of two numbers below 2 ** 200 -/
theorem cmulB {i j : Int} (i0 : -1606938044258990275541962092341162602522202993782792835301376 < i) (i1 : i < 1606938044258990275541962092341162602522202993782792835301376) (j0 : -1606938044258990275541962092341162602522202993782792835301376 < j) (j1 : j < 1606938044258990275541962092341162602522202993782792835301376) : CMulA i j := by
  have e : (2 : Nat) ^ 200 = 1606938044258990275541962092341162602522202993782792835301376 := by decide
  have a : i.natAbs.log2 < 200 := log_of (by decide) (by omega)
  have b : j.natAbs.log2 < 200 := log_of (by decide) (by omega)
  exact .inr (show i.natAbs.log2 + j.natAbs.log2 < 1000000 by omega)
end L3
theorem L2.boot_LookupError : PySem.bootBuiltins "LookupError" = some (.type "LookupError") := by decide +kernel
/-! L5c: instances of own classes, made once and then data; fields, methods. -/
namespace L3
open PySem L2
variable [Tbs]
/-- the fields with one stored -/
def putFD (f : Str) (d : D) : List (Str × D) → List (Str × D)
  | [] => [(f, d)]
  | (g, x) :: r => if g = f then (g, d) :: r else (g, x) :: putFD f d r
theorem RepF.put {K : PySem.W.Frag} {H : Hp} {f : Str} {v : V} {d : D} (r : Rep K H v d) : ∀ {vs : List (Str × V)} {fs : List (Str × D)}, RepF K H vs fs → RepF K H (putF f v vs) (putFD f d fs)
  | _, _, .nil => .cons r .nil
  | _, _, .cons (k := k) a t => by
    unfold putF putFD
    by_cases h : k = f
    · rw [if_pos h, if_pos h]
      exact .cons r t
    · rw [if_neg h, if_neg h]
      exact .cons a (RepF.put r t)
theorem RepF.length {K : PySem.W.Frag} {H : Hp} : ∀ {vs : List (Str × V)} {fs : List (Str × D)}, RepF K H vs fs → vs.length = fs.length
  | _, _, .nil => rfl
  | _, _, .cons _ t => by rw [List.length_cons, List.length_cons, RepF.length t]
theorem RepF.no {K : PySem.W.Frag} {H : Hp} {f : Str} : ∀ {vs : List (Str × V)} {fs : List (Str × D)}, RepF K H vs fs → fs.lookup f = none → vs.lookup f = none
  | _, _, .nil, _ => rfl
  | _, _, .cons (k := k) a t, e => by
    rw [List.lookup_cons] at e ⊢
    by_cases h : f = k
    · have z : (f == k) = true := by simpa using h
      rw [z] at e
      cases e
    · have z : (f == k) = false := by simpa using h
      rw [z] at e ⊢
      exact RepF.no t e
/-- the attribute f of the class at C may be read and stored -/
def OFld (K : PySem.W.Frag) (C : Addr) (f : Str) : Prop := Cls K C ∧ NoAttr K C f
section
variable {X : Cx} {e o : Expr} {te ta : TEd} {pos p apos : Pos} {f x : Str}
/-- e.f, e an instance -/
def tFldD (K : PySem.W.Frag) (f : Str) (te : TEd) : TEd := fun E Q => te E fun x E1 => match x with
  | .ins C fs => OFld K C f ∧ ∃ d, fs.lookup f = some d ∧ Q d E1
  | _ => False
theorem d_fldK (K : PySem.W.Frag) (he : PEd X e te) (hK : X.K = K := by rfl) (hb : attributeBase e f X.env (eval e X.env) = eval e X.env := by rfl) : PEd X (.Attribute e f pos) (tFldD K f te) := by
  subst hK
  exact pe_imp (pe_fld he hb) fun σ H Q ⟨en, Hf, F, E, Qd, S, h, k⟩ => ⟨en, Hf, F, E, _, S, h, fun v H1 Hf1 F1 E1 d s1 S1 r1 h1 => by
    split at h1
    · rename_i C fs
      obtain ⟨⟨c, n⟩, d, l, q⟩ := h1
      cases r1 with | ins h2 h3 rf =>
      obtain ⟨w, l2, rw_⟩ := rf.get l
      exact ⟨_, _, _, _, w, rfl, S1.sf _ _ h2, c, n, l2, k _ _ _ _ _ _ s1 S1 rw_ q⟩
    · exact h1.elim⟩
/-- x.f = e, x our own instance (slot j) -/
def tFldSet (K : PySem.W.Frag) (j : Nat) (f : Str) (te : TEd) : TSd := fun D E => held E j ∧ te E fun y E1 => match E1[j]? with
  | some (.ow b (.oi C fs)) => OFld K C f ∧ fs.length < 1000 ∧ D.nx (E1.set j (.ow b (.oi C (putFD f y fs))))
  | _ => False
theorem s_fldSetK (K : PySem.W.Frag) (j : Nat) {p1 p2 : Pos} (he : PEd X e te) (hK : X.K = K := by rfl) (hN : X.N[j]? = some x := by rfl) (hv : Vis X.env.scope x := by first | exact Or.inl rfl | exact Or.inr (Or.inl rfl) | exact Or.inr (Or.inr rfl)) (hd : (x == ("__debug__" : Str)) = false := by decide) (hcd : (x == ("__classdict__" : Str)) = false := by decide)
    (hs : swapsWith e (some (.Attribute (.Name x p1) f p2)) pos.line X.env = pure false := by rfl) : PSd X (.Assign [.Attribute (.Name x p1) f p2] e pos) (tFldSet K j f te) := by
  subst hK
  exact ps_imp (ps_fld (pv j hN hv hd hcd) he hs) fun D σ H ⟨en, Hf, F, E, Dd, S, ⟨hh, h⟩, k1, k2, k3, k4, k5⟩ => ⟨en, Hf, F, E, _, S, h, fun v1 H1 Hf1 F1 E1 y s1 S1 r1 h1 => by
    split at h1
    · rename_i b C fs e1
      obtain ⟨v, hv, ⟨a, dx, vs, rfl, hF, ha, hdx, rf⟩, _⟩ := S1.own e1
      obtain ⟨⟨c, n⟩, hl, q⟩ := h1
      have ma : a ∈ F1 j := by rw [hF]; simp
      have md : dx ∈ F1 j := by rw [hF]; simp
      have na := (S1.fp j a ma).1
      have ne : dx ≠ a := fun z => by rw [z, ha] at hdx; cases hdx
      refine ⟨_, hv, a, C, dx, vs, rfl, ha, c, n, by rw [rf.length]; exact hl, ?_⟩
      refine k1 _ _ _ _ _ s1 (S1.change e1 hv (o' := .oi C (putFD f y fs)) (Same.refl _) (fun b u z => ?_) (fun b u nb z => ?_) (fun b u z => ?_) (fun _ _ z => .inl z) ⟨a, dx, _, rfl, hF, upd_same, by rw [upd_ne ne]; exact hdx, rf.put r1⟩) q
      · have nb : b ≠ a := fun y => by rw [y, na] at z; cases z
        rw [upd_ne nb]
        exact S1.sf _ _ z
      · have nb' : b ≠ a := fun y => nb (by rw [y]; exact ma)
        rw [upd_ne nb']
        exact z
      · by_cases y : b = a
        · subst y
          exact ⟨_, upd_same⟩
        · rw [upd_ne y]
          exact ⟨u, z⟩
    · exact h1.elim⟩
end
/-! ### a method of an instance that is data; a new instance -/
section
variable {X : Cx} {C f : Addr} {k : Nat} {fd : FuncData} {ps : List Str} {sp : Sp} {x m : Str} {p pos apos : Pos} {e o : Expr} {es : List Expr} {t : TA} {ta : TE} {E : St → XK} {CX : CXT}
theorem pe_methGS {pl : Sem Bool} (he : PE X o ta) (c : Cls X.K C) (hm : Meth X.K C m f) (F : FnG X.prog X.w X.K X.mg X.base CX k f fd ps sp) (hgd : X.A.guards = some []) (hr : Room k X.A) (hb : Binds X.K fd ps []) (hx : ∀ σ, PassesAt CX X σ (E σ)) (ha : PA X (e :: es) t)
    (hst : starEach (e :: es) X.env = (false, eval e X.env) :: starEach es X.env := by rfl) (hpl : (backTo pos (starEach es X.env)).any (·.1) = false := by rfl)
    (ht : eval (.Call (.Attribute o m apos) (e :: es) [] pos) X.env = (do
      let ov ← eval o X.env
      standAt apos.atName
      let (f, first) ← holding [ov] (getMethod ov m pl)
      callWith pos f first (backTo pos (starEach (e :: es) X.env)) (backToKw pos (keywordEach [] X.env))) := by rfl) :
    PE X (.Call (.Attribute o m apos) (e :: es) [] pos) (fun σ H Q => ta σ H fun x H1 => ∃ a dx fs, x = .ref a ∧ H1 a = some (.ins C dx fs) ∧ fs.lookup m = none ∧ t σ H1 fun vs H2 => sp (x :: vs) H2 Q (E σ)) := by
  refine ⟨fun pins s σ H Q I h => ?_⟩
  refine PySem.W.methodCall_KW (pl := pl) (thn (he.run pins s σ H _ I h) fun u s1 ⟨x, H1, I1, rx, a, dx, fs, ex, ea, l, q⟩ => ?_) ht
  subst ex
  obtain rfl : u = Value.ref a := rx
  refine getmeth_ok I1 ea c hm l ?_
  refine PySem.W.callWith_K (first := [.ref a]) (h₀ := X.base) I.ok.mod.kin hm.kp (thn (ha.run pos pins s1 σ H1 _ I1 q) fun us s2 ⟨vs, H2, I2, r, q2⟩ => ⟨I2.kIn, ?_⟩) hst hpl
  exact run_GS (us := .ref a :: us) (vs := .ref a :: vs) F hgd hr hb (hx σ) I2 (.cons rfl r) q2
theorem run_makeGS {pins : List (Addr × Obj)} {σ : L2.St} {H : Hp} {s : Shared} {Q : VK} {us : List Value} {vs : List V} (M : Mk X.K C f) (F : FnG X.prog X.w X.K X.mg X.base CX k f fd ps sp) (hgd : X.A.guards = some []) (hr : Room (k + 1) X.A) (hb : Binds X.K fd ps [])
    (hx : PassesAt CX X σ (E σ)) (I : Inv X pins σ H s) (r : Vals vs us)
    (h : ∀ x dx, H x = none → H dx = none → dx ≠ x → sp (.ref x :: vs) (upd (upd H dx (.own x)) x (.ins C dx [])) (fun v H2 => v = .non ∧ Q (.ref x) H2) (E σ)) :
    wpAny (model X.prog X.w) X.A (call (.ref C) us) (EP X pins σ Q) X.xe s := by
  have hq := h (s.heap.objs.size + 1) s.heap.objs.size (I.hok.fresh (Nat.le_succ _)) (I.hok.fresh (Nat.le_refl _)) (Nat.ne_of_lt (Nat.lt_succ_self _))
  have I2 := Inv.made (C := C) I
  have r2 : Vals (V.ref (s.heap.objs.size + 1) :: vs) (Value.ref (s.heap.objs.size + 1) :: us) := .cons rfl r
  have hl : (Value.ref (s.heap.objs.size + 1) :: us).length = ps.length := r2.length.symm.trans (F.len _ _ _ _ hq)
  have bt : BindsTo ({ s with heap := (s.heap.push PySem.W.emptyDict).push (PySem.W.instObj C s.heap.objs.size) }) fd ⟨Value.ref (s.heap.objs.size + 1) :: us, []⟩ (ps.zip (Value.ref (s.heap.objs.size + 1) :: us)) := by
    have z := hb _ (Value.ref (s.heap.objs.size + 1) :: us) I2.kIn (by rw [List.append_nil]; exact hl)
    rw [List.append_nil] at z
    exact z
  refine wpAny_call (make_map (f := f) I.kIn M.makes M.init (beq_iff_eq.mp M.fn) (codeAny_mono (F.run (X.A.under (.builtin "type.__call__" ⟨Value.ref C :: us, []⟩)) hgd (hr.make C us []) X.stack _ _ ⟨Value.ref (s.heap.objs.size + 1) :: us, []⟩ (Value.ref (s.heap.objs.size + 1) :: us) _ _ (E σ)
    (I2.env0.make C us []) bt r2 hq) fun r s' hq' => ?_))
  match r, hq' with
  | .error e, hq' => exact hx pins _ _ e s' I2 hq'
  | .ok (.ret u), hq' =>
    obtain ⟨v, H', I3, rv, ev, q3⟩ := I2.after hq'
    subst ev
    exact ⟨rv, ⟨V.ref (s.heap.objs.size + 1), H', I3, rfl, q3⟩⟩
theorem pe_makeGS (M : Mk X.K C f) (F : FnG X.prog X.w X.K X.mg X.base CX k f fd ps sp) (hgd : X.A.guards = some []) (hr : Room (k + 1) X.A) (hg : Gl X x) (hm : X.mg x = some (.ref C)) (hb : Binds X.K fd ps []) (hx : ∀ σ, PassesAt CX X σ (E σ))
    (ha : PA X (e :: es) t) (hdb : (x == ("__debug__" : Str)) = false := by decide) (he : starEach (e :: es) X.env = (false, eval e X.env) :: starEach es X.env := by rfl) (hpl : (backTo pos (starEach es X.env)).any (·.1) = false := by rfl) :
    PE X (.Call (.Name x p) (e :: es) [] pos) (fun σ H Q => t σ H fun vs H1 => ∀ x dx, H1 x = none → H1 dx = none → dx ≠ x → sp (.ref x :: vs) (upd (upd H1 dx (.own x)) x (.ins C dx [])) (fun v H2 => v = .non ∧ Q (.ref x) H2) (E σ)) := by
  refine ⟨fun pins s σ H Q I h => ?_⟩
  refine wpAny_Call_Name_kw (ld_glob I hg hm ?_ hdb)
  refine PySem.W.callWith_K (h₀ := X.base) I.ok.mod.kin M.kp (thn (ha.run pos pins s σ H _ I h) fun us s1 ⟨vs, H1, I1, r, q⟩ => ⟨I1.kIn, ?_⟩) he hpl
  exact run_makeGS M F hgd hr hb (hx σ) I1 r q
end
section
variable {X : Cx} {C f : Addr} {k : Nat} {fd : FuncData} {ps : List Str} {sp : SpX} {so : SoX} {x m : Str} {p pos apos : Pos} {e o : Expr} {es : List Expr} {tx : TAXd} {to : TEd}
def tMethX (C : Addr) (m : Str) (sp : SpX) (to : TEd) (tx : TAXd) : TXd := fun W E Q => to E fun x E1 => match x with
  | .ins C' fs => C' = C ∧ fs.lookup m = none ∧ tx W E1 fun ds E2 => sp (.ins C' fs :: ds) (fun d => Q d E2) (fun x => W x E2)
  | _ => False
theorem x_meth {pl : Sem Bool} (c : Cls X.K C) (hm : Meth X.K C m f) (F : FnG X.prog X.w X.K X.mg X.base (L2.CX X.prog X.w) k f fd ps (liftPX X.K X.mg sp)) (hgd : X.A.guards = some []) (hr : Room k X.A) (hb : Binds X.K fd ps []) (he : PEd X o to) (ha : PAXd X (e :: es) tx)
    (hst : starEach (e :: es) X.env = (false, eval e X.env) :: starEach es X.env := by rfl) (hpl : (backTo pos (starEach es X.env)).any (·.1) = false := by rfl)
    (ht : eval (.Call (.Attribute o m apos) (e :: es) [] pos) X.env = (do
      let ov ← eval o X.env
      standAt apos.atName
      let (f, first) ← holding [ov] (getMethod ov m pl)
      callWith pos f first (backTo pos (starEach (e :: es) X.env)) (backToKw pos (keywordEach [] X.env))) := by rfl) :
    PXd X (.Call (.Attribute o m apos) (e :: es) [] pos) (tMethX C m sp to tx) :=
  pe_imp (pe_methGS (pl := pl) he c hm F hgd hr hb wx_pass ha hst hpl ht) fun σ H Q ⟨en, Hf, F, E, Qd, Wd, S, h, k, kx⟩ => ⟨en, Hf, F, E, _, S, h, fun v H1 Hf1 F1 E1 d s1 S1 r1 h1 => by
    split at h1
    · rename_i C' fs
      obtain ⟨rfl, l, h1⟩ := h1
      have r1' := r1
      cases r1 with | ins h2 h3 rf =>
      refine ⟨_, _, _, rfl, S1.sf _ _ h2, rf.no l, en, Hf1, F1, E1, _, Wd, S1, h1, fun vs H2 Hf2 F2 E2 ds s2 S2 r2 h4 => ?_, fun cls x H' Hf' F' E' d s2 S2 r q => kx _ _ _ _ _ _ _ (s1.trans s2) S2 r q⟩
      exact ⟨Hf2, _, _, _, S2.sf, .cons (r1'.mono s2) r2, h4, fun v H' Hf' d s3 s4 s5 g r q => k _ _ _ _ _ _ ((s1.trans s2).trans s3) (S2.grow s3 s4 s5 g) r q, fun cls x d H' Hf' s3 s4 s5 g r q => kx _ _ _ _ _ _ _ ((s1.trans s2).trans s3) (S2.grow s3 s4 s5 g) r q⟩
    · exact h1.elim⟩
/-- C(..) -/
def tMakeX (C : Addr) (so : SoX) (tx : TAXd) : TXd := fun W E Q => tx W E fun ds E1 => so (.oi C []) ds (fun d o' => d = .non ∧ ∃ fs, o' = .oi C fs ∧ Q (.ins C fs) E1) (fun x _ => W x E1)
theorem x_make (M : Mk X.K C f) (F : FnG X.prog X.w X.K X.mg X.base (L2.CX X.prog X.w) k f fd ps (liftOX X.K X.mg so)) (hgd : X.A.guards = some []) (hr : Room (k + 1) X.A) (hm : X.mg x = some (.ref C)) (hb : Binds X.K fd ps []) (ha : PAXd X (e :: es) tx)
    (hg : Gl X x := by rfl) (hdb : (x == ("__debug__" : Str)) = false := by decide) (he : starEach (e :: es) X.env = (false, eval e X.env) :: starEach es X.env := by rfl) (hpl : (backTo pos (starEach es X.env)).any (·.1) = false := by rfl) :
    PXd X (.Call (.Name x p) (e :: es) [] pos) (tMakeX C so tx) :=
  pe_imp (pe_makeGS M F hgd hr hg hm hb wx_pass ha hdb he hpl) fun σ H Q ⟨en, Hf, F, E, Qd, Wd, S, h, k, kx⟩ => ⟨en, Hf, F, E, _, Wd, S, h, fun vs H1 Hf1 F1 E1 ds s1 S1 r1 h1 => fun a dx na nd ne => by
    have fa : Hf1 a = none := S1.sf.free na
    have fd' : Hf1 dx = none := S1.sf.free nd
    have up : ∀ b u, H1 b = some u → upd (upd H1 dx (.own a)) a (.ins C dx []) b = some u := fun b u z => by
      rw [upd_ne (ne_of_none z na), upd_ne (ne_of_none z nd)]
      exact z
    have s2 : Same Hf1 (upd (upd H1 dx (.own a)) a (.ins C dx [])) := fun b u z => up b u (S1.sf _ _ z)
    have no : ∀ b, upd (upd H1 dx (.own a)) a (.ins C dx []) b = none → H1 b = none := fun b z => by
      by_cases y1 : b = a
      · rw [y1, upd_same] at z
        cases z
      · rw [upd_ne y1] at z
        by_cases y2 : b = dx
        · rw [y2, upd_same] at z
          cases z
        · rw [upd_ne y2] at z
          exact z
    refine ⟨Hf1, .ref a, vs, .oi C [], [a, dx], ds, _, _, rfl, s2, ⟨a, dx, [], rfl, rfl, upd_same, by rw [upd_ne ne, upd_same], .nil⟩, fun b hb => ?_, r1, h1, fun v H' Hf' d o' s3 s4 kp dm g ro rv q => ?_, fun cls x d H' Hf' o' s3 s4 kp dm g ro rx q => ?_⟩
    · rcases List.mem_cons.mp hb with rfl | hb
      · exact fa
      · rw [List.mem_singleton.mp hb]
        exact fd'
    · obtain ⟨rfl, fs, rfl, q⟩ := q
      cases rv
      obtain ⟨a', dx', ws, ea, ef, h3, h4, rf⟩ := ro
      cases ea
      cases ef
      have nmem : ∀ b, b ≠ a → b ≠ dx → b ∉ [a, dx] := fun b y1 y2 y3 => by
        rcases List.mem_cons.mp y3 with y3 | y3
        · exact y1 y3
        · exact y2 (List.mem_singleton.mp y3)
      have hfa : Hf' a = none := by
        cases z : Hf' a with
        | none => rfl
        | some u =>
          rcases g a u z with y | y
          · rw [fa] at y
            cases y
          · rw [upd_same] at y
            cases y
      have hfd : Hf' dx = none := by
        cases z : Hf' dx with
        | none => rfl
        | some u =>
          rcases g dx u z with y | y
          · rw [fd'] at y
            cases y
          · rw [upd_ne ne, upd_same] at y
            cases y
      have e1 : Same Hf' (upd (upd Hf' dx (.own a)) a (.ins C dx ws)) := fun b u z => by
        rw [upd_ne (ne_of_none z hfa), upd_ne (ne_of_none z hfd)]
        exact z
      have e2 : Same (upd (upd Hf' dx (.own a)) a (.ins C dx ws)) H' := fun b u z => by
        by_cases y1 : b = a
        · rw [y1, upd_same] at z
          cases z
          rw [y1]
          exact h3
        · rw [upd_ne y1] at z
          by_cases y2 : b = dx
          · rw [y2, upd_same] at z
            cases z
            rw [y2]
            exact h4
          · rw [upd_ne y2] at z
            exact s4 _ _ z
      have e3 : Same H1 H' := fun b u z => kp b u (nmem b (ne_of_none z na) (ne_of_none z nd)) (up b u z)
      refine ⟨rfl, k (.ref a) H' _ F1 E1 (.ins C fs) ((s1.trans s3).trans e1) (S1.grow (s3.trans e1) e2 e3 fun b u z => ?_) (.ins upd_same (by rw [upd_ne ne, upd_same]) (rf.mono e1)) q⟩
      by_cases y1 : b = a
      · rw [y1]
        exact .inr na
      · rw [upd_ne y1] at z
        by_cases y2 : b = dx
        · rw [y2]
          exact .inr nd
        · rw [upd_ne y2] at z
          rcases g b u z with y | y
          · exact .inl y
          · exact .inr (no b y)
    · have e3 : Same H1 H' := fun b u z => kp b u (fun y => by
        rcases List.mem_cons.mp y with y | y
        · exact ne_of_none z na y
        · exact ne_of_none z nd (List.mem_singleton.mp y)) (up b u z)
      exact kx cls x H' Hf' F1 E1 d (s1.trans s3) (S1.grow s3 s4 e3 fun b u z => (g b u z).imp id (no b)) rx q, kx⟩
/-- isinstance(e, C), e an instance of C -/
def tIsC (C : Addr) (te : TEd) : TEd := fun E Q => te E fun x E1 => match x with
  | .ins C' _ => C' = C ∧ Q (.bl true) E1
  | _ => False
end
section
variable {X : Cx} {C : Addr} {x : Str} {e : Expr} {te : TEd} {p p2 pos : Pos}
theorem d_isC (c : C8.InsC X.K C) (hi : X.mg "isinstance" = none) (hm : X.mg x = some (.ref C)) (he : PEd X e te) (hg : Gl X "isinstance" := by rfl) (hg2 : Gl X x := by rfl) (hdx : (x == ("__debug__" : Str)) = false := by decide)
    (hs : starEach [e, .Name x p2] X.env = (false, eval e X.env) :: starEach [.Name x p2] X.env := by rfl) (hs2 : starEach [.Name x p2] X.env = (false, eval (.Name x p2) X.env) :: starEach [] X.env := by rfl) (hpl : (backTo pos (starEach [.Name x p2] X.env)).any (·.1) = false := by rfl) :
    PEd X (.Call (.Name "isinstance" p) [e, .Name x p2] [] pos) (tIsC C te) :=
  pe_imp (pe_callB (C8.call_isC c) hg hi PyProof.Rows.boot_isinstance (pa_cons he (pa_cons (pe_glob (v := .ref C) hg2 hm rfl hdx) pa_nil hs2) hs) (by decide) (by decide) hs hpl) fun σ H Q ⟨en, Hf, F, E, Qd, S, h, k⟩ => ⟨en, Hf, F, E, _, S, h, fun v H1 Hf1 F1 E1 d s1 S1 r1 h1 => by
    split at h1
    · rename_i C' fs
      obtain ⟨rfl, q⟩ := h1
      cases r1 with | ins h2 h3 rf =>
      exact ⟨_, _, _, rfl, S1.sf _ _ h2, k _ _ _ _ _ _ s1 S1 (.bl true) q⟩
    · exact h1.elim⟩
end
/-! ### defs of a class -/
section
variable {P : Program} {w : World} {K : PySem.W.Frag} {mg : Str → Option Value} {base : Heap}
structure CalMAt (P : Program) (w : World) (K : PySem.W.Frag) (mg : Str → Option Value) (base : Heap) (C : Addr) (m : Str) (k : Nat) (ps : List Str) (sp : SpX) (f : Addr) (fd : FuncData) : Prop where
  fn : FnG P w K mg base (L2.CX P w) k f fd ps (liftPX K mg sp)
  bd : Binds K fd ps []
  cl : Cls K C
  mt : Meth K C m f
  fi : PySem.W.fnIn K f = true
def CalM (P : Program) (w : World) (K : PySem.W.Frag) (mg : Str → Option Value) (base : Heap) (C : Addr) (m : Str) (k : Nat) (ps : List Str) (sp : SpX) : Prop := ∃ f fd, CalMAt P w K mg base C m k ps sp f fd
structure CalIAt (P : Program) (w : World) (K : PySem.W.Frag) (mg : Str → Option Value) (base : Heap) (x : Str) (C : Addr) (k : Nat) (ps : List Str) (so : SoX) (f : Addr) (fd : FuncData) : Prop where
  fn : FnG P w K mg base (L2.CX P w) k f fd ps (liftOX K mg so)
  bd : Binds K fd ps []
  mkc : Mk K C f
  mg : mg x = some (.ref C)
def CalI (P : Program) (w : World) (K : PySem.W.Frag) (mg : Str → Option Value) (base : Heap) (x : Str) (C : Addr) (k : Nat) (ps : List Str) (so : SoX) : Prop := ∃ f fd, CalIAt P w K mg base x C k ps so f fd
def DfnM (K : PySem.W.Frag) (C : Addr) (m qual : Str) (st : Stmt) (ps : List Str) : Prop := ∃ f fd, Fun K m qual st f fd ∧ Binds K fd ps [] ∧ Cls K C ∧ Meth K C m f
def DfnI (K : PySem.W.Frag) (mg : Str → Option Value) (x : Str) (C : Addr) (qual : Str) (st : Stmt) (ps : List Str) : Prop := ∃ f fd, Fun K "__init__" qual st f fd ∧ Binds K fd ps [] ∧ Mk K C f ∧ mg x = some (.ref C)
theorem cal_meth {C : Addr} {m qual : Str} {st : Stmt} {N ps : List Str} {k : Nat} {sp : SpX} (d : DfnM K C m qual st ps) (S : FnScope N ps (defScope st)) (len : ∀ ds Q W, sp ds Q W → ds.length = ps.length)
    (hbody : ∃ t : TSd, (∀ (f : Addr) (cdv : Value) (A : Around) (outer : List Env) (s : Shared) (H : Hp) (E : XK), A.guards = some [] → Room k (A.deeper (PyProof.Rows.envOfC qual (defScope st) s.heap.objs.size f cdv)) →
      PBd (cxOf (L2.CX P w) P w K mg base N qual (defScope st) f cdv A outer s H E) (defBody st) t) ∧
      ∀ ds Q W, sp ds Q W → t { nx := fun _ => Q .non, rt := fun d _ => Q d, ex := fun x _ => W x } (startD N (ds.map .fz))) : CalM P w K mg base C m (k + 1) ps sp := by
  obtain ⟨f, fd, F, hb, c, hm⟩ := d
  obtain ⟨t, h1, h2⟩ := hbody
  refine ⟨f, fd, fn_pureX F S len ⟨t, h1 f, h2⟩, hb, c, hm, ?_⟩
  obtain ⟨oc, od, kV, doc, pm, an, cdv, ct, osl, z, lk, z2⟩ := F.ex
  unfold PySem.W.fnIn
  rw [lk]
theorem cal_init {x : Str} {C : Addr} {qual : Str} {st : Stmt} {N ps : List Str} {k : Nat} {so : SoX} (d : DfnI K mg x C qual st ps) (S : FnScope N ps (defScope st)) (len : ∀ o ds Q W, so o ds Q W → ds.length + 1 = ps.length)
    (hbody : ∃ t : TSd, (∀ (f : Addr) (cdv : Value) (A : Around) (outer : List Env) (s : Shared) (H : Hp) (E : XK), A.guards = some [] → Room k (A.deeper (PyProof.Rows.envOfC qual (defScope st) s.heap.objs.size f cdv)) →
      PBd (cxOf (L2.CX P w) P w K mg base N qual (defScope st) f cdv A outer s H E) (defBody st) t) ∧
      ∀ o ds Q W, so o ds Q W → t { nx := fun E => ∃ o', E[0]? = some (.ow true o') ∧ Q .non o', rt := fun d E => ∃ o', E[0]? = some (.ow true o') ∧ Q d o', ex := fun x E => ∃ o', E[0]? = some (.ow true o') ∧ W x o' } (startD N (.ow true o :: ds.map .fz))) : CalI P w K mg base x C (k + 1) ps so := by
  obtain ⟨f, fd, F, hb, hm, hg⟩ := d
  obtain ⟨t, h1, h2⟩ := hbody
  exact ⟨f, fd, fn_ownX F S len ⟨t, h1 f, h2⟩, hb, hm, hg⟩
end
def sox1 (R : Ow → D → (D → Ow → Prop) → (Xd → Ow → Prop) → Prop) : SoX := fun o ds Q W => match ds with
  | [a] => R o a Q W
  | _ => False
theorem sox1_len {R} : ∀ o ds Q W, sox1 R o ds Q W → ds.length + 1 = 2 := fun o ds Q W h => by
  unfold sox1 at h
  split at h
  · rfl
  · exact h.elim
theorem sox1_by {R} {G : Ow → List D → (D → Ow → Prop) → (Xd → Ow → Prop) → Prop} (h : ∀ o a Q W, R o a Q W → G o [a] Q W) : ∀ o ds Q W, sox1 R o ds Q W → G o ds Q W := fun o ds Q W q => by
  unfold sox1 at q
  split at q
  · exact h _ _ _ _ q
  · exact q.elim
def sox2 (R : Ow → D → D → (D → Ow → Prop) → (Xd → Ow → Prop) → Prop) : SoX := fun o ds Q W => match ds with
  | [a, b] => R o a b Q W
  | _ => False
theorem sox2_len {R} : ∀ o ds Q W, sox2 R o ds Q W → ds.length + 1 = 3 := fun o ds Q W h => by
  unfold sox2 at h
  split at h
  · rfl
  · exact h.elim
theorem sox2_by {R} {G : Ow → List D → (D → Ow → Prop) → (Xd → Ow → Prop) → Prop} (h : ∀ o a b Q W, R o a b Q W → G o [a, b] Q W) : ∀ o ds Q W, sox2 R o ds Q W → G o ds Q W := fun o ds Q W q => by
  unfold sox2 at q
  split at q
  · exact h _ _ _ _ _ q
  · exact q.elim
end L3
/-! L5d: instances of own classes: ==, +, in, [], len, str, calls. -/
namespace L3
open PySem L2
variable [Tbs]
/-- a reading where nothing is raised -/
def tNX (te : TXd) : TEd := fun E Q => te (fun _ _ => False) E Q
theorem d_nx {X : Cx} {e : Expr} {te : TXd} (h : PXd X e te) : PEd X e (tNX te) := pe_imp h fun σ H Q ⟨en, Hf, F, E, Qd, S, h, k⟩ => ⟨en, Hf, F, E, Qd, fun _ _ => False, S, h, k, fun _ _ _ _ _ _ _ _ _ _ w => w.elim⟩
def tNTX (te : TTXd) : TTd := fun E Q => te (fun _ _ => False) E Q
theorem t_nx {X : Cx} {e : Expr} {te : TTXd} (h : PTXd X e te) : PTd X e (tNTX te) := pt_imp h fun σ H Q ⟨en, Hf, F, E, Qd, S, h, k⟩ => ⟨en, Hf, F, E, Qd, fun _ _ => False, S, h, k, fun _ _ _ _ _ _ _ _ _ _ w => w.elim⟩
/-- x.f as one of several targets -/
def gFldD (K : PySem.W.Frag) (j : Nat) (f : Str) : TGd := fun y E Q => match E[j]? with
  | some (.ow b (.oi C fs)) => OFld K C f ∧ fs.length < 1000 ∧ Q (E.set j (.ow b (.oi C (putFD f y fs))))
  | _ => False
theorem g_fld (K : PySem.W.Frag) {X : Cx} {x f : Str} {p pos : Pos} (j : Nat) (hK : X.K = K := by rfl) (hN : X.N[j]? = some x := by rfl) (hv : Vis X.env.scope x := by first | exact Or.inl rfl | exact Or.inr (Or.inl rfl) | exact Or.inr (Or.inr rfl)) (hd : (x == ("__debug__" : Str)) = false := by decide) (hcd : (x == ("__classdict__" : Str)) = false := by decide)
    (ha : ∀ v, assign (.Attribute (.Name x p) f pos) X.env v = (do
      let ov ← holding [v] (eval (.Name x p) X.env)
      standAt pos.atName
      holding [v, ov] (setAttr ov f v)
      release [v, ov] []) := by intro _; rfl) : PGd X (.Attribute (.Name x p) f pos) (gFldD K j f) := by
  subst hK
  refine ⟨fun pins s σ H v u Q I r h => ?_⟩
  obtain ⟨en, Hf, F1, E1, d, Qd, S1, r1, h1, k1⟩ := h
  unfold gFldD at h1
  split at h1
  · rename_i b C fs e1
    obtain ⟨v0, hv0, ⟨a, dx, vs, rfl, hF, ha0, hdx, rf⟩, _⟩ := S1.own e1
    obtain ⟨⟨c, n⟩, hl, q⟩ := h1
    have ma : a ∈ F1 j := by rw [hF]; simp
    have md : dx ∈ F1 j := by rw [hF]; simp
    have na := (S1.fp j a ma).1
    have ne : dx ≠ a := fun z => by rw [z, ha0] at hdx; cases hdx
    rw [ha]
    refine wpAny_bind (wpAny_holding (thn ((pv (X := X) (pos := p) j hN hv hd hcd).run pins s σ H (fun x H1 => x = V.ref a ∧ H1 = H) I ⟨V.ref a, hv0, rfl, rfl⟩) fun ov s1 ⟨x1, H1, I1, rx, ex, eH⟩ => ?_))
    subst ex
    subst eH
    obtain rfl : ov = Value.ref a := rx
    refine wpAny_bind (wpAny_standAt (wpAny_bind (wpAny_holding (setattr_ok I1 ha0 c n (by rw [rf.length]; exact hl) r fun s3 I3 => ?_))))
    refine wpAny_release ⟨σ, _, I3, ?_⟩
    refine k1 _ _ _ _ _ (Same.refl _) (S1.change e1 hv0 (o' := .oi C (putFD f d fs)) (Same.refl _) (fun b u z => ?_) (fun b u nb z => ?_) (fun b u z => ?_) (fun _ _ z => .inl z) ⟨a, dx, _, rfl, hF, upd_same, by rw [upd_ne ne]; exact hdx, rf.put r1⟩) q
    · have nb : b ≠ a := fun y => by rw [y, na] at z; cases z
      rw [upd_ne nb]
      exact S1.sf _ _ z
    · have nb' : b ≠ a := fun y => nb (by rw [y]; exact ma)
      rw [upd_ne nb']
      exact z
    · by_cases y : b = a
      · subst y
        exact ⟨_, upd_same⟩
      · rw [upd_ne y]
        exact ⟨u, z⟩
  · exact h1.elim
/-! ### the defs of a class that operators call -/
structure Spc (K : PySem.W.Frag) (C : Addr) (m : Str) (f : Addr) : Prop where
  at_ : PySem.W.findIn K (.ref C) m = some (some (.ref f))
  fn : PySem.W.isFn K (.ref f) = true
  fi : PySem.W.fnIn K f = true
  sf : PySem.W.selfFirst K C = true
  ns : PySem.W.noSeq K C = true
  nf : (["int", "bool", "str", "tuple", "list", "NoneType", "dict"].all fun n => PySem.W.notFirst K C (.type n)) = true
  ic : C8.InsC K C
structure SpcC (K : PySem.W.Frag) (C : Addr) : Prop where
  sf : PySem.W.selfFirst K C = true
  ns : PySem.W.noSeq K C = true
  nf : (["int", "bool", "str", "tuple", "list", "NoneType", "dict"].all fun n => PySem.W.notFirst K C (.type n)) = true
  ic : C8.InsC K C
theorem CalMAt.spc {P : Program} {w : World} {K : PySem.W.Frag} {mg : Str → Option Value} {base : Heap} {C : Addr} {m : Str} {k : Nat} {ps : List Str} {sp : SpX} {f : Addr} {fd : FuncData} (c : CalMAt P w K mg base C m k ps sp f fd) (p : SpcC K C) : Spc K C m f :=
  ⟨c.mt.at_, c.mt.fn, c.fi, p.sf, p.ns, p.nf, p.ic⟩
section
variable {X : Cx} {pins : List (Addr × Obj)} {σ : L2.St} {H : Hp} {s : Shared}
theorem run_GA {k : Nat} {f : Addr} {fd : FuncData} {ps : List Str} {sp : Sp} {CX : CXT} {A : Around} {E : XK} {Q : VK} {us : List Value} {vs : List V} (F : FnG X.prog X.w X.K X.mg X.base CX k f fd ps sp) (hga : A.guards = some []) (hr : Room k A) (hfr : A.frames = X.A.frames) (hb : Binds X.K fd ps []) (hx : PassesAt CX X σ E)
    (I : Inv X pins σ H s) (r : Vals vs us) (h : sp vs H Q E) : wpAny (model X.prog X.w) A (call (.ref f) us) (EP X pins σ Q) X.xe s := by
  have lu : us.length = ps.length := r.length.symm.trans (F.len _ _ _ _ h)
  have bt : BindsTo s fd ⟨us, []⟩ (ps.zip us) := by
    have z := hb s us I.kIn (by rw [List.append_nil]; exact lu)
    rw [List.append_nil] at z
    exact z
  have e0 : Env0 X.prog X.w X.K X.mg X.base A X.stack s H := by
    have e := I.env0
    exact ⟨by rw [hfr]; exact e.frames, e.mod, e.bs, e.bsz, e.funs, e.frf, e.hok, e.bare⟩
  refine wpAny_call (codeAny_mono (F.run A hga hr X.stack s H ⟨us, []⟩ us vs Q E e0 bt r h) fun res s' q => ?_)
  match res, q with
  | .error err, q => exact hx pins H s err s' I q
  | .ok (.ret u), q => exact I.after q
abbrev R2S := V → V → L2.St → Hp → VK → Prop
def OpRS (X : Cx) (f : Value → Value → Sem Value) (r : R2S) : Prop :=
  ∀ (pins : List (Addr × Obj)) (s : Shared) (σ : L2.St) (H : Hp) (x y : V) (v u : Value) (Q : VK), Inv X pins σ H s → RelV x v → RelV y u → r x y σ H Q →
    wpAny (model X.prog X.w) X.A (f v u) (EP X pins σ Q) X.xe s
def tOpS (r : R2S) (ta tb : TE) : TE := fun σ H Q => ta σ H fun x H1 => tb σ H1 fun y H2 => r x y σ H2 Q
variable {a b : Expr} {ta tb : TE} {pos : Pos}
theorem pe_opS {op : Operator} {r : R2S} (ho : OpRS X (binaryOp op) r) (ha : PE X a ta) (hb : PE X b tb) : PE X (.BinOp a op b pos) (tOpS r ta tb) := by
  refine ⟨fun pins s σ H Q I h => ?_⟩
  exact wpAny_BinOp (binT ha hb I h fun v u s2 x y H2 I2 rx ry q => ho pins s2 σ H2 x y v u Q I2 rx ry q)
theorem pe_cmpS {op : CmpOp} {r : R2S} (ho : OpRS X (compareOp op) r) (ha : PE X a ta) (hb : PE X b tb) (hm : behindInMarks op b = false) : PE X (.Compare a [op] [b] pos) (tOpS r ta tb) := by
  refine ⟨fun pins s σ H Q I h => ?_⟩
  exact wpAny_Compare1 (binT ha hb I h fun v u s2 x y H2 I2 rx ry q => ho pins s2 σ H2 x y v u Q I2 rx ry q) hm
theorem pt_cmpS {op : CmpOp} {r : R2S} (ho : OpRS X (compareOp op) r) (ha : PE X a ta) (hb : PE X b tb) (hm : behindInMarks op b = false) : PT X (.Compare a [op] [b] pos) (tTest (tOpS r ta tb)) := by
  refine ⟨fun pins s σ H Q I h => ?_⟩
  refine wpAny_isTrue_Compare1 (thn (ha.run pins s σ H _ I h) fun v s1 ⟨x, H1, I1, r1, q1⟩ => thn (hb.run pins s1 σ H1 _ I1 q1) fun u s2 ⟨y, H2, I2, r2, q2⟩ =>
    thn (ho pins s2 σ H2 x y v u _ I2 r1 r2 q2) fun c s3 ⟨z, H3, I3, r3, k, e, q3⟩ => ?_) hm
  subst e
  cases r3
  exact wpAny_truthy_bool ⟨H3, I3, q3⟩
theorem cmpBack {Q : VK} {u : Value} {s' : Shared} (h : EP X pins σ Q u s') : PySem.W.CmpBack (EP X pins σ Q) u s' := by
  obtain ⟨v, H', I', r, q⟩ := h
  cases u with
  | notImplemented => cases v <;> first | (cases r; done) | (obtain ⟨_, z⟩ := r; cases z)
  | _ => exact ⟨v, H', I', r, q⟩
end
section
variable {X : Cx} {C f : Addr} {k : Nat} {fd : FuncData} {ps : List Str} {sp : Sp}
/-- o op p, both instances of C -/
theorem op_spcB {op : Operator} (S : Spc X.K C (PySem.dunder op.info.2) f) (F : FnG X.prog X.w X.K X.mg X.base (L2.CX X.prog X.w) k f fd ps sp) (hgd : X.A.guards = some []) (hr : Room k X.A) (hb : Binds X.K fd ps []) :
    OpRS X (binaryOp op) (fun x y σ H Q => ∃ a dx fs b dy gs, x = .ref a ∧ y = .ref b ∧ H a = some (.ins C dx fs) ∧ H b = some (.ins C dy gs) ∧ sp [x, y] H Q (wxe X σ)) := by
  intro pins s σ H x y v u Q I rx ry ⟨a, dx, fs, b, dy, gs, ex, ey, ha, hb', hs⟩
  subst ex; subst ey
  obtain rfl : v = Value.ref a := rx
  obtain rfl : u = Value.ref b := ry
  obtain ⟨mA, J, _⟩ := ins_get I.hok ha
  obtain ⟨mB, J', _⟩ := ins_get I.hok hb'
  obtain ⟨od, J, _⟩ := J.look
  obtain ⟨od', J', _⟩ := J'.look
  obtain ⟨m, hF⟩ := I.fr
  exact PySem.W.binop_K hF I.ok.mod.kin J J'.type S.sf S.at_ S.fn (wpAny_mono (run_GA F hgd hr rfl hb (wx_pass σ) I (.cons (a := V.ref a) rfl (.cons (a := V.ref b) rfl .nil)) hs) (fun _ _ z => cmpBack z) fun _ _ z => z)
/-- o == y -/
theorem op_spcC {op : CmpOp} (hop : ∀ x y, compareOp op x y = richCompare op x y) (S : Spc X.K C (cmpInfo op).2.1 f) (F : FnG X.prog X.w X.K X.mg X.base (L2.CX X.prog X.w) k f fd ps sp) (hgd : X.A.guards = some []) (hr : Room k X.A) (hb : Binds X.K fd ps []) :
    OpRS X (compareOp op) (fun x y σ H Q => ∃ a dx fs t, x = .ref a ∧ H a = some (.ins C dx fs) ∧ TyX X.K H y t ∧ PySem.W.notFirst X.K C t = true ∧ sp [x, y] H Q (wxe X σ)) := by
  intro pins s σ H x y v u Q I rx ry ⟨a, dx, fs, t, ex, ha, ty, hn, hs⟩
  subst ex
  obtain rfl : v = Value.ref a := rx
  obtain ⟨mA, J, _⟩ := ins_get I.hok ha
  obtain ⟨od, J, _⟩ := J.look
  obtain ⟨m, hF⟩ := I.fr
  obtain ⟨P, Z, p, _⟩ := kit_of I ry ty
  rw [hop]
  exact PySem.W.cmp_K hr.units0 hF I.ok.mod.kin J (Z.ty _ _ I.kIn p) hn S.at_ S.fn (wpAny_mono (run_GA F hgd hr rfl hb (wx_pass σ) I (.cons (a := V.ref a) rfl (.cons ry .nil)) hs) (fun _ _ z => cmpBack z) fun _ _ z => z)
/-- y in o -/
theorem op_spcIn (S : Spc X.K C "__contains__" f) (F : FnG X.prog X.w X.K X.mg X.base (L2.CX X.prog X.w) k f fd ps sp) (hgd : X.A.guards = some []) (hr : Room k X.A) (hb : Binds X.K fd ps []) :
    OpRS X (compareOp .In) (fun y x σ H Q => ∃ a dx fs, x = .ref a ∧ H a = some (.ins C dx fs) ∧ sp [x, y] H (fun v H' => ∃ b, v = .bl b ∧ Q (.bl (b != false)) H') (wxe X σ)) := by
  intro pins s σ H y x u v Q I ry rx ⟨a, dx, fs, ex, ha, hs⟩
  subst ex
  obtain rfl : v = Value.ref a := rx
  obtain ⟨mA, J, _⟩ := ins_get I.hok ha
  obtain ⟨od, J, _⟩ := J.look
  obtain ⟨m, hF⟩ := I.fr
  refine PySem.W.in_K hF I.ok.mod.kin J S.at_ S.fn (wpAny_mono (run_GA F hgd hr rfl hb (wx_pass σ) I (.cons (a := V.ref a) rfl (.cons ry .nil)) hs) (fun w s' z => ?_) fun _ _ z => z)
  obtain ⟨x, H', I', r, b, rfl, q⟩ := z
  cases r
  exact wpAny_truthy_bool ⟨.bl (b != false), H', I', by cases b <;> rfl, q⟩
theorem op_spcNotIn (S : Spc X.K C "__contains__" f) (F : FnG X.prog X.w X.K X.mg X.base (L2.CX X.prog X.w) k f fd ps sp) (hgd : X.A.guards = some []) (hr : Room k X.A) (hb : Binds X.K fd ps []) :
    OpRS X (compareOp .NotIn) (fun y x σ H Q => ∃ a dx fs, x = .ref a ∧ H a = some (.ins C dx fs) ∧ sp [x, y] H (fun v H' => ∃ b, v = .bl b ∧ Q (.bl (b != true)) H') (wxe X σ)) := by
  intro pins s σ H y x u v Q I ry rx ⟨a, dx, fs, ex, ha, hs⟩
  subst ex
  obtain rfl : v = Value.ref a := rx
  obtain ⟨mA, J, _⟩ := ins_get I.hok ha
  obtain ⟨od, J, _⟩ := J.look
  obtain ⟨m, hF⟩ := I.fr
  refine PySem.W.notIn_K hF I.ok.mod.kin J S.at_ S.fn (wpAny_mono (run_GA F hgd hr rfl hb (wx_pass σ) I (.cons (a := V.ref a) rfl (.cons ry .nil)) hs) (fun w s' z => ?_) fun _ _ z => z)
  obtain ⟨x, H', I', r, b, rfl, q⟩ := z
  cases r
  exact wpAny_truthy_bool ⟨.bl (b != true), H', I', by cases b <;> rfl, q⟩
end
/-! ### readings -/
abbrev RDX := D → D → (Xd → En → Prop) → En → (D → En → Prop) → Prop
def tOpXS (rd : RDX) (ta tb : TXd) : TXd := fun W E Q => ta W E fun x E1 => tb W E1 fun y E2 => rd x y W E2 Q
def OpOkS (X : Cx) (r : R2S) (rd : RDX) : Prop := ∀ en Hf H F E σ vx vy x y Q Qd Wd, Sat X.K en Hf H F E σ → Rep X.K Hf vx x → Rep X.K Hf vy y → rd x y Wd E Qd →
  (∀ v H' Hf' F' E' d, Same Hf Hf' → Sat X.K en Hf' H' F' E' σ → Rep X.K Hf' v d → Qd d E' → Q v H') →
  (∀ cls x H' Hf' F' E' d, Same Hf Hf' → Sat X.K en Hf' H' F' E' σ → XRep X.K X.mg Hf' cls d x → Wd x E' → Wx X cls d σ H') → r vx vy σ H Q
theorem lift2S {X : Cx} {r : R2S} {rd : RDX} {te tf : TXd} (hk : OpOkS X r rd) : ∀ σ H Q, liftX X (tOpXS rd te tf) σ H Q → tOpS r (liftX X te) (liftX X tf) σ H Q := fun σ H Q ⟨en, Hf, F, E, Qd, Wd, S, h, k, kx⟩ =>
  ⟨en, Hf, F, E, _, Wd, S, h, fun v1 H1 Hf1 F1 E1 x s1 S1 r1 h1 => ⟨en, Hf1, F1, E1, _, Wd, S1, h1, fun v2 H2 Hf2 F2 E2 y s2 S2 r2 h2 =>
    hk en Hf2 H2 F2 E2 σ v1 v2 x y Q Qd Wd S2 (r1.mono s2) r2 h2 (fun v H' Hf' F' E' d s3 => k v H' Hf' F' E' d ((s1.trans s2).trans s3)) (fun _ _ _ _ _ _ _ s3 => kx _ _ _ _ _ _ _ ((s1.trans s2).trans s3)), fun _ _ _ _ _ _ _ s2 => kx _ _ _ _ _ _ _ (s1.trans s2)⟩, kx⟩
/-- the type of data beside an instance of C -/
def D.nfOk (C : Addr) : D → Prop
  | .ins C' _ => C' = C
  | .opq _ => False
  | .pt _ => False
  | _ => True
theorem nf_ty {X : Cx} {C f : Addr} {m : Str} (S : Spc X.K C m f) {Hf H : Hp} {v : V} {y : D} (sf : Same Hf H) (r : Rep X.K Hf v y) (h : y.nfOk C) : ∃ t, TyX X.K H v t ∧ PySem.W.notFirst X.K C t = true := by
  have nf : ∀ n, n ∈ ["int", "bool", "str", "tuple", "list", "NoneType", "dict"] → PySem.W.notFirst X.K C (.type n) = true := fun n hn => List.all_eq_true.mp S.nf n hn
  cases r with
  | non => exact ⟨_, .base .non, nf _ (by simp)⟩
  | bl b => exact ⟨_, .base (.bl b), nf _ (by simp)⟩
  | int i => exact ⟨_, .base (.int i), nf _ (by simp)⟩
  | str x => exact ⟨_, .base (.str x), nf _ (by simp)⟩
  | opq _ => exact h.elim
  | pt _ _ => exact h.elim
  | tup s q =>
    have z := (Rep.tup (Same.sqT sf s) (q.mono sf)).tyX (n := "tuple") rfl
    exact ⟨_, z, nf _ (by simp)⟩
  | lst s q => exact ⟨_, .base (.lst (sf _ _ s)), nf _ (by simp)⟩
  | dct s q => exact ⟨_, .base (.dK (sf _ _ s)), nf _ (by simp)⟩
  | ins s q rf =>
    cases h
    exact ⟨_, .base (TyOf.ins (sf _ _ s) S.ic.cl S.ic.ha S.ic.hn S.ic.htk S.ic.hm), by unfold PySem.W.notFirst; simp⟩
section
variable {X : Cx} {C f : Addr} {k : Nat} {fd : FuncData} {ps : List Str} {sp : SpX} {a b : Expr} {te tf : TXd} {pos : Pos}
/-- what a special def of the first one tells -/
def rdS (C : Addr) (P : D → Prop) (sp : SpX) : RDX := fun x y W E Q => match x with
  | .ins C' fs => C' = C ∧ P y ∧ sp [.ins C' fs, y] (fun d => Q d E) (fun x => W x E)
  | _ => False
def D.isIns (C : Addr) : D → Prop
  | .ins C' _ => C' = C
  | _ => False
theorem ok_spc {Ok : V → Hp → Prop} {P : D → Prop} (hok : ∀ Hf H v y, Same Hf H → Rep X.K Hf v y → P y → Ok v H) : OpOkS X (fun x y σ H Q => ∃ a dx fs, x = .ref a ∧ H a = some (.ins C dx fs) ∧ Ok y H ∧ liftPX X.K X.mg sp [x, y] H Q (wxe X σ)) (rdS C P sp) :=
  fun en Hf H F E σ vx vy x y Q Qd Wd S rx ry h k kx => by
    unfold rdS at h
    split at h
    · rename_i C' fs
      obtain ⟨rfl, p, h⟩ := h
      have rx' := rx
      cases rx with | ins h2 h3 rf =>
      exact ⟨_, _, _, rfl, S.sf _ _ h2, hok _ _ _ _ S.sf ry p, Hf, [_, _], _, _, S.sf, .cons rx' (.cons ry .nil), h, fun v H' Hf' d s2 s3 s4 g r q => k _ _ _ _ _ _ s2 (S.grow s2 s3 s4 g) r q, fun cls x d H' Hf' s2 s3 s4 g r q => kx _ _ _ _ _ _ _ s2 (S.grow s2 s3 s4 g) r q⟩
    · exact h.elim
/-- the rules, with what they ask -/
abbrev rB (X : Cx) (C : Addr) (sp : Sp) : R2S := fun x y σ H Q => ∃ a dx fs b dy gs, x = .ref a ∧ y = .ref b ∧ H a = some (.ins C dx fs) ∧ H b = some (.ins C dy gs) ∧ sp [x, y] H Q (wxe X σ)
abbrev rC (X : Cx) (C : Addr) (sp : Sp) : R2S := fun x y σ H Q => ∃ a dx fs t, x = .ref a ∧ H a = some (.ins C dx fs) ∧ TyX X.K H y t ∧ PySem.W.notFirst X.K C t = true ∧ sp [x, y] H Q (wxe X σ)
abbrev rIn (X : Cx) (C : Addr) (n : Bool) (sp : Sp) : R2S := fun y x σ H Q => ∃ a dx fs, x = .ref a ∧ H a = some (.ins C dx fs) ∧ sp [x, y] H (fun v H' => ∃ b, v = .bl b ∧ Q (.bl (b != n)) H') (wxe X σ)
theorem ok_B : OpOkS X (rB X C (liftPX X.K X.mg sp)) (rdS C (D.isIns C) sp) := fun en Hf H F E σ vx vy x y Q Qd Wd S rx ry h k kx => by
  obtain ⟨a, dx, fs, e1, e2, ⟨b, dy, gs, e3, e4⟩, q⟩ := ok_spc (X := X) (Ok := fun v H => ∃ b dy gs, v = .ref b ∧ H b = some (.ins C dy gs)) (P := D.isIns C) (fun Hf H v y sf r p => by
    cases r with
    | ins s q rf =>
      obtain rfl : _ = C := p
      exact ⟨_, _, _, rfl, sf _ _ s⟩
    | _ => exact p.elim) en Hf H F E σ vx vy x y Q Qd Wd S rx ry h k kx
  exact ⟨a, dx, fs, b, dy, gs, e1, e3, e2, e4, q⟩
theorem ok_C {m : Str} (S : Spc X.K C m f) : OpOkS X (rC X C (liftPX X.K X.mg sp)) (rdS C (D.nfOk C) sp) := fun en Hf H F E σ vx vy x y Q Qd Wd S' rx ry h k kx => by
  obtain ⟨a, dx, fs, e1, e2, ⟨t, e3, e4⟩, q⟩ := ok_spc (X := X) (Ok := fun v H => ∃ t, TyX X.K H v t ∧ PySem.W.notFirst X.K C t = true) (P := D.nfOk C) (fun Hf H v y sf r p => nf_ty S sf r p) en Hf H F E σ vx vy x y Q Qd Wd S' rx ry h k kx
  exact ⟨a, dx, fs, t, e1, e2, e3, e4, q⟩
def rdInO (C : Addr) (n : Bool) (sp : SpX) : RDX := fun y x W E Q => match x with
  | .ins C' fs => C' = C ∧ sp [.ins C' fs, y] (fun d => ∃ k, d = .bl k ∧ Q (.bl (k != n)) E) (fun x => W x E)
  | _ => False
theorem ok_In {n : Bool} : OpOkS X (rIn X C n (liftPX X.K X.mg sp)) (rdInO C n sp) := fun en Hf H F E σ vy vx y x Q Qd Wd S' rx ry h k kx => by
  unfold rdInO at h
  split at h
  · rename_i C' fs
    obtain ⟨rfl, h⟩ := h
    have ry' := ry
    cases ry with | ins h2 h3 rf =>
    exact ⟨_, _, _, rfl, S'.sf _ _ h2, Hf, [_, _], _, _, S'.sf, .cons ry' (.cons rx .nil), h, fun v H' Hf' d s2 s3 s4 g r ⟨b, e, q⟩ => by
      subst e
      cases r
      exact ⟨b, rfl, k _ _ _ _ _ _ s2 (S'.grow s2 s3 s4 g) (.bl _) q⟩, fun cls x d H' Hf' s2 s3 s4 g r q => kx _ _ _ _ _ _ _ s2 (S'.grow s2 s3 s4 g) r q⟩
  · exact h.elim
theorem tx_cmpS {op : CmpOp} {r : R2S} {rd : RDX} (ho : OpRS X (compareOp op) r) (hk : OpOkS X r rd) (ha : PXd X a te) (hb : PXd X b tf) (hm : behindInMarks op b = false) : PTXd X (.Compare a [op] [b] pos) (tTestX (tOpXS rd te tf)) :=
  pt_imp (pt_cmpS ho ha hb hm) fun σ H Q ⟨en, Hf, F, E, Qd, Wd, S, h, k, kx⟩ =>
    lift2S hk σ H _ ⟨en, Hf, F, E, _, Wd, S, h, fun v H' Hf' F' E' d s1 S1 r1 h1 => by
      split at h1
      · cases r1
        exact ⟨_, rfl, k _ _ _ _ _ s1 S1 h1⟩
      · exact h1.elim, kx⟩
theorem x_binO {op : Operator} (S : Spc X.K C (PySem.dunder op.info.2) f) (F : FnG X.prog X.w X.K X.mg X.base (L2.CX X.prog X.w) k f fd ps (liftPX X.K X.mg sp)) (hgd : X.A.guards = some []) (hr : Room k X.A) (hb : Binds X.K fd ps []) (he : PXd X a te) (hf : PXd X b tf) :
    PXd X (.BinOp a op b pos) (tOpXS (rdS C (D.isIns C) sp) te tf) := pe_imp (pe_opS (op_spcB S F hgd hr hb) he hf) (lift2S ok_B)
theorem x_eqO (S : Spc X.K C "__eq__" f) (F : FnG X.prog X.w X.K X.mg X.base (L2.CX X.prog X.w) k f fd ps (liftPX X.K X.mg sp)) (hgd : X.A.guards = some []) (hr : Room k X.A) (hb : Binds X.K fd ps []) (he : PXd X a te) (hf : PXd X b tf) (hm : behindInMarks .Eq b = false := by rfl) :
    PXd X (.Compare a [.Eq] [b] pos) (tOpXS (rdS C (D.nfOk C) sp) te tf) := pe_imp (pe_cmpS (op_spcC (op := .Eq) (fun _ _ => rfl) S F hgd hr hb) he hf hm) (lift2S (ok_C S))
theorem tx_eqO (S : Spc X.K C "__eq__" f) (F : FnG X.prog X.w X.K X.mg X.base (L2.CX X.prog X.w) k f fd ps (liftPX X.K X.mg sp)) (hgd : X.A.guards = some []) (hr : Room k X.A) (hb : Binds X.K fd ps []) (he : PXd X a te) (hf : PXd X b tf) (hm : behindInMarks .Eq b = false := by rfl) :
    PTXd X (.Compare a [.Eq] [b] pos) (tTestX (tOpXS (rdS C (D.nfOk C) sp) te tf)) := tx_cmpS (op_spcC (op := .Eq) (fun _ _ => rfl) S F hgd hr hb) (ok_C S) he hf hm
theorem x_inO (S : Spc X.K C "__contains__" f) (F : FnG X.prog X.w X.K X.mg X.base (L2.CX X.prog X.w) k f fd ps (liftPX X.K X.mg sp)) (hgd : X.A.guards = some []) (hr : Room k X.A) (hb : Binds X.K fd ps []) (he : PXd X a te) (hf : PXd X b tf) (hm : behindInMarks .In b = false := by rfl) :
    PXd X (.Compare a [.In] [b] pos) (tOpXS (rdInO C false sp) te tf) := pe_imp (pe_cmpS (op_spcIn S F hgd hr hb) he hf hm) (lift2S ok_In)
theorem tx_inO (S : Spc X.K C "__contains__" f) (F : FnG X.prog X.w X.K X.mg X.base (L2.CX X.prog X.w) k f fd ps (liftPX X.K X.mg sp)) (hgd : X.A.guards = some []) (hr : Room k X.A) (hb : Binds X.K fd ps []) (he : PXd X a te) (hf : PXd X b tf) (hm : behindInMarks .In b = false := by rfl) :
    PTXd X (.Compare a [.In] [b] pos) (tTestX (tOpXS (rdInO C false sp) te tf)) := tx_cmpS (op_spcIn S F hgd hr hb) ok_In he hf hm
theorem x_notinO (S : Spc X.K C "__contains__" f) (F : FnG X.prog X.w X.K X.mg X.base (L2.CX X.prog X.w) k f fd ps (liftPX X.K X.mg sp)) (hgd : X.A.guards = some []) (hr : Room k X.A) (hb : Binds X.K fd ps []) (he : PXd X a te) (hf : PXd X b tf) (hm : behindInMarks .NotIn b = false := by rfl) :
    PXd X (.Compare a [.NotIn] [b] pos) (tOpXS (rdInO C true sp) te tf) := pe_imp (pe_cmpS (op_spcNotIn S F hgd hr hb) he hf hm) (lift2S ok_In)
theorem tx_notinO (S : Spc X.K C "__contains__" f) (F : FnG X.prog X.w X.K X.mg X.base (L2.CX X.prog X.w) k f fd ps (liftPX X.K X.mg sp)) (hgd : X.A.guards = some []) (hr : Room k X.A) (hb : Binds X.K fd ps []) (he : PXd X a te) (hf : PXd X b tf) (hm : behindInMarks .NotIn b = false := by rfl) :
    PTXd X (.Compare a [.NotIn] [b] pos) (tTestX (tOpXS (rdInO C true sp) te tf)) := tx_cmpS (op_spcNotIn S F hgd hr hb) ok_In he hf hm
end
end L3
/-! L5e: !=, bool, len, [], calls, str, * of instances. -/
namespace L3N
open PySem PySem.W PySem.Calls PyProof.Rows Builtin
section
variable {prog : Program} {w : World} {M : Model} {A : Around} {E : Value → Shared → Prop} {s : Shared} {K : Frag} {x C L f : Addr} {h₀ : Heap} {m : Str → Option Value} {ox : Obj} {od : Option Obj} {b tb : Value}
theorem ifBound_objNe {args : List Value} {Q : Option Value → Shared → Prop} (X : K.In s.heap) (I : InstAt s.heap x ox C od) (hs : findIn K (.ref C) "__ne__" = some (some (.builtin "object.__ne__")))
    (h : wpAny M A (call (.builtin "object.__ne__") (.ref x :: args)) (fun v => Q (some v)) E s) : wpAny M A (callSpecialIfBound? (.ref x) "__ne__" args) Q E s := by
  simp only [callSpecialIfBound?, bindSpecialIfBound?]
  refine wpAny_holding (wpAny_bind (wpAny_bind (wpAny_bind (I.type.here ((looks_findIn X hs).here ?_)))))
  refine wpAny_bind (wpAny_askSetting (wpAny_ite ?_))
  have fin : wpAny M A (call (.builtin "object.__ne__") ([.ref x] ++ args) >>= fun v => pure (some v)) Q E s := wpAny_bind (wpAny_mono h (fun v s' h' => wpAny_pure h') fun _ _ h' => h')
  split
  · exact wpAny_bind (wpAny_of_eq (F.cmp_object.ne.bind _) (wpAny_pure (by exact fin)))
  · exact wpAny_tryCatch (wpAny_bind (wpAny_of_eq (F.cmp_object.ne.bind _) (wpAny_pure (by exact fin))))
theorem entry_objNe (X : K.In s.heap) (I : InstAt s.heap x ox C od) (hs : findIn K (.ref C) "__eq__" = some (some (.ref f))) (hf : isFn K (.ref f) = true) (hu : A.units < cLine) {Q : Fin → Shared → Prop}
    (hcall : wpAny (model prog w) A (call (.ref f) [.ref x, b]) (fun v s' => ∃ k, v = .bool k ∧ Q (.done (.ret (.bool (!k)))) s') E s) :
    wpAny (model prog w) A (Builtin.«object.__ne__» ⟨[.ref x, b], []⟩) Q E s := by
  unfold Builtin.«object.__ne__»
  repeat (first
    | with_reducible refine wpAny_cRoomFor hu ?_
    | (refine wpAny_bind (m := callSpecialIfBound? (.ref x) (Str.ofString "__eq__") [b])
        (ifBound_K X I hs hf (wpAny_mono hcall (fun r s' hr => by
          obtain ⟨k, rfl, hq⟩ := hr
          repeat (first | exact hq | exact wpAny_pure hq | exact wpAny_truthy_bool hq | (refine wpAny_bind (m := truthy (.bool _)) (wpAny_truthy_bool ?_)) | wp_step)) fun _ _ e => e)))
    | wp_step)
theorem cmpNe_K {Q : Value → Shared → Prop} (hu : A.units + 1 < cLine) (FF : Fr h₀ L s.heap m) (X₀ : K.In h₀) (I : InstAt s.heap x ox C od) (hb : Looks (model prog w) s.heap (typeOf b) tb) (hn : notFirst K C tb = true)
    (hs : findIn K (.ref C) "__eq__" = some (some (.ref f))) (hf : isFn K (.ref f) = true) (hne : findIn K (.ref C) "__ne__" = some (some (.builtin "object.__ne__"))) (hm : mroIn K C (.type "object") = some true)
    (h : wpAny (model prog w) A.in1 (call (.ref f) [.ref x, b]) (fun v s' => ∃ k, v = .bool k ∧ Q (.bool (!k)) s') E s) : wpAny (model prog w) A (richCompare .NotEq (.ref x) b) Q E s := by
  have X := X₀.keeps FF.keep
  have one : wpAny (model prog w) A (tryCompare (.ref x) "__ne__" b) (fun r s' => ∃ v, r = some v ∧ Q v s') E s := by
    unfold tryCompare
    refine wpAny_bind (ifBound_objNe X I hne (wpAny_call (codeAny_call_builtin F.cmp_object.ne.plain F.cmpEntry_ne (check_slot F.cmpKind_ne F.cmpSplit_ne (I.type.andThen (looks_mroIn X hm)) (F.cmpArgs_ne _ _) (entry_objNe (A := A.in1) X I hs hf hu (wpAny_mono h (fun v s' hv => ?_) fun _ _ e => e))))))
    obtain ⟨k, rfl, hq⟩ := hv
    exact ⟨k, rfl, wpAny_pure ⟨_, rfl, hq⟩⟩
  unfold richCompare
  simp only [oneThing_ref]
  refine wpAny_holding (wpAny_bind (wpAny_cRoomFor (Nat.lt_of_succ_lt hu) ?_))
  refine wpAny_bind (I.type.here (wpAny_bind (hb.here ?_)))
  split
  · rename_i q
    have e : subIn K tb (.ref C) = some false := by
      rcases Bool.or_eq_true_iff.mp hn with e | e
      · rw [beq_iff_eq.mp e] at q; simp at q
      · exact beq_iff_eq.mp e
    refine wpAny_bind ((looks_subIn X e).here ?_)
    simp only [Bool.false_eq_true, if_false]
    refine wpAny_bind (wpAny_mono one (fun r s' z => ?_) fun _ _ e => e)
    obtain ⟨v, rfl, hq⟩ := z
    exact wpAny_pure hq
  · refine wpAny_bind (wpAny_pure ?_)
    simp only [Bool.false_eq_true, if_false]
    refine wpAny_bind (wpAny_mono one (fun r s' z => ?_) fun _ _ e => e)
    obtain ⟨v, rfl, hq⟩ := z
    exact wpAny_pure hq
end
end L3N
namespace L3
open PySem L2 PySem.W
variable [Tbs]
section
variable {X : Cx} {C f : Addr} {k : Nat} {fd : FuncData} {ps : List Str} {sp : Sp}
abbrev rNeO (X : Cx) (C : Addr) (sp : Sp) : R2S := fun x y σ H Q => ∃ a dx fs t, x = .ref a ∧ H a = some (.ins C dx fs) ∧ TyX X.K H y t ∧ PySem.W.notFirst X.K C t = true ∧ sp [x, y] H (fun v H' => ∃ k, v = .bl k ∧ Q (.bl (!k)) H') (wxe X σ)
theorem op_spcNe (S : Spc X.K C "__eq__" f) (hne : findIn X.K (.ref C) "__ne__" = some (some (.builtin "object.__ne__"))) (F : FnG X.prog X.w X.K X.mg X.base (L2.CX X.prog X.w) k f fd ps sp) (hgd : X.A.guards = some []) (hr : Room (k + 1) X.A) (hb : Binds X.K fd ps []) :
    OpRS X (compareOp .NotEq) (rNeO X C sp) := by
  intro pins s σ H x y v u Q I rx ry ⟨a, dx, fs, t, ex, ha, ty, hn, hs⟩
  subst ex
  obtain rfl : v = Value.ref a := rx
  obtain ⟨mA, J, _⟩ := ins_get I.hok ha
  obtain ⟨od, J, _⟩ := J.look
  obtain ⟨m, hF⟩ := I.fr
  obtain ⟨P, Z, p, _⟩ := kit_of I ry ty
  show wpAny _ _ (richCompare .NotEq _ _) _ _ _
  refine L3N.cmpNe_K hr.units1 hF I.ok.mod.kin J (Z.ty _ _ I.kIn p) hn S.at_ S.fn hne S.ic.hm (wpAny_mono (run_GA F hgd hr.in1 rfl hb (wx_pass σ) I (.cons (a := V.ref a) rfl (.cons ry .nil)) hs) (fun w s' z => ?_) fun _ _ z => z)
  obtain ⟨z, H', I', r, k, rfl, q⟩ := z
  cases r
  exact ⟨k, rfl, .bl (!k), H', I', rfl, q⟩
end
section
variable {X : Cx} {C f : Addr} {k : Nat} {fd : FuncData} {ps : List Str} {sp : SpX} {a b : Expr} {te tf : TXd} {pos : Pos}
def rdNeO (C : Addr) (P : D → Prop) (sp : SpX) : RDX := fun x y W E Q => match x with
  | .ins C' fs => C' = C ∧ P y ∧ sp [.ins C' fs, y] (fun d => ∃ k, d = .bl k ∧ Q (.bl (!k)) E) (fun x => W x E)
  | _ => False
theorem ok_NeO {m : Str} (S : Spc X.K C m f) : OpOkS X (rNeO X C (liftPX X.K X.mg sp)) (rdNeO C (D.nfOk C) sp) := fun en Hf H F E σ vx vy x y Q Qd Wd S' rx ry h k kx => by
  unfold rdNeO at h
  split at h
  · rename_i C' fs
    obtain ⟨rfl, p, h⟩ := h
    have rx' := rx
    obtain ⟨t, e3, e4⟩ := nf_ty S S'.sf ry p
    cases rx with | ins h2 h3 rf =>
    exact ⟨_, _, _, t, rfl, S'.sf _ _ h2, e3, e4, Hf, [_, _], _, _, S'.sf, .cons rx' (.cons ry .nil), h, fun v H' Hf' d s2 s3 s4 g r ⟨b, e, q⟩ => by
      subst e
      cases r
      exact ⟨b, rfl, k _ _ _ _ _ _ s2 (S'.grow s2 s3 s4 g) (.bl _) q⟩, fun cls x d H' Hf' s2 s3 s4 g r q => kx _ _ _ _ _ _ _ s2 (S'.grow s2 s3 s4 g) r q⟩
  · exact h.elim
theorem x_neO (S : Spc X.K C "__eq__" f) (F : FnG X.prog X.w X.K X.mg X.base (L2.CX X.prog X.w) k f fd ps (liftPX X.K X.mg sp)) (hgd : X.A.guards = some []) (hr : Room (k + 1) X.A) (hb : Binds X.K fd ps []) (he : PXd X a te) (hf : PXd X b tf) (hne : findIn X.K (.ref C) "__ne__" = some (some (.builtin "object.__ne__"))) (hm : behindInMarks .NotEq b = false := by rfl) :
    PXd X (.Compare a [.NotEq] [b] pos) (tOpXS (rdNeO C (D.nfOk C) sp) te tf) := pe_imp (pe_cmpS (op_spcNe S hne F hgd hr hb) he hf hm) (lift2S (ok_NeO S))
theorem tx_neO (S : Spc X.K C "__eq__" f) (F : FnG X.prog X.w X.K X.mg X.base (L2.CX X.prog X.w) k f fd ps (liftPX X.K X.mg sp)) (hgd : X.A.guards = some []) (hr : Room (k + 1) X.A) (hb : Binds X.K fd ps []) (he : PXd X a te) (hf : PXd X b tf) (hne : findIn X.K (.ref C) "__ne__" = some (some (.builtin "object.__ne__"))) (hm : behindInMarks .NotEq b = false := by rfl) :
    PTXd X (.Compare a [.NotEq] [b] pos) (tTestX (tOpXS (rdNeO C (D.nfOk C) sp) te tf)) := tx_cmpS (op_spcNe S hne F hgd hr hb) (ok_NeO S) he hf hm
end
/-! ### bool(x) of a number, a truth -/
section
variable {X : Cx} {a : Expr} {t : TAd} {p pos : Pos}
def rbBool : RB := fun ds E Q => match ds with
  | [.int i] => Q (.bl (i != 0)) E
  | [.bl b] => Q (.bl b) E
  | _ => False
theorem d_boolc (hm : X.mg "bool" = none) (ha : PAd X [a] t) (hg : Gl X "bool" := by rfl) (he : starEach [a] X.env = (false, eval a X.env) :: starEach [] X.env := by rfl) : PEd X (.Call (.Name "bool" p) [a] [] pos) (tCBd rbBool t) :=
  d_callT call_bool1 (fun en Hf H F E σ vs ds Q Qd S rx q k => by
    unfold rbBool at q
    split at q
    · obtain ⟨v, rfl, r⟩ := rx.one
      cases r
      exact .inl ⟨_, rfl, k _ _ _ _ _ _ (Same.refl _) S (.bl _) q⟩
    · obtain ⟨v, rfl, r⟩ := rx.one
      cases r
      exact .inr ⟨_, rfl, k _ _ _ _ _ _ (Same.refl _) S (.bl _) q⟩
    · exact q.elim) hm PyProof.Rows.boot_bool ha hg (by decide) (by decide) he
end
end L3
/-! L5f: o * number, isinstance with instances, lambdas with any expression. -/
namespace L3N
open PySem PySem.W PySem.Calls PyProof.Rows Builtin
section
variable {prog : Program} {w : World} {M : Model} {A : Around} {E : Value → Shared → Prop} {s : Shared} {K : Frag} {x C L f : Addr} {h₀ : Heap} {m : Str → Option Value} {ox : Obj} {od : Option Obj} {b tb : Value}
def mulTy : List String := ["int", "bool", "NoneType", "str", "tuple", "list"]
theorem tl_ex {n : String} {name : Str} (h : (fastLookup n name).isSome = true) : ∃ r, typeLookup (.type n) name = pure r := by
  obtain ⟨r, e⟩ := Option.isSome_iff_exists.mp h
  exact ⟨r, by rw [typeLookup_type, builtinLookup_eq_fast, e]⟩
theorem tl_mul : (mulTy.all fun n => (fastLookup n "__mul__").isSome && (fastLookup n "__rmul__").isSome) = true := by kernel_rfl
theorem fills_ty {n : String} (h : n ∈ mulTy) : ∃ r, fillsNumberSlot (.type n) "mul" = pure r := by
  have z := List.all_eq_true.mp tl_mul n h
  obtain ⟨z1, z2⟩ := Bool.and_eq_true_iff.mp z
  obtain ⟨r1, e1⟩ := tl_ex z1
  obtain ⟨r2, e2⟩ := tl_ex z2
  refine ⟨(r1.isSome && !isSeqSlot r1) || (r2.isSome && !isSeqSlot r2), ?_⟩
  unfold fillsNumberSlot
  show (typeLookup (.type n) (PySem.dunder "mul") >>= fun f => typeLookup (.type n) (dunderR "mul") >>= fun r => pure _) = _
  rw [show PySem.dunder "mul" = "__mul__" from rfl, show dunderR "mul" = "__rmul__" from rfl, e1, e2]
  rfl
theorem nsp_K {h : Heap} (X : K.In h) (hs : findIn K (.ref C) "__mul__" = some (some (.ref f))) (hr : findIn K (.ref C) "__rmul__" = some none) : Looks M h (numberSlotInPython (.ref C) "mul") true := by
  intro A Q E s k q
  unfold numberSlotInPython
  refine wpAny_bind ((looks_findIn X hs) A _ E s k ?_)
  refine wpAny_bind (wpAny_of_eq (show calledByName (.ref C) (PySem.dunder "mul") (some (.ref f)) = pure true from rfl) ?_)
  refine wpAny_bind ((looks_findIn X hr) A _ E s k ?_)
  refine wpAny_bind (wpAny_of_eq (show calledByName (.ref C) (dunderR "mul") none = pure false from rfl) ?_)
  simp only [Bool.true_or, if_true]
  exact wpAny_pure q
theorem mulT_K {n : String} {Q : Value → Shared → Prop} (F : Fr h₀ L s.heap m) (X₀ : K.In h₀) (I : InstAt s.heap x ox C od) (hb : Looks (model prog w) s.heap (typeOf b) (.type n)) (hn : n ∈ mulTy) (hc : selfFirst K C = true) (hsub : subIn K (.type n) (.ref C) = some false)
    (hs : findIn K (.ref C) "__mul__" = some (some (.ref f))) (hr : findIn K (.ref C) "__rmul__" = some none) (hf : isFn K (.ref f) = true)
    (h : wpAny (model prog w) A (call (.ref f) [.ref x, b]) (PySem.W.CmpBack Q) E s) : wpAny (model prog w) A (binaryOp .Mult (.ref x) b) Q E s := by
  have X := X₀.keeps F.keep
  obtain ⟨cd, hcd, hm⟩ := any_some hc
  obtain ⟨rest, hm⟩ : ∃ rest, cd.mro = .ref C :: rest := by
    cases q : cd.mro with
    | nil => rw [q] at hm; cases hm
    | cons a r => rw [q] at hm; exact ⟨r, by rw [List.head?_cons] at hm; cases (beq_iff_eq.mp hm); rfl⟩
  obtain ⟨R, eR⟩ := fills_ty hn
  obtain ⟨r2, e2⟩ := tl_ex (Bool.and_eq_true_iff.mp (List.all_eq_true.mp tl_mul n hn)).2
  unfold binaryOp
  refine wpAny_holding (wpAny_bind ?_)
  unfold binaryOp1
  refine wpAny_bind (I.type.here (wpAny_bind (hb.here (wpAny_bind ((fills_K X hcd hm (show findIn K (.ref C) (PySem.dunder "mul") = _ from hs)).here ?_)))))
  have ne : ((Value.ref C) == Value.type n) = false := by rfl
  rw [ne]
  simp only [Bool.false_eq_true, if_false]
  refine wpAny_bind (wpAny_of_eq eR ?_)
  have fin : wpAny (model prog w) A (tryMethod (.ref x) "__mul__" b) (fun r s' => ∃ v, r = some v ∧ Q v s') E s := by
    unfold tryMethod
    refine wpAny_bind (special_fn X I hs (beq_iff_eq.mp hf) (wpAny_mono h (fun v s' hv => ?_) fun _ _ e => e))
    cases v <;> first | exact hv.elim | exact wpAny_pure ⟨_, rfl, hv⟩
  cases R with
  | false =>
    simp only [Bool.and_false, Bool.false_eq_true, if_false, Bool.false_and, if_true]
    refine wpAny_bind (wpAny_pure ?_)
    simp only [Bool.false_eq_true, if_false]
    refine wpAny_bind (m := tryMethod (.ref x) _ b) (wpAny_mono fin (fun r s' ⟨v, e, q⟩ => ?_) fun _ _ e => e)
    subst e
    exact wpAny_pure (wpAny_pure q)
  | true =>
    simp only [Bool.and_true, Bool.false_eq_true, if_false, if_true, Bool.and_self, Bool.not_false]
    refine wpAny_bind ((looks_subIn X hsub).here ?_)
    simp only [Bool.false_eq_true, if_false, Bool.not_false, if_true, Bool.and_self]
    refine wpAny_bind ((nsp_K X hs hr).here ?_)
    simp only [if_true]
    refine wpAny_bind (wpAny_of_eq (show numberSlotInPython (.type n) "mul" = pure false from rfl) ?_)
    simp only [Bool.not_false, if_true]
    refine wpAny_bind (wpAny_of_eq (show typeLookup (.type n) (dunderR "mul") = pure r2 from e2) ?_)
    refine wpAny_bind (m := tryMethod (.ref x) _ b) (wpAny_mono fin (fun r s' ⟨v, e, q⟩ => ?_) fun _ _ e => e)
    subst e
    exact wpAny_pure (wpAny_pure q)
end
end L3N
namespace L3
open PySem L2 PySem.W
variable [Tbs]
/-! ### o * y -/
def D.mulOk : D → Prop
  | .int _ => True
  | .bl _ => True
  | .non => True
  | .str _ => True
  | .tup _ => True
  | .lst _ => True
  | _ => False
section
variable {X : Cx} {C f : Addr} {k : Nat} {fd : FuncData} {ps : List Str} {sp : Sp}
abbrev rMulO (X : Cx) (C : Addr) (sp : Sp) : R2S := fun x y σ H Q => ∃ a dx fs n, x = .ref a ∧ H a = some (.ins C dx fs) ∧ TyX X.K H y (.type n) ∧ n ∈ L3N.mulTy ∧ PySem.W.subIn X.K (.type n) (.ref C) = some false ∧ sp [x, y] H Q (wxe X σ)
theorem op_spcMul (S : Spc X.K C "__mul__" f) (hrm : findIn X.K (.ref C) "__rmul__" = some none) (F : FnG X.prog X.w X.K X.mg X.base (L2.CX X.prog X.w) k f fd ps sp) (hgd : X.A.guards = some []) (hr : Room k X.A) (hb : Binds X.K fd ps []) :
    OpRS X (binaryOp .Mult) (rMulO X C sp) := by
  intro pins s σ H x y v u Q I rx ry ⟨a, dx, fs, n, ex, ha, ty, hn, hsub, hs⟩
  subst ex
  obtain rfl : v = Value.ref a := rx
  obtain ⟨mA, J, _⟩ := ins_get I.hok ha
  obtain ⟨od, J, _⟩ := J.look
  obtain ⟨m, hF⟩ := I.fr
  obtain ⟨P, Z, p, _⟩ := kit_of I ry ty
  exact L3N.mulT_K hF I.ok.mod.kin J (Z.ty _ _ I.kIn p) hn S.sf hsub S.at_ hrm S.fn (wpAny_mono (run_GA F hgd hr rfl hb (wx_pass σ) I (.cons (a := V.ref a) rfl (.cons ry .nil)) hs) (fun _ _ z => cmpBack z) fun _ _ z => z)
end
theorem mul_ty {X : Cx} {C f : Addr} {m : Str} (S : Spc X.K C m f) {Hf H : Hp} {v : V} {y : D} (sf : Same Hf H) (r : Rep X.K Hf v y) (h : y.mulOk) : ∃ n, TyX X.K H v (.type n) ∧ n ∈ L3N.mulTy ∧ PySem.W.subIn X.K (.type n) (.ref C) = some false := by
  have nf : ∀ n, n ∈ ["int", "bool", "str", "tuple", "list", "NoneType", "dict"] → PySem.W.subIn X.K (.type n) (.ref C) = some false := fun n hn => by
    have z := List.all_eq_true.mp S.nf n hn
    unfold PySem.W.notFirst at z
    rcases Bool.or_eq_true_iff.mp z with e | e
    · cases (beq_iff_eq.mp e)
    · exact beq_iff_eq.mp e
  cases r with
  | non => exact ⟨_, .base .non, by decide, nf _ (by simp)⟩
  | bl b => exact ⟨_, .base (.bl b), by decide, nf _ (by simp)⟩
  | int i => exact ⟨_, .base (.int i), by decide, nf _ (by simp)⟩
  | str x => exact ⟨_, .base (.str x), by decide, nf _ (by simp)⟩
  | opq _ => exact h.elim
  | pt _ _ => exact h.elim
  | tup s q => exact ⟨"tuple", (Rep.tup (Same.sqT sf s) (q.mono sf)).tyX (n := "tuple") rfl, by decide, nf _ (by simp)⟩
  | lst s q => exact ⟨_, .base (.lst (sf _ _ s)), by decide, nf _ (by simp)⟩
  | dct s q => exact h.elim
  | ins s q rf => exact h.elim
section
variable {X : Cx} {C f : Addr} {k : Nat} {fd : FuncData} {ps : List Str} {sp : SpX} {a b : Expr} {te tf : TXd} {pos : Pos}
theorem ok_MulO {m : Str} (S : Spc X.K C m f) : OpOkS X (rMulO X C (liftPX X.K X.mg sp)) (rdS C D.mulOk sp) := fun en Hf H F E σ vx vy x y Q Qd Wd S' rx ry h k kx => by
  obtain ⟨a, dx, fs, e1, e2, ⟨n, e3, e4, e5⟩, q⟩ := ok_spc (X := X) (Ok := fun v H => ∃ n, TyX X.K H v (.type n) ∧ n ∈ L3N.mulTy ∧ PySem.W.subIn X.K (.type n) (.ref C) = some false) (P := D.mulOk) (fun Hf H v y sf r p => mul_ty S sf r p) en Hf H F E σ vx vy x y Q Qd Wd S' rx ry h k kx
  exact ⟨a, dx, fs, n, e1, e2, e3, e4, e5, q⟩
theorem x_mulO (S : Spc X.K C "__mul__" f) (F : FnG X.prog X.w X.K X.mg X.base (L2.CX X.prog X.w) k f fd ps (liftPX X.K X.mg sp)) (hgd : X.A.guards = some []) (hr : Room k X.A) (hb : Binds X.K fd ps []) (he : PXd X a te) (hf : PXd X b tf) (hrm : findIn X.K (.ref C) "__rmul__" = some none) :
    PXd X (.BinOp a .Mult b pos) (tOpXS (rdS C D.mulOk sp) te tf) := pe_imp (pe_opS (op_spcMul S hrm F hgd hr hb) he hf) (lift2S (ok_MulO S))
end
/-! ### isinstance -/
def rbIsiO (C : Addr) : RB := fun ds E Q => match ds with
  | [.ins C' _, .opq (.ty n)] => C' = C ∧ n = "tuple" ∧ Q (.bl false) E
  | ds => rbIsi ds E Q
section
variable {X : Cx} {C : Addr} {a b e : Expr} {x : Str} {t : TAd} {te : TEd} {p p2 pos : Pos}
theorem d_isiO (c : C8.InsC X.K C) (hk : PySem.W.kitOne X.K (.ref C) (.type "tuple") = some false) (hm : X.mg "isinstance" = none) (ha : PAd X [a, b] t) (hg : Gl X "isinstance" := by rfl) (he : starEach [a, b] X.env = (false, eval a X.env) :: starEach [b] X.env := by rfl) (hpl : (backTo pos (starEach [b] X.env)).any (·.1) = false := by rfl) : PEd X (.Call (.Name "isinstance" p) [a, b] [] pos) (tCBd (rbIsiO C) t) :=
  d_callB (CallR.or call_isi cr_isiT) (fun en Hf H F E σ vs ds Q Qd S rx q k => by
    unfold rbIsiO at q
    split at q
    · obtain ⟨rfl, rfl, q⟩ := q
      obtain ⟨v, w, rfl, r1, r2⟩ := rx.two
      cases r2
      cases r1 with | ins s _ _ =>
      exact .inl ⟨_, _, _, _, false, rfl, .ty "tuple", .base (TyOf.ins (S.sf _ _ s) c.cl c.ha c.hn c.htk c.hm), hk, k _ _ _ _ _ _ (Same.refl _) S (.bl false) q⟩
    unfold rbIsi at q
    split at q
    · rename_i d cc hcc
      obtain ⟨v, w, rfl, r1, r2⟩ := rx.two
      split at q
      · rename_i b e
        have fin := k _ _ _ _ _ _ (Same.refl _) S (.bl b) q
        unfold isT at e
        split at e
        · rename_i n
          cases r2
          unfold kitD at e
          cases e1 : d.tyN with
          | none =>
            rw [e1] at e
            cases e
          | some m =>
            rw [e1] at e
            exact .inl ⟨_, _, _, _, b, rfl, .ty n, (r1.mono S.sf).tyX e1, kit_ty e, fin⟩
        · rename_i cs
          split at e
          · rename_i m e1
            cases r2 with | tup h l =>
            obtain ⟨us, hu, hk⟩ := isTs_ok (K := X.K) e1 l e
            exact .inr ⟨_, _, _, _, us, b, rfl, Same.sqT S.sf h, hu, (r1.mono S.sf).tyX e1, hk, fin⟩
          · cases e
        · cases e
      · exact q.elim
    · exact q.elim) hm PyProof.Rows.boot_isinstance ha hg (by decide) (by decide) he hpl
/-- isinstance(e, C), e any data -/
def tIsCO (C : Addr) (te : TEd) : TEd := fun E Q => te E fun x E1 => match x with
  | .ins C' _ => C' = C ∧ Q (.bl true) E1
  | .opq _ => False
  | .pt _ => False
  | _ => Q (.bl false) E1
def isCTy : List String := ["int", "bool", "str", "tuple", "list", "NoneType", "dict"]
theorem d_isCO (c : C8.InsC X.K C) (hk : (isCTy.all fun n => PySem.W.kitOne X.K (.type n) (.ref C) == some false) = true) (hi : X.mg "isinstance" = none) (hm : X.mg x = some (.ref C)) (he : PEd X e te) (hg : Gl X "isinstance" := by rfl) (hg2 : Gl X x := by rfl) (hdx : (x == ("__debug__" : Str)) = false := by decide)
    (hs : starEach [e, .Name x p2] X.env = (false, eval e X.env) :: starEach [.Name x p2] X.env := by rfl) (hs2 : starEach [.Name x p2] X.env = (false, eval (.Name x p2) X.env) :: starEach [] X.env := by rfl) (hpl : (backTo pos (starEach [.Name x p2] X.env)).any (·.1) = false := by rfl) :
    PEd X (.Call (.Name "isinstance" p) [e, .Name x p2] [] pos) (tIsCO C te) := by
  have kn : ∀ n, n ∈ isCTy → PySem.W.kitOne X.K (.type n) (.ref C) = some false := fun n hn => beq_iff_eq.mp (List.all_eq_true.mp hk n hn)
  refine pe_imp (pe_callB call_isi hg hi PyProof.Rows.boot_isinstance (pa_cons he (pa_cons (pe_glob (v := .ref C) hg2 hm rfl hdx) pa_nil hs2) hs) (by decide) (by decide) hs hpl) fun σ H Q ⟨en, Hf, F, E, Qd, S, h, k⟩ => ⟨en, Hf, F, E, _, S, h, fun v H1 Hf1 F1 E1 d s1 S1 r1 h1 => ?_⟩
  have no : ∀ n, n ∈ isCTy → TyX X.K H1 v (.type n) → Qd (.bl false) E1 → rIsi X.K [v, .ref C] H1 Q := fun n hn ty q => ⟨v, .ref C, .type n, .ref C, false, rfl, .own C, ty, kn n hn, k _ _ _ _ _ _ s1 S1 (.bl false) q⟩
  cases r1 with
  | non => exact no _ (by decide) (.base .non) h1
  | bl b => exact no _ (by decide) (.base (.bl b)) h1
  | int i => exact no _ (by decide) (.base (.int i)) h1
  | str x => exact no _ (by decide) (.base (.str x)) h1
  | opq _ => exact h1.elim
  | pt _ _ => exact h1.elim
  | tup s q => exact no "tuple" (by decide) ((Rep.tup (Same.sqT S1.sf s) (q.mono S1.sf)).tyX (n := "tuple") rfl) h1
  | lst s q => exact no _ (by decide) (.base (.lst (S1.sf _ _ s))) h1
  | dct s q => exact no _ (by decide) (.base (.dK (S1.sf _ _ s))) h1
  | ins s q rf =>
    obtain ⟨rfl, h1⟩ := h1
    exact ⟨_, _, _, _, true, rfl, .own _, .base (TyOf.ins (S1.sf _ _ s) c.cl c.ha c.hn c.htk c.hm), c.me, k _ _ _ _ _ _ s1 S1 (.bl true) h1⟩
end
/-! ### lambdas with any expression -/
/-- the slots that a lambda's body sees: n names, those at js captured -/
def mkE (n : Nat) : List Nat → List D → En
  | j :: js, d :: ds => (mkE n js ds).set j (.fz d)
  | _, _ => List.replicate n .un
theorem mkE_nil {n : Nat} {ds : List D} : mkE n [] ds = List.replicate n Sl.un := by
  unfold mkE
  rfl
theorem mkE_cons {n j : Nat} {js : List Nat} {d : D} {ds : List D} : mkE n (j :: js) (d :: ds) = (mkE n js ds).set j (Sl.fz d) := by
  conv => lhs; unfold mkE
def spG (n : Nat) (js : List Nat) (te : TXd) : SpX := fun hd Q W => te (fun x _ => W x) (mkE n js hd) (fun d _ => Q d)
theorem mkE_len {n : Nat} : ∀ {js : List Nat} {ds : List D}, (mkE n js ds).length = n
  | j :: js, d :: ds => by
    unfold mkE
    rw [List.length_set]
    exact mkE_len
  | [], ds => by
    unfold mkE
    rw [List.length_replicate]
  | j :: js, [] => by
    unfold mkE
    rw [List.length_replicate]
theorem mkE_at {n : Nat} {σ : L2.St} {K : PySem.W.Frag} {Hf : Hp} : ∀ {js : List Nat} {hv : List V} {ds : List D}, Cap σ js hv → RepL K Hf hv ds → ∀ (i : Nat) (s : Sl), (mkE n js ds)[i]? = some s → s = .un ∨ ∃ d v, s = .fz d ∧ σ[i]? = some (some v) ∧ Rep K Hf v d
  | j :: js, _, d :: ds, c, .cons rv r, i, s, e => by
    obtain ⟨v, hv, ev, h1, h2⟩ := c
    cases ev
    unfold mkE at e
    by_cases h : j = i
    · subst h
      rw [List.getElem?_set] at e
      rw [if_pos rfl] at e
      split at e
      · cases e
        exact .inr ⟨d, _, rfl, h1, rv⟩
      · cases e
    · rw [List.getElem?_set_ne h] at e
      exact mkE_at h2 r i s e
  | [], _, ds, c, r, i, s, e => by
    unfold mkE at e
    exact .inl (List.eq_of_mem_replicate (List.mem_of_getElem? e))
  | j :: js, _, [], c, r, i, s, e => by
    unfold mkE at e
    exact .inl (List.eq_of_mem_replicate (List.mem_of_getElem? e))
section
variable {X : Cx} {A : Around} {outer : List Env} {s : Shared} {H : Hp} {E : XK} {scope : Scope} {f c' : Addr} {body : Expr} {te : TXd}
theorem lam_wx {cls : Value} {d : Option Addr} {σ : L2.St} {H' : Hp} (h : E cls d H') : Wx (LamX.lamCx X A outer s H E scope f c') cls d σ H' := fun u s' ⟨a, B, sI, pins, σ1, H1, cls1, d1, e, I, nb, up, sky, na, os, ag, w⟩ =>
  takes_of (X := LamX.lamCx X A outer s H E scope f c') rfl rfl rfl rfl u s' ⟨a, B, sI, pins, σ1, H1, cls1, d1, e, I, nb, up, sky, na, os, ag, by
    obtain ⟨rfl, rfl, rfl, rfl⟩ := w
    exact h⟩
theorem q_gen (n : Nat) (js : List Nat) (h : PXd (LamX.lamCx X A outer s H E scope f c') body te) (hn : X.N.length = n := by rfl) : PE (LamX.lamCx X A outer s H E scope f c') body (tLq X.K X.mg js (fun hd Q => Q hd) (spG n js te) E) := by
  subst hn
  refine ⟨fun pins s1 σ H1 Q I ⟨Hf, hv, hd, Qd, c, sf, r, hq, k⟩ => ?_⟩
  obtain ⟨Hf2, ds, Q2, W2, sf2, r2, ht, kq, kx⟩ := k hv H1 Hf hd (Grow.refl sf) r hq
  refine h.run pins s1 σ H1 Q I ⟨⟨H1, Hf2, fun _ => [], fun _ => .non, noHp⟩, Hf2, fun _ => [], mkE X.N.length js ds, _, _, ?_, ht, fun v H' Hf' F' E' d g S r3 q => ?_, fun cls x H' Hf' F' E' d g S r3 q => ?_⟩
  · refine { sf := sf2, so := fun p o _ a => a, dom := fun p o a => ⟨o, a⟩, sp := fun p o a => (nomatch a), pf := fun p o a => (nomatch a), gf := Same.refl _, gn := fun p o a => .inl a, dj := fun i j p a => (nomatch a), fp := fun i p a => (nomatch a), len := ?_, sl := fun i sl e => ?_ }
    · rw [mkE_len]
      exact I.len
    · rcases mkE_at c r2 i sl e with rfl | ⟨d, v, rfl, h1, h2⟩
      · trivial
      · exact ⟨v, h1, h2⟩
  · exact kq v H' Hf' d g S.sf (fun p o a => S.so p o (fun _ z => nomatch z) a) (fun p o a => S.gn p o a) r3 q
  · exact lam_wx (kx cls x d H' Hf' g S.sf (fun p o a => S.so p o (fun _ z => nomatch z) a) (fun p o a => S.gn p o a) r3 q)
end
end L3
/-! L5g: slices of our own lists. -/
namespace L3
open PySem L2
variable [Tbs]
section
variable {X : Cx} {p p2 pos : Pos}
/-- xs[lo:hi], xs a variable that may be our own list: the list stays ours -/
def tSlV (j : Nat) (tl th : TOd) : TEd := fun E Q => held E j ∧ tl E fun lo E1 => th E1 fun hi E2 => match E2[j]? with
  | some (.fz x) => rdSl x lo hi E2 Q
  | some (.ow _ (.ol xs)) => rdSl (.lst xs) lo hi E2 Q
  | _ => False
theorem d_slV (j : Nat) {x : Str} {lo hi : Option Expr} {tl th : TOd} (hl : POd X lo tl) (hu : POd X hi th) (hN : X.N[j]? = some x := by rfl) (hv : Vis X.env.scope x := by first | exact Or.inl rfl | exact Or.inr (Or.inl rfl) | exact Or.inr (Or.inr rfl))
    (hd : (x == ("__debug__" : Str)) = false := by decide) (hcd : (x == ("__classdict__" : Str)) = false := by decide) : PEd X (.Subscript (.Name x p) (.Slice lo hi none p2) pos) (tSlV j tl th) :=
  pe_imp (pe_slice (SlR.or sl_list (SlR.or sl_tupA sl_str)) (pv j hN hv hd hcd) hl hu) fun σ H Q ⟨en, Hf, F, E, Qd, S, ⟨hh, h⟩, k⟩ => by
    obtain ⟨v, hv⟩ := hh.val S
    refine ⟨v, hv, en, Hf, F, E, _, S, h, fun lo H2 Hf2 F2 E2 s2 S2 h2 => ⟨en, Hf2, F2, E2, _, S2, h2, fun hi H3 Hf3 F3 E3 s3 S3 h3 => ?_⟩⟩
    have kk : Fin X.K en σ Hf3 Qd Q := fun v H' Hf' F' E' d s4 S4 r4 h4 => k v H' Hf' F' E' d ((s2.trans s3).trans s4) S4 r4 h4
    split at h3
    · rename_i xd e
      obtain ⟨v', e', r3⟩ := S3.get e
      rw [hv] at e'
      cases e'
      unfold rdSl at h3
      split at h3
      · cases r3 with | lst q l =>
        exact .inl ⟨_, _, rfl, .inl (.inl (S3.sf _ _ q)), fun p np => kk.new S3 np (fun _ s4 e => .lst e ((l.cut _ _).mono s4)) h3⟩
      · cases r3 with | tup q l =>
        refine .inr (.inl ⟨_, _, rfl, Same.sqT S3.sf q, fun w => ?_, fun w p np => kk.new S3 np (fun _ s4 e => .tup (.inl (.inl e)) ((l.cut _ _).mono s4)) h3⟩)
        rw [l.length] at w
        rw [cut_whole w] at h3
        exact kk _ _ _ _ _ _ (Same.refl _) S3 (.tup q l) h3
      · cases r3
        exact .inr (.inr ⟨_, rfl, h3.1, kk _ _ _ _ _ _ (Same.refl _) S3 (.str _) h3.2⟩)
      · exact h3.elim
    · rename_i bb xs e
      obtain ⟨v', e', ⟨p, vs, rfl, _, hp, l⟩, _⟩ := S3.own e
      rw [hv] at e'
      cases e'
      exact .inl ⟨_, _, rfl, .inl (.inl hp), fun p np => kk.new S3 np (fun _ s4 e => .lst e ((l.cut _ _).mono s4)) h3⟩
    · exact h3.elim
/-- a constant of the module that is a text -/
theorem d_globS {x : Str} {n : Str} (hm : ∃ t, X.mg x = some (.str n t)) (hg : Gl X x := by rfl) (hd : (x == ("__debug__" : Str)) = false := by decide) : PEd X (.Name x pos) (tCD (.str n)) := by
  obtain ⟨t, hm⟩ := hm
  exact d_glob hg hm (v := .str n) ⟨t, rfl⟩ (fun _ => .str n) hd
end
end L3
/-! L5h: our own dicts: x = {}, x[k], k not in x. -/
namespace L3
open PySem L2
variable [Tbs]
/-- what stands behind a key -/
def getK (ks : List (Key × D)) (k : Key) : Option D := match ks with
  | [] => none
  | p :: r => if p.1 = k then some p.2 else getK r k
theorem RepK.getK {K : PySem.W.Frag} {H : Hp} : ∀ {vs : List (Key × V)} {ds : List (Key × D)}, RepK K H vs ds → ∀ {k : Key} {d : D}, L3.getK ds k = some d → ∃ v, valV vs k = some v ∧ Rep K H v d
  | _, _, .nil, _, _, h => by cases h
  | _, _, .cons (k := k0) a t, k, d, h => by
    unfold L3.getK at h
    by_cases e : k0 = k
    · rw [if_pos e] at h
      cases h
      exact ⟨_, valV_pos e, a⟩
    · rw [if_neg e] at h
      obtain ⟨v, h1, h2⟩ := RepK.getK t h
      exact ⟨v, by rw [valV_neg e, h1], h2⟩
section
variable {X : Cx} {a b e : Expr} {te ti : TEd} {p p2 pos : Pos}
def tGetV (j : Nat) (ti : TEd) : TEd := fun E Q => held E j ∧ ti E fun z E1 => match E1[j]?, z.key with
  | some (.ow _ (.od ks)), some k => (match getK ks k with | some d => Q d E1 | none => False)
  | some (.fz (.dct ks)), some k => (match getK ks k with | some d => Q d E1 | none => False)
  | _, _ => False
theorem d_getV (j : Nat) {x : Str} (hu : X.A.units + 1 < cLine) (hi : PEd X b ti) (hs : NoSl b := by exact fun _ _ => rfl) (hN : X.N[j]? = some x := by rfl) (hv : Vis X.env.scope x := by first | exact Or.inl rfl | exact Or.inr (Or.inl rfl) | exact Or.inr (Or.inr rfl))
    (hd : (x == ("__debug__" : Str)) = false := by decide) (hcd : (x == ("__classdict__" : Str)) = false := by decide) : PEd X (.Subscript (.Name x p) b pos) (tGetV j ti) :=
  pe_imp (pe_dget hu (pv j hN hv hd hcd) hi hs) fun σ H Q ⟨en, Hf, F, E, Qd, S, ⟨hh, h⟩, k⟩ => by
    obtain ⟨v, hv⟩ := hh.val S
    refine ⟨v, hv, en, Hf, F, E, _, S, h, fun v1 H1 Hf1 F1 E1 y s1 S1 r1 h1 => ?_⟩
    split at h1
    · rename_i bb ks kk e1 e2
      obtain ⟨p, vs, hv2, hp, rk, _⟩ := S1.chD e1
      rw [hv] at hv2
      cases hv2
      have ek := r1.key e2
      subst ek
      split at h1
      · rename_i d e3
        obtain ⟨w, e4, r4⟩ := rk.getK e3
        refine ⟨p, w, rfl, ?_, k _ _ _ _ _ _ s1 S1 r4 h1⟩
        rw [← e4]
        exact .k hp
      · exact h1.elim
    · rename_i ks kk e1 e2
      obtain ⟨v2, hv2, r⟩ := S1.get e1
      rw [hv] at hv2
      cases hv2
      cases r with | dct hh l =>
      have ek := r1.key e2
      subst ek
      split at h1
      · rename_i d e3
        obtain ⟨w, e4, r4⟩ := l.getK e3
        refine ⟨_, w, rfl, ?_, k _ _ _ _ _ _ s1 S1 r4 h1⟩
        rw [← e4]
        exact .k (S1.sf _ _ hh)
      · exact h1.elim
    · exact h1.elim
theorem lift_notinO {K : PySem.W.Frag} {N : List Str} {te : TEd} (j : Nat) : ∀ σ H Q, liftE K (tInO true te j) σ H Q → tDNotIn (liftE K te) (tVar j) σ H Q := fun σ H Q ⟨en, Hf, F, E, Qd, S, h, k⟩ => ⟨en, Hf, F, E, _, S, h, fun v1 H1 Hf1 F1 E1 x s1 S1 r1 h1 => by
    split at h1
    · rename_i b ks kk e1 e2
      obtain ⟨p, vs, hv, hp, rk, _⟩ := S1.chD e1
      have ek := r1.key e2
      subst ek
      refine ⟨_, hv, p, _, rfl, .k hp, ?_⟩
      rw [valV_some, rk.has]
      exact k _ _ _ _ _ _ s1 S1 (.bl _) h1
    · rename_i ks kk e1 e2
      obtain ⟨v, hv, r⟩ := S1.get e1
      cases r with | dct h l =>
      have ek := r1.key e2
      subst ek
      refine ⟨_, hv, _, _, rfl, .k (S1.sf _ _ h), ?_⟩
      rw [valV_some, l.has]
      exact k _ _ _ _ _ _ s1 S1 (.bl _) h1
    · exact h1.elim⟩
theorem d_notinDV (j : Nat) {y : Str} {py : Pos} (hu : X.A.units + 1 < cLine) (ha : PEd X a te) (hN : X.N[j]? = some y := by rfl) (hv : Vis X.env.scope y := by first | exact Or.inl rfl | exact Or.inr (Or.inl rfl) | exact Or.inr (Or.inr rfl)) (hd : (y == ("__debug__" : Str)) = false := by decide) (hcd : (y == ("__classdict__" : Str)) = false := by decide) :
    PEd X (.Compare a [.NotIn] [.Name y py] pos) (tInO true te j) := pe_imp (pe_cmp (pc_dnotin hu ha (pv j hN hv hd hcd)) rfl) (lift_notinO (N := X.N) j)
theorem t_notinDV (j : Nat) {y : Str} {py : Pos} (hu : X.A.units + 1 < cLine) (ha : PEd X a te) (hN : X.N[j]? = some y := by rfl) (hv : Vis X.env.scope y := by first | exact Or.inl rfl | exact Or.inr (Or.inl rfl) | exact Or.inr (Or.inr rfl)) (hd : (y == ("__debug__" : Str)) = false := by decide) (hcd : (y == ("__classdict__" : Str)) = false := by decide) :
    PTd X (.Compare a [.NotIn] [.Name y py] pos) (tTestD (tInO true te j)) :=
  pt_imp (pt_cmp (pc_dnotin hu ha (pv j hN hv hd hcd)) rfl) fun σ H Q ⟨en, Hf, F, E, Qd, S, h, k⟩ =>
    lift_notinO (N := X.N) j σ H _ ⟨en, Hf, F, E, _, S, h, fun v H' Hf' F' E' d s1 S1 r1 h1 => by
      split at h1
      · cases r1
        exact ⟨_, rfl, k _ _ _ _ _ s1 S1 h1⟩
      · exact h1.elim⟩
/-- x = {}, a dict that will be changed -/
def tDctV0 (i : Nat) : TSd := fun A E => canSet E i ∧ A.nx (E.set i (.ow false (.od [])))
theorem s_newDV0 {i : Nat} {x : Str} {pos' pd : Pos} (hN : X.N.Nodup) (hi : X.N[i]? = some x := by rfl) (hx : Loc X.env.scope x := by first | exact .inl rfl | exact .inr rfl)
    (hs : swapsWith (.Dict [] [] pd) (some (.Name x pos')) pos.line X.env = pure false := by rfl) (hf : X.fn x = true ∨ X.env.scope.names.lookup x = some .local := by first | exact .inl rfl | exact .inr rfl | assumption) :
    PSd X (.Assign [.Name x pos'] (.Dict [] [] pd) pos) (tDctV0 i) :=
  ps_imp (ps_set hN hi hx pe_dnewK hs hf) fun D σ H ⟨en, Hf, F, E, Dd, S, h, k1, k2, k3, k4, k5⟩ => by
    intro p np
    exact k1 _ _ _ _ _ (Same.refl _) (S.setNew (o := .od []) h.1 np ⟨p, [], rfl, rfl, upd_same, .nil⟩) h.2
end
end L3
/-! L5i: tuples of ints that are known to have no dict (D.pt): (i,), t + (i,), t.index(x). -/
namespace L3
open PySem L2 PySem.Spec PyProof.Rows
variable [Tbs]
theorem flat_intsV (ys : List Int) : (ys.map V.int).all flatV = true := by
  rw [List.all_map]
  exact List.all_eq_true.mpr fun _ _ => rfl
theorem vints {K : PySem.W.Frag} {H : Hp} : ∀ {ns : List Int} {vs : List V}, RepL K H vs (ns.map D.int) → vs = ns.map V.int
  | [], _, .nil => rfl
  | n :: ns, _, .cons a r => by
    cases a
    rw [vints r]
    rfl
theorem rints {K : PySem.W.Frag} {H : Hp} : ∀ ns : List Int, RepL K H (ns.map V.int) (ns.map D.int)
  | [] => .nil
  | n :: ns => .cons (.int n) (rints ns)
section
variable {X : Cx}
/-! ### a display -/
def tTupP0 (t : TA) : TE := fun σ H Q => t σ H fun xs H1 => xs.length ≤ sizeLine ∧ ∀ p ob, H1 p = none → ob.dict = none → Q (.ref p) (upd H1 p (.frz ob (.tup xs)))
theorem pe_tupP {es : List Expr} {t : TA} {x1 pos} (h : PA X es t) : PE X (.Tuple es x1 pos) (tTupP0 t) := by
  refine ⟨fun pins s σ H Q I hq => ?_⟩
  refine wpAny_Tuple_spliced (thn (h.run pos pins s σ H _ I hq) fun us s1 ⟨xs, H1, I1, r, z, q⟩ => ⟨by rw [← r.length]; exact z, ?_⟩)
  have hf : H1 s1.heap.objs.size = none := I1.hok.fresh (Nat.le_refl _)
  refine ⟨.ref s1.heap.objs.size, upd H1 s1.heap.objs.size (.frz { cls := .type "tuple", data := .seq us.toArray } (.tup xs)), I1.laid (t' := s1.toks) (fun b u e => Heap.get?_push_of_some _ e) (Nat.le_refl _) ?_, rfl, q _ _ hf rfl⟩
  exact ⟨Heap.get?_push_size _ rfl, z, us, r, ⟨_, Heap.get?_push_size _ rfl, rfl, _, rfl⟩⟩
def tTupP (t : TAd) : TEd := fun E Q => t E fun xs E1 => ∃ ns : List Int, xs = ns.map D.int ∧ ns.length ≤ sizeLine ∧ Q (.pt ns) E1
theorem d_tupP {es : List Expr} {t : TAd} {x1 pos} (h : PAd X es t) : PEd X (.Tuple es x1 pos) (tTupP t) :=
  pe_imp (pe_tupP h) fun σ H Q ⟨en, Hf, F, E, Qd, S, h, k⟩ =>
    ⟨en, Hf, F, E, _, S, h, fun vs H1 Hf1 F1 E1 xs s1 S1 r1 h1 => by
      obtain ⟨ns, rfl, z, q⟩ := h1
      rw [vints r1]
      exact ⟨by rw [List.length_map]; exact z, fun p ob np hd => by
        have s2 : Same Hf1 (upd Hf1 p (.frz ob (.tup (ns.map V.int)))) := same_upd (S1.sf.free np)
        exact k _ _ _ _ _ _ (s1.trans s2) (S1.new _ np) (.pt upd_same hd) q⟩⟩
/-! ### t + u -/
def rCatP (K : PySem.W.Frag) : R2 := fun x y H Q => ∃ a b ob xs ys, x = .ref a ∧ y = .ref b ∧ SqT K H a xs ∧ H b = some (.frz ob (.tup ys)) ∧ ob.dict = none ∧ ys ≠ [] ∧ xs.length + ys.length ≤ sizeLine ∧
  (xs = [] → Q (.ref b) H) ∧ (xs ≠ [] → ∀ p o2, H p = none → o2.dict = none → Q (.ref p) (upd H p (.frz o2 (.tup (xs ++ ys)))))
theorem op_catP : OpR X (binaryOp .Add) (rCatP X.K) := by
  intro pins s σ H x y v u Q I rx ry h
  obtain ⟨a, b, ob, xs, ys, rfl, rfl, ha, hb0, hd, hy, hz, q0, q2⟩ := h
  have hb : SqT X.K H b ys := .inl (.inr ⟨ob, hb0⟩)
  cases rx
  cases ry
  obtain ⟨its, r1, p1, _⟩ := I.tuple ha
  obtain ⟨its2, r2, p2, _⟩ := I.tuple hb
  by_cases hx : xs = []
  · subst hx
    cases r1
    exact cat_tup0 p1 p2 ⟨.ref b, H, I, rfl, q0 rfl⟩
  · refine HT.cat_tup p1 p2 (fun z => hx (r1.nil_iff.mp z)) (fun z => absurd (r2.nil_iff.mp z) hy) (fun z => ?_) (by rw [← r1.length, ← r2.length]; exact hz)
    refine ⟨.ref s.heap.objs.size, _, I.laid (t' := s.toks) (o := .frz { cls := .type "tuple", data := .seq (its ++ its2).toArray } (.tup (xs ++ ys))) (fun b ob q => Heap.get?_push_of_some _ q) (Nat.le_refl _) ?_, rfl, q2 hx _ _ (I.hok.fresh (Nat.le_refl _)) rfl⟩
    exact ⟨Heap.get?_push_size _ rfl, by rw [List.length_append]; exact hz, _, r1.append r2, IsTup.new _ _⟩
def rdCatP : RD := fun x y E Q => match x, y with
  | .tup u, .pt ms => ∃ ns : List Int, u = ns.map D.int ∧ ms ≠ [] ∧ ns.length + ms.length ≤ sizeLine ∧ Q (.pt (ns ++ ms)) E
  | _, _ => False
theorem ok_catP {K : PySem.W.Frag} : OpOk K (rCatP K) rdCatP :=
  fun en Hf H F E σ vx vy x y Q Qd S rx ry q k => by
    unfold rdCatP at q
    split at q
    · obtain ⟨ns, rfl, hm, hz, q⟩ := q
      cases rx with | tup h1 l1 =>
      cases ry with | pt h2 hd =>
      rename_i ms _ _ _ _
      have e1 := vints l1
      subst e1
      refine ⟨_, _, _, _, _, rfl, rfl, Same.sqT S.sf h1, S.sf _ _ h2, hd, by simpa using hm, by rw [List.length_map, List.length_map]; exact hz, fun e => ?_, fun _ p o2 np h2 => ?_⟩
      · have e2 : ns = [] := by simpa using e
        subst e2
        exact k _ _ _ _ _ _ (Same.refl _) S (.pt (by assumption) hd) q
      · rw [← List.map_append]
        exact k.new S np (fun _ _ e => .pt e h2) q
    · exact q.elim
theorem d_addP {a b : Expr} {ta tb : TEd} {pos : Pos} (ha : PEd X a ta) (hb : PEd X b tb) : PEd X (.BinOp a .Add b pos) (tOpD rdCatP ta tb) := d_op op_catP ok_catP ha hb
/-! ### as any tuple -/
def tWk (te : TEd) : TEd := fun E Q => te E fun x E1 => match x with
  | .pt ns => Q (.tup (ns.map D.int)) E1
  | _ => False
theorem d_wk {e : Expr} {te : TEd} (he : PEd X e te) : PEd X e (tWk te) :=
  pe_imp he fun σ H Q ⟨en, Hf, F, E, Qd, S, h, k⟩ => ⟨en, Hf, F, E, _, S, h, fun v H1 Hf1 F1 E1 x s1 S1 r1 h1 => by
    cases r1 with
    | pt h2 hd => exact k _ _ _ _ _ _ s1 S1 (.tup (.inl (.inr ⟨_, h2⟩)) (rints _)) h1
    | _ => exact h1.elim⟩
/-! ### t.index(x) -/
def rIdxI (K : PySem.W.Frag) : V → List V → Hp → VK → Prop := fun x xs H Q => ∃ p, ∃ ys : List Int, ∃ z j, x = .ref p ∧ xs = [.int z] ∧ SqT K H p (ys.map V.int) ∧ ys[j]? = some z ∧ (∀ m, m < j → ys[m]? ≠ some z) ∧ Q (.int (j : Nat)) H
theorem mt_tup_indexI : MtR X "tuple.index" (rIdxI X.K) := by
  intro pins s σ H x xs v us Q I rx rs h
  obtain ⟨p, ys, z, j, rfl, rfl, hq, hy, hno, q⟩ := h
  cases rx
  obtain ⟨u, rfl, t, rfl⟩ := vals1 rs
  obtain ⟨its, r, pl, hz⟩ := I.tuple hq
  obtain ⟨⟨cls, dd, dt, sl⟩, ho, hc, n, hd⟩ := pl
  simp only at hc hd
  subst hc
  subst hd
  have hl : its.toArray.size = ys.length := by rw [List.size_toArray, ← r.length, List.length_map]
  have hj : j < its.toArray.size := by rw [hl]; exact (List.getElem?_eq_some_iff.mp hy).1
  have at' : ∀ (m : Nat) (hm : m < its.toArray.size), ∃ y t', ys[m]? = some y ∧ its.toArray[m] = Value.int y t' := fun m hm => by
    have hm' : m < ys.length := by rw [← hl]; exact hm
    obtain ⟨w, hw, t', hw'⟩ := r.get (i := m) (x := .int ys[m]) (by simp [hm'])
    refine ⟨ys[m], t', List.getElem?_eq_getElem hm', ?_⟩
    have e := (List.getElem?_eq_some_iff.mp hw).2
    rw [← hw', ← e]
    simp
  refine call_meets PySem.F.slot_tuple_index ⟨_, ho, rfl⟩ PySem.F.entry_tuple_index (PySem.F.args_tuple_index_2 _ _) (TI.tuple_indexAt p its.toArray n dd sl (.int z t) (eqU (.int z)) j hj ?_ ?_)
    ⟨ho, fun w hw => mem_eqAt (x := .int z) ⟨t, rfl⟩ rfl r (flat_intsV ys) w (by simpa using hw), ⟨.int (j : Nat), H, I.tok _, ⟨_, rfl⟩, q⟩⟩
  · obtain ⟨y, t', h1, h2⟩ := at' j hj
    rw [hy] at h1
    cases h1
    rw [h2]
    show (z == z) = true
    exact beq_self_eq_true z
  · intro m hm hmj
    obtain ⟨y, t', h1, h2⟩ := at' m hm
    rw [h2]
    show (y == z) = false
    exact beq_eq_false_iff_ne.mpr fun e => hno m hmj (e ▸ h1)
def tBMP (r : V → List V → Hp → VK → Prop) (to : TE) (t : TA) : TE := fun σ H Q => to σ H fun x H1 => (∃ p ob ys, x = .ref p ∧ H1 p = some (.frz ob (.tup ys)) ∧ ob.dict = none) ∧ t σ H1 fun xs H2 => r x xs H2 Q
section
variable {o e : Expr} {es : List Expr} {to : TE} {t : TA} {name : Str} {apos cpos : Pos} {id : String} {r : V → List V → Hp → VK → Prop}
theorem pe_bmP (slot : Slot "tuple" name id) (hty : typeOf (.builtin id) = pure (.type "method_descriptor")) (hm : MtR X id r) (ho : PE X o to) (ha : PA X (e :: es) t)
    (hbase : attributeBase o name X.env (eval o X.env) = eval o X.env := by rfl)
    (hfew : ((backTo cpos (starEach (e :: es) X.env)).all (fun x => !x.1) && (backToKw cpos (keywordEach [] X.env)).all (fun x => x.1.isSome)
      && decide ((e :: es).length + ([] : List Keyword).length + (if ([] : List Keyword).isEmpty then 0 else 1) < 30)) = true := by rfl)
    (hline : (apos.endLine == cpos.line) = true := by rfl) (hs : starEach (e :: es) X.env = (false, eval e X.env) :: starEach es X.env := by rfl) (hplain : (backTo cpos (starEach es X.env)).any (·.1) = false := by rfl) :
    PE X (.Call (.Attribute o name apos) (e :: es) [] cpos) (tBMP r to t) := by
  refine ⟨fun pins s σ H Q I h => ?_⟩
  refine wpAny_Call_method_late hbase hfew hline rfl (thn (ho.run pins s σ H _ I h) fun v s1 ⟨x, H1, I1, r1, ⟨p, ob, ys, ex, hp, hd⟩, q1⟩ => ?_)
  subst ex
  obtain rfl : v = .ref p := r1
  obtain ⟨hg, _, its, _, pl⟩ := I1.hok p _ hp
  refine ⟨"tuple", id, PySem.F.plainAttrs_tuple, slot, hty, pl.typeIs, fun a ea => ?_, ?_⟩
  · cases ea
    exact ⟨ob, hg, hd⟩
  have hA := ha.run cpos pins s1 σ H1 _ I1 q1
  rw [hs] at hA ⊢
  refine Calls.callWith_builtin (by show (false || (backTo cpos (starEach es X.env)).any (·.1)) = false; rw [hplain] <;> rfl) (Calls.evalArgs_plain ?_)
  exact thn hA fun us s2 ⟨vs, H2, I2, r2, q2⟩ => hm pins s2 σ H2 _ vs _ us Q I2 (show RelV (.ref p) (.ref p) from rfl) r2 q2
end
section
variable {a b : Expr} {ta tb : TEd}
def tIndexP (ta tb : TEd) : TEd := fun E Q => ta E fun x E1 => match x with
  | .pt ns => tb E1 fun e E2 => ∃ (z : Int) (j : Nat), e = .int z ∧ ns[j]? = some z ∧ (∀ m, m < j → ns[m]? ≠ some z) ∧ Q (.int (j : Nat)) E2
  | _ => False
theorem d_indexP {apos cpos : Pos} (ha : PEd X a ta) (hb : PEd X b tb) (hbase : attributeBase a "index" X.env (eval a X.env) = eval a X.env := by rfl)
    (hfew : ((backTo cpos (starEach [b] X.env)).all (fun x => !x.1) && (backToKw cpos (keywordEach [] X.env)).all (fun x => x.1.isSome) && decide ([b].length + ([] : List Keyword).length + (if ([] : List Keyword).isEmpty then 0 else 1) < 30)) = true := by rfl)
    (hline : (apos.endLine == cpos.line) = true := by rfl) (hs : starEach [b] X.env = (false, eval b X.env) :: starEach [] X.env := by rfl) : PEd X (.Call (.Attribute a "index" apos) [b] [] cpos) (tIndexP ta tb) :=
  pe_imp (pe_bmP PySem.F.slot_tuple_index PySem.F.type_tuple_index mt_tup_indexI ha (pa_cons hb pa_nil hs) hbase hfew hline hs) fun σ H Q ⟨en, Hf, F, E, Qd, S, h, k⟩ => ⟨en, Hf, F, E, _, S, h, fun v H1 Hf1 F1 E1 x s1 S1 r1 h1 => by
    cases r1 with
    | pt h2 hd =>
      refine ⟨⟨_, _, _, rfl, S1.sf _ _ h2, hd⟩, en, Hf1, F1, E1, _, S1, h1, fun ws H2 Hf2 F2 E2 ds s2 S2 r2 h3 => ?_⟩
      obtain ⟨z, j, rfl, hz, hno, q⟩ := h3
      cases r2
      exact ⟨_, _, z, j, rfl, rfl, .inl (.inr ⟨_, S2.sf _ _ (s2 _ _ h2)⟩), hz, hno, k _ _ _ _ _ _ (s1.trans s2) S2 (.int _) q⟩
    | _ => exact h1.elim⟩
end
end
end L3
/-! L5j: defs that make lambdas and have no deck: the caller's deck is lent to them, behind their own slots. -/
namespace L3
open PySem PySem.Spec L2
open PyProof.Rows (IntsAre AllBare recsOf)
variable [Tbs]
/-- the deck is lent, not passed; it comes back as it was -/
def liftGho (K : PySem.W.Frag) (sp : SpP) : Sp := fun ws H Q _ => ∃ Hf v0 cs n fp ds Qd, Same Hf H ∧ OwRep K Hf H v0 (.dk cs n) fp ∧ (∀ p ∈ fp, Hf p = none) ∧ RepL K Hf ws ds ∧ sp ds Qd ∧
  ∀ v H' Hf' d, Same Hf Hf' → Same Hf' H' → (∀ p u, p ∉ fp → H p = some u → H' p = some u) → (∀ p u, H p = some u → ∃ u', H' p = some u') → (∀ p u, Hf' p = some u → Hf p = some u ∨ H p = none) →
    OwRep K Hf' H' v0 (.dk cs n) fp → Rep K Hf' v d → Qd d → Q v H'
section
variable {X : Cx} {CX : CXT} {k : Nat} {f : Addr} {fd : FuncData} {ps : List Str} {sp : SpP} {E : XK} {x : Str} {p pos : Pos} {e : Expr} {es : List Expr} {t : TAd}
def tCallGh (j : Nat) (sp : SpP) (t : TAd) : TEd := fun E Q => t E fun ds E1 => isDk E1 j ∧ sp ds fun d => Q d E1
theorem d_callGh (j : Nat) (F : FnG X.prog X.w X.K X.mg X.base CX k f fd ps (liftGho X.K sp)) (hgd : X.A.guards = some []) (hr : Room k X.A) (hm : X.mg x = some (.ref f)) (hk : PySem.W.keepIn X.K (.ref f) = true) (hb : Binds X.K fd ps []) (hx : Passes CX X E)
    (ha : PAd X (e :: es) t) (hg : Gl X x := by rfl) (hdb : (x == ("__debug__" : Str)) = false := by decide) (he : starEach (e :: es) X.env = (false, eval e X.env) :: starEach es X.env := by rfl) (hpl : (backTo pos (starEach es X.env)).any (·.1) = false := by rfl) :
    PEd X (.Call (.Name x p) (e :: es) [] pos) (tCallGh j sp t) :=
  pe_imp (pe_callG F hgd hr hg hm hk hb hx ha hdb he hpl) fun σ H Q ⟨en, Hf, F, E, Qd, S, h, k⟩ => ⟨en, Hf, F, E, _, S, h, fun vs H1 Hf1 F1 E1 ds s1 S1 r1 h1 => by
    obtain ⟨hj, h1⟩ := h1
    obtain ⟨b, cs, n, eo⟩ := hj.ex
    obtain ⟨v1, hv1, ro, hl⟩ := S1.own eo
    refine ⟨Hf1, v1, cs, n, F1 j, ds, _, S1.sf, ro, fun q hq => (S1.fp j q hq).1, r1, h1, fun v H' Hf' d s2 s3 s4 dm g ro' r q => ?_⟩
    have S2 := S1.change eo hv1 s2 s3 s4 dm g ro'
    have eE : E1.set j (.ow b (.dk cs n)) = E1 := by
      apply List.ext_getElem?
      intro i
      rw [List.getElem?_set]
      by_cases c : j = i
      · subst c
        rw [if_pos rfl, eo]
        split
        · rfl
        · rename_i z
          exact absurd (List.getElem?_eq_some_iff.mp eo).1 z
      · rw [if_neg c]
    rw [eE] at S2
    exact k _ _ _ _ _ _ (s1.trans s2) S2 r q⟩
end
/-- the slots at the entry: the deck behind all names -/
def startG (N : List Str) (ds : List Sl) (o : Ow) : En := (ds ++ List.replicate (N.length - 1 - ds.length) .un) ++ [.ow true o]
section
variable {P : Program} {w : World} {K : PySem.W.Frag} {mg : Str → Option Value} {base : Heap}
theorem pss_ghost {X : Cx} {ss : List Stmt} {t : TS} (h : PSs X ss t) {g : Nat} {y : Str} (hx : X.N[g]? = some y) (nv : ¬ Vis X.env.scope y) (v0 : V) : PSs X ss (fun D σ H => t D (σ.set g (some v0)) H) :=
  ⟨fun pins s σ H D I q => h.run pins s _ H D ⟨I.ok, I.os, I.bare, I.base, let ⟨m, hn, hl'⟩ := I.loc; ⟨m, hn, fun i x v e1 e2 e3 => by
    by_cases c : g = i
    · subst c
      rw [hx] at e1
      cases e1
      exact absurd e3 nv
    · rw [List.getElem?_set_ne c] at e2
      exact hl' i x v e1 e2 e3⟩, I.cell, I.free, I.freeC, I.pin, I.hok, by rw [List.length_set]; exact I.len⟩ q⟩
theorem fn_gho {x qual : Str} {st : Stmt} {f : Addr} {fd : FuncData} {N ps : List Str} {k : Nat} {sp : SpP} {c : Addr} {g : Nat} {y : Str} (F : Fun K x qual st f fd) (hcc : fd.code = .ref c) (S : FnScope N ps (defScope st)) (hg : N.length = g + 1) (hy : N[g]? = some y) (nv : ¬ Vis (defScope st) y) (hps : ps.length ≤ g) (len : ∀ ds Q, sp ds Q → ds.length = ps.length)
    (hbody : ∃ t : TSd, (∀ (cdv : Value), cdv = .ref c → ∀ (A : Around) (outer : List Env) (s : Shared) (H : Hp) (E : XK), A.guards = some [] → Room k (A.deeper (PyProof.Rows.envOfC qual (defScope st) s.heap.objs.size f cdv)) →
      PBd (cxOf CX0 P w K mg base N qual (defScope st) f cdv A outer s H E).nox (defBody st) t) ∧
      ∀ cs n ds Q, sp ds Q → t { nx := fun E => E[g]? = some (.ow true (.dk cs n)) ∧ Q .non, rt := fun d E => E[g]? = some (.ow true (.dk cs n)) ∧ Q d } (startG N (ds.map .fz) (.dk cs n))) : FnG P w K mg base CX0 (k + 1) f fd ps (liftGho K sp) := by
  obtain ⟨t, hd, hq⟩ := hbody
  refine FnG.bodyC F hcc S (fun vs H Q E ⟨Hf, v0, cs, n, fp, ds, Qd, _, _, _, r, h, _⟩ => by rw [r.length]; exact len _ _ h) (fun cdv hcd A outer s H vs Q E hgd hr ⟨Hf, v0, cs, n, fp, ds, Qd, sf, ro, hfp, r, h, kk⟩ => ⟨_, pss_ghost (hd cdv hcd A outer s H E hgd hr).nox (g := g) (y := y) hy nv v0, ?_⟩)
  have hl := len _ _ h
  have hvl : vs.length = ds.length := r.length
  have sl0 : (start N vs).length = g + 1 := by
    unfold L2.start
    simp only [List.length_append, List.length_map, List.length_replicate]
    omega
  have e0 : ((ds.map Sl.fz) ++ List.replicate (N.length - 1 - ds.length) Sl.un).length = g := by
    simp only [List.length_append, List.length_map, List.length_replicate]
    omega
  have hlen : ((start N vs).set g (some v0)).length = (startG N (ds.map .fz) (.dk cs n)).length := by
    unfold startG
    rw [List.length_set, sl0, List.length_append, List.length_map, e0]
    rfl
  have inn : ∀ {i : Nat} {p : Addr}, p ∈ setF (fun _ => []) g fp i → i = g ∧ p ∈ fp := fun {i p} h => by
    by_cases z : i = g
    · subst z
      rw [setF_same] at h
      exact ⟨rfl, h⟩
    · rw [setF_ne z] at h
      cases h
  have fin : ∀ {v σ' H' Hf' F' E' d}, Same Hf Hf' → Sat K ⟨H, Hf, setF (fun _ => []) g fp, fun _ => v0, noHp⟩ Hf' H' F' E' σ' → Rep K Hf' v d → (E'[g]? = some (Sl.ow true (.dk cs n)) ∧ Qd d) → Q v H' := fun {v σ' H' Hf' F' E' d} s1 S1 r1 ⟨e1, q⟩ => by
    obtain ⟨v1, hv1, ro1, hl1, _⟩ := S1.own e1
    obtain ⟨e2, e3⟩ := hl1 rfl
    have ro2 : OwRep K Hf' H' v0 (.dk cs n) fp := by
      have z : F' g = fp := e3.trans (show setF (fun _ => []) g fp g = fp from setF_same)
      have z2 : v1 = v0 := e2
      rw [z, z2] at ro1
      exact ro1
    exact kk v H' Hf' d s1 S1.sf (fun p u np a => S1.so p u (fun i z => np (inn z).2) a) S1.dom (fun p u a => S1.gn p u a) ro2 r1 q
  refine ⟨⟨H, Hf, setF (fun _ => []) g fp, fun _ => v0, noHp⟩, Hf, setF (fun _ => []) g fp, startG N (ds.map .fz) (.dk cs n), _, ?_, hq cs n ds Qd h, fun σ' H' Hf' F' E' s1 S1 q => ?_, fun _ _ _ _ _ _ _ q => q.elim, fun _ _ _ _ _ _ _ q => q.elim, fun v σ' H' Hf' F' E' d s1 S1 r1 q => fin s1 S1 r1 q, fun _ _ _ _ _ _ _ _ _ _ _ q => q.elim⟩
  · refine { sf := sf, so := fun p o _ a => a, dom := fun p o a => ⟨o, a⟩, sp := fun p o a => (nomatch a), pf := fun p o a => (nomatch a), gf := Same.refl _, gn := fun p o a => .inl a, dj := fun i j p a b => by rw [(inn a).1, (inn b).1], fp := fun i p a => ⟨hfp p (inn a).2, ro.some p (inn a).2, .inl ⟨i, a⟩, rfl⟩, len := hlen, sl := fun i sl e => ?_ }
    unfold startG at e
    rw [List.length_map] at e
    by_cases hi : i < g
    · rw [List.getElem?_append_left (by rw [e0]; exact hi)] at e
      by_cases hi2 : i < ds.length
      · rw [List.getElem?_append_left (by rw [List.length_map]; exact hi2), List.getElem?_map] at e
        obtain ⟨d, ed⟩ := getE hi2
        rw [ed] at e
        cases e
        obtain ⟨v, ev, rv⟩ := r.get ed
        exact ⟨v, by rw [List.getElem?_set_ne (by omega)]; exact start_at ev, rv⟩
      · rw [List.getElem?_append_right (by rw [List.length_map]; omega)] at e
        have e2 := List.mem_of_getElem? e
        rw [List.eq_of_mem_replicate e2]
        trivial
    · have hl2 := (List.getElem?_eq_some_iff.mp e).1
      rw [List.length_append, e0, List.length_singleton] at hl2
      obtain rfl : i = g := by omega
      rw [List.getElem?_append_right (by omega), e0, Nat.sub_self] at e
      cases e
      exact ⟨v0, by rw [List.getElem?_set_self (by omega)], by rw [setF_same]; exact ro, fun _ => ⟨rfl, rfl⟩, fun z => by cases z⟩
  · exact fin s1 S1 .non q
theorem cal_gho {x : Str} {st : Stmt} {N ps : List Str} {k : Nat} {sp : SpP} {c : Addr} (g : Nat) {y : Str} (d : DfnC K mg x st ps c) (S : FnScope N ps (defScope st)) (hg : N.length = g + 1) (hy : N[g]? = some y) (nv : (defScope st).names.lookup y = none) (hps : ps.length ≤ g) (len : ∀ ds Q, sp ds Q → ds.length = ps.length)
    (hbody : ∃ t : TSd, (∀ (f : Addr) (cdv : Value), cdv = .ref c → ∀ (A : Around) (outer : List Env) (s : Shared) (H : Hp) (E : XK), A.guards = some [] → Room k (A.deeper (PyProof.Rows.envOfC x (defScope st) s.heap.objs.size f cdv)) →
      PBd (cxOf CX0 P w K mg base N x (defScope st) f cdv A outer s H E).nox (defBody st) t) ∧
      ∀ cs n ds Q, sp ds Q → t { nx := fun E => E[g]? = some (.ow true (.dk cs n)) ∧ Q .non, rt := fun d E => E[g]? = some (.ow true (.dk cs n)) ∧ Q d } (startG N (ds.map .fz) (.dk cs n))) : Cal P w K mg base CX0 x (k + 1) ps (liftGho K sp) := by
  obtain ⟨f, fd, F, hm, hb, hcc⟩ := d
  obtain ⟨t, h1, h2⟩ := hbody
  exact ⟨f, fd, fn_gho F hcc S hg hy (fun z => by unfold Vis at z; rw [nv] at z; rcases z with z | z | z <;> cases z) hps len ⟨t, h1 f, h2⟩, hm, F.kp, hb⟩
end
theorem sg1_by {R} {G : List Int → Int → List D → (D → Prop) → Prop} (h : ∀ cs n x Q, R x Q → G cs n [x] Q) : ∀ cs n ds Q, sp1 R ds Q → G cs n ds Q := fun cs n ds Q q => by
  unfold sp1 at q
  split at q
  · exact h _ _ _ _ q
  · exact q.elim
theorem sg2_by {R} {G : List Int → Int → List D → (D → Prop) → Prop} (h : ∀ cs n x y Q, R x y Q → G cs n [x, y] Q) : ∀ cs n ds Q, sp2 R ds Q → G cs n ds Q := fun cs n ds Q q => by
  unfold sp2 at q
  split at q
  · exact h _ _ _ _ _ q
  · exact q.elim
theorem sg3_by {R} {G : List Int → Int → List D → (D → Prop) → Prop} (h : ∀ cs n x y z Q, R x y z Q → G cs n [x, y, z] Q) : ∀ cs n ds Q, sp3 R ds Q → G cs n ds Q := fun cs n ds Q q => by
  unfold sp3 at q
  split at q
  · exact h _ _ _ _ _ _ q
  · exact q.elim
theorem sg4_by {R} {G : List Int → Int → List D → (D → Prop) → Prop} (h : ∀ cs n x y z u Q, R x y z u Q → G cs n [x, y, z, u] Q) : ∀ cs n ds Q, sp4 R ds Q → G cs n ds Q := fun cs n ds Q q => by
  unfold sp4 at q
  split at q
  · exact h _ _ _ _ _ _ _ q
  · exact q.elim
end L3
/-! L5k: a <= b <= c <= d. -/
namespace L3
open PySem PySem.Spec PyProof.Rows L2
variable [Tbs]
section
variable {X : Cx} {a b c d : Expr} {pos : Pos}
section
variable {ta tb tc td : TE}
def tChain4 (r r' r'' : R2) (ta tb tc td : TE) : TE := fun σ H Q => ta σ H fun x H1 => tb σ H1 fun y H2 => r x y H2 fun z H3 => ∃ k, z = .bl k ∧
  (if k = true then tc σ H3 fun w' H4 => r' y w' H4 fun z5 H5 => ∃ k5, z5 = .bl k5 ∧ (if k5 = true then td σ H5 fun w6 H6 => r'' w' w6 H6 Q else Q (.bl false) H5) else Q (.bl false) H3)
theorem pe_chain4 {op op' op'' : CmpOp} {r r' r'' : R2} (ho : OpR X (compareOp op) r) (ho' : OpR X (compareOp op') r') (ho'' : OpR X (compareOp op'') r'') (ha : PE X a ta) (hb : PE X b tb) (hc : PE X c tc) (hd : PE X d td)
    (hm : lastMarks [op, op', op''] [b, c, d] = false := by with_unfolding_all rfl) : PE X (.Compare a [op, op', op''] [b, c, d] pos) (tChain4 r r' r'' ta tb tc td) := by
  refine ⟨fun pins s σ H Q I h => ?_⟩
  refine Compare_chain (thn (ha.run pins s σ H _ I h) fun v s1 ⟨x, H1, I1, r1, q1⟩ => chain_link (thn (hb.run pins s1 σ H1 _ I1 q1) fun u s2 ⟨y, H2, I2, r2, q2⟩ =>
    thn (ho pins s2 σ H2 x y v u _ I2 r1 r2 q2) fun d s3 ⟨z, H3, I3, r3, k, e, q3⟩ => ?_)) hm
  subst e
  cases r3
  refine wpAny_truthy_bool ?_
  cases k with
  | false => exact ite_ff ⟨.bl false, H3, I3, rfl, q3⟩
  | true =>
    refine ite_tt (chain_link (thn (hc.run pins s3 σ H3 _ I3 q3) fun w' s4 ⟨z', H4, I4, r4, q4⟩ => thn (ho' pins s4 σ H4 y z' u w' _ I4 r2 r4 q4) fun d5 s5 ⟨z5, H5, I5, r5, k5, e5, q5⟩ => ?_))
    subst e5
    cases r5
    refine wpAny_truthy_bool ?_
    cases k5 with
    | false => exact ite_ff ⟨.bl false, H5, I5, rfl, q5⟩
    | true => exact ite_tt (chain_last (thn (hd.run pins s5 σ H5 _ I5 q5) fun w6 s6 ⟨z6, H6, I6, r6, q6⟩ => ho'' pins s6 σ H6 z' z6 w' w6 Q I6 r4 r6 q6))
end
section
variable {ta tb tc td : TEd}
def tChain4D (rd rd' rd'' : RD) (ta tb tc td : TEd) : TEd := fun E Q => ta E fun x E1 => tb E1 fun y E2 => rd x y E2 fun z E3 => match z with
  | .bl k => if k = true then tc E3 fun w E4 => rd' y w E4 fun z5 E5 => (match z5 with
    | .bl k5 => if k5 = true then td E5 fun w6 E6 => rd'' w w6 E6 Q else Q (.bl false) E5
    | _ => False) else Q (.bl false) E3
  | _ => False
theorem lift5 {K : PySem.W.Frag} {r r' r'' : R2} {rd rd' rd'' : RD} (hk : OpOk K r rd) (hk' : OpOk K r' rd') (hk'' : OpOk K r'' rd'') : ∀ σ H Q, liftE K (tChain4D rd rd' rd'' ta tb tc td) σ H Q → tChain4 r r' r'' (liftE K ta) (liftE K tb) (liftE K tc) (liftE K td) σ H Q := fun σ H Q ⟨en, Hf, F, E, Qd, S, h, k⟩ =>
  ⟨en, Hf, F, E, _, S, h, fun v1 H1 Hf1 F1 E1 x s1 S1 r1 h1 => ⟨en, Hf1, F1, E1, _, S1, h1, fun v2 H2 Hf2 F2 E2 y s2 S2 r2 h2 =>
    hk en Hf2 H2 F2 E2 σ v1 v2 x y _ _ S2 (r1.mono s2) r2 h2 fun v3 H3 Hf3 F3 E3 z s3 S3 r3 h3 => by
      split at h3
      · rename_i kk
        cases r3
        refine ⟨kk, rfl, ?_⟩
        cases kk with
        | false => exact k _ _ _ _ _ _ ((s1.trans s2).trans s3) S3 (.bl _) h3
        | true => exact ⟨en, Hf3, F3, E3, _, S3, h3, fun v4 H4 Hf4 F4 E4 w s4 S4 r4 h4 =>
            hk' en Hf4 H4 F4 E4 σ v2 v4 y w _ _ S4 (r2.mono (s3.trans s4)) r4 h4 fun v5 H5 Hf5 F5 E5 z5 s5 S5 r5 h5 => by
              split at h5
              · rename_i kk
                cases r5
                refine ⟨kk, rfl, ?_⟩
                cases kk with
                | false => exact k _ _ _ _ _ _ ((((s1.trans s2).trans s3).trans s4).trans s5) S5 (.bl _) h5
                | true => exact ⟨en, Hf5, F5, E5, _, S5, h5, fun v6 H6 Hf6 F6 E6 w6 s6 S6 r6 h6 =>
                    hk'' en Hf6 H6 F6 E6 σ v4 v6 w w6 Q Qd S6 (r4.mono (s5.trans s6)) r6 h6 fun v H' Hf' F' E' d s7 S7 r7 h7 => k v H' Hf' F' E' d ((((((s1.trans s2).trans s3).trans s4).trans s5).trans s6).trans s7) S7 r7 h7⟩
              · exact h5.elim⟩
      · exact h3.elim⟩⟩
theorem d_chain4 {op op' op'' : CmpOp} {r r' r'' : R2} {rd rd' rd'' : RD} (ho : OpR X (compareOp op) r) (hk : OpOk X.K r rd) (ho' : OpR X (compareOp op') r') (hk' : OpOk X.K r' rd') (ho'' : OpR X (compareOp op'') r'') (hk'' : OpOk X.K r'' rd'') (ha : PEd X a ta) (hb : PEd X b tb) (hc : PEd X c tc) (hd : PEd X d td)
    (hm : lastMarks [op, op', op''] [b, c, d] = false := by with_unfolding_all rfl) : PEd X (.Compare a [op, op', op''] [b, c, d] pos) (tChain4D rd rd' rd'' ta tb tc td) := pe_imp (pe_chain4 ho ho' ho'' ha hb hc hd hm) (lift5 hk hk' hk'')
end
end
end L3
/-! L5l: o(x), o an instance of an own class; a == b > c. -/
namespace L3
open PySem PySem.Spec PySem.Calls PyProof.Rows L2
variable [Tbs]
section
variable {M : Model} {A : Around} {E : Value → Shared → Prop} {s : Shared} {pos : Pos} {x : Addr} {Q : Value → Shared → Prop}
/-- some plain instance stands at x -/
def InsSome (h : Heap) (x : Addr) : Prop := ∃ C dx od, PySem.W.InstAt h x (PySem.W.instObj C dx) C od
theorem callWith_ins {first : List Value} {args : List (Bool × Sem Value)} {kws : List (Option Str × Sem Value)} (hp : (args.any (·.1) || kws.any (·.1.isNone)) = false)
    (h : wpAny M A (evalArgs (.ref x) true args kws) (fun a s1 => InsSome s1.heap x ∧ wpAny M A (call (.ref x) (first ++ a.pos) a.kw) Q E s1) E s) :
    wpAny M A (callWith pos (.ref x) first args kws) Q E s := by
  unfold callWith
  refine wpAny_bind (wpAny_holding (wpAny_mono h (fun a s1 z => ?_) fun _ _ y => y))
  obtain ⟨⟨C, dx, od, I⟩, hc⟩ := z
  refine wpAny_bind (wpAny_standAt ?_)
  have look := PySem.W.kco_keeper (M := M) I rfl
  simp only [hp]
  refine wpAny_bind (look.here ?_)
  refine wpAny_bind (wpAny_mono (wpAny_operateT hc) (fun r s2 hr => ?_) fun _ _ y => y)
  exact wpAny_bind (wpAny_holding (wpAny_point (wpAny_pure hr)))
end
section
variable {X : Cx} {C f : Addr} {k : Nat} {fd : FuncData} {ps : List Str} {sp : Sp} {CX : CXT} {fe e : Expr} {es : List Expr} {pos : Pos} {ta : TE} {t : TA} {E : L2.St → XK}
theorem run_ins {pins : List (Addr × Obj)} {σ : L2.St} {H : Hp} {s : Shared} {Q : VK} {us : List Value} {vs : List V} {a dx : Addr} {fs} (S : Spc X.K C "__call__" f) (F : FnG X.prog X.w X.K X.mg X.base CX k f fd ps sp) (hgd : X.A.guards = some []) (hr : Room k X.A) (hb : Binds X.K fd ps [])
    (hx : PassesAt CX X σ (E σ)) (I : Inv X pins σ H s) (ha : H a = some (.ins C dx fs)) (r : Vals vs us) (h : sp (.ref a :: vs) H Q (E σ)) : wpAny (model X.prog X.w) X.A (call (.ref a) us) (EP X pins σ Q) X.xe s := by
  have r2 : Vals (V.ref a :: vs) (Value.ref a :: us) := .cons rfl r
  have hl : (Value.ref a :: us).length = ps.length := r2.length.symm.trans (F.len _ _ _ _ h)
  have bt : BindsTo s fd ⟨Value.ref a :: us, []⟩ (ps.zip (Value.ref a :: us)) := by
    have z := hb s (Value.ref a :: us) I.kIn (by rw [List.append_nil]; exact hl)
    rw [List.append_nil] at z
    exact z
  obtain ⟨mA, J, _⟩ := ins_get I.hok ha
  obtain ⟨od, J, _⟩ := J.look
  refine wpAny_call (PySem.W.kco_code I.kIn J rfl S.at_ S.fn S.fi (codeAny_mono (F.run X.A hgd hr X.stack s H ⟨Value.ref a :: us, []⟩ (Value.ref a :: us) (.ref a :: vs) Q (E σ) I.env0 bt r2 h) fun res s' q => ?_))
  match res, q with
  | .error err, q => exact hx pins H s err s' I q
  | .ok (.ret u), q => exact I.after q
theorem pe_callI (he : PE X fe ta) (S : Spc X.K C "__call__" f) (F : FnG X.prog X.w X.K X.mg X.base CX k f fd ps sp) (hgd : X.A.guards = some []) (hr : Room k X.A) (hb : Binds X.K fd ps []) (hx : ∀ σ, PassesAt CX X σ (E σ)) (ha : PA X (e :: es) t)
    (hst : starEach (e :: es) X.env = (false, eval e X.env) :: starEach es X.env := by rfl) (hpl : (backTo pos (starEach es X.env)).any (·.1) = false := by rfl)
    (ht : eval (.Call fe (e :: es) [] pos) X.env = (do
      let g ← eval fe X.env
      callWith pos g [] (backTo pos (starEach (e :: es) X.env)) (backToKw pos (keywordEach [] X.env))) := by rfl) :
    PE X (.Call fe (e :: es) [] pos) (fun σ H Q => ta σ H fun x H1 => ∃ a, x = .ref a ∧ t σ H1 fun vs H2 => (∃ dx fs, H2 a = some (.ins C dx fs)) ∧ sp (.ref a :: vs) H2 Q (E σ)) := by
  refine ⟨fun pins s σ H Q I h => ?_⟩
  rw [ht]
  refine wpAny_bind (thn (he.run pins s σ H _ I h) fun u s1 ⟨x, H1, I1, rx, a, ex, q⟩ => ?_)
  subst ex
  obtain rfl : u = Value.ref a := rx
  have hh : wpAny (model X.prog X.w) X.A (spliced (backTo pos (starEach (e :: es) X.env))) (fun us s2 => InsSome s2.heap a ∧ wpAny (model X.prog X.w) X.A (call (.ref a) ([] ++ us)) (EP X pins σ Q) X.xe s2) X.xe s1 :=
    thn (ha.run pos pins s1 σ H1 _ I1 q) fun us s2 ⟨vs, H2, I2, r, ⟨dx, fs, hi⟩, q2⟩ => by
      obtain ⟨mA, J, _⟩ := ins_get I2.hok hi
      obtain ⟨od, J, _⟩ := J.look
      exact ⟨⟨_, _, _, J⟩, run_ins S F hgd hr hb (hx σ) I2 hi r q2⟩
  rw [hst] at hh ⊢
  exact callWith_ins (by show ((false || (backTo pos (starEach es X.env)).any (·.1)) || false) = false; rw [hpl]; rfl) (evalArgs_plain hh)
end
section
variable {X : Cx} {C f : Addr} {k : Nat} {fd : FuncData} {ps : List Str} {sp : SpX} {fe e : Expr} {es : List Expr} {pos : Pos} {te : TXd} {tx : TAXd}
def tCallI (C : Addr) (sp : SpX) (te : TXd) (tx : TAXd) : TXd := fun W E Q => te W E fun x E1 => match x with
  | .ins C' fs => C' = C ∧ tx W E1 fun ds E2 => sp (.ins C' fs :: ds) (fun d => Q d E2) (fun x => W x E2)
  | _ => False
theorem x_callO (S : Spc X.K C "__call__" f) (F : FnG X.prog X.w X.K X.mg X.base (L2.CX X.prog X.w) k f fd ps (liftPX X.K X.mg sp)) (hgd : X.A.guards = some []) (hr : Room k X.A) (hb : Binds X.K fd ps []) (he : PXd X fe te) (ha : PAXd X (e :: es) tx)
    (hst : starEach (e :: es) X.env = (false, eval e X.env) :: starEach es X.env := by rfl) (hpl : (backTo pos (starEach es X.env)).any (·.1) = false := by rfl)
    (ht : eval (.Call fe (e :: es) [] pos) X.env = (do
      let g ← eval fe X.env
      callWith pos g [] (backTo pos (starEach (e :: es) X.env)) (backToKw pos (keywordEach [] X.env))) := by rfl) :
    PXd X (.Call fe (e :: es) [] pos) (tCallI C sp te tx) :=
  pe_imp (pe_callI he S F hgd hr hb wx_pass ha hst hpl ht) fun σ H Q ⟨en, Hf, F, E, Qd, Wd, S, h, k, kx⟩ => ⟨en, Hf, F, E, _, Wd, S, h, fun v H1 Hf1 F1 E1 d s1 S1 r1 h1 => by
    split at h1
    · rename_i C' fs
      obtain ⟨rfl, h1⟩ := h1
      have r1' := r1
      cases r1 with | ins h2 h3 rf =>
      refine ⟨_, rfl, en, Hf1, F1, E1, _, Wd, S1, h1, fun vs H2 Hf2 F2 E2 ds s2 S2 r2 h4 => ?_, fun cls x H' Hf' F' E' d s2 S2 r q => kx _ _ _ _ _ _ _ (s1.trans s2) S2 r q⟩
      have st := r1'.mono s2
      refine ⟨?_, Hf2, _, _, _, S2.sf, .cons (r1'.mono s2) r2, h4, fun v H' Hf' d s3 s4 s5 g r q => k _ _ _ _ _ _ ((s1.trans s2).trans s3) (S2.grow s3 s4 s5 g) r q, fun cls x d H' Hf' s3 s4 s5 g r q => kx _ _ _ _ _ _ _ ((s1.trans s2).trans s3) (S2.grow s3 s4 s5 g) r q⟩
      cases st with | ins h5 _ _ => exact ⟨_, _, S2.sf _ _ h5⟩
    · exact h1.elim, kx⟩
end
end L3
/-! L6a: an instance in the making: its own fields, its own methods, a list of its own in a field. -/
namespace L3
open PySem PySem.Spec PyProof.Rows L2
variable [Tbs]
/-! ### a slot behind all names of the text may be set at any time -/
theorem inv_ghost {X : Cx} {pins : List (Addr × Obj)} {σ : L2.St} {H : Hp} {s : Shared} (I : Inv X pins σ H s) {g : Nat} {y : Str} (hx : X.N[g]? = some y) (nv : ¬ Vis X.env.scope y) (v0 : V) : Inv X pins (σ.set g (some v0)) H s :=
  ⟨I.ok, I.os, I.bare, I.base, let ⟨m, hn, hl'⟩ := I.loc; ⟨m, hn, fun i x v e1 e2 e3 => by
    by_cases c : g = i
    · subst c
      rw [hx] at e1
      cases e1
      exact absurd e3 nv
    · rw [List.getElem?_set_ne c] at e2
      exact hl' i x v e1 e2 e3⟩, I.cell, I.free, I.freeC, I.pin, I.hok, by rw [List.length_set]; exact I.len⟩
theorem ps_gset {X : Cx} {st : Stmt} {t : TS} (h : PS X st t) {g : Nat} {y : Str} (hx : X.N[g]? = some y) (nv : ¬ Vis X.env.scope y) :
    PS X st (fun D σ H => t { D with nx := fun σ' H' => ∃ v, D.nx (σ'.set g (some v)) H' } σ H) :=
  ⟨fun pins s σ H D I q => thn (h.run pins s σ H _ I q) fun f s' z => by
    cases f with
    | next =>
      obtain ⟨σ', H', I', v, q'⟩ := z
      exact ⟨σ'.set g (some v), H', inv_ghost I' hx nv v, q'⟩
    | brk => exact z
    | cont => exact z
    | ret u => exact z⟩
theorem RepF.look {K : PySem.W.Frag} {H : Hp} {f : Str} : ∀ {vs : List (Str × V)} {fs : List (Str × D)} {d : D}, RepF K H vs fs → fs.lookup f = some d → ∃ w, vs.lookup f = some w ∧ Rep K H w d
  | _, _, d, .nil, e => by cases e
  | _, _, d, .cons (k := k) a t, e => by
    rw [List.lookup_cons] at e ⊢
    by_cases h : f = k
    · have z : (f == k) = true := by simpa using h
      rw [z] at e ⊢
      cases e
      exact ⟨_, rfl, a⟩
    · have z : (f == k) = false := by simpa using h
      rw [z] at e ⊢
      exact RepF.look t e
/-- another reading of one field -/
theorem RepF.re {K : PySem.W.Frag} {H : Hp} {f : Str} {w : V} {d : D} (r : Rep K H w d) : ∀ {vs : List (Str × V)} {fs : List (Str × D)} {d0 : D}, RepF K H vs fs → fs.lookup f = some d0 → vs.lookup f = some w → RepF K H vs (putFD f d fs)
  | _, _, _, .nil, e, _ => by cases e
  | _, _, _, .cons (k := k) a t, e, e2 => by
    rw [List.lookup_cons] at e e2
    unfold putFD
    by_cases h : f = k
    · have z : (f == k) = true := by simpa using h
      rw [z] at e2
      cases e2
      rw [if_pos h.symm]
      exact .cons r t
    · have z : (f == k) = false := by simpa using h
      rw [z] at e e2
      rw [if_neg (fun y => h y.symm)]
      exact .cons a (RepF.re r t e e2)
/-! ### fields of our own instance -/
section
variable {X : Cx} {e : Expr} {te : TEd} {x f : Str} {p pos apos cpos p1 p2 pl : Pos}
/-- x.f, x our own instance -/
def tFldO (K : PySem.W.Frag) (j : Nat) (f : Str) : TEd := fun E Q => match E[j]? with
  | some (.ow _ (.oi C fs)) => OFld K C f ∧ ∃ d, fs.lookup f = some d ∧ Q d E
  | _ => False
theorem d_fldO (K : PySem.W.Frag) (j : Nat) (hK : X.K = K := by rfl) (hN : X.N[j]? = some x := by rfl) (hv : Vis X.env.scope x := by first | exact Or.inl rfl | exact Or.inr (Or.inl rfl) | exact Or.inr (Or.inr rfl)) (hd : (x == ("__debug__" : Str)) = false := by decide) (hcd : (x == ("__classdict__" : Str)) = false := by decide)
    (hb : attributeBase (.Name x p) f X.env (eval (.Name x p) X.env) = eval (.Name x p) X.env := by rfl) : PEd X (.Attribute (.Name x p) f pos) (tFldO K j f) := by
  subst hK
  exact pe_imp (pe_fld (pv (X := X) (pos := p) j hN hv hd hcd) hb) fun σ H Q ⟨en, Hf, F, E, Qd, S, h, k⟩ => by
    unfold tFldO at h
    split at h
    · rename_i b C fs e1
      obtain ⟨⟨c, n⟩, d, l, q⟩ := h
      obtain ⟨v0, hv0, ⟨a, dx, vs, rfl, hF, ha, hdx, rf⟩, _⟩ := S.own e1
      obtain ⟨w, l2, rw_⟩ := rf.look l
      exact ⟨_, hv0, a, C, dx, vs, w, rfl, ha, c, n, l2, k _ _ _ _ _ _ (Same.refl _) S rw_ q⟩
    · exact h.elim
/-- x.f = [], a list of our own (slot g, behind all names) -/
def tNewAttr (K : PySem.W.Frag) (j g : Nat) (f : Str) : TSd := fun D E => canSet E g ∧ match E[j]? with
  | some (.ow b (.oi C fs)) => OFld K C f ∧ fs.length < 1000 ∧ ∀ q, D.nx ((E.set g (.ow false (.olA q []))).set j (.ow b (.oi C (putFD f (.opq (.ref q)) fs))))
  | _ => False
theorem s_newAttr (K : PySem.W.Frag) (j g : Nat) (sc : Scope) {y : Str} (hsc : X.env.scope = sc := by rfl) (hK : X.K = K := by rfl) (hjg : j ≠ g := by decide) (hg : X.N[g]? = some y := by rfl) (nv0 : sc.names.lookup y = none := by decide +kernel) (hN : X.N[j]? = some x := by rfl) (hv : Vis X.env.scope x := by first | exact Or.inl rfl | exact Or.inr (Or.inl rfl) | exact Or.inr (Or.inr rfl)) (hd : (x == ("__debug__" : Str)) = false := by decide) (hcd : (x == ("__classdict__" : Str)) = false := by decide)
    (hs : swapsWith (.List [] pl) (some (.Attribute (.Name x p1) f p2)) pos.line X.env = pure false := by rfl) : PSd X (.Assign [.Attribute (.Name x p1) f p2] (.List [] pl) pos) (tNewAttr K j g f) := by
  subst hK hsc
  have nv : ¬ Vis X.env.scope y := fun h => by rcases h with h | h | h <;> rw [nv0] at h <;> cases h
  refine ps_imp (ps_gset (ps_fld (pv (X := X) (pos := p1) j hN hv hd hcd) (pe_lst pa_nil) hs) hg nv) fun D σ H ⟨en, Hf, F, E, Dd, S, ⟨hc, h⟩, k1, k2, k3, k4, k5⟩ => ⟨Nat.zero_le _, fun q nq => ?_⟩
  split at h
  · rename_i b C fs e1
    obtain ⟨⟨c, n⟩, hl, h⟩ := h
    obtain ⟨v0, hv0, ⟨a, dx, vs, rfl, hF, ha, hdx, rf⟩, _⟩ := S.own e1
    have S2 := S.setNew (i := g) (u := .lst []) (o := .olA q []) hc nq ⟨[], rfl, rfl, upd_same, .nil⟩
    have e2 : (E.set g (.ow false (.olA q [])))[j]? = some (.ow b (.oi C fs)) := by rw [List.getElem?_set_ne (fun z => hjg z.symm)]; exact e1
    have hv2 : (σ.set g (some (.ref q)))[j]? = some (some (.ref a)) := by rw [List.getElem?_set_ne (fun z => hjg z.symm)]; exact hv0
    have hFj : setF F g [q] j = [a, dx] := by rw [setF_ne hjg]; exact hF
    have ha2 : upd H q (.lst []) a = some (.ins C dx vs) := by rw [upd_ne (ne_of_none ha nq)]; exact ha
    have hd2 : upd H q (.lst []) dx = some (.own a) := by rw [upd_ne (ne_of_none hdx nq)]; exact hdx
    have ma : a ∈ setF F g [q] j := by rw [hFj]; simp
    have na := (S2.fp j a ma).1
    have ne : dx ≠ a := fun z => by rw [z, ha2] at hd2; cases hd2
    refine ⟨_, hv0, a, C, dx, vs, rfl, ha2, c, n, by rw [rf.length]; exact hl, .ref q, ?_⟩
    refine k1 _ _ _ _ _ (Same.refl _) (S2.change e2 hv2 (o' := .oi C (putFD f (.opq (.ref q)) fs)) (Same.refl _) (fun b u z => ?_) (fun b u nb z => ?_) (fun b u z => ?_) (fun _ _ z => .inl z) ⟨a, dx, _, rfl, hFj, upd_same, by rw [upd_ne ne]; exact hd2, rf.put (.opq _)⟩) (h q)
    · have nb : b ≠ a := fun y => by rw [y, na] at z; cases z
      rw [upd_ne nb]
      exact S2.sf _ _ z
    · have nb' : b ≠ a := fun y => nb (by rw [y]; exact ma)
      rw [upd_ne nb']
      exact z
    · by_cases y : b = a
      · subst y
        exact ⟨_, upd_same⟩
      · rw [upd_ne y]
        exact ⟨u, z⟩
  · exact h.elim
/-- x.f.append(e), that list -/
def tAppAttr (K : PySem.W.Frag) (j g : Nat) (f : Str) (te : TEd) : TSd := fun D E => match E[j]?, E[g]? with
  | some (.ow _ (.oi C fs)), some (.ow b (.olA q xs)) => OFld K C f ∧ fs.lookup f = some (.opq (.ref q)) ∧ xs.length < sizeLine ∧ te E fun y E1 => E1 = E ∧ D.nx (E.set g (.ow b (.olA q (xs ++ [y]))))
  | _, _ => False
theorem s_appAttr (K : PySem.W.Frag) (j g : Nat) (he : PEd X e te) (hK : X.K = K := by rfl) (hN : X.N[j]? = some x := by rfl) (hv : Vis X.env.scope x := by first | exact Or.inl rfl | exact Or.inr (Or.inl rfl) | exact Or.inr (Or.inr rfl))
    (hd : (x == ("__debug__" : Str)) = false := by decide) (hcd : (x == ("__classdict__" : Str)) = false := by decide)
    (hb : attributeBase (.Name x p) f X.env (eval (.Name x p) X.env) = eval (.Name x p) X.env := by rfl)
    (hbase : attributeBase (.Attribute (.Name x p) f p1) "append" X.env (eval (.Attribute (.Name x p) f p1) X.env) = eval (.Attribute (.Name x p) f p1) X.env := by rfl)
    (hfew : ((backTo cpos (starEach [e] X.env)).all (fun x => !x.1) && (backToKw cpos (keywordEach [] X.env)).all (fun x => x.1.isSome)
      && decide ([e].length + ([] : List Keyword).length + (if ([] : List Keyword).isEmpty then 0 else 1) < 30)) = true := by rfl)
    (hline : (apos.endLine == cpos.line) = true := by rfl) (hs : starEach [e] X.env = [(false, eval e X.env)] := by rfl)
    (hsw : swapsWith (.Call (.Attribute (.Attribute (.Name x p) f p1) "append" apos) [e] [] cpos) none pos.line X.env = pure false := by rfl) :
    PSd X (.Expr (.Call (.Attribute (.Attribute (.Name x p) f p1) "append" apos) [e] [] cpos) pos) (tAppAttr K j g f te) := by
  subst hK
  refine ps_imp (ps_expr (pe_bm PySem.F.plainAttrs_list PySem.F.slot_list_append PySem.F.type_list_append mt_append (pe_fld (pv (X := X) (pos := p) j hN hv hd hcd) hb) (pa_cons he pa_nil (by rw [hs]; rfl)) hbase hfew hline (by rw [hs]; rfl)) hsw) fun D σ H ⟨en, Hf, F, E, Dd, S, h, k1, k2, k3, k4, k5⟩ => ?_
  unfold tAppAttr at h
  split at h
  · rename_i b0 C fs b q xs e1 e2
    obtain ⟨⟨c, n⟩, l, hz, h⟩ := h
    obtain ⟨v0, hv0, ⟨a, dx, vs, rfl, hF, ha, hdx, rf⟩, _⟩ := S.own e1
    obtain ⟨v1, hv1, ⟨ws, rfl, hFq, hq, rl⟩, _⟩ := S.own e2
    obtain ⟨w, l2, rw_⟩ := rf.look l
    cases rw_
    refine ⟨_, hv0, a, C, dx, vs, _, rfl, ha, c, n, l2, .inl ⟨rfl, _, .inl (.inl hq)⟩, en, Hf, F, E, _, S, h, fun v2 H1 Hf1 F1 E1 y s1 S1 r1 h1 => ?_⟩
    obtain ⟨rfl, h1⟩ := h1
    obtain ⟨v3, hv3, ⟨ws1, ev3, hFq1, hq1, rl1⟩, _⟩ := S1.own e2
    have mq : q ∈ F1 g := by rw [hFq1]; simp
    have nq := (S1.fp g q mq).1
    refine ⟨q, ws1, v2, rfl, rfl, hq1, by rw [rl1.length]; exact hz, ?_⟩
    refine k1 _ _ _ _ _ s1 (S1.change e2 hv3 (o' := .olA q (xs ++ [y])) (Same.refl _) (fun b u z => ?_) (fun b u nb z => ?_) (fun b u z => ?_) (fun _ _ z => .inl z) ⟨ws1 ++ [v2], ev3, hFq1, upd_same, rl1.append (.cons r1 .nil)⟩) h1
    · have nb : b ≠ q := fun y => by rw [y, nq] at z; cases z
      rw [upd_ne nb]
      exact S1.sf _ _ z
    · have nb' : b ≠ q := fun y => nb (by rw [y]; exact mq)
      rw [upd_ne nb']
      exact z
    · by_cases y : b = q
      · subst y
        exact ⟨_, upd_same⟩
      · rw [upd_ne y]
        exact ⟨u, z⟩
  · exact h.elim
end
/-! ### the list becomes data -/
/-- the list in slot g becomes the field f of the instance in slot j -/
def frzE (j g : Nat) (f : Str) (P : En → Prop) : En → Prop := fun E => match E[j]?, E[g]? with
  | some (.ow b (.oi C fs)), some (.ow false (.olA q xs)) => fs.lookup f = some (.opq (.ref q)) ∧ P ((E.set g .un).set j (.ow b (.oi C (putFD f (.lst xs) fs))))
  | _, _ => False
theorem Sat.frz {K : PySem.W.Frag} {en : Et} {Hf H : Hp} {F : Nat → List Addr} {E : En} {σ : L2.St} (S : Sat K en Hf H F E σ) {j g : Nat} {f : Str} {P : En → Prop} (hjg : j ≠ g) (h : frzE j g f P E) : ∃ Hf' F' E', Same Hf Hf' ∧ Sat K en Hf' H F' E' σ ∧ P E' := by
  unfold frzE at h
  split at h
  · rename_i b C fs q xs e1 e2
    obtain ⟨l, h⟩ := h
    obtain ⟨v0, hv0, ⟨a, dx, vs, rfl, hF, ha, hdx, rf⟩, hb⟩ := S.own e1
    obtain ⟨v1, hv1, ⟨ws, rfl, hFq, hq, rl⟩, _, hfr⟩ := S.own e2
    obtain ⟨w, l2, rw_⟩ := rf.look l
    cases rw_
    have mq : q ∈ F g := by rw [hFq]; simp
    obtain ⟨nq, _, _, npr⟩ := S.fp g q mq
    have h0 : en.H0 q = none := hfr rfl q mq
    have s1 : Same Hf (upd Hf q (.lst ws)) := same_upd nq
    refine ⟨upd Hf q (.lst ws), setF F g [], _, s1, ?_, h⟩
    have sub : ∀ {i p}, p ∈ setF F g [] i → p ∈ F i ∧ i ≠ g := fun {i p} hp => by
      by_cases c : i = g
      · subst c
        rw [setF_same] at hp
        cases hp
      · rw [setF_ne c] at hp
        exact ⟨hp, c⟩
    have neq : ∀ {i p}, p ∈ setF F g [] i → p ≠ q := fun {i p} hp z => (sub hp).2 (S.dj i g q (by rw [← z]; exact (sub hp).1) mq)
    refine { sf := fun p u z => ?_, so := S.so, dom := S.dom, sp := S.sp, pf := fun p u z => ?_, gf := S.gf.trans s1, gn := fun p u z => ?_, dj := fun i k p x y => S.dj i k p (sub x).1 (sub y).1, fp := fun i p hp => ?_, len := ?_, sl := fun i s hs => ?_ }
    · by_cases c : p = q
      · subst c
        rw [upd_same] at z
        cases z
        exact hq
      · rw [upd_ne c] at z
        exact S.sf _ _ z
    · by_cases c : p = q
      · subst c
        rw [npr] at z
        cases z
      · rw [upd_ne c]
        exact S.pf p u z
    · by_cases c : p = q
      · subst c
        exact .inr h0
      · rw [upd_ne c] at z
        exact S.gn p u z
    · obtain ⟨q1, q2⟩ := S.fp i p (sub hp).1
      exact ⟨by rw [upd_ne (neq hp)]; exact q1, q2⟩
    · rw [List.length_set, List.length_set]
      exact S.len
    · by_cases cj : i = j
      · subst cj
        have lt : i < (E.set g .un).length := by
          rw [List.length_set]
          exact (List.getElem?_eq_some_iff.mp e1).1
        rw [List.getElem?_set_self lt] at hs
        cases hs
        exact ⟨_, hv0, by rw [setF_ne hjg]; exact ⟨a, dx, vs, rfl, hF, ha, hdx, RepF.re (.lst upd_same (rl.mono s1)) (rf.mono s1) l l2⟩, by rw [setF_ne hjg]; exact hb⟩
      · rw [List.getElem?_set_ne (fun z => cj z.symm)] at hs
        by_cases cg : i = g
        · subst cg
          rw [List.getElem?_set_self (List.getElem?_eq_some_iff.mp e2).1] at hs
          cases hs
          trivial
        · rw [List.getElem?_set_ne (fun z => cg z.symm)] at hs
          have z := S.sl i s hs
          cases s with
          | un => trivial
          | fz d =>
            obtain ⟨v, e, r⟩ := z
            exact ⟨v, e, r.mono s1⟩
          | xc a c d fs => exact ⟨z.1, z.2.mono s1⟩
          | cl v vs ds cc oo => exact ⟨z.1, z.2.mono s1⟩
          | ow b o =>
            obtain ⟨v, e, r, y⟩ := z
            exact ⟨v, e, by rw [setF_ne cg]; exact r.mono s1 fun p _ u hu => hu, by rw [setF_ne cg]; exact y⟩
  · exact h.elim
theorem pb_frz {X : Cx} {ss : List Stmt} {t : TSd} (j g : Nat) (f : Str) (hjg : j ≠ g) (h : PBd X ss t) : PBd X ss (fun D E => t { D with nx := frzE j g f D.nx } E) :=
  pss_imp h fun D σ H ⟨en, Hf, F, E, Dd, S, h, k1, k2, k3, k4, k5⟩ => ⟨en, Hf, F, E, _, S, h, fun σ' H' Hf' F' E' s1 S1 q => by
    obtain ⟨Hf2, F2, E2, s2, S2, q2⟩ := S1.frz hjg q
    exact k1 _ _ _ _ _ (s1.trans s2) S2 q2, k2, k3, k4, k5⟩
/-! ### methods of our own instance -/
section
variable {X : Cx} {C fa : Addr} {k : Nat} {fd : FuncData} {ps : List Str} {so : SoX} {x m : Str} {p pos apos : Pos} {e : Expr} {es : List Expr} {tx : TAXd}
/-- x.m(..), x our own instance (slot j) -/
def tMethO (j : Nat) (C : Addr) (m : Str) (so : SoX) (tx : TAXd) : TXd := fun W E Q => (match E[j]? with
  | some (.ow _ (.oi C' fs)) => C' = C ∧ fs.lookup m = none
  | _ => False) ∧ tx W E fun ds E1 => match E1[j]? with
  | some (.ow b o) => so o ds (fun d o' => Q d (E1.set j (.ow b o'))) (fun x o' => W x (E1.set j (.ow b o')))
  | _ => False
theorem x_methO (j : Nat) {pl : Sem Bool} (c : Cls X.K C) (hm : Meth X.K C m fa) (F : FnG X.prog X.w X.K X.mg X.base (L2.CX X.prog X.w) k fa fd ps (liftOX X.K X.mg so)) (hgd : X.A.guards = some []) (hr : Room k X.A) (hb : Binds X.K fd ps []) (ha : PAXd X (e :: es) tx)
    (hN : X.N[j]? = some x := by rfl) (hv : Vis X.env.scope x := by first | exact Or.inl rfl | exact Or.inr (Or.inl rfl) | exact Or.inr (Or.inr rfl)) (hd : (x == ("__debug__" : Str)) = false := by decide) (hcd : (x == ("__classdict__" : Str)) = false := by decide)
    (hst : starEach (e :: es) X.env = (false, eval e X.env) :: starEach es X.env := by rfl) (hpl : (backTo pos (starEach es X.env)).any (·.1) = false := by rfl)
    (ht : eval (.Call (.Attribute (.Name x p) m apos) (e :: es) [] pos) X.env = (do
      let ov ← eval (.Name x p) X.env
      standAt apos.atName
      let (f, first) ← holding [ov] (getMethod ov m pl)
      callWith pos f first (backTo pos (starEach (e :: es) X.env)) (backToKw pos (keywordEach [] X.env))) := by rfl) :
    PXd X (.Call (.Attribute (.Name x p) m apos) (e :: es) [] pos) (tMethO j C m so tx) :=
  pe_imp (pe_methGS (pl := pl) (pv (X := X) (pos := p) j hN hv hd hcd) c hm F hgd hr hb wx_pass ha hst hpl ht) fun σ H Q ⟨en, Hf, F, E, Qd, Wd, S, ⟨hi, h⟩, k, kx⟩ => by
    split at hi
    · rename_i b0 C' fs e0
      obtain ⟨rfl, lm⟩ := hi
      obtain ⟨v0, hv0, ⟨a, dx, vs, rfl, hF, ha, hdx, rf⟩, _⟩ := S.own e0
      refine ⟨_, hv0, a, dx, vs, rfl, ha, rf.no lm, en, Hf, F, E, _, Wd, S, h, fun us H1 Hf1 F1 E1 ds s1 S1 r1 h1 => ?_, kx⟩
      split at h1
      · rename_i b o eo
        obtain ⟨v1, hv1, ro, hl⟩ := S1.own eo
        rw [hv0] at hv1
        cases hv1
        exact ⟨Hf1, .ref a, us, o, F1 j, ds, _, _, rfl, S1.sf, ro, fun q hq => (S1.fp j q hq).1, r1, h1, fun v H' Hf' d o' s2 s3 s4 dm g ro' r q =>
          k _ _ _ _ _ _ (s1.trans s2) (S1.change eo hv0 s2 s3 s4 dm g ro') r q, fun cls x d H' Hf' o' s2 s3 s4 dm g ro' r q =>
          kx _ _ _ _ _ _ _ (s1.trans s2) (S1.change eo hv0 s2 s3 s4 dm g ro') r q⟩
      · exact h1.elim
    · exact hi.elim
end
section
variable {P : Program} {w : World} {K : PySem.W.Frag} {mg : Str → Option Value} {base : Heap}
structure CalMOAt (P : Program) (w : World) (K : PySem.W.Frag) (mg : Str → Option Value) (base : Heap) (C : Addr) (m : Str) (k : Nat) (ps : List Str) (so : SoX) (f : Addr) (fd : FuncData) : Prop where
  fn : FnG P w K mg base (L2.CX P w) k f fd ps (liftOX K mg so)
  bd : Binds K fd ps []
  cl : Cls K C
  mt : Meth K C m f
def CalMO (P : Program) (w : World) (K : PySem.W.Frag) (mg : Str → Option Value) (base : Heap) (C : Addr) (m : Str) (k : Nat) (ps : List Str) (so : SoX) : Prop := ∃ f fd, CalMOAt P w K mg base C m k ps so f fd
theorem cal_methO {C : Addr} {m qual : Str} {st : Stmt} {N ps : List Str} {k : Nat} {so : SoX} (d : DfnM K C m qual st ps) (S : FnScope N ps (defScope st)) (len : ∀ o ds Q W, so o ds Q W → ds.length + 1 = ps.length)
    (hbody : ∃ t : TSd, (∀ (f : Addr) (cdv : Value) (A : Around) (outer : List Env) (s : Shared) (H : Hp) (E : XK), A.guards = some [] → Room k (A.deeper (PyProof.Rows.envOfC qual (defScope st) s.heap.objs.size f cdv)) →
      PBd (cxOf (L2.CX P w) P w K mg base N qual (defScope st) f cdv A outer s H E) (defBody st) t) ∧
      ∀ o ds Q W, so o ds Q W → t { nx := fun E => ∃ o', E[0]? = some (.ow true o') ∧ Q .non o', rt := fun d E => ∃ o', E[0]? = some (.ow true o') ∧ Q d o', ex := fun x E => ∃ o', E[0]? = some (.ow true o') ∧ W x o' } (startD N (.ow true o :: ds.map .fz))) : CalMO P w K mg base C m (k + 1) ps so := by
  obtain ⟨f, fd, F, hb, c, hm⟩ := d
  obtain ⟨t, h1, h2⟩ := hbody
  exact ⟨f, fd, fn_ownX F S len ⟨t, h1 f, h2⟩, hb, c, hm⟩
/-- __init__, with a list of the instance's own in the field fl (slot g, behind all names) -/
theorem cal_initF {x : Str} {C : Addr} {qual : Str} {st : Stmt} {N ps : List Str} {k : Nat} {so : SoX} (g : Nat) (fl : Str) (h0g : 0 ≠ g) (d : DfnI K mg x C qual st ps) (S : FnScope N ps (defScope st)) (len : ∀ o ds Q W, so o ds Q W → ds.length + 1 = ps.length)
    (hbody : ∃ t : TSd, (∀ (f : Addr) (cdv : Value) (A : Around) (outer : List Env) (s : Shared) (H : Hp) (E : XK), A.guards = some [] → Room k (A.deeper (PyProof.Rows.envOfC qual (defScope st) s.heap.objs.size f cdv)) →
      PBd (cxOf (L2.CX P w) P w K mg base N qual (defScope st) f cdv A outer s H E) (defBody st) t) ∧
      ∀ o ds Q W, so o ds Q W → t { nx := frzE 0 g fl fun E => ∃ o', E[0]? = some (.ow true o') ∧ Q .non o', rt := fun d E => ∃ o', E[0]? = some (.ow true o') ∧ Q d o', ex := fun x E => ∃ o', E[0]? = some (.ow true o') ∧ W x o' } (startD N (.ow true o :: ds.map .fz))) : CalI P w K mg base x C (k + 1) ps so := by
  obtain ⟨t, h1, h2⟩ := hbody
  exact cal_init d S len ⟨_, fun f cdv A outer s H E hgd hr => pb_frz 0 g fl h0g (h1 f cdv A outer s H E hgd hr), h2⟩
end
end L3
/-! L6b: xs.remove(y), xs a list of data of our own. -/
namespace L3
open PySem PySem.Spec PyProof.Rows L2
variable [Tbs]
def rRemD (K : PySem.W.Frag) : V → List V → Hp → VK → Prop := fun x xs H Q => ∃ (a : Addr) (ws : List V) (y : V) (d : PyData) (ds : List PyData) (j : Nat) (z : PyData), x = V.ref a ∧ xs = [y] ∧ H a = some (.lst ws) ∧ DpAll K H ws ds ∧ Dp K H y d ∧
  SeqAt.shaped (.list ds) = true ∧ SeqAt.shaped d = true ∧ ds[j]? = some z ∧ PyData.eqv z d = true ∧ (∀ (m : Nat) (z' : PyData), m < j → ds[m]? = some z' → PyData.eqv z' d = false) ∧ Q .non (upd H a (.lst (ws.eraseIdx j)))
theorem mt_removeD {X : Cx} (hu : X.A.units + 65 < cLine) : MtR X "list.remove" (rRemD X.K) := by
  intro pins s σ H x xs v us Q I rx rxs h
  obtain ⟨a, ws, y, d, ds, j, z, rfl, rfl, hH, hl, hy, sl, sd, hz, hzj, hno, q⟩ := h
  cases rx
  cases rxs with
  | cons ry rt =>
    rename_i uy ut
    cases rt
    obtain ⟨bs, r1⟩ := Dp.reads I d y uy hy ry
    have hxs : PyData.canLayAll0 ds = true := SeqAt.canLay_of_shaped sl
    have hroom : X.A.units + 1 + min (PyData.depthAll ds) d.depth < cLine := room_in_shaped sd hu
    obtain ⟨zz, its, n, rv, hlen, e⟩ := I.lstM hH
    obtain ⟨as, h4⟩ := Dp.readsAll I ds _ its hl rv
    have hn : its.length = ds.length := SeqAt.ReadsAll.length ds its as h4
    have hmap : its.map (SeqAt.readOf s.heap) = ds := SeqAt.readsAll_map ds its as hxs h4
    obtain ⟨hjd, _⟩ := List.getElem?_eq_some_iff.mp hz
    have hjl : j < its.length := by omega
    have hj : j < its.toArray.size := by simpa using hjl
    have at_ : ∀ (m : Nat) (hm : m < its.toArray.size) (z' : PyData), ds[m]? = some z' → SeqAt.readOf s.heap its.toArray[m] = z' := by
      intro m hm z' hz'
      have hml : m < its.length := by simpa using hm
      rw [← hmap, List.getElem?_map, List.getElem?_eq_getElem hml] at hz'
      have e1 : SeqAt.readOf s.heap its[m] = z' := Option.some.inj (show some (SeqAt.readOf s.heap its[m]) = some z' from hz')
      simpa using e1
    refine call_meets PySem.F.slot_list_remove ⟨_, e, rfl⟩ PySem.F.entry_list_remove (PySem.F.args_list_remove_2 _ _)
      (SeqAt.list_removeAt a its.toArray n none _ uy (fun u => PyData.eqv (SeqAt.readOf s.heap u) d) j hj ?_ ?_ (by rw [List.size_toArray]; omega)) ⟨e, SeqAt.items_eqAt (vs := its.toArray) (show ReadsAll s.heap its.toArray.toList ds as from h4) r1 hxs (SeqAt.canLay_of_shaped sd) hroom, ?_⟩
    · show PyData.eqv (SeqAt.readOf s.heap its.toArray[j]) d = true
      rw [at_ j hj z hz]
      exact hzj
    · intro m hm hmj
      have hmd : m < ds.length := by omega
      have hz' : ds[m]? = some ds[m] := List.getElem?_eq_getElem hmd
      show PyData.eqv (SeqAt.readOf s.heap its.toArray[m]) d = false
      rw [at_ m hm _ hz']
      exact hno m _ hmj hz'
    · refine ⟨.non, _, I.lset (its' := its.eraseIdx j) hH e ?_ (rv.eraseIdx j) ?_, rfl, q⟩
      · show its.toArray.eraseIdxIfInBounds j = (its.eraseIdx j).toArray
        rw [List.eraseIdxIfInBounds_toArray]
      · have := len_erase ws j
        omega
theorem RepL.eraseIdx {K : PySem.W.Frag} {H : Hp} : ∀ {vs : List V} {xs : List D} (j : Nat), RepL K H vs xs → RepL K H (vs.eraseIdx j) (xs.eraseIdx j)
  | _, _, _, .nil => .nil
  | _, _, 0, .cons _ t => t
  | _, _, j + 1, .cons a t => .cons a (RepL.eraseIdx j t)
section
variable {X : Cx} {e : Expr} {te : TEd} {pos : Pos}
/-- x.remove(e), x our own list, e in it -/
def tRemD (i : Nat) (te : TEd) : TSd := fun G E => ownL E i ∧ te E fun x E1 => match E1[i]? with
  | some (.ow b (.ol xs)) => ((D.lst xs).ok ∧ x.ok) ∧ ∃ (j : Nat) (z : D), xs[j]? = some z ∧ D.eqv z x = true ∧ (∀ (m : Nat) (z' : D), m < j → xs[m]? = some z' → D.eqv z' x = false) ∧ G.nx (E1.set i (.ow b (.ol (xs.eraseIdx j))))
  | _ => False
theorem s_rem (i : Nat) {x : Str} {p apos cpos : Pos} (hu : X.A.units + 65 < cLine) (he : PEd X e te) (hN : X.N[i]? = some x := by rfl) (hv : Vis X.env.scope x := by first | exact Or.inl rfl | exact Or.inr (Or.inl rfl) | exact Or.inr (Or.inr rfl))
    (hd : (x == ("__debug__" : Str)) = false := by decide) (hcd : (x == ("__classdict__" : Str)) = false := by decide)
    (hbase : attributeBase (.Name x p) "remove" X.env (eval (.Name x p) X.env) = eval (.Name x p) X.env := by rfl)
    (hfew : ((backTo cpos (starEach [e] X.env)).all (fun x => !x.1) && (backToKw cpos (keywordEach [] X.env)).all (fun x => x.1.isSome)
      && decide ([e].length + ([] : List Keyword).length + (if ([] : List Keyword).isEmpty then 0 else 1) < 30)) = true := by rfl)
    (hline : (apos.endLine == cpos.line) = true := by rfl) (hs : starEach [e] X.env = [(false, eval e X.env)] := by rfl)
    (hsw : swapsWith (.Call (.Attribute (.Name x p) "remove" apos) [e] [] cpos) none pos.line X.env = pure false := by rfl) :
    PSd X (.Expr (.Call (.Attribute (.Name x p) "remove" apos) [e] [] cpos) pos) (tRemD i te) :=
  ps_imp (ps_expr (pe_bm PySem.F.plainAttrs_list PySem.F.slot_list_remove PySem.F.type_list_remove (mt_removeD hu) (pv i hN hv hd hcd) (pa_cons he pa_nil (by rw [hs]; rfl)) hbase hfew hline (by rw [hs]; rfl)) hsw) fun G σ H ⟨en, Hf, F, E, Dd, S, h, k1, k2, k3, k4, k5⟩ => by
    obtain ⟨b0, xs0, e0⟩ := h.1.ex
    obtain ⟨p0, vs0, hv0, hp0, _⟩ := S.chL e0
    refine ⟨_, hv0, .inl ⟨rfl, _, .inl (.inl hp0)⟩, en, Hf, F, E, _, S, h.2, fun v1 H1 Hf1 F1 E1 y s1 S1 r1 h1 => ?_⟩
    split at h1
    · rename_i b1 xs1 e1
      obtain ⟨⟨ok1, ok2⟩, j, z, hj, hz, hno, q⟩ := h1
      obtain ⟨p1, vs1, hv1, hp1, l1, ch⟩ := S1.chL e1
      rw [hv0] at hv1
      cases hv1
      refine ⟨_, vs1, _, _, D.pyL xs1, j, z.py, rfl, rfl, hp1, (l1.mono S1.sf).dp ok1.1, (r1.mono S1.sf).dp ok2.1, ok1.2, ok2.2, by rw [pyL_get, hj]; rfl, hz, fun m z' hm hz' => ?_, k1 _ _ _ _ _ s1 (ch _ _ (l1.eraseIdx j)) q⟩
      rw [pyL_get] at hz'
      cases e : xs1[m]? with
      | none =>
        rw [e] at hz'
        cases hz'
      | some y =>
        rw [e] at hz'
        rw [← Option.some.inj hz']
        exact hno m y hm e
    · exact h1.elim
end
end L3
/-! L6c: // by any number but 0. -/
namespace L3
open PySem PySem.Spec PyProof.Rows L2
variable [Tbs]
section
variable {X : Cx} {a b : Expr} {ta tb : TEd} {pos : Pos}
def CDivF (_ j : Int) : Prop := j ≠ 0 ∧ j.natAbs.log2 < 9000
theorem op_fdivF : OpR X (binaryOp .FloorDiv) (rI CDivF fun i j => .int (i.fdiv j)) := opI fun _ _ _ _ _ _ _ hc q => floordiv_int hc.1 q (.inl (PyProof.noPylong_of_log2 hc.2))
theorem d_fdivF (ha : PEd X a ta) (hb : PEd X b tb) : PEd X (.BinOp a .FloorDiv b pos) (tOpD (rdI CDivF fun i j => .int (i.fdiv j)) ta tb) := d_op op_fdivF (ok_I fun _ _ _ => .int _) ha hb
end
end L3
/-! L6d: o.m(). -/
namespace L3
open PySem PySem.Spec PyProof.Rows L2
variable [Tbs]
section
variable {X : Cx} {CX : CXT} {C f : Addr} {k : Nat} {fd : FuncData} {ps : List Str} {sp : Sp} {E : L2.St → XK} {o : Expr} {m : Str} {pos apos : Pos} {ta : TE}
theorem pe_methGS0 {pl : Sem Bool} (he : PE X o ta) (c : Cls X.K C) (hm : Meth X.K C m f) (F : FnG X.prog X.w X.K X.mg X.base CX k f fd ps sp) (hgd : X.A.guards = some []) (hr : Room k X.A) (hb : Binds X.K fd ps []) (hx : ∀ σ, PassesAt CX X σ (E σ))
    (ht : eval (.Call (.Attribute o m apos) [] [] pos) X.env = (do
      let ov ← eval o X.env
      standAt apos.atName
      let (f, first) ← holding [ov] (getMethod ov m pl)
      callWith pos f first (backTo pos (starEach [] X.env)) (backToKw pos (keywordEach [] X.env))) := by rfl) :
    PE X (.Call (.Attribute o m apos) [] [] pos) (fun σ H Q => ta σ H fun x H1 => ∃ a dx fs, x = .ref a ∧ H1 a = some (.ins C dx fs) ∧ fs.lookup m = none ∧ sp [x] H1 Q (E σ)) := by
  refine ⟨fun pins s σ H Q I h => ?_⟩
  refine PySem.W.methodCall_KW (pl := pl) (thn (he.run pins s σ H _ I h) fun u s1 ⟨x, H1, I1, rx, a, dx, fs, ex, ea, l, q⟩ => ?_) ht
  subst ex
  obtain rfl : u = Value.ref a := rx
  refine getmeth_ok I1 ea c hm l ?_
  exact PySem.W.callWith_K0 (first := [.ref a]) I1.kIn hm.kp (run_GS (us := [.ref a]) (vs := [.ref a]) F hgd hr hb (hx σ) I1 (.cons rfl .nil) q)
end
section
variable {X : Cx} {C f : Addr} {k : Nat} {fd : FuncData} {ps : List Str} {sp : SpX} {o : Expr} {m : Str} {pos apos : Pos} {to : TEd}
def tMethX0 (C : Addr) (m : Str) (sp : SpX) (to : TEd) : TXd := fun W E Q => to E fun x E1 => match x with
  | .ins C' fs => C' = C ∧ fs.lookup m = none ∧ sp [.ins C' fs] (fun d => Q d E1) (fun x => W x E1)
  | _ => False
theorem x_meth0 {pl : Sem Bool} (c : Cls X.K C) (hm : Meth X.K C m f) (F : FnG X.prog X.w X.K X.mg X.base (L2.CX X.prog X.w) k f fd ps (liftPX X.K X.mg sp)) (hgd : X.A.guards = some []) (hr : Room k X.A) (hb : Binds X.K fd ps []) (he : PEd X o to)
    (ht : eval (.Call (.Attribute o m apos) [] [] pos) X.env = (do
      let ov ← eval o X.env
      standAt apos.atName
      let (f, first) ← holding [ov] (getMethod ov m pl)
      callWith pos f first (backTo pos (starEach [] X.env)) (backToKw pos (keywordEach [] X.env))) := by rfl) :
    PXd X (.Call (.Attribute o m apos) [] [] pos) (tMethX0 C m sp to) :=
  pe_imp (pe_methGS0 (pl := pl) he c hm F hgd hr hb wx_pass ht) fun σ H Q ⟨en, Hf, F, E, Qd, Wd, S, h, k, kx⟩ => ⟨en, Hf, F, E, _, S, h, fun v H1 Hf1 F1 E1 d s1 S1 r1 h1 => by
    split at h1
    · rename_i C' fs
      obtain ⟨rfl, l, h1⟩ := h1
      have r1' := r1
      cases r1 with | ins h2 h3 rf =>
      refine ⟨_, _, _, rfl, S1.sf _ _ h2, rf.no l, ?_⟩
      exact ⟨Hf1, _, _, _, S1.sf, .cons r1' .nil, h1, fun v H' Hf' d s3 s4 s5 g r q => k _ _ _ _ _ _ (s1.trans s3) (S1.grow s3 s4 s5 g) r q, fun cls x d H' Hf' s3 s4 s5 g r q => kx _ _ _ _ _ _ _ (s1.trans s3) (S1.grow s3 s4 s5 g) r q⟩
    · exact h1.elim⟩
end
end L3
/-! L6e: sorted(set(xs)), xs a list of tuples of ints of any sign, in whatever order. -/
namespace L3
open PySem PySem.Spec PyProof.Rows L2
theorem perm_back {α β : Type} {f : α → β} : ∀ {vs ws : List β}, vs.Perm ws → ∀ L : List α, ws = L.map f → ∃ L1 : List α, L1.Perm L ∧ vs = L1.map f := by
  intro vs ws h
  induction h with
  | nil =>
    intro L e
    cases L with
    | nil => exact ⟨[], .nil, rfl⟩
    | cons a L => cases e
  | cons x _ ih =>
    intro L e
    cases L with
    | nil => cases e
    | cons a L =>
      rw [List.map_cons] at e
      injection e with e1 e2
      obtain ⟨L1, p, q⟩ := ih L e2
      exact ⟨a :: L1, .cons a p, by rw [List.map_cons, q, e1]⟩
  | swap x y l =>
    intro L e
    match L, e with
    | a :: b :: L, e =>
      rw [List.map_cons, List.map_cons] at e
      injection e with e1 e2
      injection e2 with e2 e3
      exact ⟨b :: a :: L, .swap _ _ _, by rw [List.map_cons, List.map_cons, e1, e2, e3]⟩
  | trans _ _ ih1 ih2 =>
    intro L e
    obtain ⟨L2, p2, q2⟩ := ih2 L e
    obtain ⟨L1, p1, q1⟩ := ih1 L2 q2
    exact ⟨L1, p1.trans p2, q1⟩
theorem reads_ints {h : Heap} : ∀ {us : List Value} {ks : List Int}, IntsAre us ks → ReadsAll h us (ks.map PyData.int) []
  | _, _, .nil => .nil
  | _, _, .cons n t r => .cons (as := []) (bs := []) (.int n t) (reads_ints r)
theorem each_refs {L : List (Addr × List Int)} : PySem.W.EachIs (fun v (p : Addr × List Int) => v = Value.ref p.1) (L.map fun p => Value.ref p.1) L := by
  induction L with
  | nil => exact .nil
  | cons p L ih => exact .cons rfl ih
theorem refs_each : ∀ {vs : List Value} {L : List (Addr × List Int)}, PySem.W.EachIs (fun v (p : Addr × List Int) => v = Value.ref p.1) vs L → vs = L.map fun p => Value.ref p.1
  | _, _, .nil => rfl
  | _, _, .cons e r => by rw [List.map_cons, e, refs_each r]
theorem each_reads {h : Heap} : ∀ {L : List (Addr × List Int)} {a : Addr}, (∀ p ∈ L, TS.TupInts h (.ref p.1) p.2) → PySem.W.EachIs (fun v (p : Addr × List Int) => ∃ as, Reads h v (.tuple (p.2.map PyData.int)) as ∧ a ∉ as) (L.map fun p => Value.ref p.1) L
  | [], _, _ => .nil
  | p :: L, a, hL => by
    refine .cons ?_ (each_reads fun q hq => hL q (List.mem_cons_of_mem _ hq))
    obtain ⟨b, xs, e, ⟨o, ho, hc, n, hd⟩, i⟩ := hL p (List.mem_cons_self ..)
    cases e
    exact ⟨[], .tuple ho hc hd (reads_ints i), fun z => nomatch z⟩
section
variable {P : Program} {w : World} {A : Around} {E : Value → Shared → Prop} {s : Shared}
theorem sorted_setZ {a : Addr} {L : List (Addr × List Int)} {es : Array (Int × Value)} {ep : Nat} {t : SetTable} {Q : Value → Shared → Prop} (R : SetTR P w s.heap a L es ep t) (hh : A.handled = none) (hu : A.units + 64 < cLine) (hne : ∀ p ∈ L, p.2 ≠ [])
    (hQ : ∀ s' p (out : Array Value) (c : Nat) (L' : List (Addr × List Int)), (∀ b o, s.heap.get? b = some o → s'.heap.get? b = some o) → s'.gens = s.gens → s'.os = s.os → s.heap.objs.size ≤ p →
      s'.heap.get? p = some (PyProof.Rows.seqObj "list" out c) → out.toList = L'.map (fun q => Value.ref q.1) → L'.Perm L → Q (.ref p) s') :
    wpAny (model P w) A (call (.builtin "sorted") [.ref a]) Q E s := by
  obtain ⟨o, ho, hex, hd⟩ := R.ob
  have hsz := R.size
  have hfew := R.few
  have hes : es.toList.map (·.2) = L.map fun q => Value.ref q.1 := by
    rw [R.rows]
    unfold rowsOf
    rw [List.map_map]
    rfl
  refine Calls.call_function_entry kind_sorted plain_sorted entry_sorted (args_sorted1 _) ?_
  unfold Builtin.«sorted»
  refine wpAny_bind (m := checkCount "sorted" 1 1 _) (wpAny_pure (wpAny_bind (collect_set (A := A.in1) hh ⟨o, ho, hex.1, hd⟩ R.fits (by unfold scanBound; omega) R.tab.ris R.led fun s1 vs k1 hz g1 o1 pm => ?_)))
  rw [hes] at pm
  obtain ⟨L1, p1, rfl⟩ := perm_back pm L rfl
  have l1 : L1.length < 64 := by rw [p1.length_eq]; exact hfew
  refine wpAny_bind (wpAny_newList ?_ (by rw [sizeLine_eq, List.length_map]; omega))
  have hoL := Heap.get?_push_size s1.heap (o := seqObj "list" (L1.map fun q => Value.ref q.1).toArray 0) rfl
  have tk : ∀ q ∈ L1, TS.TupInts (s1.heap.push (seqObj "list" (L1.map fun q => Value.ref q.1).toArray 0)) (.ref q.1) q.2 := fun q hq => tupInts_of (P := P) (w := w) (isT_keep (R.tup q (p1.mem_iff.mp hq)) fun b u e => Heap.get?_push_of_some _ (k1 b u e))
  refine wpAny_bind (wpAny_holding (PySem.W.list_sort_data (s := { s1 with heap := s1.heap.push (seqObj "list" (L1.map fun q => Value.ref q.1).toArray 0) }) (enc := fun p : Addr × List Int => .tuple (p.2.map PyData.int)) hoL each_refs (each_reads tk) (PySem.W.AllAlike.of fun b b' => ?_) (.inl fun d hd => ?_) (by rw [sizeLine_eq]; omega) (fun b hb => ?_) fun out hl ho2 => ?_))
  · rw [PySem.W.alike]
    exact PySem.W.alike_ints _ _
  · obtain ⟨q, hq, rfl⟩ := List.mem_map.mp hd
    have n := hne q (p1.mem_iff.mp hq)
    cases e : q.2 with
    | nil => exact absurd e n
    | cons x r => exact ⟨.int x, r.map PyData.int, rfl⟩
  · have e : (PyData.tuple (b.2.map PyData.int)).depth = 1 := by
      rw [PyData.depth, PySem.W.depth_ints]
    have e2 : A.in1.units ≤ A.units + 1 := Nat.le_refl _
    rw [e]
    omega
  · obtain ⟨c, hc⟩ := sortedHeap_at (vs := L1.map fun q => Value.ref q.1) (out := out.toArray) hoL
    have eo := refs_each ho2
    refine wpAny_pure ⟨_, rfl, hQ _ s1.heap.objs.size out.toArray c (L1.mergeSort _) (fun b u e => ?_) g1 o1 hz hc (by rw [← eo]) ((List.mergeSort_perm _ _).trans p1)⟩
    have q := k1 b u e
    have hlt := Heap.lt_size q
    show (sortedHeap (s1.heap.push (seqObj "list" (L1.map fun q => Value.ref q.1).toArray 0)) s1.heap.objs.size (L1.map fun q => Value.ref q.1) out.toArray).get? b = some u
    rw [sortedHeap_old (Nat.ne_of_lt hlt) (by rw [size_push']; exact Nat.lt_succ_of_lt hlt)]
    exact Heap.get?_push_of_some _ q
end
section
variable {X : Cx}
/-- sorted(set), tuples of ints, none empty: a new list of them in some order -/
def rSortedZ (K : PySem.W.Frag) (P : Program) (w : World) : List V → Hp → VK → Prop := fun vs H Q => ∃ (a : Addr) (L : List (Addr × List Int)), vs = [V.ref a] ∧ H a = some (SetTO P w a L) ∧ (∀ p ∈ L, SqT K H p.1 (p.2.map V.int)) ∧ (∀ p ∈ L, p.2 ≠ []) ∧
  ∀ (L' : List (Addr × List Int)) (p : Addr), L'.Perm L → (L'.map (·.2)).Nodup → L'.length < 64 → H p = none → Q (.ref p) (upd H p (.lst (L'.map fun q => V.ref q.1)))
theorem cr_sortedZ (hc : X.calm = true) (hu : X.A.units + 64 < cLine) : CallR X (.builtin "sorted") (rSortedZ X.K X.prog X.w) := by
  intro pins s σ H vs us Q I r h
  obtain ⟨a, L, rfl, ha, hk, hne, q⟩ := h
  have R0 : SetT0 X.prog X.w s.heap a L := (I.hok a _ ha).1
  obtain ⟨es, ep, t, R⟩ := R0.full fun p hp => I.isT (hk p hp)
  rw [Vals.ref1 r]
  refine sorted_setZ R (I.ok.hd hc) hu hne fun s' p out c L' k g o hp hg hout pm => ?_
  have hfew : L'.length < 64 := by rw [pm.length_eq]; exact R.few
  have hn : H p = none := I.hok.fresh hp
  have hv : Vals (L'.map fun q => V.ref q.1) out.toList := by rw [hout]; exact vals_of_refs L'
  have J : Inv X pins σ (upd H p (.lst (L'.map fun q => V.ref q.1))) { s with heap := s'.heap, gens := s'.gens, drawn := s'.drawn, toks := s'.toks } :=
    I.call (ch := []) (Un.laid k hp hn) (I.hok.laid k hp ⟨by rw [List.length_map, sizeLine_eq]; omega, out.toList, c, hv, hg⟩) (by rw [g]; exact I.bare) (fun _ z => nomatch z)
  obtain ⟨hp', gs', dr', tk', os'⟩ := s'
  obtain rfl : os' = s.os := o
  exact ⟨.ref p, _, J, rfl, q L' p pm ((pm.map (·.2)).nodup_iff.mpr R.nd) hfew hn⟩
end
variable [Tbs]
def tSortSetZ (te : TEd) : TEd := fun E Q => te E fun x E1 => match x with
  | .lst xs => ∃ ks : List (List Int), xs = ks.map tI ∧ ks.length < 64 ∧ (∀ k ∈ ks, k ≠ []) ∧ ∀ ks' : List (List Int), (∀ k, k ∈ ks' ↔ k ∈ ks) → ks'.Nodup → ks'.length < 64 → Q (.lst (ks'.map tI)) E1
  | _ => False
section
variable {X : Cx} {e : Expr} {te : TEd} {p p' pos pos' : Pos}
theorem d_sortSetZ (hc : X.calm = true) (hu : X.A.units + 64 < cLine) (hm : X.mg "sorted" = none) (hm2 : X.mg "set" = none) (he : PEd X e te) (hg : Gl X "sorted" := by rfl) (hg2 : Gl X "set" := by rfl)
    (na : starEach [.Call (.Name "set" p') [e] [] pos'] X.env = (false, eval (.Call (.Name "set" p') [e] [] pos') X.env) :: starEach [] X.env := by rfl) (nb : starEach [e] X.env = (false, eval e X.env) :: starEach [] X.env := by rfl) :
    PEd X (.Call (.Name "sorted" p) [.Call (.Name "set" p') [e] [] pos'] [] pos) (tSortSetZ te) :=
  pe_imp (pe_callB (cr_sortedZ hc hu) hg hm PyProof.Rows.boot_sorted (pa_cons (pe_callTy (cr_setOfT hc hu) hg2 hm2 PyProof.Rows.boot_set (pa_cons he pa_nil nb) (by decide) (by decide) nb) pa_nil na) (by decide) (by decide) na) fun σ H Q ⟨en, Hf, F, E, Qd, S, h, k⟩ =>
    ⟨en, Hf, F, E, _, S, h, fun v1 H1 Hf1 F1 E1 x s1 S1 r1 h1 => by
      split at h1
      · cases r1 with | lst hl l =>
        obtain ⟨ks, rfl, hlen, hne, q⟩ := h1
        obtain ⟨L, rfl, rfl, hL⟩ := l.tups
        refine ⟨_, L, rfl, .inl (.inl (S1.sf _ _ hl)), fun p hp => Same.sqT S1.sf (hL p hp), by simpa using hlen, fun a L2 na hsub hall => ?_⟩
        have s2 : Same H1 (upd H1 a (SetTO X.prog X.w a L2)) := same_upd na
        refine ⟨a, L2, rfl, upd_same, fun p hp => Same.sqT (S1.sf.trans s2) (hL p (hsub p hp)), fun p hp => hne p.2 (List.mem_map_of_mem (hsub p hp)), fun L3 b pm nd few nb => ?_⟩
        have S2 := S1.new (SetTO X.prog X.w a L2) na
        have kk : Fin X.K en σ (upd Hf1 a (SetTO X.prog X.w a L2)) Qd Q := fun v H' Hf' F' E' d s4 S4 r4 h4 => k v H' Hf' F' E' d ((s1.trans (same_upd (o := SetTO X.prog X.w a L2) (S1.sf.free na))).trans s4) S4 r4 h4
        refine kk.new S2 nb (fun Hf' s3 e => .lst e (RepL.ofTups fun p hp => Same.sqT ((same_upd (S1.sf.free na)).trans s3) (hL p (hsub p (pm.mem_iff.mp hp))))) (q _ (fun k => ?_) nd (by simpa using few))
        constructor
        · intro hk
          obtain ⟨p, hp, rfl⟩ := List.mem_map.mp hk
          exact List.mem_map_of_mem (hsub p (pm.mem_iff.mp hp))
        · intro hk
          obtain ⟨p, hp, rfl⟩ := List.mem_map.mp hk
          obtain ⟨p2, hp2, e2⟩ := List.mem_map.mp (hall p hp)
          exact List.mem_map.mpr ⟨p2, pm.mem_iff.mpr hp2, e2⟩
      · exact h1.elim⟩
end
end L3
/-! L6f: texts: str(int), join, find, f-strings, a text walked; an instance of our own: x = C(..), x.f op= e, x.m(). -/
namespace L3
open PySem PySem.Spec PyProof.Rows L2
variable [Tbs]
section
variable {X : Cx} {a b e o : Expr} {ta tb te to : TEd} {t : TAd} {es : List Expr} {p pos cpos apos : Pos}
/-- str(int), str(text) -/
def rbStr : RB := fun ds E Q => match ds with
  | [.int i] => i.natAbs.log2 < 1920 ∧ Q (.str (toString i)) E
  | _ => False
theorem ok_str {K : PySem.W.Frag} : CallOk K (fun xs H Q => ∃ i, xs = [.int i] ∧ i.natAbs.log2 < 1920 ∧ Q (.str (toString i)) H) rbStr :=
  fun en Hf H F E σ vs ds Q Qd S rx q k => by
    unfold rbStr at q
    split at q
    · obtain ⟨v, rfl, r⟩ := rx.one
      cases r
      exact ⟨_, rfl, q.1, k _ _ _ _ _ _ (Same.refl _) S (.str _) q.2⟩
    · exact q.elim
theorem d_strc (hm : X.mg "str" = none) (ha : PAd X [a] t) (hg : Gl X "str" := by rfl) (he : starEach [a] X.env = (false, eval a X.env) :: starEach [] X.env := by rfl) : PEd X (.Call (.Name "str" p) [a] [] pos) (tCBd rbStr t) :=
  d_callT call_str_int ok_str hm PyProof.Rows.boot_str ha hg (by decide) (by decide) he
/-- o.join(e) -/
def tJoinD (to te : TEd) : TEd := fun E Q => to E fun x E1 => match x with
  | .str a => te E1 fun y E2 => ∃ ys : List Str, (y = .lst (ys.map D.str) ∨ y = .tup (ys.map D.str)) ∧ (ys.map (·.length)).sum + ys.length * a.length ≤ 16777216 ∧ Q (.str (Str.join a ys)) E2
  | _ => False
theorem RepL.strs_inv {K : PySem.W.Frag} {H : Hp} : ∀ {ns : List Str} {vs : List V}, RepL K H vs (ns.map D.str) → vs = ns.map V.str
  | [], _, .nil => rfl
  | _ :: _, _, .cons a t => by
    cases a
    rw [List.map_cons, RepL.strs_inv t]
theorem d_join (ho : PEd X o to) (he : PEd X e te) (hs : starEach [e] X.env = [(false, eval e X.env)] := by rfl) (hbase : attributeBase o "join" X.env (eval o X.env) = eval o X.env := by rfl) (hline : (apos.endLine == pos.line) = true := by rfl) :
    PEd X (.Call (.Attribute o "join" apos) [e] [] pos) (tJoinD to te) :=
  pe_imp (pe_join ho he hs hbase hline) fun σ H Q ⟨en, Hf, F, E, Qd, S, h, k⟩ => ⟨en, Hf, F, E, _, S, h, fun v H1 Hf1 F1 E1 x s1 S1 r1 h1 => by
    split at h1
    · cases r1
      rename_i s
      exact ⟨⟨_, rfl⟩, en, Hf1, F1, E1, _, S1, h1, fun w H2 Hf2 F2 E2 y s2 S2 r2 h2 => by
        obtain ⟨ys, hy, hz, q⟩ := h2
        rcases hy with rfl | rfl
        · cases r2 with | lst h0 l0 =>
          rw [l0.strs_inv] at h0
          exact ⟨s, _, ys, rfl, rfl, .inl (.inl (.inl (S2.sf _ _ h0))), hz, by rw [TL.join_eq]; exact k _ _ _ _ _ _ (s1.trans s2) S2 (.str _) q⟩
        · cases r2 with | tup h0 l0 =>
          rw [l0.strs_inv] at h0
          exact ⟨s, _, ys, rfl, rfl, .inr (Same.sqT S2.sf h0), hz, by rw [TL.join_eq]; exact k _ _ _ _ _ _ (s1.trans s2) S2 (.str _) q⟩⟩
    · exact h1.elim⟩
/-- o.find(e) -/
def tFindD (to te : TEd) : TEd := fun E Q => to E fun x E1 => match x with
  | .str a => te E1 fun y E2 => match y with
    | .str b => Q (.int (Txt.find a b)) E2
    | _ => False
  | _ => False
theorem d_find (ho : PEd X o to) (he : PEd X e te) (hs : starEach [e] X.env = [(false, eval e X.env)] := by rfl) (hbase : attributeBase o "find" X.env (eval o X.env) = eval o X.env := by rfl) (hline : (apos.endLine == pos.line) = true := by rfl) :
    PEd X (.Call (.Attribute o "find" apos) [e] [] pos) (tFindD to te) :=
  pe_imp (pe_m1 F.slot_str_find F.type_str_find mt_find ho he hs hbase hline) fun σ H Q ⟨en, Hf, F, E, Qd, S, h, k⟩ => ⟨en, Hf, F, E, _, S, h, fun v H1 Hf1 F1 E1 x s1 S1 r1 h1 => by
    split at h1
    · cases r1
      exact ⟨⟨_, rfl⟩, en, Hf1, F1, E1, _, S1, h1, fun w H2 Hf2 F2 E2 y s2 S2 r2 h2 => by
        split at h2
        · cases r2
          exact ⟨_, _, rfl, rfl, k _ _ _ _ _ _ (s1.trans s2) S2 (.int _) h2⟩
        · exact h2.elim⟩
    · exact h1.elim⟩
/-- {e} -/
def tFmtD (te : TEd) : TEd := fun E Q => te E fun x E1 => match x with
  | .str y => y.length ≤ sizeLine ∧ Q (.str y) E1
  | .int i => i.natAbs.log2 < 1920 ∧ Q (.str (toString i)) E1
  | _ => False
theorem d_fmt (he : PEd X e te) : PEd X (.FormattedValue e (-1) none pos) (tFmtD te) :=
  pe_imp (pe_fmt he) fun σ H Q ⟨en, Hf, F, E, Qd, S, h, k⟩ => ⟨en, Hf, F, E, _, S, h, fun v H1 Hf1 F1 E1 x s1 S1 r1 h1 => by
    split at h1
    · cases r1
      exact .inl ⟨_, rfl, h1.1, k _ _ _ _ _ _ s1 S1 (.str _) h1.2⟩
    · cases r1
      exact .inr ⟨_, rfl, h1.1, k _ _ _ _ _ _ s1 S1 (.str _) h1.2⟩
    · exact h1.elim⟩
def tJsD : List TEd → Str → En → (Str → En → Prop) → Prop
  | [], acc, E, Q => Q acc E
  | t :: ts, acc, E, Q => t E fun x E1 => match x with
    | .str y => (acc ++ y).length ≤ sizeLine ∧ tJsD ts (acc ++ y) E1 Q
    | _ => False
inductive PJd (X : Cx) : List Expr → List TEd → Prop where
  | nil : PJd X [] []
  | cons {e : Expr} {t : TEd} {es : List Expr} {ts : List TEd} (h : PEd X e t) (r : PJd X es ts) : PJd X (e :: es) (t :: ts)
theorem PJd.pj {es : List Expr} {ts : List TEd} (h : PJd X es ts) : PJ X es (ts.map (liftE X.K)) := by
  induction h with
  | nil => exact .nil
  | cons h r ih => exact .cons h ih
theorem tJs_of {K : PySem.W.Frag} : ∀ (ts : List TEd) (acc : Str) (σ : L2.St) (H : Hp) (Q : Str → Hp → Prop), (∃ en Hf F E Qd, Sat K en Hf H F E σ ∧ tJsD ts acc E Qd ∧ ∀ y H' Hf' F' E', Same Hf Hf' → Sat K en Hf' H' F' E' σ → Qd y E' → Q y H') → tJs (ts.map (liftE K)) acc σ H Q
  | [], acc, σ, H, Q, ⟨en, Hf, F, E, Qd, S, h, k⟩ => k _ _ _ _ _ (Same.refl _) S h
  | t :: ts, acc, σ, H, Q, ⟨en, Hf, F, E, Qd, S, h, k⟩ => ⟨en, Hf, F, E, _, S, h, fun v H1 Hf1 F1 E1 x s1 S1 r1 h1 => by
    split at h1
    · cases r1
      exact ⟨_, rfl, h1.1, tJs_of ts _ σ H1 Q ⟨en, Hf1, F1, E1, Qd, S1, h1.2, fun y H' Hf' F' E' s2 => k _ _ _ _ _ (s1.trans s2)⟩⟩
    · exact h1.elim⟩
/-- f'..' -/
def tFstD (ts : List TEd) : TEd := fun E Q => tJsD ts Str.empty E fun y E1 => Q (.str y) E1
theorem d_fst {v1 v2 : Expr} {rest : List Expr} {ts : List TEd} (h : PJd X (v1 :: v2 :: rest) ts) : PEd X (.JoinedStr (v1 :: v2 :: rest) pos) (tFstD ts) :=
  pe_imp (pe_joined h.pj) fun σ H Q ⟨en, Hf, F, E, Qd, S, h, k⟩ => tJs_of ts _ σ H _ ⟨en, Hf, F, E, _, S, h, fun y H' Hf' F' E' s1 S1 q => k _ _ _ _ _ _ s1 S1 (.str _) q⟩
end
/-! ### a text walked -/
section
variable {X : Cx} {tg iter : Expr} {te : TEd}
def chD (x : Str) : List D := x.cps.toList.map fun c => D.str ⟨#[c]⟩
def iTxtD (te : TEd) : TId := fun E Q => te E fun x E1 => match x with
  | .str z => Q (chD z) E1
  | _ => False
theorem i_txt (he : PEd X iter te) : PId X tg iter (iTxtD te) :=
  pi_imp (pi_str he) fun σ H R ⟨en, Hf, F, E, Qd, S, h, k⟩ => ⟨en, Hf, F, E, _, S, h, fun v1 H1 Hf1 F1 E1 x s1 S1 r1 h1 => by
    split at h1
    · rename_i z
      cases r1
      have len : (chD z).length = z.cps.size := by unfold chD; rw [List.length_map, Array.length_toList]
      refine ⟨_, rfl, k _ _ _ _ _ _ s1 S1 ⟨fun i H' s hi => ?_, fun H' s => ?_, fun i H2 v H3 s hi y => ?_⟩ h1⟩
      · rw [len] at hi
        exact hi
      · show z.cps.size ≤ (chD z).length
        rw [len]
        exact Nat.le_refl _
      · obtain ⟨e1, c, ec, rfl⟩ := y
        refine ⟨.str ⟨#[c]⟩, ?_, .inl ⟨e1, .str _⟩⟩
        unfold chD
        rw [List.getElem?_map, Array.getElem?_toList, ec]
        rfl
    · exact h1.elim⟩
end
/-! ### an instance of our own -/
section
variable {X : Cx} {C f : Addr} {k : Nat} {fd : FuncData} {ps : List Str} {so : SoX} {x : Str} {e : Expr} {es : List Expr} {tx : TAXd} {te : TEd} {pos cpos : Pos}
/-- x.f += e, x our own instance (slot j) -/
def tFldAug (K : PySem.W.Frag) (j : Nat) (f : Str) (g : Int → Int → Int) (te : TEd) : TSd := fun D E => match E[j]? with
  | some (.ow _ (.oi C fs)) => OFld K C f ∧ ∃ i : Int, fs.lookup f = some (.int i) ∧ te E fun y E1 => match y, E1[j]? with
    | .int i2, some (.ow b (.oi C1 fs1)) => C1 = C ∧ fs1.length < 1000 ∧ D.nx (E1.set j (.ow b (.oi C (putFD f (.int (g i i2)) fs1))))
    | _, _ => False
  | _ => False
theorem s_fldAug {op : Operator} {g : Int → Int → Int} {rd : V → V → Hp → VK → Prop} (K : PySem.W.Frag) (j : Nat) {f : Str} {p1 p2 : Pos} (hop : InOp X op rd) (hrd : ∀ i i2 H Q, Q (.int (g i i2)) H → rd (.int i) (.int i2) H Q) (he : PEd X e te) (hK : X.K = K := by rfl) (hN : X.N[j]? = some x := by rfl) (hv : Vis X.env.scope x := by first | exact Or.inl rfl | exact Or.inr (Or.inl rfl) | exact Or.inr (Or.inr rfl)) (hd : (x == ("__debug__" : Str)) = false := by decide) (hcd : (x == ("__classdict__" : Str)) = false := by decide) :
    PSd X (.AugAssign (.Attribute (.Name x p1) f p2) op e pos) (tFldAug K j f g te) := by
  subst hK
  exact ps_imp (ps_fldaug (pv j hN hv hd hcd) he hop) fun D σ H ⟨en, Hf, F, E, Dd, S, h, k1, k2, k3, k4, k5⟩ => by
    unfold tFldAug at h
    split at h
    · rename_i b0 C fs e0
      obtain ⟨⟨c, n⟩, i, l, h⟩ := h
      obtain ⟨v0, hv0, ⟨a, dx, vs, rfl, hF, ha, hdx, rf⟩, _⟩ := S.own e0
      obtain ⟨w, lw, rw_⟩ := RepF.look rf l
      cases rw_
      refine ⟨_, hv0, a, C, dx, vs, _, rfl, ha, c, n, lw, en, Hf, F, E, _, S, h, fun v1 H1 Hf1 F1 E1 y s1 S1 r1 h1 => ?_⟩
      split at h1
      · rename_i i2 b1 C1 fs1 e1
        obtain ⟨rfl, hl, q⟩ := h1
        cases r1
        obtain ⟨v2, hv2, ⟨a2, dx2, vs2, rfl, hF2, ha2, hdx2, rf2⟩, _⟩ := S1.own e1
        rw [hv0] at hv2
        cases hv2
        refine hrd _ _ _ _ ⟨dx2, vs2, ha2, by rw [rf2.length]; exact hl, ?_⟩
        have ma : a ∈ F1 j := by rw [hF2]; simp
        have na := (S1.fp j a ma).1
        have ne : dx2 ≠ a := fun z => by rw [z, ha2] at hdx2; cases hdx2
        refine k1 _ _ _ _ _ s1 (S1.change e1 hv0 (o' := .oi C1 (putFD f (.int (g i i2)) fs1)) (Same.refl _) (fun b u z => ?_) (fun b u nb z => ?_) (fun b u z => ?_) (fun _ _ z => .inl z) ⟨a, dx2, _, rfl, hF2, upd_same, by rw [upd_ne ne]; exact hdx2, rf2.put (.int _)⟩) q
        · have nb : b ≠ a := fun y => by rw [y, na] at z; cases z
          rw [upd_ne nb]
          exact S1.sf _ _ z
        · have nb' : b ≠ a := fun y => nb (by rw [y]; exact ma)
          rw [upd_ne nb']
          exact z
        · by_cases y : b = a
          · subst y
            exact ⟨_, upd_same⟩
          · rw [upd_ne y]
            exact ⟨u, z⟩
      · exact h1.elim
    · exact h.elim
theorem rd_add : ∀ i i2 H Q, Q (.int (i + i2)) H → rAdd (.int i) (.int i2) H Q := fun i i2 H Q q => ⟨i, i2, rfl, rfl, q⟩
/-- x.m(), x our own instance (slot j) -/
theorem x_methO0 {m : Str} {p apos : Pos} {fa : Addr} (j : Nat) {pl : Sem Bool} (c : Cls X.K C) (hm : Meth X.K C m fa) (F : FnG X.prog X.w X.K X.mg X.base (L2.CX X.prog X.w) k fa fd ps (liftOX X.K X.mg so)) (hgd : X.A.guards = some []) (hr : Room k X.A) (hb : Binds X.K fd ps [])
    (hN : X.N[j]? = some x := by rfl) (hv : Vis X.env.scope x := by first | exact Or.inl rfl | exact Or.inr (Or.inl rfl) | exact Or.inr (Or.inr rfl)) (hd : (x == ("__debug__" : Str)) = false := by decide) (hcd : (x == ("__classdict__" : Str)) = false := by decide)
    (ht : eval (.Call (.Attribute (.Name x p) m apos) [] [] pos) X.env = (do
      let ov ← eval (.Name x p) X.env
      standAt apos.atName
      let (f, first) ← holding [ov] (getMethod ov m pl)
      callWith pos f first (backTo pos (starEach [] X.env)) (backToKw pos (keywordEach [] X.env))) := by rfl) :
    PXd X (.Call (.Attribute (.Name x p) m apos) [] [] pos) (tMethO j C m so (tOfAX tNilD)) :=
  pe_imp (pe_methGS0 (pl := pl) (pv (X := X) (pos := p) j hN hv hd hcd) c hm F hgd hr hb wx_pass ht) fun σ H Q ⟨en, Hf, F, E, Qd, Wd, S, ⟨hi, h⟩, k, kx⟩ => by
    split at hi
    · rename_i b0 C' fs e0
      obtain ⟨rfl, lm⟩ := hi
      obtain ⟨v0, hv0, ⟨a, dx, vs, rfl, hF, ha, hdx, rf⟩, _⟩ := S.own e0
      refine ⟨_, hv0, a, dx, vs, rfl, ha, rf.no lm, ?_⟩
      have h1 : (match E[j]? with
        | some (.ow b o) => so o [] (fun d o' => Qd d (E.set j (.ow b o'))) (fun x o' => Wd x (E.set j (.ow b o')))
        | _ => False) := h
      split at h1
      · rename_i b o eo
        obtain ⟨v1, hv1, ro, hl⟩ := S.own eo
        rw [hv0] at hv1
        cases hv1
        exact ⟨Hf, .ref a, [], o, F j, [], _, _, rfl, S.sf, ro, fun q hq => (S.fp j q hq).1, .nil, h1, fun v H' Hf' d o' s2 s3 s4 dm g ro' r q =>
          k _ _ _ _ _ _ s2 (S.change eo hv0 s2 s3 s4 dm g ro') r q, fun cls x d H' Hf' o' s2 s3 s4 dm g ro' r q =>
          kx _ _ _ _ _ _ _ s2 (S.change eo hv0 s2 s3 s4 dm g ro') r q⟩
      · exact h1.elim
    · exact hi.elim
/-- x = C(..), an instance of our own -/
def tNewO (i : Nat) (C : Addr) (so : SoX) (tx : TAXd) : TSd := fun D E => tx D.ex E fun ds E1 => so (.oi C []) ds (fun d o' => d = .non ∧ canSet E1 i ∧ D.nx (E1.set i (.ow false o'))) (fun x _ => D.ex x E1)
theorem s_newO {i : Nat} {y : Str} {p pos' : Pos} (hNd : X.N.Nodup) (M : Mk X.K C f) (F : FnG X.prog X.w X.K X.mg X.base (L2.CX X.prog X.w) k f fd ps (liftOX X.K X.mg so)) (hgd : X.A.guards = some []) (hr : Room (k + 1) X.A) (hm : X.mg x = some (.ref C)) (hb : Binds X.K fd ps []) (ha : PAXd X (e :: es) tx)
    (hi : X.N[i]? = some y := by rfl) (hx : Loc X.env.scope y := by first | exact .inl rfl | exact .inr rfl) (hs : swapsWith (.Call (.Name x p) (e :: es) [] cpos) (some (.Name y pos')) pos.line X.env = pure false := by rfl) (hf : X.fn y = true ∨ X.env.scope.names.lookup y = some .local := by first | exact .inl rfl | exact .inr rfl | assumption)
    (hg : Gl X x := by rfl) (hdb : (x == ("__debug__" : Str)) = false := by decide) (he : starEach (e :: es) X.env = (false, eval e X.env) :: starEach es X.env := by rfl) (hpl : (backTo cpos (starEach es X.env)).any (·.1) = false := by rfl) :
    PSd X (.Assign [.Name y pos'] (.Call (.Name x p) (e :: es) [] cpos) pos) (tNewO i C so tx) :=
  ps_imp (ps_set hNd hi hx (pe_makeGS M F hgd hr hg hm hb wx_pass ha hdb he hpl) hs hf) fun D σ H ⟨en, Hf, F, E, Dd, S, h, k1, k2, k3, k4, k5⟩ => ⟨en, Hf, F, E, _, Dd.ex, S, h, fun vs H1 Hf1 F1 E1 ds s1 S1 r1 h1 => fun a dx na nd ne => by
    have fa : Hf1 a = none := S1.sf.free na
    have fd' : Hf1 dx = none := S1.sf.free nd
    have up : ∀ b u, H1 b = some u → upd (upd H1 dx (.own a)) a (.ins C dx []) b = some u := fun b u z => by
      rw [upd_ne (ne_of_none z na), upd_ne (ne_of_none z nd)]
      exact z
    have s2 : Same Hf1 (upd (upd H1 dx (.own a)) a (.ins C dx [])) := fun b u z => up b u (S1.sf _ _ z)
    have no : ∀ b, upd (upd H1 dx (.own a)) a (.ins C dx []) b = none → H1 b = none := fun b z => by
      by_cases y1 : b = a
      · rw [y1, upd_same] at z
        cases z
      · rw [upd_ne y1] at z
        by_cases y2 : b = dx
        · rw [y2, upd_same] at z
          cases z
        · rw [upd_ne y2] at z
          exact z
    have h0 : ∀ b, H1 b = none → en.H0 b = none := fun b n => by
      cases q : en.H0 b with
      | none => rfl
      | some z =>
        obtain ⟨z', e⟩ := S1.dom _ _ q
        rw [n] at e
        cases e
    refine ⟨Hf1, .ref a, vs, .oi C [], [a, dx], ds, _, _, rfl, s2, ⟨a, dx, [], rfl, rfl, upd_same, by rw [upd_ne ne, upd_same], .nil⟩, fun b hb => ?_, r1, h1, fun v H' Hf' d o' s3 s4 kp dm g ro rv q => ?_, fun cls x d H' Hf' o' s3 s4 kp dm g ro rx q => ?_⟩
    · rcases List.mem_cons.mp hb with rfl | hb
      · exact fa
      · rw [List.mem_singleton.mp hb]
        exact fd'
    · obtain ⟨rfl, cs, q⟩ := q
      cases rv
      have e3 : Same H1 H' := fun b u z => kp b u (fun y => by
        rcases List.mem_cons.mp y with y | y
        · exact ne_of_none z na y
        · exact ne_of_none z nd (List.mem_singleton.mp y)) (up b u z)
      have S2 : Sat X.K en Hf' H' F1 E1 σ := S1.grow s3 s4 e3 fun b u z => (g b u z).imp id (no b)
      have hn : ∀ b, b = a ∨ b = dx → H1 b = none ∧ ∃ u, upd (upd H1 dx (.own a)) a (.ins C dx []) b = some u := fun b hb => by
        rcases hb with rfl | rfl
        · exact ⟨na, _, upd_same⟩
        · exact ⟨nd, _, by rw [upd_ne ne, upd_same]⟩
      refine ⟨rfl, k1 _ _ _ _ _ (s1.trans s3) (S2.setG (l := [a, dx]) (s := .ow false o') cs.lt (fun b hb => ?_) ⟨_, by rw [List.getElem?_set_self (by rw [S2.len]; exact cs.lt)], by rw [setF_same]; exact ro, (fun z => by cases z), fun _ b hb => ?_⟩) q⟩
      · have hb : b = a ∨ b = dx := by simpa using hb
        obtain ⟨n1, u, hu⟩ := hn b hb
        obtain ⟨u', hu'⟩ := dm b u hu
        refine ⟨?_, ⟨u', hu'⟩, .inr (h0 b n1), S1.sp.free n1, fun j _ hj => ?_⟩
        · cases z : Hf' b with
          | none => rfl
          | some w =>
            rcases g b w z with y | y
            · rw [S1.sf.free n1] at y
              cases y
            · rw [hu] at y
              cases y
        · obtain ⟨_, ⟨z, e⟩, _⟩ := S1.fp j b hj
          rw [n1] at e
          cases e
      · rw [setF_same] at hb
        have hb : b = a ∨ b = dx := by simpa using hb
        exact h0 b (hn b hb).1
    · have e3 : Same H1 H' := fun b u z => kp b u (fun y => by
        rcases List.mem_cons.mp y with y | y
        · exact ne_of_none z na y
        · exact ne_of_none z nd (List.mem_singleton.mp y)) (up b u z)
      exact k5 _ _ _ _ _ _ _ _ (s1.trans s3) (S1.grow s3 s4 e3 fun b u z => (g b u z).imp id (no b)) rx q, fun cls x H' Hf' F' E' d s1 S1 r1 q => k5 _ _ _ _ _ _ _ _ s1 S1 r1 q⟩
end
/-! ### promises without arguments -/
def sox0 (R : Ow → (D → Ow → Prop) → (Xd → Ow → Prop) → Prop) : SoX := fun o ds Q W => match ds with
  | [] => R o Q W
  | _ => False
theorem sox0_len {R} : ∀ o ds Q W, sox0 R o ds Q W → ds.length + 1 = 1 := fun o ds Q W h => by
  unfold sox0 at h
  split at h
  · rfl
  · exact h.elim
theorem sox0_by {R} {G : Ow → List D → (D → Ow → Prop) → (Xd → Ow → Prop) → Prop} (h : ∀ o Q W, R o Q W → G o [] Q W) : ∀ o ds Q W, sox0 R o ds Q W → G o ds Q W := fun o ds Q W q => by
  unfold sox0 at q
  split at q
  · exact h _ _ _ q
  · exact q.elim
end L3
namespace Zk21
open PySem L2 L3
variable [TBi : Tbs]
def top (i : Nat) : Stmt := PySem.Challenge.pw_smallchange_k21_texts_of_ways.main.body.getD i (.Pass ⟨0, 0, 0, 0⟩)
section
variable {P : Program} {w : World} {K : PySem.W.Frag} {mg : Str → Option Value} {base : Heap}
local macro_rules | `(tactic| walk_at "rd") => `(tactic| (try simp only [tFldO, tNewAttr, tAppAttr, frzE, tMethO, tRemD, tCallI, tChain4D, tGetV, tDctV0, tSlV, D.mulOk, rbIsiO, tIsCO, spG, mkE_nil, mkE_cons, rdNeO, rbBool, tNX, tNTX, gFldD, tOpXS, rdS, rdInO, tTestX, tTruX, tNotX, D.nfOk, D.isIns, tFldD, tFldSet, tMethX, tMethX0, tMakeX, tIsC, sox1, sox2, tInV, tLamD, capD, tActX, tQcons, tQn, tQc, tQnil, tQtup, iZipYD, rdEqE, tIndexD, tIndexP, tTupP, tWk, rdCatP, tLenSetD, tLcN, tLcON, tSetN, tNAdd, rdEqS, rbMaxX, rbMinX, rbSumX, iZip3D, iZipXD, iZip2D, iZipSD, tExtD, gSubD, tSortSetI, tDct0, tDct1, tNListc, tNMul, rbReprK, tLcO, iRng3D, tStarC, tCntD, tTryD, tRetX, tAsgX, tDropX, tIfX, tCallX, tCallN, tOfX, tOfAX, tConsAX, tBindX, tOpX, tRaise0, tRaise1, tRaise2, spx0, spx1, spx2, spx3, spx4, tXfD, tIsX, tStarD, tParM, tPar3M, tMNil, tMDat, tMNew, tNLst, tSetN, It.sl, tSeqD, tNextD, tNevD, tAsgD, tVarD, gTupD, gConsD, gNilD, gNameD, tRetD, tRetND, tDropD, tIfSD, tParD, tPar3D, tAugD, tLstO, tAppD, tPutD, tAndD, tOrD, tNotD, tTruD, tAndW, tOrW, tNotW, tIfD, tChainD, tTestD, tOpD, tNegD, tNilD, tConsD, tTupD, tLstD, tCBd, tCallD, tCallO, tIxV, tSlD, tPartD, tNoPartD, tLenV, tDkN, tDkLen, tDkPad, tDkAt, tDkSet, tDkPut, tForD, iSeqD, iRng1D, iRng2D, iRng2W, rbSumA, rbDivmod, rbIsi, isT, isTs, D.tyN, tRevD, tLRgD, tSortSet, tSortSetZ, tSortSetT, rbSortK, tInO, rdInK, tVarO, tDctV, tPutO, D.key, kit_non_int, kit_non_bool, kit_non_str, kit_non_tuple, kit_non_list, kit_non_dict, kit_bl_int, kit_bl_bool, kit_bl_str, kit_bl_tuple, kit_bl_list, kit_bl_dict, kit_int_int, kit_int_bool, kit_int_str, kit_int_tuple, kit_int_list, kit_int_dict, kit_str_int, kit_str_bool, kit_str_str, kit_str_tuple, kit_str_list, kit_str_dict, kit_tup_int, kit_tup_bool, kit_tup_str, kit_tup_tuple, kit_tup_list, kit_tup_dict, kit_lst_int, kit_lst_bool, kit_lst_str, kit_lst_tuple, kit_lst_list, kit_lst_dict, kit_dct_int, kit_dct_bool, kit_dct_str, kit_dct_tuple, kit_dct_list, kit_dct_dict, tLcD, tYesD, rdAdd, rdMul, rdMulT, rdMany, iEnumD, iEnumTD, iZipD, rdEq, rdNe, rdI, rdI0, rdIsN, rdNotN, rdIsB, rdNotB, rdIx, rdSl, rdIn, rdCmp, rbLen, rbAbs, rbInt, rbMax2, rbMin2, rbMinL, rbMaxL, rbTuple, rbList, rbSum, rbAll, rbAny, rbRepr, D.isNon, D.items, tCD, truD, startD, startG, tCallGh, held, canSet, ownL, isDk, sp0, sp1, sp2, sp3, sp4, sox0, tNewO, tFldAug, iTxtD, tJoinD, tFindD, tFmtD, tJsD, tFstD, rbStr, tCallOX, tOfAX, so0, so1, so2, so3, wipeD, free_un, free_fz, free_ow, atI0, atI1, atI2, atI3, atI4, atI5, atI6, atI7, atI8, atI9, atI10, atI11, atI12, atIm1, atIm2, atIm3, atIm4, atIm5, L2.atI_last, Int.reduceLE, Int.reduceLT, Int.reduceNeg, Int.reduceToNat, Int.reduceAdd, List.map_cons, List.map_nil, List.cons_append, List.nil_append, List.append_nil, List.getElem?_cons_zero, List.getElem?_cons_succ, List.getElem?_nil, List.set_cons_zero, List.set_cons_succ, List.length_cons, List.length_nil, List.replicate_succ, List.replicate_zero, Nat.reduceAdd, Nat.reduceSub, Nat.zero_add, Bool.not_true, Bool.not_false, eqv_nil, eqv_cons, eqv_nil', true_and, and_true, if_true, if_false, reduceIte, Bool.false_eq_true, eq_self]))

local macro_rules | `(tactic| walk_at "s1") => `(tactic| first | exact True.intro | assumption | (exact (by decide)) | omega | exact cpow (by decide) (by decide) (by decide) (by decide) | exact small_le (by omega) | exact small_lt (by omega) | exact cmulL (by omega) (by omega) | exact cmulR (by omega) (by omega) | (refine ⟨?_, ?_⟩ <;> omega) | exact small_le (by simp only [List.length_map, List.length_append, List.length_cons, List.length_nil]; omega) | exact small_lt (by simp only [List.length_map, List.length_append, List.length_cons, List.length_nil]; omega))
local macro_rules | `(tactic| walk_at "sd") => `(tactic| repeat (refine And.intro (by walk_at "s1") ?_))

abbrev s__law_deck : Stmt := top 21
abbrev N__law_deck : List Str := ["_law_script", "_law_cell"]
theorem sc__law_deck : FnScope N__law_deck ["_law_script"] (defScope s__law_deck) := ⟨rfl, rfl, rfl, by decide +kernel, rfl, by decide +kernel, by decide +kernel⟩
theorem ok__law_deck (h__law_deck : Dfn K mg "_law_deck" s__law_deck ["_law_script"]) (B : Bl mg) : Cal P w K mg base CX0 "_law_deck" 1 ["_law_script"] (spDeck K) :=
  cal_deck h__law_deck sc__law_deck fun f cdv A outer s H E => pss_one (ps_ret (pe_lst (pa_cons (pe_lc (own := [("_law_cell", 1)]) (g := gName 1) (tt := tYes) rfl sc__law_deck.nd (pi_list (pe_slice sl_list (pv 0) po_none (po_some pe_int)))
    (blkOk_by (N := N__law_deck) (sc := defScope s__law_deck) (by decide +kernel)) (fun _ _ _ _ _ => pg_name (i := 1) sc__law_deck.nd rfl (Or.inl rfl)) (fun _ _ _ _ _ => pts_nil) (fun _ _ _ _ _ => pe_callB call_abs (by rfl) B.abs PyProof.Rows.boot_abs (pa_cons (pv 1) pa_nil))) (pa_cons pe_int pa_nil))))
abbrev s__law_draw : Stmt := top 22
abbrev N__law_draw : List Str := ["_law_deck_here", "_law_many", "_law_place", "_law_cell", "_law_mixed"]
theorem sc__law_draw : FnScope N__law_draw ["_law_deck_here", "_law_many"] (defScope s__law_draw) := ⟨rfl, rfl, rfl, by decide +kernel, rfl, by decide +kernel, by decide +kernel⟩
theorem ok__law_draw (h__law_draw : Dfn K mg "_law_draw" s__law_draw ["_law_deck_here", "_law_many"]) (B : Bl mg) : Cal P w K mg base CX0 "_law_draw" 1 ["_law_deck_here", "_law_many"] (liftOw K (so1 R_draw)) := by
  refine cal_own h__law_draw sc__law_draw so1_len ⟨_, fun f cdv A outer s H E hgd hr => (b_cons (s_dkSet 0 (d_add (d_dkN 0) d_int))
    (b_cons (s_set (i := 2) sc__law_draw.nd (d_mod (d_intc B.int (dc (d_dkN 0) dn)) (d_max2 rfl B.max (dc d_int (dc (d_dkLen 0 B.len) dn)))))
    (b_cons (s_set (i := 3) sc__law_draw.nd (d_ix (d_dkPad 0) (dv 2)))
    (b_cons (s_if (t_ge (dv 3) (d_pow d_int d_int)) (b_cons (s_dkPut 0 2 (d_fdiv (dv 3) (dv 1)))
    (b_one (s_ret (d_mod (d_intc B.int (dc (dv 3) dn)) (dv 1))))) b_nil)
    (b_cons (s_set (i := 4) sc__law_draw.nd (d_pow (d_add (d_add (d_mod (d_intc B.int (dc (dv 3) dn)) d_int) (d_mul d_int (d_dkN 0))) d_int) d_int))
    (b_one (s_ret (d_mod (d_intc B.int (dc (d_mod (d_intc B.int (dc (dv 4) dn)) d_int) dn)) (dv 1))))))))), so1_by ?_⟩
  rintro _ cs n Q ⟨k, rfl, ⟨hl, hn⟩, hn2, hk, hk9, q⟩
  have e40 : (2 : Int) ^ 40 = 1099511627776 := by decide
  have h1 : ∃ m : Int, (if (cs.length : Int) > 1 then (cs.length : Int) else 1) = m ∧ 0 < m ∧ (m = cs.length ∨ (m = 1 ∧ cs.length ≤ 1)) := by
    by_cases h : (cs.length : Int) > 1
    · exact ⟨_, if_pos h, by omega, .inl rfl⟩
    · exact ⟨_, if_neg h, by omega, .inr ⟨rfl, by omega⟩⟩
  obtain ⟨mm, em, hm0, hm1⟩ := h1
  have p0 := Int.emod_nonneg (n + 1) (show mm ≠ 0 by omega)
  have p1 := Int.emod_lt_of_pos (n + 1) hm0
  refine seq_intro fun k1 hk1 => ?_
  walk_at "rd"
  subst hk1
  refine seq_intro fun k1 hk1 => ?_
  walk_at "rd"
  rw [em]
  refine ⟨hm0, ?_⟩
  subst hk1
  refine seq_intro fun k1 hk1 => ?_
  walk_at "rd"
  refine ⟨by have := small_le (n := cs.length + 1) (by omega); exact this, ?_⟩
  obtain ⟨d, hd, hmem⟩ := atI_ex (xs := cs.map D.int ++ [D.int 0]) (i := (n + 1) % mm) p0 (by simp only [List.length_append, List.length_map, List.length_cons, List.length_nil]; omega)
  rw [hd]
  obtain ⟨c, rfl⟩ : ∃ c, d = D.int c := by
    rcases List.mem_append.mp hmem with z | z
    · obtain ⟨c, _, e⟩ := List.mem_map.mp z
      exact ⟨c, e.symm⟩
    · exact ⟨0, by simpa using z⟩
  subst hk1
  refine seq_intro fun k1 hk1 => ?_
  walk_at "rd"
  refine ⟨cpow (by decide) (by decide) (by decide) (by decide), ite_by (fun hc => ?_) fun hc => ?_⟩
  · have hpos : 0 < cs.length := by
      by_cases z : 0 < cs.length
      · exact z
      · exfalso
        have : cs = [] := List.eq_nil_of_length_eq_zero (by omega)
        subst this
        have c0 : c = 0 := by
          have : D.int c ∈ [D.int 0] := hmem
          simpa using this
        subst c0
        exact absurd hc (by decide)
    obtain ⟨l, hl1, hl2⟩ := ixN_ex (n := cs.length) (i := (n + 1) % mm) p0 (by omega)
    exact ⟨⟨hk, hk9⟩, l, hl1, hk, _, rfl, q _ _ (by rw [List.length_set]; exact hl) (Int.emod_nonneg _ (by omega)) (Int.emod_lt_of_pos _ hk)⟩
  · subst hk1
    walk_at "rd"
    exact ⟨cmulL (by decide) (by decide), cpow (by decide) (by decide) (by omega) (by omega), hk, _, rfl, q _ _ hl (Int.emod_nonneg _ (by omega)) (Int.emod_lt_of_pos _ hk)⟩
abbrev s__law_one : Stmt := top 23
abbrev N__law_one : List Str := ["_law_deck_here", "_law_items"]
theorem sc__law_one : FnScope N__law_one ["_law_deck_here", "_law_items"] (defScope s__law_one) := ⟨rfl, rfl, rfl, by decide +kernel, rfl, by decide +kernel, by decide +kernel⟩
theorem ok__law_one (h__law_one : Dfn K mg "_law_one" s__law_one ["_law_deck_here", "_law_items"]) (B : Bl mg) (c__law_draw : Cal P w K mg base CX0 "_law_draw" 1 ["_law_deck_here", "_law_many"] (liftOw K (so1 R_draw))) : Cal P w K mg base CX0 "_law_one" 2 ["_law_deck_here", "_law_items"] (liftOw K (so1 R_one)) := by
  obtain ⟨f__law_draw, fd__law_draw, C__law_draw⟩ := c__law_draw
  refine cal_own h__law_one sc__law_one so1_len ⟨_, fun f cdv A outer s H E hgd hr => (b_one (s_ret (d_ixV 1 (d_callO 0 C__law_draw.fn hgd hr C__law_draw.mg C__law_draw.kp C__law_draw.bd pass0 (dc (d_lenV 1 B.len) dn))))), so1_by ?_⟩
  rintro _ cs n Q ⟨xs, e, ⟨hd1, hd2⟩, hn2, h0, h1, q⟩
  have l1 : (xs.length : Int) < 1152921504606846976 := by
    have e := sizeLine_eq
    omega
  rcases e with rfl | rfl
  all_goals
    walk_at "rd"
    refine ⟨_, rfl, ⟨hd1, hd2⟩, hn2, by omega, log60 (by omega) l1, fun r cs' hcs hr0 hr1 => ?_⟩
    walk_at "rd"
    obtain ⟨x, hx, hm⟩ := atI_ex hr0 hr1
    rw [hx]
    exact ⟨_, rfl, q x cs' hcs hm⟩
/-! ### texts as lists of signs -/
open TL
def mk (L : List Nat) : Str := ⟨L.toArray⟩
theorem tl_mk2 (L : List Nat) : tl (mk L) = L := rfl
theorem mk_len (L : List Nat) : (mk L).length = L.length := by rw [len_tl]; rfl
theorem mk_add (a b : List Nat) : mk a ++ mk b = mk (a ++ b) := ext_tl (by rw [tl_append]; rfl)
theorem mk_num (n : Nat) : Str.ofString (toString (n : Int)) = mk (numL n) := ext_tl (tl_num n)
theorem mk_join (S : List Nat) (ps : List (List Nat)) : Str.join (mk S) (ps.map mk) = mk (joinL S ps) := ext_tl (by
  rw [tl_join, List.map_map]
  show joinL S (ps.map id) = joinL S ps
  rw [List.map_id])
theorem mk_inj {a b : List Nat} : mk a = mk b ↔ a = b := ⟨fun h => by have := congrArg tl h; exact this, fun h => by rw [h]⟩
theorem joinL_cons (S p : List Nat) : ∀ ps : List (List Nat), joinL S (p :: ps) = p ++ (ps.map (S ++ ·)).flatten
  | [] => by show p = p ++ []; rw [List.append_nil]
  | q :: r => by
    show p ++ (S ++ joinL S (q :: r)) = _
    rw [joinL_cons S q r, List.map_cons, List.flatten_cons, List.append_assoc]
/-- the sign at a place, as the slice of one tells it -/
theorem cut_next {L : List Nat} {i : Nat} (h : i ≤ L.length) (c : Nat) : decide (cutS (mk L) (some (i : Int)) (some ((i : Int) + 1)) = mk [c]) = decide (L[i]? = some c) := by
  have e : cutS (mk L) (some (i : Int)) (some ((i : Int) + 1)) = mk ((L.drop i).take 1) := by
    unfold cutS mk
    have l : Str.length ⟨L.toArray⟩ = L.length := mk_len L
    rw [l]
    have a : HT.sIx L.length 0 (some (i : Int)) = i := by
      rw [HT.sIx_nat]
      omega
    rw [a]
    congr 2
    show (L.drop i).take _ = _
    by_cases c : i = L.length
    · rw [List.drop_eq_nil_of_le (by omega), List.take_nil, List.take_nil]
    · congr 1
      rw [show ((i : Int) + 1) = ((i + 1 : Nat) : Int) by omega, HT.sIx_nat]
      omega
  rw [e, decide_eq_decide, mk_inj]
  by_cases c1 : i < L.length
  · rw [List.drop_eq_getElem_cons c1, List.getElem?_eq_getElem c1]
    exact ⟨fun h => congrArg some (List.cons.inj h).1, fun h => by rw [Option.some.inj h]; rfl⟩
  · rw [List.drop_eq_nil_of_le (by omega), List.getElem?_eq_none (by omega)]
    simp
def digs : List Nat := [48, 49, 50, 51, 52, 53, 54, 55, 56, 57]
def digV (c : Nat) : Int := if 48 ≤ c ∧ c ≤ 57 then (c : Int) - 48 else -1
theorem find_dig (c : Nat) : Txt.find (mk digs) ⟨#[c]⟩ = digV c := by
  by_cases h : 48 ≤ c ∧ c ≤ 57
  · obtain ⟨a, b⟩ := h
    have : c = 48 ∨ c = 49 ∨ c = 50 ∨ c = 51 ∨ c = 52 ∨ c = 53 ∨ c = 54 ∨ c = 55 ∨ c = 56 ∨ c = 57 := by omega
    rcases this with rfl | rfl | rfl | rfl | rfl | rfl | rfl | rfl | rfl | rfl <;> decide +kernel
  · rw [show digV c = -1 from if_neg h]
    rcases PyProof.Rows.find_spec (mk digs) ⟨#[c]⟩ with e | ⟨i, _, hi, e⟩
    · exact e
    · exfalso
      have e1 := congrArg tl e
      rw [tl_strSub] at e1
      have e1 : (digs.drop i).take (i + 1 - i) = [c] := e1
      have m : c ∈ digs := List.mem_of_mem_drop (List.mem_of_mem_take (e1 ▸ List.mem_singleton.mpr rfl))
      apply h
      simp only [digs, List.mem_cons, List.not_mem_nil, or_false] at m
      omega
/-- the next digit, -1 where there is none -/
def dig (L : List Nat) (i : Nat) : Int := match L[i]? with
  | some c => digV c
  | none => -1

/-! ### a number read -/
theorem digV_lt {d : Nat} (h : d < 10) : digV (48 + d) = d := by
  unfold digV
  rw [if_pos (by omega)]
  omega
theorem at_pre {L A B : List Nat} {i : Nat} (h : L.drop i = A ++ B) (j : Nat) (hj : j < A.length) : L[i + j]? = A[j]? := by
  have e := congrArg (fun l : List Nat => l[j]?) h
  simp only [List.getElem?_drop] at e
  rw [e, List.getElem?_append_left hj]
theorem at_end {L A B : List Nat} {i : Nat} (h : L.drop i = A ++ B) : L[i + A.length]? = B[0]? := by
  have e := congrArg (fun l : List Nat => l[A.length]?) h
  simp only [List.getElem?_drop] at e
  rw [e, List.getElem?_append_right (Nat.le_refl _), Nat.sub_self]
theorem drop_app {L A B : List Nat} {i : Nat} (h : L.drop i = A ++ B) : L.drop (i + A.length) = B := by
  rw [← List.drop_drop, h, List.drop_append_of_le_length (Nat.le_refl _), List.drop_length, List.nil_append]
theorem at_le {L A B : List Nat} {i : Nat} (h : L.drop i = A ++ B) (hA : A ≠ []) : i + A.length ≤ L.length := by
  have e := congrArg List.length h
  rw [List.length_drop, List.length_append] at e
  have := List.length_pos_iff.mpr hA
  omega
/-- behind a number: no digit -/
def Nd (B : List Nat) : Prop := ∀ c, B[0]? = some c → c < 48 ∨ 57 < c
theorem dig_nd {L A B : List Nat} {i : Nat} (h : L.drop i = A ++ B) (nd : Nd B) : dig L (i + A.length) = -1 := by
  unfold dig
  rw [at_end h]
  cases e : B[0]? with
  | none => rfl
  | some c =>
    have := nd c e
    show digV c = -1
    unfold digV
    rw [if_neg (by omega)]
/-- n less its last t digits stands at the beginning of n -/
theorem num_pre (n : Nat) : ∀ t, 0 < n / 10 ^ t → ∃ B, numL n = numL (n / 10 ^ t) ++ B
  | 0, _ => ⟨[], by rw [Nat.pow_zero, Nat.div_one, List.append_nil]⟩
  | t + 1, h => by
    have e : n / 10 ^ (t + 1) = n / 10 ^ t / 10 := by rw [Nat.pow_succ, Nat.div_div_eq_div_mul]
    rw [e] at h ⊢
    have h10 : 10 ≤ n / 10 ^ t := by
      by_cases c : 10 ≤ n / 10 ^ t
      · exact c
      · rw [Nat.div_eq_of_lt (by omega)] at h
        omega
    obtain ⟨B, hB⟩ := num_pre n t (by omega)
    exact ⟨[48 + n / 10 ^ t % 10] ++ B, by rw [hB, numL_step h10, List.append_assoc]⟩
/-- the digit behind it -/
theorem num_next {L R : List Nat} {i n t : Nat} (h : L.drop i = numL n ++ R) (hp : 0 < n / 10 ^ (t + 1)) : dig L (i + (numL (n / 10 ^ (t + 1))).length) = ((n / 10 ^ t % 10 : Nat) : Int) ∧ n / 10 ^ t = n / 10 ^ (t + 1) * 10 + n / 10 ^ t % 10 ∧ numL (n / 10 ^ t) = numL (n / 10 ^ (t + 1)) ++ [48 + n / 10 ^ t % 10] := by
  have e : n / 10 ^ (t + 1) = n / 10 ^ t / 10 := by rw [Nat.pow_succ, Nat.div_div_eq_div_mul]
  have h10 : 10 ≤ n / 10 ^ t := by
    by_cases c : 10 ≤ n / 10 ^ t
    · exact c
    · rw [e, Nat.div_eq_of_lt (by omega)] at hp
      omega
  have hs : numL (n / 10 ^ t) = numL (n / 10 ^ (t + 1)) ++ [48 + n / 10 ^ t % 10] := by rw [e]; exact numL_step h10
  refine ⟨?_, by rw [e]; omega, hs⟩
  obtain ⟨B, hB⟩ := num_pre n t (by omega)
  have e2 : L.drop i = numL (n / 10 ^ (t + 1)) ++ ([48 + n / 10 ^ t % 10] ++ (B ++ R)) := by
    rw [h, hB, hs]
    simp [List.append_assoc]
  unfold dig
  rw [at_end e2]
  show digV (48 + n / 10 ^ t % 10) = _
  exact digV_lt (Nat.mod_lt _ (by decide))
/-- there is a first digit -/
theorem num_first (n : Nat) (hn : 0 < n) : ∃ t, n / 10 ^ t < 10 ∧ 0 < n / 10 ^ t := by
  induction n using Nat.strongRecOn with
  | _ n ih =>
    by_cases h : n < 10
    · exact ⟨0, by rw [Nat.pow_zero, Nat.div_one]; exact ⟨h, hn⟩⟩
    · obtain ⟨t, a, b⟩ := ih (n / 10) (by omega) (by omega)
      refine ⟨t + 1, ?_⟩
      rw [Nat.pow_succ, Nat.mul_comm, ← Nat.div_div_eq_div_mul]
      exact ⟨a, b⟩
theorem atI_nat {α : Type} {L : List α} {i : Nat} (h : i < L.length) : atI L (i : Int) = some L[i] := by
  unfold atI ixN
  rw [if_pos (by omega), if_pos (by omega)]
  show L[(i : Int).toNat]? = _
  rw [Int.toNat_natCast, List.getElem?_eq_getElem h]
theorem chD_len (S : List Nat) : (chD (mk S)).length = S.length := by
  unfold chD
  rw [List.length_map]
  rfl
theorem chD_get {S : List Nat} {j : Nat} {y : D} (h : (chD (mk S))[j]? = some y) : ∃ c, S[j]? = some c ∧ y = .str (mk [c]) := by
  unfold chD at h
  rw [List.getElem?_map] at h
  have h : S[j]?.map (fun c => D.str ⟨#[c]⟩) = some y := h
  cases e : S[j]? with
  | none =>
    rw [e] at h
    cases h
  | some c =>
    rw [e] at h
    exact ⟨c, rfl, (Option.some.inj h).symm⟩
/-! ### ways -/
/-- a step: a run, or rounds of runs -/
inductive Wst where
  | one (i t : Nat)
  | rnd (rs : List (Nat × Nat)) (t : Nat)
def rnD (r : Nat × Nat) : D := .tup [.int r.1, .int r.2]
def Wst.d : Wst → D
  | .one i t => rnD (i, t)
  | .rnd rs t => .tup [.tup (rs.map rnD), .int t]
def tmL (t : Nat) : List Nat := if t = 1 then [] else 120 :: numL t
def rnL (r : Nat × Nat) : List Nat := numL r.1 ++ tmL r.2
def Wst.L : Wst → List Nat
  | .one i t => rnL (i, t)
  | .rnd rs t => numL t ++ ([42, 40] ++ (joinL [32] (rs.map rnL) ++ [41]))
def wyL (ws : List Wst) : List Nat := if ws = [] then [110, 111, 110, 101] else joinL [32] (ws.map Wst.L)
def G30 : Nat := 1000000000000000000000000000000
structure RnOk (r : Nat × Nat) : Prop where
  i : r.1 < 40
  t1 : 1 ≤ r.2
  t2 : r.2 ≤ G30
def Wst.ok : Wst → Prop
  | .one i t => RnOk (i, t)
  | .rnd rs t => rs ≠ [] ∧ (∀ r ∈ rs, RnOk r) ∧ 1 ≤ t ∧ t ≤ G30
def Wst.n : Wst → Nat
  | .one _ _ => 1
  | .rnd rs _ => rs.length
/-- behind a run: a blank, a bracket, or the end -/
def Sp (B : List Nat) : Prop := ∀ c, B[0]? = some c → c = 32 ∨ c = 41
theorem Sp.nd {B : List Nat} (h : Sp B) : Nd B := fun c e => by
  rcases h c e with rfl | rfl
  · exact .inl (by decide)
  · exact .inl (by decide)
theorem tm_nd {t : Nat} {B : List Nat} (h : Sp B) : Nd (tmL t ++ B) := by
  unfold tmL
  split
  · exact h.nd
  · intro c e
    have e : some 120 = some c := e
    cases e
    exact .inr (by decide)
theorem sp_cons {c : Nat} {B : List Nat} (h : c = 32 ∨ c = 41) : Sp (c :: B) := fun d e => by
  have e : some c = some d := e
  cases e
  exact h
theorem sp_nil : Sp [] := fun d e => by cases e
/-- the runs behind the first one -/
def tlL (rs : List (Nat × Nat)) : List Nat := ((rs.map rnL).map ([32] ++ ·)).flatten
theorem tlL_cons (r : Nat × Nat) (rs : List (Nat × Nat)) : tlL (r :: rs) = [32] ++ (rnL r ++ tlL rs) := by
  unfold tlL
  rw [List.map_cons, List.map_cons, List.flatten_cons, List.append_assoc]
theorem rnL_ne (r : Nat × Nat) : rnL r ≠ [] := fun h => by
  unfold rnL at h
  exact numL_ne _ (List.append_eq_nil_iff.mp h).1
theorem tl_sp (rs : List (Nat × Nat)) (R : List Nat) : Sp (tlL rs ++ ([41] ++ R)) := by
  cases rs with
  | nil => exact sp_cons (.inr rfl)
  | cons r rs =>
    rw [tlL_cons]
    exact sp_cons (.inl rfl)
theorem tm_42 {t : Nat} {B : List Nat} (h : Sp B) (z : (tmL t ++ B)[0]? = some 42) : False := by
  unfold tmL at z
  split at z
  · rcases h 42 z with w | w <;> cases w
  · have z : some 120 = some 42 := z
    cases z
/-- the steps behind the first one -/
def tl2 (ss : List Wst) : List Nat := ((ss.map Wst.L).map ([32] ++ ·)).flatten
theorem tl2_cons (s : Wst) (ss : List Wst) : tl2 (s :: ss) = [32] ++ (s.L ++ tl2 ss) := by
  unfold tl2
  rw [List.map_cons, List.map_cons, List.flatten_cons, List.append_assoc]
theorem tl2_sp (ss : List Wst) : Sp (tl2 ss) := by
  cases ss with
  | nil => exact sp_nil
  | cons s ss =>
    rw [tl2_cons]
    exact sp_cons (.inl rfl)
theorem num_head (n : Nat) : ∃ c, (numL n)[0]? = some c ∧ 48 ≤ c ∧ c ≤ 57 := by
  have h := numL_ne n
  have hd := numL_digits n
  match e : numL n with
  | [] => exact absurd e h
  | c :: r =>
    rw [e] at hd
    have := hd c (List.mem_cons_self ..)
    exact ⟨c, rfl, by omega, by omega⟩
theorem Wst.L_ne (s : Wst) : s.L ≠ [] := fun h => by
  cases s with
  | one i t => exact rnL_ne _ h
  | rnd rs t => exact numL_ne _ (List.append_eq_nil_iff.mp h).1
theorem Wst.first (s : Wst) : ∃ c, s.L[0]? = some c ∧ 48 ≤ c ∧ c ≤ 57 := by
  have key : ∀ (n : Nat) (B : List Nat), ∃ c, (numL n ++ B)[0]? = some c ∧ 48 ≤ c ∧ c ≤ 57 := fun n B => by
    obtain ⟨c, hc, h⟩ := num_head n
    exact ⟨c, by rw [List.getElem?_append_left (List.length_pos_iff.mpr (numL_ne n)), hc], h⟩
  cases s with
  | one i t => exact key i _
  | rnd rs t => exact key t _
theorem Wst.n1 {s : Wst} (h : s.ok) : 1 ≤ s.n := by
  cases s with
  | one i t => exact Nat.le_refl _
  | rnd rs t => exact List.length_pos_iff.mpr h.1
theorem sum_n : ∀ {l : List Wst}, (∀ x ∈ l, 1 ≤ x.n) → l.length ≤ (l.map Wst.n).sum
  | [], _ => Nat.le_refl _
  | a :: l, h => by
    have h1 := sum_n fun x hx => h x (List.mem_cons_of_mem _ hx)
    have h2 := h a (List.mem_cons_self ..)
    show l.length + 1 ≤ a.n + (l.map Wst.n).sum
    omega
theorem num_len40 {n : Nat} (h : n < 40) : (numL n).length ≤ 2 := numL_len (by decide) (Nat.lt_of_lt_of_le h (by decide))
theorem num_len30 {n : Nat} (h : n ≤ G30) : (numL n).length ≤ 31 := numL_len (by decide) (Nat.lt_of_le_of_lt h (by decide +kernel))
theorem tm_len {t : Nat} (h : t ≤ G30) : (tmL t).length ≤ 32 := by
  unfold tmL
  split
  · exact Nat.zero_le _
  · exact Nat.succ_le_succ (num_len30 h)
theorem rn_len {r : Nat × Nat} (h : RnOk r) : (rnL r).length ≤ 34 := by
  unfold rnL
  rw [List.length_append]
  have := num_len40 h.i
  have := tm_len h.t2
  omega
theorem rns_len : ∀ {rs : List (Nat × Nat)}, (∀ r ∈ rs, RnOk r) → (tlL rs).length ≤ 35 * rs.length
  | [], _ => Nat.le_refl _
  | r :: rs, h => by
    rw [tlL_cons, List.length_append, List.length_append]
    have h1 := rns_len fun x hx => h x (List.mem_cons_of_mem _ hx)
    have h2 := rn_len (h r (List.mem_cons_self ..))
    show 1 + _ ≤ 35 * (rs.length + 1)
    omega
theorem joinR_len {rs : List (Nat × Nat)} (h : ∀ r ∈ rs, RnOk r) : (joinL [32] (rs.map rnL)).length ≤ 35 * rs.length := by
  cases rs with
  | nil => exact Nat.le_refl _
  | cons r rs =>
    rw [List.map_cons, joinL_cons, List.length_append]
    have h1 : (((rs.map rnL).map ([32] ++ ·)).flatten).length ≤ 35 * rs.length := rns_len fun x hx => h x (List.mem_cons_of_mem _ hx)
    have h2 := rn_len (h r (List.mem_cons_self ..))
    show _ ≤ 35 * (rs.length + 1)
    omega
theorem st_len {s : Wst} (h : s.ok) : s.L.length ≤ 35 * s.n + 34 := by
  cases s with
  | one i t =>
    have := rn_len h
    show (rnL (i, t)).length ≤ 35 * 1 + 34
    omega
  | rnd rs t =>
    have h1 := joinR_len h.2.1
    have h2 := num_len30 h.2.2.2
    show (numL t ++ ([42, 40] ++ (joinL [32] (rs.map rnL) ++ [41]))).length ≤ 35 * rs.length + 34
    rw [List.length_append, List.length_append, List.length_append]
    show _ + (2 + (_ + 1)) ≤ _
    omega
/-- a way that may be told -/
structure WyOk (ws : List Wst) : Prop where
  ok : ∀ s ∈ ws, s.ok
  n : (ws.map Wst.n).sum ≤ 200
theorem sts_len : ∀ {ss : List Wst}, (∀ s ∈ ss, s.ok) → (tl2 ss).length ≤ 35 * (ss.map Wst.n).sum + 35 * ss.length
  | [], _ => Nat.le_refl _
  | s :: ss, h => by
    rw [tl2_cons, List.length_append, List.length_append]
    have h1 := sts_len fun x hx => h x (List.mem_cons_of_mem _ hx)
    have h2 := st_len (h s (List.mem_cons_self ..))
    show 1 + _ ≤ 35 * (s.n + (ss.map Wst.n).sum) + 35 * (ss.length + 1)
    omega
theorem WyOk.cnt {ws : List Wst} (h : WyOk ws) : ws.length ≤ 200 := Nat.le_trans (sum_n fun x hx => Wst.n1 (h.ok x hx)) h.n
theorem joinS_len {ws : List Wst} (h : WyOk ws) : (joinL [32] (ws.map Wst.L)).length ≤ 14000 := by
  have c := h.cnt
  have n := h.n
  cases ws with
  | nil => exact Nat.zero_le _
  | cons s ss =>
    rw [List.map_cons, joinL_cons, List.length_append]
    have h1 : (((ss.map Wst.L).map ([32] ++ ·)).flatten).length ≤ 35 * (ss.map Wst.n).sum + 35 * ss.length := sts_len fun x hx => h.ok x (List.mem_cons_of_mem _ hx)
    have h2 := st_len (h.ok s (List.mem_cons_self ..))
    have n : s.n + (ss.map Wst.n).sum ≤ 200 := n
    have c : ss.length + 1 ≤ 200 := c
    omega
theorem WyOk.len {ws : List Wst} (h : WyOk ws) : (wyL ws).length ≤ 14000 := by
  unfold wyL
  split
  · decide
  · exact joinS_len h
theorem mem_n : ∀ {l : List Wst} {s : Wst}, s ∈ l → s.n ≤ (l.map Wst.n).sum
  | a :: l, s, h => by
    show s.n ≤ a.n + (l.map Wst.n).sum
    rcases List.mem_cons.mp h with e | z
    · rw [e]
      omega
    · have := mem_n z
      omega
theorem map_get {α : Type} {f : α → D} {xs : List α} {i : Nat} {y : D} (h : (xs.map f)[i]? = some y) : ∃ x, xs[i]? = some x ∧ y = f x := by
  rw [List.getElem?_map] at h
  cases e : xs[i]? with
  | none =>
    rw [e] at h
    cases h
  | some x =>
    rw [e] at h
    exact ⟨x, rfl, (Option.some.inj h).symm⟩
/-- plain signs -/
def Sg (L : List Nat) : Prop := ∀ c ∈ L, c < 256
theorem Sg.app {a b : List Nat} (h : Sg a) (g : Sg b) : Sg (a ++ b) := fun c hc => (List.mem_append.mp hc).elim (h c) (g c)
theorem Sg.num (n : Nat) : Sg (numL n) := fun c hc => by
  have := numL_digits n c hc
  omega
theorem Sg.tm (t : Nat) : Sg (tmL t) := by
  unfold tmL
  split
  · exact fun c hc => nomatch hc
  · intro c hc
    rcases List.mem_cons.mp hc with e | z
    · omega
    · exact Sg.num t c z
theorem Sg.rn (r : Nat × Nat) : Sg (rnL r) := (Sg.num _).app (Sg.tm _)
theorem Sg.join {S : List Nat} (hS : Sg S) : ∀ {ps : List (List Nat)}, (∀ p ∈ ps, Sg p) → Sg (joinL S ps)
  | [], _ => fun c hc => nomatch hc
  | [p], h => h p (List.mem_cons_self ..)
  | p :: q :: r, h => (h p (List.mem_cons_self ..)).app (hS.app (Sg.join hS fun x hx => h x (List.mem_cons_of_mem _ hx)))
theorem sg32 : Sg [32] := fun c hc => by rw [List.mem_singleton.mp hc]; decide
theorem Sg.st (s : Wst) : Sg s.L := by
  cases s with
  | one i t => exact Sg.rn _
  | rnd rs t =>
    refine (Sg.num _).app (Sg.app (fun c hc => ?_) ((Sg.join sg32 fun p hp => ?_).app fun c hc => ?_))
    · simp only [List.mem_cons, List.not_mem_nil, or_false] at hc
      omega
    · obtain ⟨r, _, rfl⟩ := List.mem_map.mp hp
      exact Sg.rn r
    · rw [List.mem_singleton.mp hc]
      decide
theorem Sg.wy (ws : List Wst) : Sg (wyL ws) := by
  unfold wyL
  split
  · intro c hc
    simp only [List.mem_cons, List.not_mem_nil, or_false] at hc
    omega
  · refine Sg.join sg32 fun p hp => ?_
    obtain ⟨s, _, rfl⟩ := List.mem_map.mp hp
    exact Sg.st s
theorem sh_str {L : List Nat} {n : Nat} (h : Sg L) (hl : L.length ≤ n) : Sh 0 (10 * n + 2) (.str (mk L)) := by
  refine ⟨rfl, rfl, ?_, Nat.le_refl _⟩
  show (PyData.shown (.str (mk L))).length ≤ _
  rw [PyData.shown_str]
  refine Nat.le_trans (StrLaws.reprText_len (mk L) fun c hc => Nat.lt_of_lt_of_le (h c hc) (by decide)) ?_
  rw [mk_len]
  omega
theorem can_strs : ∀ {ps : List (List Nat)}, (∀ p ∈ ps, Sg p) → PyData.canLayAll0 (D.pyL (ps.map fun p => D.str (mk p))) = true
  | [], _ => rfl
  | p :: ps, h => by
    show (PyData.canLay0 (.str (mk p)) && PyData.canLayAll0 (D.pyL (ps.map fun p => D.str (mk p)))) = true
    rw [can_strs fun x hx => h x (List.mem_cons_of_mem _ hx), Bool.and_true]
    show (mk p).cps.all (· < 0x110000) = true
    rw [Array.all_eq_true]
    intro i hi
    exact decide_eq_true (Nat.lt_of_lt_of_le (h p (List.mem_cons_self ..) _ (Array.getElem_mem_toList (xs := p.toArray) hi)) (by decide))
theorem ok_strs {ps : List (List Nat)} {n : Nat} (h : ∀ p ∈ ps, Sg p ∧ p.length ≤ n) : (D.lst (ps.map fun p => D.str (mk p))).ok := by
  have s : Sh 1 _ (D.lst (ps.map fun p => D.str (mk p))) := Sh.lst (ShL.map (k := 0) (m := 10 * n + 2) fun p hp => sh_str (h p hp).1 (h p hp).2)
  refine ⟨s.plain, ?_⟩
  unfold SeqAt.shaped
  rw [decide_eq_true (Nat.le_trans s.deep (by decide)), Bool.and_true]
  exact can_strs fun p hp => (h p hp).1
/-! ### what is shown of a way -/
theorem shL_sum {α : Type} {k : Nat} {f : α → D} {g : α → Nat} : ∀ {as : List α}, (∀ a ∈ as, Sh k (g a) (f a)) → ShL k ((as.map fun a => g a + 2).sum) (as.map f)
  | [], _ => ShL.nil
  | a :: as, h => by
    have z := ShL.cons (h a (List.mem_cons_self ..)) (shL_sum fun x hx => h x (List.mem_cons_of_mem _ hx))
    rw [Nat.max_self] at z
    refine z.mono (Nat.le_refl _) ?_
    show g a + (as.map fun a => g a + 2).sum + 2 ≤ (g a + 2) + (as.map fun a => g a + 2).sum
    omega
theorem sh_n {t : Nat} (h : t ≤ G30) : Sh 0 101 (.int t) := Sh.int (by decide) (by decide) (Nat.lt_of_le_of_lt (by rw [Int.natAbs_natCast]; exact h) (by decide +kernel))
theorem sh_rn {r : Nat × Nat} (h : RnOk r) : Sh 1 209 (rnD r) := (Sh.tup (ShL.cons (sh_n (Nat.le_trans (Nat.le_of_lt h.i) (by decide +kernel))) (ShL.cons (sh_n h.t2) (ShL.nil (k := 0))))).mono (by decide) (by decide)
theorem sh_st {s : Wst} (h : s.ok) : Sh 3 (211 * s.n + 330) s.d := by
  cases s with
  | one i t => exact (sh_rn h).mono (by decide) (by show 209 ≤ 211 * 1 + 330; decide)
  | rnd rs t =>
    have a := Sh.tup (ShL.map (f := rnD) fun r hr => sh_rn (h.2.1 r hr))
    refine (Sh.tup (ShL.cons a (ShL.cons (sh_n h.2.2.2) (ShL.nil (k := 0))))).mono (by decide) ?_
    show _ ≤ 211 * rs.length + 330
    omega
theorem sh_wy {ws : List Wst} (h : WyOk ws) : Sh 4 120000 (.tup (ws.map Wst.d)) := by
  have c := h.cnt
  have n := h.n
  refine (Sh.tup (shL_sum (g := fun s => 211 * s.n + 330) fun s hs => sh_st (h.ok s hs))).mono (Nat.le_refl _) ?_
  have key : ∀ l : List Wst, (l.map fun s => 211 * s.n + 330 + 2).sum = 211 * (l.map Wst.n).sum + 332 * l.length := fun l => by
    induction l with
    | nil => rfl
    | cons a l ih =>
      show 211 * a.n + 330 + 2 + (l.map fun s => 211 * s.n + 330 + 2).sum = 211 * (a.n + (l.map Wst.n).sum) + 332 * (l.length + 1)
      rw [ih]
      omega
  rw [key]
  omega

/-- the i-th statement of a class -/
def clsub (st : Stmt) (i : Nat) : Stmt := match st with
  | .ClassDef _ _ _ body .. => body.getD i (.Pass ⟨0, 0, 0, 0⟩)
  | _ => .Pass ⟨0, 0, 0, 0⟩
open TL
/-- the reader's fields -/
def rdF (ix : Int) (L : List Nat) (i : Nat) : List (Str × D) := [("index", .int ix), ("line", .str (mk L)), ("at", .int i)]
def RdI (C : Addr) (o : Ow) (ix : Int) (L : List Nat) (i : Nat) : Prop := o = .oi C (rdF ix L i) ∧ L.length ≤ 16000000 ∧ i ≤ L.length
abbrev s_Reader___init__ : Stmt := clsub (top 9) 0
abbrev N_Reader___init__ : List Str := ["self", "index", "line"]
theorem sc_Reader___init__ : FnScope N_Reader___init__ ["self", "index", "line"] (defScope s_Reader___init__) := ⟨rfl, rfl, rfl, by decide +kernel, rfl, by decide +kernel, by decide +kernel⟩
def R_Reader___init__ : Addr → Ow → D → D → (D → Ow → Prop) → (Xd → Ow → Prop) → Prop := fun C o a b Q W => ∃ (ix : Int) (L : List Nat), a = .int ix ∧ b = .str (mk L) ∧ o = .oi C [] ∧ Q .non (.oi C (rdF ix L 0))
theorem ok_Reader___init__ {A_Reader : Addr} (l_Reader : L2.Cls K A_Reader) (o_Reader_at : OFld K A_Reader "at") (o_Reader_index : OFld K A_Reader "index") (o_Reader_line : OFld K A_Reader "line") (h_Reader___init__ : DfnI K mg "Reader" A_Reader "Reader.__init__" s_Reader___init__ ["self", "index", "line"]) (B : Bl mg) : CalI P w K mg base "Reader" A_Reader 1 ["self", "index", "line"] (sox2 (R_Reader___init__ A_Reader)) := by
  refine cal_init h_Reader___init__ sc_Reader___init__ sox2_len ⟨_, fun f cdv A outer s H E hgd hr => (b_cons (s_fldSetK K 0 (dv 1))
    (b_cons (s_fldSetK K 0 (dv 2))
    (b_one (s_fldSetK K 0 d_int)))), sox2_by ?_⟩
  rintro _ _ _ Q W ⟨ix, L, rfl, rfl, rfl, q⟩
  refine seq_intro fun k hk => ?_
  walk_at "rd"
  refine ⟨o_Reader_index, by decide, ?_⟩
  subst hk
  refine seq_intro fun k hk => ?_
  walk_at "rd"
  refine ⟨o_Reader_line, by show (1 : Nat) < 1000; decide, ?_⟩
  subst hk
  walk_at "rd"
  exact ⟨o_Reader_at, by show (2 : Nat) < 1000; decide, _, rfl, q⟩
abbrev s_Reader_refuse : Stmt := clsub (top 9) 1
abbrev N_Reader_refuse : List Str := ["self"]
theorem sc_Reader_refuse : FnScope N_Reader_refuse ["self"] (defScope s_Reader_refuse) := ⟨rfl, rfl, rfl, by decide +kernel, rfl, by decide +kernel, by decide +kernel⟩
def R_Reader_refuse : Addr → Ow → (D → Ow → Prop) → (Xd → Ow → Prop) → Prop := fun C o Q W => False
theorem ok_Reader_refuse {A_Reader : Addr} (l_Reader : L2.Cls K A_Reader) (h_Reader_refuse : DfnM K A_Reader "refuse" "Reader.refuse" s_Reader_refuse ["self"]) (B : Bl mg) : CalMO P w K mg base A_Reader "refuse" 2 ["self"] (sox0 (R_Reader_refuse A_Reader)) := by
  refine cal_methO h_Reader_refuse sc_Reader_refuse sox0_len ⟨_, fun f cdv A outer s H E hgd hr => (b_one s_never), sox0_by ?_⟩
  rintro _ Q W h
  exact h.elim
abbrev s_Reader_is_done : Stmt := clsub (top 9) 2
abbrev N_Reader_is_done : List Str := ["self"]
theorem sc_Reader_is_done : FnScope N_Reader_is_done ["self"] (defScope s_Reader_is_done) := ⟨rfl, rfl, rfl, by decide +kernel, rfl, by decide +kernel, by decide +kernel⟩
def R_Reader_is_done : Addr → Ow → (D → Ow → Prop) → (Xd → Ow → Prop) → Prop := fun C o Q W => ∃ (ix : Int) (L : List Nat) (i : Nat), RdI C o ix L i ∧ Q (.bl (decide (i = L.length))) (.oi C (rdF ix L i))
theorem ok_Reader_is_done {A_Reader : Addr} (l_Reader : L2.Cls K A_Reader) (o_Reader_at : OFld K A_Reader "at") (o_Reader_line : OFld K A_Reader "line") (h_Reader_is_done : DfnM K A_Reader "is_done" "Reader.is_done" s_Reader_is_done ["self"]) (B : Bl mg) : CalMO P w K mg base A_Reader "is_done" 1 ["self"] (sox0 (R_Reader_is_done A_Reader)) := by
  refine cal_methO h_Reader_is_done sc_Reader_is_done sox0_len ⟨_, fun f cdv A outer s H E hgd hr => (b_one (s_ret (d_eq hr.units (d_fldO K 0) (d_len B.len (dc (d_fldO K 0) dn))))), sox0_by ?_⟩
  rintro _ Q W ⟨ix, L, i, ⟨rfl, hl, hi⟩, q⟩
  walk_at "rd"
  refine ⟨o_Reader_at, _, rfl, o_Reader_line, _, rfl, ?_⟩
  dsimp only
  rw [mk_len]
  refine ⟨small_le (by omega), _, rfl, ?_⟩
  rw [show decide ((i : Int) = (L.length : Int)) = decide (i = L.length) from decide_eq_decide.mpr (by omega)]
  exact q
abbrev s_Reader_is_next : Stmt := clsub (top 9) 3
abbrev N_Reader_is_next : List Str := ["self", "sign"]
theorem sc_Reader_is_next : FnScope N_Reader_is_next ["self", "sign"] (defScope s_Reader_is_next) := ⟨rfl, rfl, rfl, by decide +kernel, rfl, by decide +kernel, by decide +kernel⟩
def R_Reader_is_next : Addr → Ow → D → (D → Ow → Prop) → (Xd → Ow → Prop) → Prop := fun C o v Q W => ∃ (ix : Int) (L : List Nat) (i c : Nat), RdI C o ix L i ∧ v = .str (mk [c]) ∧ Q (.bl (decide (L[i]? = some c))) (.oi C (rdF ix L i))
theorem ok_Reader_is_next {A_Reader : Addr} (l_Reader : L2.Cls K A_Reader) (o_Reader_at : OFld K A_Reader "at") (o_Reader_line : OFld K A_Reader "line") (h_Reader_is_next : DfnM K A_Reader "is_next" "Reader.is_next" s_Reader_is_next ["self", "sign"]) (B : Bl mg) : CalMO P w K mg base A_Reader "is_next" 1 ["self", "sign"] (sox1 (R_Reader_is_next A_Reader)) := by
  refine cal_methO h_Reader_is_next sc_Reader_is_next sox1_len ⟨_, fun f cdv A outer s H E hgd hr => (b_one (s_ret (d_eq hr.units (d_slice (d_fldO K 0) (o_some (d_fldO K 0)) (o_some (d_add (d_fldO K 0) d_int))) (dv 1)))), sox1_by ?_⟩
  rintro _ _ Q W ⟨ix, L, i, c, ⟨rfl, hl, hi⟩, rfl, q⟩
  walk_at "rd"
  refine ⟨o_Reader_line, _, rfl, o_Reader_at, _, rfl, ?_⟩
  dsimp only
  refine ⟨o_Reader_at, _, rfl, ?_⟩
  dsimp only
  refine ⟨by rw [mk_len]; exact small_le (by omega), _, rfl, ?_⟩
  rw [cut_next hi]
  exact q
abbrev s_Reader_need : Stmt := clsub (top 9) 4
abbrev N_Reader_need : List Str := ["self", "text", "sign"]
theorem sc_Reader_need : FnScope N_Reader_need ["self", "text"] (defScope s_Reader_need) := ⟨rfl, rfl, rfl, by decide +kernel, rfl, by decide +kernel, by decide +kernel⟩
def R_Reader_need : Addr → Ow → D → (D → Ow → Prop) → (Xd → Ow → Prop) → Prop := fun C o v Q W => ∃ (ix : Int) (L S R : List Nat) (i : Nat), RdI C o ix L i ∧ v = .str (mk S) ∧ L.drop i = S ++ R ∧ Q .non (.oi C (rdF ix L (i + S.length)))
theorem ok_Reader_need {A_Reader : Addr} (l_Reader : L2.Cls K A_Reader) (o_Reader_at : OFld K A_Reader "at") (o_Reader_line : OFld K A_Reader "line") (h_Reader_need : DfnM K A_Reader "need" "Reader.need" s_Reader_need ["self", "text"]) (B : Bl mg) (c_Reader_is_next : CalMO P w K mg base A_Reader "is_next" 1 ["self", "sign"] (sox1 (R_Reader_is_next A_Reader))) (c_Reader_refuse : CalMO P w K mg base A_Reader "refuse" 2 ["self"] (sox0 (R_Reader_refuse A_Reader))) : CalMO P w K mg base A_Reader "need" 3 ["self", "text"] (sox1 (R_Reader_need A_Reader)) := by
  obtain ⟨f_Reader_is_next, fd_Reader_is_next, C_Reader_is_next⟩ := c_Reader_is_next
  obtain ⟨f_Reader_refuse, fd_Reader_refuse, C_Reader_refuse⟩ := c_Reader_refuse
  refine cal_methO h_Reader_need sc_Reader_need sox1_len ⟨_, fun f cdv A outer s H E hgd hr => (b_one (s_for (passes_of rfl) rfl (i_txt (dv 1)) (g_name (i := 2) sc_Reader_need.nd) (b_cons (s_if (t_not (t_val (d_nx (x_methO 0 C_Reader_is_next.cl C_Reader_is_next.mt C_Reader_is_next.fn hgd (hr.mono (by decide)) C_Reader_is_next.bd (ax_of (dc (dv 2) dn)))))) (b_one (s_expr (d_nx (x_methO0 0 C_Reader_refuse.cl C_Reader_refuse.mt C_Reader_refuse.fn hgd hr C_Reader_refuse.bd)))) b_nil)
    (b_one (s_fldAug K 0 in_add rd_add d_int))))), sox1_by ?_⟩
  rintro _ _ Q W ⟨ix, L, S, R, i, ⟨rfl, hl, hi⟩, rfl, e, q⟩
  walk_at "rd"
  obtain ⟨IO, hIO⟩ : ∃ P : Nat → En → Prop, ∀ j E, P j E ↔ ∃ (s2 : Sl), s2.free ∧ j ≤ S.length ∧ E = [Sl.ow true (Ow.oi A_Reader (rdF ix L (i + j))), Sl.fz (D.str (mk S)), s2] := ⟨_, fun _ _ => Iff.rfl⟩
  have le : i + S.length ≤ L.length := by
    by_cases c : S = []
    · rw [c]
      exact hi
    · exact at_le e c
  refine ⟨fun j E => IO j E, (hIO _ _).mpr ⟨.un, True.intro, Nat.zero_le _, rfl⟩, ?_, ?_⟩
  · rintro j y _ hj hE
    obtain ⟨s2, f2, jl, rfl⟩ := (hIO _ _).mp hE
    clear hE
    obtain ⟨c, hc, rfl⟩ := chD_get hj
    have jl := (List.getElem?_eq_some_iff.mp hc).1
    have hc2 : L[i + j]? = some c := by rw [at_pre e j jl, hc]
    refine ⟨f2, ?_⟩
    refine seq_intro fun k hk => ?_
    walk_at "rd"
    refine ⟨rfl, ix, L, i + j, c, ⟨rfl, hl, by omega⟩, rfl, ?_⟩
    rw [decide_eq_true hc2]
    subst hk
    walk_at "rd"
    refine ⟨o_Reader_at, _, rfl, ?_⟩
    walk_at "rd"
    refine ⟨by show (3 : Nat) < 1000; decide, ?_⟩
    rw [show ((i + j : Nat) : Int) + 1 = ((i + (j + 1) : Nat) : Int) by omega]
    exact (hIO _ _).mpr ⟨.fz (.str (mk [c])), True.intro, by omega, rfl⟩
  · rintro _ hE
    obtain ⟨s2, f2, jl, rfl⟩ := (hIO _ _).mp hE
    rw [chD_len]
    exact ⟨_, rfl, q⟩
abbrev s_Reader_end : Stmt := clsub (top 9) 5
abbrev N_Reader_end : List Str := ["self"]
theorem sc_Reader_end : FnScope N_Reader_end ["self"] (defScope s_Reader_end) := ⟨rfl, rfl, rfl, by decide +kernel, rfl, by decide +kernel, by decide +kernel⟩
def R_Reader_end : Addr → Ow → (D → Ow → Prop) → (Xd → Ow → Prop) → Prop := fun C o Q W => ∃ (ix : Int) (L : List Nat) (i : Nat), RdI C o ix L i ∧ i = L.length ∧ Q .non (.oi C (rdF ix L i))
theorem ok_Reader_end {A_Reader : Addr} (l_Reader : L2.Cls K A_Reader) (h_Reader_end : DfnM K A_Reader "end" "Reader.end" s_Reader_end ["self"]) (B : Bl mg) (c_Reader_is_done : CalMO P w K mg base A_Reader "is_done" 1 ["self"] (sox0 (R_Reader_is_done A_Reader))) (c_Reader_refuse : CalMO P w K mg base A_Reader "refuse" 2 ["self"] (sox0 (R_Reader_refuse A_Reader))) : CalMO P w K mg base A_Reader "end" 3 ["self"] (sox0 (R_Reader_end A_Reader)) := by
  obtain ⟨f_Reader_is_done, fd_Reader_is_done, C_Reader_is_done⟩ := c_Reader_is_done
  obtain ⟨f_Reader_refuse, fd_Reader_refuse, C_Reader_refuse⟩ := c_Reader_refuse
  refine cal_methO h_Reader_end sc_Reader_end sox0_len ⟨_, fun f cdv A outer s H E hgd hr => (b_one (s_if (t_not (t_val (d_nx (x_methO0 0 C_Reader_is_done.cl C_Reader_is_done.mt C_Reader_is_done.fn hgd (hr.mono (by decide)) C_Reader_is_done.bd)))) (b_one (s_expr (d_nx (x_methO0 0 C_Reader_refuse.cl C_Reader_refuse.mt C_Reader_refuse.fn hgd hr C_Reader_refuse.bd)))) b_nil)), sox0_by ?_⟩
  rintro _ Q W ⟨ix, L, i, ⟨rfl, hl, hi⟩, e, q⟩
  walk_at "rd"
  refine ⟨rfl, ix, L, i, ⟨rfl, hl, hi⟩, ?_⟩
  rw [decide_eq_true e]
  exact ⟨_, rfl, q⟩
abbrev s_Reader_digit : Stmt := clsub (top 9) 6
abbrev N_Reader_digit : List Str := ["self"]
theorem sc_Reader_digit : FnScope N_Reader_digit ["self"] (defScope s_Reader_digit) := ⟨rfl, rfl, rfl, by decide +kernel, rfl, by decide +kernel, by decide +kernel⟩
def R_Reader_digit : Addr → Ow → (D → Ow → Prop) → (Xd → Ow → Prop) → Prop := fun C o Q W => ∃ (ix : Int) (L : List Nat) (i : Nat), RdI C o ix L i ∧ Q (.int (dig L i)) (.oi C (rdF ix L i))
theorem ok_Reader_digit {A_Reader : Addr} (l_Reader : L2.Cls K A_Reader) (o_Reader_at : OFld K A_Reader "at") (o_Reader_line : OFld K A_Reader "line") (h_Reader_digit : DfnM K A_Reader "digit" "Reader.digit" s_Reader_digit ["self"]) (B : Bl mg) (v_DIGITS : ∃ t, mg "DIGITS" = some (.str "0123456789" t)) (c_Reader_is_done : CalMO P w K mg base A_Reader "is_done" 1 ["self"] (sox0 (R_Reader_is_done A_Reader))) : CalMO P w K mg base A_Reader "digit" 2 ["self"] (sox0 (R_Reader_digit A_Reader)) := by
  obtain ⟨f_Reader_is_done, fd_Reader_is_done, C_Reader_is_done⟩ := c_Reader_is_done
  refine cal_methO h_Reader_digit sc_Reader_digit sox0_len ⟨_, fun f cdv A outer s H E hgd hr => (b_one (s_ret (d_ifx (t_val (d_nx (x_methO0 0 C_Reader_is_done.cl C_Reader_is_done.mt C_Reader_is_done.fn hgd hr C_Reader_is_done.bd))) (d_neg d_int) (d_find (d_globS v_DIGITS) (d_ix (d_fldO K 0) (d_fldO K 0)))))), sox0_by ?_⟩
  rintro _ Q W ⟨ix, L, i, ⟨rfl, hl, hi⟩, q⟩
  walk_at "rd"
  refine ⟨rfl, ix, L, i, ⟨rfl, hl, hi⟩, ?_⟩
  by_cases c : i = L.length
  · rw [decide_eq_true c]
    have e : dig L i = -1 := by
      unfold dig
      rw [List.getElem?_eq_none (by omega)]
    rw [e] at q
    exact ⟨_, rfl, q⟩
  · rw [decide_eq_false c]
    have il : i < L.length := by omega
    dsimp only
    rw [if_neg (by decide)]
    refine ⟨o_Reader_line, _, rfl, o_Reader_at, _, rfl, ?_⟩
    dsimp only
    refine ⟨by rw [mk_len]; exact small_le (by omega), ?_⟩
    rw [show atI (mk L).cps.toList (i : Int) = some L[i] from atI_nat il]
    dsimp only
    refine ⟨_, rfl, ?_⟩
    rw [show Str.ofString "0123456789" = mk digs from by decide +kernel, find_dig]
    have e : dig L i = digV L[i] := by
      unfold dig
      rw [List.getElem?_eq_getElem il]
    rw [← e]
    exact q
abbrev s_Reader_read_number : Stmt := clsub (top 9) 7
abbrev N_Reader_read_number : List Str := ["self", "low", "high", "found"]
theorem sc_Reader_read_number : FnScope N_Reader_read_number ["self", "low", "high"] (defScope s_Reader_read_number) := ⟨rfl, rfl, rfl, by decide +kernel, rfl, by decide +kernel, by decide +kernel⟩
def R_Reader_read_number : Addr → Ow → D → D → (D → Ow → Prop) → (Xd → Ow → Prop) → Prop := fun C o a b Q W => ∃ (ix lo hi : Int) (L R : List Nat) (i n : Nat), RdI C o ix L i ∧ a = .int lo ∧ b = .int hi ∧ L.drop i = numL n ++ R ∧ Nd R ∧ n ≤ hi ∧ n < 2 ^ 900 ∧ (lo = 0 ∨ lo = 1 ∧ 0 < n) ∧ Q (.int n) (.oi C (rdF ix L (i + (numL n).length)))
theorem ok_Reader_read_number {A_Reader : Addr} (l_Reader : L2.Cls K A_Reader) (o_Reader_at : OFld K A_Reader "at") (o_Reader_line : OFld K A_Reader "line") (h_Reader_read_number : DfnM K A_Reader "read_number" "Reader.read_number" s_Reader_read_number ["self", "low", "high"]) (B : Bl mg) (c_Reader_digit : CalMO P w K mg base A_Reader "digit" 2 ["self"] (sox0 (R_Reader_digit A_Reader))) (c_Reader_refuse : CalMO P w K mg base A_Reader "refuse" 2 ["self"] (sox0 (R_Reader_refuse A_Reader))) : CalMO P w K mg base A_Reader "read_number" 3 ["self", "low", "high"] (sox2 (R_Reader_read_number A_Reader)) := by
  obtain ⟨f_Reader_digit, fd_Reader_digit, C_Reader_digit⟩ := c_Reader_digit
  obtain ⟨f_Reader_refuse, fd_Reader_refuse, C_Reader_refuse⟩ := c_Reader_refuse
  refine cal_methO h_Reader_read_number sc_Reader_read_number sox2_len ⟨_, fun f cdv A outer s H E hgd hr => (b_cons (s_set (i := 3) sc_Reader_read_number.nd (d_nx (x_methO0 0 C_Reader_digit.cl C_Reader_digit.mt C_Reader_digit.fn hgd hr C_Reader_digit.bd)))
    (b_cons (s_if (t_lt (dv 3) (dv 1)) (b_one (s_expr (d_nx (x_methO0 0 C_Reader_refuse.cl C_Reader_refuse.mt C_Reader_refuse.fn hgd hr C_Reader_refuse.bd)))) b_nil)
    (b_cons (s_fldAug K 0 in_add rd_add d_int)
    (b_cons (s_while (passes_of rfl) (t_w (w_and (t_gt (dv 3) d_int) (w_and (t_ge (d_nx (x_methO0 0 C_Reader_digit.cl C_Reader_digit.mt C_Reader_digit.fn hgd hr C_Reader_digit.bd)) d_int) (w_and1 (t_le (d_add (d_mul (dv 3) d_int) (d_nx (x_methO0 0 C_Reader_digit.cl C_Reader_digit.mt C_Reader_digit.fn hgd hr C_Reader_digit.bd))) (dv 2)))))) (b_cons (s_set (i := 3) sc_Reader_read_number.nd (d_add (d_mul (dv 3) d_int) (d_nx (x_methO0 0 C_Reader_digit.cl C_Reader_digit.mt C_Reader_digit.fn hgd hr C_Reader_digit.bd))))
    (b_one (s_fldAug K 0 in_add rd_add d_int))))
    (b_one (s_ret (dv 3))))))), sox2_by ?_⟩
  rintro _ _ _ Q W ⟨ix, lo, hi, L, R, i, n, ⟨rfl, hl, hi'⟩, rfl, rfl, e, nd, nh, nb, lo1, q⟩
  obtain ⟨t0, m10, m0⟩ : ∃ t, n / 10 ^ t < 10 ∧ (0 < n / 10 ^ t ∨ n = 0 ∧ t = 0) := by
    by_cases z : n = 0
    · exact ⟨0, by rw [z]; decide, .inr ⟨z, rfl⟩⟩
    · obtain ⟨t, a, b⟩ := num_first n (by omega)
      exact ⟨t, a, .inl b⟩
  obtain ⟨B, hB⟩ : ∃ B, numL n = numL (n / 10 ^ t0) ++ B := by
    rcases m0 with z | ⟨z, z2⟩
    · exact num_pre n t0 z
    · exact ⟨[], by rw [z2, Nat.pow_zero, Nat.div_one, List.append_nil]⟩
  have le := at_le e (numL_ne n)
  have d0 : dig L i = ((n / 10 ^ t0 : Nat) : Int) := by
    have e2 : L.drop i = [48 + n / 10 ^ t0] ++ (B ++ R) := by rw [e, hB, numL_lt m10, List.append_assoc]
    have := at_pre e2 0 (by show 0 < 1; decide)
    unfold dig
    rw [show L[i]? = some (48 + n / 10 ^ t0) from this]
    exact digV_lt m10
  refine seq_intro fun k hk => ?_
  walk_at "rd"
  refine ⟨rfl, ix, L, i, ⟨rfl, hl, hi'⟩, ?_⟩
  rw [d0]
  subst hk
  refine seq_intro fun k hk => ?_
  walk_at "rd"
  rw [if_neg (fun z => by
    have z := of_decide_eq_true z
    rcases lo1 with rfl | ⟨rfl, z2⟩
    · exact absurd z (Int.not_lt.mpr (Int.natCast_nonneg _))
    · have z3 : n / 10 ^ t0 < 1 := Int.ofNat_lt.mp z
      rcases m0 with y | ⟨y, _⟩
      · exact absurd (Nat.lt_one_iff.mp z3) (Nat.pos_iff_ne_zero.mp y)
      · rw [y] at z2
        cases z2)]
  subst hk
  refine seq_intro fun k hk => ?_
  walk_at "rd"
  refine ⟨o_Reader_at, _, rfl, ?_⟩
  walk_at "rd"
  refine ⟨by show (3 : Nat) < 1000; decide, ?_⟩
  subst hk
  refine seq_intro fun k hk => ?_
  obtain ⟨IW, hIW⟩ : ∃ P : Nat → En → Prop, ∀ t E, P t E ↔ (0 < n / 10 ^ t ∨ n = 0 ∧ t = 0) ∧ E = [Sl.ow true (Ow.oi A_Reader (rdF ix L (i + (numL (n / 10 ^ t)).length))), Sl.fz (D.int lo), Sl.fz (D.int hi), Sl.fz (D.int ((n / 10 ^ t : Nat) : Int))] := ⟨_, fun _ _ => Iff.rfl⟩
  refine ⟨fun t E => IW t E, ⟨t0, (hIW _ _).mpr ⟨m0, by rw [numL_lt m10]; rfl⟩⟩, fun t E hE => ?_⟩
  obtain ⟨hm, rfl⟩ := (hIW _ _).mp hE
  clear hE
  rcases hm with mp | ⟨z, z2⟩
  · obtain ⟨B2, hB2⟩ := num_pre n t mp
    have le2 : i + (numL (n / 10 ^ t)).length ≤ L.length := at_le (B := B2 ++ R) (by rw [e, hB2, List.append_assoc]) (numL_ne _)
    walk_at "rd"
    rw [if_pos (decide_eq_true (show (0 : Int) < ((n / 10 ^ t : Nat) : Int) from Int.natCast_pos.mpr mp))]
    refine ⟨rfl, ix, L, _, ⟨rfl, hl, le2⟩, ?_⟩
    cases t with
    | zero =>
      have d1 : dig L (i + (numL (n / 10 ^ 0)).length) = -1 := by
        rw [Nat.pow_zero, Nat.div_one]
        exact dig_nd e nd
      rw [d1]
      walk_at "rd"
      subst hk
      rw [Nat.pow_zero, Nat.div_one]
      walk_at "rd"
      rw [if_neg (by decide)]
      exact ⟨_, rfl, q⟩
    | succ t =>
      obtain ⟨d1, d2, d3⟩ := num_next (L := L) (R := R) (i := i) (n := n) (t := t) e mp
      rw [d1]
      have e5 : ((n / 10 ^ (t + 1) : Nat) : Int) * 10 + ((n / 10 ^ t % 10 : Nat) : Int) = ((n / 10 ^ t : Nat) : Int) := by
        generalize n / 10 ^ (t + 1) = a at d2 ⊢
        generalize n / 10 ^ t = b at d2 ⊢
        omega
      have e6 : ((i + (numL (n / 10 ^ (t + 1))).length : Nat) : Int) + 1 = ((i + (numL (n / 10 ^ t)).length : Nat) : Int) := by
        rw [d3, List.length_append, List.length_singleton]
        omega
      have le3 : ((n / 10 ^ t : Nat) : Int) ≤ hi := Int.le_trans (Int.ofNat_le.mpr (Nat.div_le_self _ _)) nh
      walk_at "rd"
      rw [if_pos (decide_eq_true (Int.natCast_nonneg _))]
      refine ⟨cmulR (by decide) (by decide), rfl, ix, L, _, ⟨rfl, hl, le2⟩, ?_⟩
      rw [d1]
      dsimp only
      rw [e5, if_pos (decide_eq_true le3)]
      refine ⟨cmulR (by decide) (by decide), ⟨rfl, rfl⟩, ix, L, _, ⟨rfl, hl, le2⟩, ?_⟩
      rw [d1]
      try dsimp only
      refine ⟨o_Reader_at, _, rfl, ?_⟩
      try dsimp only
      refine ⟨rfl, by show (3 : Nat) < 1000; decide, t, Nat.lt_succ_self _, (hIW _ _).mpr ⟨.inl ?_, ?_⟩⟩
      · generalize n / 10 ^ (t + 1) = a at d2 mp
        generalize n / 10 ^ t = b at d2 ⊢
        omega
      · rw [e5, e6]
        rfl
  · walk_at "rd"
    rw [if_neg (fun w => by
      have w : (0 : Int) < ((n / 10 ^ t : Nat) : Int) := of_decide_eq_true w
      rw [z, Nat.zero_div] at w
      exact absurd w (by decide))]
    subst hk
    rw [z2, Nat.pow_zero, Nat.div_one]
    walk_at "rd"
    exact ⟨_, rfl, q⟩
abbrev s_need_text : Stmt := top 10
abbrev N_need_text : List Str := ["value"]
theorem sc_need_text : FnScope N_need_text ["value"] (defScope s_need_text) := ⟨rfl, rfl, rfl, by decide +kernel, rfl, by decide +kernel, by decide +kernel⟩
def R_need_text : D → (D → Prop) → Prop := fun v Q => ∃ s : Str, v = .str s ∧ Q .non
theorem ok_need_text (h_need_text : Dfn K mg "need_text" s_need_text ["value"]) (B : Bl mg) : Cal P w K mg base CX0 "need_text" 1 ["value"] (liftP K (sp1 R_need_text)) := by
  refine cal_pure h_need_text sc_need_text (by decide) sp1_len ⟨_, fun f cdv A outer s H E hgd hr => (b_one (s_if (t_not (t_val (d_isi B.isinstance (dc (dv 0) (dc (d_ty B.str PyProof.Rows.boot_str) dn))))) (b_one s_never) b_nil)), sp1_by ?_⟩
  rintro _ Q ⟨s, rfl, q⟩
  walk_at "rd"
  exact q
open TL
theorem sX : Str.ofString "x" = mk [120] := by decide +kernel
theorem sB : Str.ofString "*(" = mk [42, 40] := by decide +kernel
theorem sS : Str.ofString " " = mk [32] := by decide +kernel
theorem sM : Str.ofString "*" = mk [42] := by decide +kernel
theorem sC : Str.ofString ")" = mk [41] := by decide +kernel
theorem sN : Str.ofString "n" = mk [110] := by decide +kernel
theorem sNone : Str.ofString "none" = mk [110, 111, 110, 101] := by decide +kernel
abbrev s_read_times : Stmt := top 14
abbrev N_read_times : List Str := ["reader", "times"]
theorem sc_read_times : FnScope N_read_times ["reader"] (defScope s_read_times) := ⟨rfl, rfl, rfl, by decide +kernel, rfl, by decide +kernel, by decide +kernel⟩
def R_read_times : Addr → Ow → (D → Ow → Prop) → (Xd → Ow → Prop) → Prop := fun C o Q W => ∃ (ix : Int) (L R : List Nat) (i t : Nat), RdI C o ix L i ∧ L.drop i = tmL t ++ R ∧ Sp R ∧ 1 ≤ t ∧ t ≤ G30 ∧ Q (.int t) (.oi C (rdF ix L (i + (tmL t).length)))
theorem ok_read_times {A_Reader : Addr} (l_Reader : L2.Cls K A_Reader) (h_read_times : Dfn K mg "read_times" s_read_times ["reader"]) (B : Bl mg) (v_MOST_TIMES : ∃ t, mg "MOST_TIMES" = some (.int 1000000000000000000000000000000 t)) (c_Reader_need : CalMO P w K mg base A_Reader "need" 3 ["self", "text"] (sox1 (R_Reader_need A_Reader))) (c_Reader_read_number : CalMO P w K mg base A_Reader "read_number" 3 ["self", "low", "high"] (sox2 (R_Reader_read_number A_Reader))) (c_Reader_is_next : CalMO P w K mg base A_Reader "is_next" 1 ["self", "sign"] (sox1 (R_Reader_is_next A_Reader))) (c_Reader_refuse : CalMO P w K mg base A_Reader "refuse" 2 ["self"] (sox0 (R_Reader_refuse A_Reader))) : Cal P w K mg base (L2.CX P w) "read_times" 4 ["reader"] (liftOX K mg (sox0 (R_read_times A_Reader))) := by
  obtain ⟨f_Reader_need, fd_Reader_need, C_Reader_need⟩ := c_Reader_need
  obtain ⟨f_Reader_read_number, fd_Reader_read_number, C_Reader_read_number⟩ := c_Reader_read_number
  obtain ⟨f_Reader_is_next, fd_Reader_is_next, C_Reader_is_next⟩ := c_Reader_is_next
  obtain ⟨f_Reader_refuse, fd_Reader_refuse, C_Reader_refuse⟩ := c_Reader_refuse
  refine cal_ownX h_read_times sc_read_times sox0_len ⟨_, fun f cdv A outer s H E hgd hr => (b_cons (s_if (t_not (t_val (d_nx (x_methO 0 C_Reader_is_next.cl C_Reader_is_next.mt C_Reader_is_next.fn hgd (hr.mono (by decide)) C_Reader_is_next.bd (ax_of (dc d_str dn)))))) (b_one (s_ret d_int)) b_nil)
    (b_cons (s_expr (d_nx (x_methO 0 C_Reader_need.cl C_Reader_need.mt C_Reader_need.fn hgd hr C_Reader_need.bd (ax_of (dc d_str dn)))))
    (b_cons (s_set (i := 1) sc_read_times.nd (d_nx (x_methO 0 C_Reader_read_number.cl C_Reader_read_number.mt C_Reader_read_number.fn hgd hr C_Reader_read_number.bd (ax_of (dc d_int (dc (d_globI v_MOST_TIMES) dn))))))
    (b_cons (s_if (t_eq hr.units (dv 1) d_int) (b_one (s_expr (d_nx (x_methO0 0 C_Reader_refuse.cl C_Reader_refuse.mt C_Reader_refuse.fn hgd (hr.mono (by decide)) C_Reader_refuse.bd)))) b_nil)
    (b_one (s_ret (dv 1))))))), sox0_by ?_⟩
  rintro _ Q W ⟨ix, L, R, i, t, ⟨rfl, hl, hi⟩, e, sp, t1, t2, q⟩
  refine seq_intro fun k hk => ?_
  walk_at "rd"
  rw [sX]
  refine ⟨rfl, ix, L, i, 120, ⟨rfl, hl, hi⟩, rfl, ?_⟩
  by_cases c : t = 1
  · subst c
    have e : L.drop i = [] ++ R := e
    have h0 : L[i]? = R[0]? := by
      have := at_end e
      exact this
    rw [decide_eq_false (fun z => by
      rw [h0] at z
      rcases sp _ z with z | z <;> cases z)]
    exact ⟨_, rfl, q⟩
  · have et : tmL t = 120 :: numL t := if_neg c
    rw [et] at e q
    have e1 : L.drop i = [120] ++ (numL t ++ R) := e
    have e2 := drop_app e1
    have le := at_le e1 (by simp)
    rw [decide_eq_true (show L[i]? = some 120 from at_pre e1 0 (by decide))]
    subst hk
    dsimp only
    rw [if_neg (by decide)]
    refine seq_intro fun k hk => ?_
    walk_at "rd"
    rw [sX]
    refine ⟨rfl, ix, L, [120], numL t ++ R, i, ⟨rfl, hl, hi⟩, rfl, e1, ?_⟩
    subst hk
    refine seq_intro fun k hk => ?_
    walk_at "rd"
    refine ⟨rfl, ix, 1, 1000000000000000000000000000000, L, R, i + [120].length, t, ⟨rfl, hl, le⟩, rfl, rfl, e2, sp.nd, by unfold G30 at t2; omega, Nat.lt_of_le_of_lt t2 (by decide +kernel), .inr ⟨rfl, by omega⟩, ?_⟩
    subst hk
    refine seq_intro fun k hk => ?_
    walk_at "rd"
    rw [if_neg (fun z => c (by have := of_decide_eq_true z; omega))]
    subst hk
    walk_at "rd"
    refine ⟨_, rfl, ?_⟩
    rw [show i + 1 + (numL t).length = i + (120 :: numL t).length by rw [List.length_cons]; omega]
    exact q
abbrev s_read_run : Stmt := top 15
abbrev N_read_run : List Str := ["reader", "index"]
theorem sc_read_run : FnScope N_read_run ["reader"] (defScope s_read_run) := ⟨rfl, rfl, rfl, by decide +kernel, rfl, by decide +kernel, by decide +kernel⟩
def R_read_run : Addr → Ow → (D → Ow → Prop) → (Xd → Ow → Prop) → Prop := fun C o Q W => ∃ (ix : Int) (L R : List Nat) (i : Nat) (r : Nat × Nat), RdI C o ix L i ∧ L.drop i = rnL r ++ R ∧ Sp R ∧ RnOk r ∧ Q (rnD r) (.oi C (rdF ix L (i + (rnL r).length)))
theorem ok_read_run {A_Reader : Addr} (l_Reader : L2.Cls K A_Reader) (h_read_run : Dfn K mg "read_run" s_read_run ["reader"]) (B : Bl mg) (v_MAX_OFFERS : ∃ t, mg "MAX_OFFERS" = some (.int 40 t)) (c_Reader_read_number : CalMO P w K mg base A_Reader "read_number" 3 ["self", "low", "high"] (sox2 (R_Reader_read_number A_Reader))) (c_read_times : Cal P w K mg base (L2.CX P w) "read_times" 4 ["reader"] (liftOX K mg (sox0 (R_read_times A_Reader)))) : Cal P w K mg base (L2.CX P w) "read_run" 5 ["reader"] (liftOX K mg (sox0 (R_read_run A_Reader))) := by
  obtain ⟨f_Reader_read_number, fd_Reader_read_number, C_Reader_read_number⟩ := c_Reader_read_number
  obtain ⟨f_read_times, fd_read_times, C_read_times⟩ := c_read_times
  refine cal_ownX h_read_run sc_read_run sox0_len ⟨_, fun f cdv A outer s H E hgd hr => (b_cons (s_set (i := 1) sc_read_run.nd (d_nx (x_methO 0 C_Reader_read_number.cl C_Reader_read_number.mt C_Reader_read_number.fn hgd (hr.mono (by decide)) C_Reader_read_number.bd (ax_of (dc d_int (dc (d_sub (d_globI v_MAX_OFFERS) d_int) dn))))))
    (b_one (s_ret (d_tup (dc (dv 1) (dc (d_nx (x_callOX 0 C_read_times.fn hgd hr C_read_times.mg C_read_times.kp C_read_times.bd (ax_of dn))) dn)))))), sox0_by ?_⟩
  rintro _ Q W ⟨ix, L, R, i, r, ⟨rfl, hl, hi⟩, e, sp, ok, q⟩
  have oi := ok.i
  have e1 : L.drop i = numL r.1 ++ (tmL r.2 ++ R) := by rw [e]; exact List.append_assoc ..
  refine seq_intro fun k hk => ?_
  walk_at "rd"
  refine ⟨rfl, ix, 0, 40 - 1, L, tmL r.2 ++ R, i, r.1, ⟨rfl, hl, hi⟩, rfl, rfl, e1, tm_nd sp, by omega, Nat.lt_of_lt_of_le oi (by decide +kernel), .inl rfl, ?_⟩
  subst hk
  walk_at "rd"
  refine ⟨ix, L, R, _, r.2, ⟨rfl, hl, at_le e1 (numL_ne _)⟩, drop_app e1, sp, ok.t1, ok.t2, small_le (by decide), _, rfl, ?_⟩
  rw [show i + (numL r.1).length + (tmL r.2).length = i + (rnL r).length by unfold rnL; rw [List.length_append]; omega]
  exact q
abbrev s_read_round : Stmt := top 16
abbrev N_read_round : List Str := ["reader", "times", "most", "runs"]
theorem sc_read_round : FnScope N_read_round ["reader", "times", "most"] (defScope s_read_round) := ⟨rfl, rfl, rfl, by decide +kernel, rfl, by decide +kernel, by decide +kernel⟩
def R_read_round : Addr → Ow → D → D → (D → Ow → Prop) → (Xd → Ow → Prop) → Prop := fun C o a b Q W => ∃ (ix : Int) (L R : List Nat) (i t most : Nat) (rs : List (Nat × Nat)), RdI C o ix L i ∧ a = .int t ∧ b = .int most ∧ L.drop i = [42, 40] ++ (joinL [32] (rs.map rnL) ++ ([41] ++ R)) ∧ rs ≠ [] ∧ (∀ r ∈ rs, RnOk r) ∧ rs.length ≤ most ∧ most ≤ 200 ∧ Q (.tup [.tup (rs.map rnD), .int t]) (.oi C (rdF ix L (i + ([42, 40] ++ (joinL [32] (rs.map rnL) ++ [41])).length)))
theorem ok_read_round {A_Reader : Addr} (l_Reader : L2.Cls K A_Reader) (h_read_round : Dfn K mg "read_round" s_read_round ["reader", "times", "most"]) (B : Bl mg) (c_Reader_need : CalMO P w K mg base A_Reader "need" 3 ["self", "text"] (sox1 (R_Reader_need A_Reader))) (c_read_run : Cal P w K mg base (L2.CX P w) "read_run" 5 ["reader"] (liftOX K mg (sox0 (R_read_run A_Reader)))) (c_Reader_is_next : CalMO P w K mg base A_Reader "is_next" 1 ["self", "sign"] (sox1 (R_Reader_is_next A_Reader))) : Cal P w K mg base (L2.CX P w) "read_round" 6 ["reader", "times", "most"] (liftOX K mg (sox2 (R_read_round A_Reader))) := by
  obtain ⟨f_Reader_need, fd_Reader_need, C_Reader_need⟩ := c_Reader_need
  obtain ⟨f_read_run, fd_read_run, C_read_run⟩ := c_read_run
  obtain ⟨f_Reader_is_next, fd_Reader_is_next, C_Reader_is_next⟩ := c_Reader_is_next
  refine cal_ownX h_read_round sc_read_round sox2_len ⟨_, fun f cdv A outer s H E hgd hr => (b_cons (s_expr (d_nx (x_methO 0 C_Reader_need.cl C_Reader_need.mt C_Reader_need.fn hgd (hr.mono (by decide)) C_Reader_need.bd (ax_of (dc d_str dn)))))
    (b_cons (s_newL (i := 3) sc_read_round.nd (dc (d_nx (x_callOX 0 C_read_run.fn hgd hr C_read_run.mg C_read_run.kp C_read_run.bd (ax_of dn))) dn))
    (b_cons (s_while (passes_of rfl) (t_w (w_and (t_lt (d_lenV 3 B.len) (dv 2)) (w_and1 (t_val (d_nx (x_methO 0 C_Reader_is_next.cl C_Reader_is_next.mt C_Reader_is_next.fn hgd (hr.mono (by decide)) C_Reader_is_next.bd (ax_of (dc d_str dn)))))))) (b_cons (s_expr (d_nx (x_methO 0 C_Reader_need.cl C_Reader_need.mt C_Reader_need.fn hgd (hr.mono (by decide)) C_Reader_need.bd (ax_of (dc d_str dn)))))
    (b_one (s_app 3 (d_nx (x_callOX 0 C_read_run.fn hgd hr C_read_run.mg C_read_run.kp C_read_run.bd (ax_of dn)))))))
    (b_cons (s_expr (d_nx (x_methO 0 C_Reader_need.cl C_Reader_need.mt C_Reader_need.fn hgd (hr.mono (by decide)) C_Reader_need.bd (ax_of (dc d_str dn)))))
    (b_one (s_ret (d_tup (dc (d_tuplec B.tuple (dc (dv 3) dn)) (dc (dv 1) dn))))))))), sox2_by ?_⟩
  rintro _ _ _ Q W ⟨ix, L, R, i, t, most, rs, ⟨rfl, hl, hi⟩, rfl, rfl, e, ne, ok, rl, m2, q⟩
  refine seq_intro fun k hk => ?_
  walk_at "rd"
  rw [sB]
  have e2 := drop_app e
  have le := at_le e (by simp)
  refine ⟨rfl, ix, L, [42, 40], _, i, ⟨rfl, hl, hi⟩, rfl, e, ?_⟩
  obtain ⟨r0, rs, rfl⟩ : ∃ r0 rs', rs = r0 :: rs' := by
    cases rs with
    | nil => exact absurd rfl ne
    | cons a b => exact ⟨a, b, rfl⟩
  simp only [List.map_cons, joinL_cons] at e2 q
  have e3 : L.drop (i + 2) = rnL r0 ++ (tlL rs ++ ([41] ++ R)) := by
    rw [← List.append_assoc]
    exact e2
  have l3 := at_le e3 (rnL_ne r0)
  subst hk
  refine seq_intro fun k hk => ?_
  walk_at "rd"
  refine ⟨ix, L, tlL rs ++ ([41] ++ R), _, r0, ⟨rfl, hl, le⟩, e3, tl_sp rs R, ok r0 (List.mem_cons_self ..), small_le (by decide), ?_⟩
  subst hk
  refine seq_intro fun k hk => ?_
  obtain ⟨IW, hIW⟩ : ∃ P : Nat → En → Prop, ∀ mu E, P mu E ↔ ∃ (dn td : List (Nat × Nat)) (p : Nat), rs = dn ++ td ∧ mu = td.length ∧ p ≤ L.length ∧ L.drop p = tlL td ++ ([41] ++ R) ∧ p + (tlL td).length = i + 2 + (rnL r0).length + (tlL rs).length ∧ E = [Sl.ow true (Ow.oi A_Reader (rdF ix L p)), Sl.fz (D.int t), Sl.fz (D.int most), Sl.ow false (Ow.ol ((r0 :: dn).map rnD))] := ⟨_, fun _ _ => Iff.rfl⟩
  refine ⟨fun mu E => IW mu E, ⟨_, (hIW _ _).mpr ⟨[], rs, _, rfl, rfl, l3, drop_app e3, rfl, rfl⟩⟩, fun mu E hE => ?_⟩
  obtain ⟨dn, td, p, ers, rfl, pl, ep, es, rfl⟩ := (hIW _ _).mp hE
  clear hE
  cases td with
  | nil =>
    have K : k [Sl.ow true (Ow.oi A_Reader (rdF ix L p)), Sl.fz (D.int t), Sl.fz (D.int most), Sl.ow false (Ow.ol ((r0 :: dn).map rnD))] := by
      rw [List.append_nil] at ers
      subst ers
      have ep : L.drop p = [41] ++ R := ep
      have es : p = i + 2 + (rnL r0).length + (tlL rs).length := es
      subst hk
      refine seq_intro fun k hk => ?_
      walk_at "rd"
      rw [sC]
      refine ⟨rfl, ix, L, [41], R, p, ⟨rfl, hl, pl⟩, rfl, ep, ?_⟩
      subst hk
      walk_at "rd"
      refine ⟨small_le (by decide), _, rfl, ?_⟩
      have e9 : p + 1 = i + List.length (α := Nat) ([42, 40] ++ (rnL r0 ++ (((rs.map rnL).map ([32] ++ ·)).flatten) ++ [41])) := by
        have a : List.length (α := Nat) ([42, 40] ++ (rnL r0 ++ (((rs.map rnL).map ([32] ++ ·)).flatten) ++ [41])) = 2 + ((rnL r0).length + (tlL rs).length + 1) := by
          rw [List.length_append, List.length_append, List.length_append]
          rfl
        rw [a]
        omega
      rw [e9]
      exact q
    walk_at "rd"
    refine ite_by (fun c => ?_) fun c => K
    rw [sS]
    refine ⟨rfl, ix, L, p, 32, ⟨rfl, hl, pl⟩, rfl, ?_⟩
    have ep : L.drop p = [41] ++ R := ep
    rw [decide_eq_false (fun z => by
      have z2 := at_pre ep 0 (by decide)
      rw [show L[p + 0]? = L[p]? from rfl, z] at z2
      cases z2)]
    exact K
  | cons r td =>
    rw [tlL_cons] at ep es
    have ep1 : L.drop p = [32] ++ (rnL r ++ (tlL td ++ ([41] ++ R))) := by
      rw [ep]
      simp only [List.append_assoc]
    have ep2 := drop_app ep1
    have l4 := at_le ep1 (by simp)
    have l5 := at_le ep2 (rnL_ne r)
    have lr : rs.length = dn.length + (td.length + 1) := by rw [ers, List.length_append]; rfl
    have rl : rs.length + 1 ≤ most := rl
    walk_at "rd"
    rw [if_pos (decide_eq_true (by rw [List.length_map]; omega)), sS]
    refine ⟨rfl, ix, L, p, 32, ⟨rfl, hl, pl⟩, rfl, ?_⟩
    rw [decide_eq_true (show L[p]? = some 32 from at_pre ep1 0 (by decide))]
    dsimp only
    rw [if_pos rfl]
    refine ⟨⟨rfl, rfl⟩, ix, L, [32], _, p, ⟨rfl, hl, pl⟩, rfl, ep1, ix, L, tlL td ++ ([41] ++ R), _, r, ⟨rfl, hl, l4⟩, ep2, tl_sp td R, ok r (by rw [ers]; simp), small_lt (by rw [List.length_map]; omega), td.length, Nat.lt_succ_self _, (hIW _ _).mpr ⟨dn ++ [r], td, p + [32].length + (rnL r).length, by rw [ers, List.append_assoc]; rfl, rfl, l5, drop_app ep2, ?_, ?_⟩⟩
    · simp only [List.length_append] at es
      omega
    · rw [List.map_cons, List.map_append]
      rfl
abbrev s_read_step : Stmt := top 17
abbrev N_read_step : List Str := ["reader", "most", "number"]
theorem sc_read_step : FnScope N_read_step ["reader", "most"] (defScope s_read_step) := ⟨rfl, rfl, rfl, by decide +kernel, rfl, by decide +kernel, by decide +kernel⟩
def R_read_step : Addr → Ow → D → (D → Ow → Prop) → (Xd → Ow → Prop) → Prop := fun C o b Q W => ∃ (ix : Int) (L R : List Nat) (i most : Nat) (s : Wst), RdI C o ix L i ∧ b = .int most ∧ L.drop i = s.L ++ R ∧ Sp R ∧ s.ok ∧ s.n ≤ most ∧ most ≤ 200 ∧ Q s.d (.oi C (rdF ix L (i + s.L.length)))
theorem ok_read_step {A_Reader : Addr} (l_Reader : L2.Cls K A_Reader) (h_read_step : Dfn K mg "read_step" s_read_step ["reader", "most"]) (B : Bl mg) (v_MAX_OFFERS : ∃ t, mg "MAX_OFFERS" = some (.int 40 t)) (v_MOST_TIMES : ∃ t, mg "MOST_TIMES" = some (.int 1000000000000000000000000000000 t)) (c_Reader_read_number : CalMO P w K mg base A_Reader "read_number" 3 ["self", "low", "high"] (sox2 (R_Reader_read_number A_Reader))) (c_read_round : Cal P w K mg base (L2.CX P w) "read_round" 6 ["reader", "times", "most"] (liftOX K mg (sox2 (R_read_round A_Reader)))) (c_read_times : Cal P w K mg base (L2.CX P w) "read_times" 4 ["reader"] (liftOX K mg (sox0 (R_read_times A_Reader)))) (c_Reader_is_next : CalMO P w K mg base A_Reader "is_next" 1 ["self", "sign"] (sox1 (R_Reader_is_next A_Reader))) : Cal P w K mg base (L2.CX P w) "read_step" 7 ["reader", "most"] (liftOX K mg (sox1 (R_read_step A_Reader))) := by
  obtain ⟨f_Reader_read_number, fd_Reader_read_number, C_Reader_read_number⟩ := c_Reader_read_number
  obtain ⟨f_read_round, fd_read_round, C_read_round⟩ := c_read_round
  obtain ⟨f_read_times, fd_read_times, C_read_times⟩ := c_read_times
  obtain ⟨f_Reader_is_next, fd_Reader_is_next, C_Reader_is_next⟩ := c_Reader_is_next
  refine cal_ownX h_read_step sc_read_step sox1_len ⟨_, fun f cdv A outer s H E hgd hr => (b_cons (s_set (i := 2) sc_read_step.nd (d_nx (x_methO 0 C_Reader_read_number.cl C_Reader_read_number.mt C_Reader_read_number.fn hgd (hr.mono (by decide)) C_Reader_read_number.bd (ax_of (dc d_int (dc (d_globI v_MOST_TIMES) dn))))))
    (b_cons (s_if (t_w (w_and (t_gt (dv 2) d_int) (w_and1 (t_w (w_or (t_ge (dv 2) (d_globI v_MAX_OFFERS)) (w_or1 (t_val (d_nx (x_methO 0 C_Reader_is_next.cl C_Reader_is_next.mt C_Reader_is_next.fn hgd (hr.mono (by decide)) C_Reader_is_next.bd (ax_of (dc d_str dn))))))))))) (b_one (s_ret (d_nx (x_callOX 0 C_read_round.fn hgd hr C_read_round.mg C_read_round.kp C_read_round.bd (ax_of (dc (dv 2) (dc (dv 1) dn))))))) b_nil)
    (b_one (s_ret (d_tup (dc (dv 2) (dc (d_nx (x_callOX 0 C_read_times.fn hgd (hr.mono (by decide)) C_read_times.mg C_read_times.kp C_read_times.bd (ax_of dn))) dn))))))), sox1_by ?_⟩
  rintro _ _ Q W ⟨ix, L, R, i, most, s, ⟨rfl, hl, hi⟩, rfl, e, sp, ok, sn, m2, q⟩
  refine seq_intro fun k hk => ?_
  walk_at "rd"
  cases s with
  | one a t =>
    have oi := ok.i
    have oi : a < 40 := oi
    have e1 : L.drop i = numL a ++ (tmL t ++ R) := by rw [e]; exact List.append_assoc ..
    refine ⟨rfl, ix, 0, _, L, tmL t ++ R, i, a, ⟨rfl, hl, hi⟩, rfl, rfl, e1, tm_nd sp, by omega, Nat.lt_of_lt_of_le oi (by decide +kernel), .inl rfl, ?_⟩
    subst hk
    refine seq_intro fun k hk => ?_
    have le := at_le e1 (numL_ne _)
    have e2 := drop_app e1
    have K : k [Sl.ow true (Ow.oi A_Reader (rdF ix L (i + (numL a).length))), Sl.fz (D.int most), Sl.fz (D.int a)] := by
      subst hk
      walk_at "rd"
      refine ⟨ix, L, R, _, t, ⟨rfl, hl, le⟩, e2, sp, ok.t1, ok.t2, small_le (by decide), _, rfl, ?_⟩
      rw [show i + (numL a).length + (tmL t).length = i + (Wst.one a t).L.length by show _ = i + (numL a ++ tmL t).length; rw [List.length_append]; omega]
      exact q
    walk_at "rd"
    refine ite_by (fun c => ?_) fun c => K
    rw [if_neg (fun z => by have := of_decide_eq_true z; omega), sM]
    refine ⟨rfl, ix, L, _, 42, ⟨rfl, hl, le⟩, rfl, ?_⟩
    rw [decide_eq_false (fun z => by
      have z2 := at_end e1
      rw [z] at z2
      have z2 := tm_42 sp z2.symm
      exact z2)]
    exact K
  | rnd rs t =>
    obtain ⟨ne, rok, t1, t2⟩ := ok
    have e1 : L.drop i = numL t ++ ([42, 40] ++ (joinL [32] (rs.map rnL) ++ ([41] ++ R))) := by
      rw [e]
      show (numL t ++ ([42, 40] ++ (joinL [32] (rs.map rnL) ++ [41]))) ++ R = _
      simp only [List.append_assoc]
    refine ⟨rfl, ix, 0, _, L, _, i, t, ⟨rfl, hl, hi⟩, rfl, rfl, e1, fun c hc => ?_, by unfold G30 at t2; omega, Nat.lt_of_le_of_lt t2 (by decide +kernel), .inl rfl, ?_⟩
    · have hc : some 42 = some c := hc
      cases hc
      exact .inl (by decide)
    subst hk
    have le := at_le e1 (numL_ne _)
    have e2 := drop_app e1
    have RR : ∀ (W' : Xd → Ow → Prop), R_read_round A_Reader (Ow.oi A_Reader (rdF ix L (i + (numL t).length))) (D.int t) (D.int most) (fun d o' => ∃ o'_1, some (Sl.ow true o') = some (Sl.ow true o'_1) ∧ Q d o'_1) W' := fun W' => ⟨ix, L, R, _, t, most, rs, ⟨rfl, hl, le⟩, rfl, rfl, e2, ne, rok, sn, m2, _, rfl, by
      have e9 : i + (numL t).length + List.length (α := Nat) ([42, 40] ++ (joinL [32] (rs.map rnL) ++ [41])) = i + (Wst.rnd rs t).L.length := by
        show _ = i + List.length (α := Nat) (numL t ++ ([42, 40] ++ (joinL [32] (rs.map rnL) ++ [41])))
        rw [List.length_append (as := numL t)]
        omega
      rw [e9]
      exact q⟩
    refine seq_intro fun k hk => ?_
    walk_at "rd"
    rw [if_pos (decide_eq_true (by omega))]
    refine ite_by (fun c => RR _) fun c => ?_
    rw [sM]
    refine ⟨rfl, ix, L, _, 42, ⟨rfl, hl, le⟩, rfl, ?_⟩
    rw [decide_eq_true (show L[i + (numL t).length]? = some 42 from (at_end e1).trans rfl)]
    exact RR (fun _ _ => False)
abbrev s_runs_in : Stmt := top 18
abbrev N_runs_in : List Str := ["step"]
theorem sc_runs_in : FnScope N_runs_in ["step"] (defScope s_runs_in) := ⟨rfl, rfl, rfl, by decide +kernel, rfl, by decide +kernel, by decide +kernel⟩
def R_runs_in : D → (D → Prop) → Prop := fun v Q => ∃ s : Wst, v = s.d ∧ Q (.int s.n)
theorem ok_runs_in (h_runs_in : Dfn K mg "runs_in" s_runs_in ["step"]) (B : Bl mg) : Cal P w K mg base CX0 "runs_in" 1 ["step"] (liftP K (sp1 R_runs_in)) := by
  refine cal_pure h_runs_in sc_runs_in (by decide) sp1_len ⟨_, fun f cdv A outer s H E hgd hr => (b_one (s_ret (d_ifx (t_val (d_isi B.isinstance (dc (d_ixV 0 d_int) (dc (d_ty B.tuple PyProof.Rows.boot_tuple) dn)))) (d_len B.len (dc (d_ixV 0 d_int) dn)) d_int))), sp1_by ?_⟩
  rintro _ Q ⟨s, rfl, q⟩
  cases s with
  | one i t =>
    unfold Wst.d rnD
    walk_at "rd"
    exact q
  | rnd rs t =>
    unfold Wst.d
    walk_at "rd"
    rw [List.length_map]
    exact q
abbrev s_parse_way : Stmt := top 19
abbrev N_parse_way : List Str := ["value", "reader", "way", "left"]
theorem sc_parse_way : FnScope N_parse_way ["value"] (defScope s_parse_way) := ⟨rfl, rfl, rfl, by decide +kernel, rfl, by decide +kernel, by decide +kernel⟩
def R_parse_way : D → (D → Prop) → Prop := fun v Q => ∃ ws : List Wst, v = .str (mk (wyL ws)) ∧ (∀ s ∈ ws, s.ok) ∧ (ws.map Wst.n).sum ≤ 200 ∧ (wyL ws).length ≤ 16000000 ∧ Q (.tup (ws.map Wst.d))
theorem ok_parse_way {A_Reader : Addr} (l_Reader : L2.Cls K A_Reader) (m_Reader : mg "Reader" = some (.ref A_Reader)) (h_parse_way : Dfn K mg "parse_way" s_parse_way ["value"]) (B : Bl mg) (v_MAX_RUNS : ∃ t, mg "MAX_RUNS" = some (.int 200 t)) (c_need_text : Cal P w K mg base CX0 "need_text" 1 ["value"] (liftP K (sp1 R_need_text))) (c_Reader___init__ : CalI P w K mg base "Reader" A_Reader 1 ["self", "index", "line"] (sox2 (R_Reader___init__ A_Reader))) (c_Reader_is_next : CalMO P w K mg base A_Reader "is_next" 1 ["self", "sign"] (sox1 (R_Reader_is_next A_Reader))) (c_Reader_end : CalMO P w K mg base A_Reader "end" 3 ["self"] (sox0 (R_Reader_end A_Reader))) (c_Reader_need : CalMO P w K mg base A_Reader "need" 3 ["self", "text"] (sox1 (R_Reader_need A_Reader))) (c_read_step : Cal P w K mg base (L2.CX P w) "read_step" 7 ["reader", "most"] (liftOX K mg (sox1 (R_read_step A_Reader)))) (c_runs_in : Cal P w K mg base CX0 "runs_in" 1 ["step"] (liftP K (sp1 R_runs_in))) : Cal P w K mg base CX0 "parse_way" 8 ["value"] (liftP K (sp1 R_parse_way)) := by
  obtain ⟨f_need_text, fd_need_text, C_need_text⟩ := c_need_text
  obtain ⟨f_Reader___init__, fd_Reader___init__, C_Reader___init__⟩ := c_Reader___init__
  obtain ⟨f_Reader_is_next, fd_Reader_is_next, C_Reader_is_next⟩ := c_Reader_is_next
  obtain ⟨f_Reader_end, fd_Reader_end, C_Reader_end⟩ := c_Reader_end
  obtain ⟨f_Reader_need, fd_Reader_need, C_Reader_need⟩ := c_Reader_need
  obtain ⟨f_read_step, fd_read_step, C_read_step⟩ := c_read_step
  obtain ⟨f_runs_in, fd_runs_in, C_runs_in⟩ := c_runs_in
  refine cal_pure h_parse_way sc_parse_way (by decide) sp1_len ⟨_, fun f cdv A outer s H E hgd hr => (b_cons (s_expr (d_call C_need_text.fn hgd (hr.mono (by decide)) C_need_text.mg C_need_text.kp C_need_text.bd pass0 (dc (dv 0) dn)))
    (b_cons (s_newO (i := 1) sc_parse_way.nd C_Reader___init__.mkc C_Reader___init__.fn hgd (hr.mono (by decide)) C_Reader___init__.mg C_Reader___init__.bd (ax_of (dc d_int (dc (dv 0) dn))))
    (b_cons (s_if (t_val (d_nx (x_methO 1 C_Reader_is_next.cl C_Reader_is_next.mt C_Reader_is_next.fn hgd (hr.mono (by decide)) C_Reader_is_next.bd (ax_of (dc d_str dn))))) (b_cons (s_expr (d_nx (x_methO 1 C_Reader_need.cl C_Reader_need.mt C_Reader_need.fn hgd (hr.mono (by decide)) C_Reader_need.bd (ax_of (dc d_str dn)))))
    (b_cons (s_expr (d_nx (x_methO0 1 C_Reader_end.cl C_Reader_end.mt C_Reader_end.fn hgd (hr.mono (by decide)) C_Reader_end.bd)))
    (b_one (s_ret (d_tup dn))))) b_nil)
    (b_cons (s_newL (i := 2) sc_parse_way.nd (dc (d_nx (x_callOX 1 C_read_step.fn hgd hr C_read_step.mg C_read_step.kp C_read_step.bd (ax_of (dc (d_globI v_MAX_RUNS) dn)))) dn))
    (b_cons (s_set (i := 3) sc_parse_way.nd (d_sub (d_globI v_MAX_RUNS) (d_call C_runs_in.fn hgd (hr.mono (by decide)) C_runs_in.mg C_runs_in.kp C_runs_in.bd pass0 (dc (d_ixV 2 d_int) dn))))
    (b_cons (s_while PassesOwn.never (t_w (w_and (t_gt (dv 3) d_int) (w_and1 (t_val (d_nx (x_methO 1 C_Reader_is_next.cl C_Reader_is_next.mt C_Reader_is_next.fn hgd (hr.mono (by decide)) C_Reader_is_next.bd (ax_of (dc d_str dn)))))))) (b_cons (s_expr (d_nx (x_methO 1 C_Reader_need.cl C_Reader_need.mt C_Reader_need.fn hgd (hr.mono (by decide)) C_Reader_need.bd (ax_of (dc d_str dn)))))
    (b_cons (s_app 2 (d_nx (x_callOX 1 C_read_step.fn hgd hr C_read_step.mg C_read_step.kp C_read_step.bd (ax_of (dc (dv 3) dn)))))
    (b_one (s_augSub (i := 3) sc_parse_way.nd (d_call C_runs_in.fn hgd (hr.mono (by decide)) C_runs_in.mg C_runs_in.kp C_runs_in.bd pass0 (dc (d_ixV 2 (d_neg d_int)) dn)))))))
    (b_cons (s_expr (d_nx (x_methO0 1 C_Reader_end.cl C_Reader_end.mt C_Reader_end.fn hgd (hr.mono (by decide)) C_Reader_end.bd)))
    (b_one (s_ret (d_tuplec B.tuple (dc (dv 2) dn))))))))))), sp1_by ?_⟩
  rintro _ Q ⟨ws, rfl, ok, wn, wl, q⟩
  refine seq_intro fun k hk => ?_
  walk_at "rd"
  refine ⟨_, rfl, ?_⟩
  obtain ⟨L, eL⟩ : ∃ L, L = wyL ws := ⟨_, rfl⟩
  rw [← eL] at wl ⊢
  subst hk
  refine seq_intro fun k hk => ?_
  walk_at "rd"
  refine ⟨0, L, rfl, rfl, rfl, rfl, ?_⟩
  subst hk
  refine seq_intro fun k hk => ?_
  walk_at "rd"
  rw [sN, sNone]
  refine ⟨rfl, 0, L, 0, 110, ⟨rfl, wl, Nat.zero_le _⟩, rfl, ?_⟩
  cases ws with
  | nil =>
    have eL : L = [110, 111, 110, 101] := eL
    subst eL
    rw [decide_eq_true (by rfl)]
    exact ⟨⟨rfl, rfl⟩, 0, _, [110, 111, 110, 101], [], 0, ⟨rfl, wl, Nat.zero_le _⟩, rfl, rfl, ⟨rfl, rfl⟩, 0, _, _, ⟨rfl, wl, by decide⟩, rfl, Nat.zero_le _, q⟩
  | cons s0 ss =>
    have eL : L = s0.L ++ tl2 ss := by
      rw [eL]
      show joinL [32] (s0.L :: ss.map Wst.L) = _
      rw [joinL_cons]
      rfl
    have ok0 := ok s0 (List.mem_cons_self ..)
    have sn : s0.n + (ss.map Wst.n).sum ≤ 200 := wn
    have e0 : L.drop 0 = s0.L ++ tl2 ss := eL
    rw [decide_eq_false (fun z => by
      obtain ⟨c, hc, h1, h2⟩ := s0.first
      have z2 := at_pre e0 0 (List.length_pos_iff.mpr s0.L_ne)
      rw [show L[0 + 0]? = L[0]? from rfl, z, hc] at z2
      cases z2
      omega)]
    dsimp only
    rw [if_neg (by decide)]
    subst hk
    refine seq_intro fun k hk => ?_
    walk_at "rd"
    refine ⟨0, L, tl2 ss, 0, 200, s0, ⟨rfl, wl, Nat.zero_le _⟩, rfl, e0, tl2_sp ss, ok0, by omega, Nat.le_refl _, small_le (by decide), ?_⟩
    subst hk
    refine seq_intro fun k hk => ?_
    walk_at "rd"
    refine ⟨s0, rfl, ?_⟩
    dsimp only
    subst hk
    refine seq_intro fun k hk => ?_
    obtain ⟨IW, hIW⟩ : ∃ P : Nat → En → Prop, ∀ mu E, P mu E ↔ ∃ (dn td : List Wst) (p : Nat), ss = dn ++ td ∧ mu = td.length ∧ p ≤ L.length ∧ L.drop p = tl2 td ∧ E = [Sl.fz (D.str (mk L)), Sl.ow false (Ow.oi A_Reader (rdF 0 L p)), Sl.ow false (Ow.ol ((s0 :: dn).map Wst.d)), Sl.fz (D.int (200 - (s0.n + (dn.map Wst.n).sum : Nat)))] := ⟨_, fun _ _ => Iff.rfl⟩
    have e1 := drop_app e0
    have l1 := at_le e0 s0.L_ne
    rw [Nat.zero_add] at e1 l1
    refine ⟨fun mu E => IW mu E, ⟨_, (hIW _ _).mpr ⟨[], ss, _, rfl, rfl, l1, e1, rfl⟩⟩, fun mu E hE => ?_⟩
    obtain ⟨dn, td, p, ers, rfl, pl, ep, rfl⟩ := (hIW _ _).mp hE
    clear hE
    have sm : (ss.map Wst.n).sum = (dn.map Wst.n).sum + (td.map Wst.n).sum := by rw [ers, List.map_append, List.sum_append]
    cases td with
    | nil =>
      have K : k [Sl.fz (D.str (mk L)), Sl.ow false (Ow.oi A_Reader (rdF 0 L p)), Sl.ow false (Ow.ol ((s0 :: dn).map Wst.d)), Sl.fz (D.int (200 - (s0.n + (dn.map Wst.n).sum : Nat)))] := by
        rw [List.append_nil] at ers
        subst ers
        have pe : p = L.length := by
          have := congrArg List.length ep
          rw [List.length_drop] at this
          have : L.length - p = 0 := this
          omega
        subst hk
        refine seq_intro fun k hk => ?_
        walk_at "rd"
        refine ⟨rfl, 0, L, p, ⟨rfl, wl, pl⟩, pe, ?_⟩
        subst hk
        walk_at "rd"
        exact q
      walk_at "rd"
      refine ite_by (fun c => ?_) fun c => K
      rw [sS]
      refine ⟨rfl, 0, L, p, 32, ⟨rfl, wl, pl⟩, rfl, ?_⟩
      have ep : L.drop p = [] := ep
      rw [decide_eq_false (fun z => by
        have z2 := (List.getElem?_eq_some_iff.mp z).1
        have z3 := congrArg List.length ep
        rw [List.length_drop] at z3
        have z3 : L.length - p = 0 := z3
        omega)]
      exact K
    | cons s td =>
      rw [tl2_cons] at ep
      have ep1 : L.drop p = [32] ++ (s.L ++ tl2 td) := ep
      have ep2 := drop_app ep1
      have l4 := at_le ep1 (by simp)
      have l5 := at_le ep2 s.L_ne
      have oks := ok s (by rw [ers]; simp)
      have n1 := Wst.n1 oks
      have sm2 : ((s :: td).map Wst.n).sum = s.n + (td.map Wst.n).sum := rfl
      have dl : dn.length ≤ (dn.map Wst.n).sum := sum_n fun x hx => Wst.n1 (ok x (by rw [ers]; simp [hx]))
      have e200 : (200 : Int) - ((s0.n + (dn.map Wst.n).sum : Nat) : Int) = ((200 - (s0.n + (dn.map Wst.n).sum) : Nat) : Int) := by omega
      walk_at "rd"
      rw [if_pos (decide_eq_true (by omega)), sS]
      refine ⟨rfl, 0, L, p, 32, ⟨rfl, wl, pl⟩, rfl, ?_⟩
      rw [decide_eq_true (show L[p]? = some 32 from at_pre ep1 0 (by decide))]
      dsimp only
      rw [if_pos rfl]
      refine ⟨⟨rfl, rfl⟩, 0, L, [32], _, p, ⟨rfl, wl, pl⟩, rfl, ep1, ?_⟩
      rw [e200]
      refine ⟨0, L, tl2 td, _, _, s, ⟨rfl, wl, l4⟩, rfl, ep2, tl2_sp td, oks, by omega, by omega, small_lt (by rw [List.length_map]; omega), ?_⟩
      rw [show s0.d :: (List.map Wst.d dn ++ [s.d]) = (s0.d :: List.map Wst.d dn) ++ [s.d] from rfl, L2.atI_last]
      refine ⟨s, rfl, td.length, Nat.lt_succ_self _, (hIW _ _).mpr ⟨dn ++ [s], td, p + [32].length + s.L.length, by rw [ers, List.append_assoc]; rfl, rfl, l5, drop_app ep2, ?_⟩⟩
      have e201 : (((200 - (s0.n + (dn.map Wst.n).sum) : Nat) : Int) - (s.n : Int)) = 200 - ((s0.n + ((dn ++ [s]).map Wst.n).sum : Nat) : Int) := by
        have : ((dn ++ [s]).map Wst.n).sum = (dn.map Wst.n).sum + s.n := by
          rw [List.map_append, List.sum_append]
          rfl
        omega
      rw [e201, show (s0 :: (dn ++ [s])).map Wst.d = s0.d :: List.map Wst.d dn ++ [s.d] from by simp]
open TL
theorem sE : Str.empty = mk [] := rfl
theorem sE2 : Str.ofString "" = mk [] := by decide +kernel
theorem sum_le {α : Type} {f : α → Nat} {c : Nat} : ∀ {l : List α}, (∀ x ∈ l, f x ≤ c) → (l.map f).sum ≤ c * l.length
  | [], _ => Nat.le_refl _
  | a :: l, h => by
    have h1 := sum_le fun x hx => h x (List.mem_cons_of_mem _ hx)
    have h2 := h a (List.mem_cons_self ..)
    show f a + (l.map f).sum ≤ c * (l.length + 1)
    rw [Nat.mul_add, Nat.mul_one]
    omega
theorem lg30 {t : Nat} (h : t ≤ G30) : (t : Int).natAbs.log2 < 1920 := by
  have h1 : (t : Int).natAbs < 2 ^ 100 := Nat.lt_of_le_of_lt (by rw [Int.natAbs_natCast]; exact h) (by decide +kernel)
  exact Nat.lt_trans (log_of (by decide) h1) (by decide)
abbrev s_run_text : Stmt := top 11
abbrev N_run_text : List Str := ["run", "index", "times"]
theorem sc_run_text : FnScope N_run_text ["run"] (defScope s_run_text) := ⟨rfl, rfl, rfl, by decide +kernel, rfl, by decide +kernel, by decide +kernel⟩
def R_run_text : D → (D → Prop) → Prop := fun v Q => ∃ r : Nat × Nat, v = rnD r ∧ RnOk r ∧ Q (.str (mk (rnL r)))
theorem ok_run_text (h_run_text : Dfn K mg "run_text" s_run_text ["run"]) (B : Bl mg) : Cal P w K mg base CX0 "run_text" 1 ["run"] (liftP K (sp1 R_run_text)) := by
  refine cal_pure h_run_text sc_run_text (by decide) sp1_len ⟨_, fun f cdv A outer s H E hgd hr => (b_cons (s_asg (dv 0) (g_tup (n := 2) rfl (gs_cons (g_name (i := 1) sc_run_text.nd) (gs_cons (g_name (i := 2) sc_run_text.nd) gs_nil))))
    (b_one (s_ret (d_ifx (t_eq hr.units (dv 2) d_int) (d_strc B.str (dc (dv 1) dn)) (d_fst (.cons (d_fmt (dv 1)) (.cons d_str (.cons (d_fmt (dv 2)) .nil)))))))), sp1_by ?_⟩
  rintro _ Q ⟨⟨a, t⟩, rfl, ok, q⟩
  have oi : a < 40 := ok.i
  have t2 : t ≤ G30 := ok.t2
  have la := lg30 (t := a) (by unfold G30; omega)
  have lt := lg30 t2
  have na := num_len40 oi
  have nt := num_len30 t2
  unfold rnD
  dsimp only
  refine seq_intro fun k hk => ?_
  walk_at "rd"
  subst hk
  walk_at "rd"
  by_cases c : t = 1
  · rw [if_pos (decide_eq_true (by omega)), mk_num]
    have e : rnL (a, t) = numL a := by
      show numL a ++ tmL t = numL a
      rw [show tmL t = [] from if_pos c, List.append_nil]
    rw [e] at q
    exact ⟨la, q⟩
  · rw [if_neg (fun z => c (by have := of_decide_eq_true z; omega))]
    have e : rnL (a, t) = numL a ++ ([120] ++ numL t) := by
      show numL a ++ tmL t = _
      rw [show tmL t = 120 :: numL t from if_neg c]
      rfl
    rw [e] at q
    simp only [mk_num, sX, sE, mk_add, mk_len, List.length_append, List.length_cons, List.length_nil, List.nil_append, List.append_assoc]
    exact ⟨la, small_le (by omega), small_le (by omega), lt, small_le (by omega), q⟩

abbrev s__law_run_text : Stmt := top 26
abbrev N__law_run_text : List Str := ["_law_run_here"]
theorem sc__law_run_text : FnScope N__law_run_text ["_law_run_here"] (defScope s__law_run_text) := ⟨rfl, rfl, rfl, by decide +kernel, rfl, by decide +kernel, by decide +kernel⟩
def R__law_run_text : D → (D → Prop) → Prop := fun v Q => ∃ r : Nat × Nat, v = rnD r ∧ RnOk r ∧ Q (.str (mk (rnL r)))
theorem ok__law_run_text (h__law_run_text : Dfn K mg "_law_run_text" s__law_run_text ["_law_run_here"]) (B : Bl mg) : Cal P w K mg base CX0 "_law_run_text" 1 ["_law_run_here"] (liftP K (sp1 R__law_run_text)) := by
  refine cal_pure h__law_run_text sc__law_run_text (by decide) sp1_len ⟨_, fun f cdv A outer s H E hgd hr => (b_one (s_ret (d_add (d_strc B.str (dc (d_ixV 0 d_int) dn)) (d_ifx (t_eq hr.units (d_ixV 0 d_int) d_int) d_str (d_add d_str (d_strc B.str (dc (d_ixV 0 d_int) dn))))))), sp1_by ?_⟩
  rintro _ Q ⟨⟨a, t⟩, rfl, ok, q⟩
  have oi : a < 40 := ok.i
  have t2 : t ≤ G30 := ok.t2
  have la := lg30 (t := a) (by unfold G30; omega)
  have lt := lg30 t2
  have na := num_len40 oi
  have nt := num_len30 t2
  unfold rnD
  dsimp only
  walk_at "rd"
  refine ⟨la, ?_⟩
  by_cases c : t = 1
  · rw [if_pos (decide_eq_true (by omega))]
    have e : rnL (a, t) = numL a ++ [] := by
      show numL a ++ tmL t = _
      rw [show tmL t = [] from if_pos c]
    rw [e] at q
    simp only [mk_num, sE2, mk_add, mk_len, List.length_nil]
    exact ⟨small_le (by omega), q⟩
  · rw [if_neg (fun z => c (by have := of_decide_eq_true z; omega))]
    have e : rnL (a, t) = numL a ++ ([120] ++ numL t) := by
      show numL a ++ tmL t = _
      rw [show tmL t = 120 :: numL t from if_neg c]
      rfl
    rw [e] at q
    simp only [mk_num, sX, mk_add, mk_len, List.length_append, List.length_cons, List.length_nil]
    exact ⟨lt, small_le (by omega), small_le (by omega), q⟩

abbrev s_step_text : Stmt := top 12
abbrev N_step_text : List Str := ["step", "rows", "run"]
theorem sc_step_text : FnScope N_step_text ["step"] (defScope s_step_text) := ⟨rfl, rfl, rfl, by decide +kernel, rfl, by decide +kernel, by decide +kernel⟩
def R_step_text : D → (D → Prop) → Prop := fun v Q => ∃ s : Wst, v = s.d ∧ s.ok ∧ s.n ≤ 200 ∧ Q (.str (mk s.L))
theorem ok_step_text (h_step_text : Dfn K mg "step_text" s_step_text ["step"]) (B : Bl mg) (c_run_text : Cal P w K mg base CX0 "run_text" 1 ["run"] (liftP K (sp1 R_run_text))) : Cal P w K mg base CX0 "step_text" 2 ["step"] (liftP K (sp1 R_step_text)) := by
  obtain ⟨f_run_text, fd_run_text, C_run_text⟩ := c_run_text
  refine cal_pure h_step_text sc_step_text (by decide) sp1_len ⟨_, fun f cdv A outer s H E hgd hr => (b_cons (s_if (t_val (d_isi B.isinstance (dc (d_ixV 0 d_int) (dc (d_ty B.tuple PyProof.Rows.boot_tuple) dn)))) (b_cons (s_set (i := 1) sc_step_text.nd (d_join d_str (d_lc (own := [("run", 2)]) rfl sc_step_text.nd (i_seq (d_ixV 0 d_int)) (blkOk_by (N := N_step_text) (sc := defScope s_step_text) (by decide +kernel)) (fun _ _ _ _ _ => (c_name (i := 2) sc_step_text.nd)) (fun _ _ _ _ _ => ts_nil) (fun _ _ _ _ _ => (d_call C_run_text.fn hgd hr C_run_text.mg C_run_text.kp C_run_text.bd pass0 (dc (dv 2) dn))))))
    (b_one (s_ret (d_fst (.cons (d_fmt (d_ixV 0 d_int)) (.cons d_str (.cons (d_fmt (dv 1)) (.cons d_str .nil)))))))) b_nil)
    (b_one (s_ret (d_call C_run_text.fn hgd hr C_run_text.mg C_run_text.kp C_run_text.bd pass0 (dc (dv 0) dn))))), sp1_by ?_⟩
  rintro _ Q ⟨s, rfl, ok, sn, q⟩
  cases s with
  | one a t =>
    unfold Wst.d rnD
    refine seq_intro fun k hk => ?_
    walk_at "rd"
    subst hk
    walk_at "rd"
    exact ⟨(a, t), rfl, ok, q⟩
  | rnd rs t =>
    obtain ⟨ne, rok, t1, t2⟩ := ok
    have lt := lg30 t2
    have sn : rs.length ≤ 200 := sn
    have nt := num_len30 t2
    have jl := joinR_len rok
    unfold Wst.d
    refine seq_intro fun k hk => ?_
    walk_at "rd"
    refine lcD_all rs rnD (fun r => .str (mk (rnL r))) _ rfl rfl (small_le (by omega)) (fun r hr R hR => ?_) ?_
    · walk_at "rd"
      exact ⟨r, rfl, rok r hr, hR _ rfl⟩
    refine ⟨(rs.map rnL).map mk, .inl (by rw [List.map_map, List.map_map]; rfl), ?_, ?_⟩
    · have s1 : (((rs.map rnL).map mk).map (·.length)).sum ≤ 34 * rs.length := by
        rw [List.map_map, List.map_map]
        exact sum_le fun r hr => by
          show (mk (rnL r)).length ≤ 34
          rw [mk_len]
          exact rn_len (rok r hr)
      rw [sS, mk_len, List.length_map, List.length_map]
      show _ + rs.length * 1 ≤ _
      omega
    rw [sS, mk_join]
    walk_at "rd"
    simp only [mk_num, sB, sC, sE, mk_add, mk_len, List.length_append, List.length_cons, List.length_nil, List.nil_append, List.append_assoc]
    have q : Q (D.str (mk (numL t ++ ([42, 40] ++ (joinL [32] (rs.map rnL) ++ [41]))))) := q
    exact ⟨lt, small_le (by omega), small_le (by omega), small_le (by omega), small_le (by omega), small_le (by omega), q⟩
abbrev s_way_text : Stmt := top 13
abbrev N_way_text : List Str := ["way", "step"]
theorem sc_way_text : FnScope N_way_text ["way"] (defScope s_way_text) := ⟨rfl, rfl, rfl, by decide +kernel, rfl, by decide +kernel, by decide +kernel⟩
def R_way_text : D → (D → Prop) → Prop := fun v Q => ∃ ws : List Wst, v = .tup (ws.map Wst.d) ∧ WyOk ws ∧ Q (.str (mk (wyL ws)))
theorem ok_way_text (h_way_text : Dfn K mg "way_text" s_way_text ["way"]) (B : Bl mg) (c_step_text : Cal P w K mg base CX0 "step_text" 2 ["step"] (liftP K (sp1 R_step_text))) : Cal P w K mg base CX0 "way_text" 3 ["way"] (liftP K (sp1 R_way_text)) := by
  obtain ⟨f_step_text, fd_step_text, C_step_text⟩ := c_step_text
  refine cal_pure h_way_text sc_way_text (by decide) sp1_len ⟨_, fun f cdv A outer s H E hgd hr => (b_one (s_ret (d_ifx (t_gt (d_lenV 0 B.len) d_int) (d_join d_str (d_lc (own := [("step", 1)]) rfl sc_way_text.nd (i_seq (dv 0)) (blkOk_by (N := N_way_text) (sc := defScope s_way_text) (by decide +kernel)) (fun _ _ _ _ _ => (c_name (i := 1) sc_way_text.nd)) (fun _ _ _ _ _ => ts_nil) (fun _ _ _ _ _ => (d_call C_step_text.fn hgd hr C_step_text.mg C_step_text.kp C_step_text.bd pass0 (dc (dv 1) dn))))) d_str))), sp1_by ?_⟩
  rintro _ Q ⟨ws, rfl, ok, q⟩
  have wc := ok.cnt
  walk_at "rd"
  rw [List.length_map]
  by_cases c : ws = []
  · subst c
    rw [if_neg (by decide), sNone]
    exact q
  · have wp := List.length_pos_iff.mpr c
    rw [if_pos (decide_eq_true (by omega))]
    refine lcD_all ws Wst.d (fun s => .str (mk s.L)) _ rfl rfl (small_le (by omega)) (fun s hs R hR => ?_) ?_
    · walk_at "rd"
      exact ⟨s, rfl, ok.ok s hs, Nat.le_trans (mem_n hs) ok.n, hR _ rfl⟩
    refine ⟨(ws.map Wst.L).map mk, .inl (by rw [List.map_map, List.map_map]; rfl), ?_, ?_⟩
    · have s1 : (((ws.map Wst.L).map mk).map (·.length)).sum ≤ 8000 * ws.length := by
        rw [List.map_map, List.map_map]
        exact sum_le fun s hs => by
          show (mk s.L).length ≤ 8000
          rw [mk_len]
          have a := st_len (ok.ok s hs)
          have b := Nat.le_trans (mem_n hs) ok.n
          omega
      rw [sS, mk_len, List.length_map, List.length_map]
      show _ + ws.length * 1 ≤ _
      omega
    rw [sS, mk_join]
    rw [show wyL ws = joinL [32] (ws.map Wst.L) from if_neg c] at q
    exact q
abbrev s__law_way_text : Stmt := top 27
abbrev N__law_way_text : List Str := ["_law_way_here", "_law_found", "_law_first", "_law_times", "_law_run_here"]
theorem sc__law_way_text : FnScope N__law_way_text ["_law_way_here"] (defScope s__law_way_text) := ⟨rfl, rfl, rfl, by decide +kernel, rfl, by decide +kernel, by decide +kernel⟩
def R__law_way_text : D → (D → Prop) → Prop := fun v Q => ∃ ws : List Wst, v = .tup (ws.map Wst.d) ∧ WyOk ws ∧ Q (.str (mk (wyL ws)))
theorem ok__law_way_text (h__law_way_text : Dfn K mg "_law_way_text" s__law_way_text ["_law_way_here"]) (B : Bl mg) (c__law_run_text : Cal P w K mg base CX0 "_law_run_text" 1 ["_law_run_here"] (liftP K (sp1 R__law_run_text))) : Cal P w K mg base CX0 "_law_way_text" 2 ["_law_way_here"] (liftP K (sp1 R__law_way_text)) := by
  obtain ⟨f__law_run_text, fd__law_run_text, C__law_run_text⟩ := c__law_run_text
  refine cal_pure h__law_way_text sc__law_way_text (by decide) sp1_len ⟨_, fun f cdv A outer s H E hgd hr => (b_cons (s_newL (i := 1) sc__law_way_text.nd dn)
    (b_cons (s_for PassesOwn.never rfl (i_seq (dv 0)) (g_tup (n := 2) rfl (gs_cons (g_name (i := 2) sc__law_way_text.nd) (gs_cons (g_name (i := 3) sc__law_way_text.nd) gs_nil))) (b_one (s_if (t_val (d_isi B.isinstance (dc (dv 2) (dc (d_ty B.tuple PyProof.Rows.boot_tuple) dn)))) (b_one (s_app 1 (d_add (d_add (d_add (d_strc B.str (dc (dv 3) dn)) d_str) (d_join d_str (d_lc (own := [("_law_run_here", 4)]) rfl sc__law_way_text.nd (i_seq (dv 2)) (blkOk_by (N := N__law_way_text) (sc := defScope s__law_way_text) (by decide +kernel)) (fun _ _ _ _ _ => (c_name (i := 4) sc__law_way_text.nd)) (fun _ _ _ _ _ => ts_nil) (fun _ _ _ _ _ => (d_call C__law_run_text.fn hgd hr C__law_run_text.mg C__law_run_text.kp C__law_run_text.bd pass0 (dc (dv 4) dn)))))) d_str))) (b_one (s_app 1 (d_call C__law_run_text.fn hgd hr C__law_run_text.mg C__law_run_text.kp C__law_run_text.bd pass0 (dc (d_tup (dc (dv 2) (dc (dv 3) dn))) dn)))))))
    (b_one (s_ret (d_ifx (t_ne hr.units (dv 1) (d_lst dn)) (d_join d_str (dv 1)) d_str))))), sp1_by ?_⟩
  rintro _ Q ⟨ws, rfl, ok, q⟩
  have wc := ok.cnt
  refine seq_intro fun k hk => ?_
  walk_at "rd"
  refine ⟨Nat.zero_le _, ?_⟩
  subst hk
  refine seq_intro fun k hk => ?_
  walk_at "rd"
  obtain ⟨IO, hIO⟩ : ∃ P : Nat → En → Prop, ∀ j E, P j E ↔ ∃ (s2 s3 : Sl), (s2.free ∧ s3.free) ∧ E = [Sl.fz (D.tup (ws.map Wst.d)), Sl.ow false (Ow.ol ((ws.take j).map fun s => D.str (mk s.L))), s2, s3, Sl.un] := ⟨_, fun _ _ => Iff.rfl⟩
  refine ⟨fun j E => IO j E, (hIO _ _).mpr ⟨.un, .un, ⟨True.intro, True.intro⟩, rfl⟩, ?_, ?_⟩
  · rintro i y _ hi hE
    obtain ⟨s2, s3, ⟨f2, f3⟩, rfl⟩ := (hIO _ _).mp hE
    clear hE
    obtain ⟨s, hs, rfl⟩ := map_get hi
    have sm := List.mem_of_getElem? hs
    have sok := ok.ok s sm
    have sn := Nat.le_trans (mem_n sm) ok.n
    have il := (List.getElem?_eq_some_iff.mp hs).1
    have tk : (ws.take (i + 1)).map (fun s => D.str (mk s.L)) = (ws.take i).map (fun s => D.str (mk s.L)) ++ [D.str (mk s.L)] := by
      rw [List.take_add_one, hs, List.map_append]
      rfl
    have tl : ((ws.take i).map (fun s => D.str (mk s.L))).length < 16777216 := by
      rw [List.length_map, List.length_take]
      omega
    cases s with
    | one a t =>
      rw [show (Wst.one a t).d = D.tup [D.int a, D.int t] from rfl]
      walk_at "rd"
      refine ⟨f2, f3, ?_⟩
      exact ⟨small_le (by decide), (a, t), rfl, sok, small_lt tl, (hIO _ _).mpr ⟨.fz (.int a), .fz (.int t), ⟨True.intro, True.intro⟩, by rw [tk]; rfl⟩⟩
    | rnd rs t =>
      obtain ⟨ne, rok, t1, t2⟩ := sok
      have lt := lg30 t2
      have nt := num_len30 t2
      have jl := joinR_len rok
      have sn : rs.length ≤ 200 := sn
      rw [show (Wst.rnd rs t).d = D.tup [D.tup (rs.map rnD), D.int t] from rfl]
      walk_at "rd"
      refine ⟨f2, f3, lt, ?_, ?_⟩
      · rw [mk_num, sB, mk_len, mk_len]
        exact small_le (by show _ + 2 ≤ 16777216; omega)
      refine lcD_all rs rnD (fun r => .str (mk (rnL r))) _ rfl rfl (small_le (by omega)) (fun r hr R hR => ?_) ?_
      · walk_at "rd"
        exact ⟨r, rfl, rok r hr, hR _ rfl⟩
      refine ⟨(rs.map rnL).map mk, .inl (by rw [List.map_map, List.map_map]; rfl), ?_, ?_⟩
      · have s1 : (((rs.map rnL).map mk).map (·.length)).sum ≤ 34 * rs.length := by
          rw [List.map_map, List.map_map]
          exact sum_le fun r hr => by
            show (mk (rnL r)).length ≤ 34
            rw [mk_len]
            exact rn_len (rok r hr)
        rw [sS, mk_len, List.length_map, List.length_map]
        show _ + rs.length * 1 ≤ _
        omega
      rw [sS, mk_join]
      walk_at "rd"
      simp only [mk_num, sB, sC, mk_add, mk_len, List.length_append, List.length_cons, List.length_nil]
      refine ⟨small_le (by omega), small_le (by omega), small_lt tl, (hIO _ _).mpr ⟨.fz (D.tup (rs.map rnD)), .fz (.int t), ⟨True.intro, True.intro⟩, ?_⟩⟩
      rw [tk, show (Wst.rnd rs t).L = numL t ++ [42, 40] ++ joinL [32] (rs.map rnL) ++ [41] from by
        show numL t ++ ([42, 40] ++ (joinL [32] (rs.map rnL) ++ [41])) = _
        simp only [List.append_assoc]]
  · rintro _ hE
    obtain ⟨s2, s3, ⟨f2, f3⟩, rfl⟩ := (hIO _ _).mp hE
    rw [List.length_map, List.take_length]
    subst hk
    walk_at "rd"
    have eL : ws.map (fun s => D.str (mk s.L)) = (ws.map Wst.L).map fun p => D.str (mk p) := by rw [List.map_map]; rfl
    have ok1 : (D.lst (ws.map fun s => D.str (mk s.L))).ok := by
      rw [eL]
      exact ok_strs (n := 14000) fun p hp => by
        obtain ⟨s, hs, rfl⟩ := List.mem_map.mp hp
        have a := st_len (ok.ok s hs)
        have b := Nat.le_trans (mem_n hs) ok.n
        exact ⟨Sg.st s, by omega⟩
    refine ⟨Nat.zero_le _, ok1, ok_strs (ps := []) (n := 0) (fun p hp => nomatch hp), ?_⟩
    cases ws with
    | nil =>
      rw [if_neg (by decide), sNone]
      exact q
    | cons s0 ss =>
      rw [if_pos (by rfl)]
      refine ⟨((s0 :: ss).map Wst.L).map mk, .inl (by rw [List.map_map, List.map_map]; rfl), ?_, ?_⟩
      · have s1 : ((((s0 :: ss).map Wst.L).map mk).map (·.length)).sum ≤ 8000 * (s0 :: ss).length := by
          rw [List.map_map, List.map_map]
          exact sum_le fun s hs => by
            show (mk s.L).length ≤ 8000
            rw [mk_len]
            have a := st_len (ok.ok s hs)
            have b := Nat.le_trans (mem_n hs) ok.n
            omega
        rw [sS, mk_len, List.length_map, List.length_map]
        show _ + (s0 :: ss).length * 1 ≤ _
        omega
      rw [sS, mk_join]
      rw [show wyL (s0 :: ss) = joinL [32] ((s0 :: ss).map Wst.L) from rfl] at q
      exact q
abbrev s__law_run : Stmt := top 24
abbrev N__law_run : List Str := ["_law_deck_here", "_law_many", "_law_times"]
theorem sc__law_run : FnScope N__law_run ["_law_deck_here", "_law_many"] (defScope s__law_run) := ⟨rfl, rfl, rfl, by decide +kernel, rfl, by decide +kernel, by decide +kernel⟩
def R__law_run : D → DkP := fun v cs n Q => ∃ nk : Int, v = .int nk ∧ 1 ≤ nk ∧ nk ≤ 40 ∧ DkOk cs n ∧ n < 2 ^ 39 ∧ ∀ (r : Nat × Nat) (cs' : List Int) (n' : Int), RnOk r → cs'.length ≤ 63 → n ≤ n' → n' ≤ n + 4 → Q (rnD r) cs' n'
theorem ok__law_run (h__law_run : Dfn K mg "_law_run" s__law_run ["_law_deck_here", "_law_many"]) (B : Bl mg) (c__law_one : Cal P w K mg base CX0 "_law_one" 2 ["_law_deck_here", "_law_items"] (liftOw K (so1 R_one))) (c__law_draw : Cal P w K mg base CX0 "_law_draw" 1 ["_law_deck_here", "_law_many"] (liftOw K (so1 R_draw))) : Cal P w K mg base CX0 "_law_run" 3 ["_law_deck_here", "_law_many"] (liftOw K (so1 R__law_run)) := by
  obtain ⟨f__law_one, fd__law_one, C__law_one⟩ := c__law_one
  obtain ⟨f__law_draw, fd__law_draw, C__law_draw⟩ := c__law_draw
  refine cal_own h__law_run sc__law_run so1_len ⟨_, fun f cdv A outer s H E hgd hr => (b_cons (s_set (i := 2) sc__law_run.nd (d_callO 0 C__law_one.fn hgd hr C__law_one.mg C__law_one.kp C__law_one.bd pass0 (dc (d_lst (dc d_int (dc d_int (dc d_int (dc (d_add d_int (d_callO 0 C__law_draw.fn hgd (hr.mono (by decide)) C__law_draw.mg C__law_draw.kp C__law_draw.bd pass0 (dc d_int dn))) (dc (d_pow d_int d_int) (dc (d_add d_int (d_callO 0 C__law_draw.fn hgd (hr.mono (by decide)) C__law_draw.mg C__law_draw.kp C__law_draw.bd pass0 (dc (d_pow d_int d_int) dn))) dn))))))) dn)))
    (b_one (s_ret (d_tup (dc (d_callO 0 C__law_draw.fn hgd (hr.mono (by decide)) C__law_draw.mg C__law_draw.kp C__law_draw.bd pass0 (dc (dv 1) dn)) (dc (dv 2) dn)))))), so1_by ?_⟩
  rintro _ cs n Q ⟨nk, rfl, k1, k4, ⟨hcs, hn0⟩, hn, q⟩
  have e40 : (2 : Int) ^ 40 = 1099511627776 := by decide
  have e39 : (2 : Int) ^ 39 = 549755813888 := by decide
  have e30 : (10 : Int) ^ 30 = 1000000000000000000000000000000 := by decide
  have e12 : (10 : Int) ^ 12 = 1000000000000 := by decide
  refine seq_intro fun k hk => ?_
  walk_at "rd"
  refine ⟨30, rfl, ⟨hcs, hn0⟩, by omega, by decide, log60 (by decide) (by decide), fun d cs1 h1 d0 d1 => ?_⟩
  dsimp only
  refine ⟨cpow (by decide) (by decide) (by decide) (by decide), cpow (by decide) (by decide) (by decide) (by decide), ?_⟩
  rw [e12, e30]
  refine ⟨1000000000000, rfl, ⟨h1, by omega⟩, by omega, by decide, log60 (by decide) (by decide), fun e cs2 h2 d2 d3 => ?_⟩
  dsimp only
  refine ⟨small_le (by decide), _, .inl rfl, ⟨h2, by omega⟩, by omega, Nat.succ_pos _, small_le (by show (6 : Nat) ≤ 16777216; decide), fun v cs3 h3 hv => ?_⟩
  obtain ⟨x, rfl, x0, x1⟩ : ∃ x, v = D.int x ∧ 1 ≤ x ∧ x ≤ 1000000000000000000000000000000 := by
    simp only [List.mem_cons, List.not_mem_nil, or_false] at hv
    rcases hv with rfl | rfl | rfl | rfl | rfl | rfl <;> exact ⟨_, rfl, by omega, by omega⟩
  subst hk
  walk_at "rd"
  refine ⟨nk, rfl, ⟨h3, by omega⟩, by omega, by omega, log60 (by omega) (by omega), fun i cs4 h4 i0 i1 => ?_⟩
  refine ⟨small_le (by decide), _, rfl, ?_⟩
  have q := q (i.toNat, x.toNat) cs4 (n + 1 + 1 + 1 + 1) ⟨by show i.toNat < 40; omega, by show 1 ≤ x.toNat; omega, by show x.toNat ≤ G30; unfold G30; omega⟩ h4 (by omega) (by omega)
  have e1 : rnD (i.toNat, x.toNat) = D.tup [D.int i, D.int x] := by
    show D.tup [D.int (i.toNat : Int), D.int (x.toNat : Int)] = _
    rw [Int.toNat_of_nonneg i0, Int.toNat_of_nonneg (by omega)]
  rw [e1] at q
  exact q
abbrev s__law_way : Stmt := top 25
abbrev N__law_way : List Str := ["_law_deck_here", "_law_many", "_law_long", "_law_found", "_law_k", "_law_runs", "_law_place"]
theorem sc__law_way : FnScope N__law_way ["_law_deck_here", "_law_many", "_law_long"] (defScope s__law_way) := ⟨rfl, rfl, rfl, by decide +kernel, rfl, by decide +kernel, by decide +kernel⟩
def R__law_way : D → D → DkP := fun v w cs n Q => ∃ (nk lg : Int), v = .int nk ∧ w = .int lg ∧ 1 ≤ nk ∧ nk ≤ 40 ∧ 0 ≤ lg ∧ lg ≤ 40 ∧ DkOk cs n ∧ n < 2 ^ 38 ∧ ∀ (ws : List Wst) (cs' : List Int) (n' : Int), WyOk ws → cs'.length ≤ 63 → n ≤ n' → n' ≤ n + 1000 → Q (.tup (ws.map Wst.d)) cs' n'
theorem ok__law_way (h__law_way : Dfn K mg "_law_way" s__law_way ["_law_deck_here", "_law_many", "_law_long"]) (B : Bl mg) (c__law_one : Cal P w K mg base CX0 "_law_one" 2 ["_law_deck_here", "_law_items"] (liftOw K (so1 R_one))) (c__law_run : Cal P w K mg base CX0 "_law_run" 3 ["_law_deck_here", "_law_many"] (liftOw K (so1 R__law_run))) (c__law_draw : Cal P w K mg base CX0 "_law_draw" 1 ["_law_deck_here", "_law_many"] (liftOw K (so1 R_draw))) : Cal P w K mg base CX0 "_law_way" 4 ["_law_deck_here", "_law_many", "_law_long"] (liftOw K (so2 R__law_way)) := by
  obtain ⟨f__law_one, fd__law_one, C__law_one⟩ := c__law_one
  obtain ⟨f__law_run, fd__law_run, C__law_run⟩ := c__law_run
  obtain ⟨f__law_draw, fd__law_draw, C__law_draw⟩ := c__law_draw
  refine cal_own h__law_way sc__law_way so2_len ⟨_, fun f cdv A outer s H E hgd hr => (b_cons (s_newL (i := 3) sc__law_way.nd dn)
    (b_cons (s_for PassesOwn.never rfl (i_range1 B.range (dc (dv 2) dn)) (g_name (i := 4) sc__law_way.nd) (b_cons (s_set (i := 5) sc__law_way.nd (d_tuplec B.tuple (dc (d_lc (own := [("_law_place", 6)]) rfl sc__law_way.nd (i_range1 B.range (dc (d_add d_int (d_callO 0 C__law_draw.fn hgd (hr.mono (by decide)) C__law_draw.mg C__law_draw.kp C__law_draw.bd pass0 (dc d_int dn))) dn)) (blkOk_by (N := N__law_way) (sc := defScope s__law_way) (by decide +kernel)) (fun _ _ _ _ _ => (c_name (i := 6) sc__law_way.nd)) (fun _ _ _ _ _ => ts_nil) (fun _ _ _ _ _ => (d_callO 0 C__law_run.fn hgd hr C__law_run.mg C__law_run.kp C__law_run.bd pass0 (dc (dv 1) dn)))) dn)))
    (b_one (s_app 3 (d_callO 0 C__law_one.fn hgd (hr.mono (by decide)) C__law_one.mg C__law_one.kp C__law_one.bd pass0 (dc (d_lst (dc (d_ixV 5 d_int) (dc (d_ixV 5 d_int) (dc (d_tup (dc (dv 5) (dc (d_ix (d_ixV 5 (d_neg d_int)) d_int) dn))) dn)))) dn))))))
    (b_one (s_ret (d_tuplec B.tuple (dc (dv 3) dn)))))), so2_by ?_⟩
  rintro _ _ cs n Q ⟨nk, lg, rfl, rfl, k1, k4, l0, l1, ⟨hcs, hn0⟩, hn, q⟩
  have e40 : (2 : Int) ^ 40 = 1099511627776 := by decide
  have e39 : (2 : Int) ^ 39 = 549755813888 := by decide
  have e38 : (2 : Int) ^ 38 = 274877906944 := by decide
  have e62 : (2 : Int) ^ 62 = 4611686018427387904 := by decide
  refine seq_intro fun k hk => ?_
  walk_at "rd"
  refine ⟨Nat.zero_le _, ?_⟩
  subst hk
  refine seq_intro fun k hk => ?_
  walk_at "rd"
  refine ⟨⟨by omega, by omega⟩, ?_⟩
  obtain ⟨IO, hIO⟩ : ∃ P : Nat → En → Prop, ∀ j E, P j E ↔ ∃ (cs' : List Int) (n' : Int) (ws : List Wst) (s4 s5 : Sl), (s4.free ∧ s5.free) ∧ ws.length = j ∧ (∀ s ∈ ws, s.ok ∧ s.n ≤ 4) ∧ cs'.length ≤ 63 ∧ n ≤ n' ∧ n' ≤ n + 22 * j ∧ E = [Sl.ow true (Ow.dk cs' n'), Sl.fz (.int nk), Sl.fz (.int lg), Sl.ow false (Ow.ol (ws.map Wst.d)), s4, s5, Sl.un] := ⟨_, fun _ _ => Iff.rfl⟩
  refine ⟨fun j E => IO j E, (hIO _ _).mpr ⟨cs, n, [], .un, .un, ⟨True.intro, True.intro⟩, rfl, (fun s hs => nomatch hs), hcs, Int.le_refl _, by omega, rfl⟩, ?_, ?_⟩
  · rintro i y _ hi hE
    obtain ⟨cs1, n1, ws, s4, s5, ⟨f4, f5⟩, wl, wok, h1, n10, n11, rfl⟩ := (hIO _ _).mp hE
    clear hE hk
    obtain ⟨hi2, rfl⟩ := rngD_inv hi
    refine ⟨f4, ?_⟩
    refine seq_intro fun k hk => ?_
    walk_at "rd"
    refine ⟨4, rfl, ⟨h1, by omega⟩, by omega, by decide, log60 (by decide) (by decide), fun d cs2 h2 d0 d1 => ?_⟩
    dsimp only
    refine ⟨⟨by omega, by omega⟩, ?_⟩
    obtain ⟨IR, hIR⟩ : ∃ P : Nat → List D → En → Prop, ∀ j acc E, P j acc E ↔ ∃ (cs' : List Int) (n' : Int) (rs : List (Nat × Nat)), acc = rs.map rnD ∧ rs.length = j ∧ (∀ r ∈ rs, RnOk r) ∧ cs'.length ≤ 63 ∧ n1 + 1 ≤ n' ∧ n' ≤ n1 + 1 + 4 * j ∧ E = [Sl.ow true (Ow.dk cs' n'), Sl.fz (.int nk), Sl.fz (.int lg), Sl.ow false (Ow.ol (ws.map Wst.d)), Sl.fz (.int (0 + i)), s5, Sl.un] := ⟨_, fun _ _ _ => Iff.rfl⟩
    refine ⟨fun j acc E => IR j acc E, (hIR _ _ _).mpr ⟨cs2, n1 + 1, [], rfl, rfl, (fun r hr => nomatch hr), h2, Int.le_refl _, by omega, rfl⟩, ?_, ?_⟩
    · rintro j y acc _ hj hE
      obtain ⟨cs3, n3, rs, rfl, rl, rok, h3, n30, n31, rfl⟩ := (hIR _ _ _).mp hE
      clear hE
      obtain ⟨hj2, rfl⟩ := rngD_inv hj
      walk_at "rd"
      refine ⟨nk, rfl, k1, k4, ⟨h3, by omega⟩, by omega, fun r cs4 n4 ok4 h4 n40 n41 => ?_⟩
      refine ⟨by rw [List.length_map]; exact small_lt (by omega), (hIR _ _ _).mpr ⟨cs4, n4, rs ++ [r], by rw [List.map_append]; rfl, by rw [List.length_append, rl]; rfl, fun x hx => ?_, h4, by omega, by omega, rfl⟩⟩
      rcases List.mem_append.mp hx with z | z
      · exact rok x z
      · rw [List.mem_singleton.mp z]
        exact ok4
    rintro acc _ hE
    obtain ⟨cs3, n3, rs, rfl, rl, rok, h3, n30, n31, rfl⟩ := (hIR _ _ _).mp hE
    clear hE
    rw [rngD_len] at rl n31
    have rp : 1 ≤ rs.length ∧ rs.length ≤ 4 := by omega
    refine ⟨f5, ?_⟩
    subst hk
    walk_at "rd"
    have e0 : atI (rs.map rnD) 0 = some (rnD rs[0]) := by
      have := atI_nat (L := rs.map rnD) (i := 0) (by rw [List.length_map]; omega)
      rw [List.getElem_map] at this
      exact this
    obtain ⟨r1, m1, e1⟩ : ∃ r1, r1 ∈ rs ∧ atI (rs.map rnD) (-1) = some (rnD r1) := by
      rcases List.eq_nil_or_concat rs with e | ⟨l, b, e⟩
      · rw [e] at rp
        exact absurd rp.1 (by decide)
      · refine ⟨b, by rw [e, List.concat_eq_append]; simp, ?_⟩
        rw [e, List.concat_eq_append, List.map_append]
        exact L2.atI_last _ _
    rw [e0, e1]
    dsimp only [rnD]
    rw [show atI [D.int (r1.1 : Int), D.int (r1.2 : Int)] 1 = some (D.int (r1.2 : Int)) from rfl]
    dsimp only
    refine ⟨small_le (by decide), small_le (by decide), _, .inl rfl, ⟨h3, by omega⟩, by omega, Nat.succ_pos _, small_le (by show (3 : Nat) ≤ 16777216; decide), fun v cs4 h4 hv => ?_⟩
    have k0 := rok rs[0] (List.getElem_mem _)
    have k1' := rok r1 m1
    obtain ⟨s, rfl, sok, sn⟩ : ∃ s : Wst, v = s.d ∧ s.ok ∧ s.n ≤ 4 := by
      simp only [List.mem_cons, List.not_mem_nil, or_false] at hv
      rcases hv with rfl | rfl | rfl
      · exact ⟨.one rs[0].1 rs[0].2, rfl, k0, by show 1 ≤ 4; decide⟩
      · exact ⟨.one rs[0].1 rs[0].2, rfl, k0, by show 1 ≤ 4; decide⟩
      · exact ⟨.rnd rs r1.2, rfl, ⟨fun z => by rw [z] at rp; exact absurd rp.1 (by decide), rok, k1'.t1, k1'.t2⟩, rp.2⟩
    refine ⟨by rw [List.length_map]; exact small_lt (by omega), (hIO _ _).mpr ⟨cs4, n3 + 1, ws ++ [s], .fz (.int (0 + i)), .fz (D.tup (rs.map rnD)), ⟨True.intro, True.intro⟩, by rw [List.length_append, wl]; rfl, fun x hx => ?_, h4, by omega, by omega, by rw [List.map_append]; rfl⟩⟩
    rcases List.mem_append.mp hx with z | z
    · exact wok x z
    · rw [List.mem_singleton.mp z]
      exact ⟨sok, sn⟩
  · rintro _ hE
    obtain ⟨cs1, n1, ws, s4, s5, ⟨f4, f5⟩, wl, wok, h1, n10, n11, rfl⟩ := (hIO _ _).mp hE
    clear hE
    rw [rngD_len] at wl n11
    subst hk
    walk_at "rd"
    refine ⟨_, rfl, q ws cs1 n1 ⟨fun s hs => (wok s hs).1, ?_⟩ h1 n10 (by omega)⟩
    have := sum_le (c := 4) fun s hs => (wok s hs).2
    omega
/-- a way as data -/
def wyD (ws : List Wst) : D := .tup (ws.map Wst.d)
theorem ok1 : WyOk [.rnd [(0, 2), (1, 1)] 30, .one 1 1] := by
  refine ⟨fun s hs => ?_, by decide⟩
  simp only [List.mem_cons, List.not_mem_nil, or_false] at hs
  rcases hs with rfl | rfl
  · refine ⟨by simp, fun r hr => ?_, by decide, by decide +kernel⟩
    simp only [List.mem_cons, List.not_mem_nil, or_false] at hr
    rcases hr with rfl | rfl <;> exact ⟨by decide, by decide, by decide +kernel⟩
  · exact ⟨by decide, by decide, by decide +kernel⟩
def oneR (r : Nat × Nat) : Wst := .one r.1 r.2
theorem ones_n : ∀ l : List (Nat × Nat), ((l.map oneR).map Wst.n).sum = l.length
  | [] => rfl
  | a :: l => by
    show 1 + ((l.map oneR).map Wst.n).sum = l.length + 1
    rw [ones_n l]
    omega
theorem cut_hd (l : List (Nat × Nat)) (k : Nat) : cutL (l.map rnD) none (some (k : Int)) = (l.take k).map rnD := by
  rw [cutL_to (Int.natCast_nonneg k), Int.toNat_natCast, List.map_take]
theorem cut_tl (l : List (Nat × Nat)) (k : Nat) (h : k ≤ l.length) : cutL (l.map rnD) (some (k : Int)) none = (l.drop k).map rnD := by
  rw [cutL_from (Int.natCast_nonneg k), Int.toNat_natCast, List.map_drop]
abbrev s_law : Stmt := top 28
abbrev N_law : List Str := ["_law_script", "_law_deck_here", "_law_ways", "_law_long", "_law_runs", "_law_k", "_law_way_here", "_law_due", "_law_shown"]
theorem sc_law : FnScope N_law ["_law_script"] (defScope s_law) := ⟨rfl, rfl, rfl, by decide +kernel, rfl, by decide +kernel, by decide +kernel⟩
theorem ok_law {f : Addr} {fd : FuncData} (F : Fun K "law" "law" s_law f fd) (B : Bl mg) (c__law_deck : Cal P w K mg base CX0 "_law_deck" 1 ["_law_script"] (spDeck K)) (c__law_way : Cal P w K mg base CX0 "_law_way" 4 ["_law_deck_here", "_law_many", "_law_long"] (liftOw K (so2 R__law_way))) (c__law_run : Cal P w K mg base CX0 "_law_run" 3 ["_law_deck_here", "_law_many"] (liftOw K (so1 R__law_run))) (c__law_way_text : Cal P w K mg base CX0 "_law_way_text" 2 ["_law_way_here"] (liftP K (sp1 R__law_way_text))) (c_parse_way : Cal P w K mg base CX0 "parse_way" 8 ["value"] (liftP K (sp1 R_parse_way))) (c_way_text : Cal P w K mg base CX0 "way_text" 3 ["way"] (liftP K (sp1 R_way_text))) : FnG P w K mg base CX0 9 f fd ["_law_script"] (spLaw K) := by
  obtain ⟨f__law_deck, fd__law_deck, C__law_deck⟩ := c__law_deck
  obtain ⟨f__law_way, fd__law_way, C__law_way⟩ := c__law_way
  obtain ⟨f__law_run, fd__law_run, C__law_run⟩ := c__law_run
  obtain ⟨f__law_way_text, fd__law_way_text, C__law_way_text⟩ := c__law_way_text
  obtain ⟨f_parse_way, fd_parse_way, C_parse_way⟩ := c_parse_way
  obtain ⟨f_way_text, fd_way_text, C_way_text⟩ := c_way_text
  refine FnG.body F sc_law (fun vs H Q E ⟨a, ns, e, _⟩ => by rw [e]; rfl) (fun cdv A outer s H vs Q E hgd hr h => ⟨_, PSs.nox (law_deck (i := 1) (N := N_law) (eN := rfl) (hiN := by decide) C__law_deck.fn hgd (hr.mono (by decide)) C__law_deck.mg C__law_deck.kp C__law_deck.bd pass0 sc_law.nd rfl rfl
    (b_cons (s_set (i := 2) sc_law.nd (d_add (d_lc (own := [("_law_long", 3)]) rfl sc_law.nd (i_seq (d_tup (dc d_int (dc d_int (dc d_int (dc d_int (dc d_int (dc d_int dn)))))))) (blkOk_by (N := N_law) (sc := defScope s_law) (by decide +kernel)) (fun _ _ _ _ _ => (c_name (i := 3) sc_law.nd)) (fun _ _ _ _ _ => ts_nil) (fun _ _ _ _ _ => (d_callO 1 C__law_way.fn hgd (hr.mono (by decide)) C__law_way.mg C__law_way.kp C__law_way.bd pass0 (dc d_int (dc (dv 3) dn))))) (d_lst (dc (d_callO 1 C__law_way.fn hgd (hr.mono (by decide)) C__law_way.mg C__law_way.kp C__law_way.bd pass0 (dc d_int (dc d_int dn))) dn))))
    (b_cons (s_set (i := 4) sc_law.nd (d_tuplec B.tuple (dc (d_lc (own := [("_law_k", 5)]) rfl sc_law.nd (i_range1 B.range (dc d_int dn)) (blkOk_by (N := N_law) (sc := defScope s_law) (by decide +kernel)) (fun _ _ _ _ _ => (c_name (i := 5) sc_law.nd)) (fun _ _ _ _ _ => ts_nil) (fun _ _ _ _ _ => (d_callO 1 C__law_run.fn hgd (hr.mono (by decide)) C__law_run.mg C__law_run.kp C__law_run.bd pass0 (dc d_int dn)))) dn)))
    (b_cons (s_set (i := 2) sc_law.nd (d_add (dv 2) (d_lst (dc (dv 4) (dc (d_tup (dc (d_tup (dc (dv 4) (dc (d_pow d_int d_int) dn))) dn)) (dc (d_add (d_tup (dc (d_tup (dc (d_slice (dv 4) o_none (o_some d_int)) (dc d_int dn))) dn)) (d_slice (dv 4) (o_some d_int) o_none)) (dc (d_tup (dc (d_tup (dc (d_tup (dc (d_tup (dc d_int (dc d_int dn))) dn)) (dc d_int dn))) dn)) (dc (d_tup (dc (d_tup (dc d_int (dc (d_pow d_int d_int) dn))) dn)) dn))))))))
    (b_cons (s_for PassesOwn.never rfl (i_seq (dv 2)) (g_name (i := 6) sc_law.nd) (b_cons (s_par (i := 7) (j := 8) rfl sc_law.nd (dc (d_call C__law_way_text.fn hgd (hr.mono (by decide)) C__law_way_text.mg C__law_way_text.kp C__law_way_text.bd pass0 (dc (dv 6) dn)) (dc (d_repr hgd hr.units B.repr (dc (dv 6) dn)) dn)))
    (b_cons (s_if (t_w (w_or (t_ne hr.units (d_repr hgd hr.units B.repr (dc (d_lst (dc (d_call C_way_text.fn hgd (hr.mono (by decide)) C_way_text.mg C_way_text.kp C_way_text.bd pass0 (dc (dv 6) dn)) (dc (d_call C_way_text.fn hgd (hr.mono (by decide)) C_way_text.mg C_way_text.kp C_way_text.bd pass0 (dc (dv 6) dn)) dn))) dn)) (d_repr hgd hr.units B.repr (dc (d_lst (dc (dv 7) (dc (dv 7) dn))) dn))) (w_or1 (t_ne hr.units (d_repr hgd hr.units B.repr (dc (dv 6) dn)) (dv 8))))) (b_one (s_ret d_bl)) b_nil)
    (b_one (s_if (t_ne hr.units (d_repr hgd hr.units B.repr (dc (d_lst (dc (d_call C_parse_way.fn hgd hr C_parse_way.mg C_parse_way.kp C_parse_way.bd pass0 (dc (dv 7) dn)) (dc (d_call C_parse_way.fn hgd hr C_parse_way.mg C_parse_way.kp C_parse_way.bd pass0 (dc (dv 7) dn)) dn))) dn)) (d_repr hgd hr.units B.repr (dc (d_lst (dc (dv 6) (dc (dv 6) dn))) dn))) (b_one (s_ret d_bl)) b_nil)))))
    (b_one (s_ret (d_and (d_eq hr.units (d_call C_parse_way.fn hgd hr C_parse_way.mg C_parse_way.kp C_parse_way.bd pass0 (dc d_str dn)) (d_tup (dc (d_tup (dc (d_tup (dc (d_tup (dc d_int (dc d_int dn))) (dc (d_tup (dc d_int (dc d_int dn))) dn))) (dc d_int dn))) (dc (d_tup (dc d_int (dc d_int dn))) dn)))) (d_one (d_eq hr.units (d_call C_way_text.fn hgd (hr.mono (by decide)) C_way_text.mg C_way_text.kp C_way_text.bd pass0 (dc (d_tup dn) dn)) d_str)))))))))), ?_⟩)
  obtain ⟨a, ns, rfl, hq, hl, ht, k⟩ := h
  refine ⟨a, ns, rfl, hq, hl, ht, fun cs hcs => ?_, fun H' => k H'⟩
  clear k hq hl ht
  have e37 : (2 : Int) ^ 37 = 137438953472 := by decide
  have e38 : (2 : Int) ^ 38 = 274877906944 := by decide
  have e39 : (2 : Int) ^ 39 = 549755813888 := by decide
  have e40 : (2 : Int) ^ 40 = 1099511627776 := by decide
  refine seq_intro fun k hk => ?_
  walk_at "rd"
  refine ⟨small_le (by decide), ?_⟩
  obtain ⟨IR, hIR⟩ : ∃ P : Nat → List D → En → Prop, ∀ j acc E, P j acc E ↔ ∃ (cs' : List Int) (n' : Int) (wss : List (List Wst)), acc = wss.map wyD ∧ wss.length = j ∧ (∀ w ∈ wss, WyOk w) ∧ cs'.length ≤ 63 ∧ 0 ≤ n' ∧ n' ≤ 1000 * j ∧ E = [Sl.un, Sl.ow false (Ow.dk cs' n'), Sl.un, Sl.un, Sl.un, Sl.un, Sl.un, Sl.un, Sl.un] := ⟨_, fun _ _ _ => Iff.rfl⟩
  refine ⟨fun j acc E => IR j acc E, (hIR _ _ _).mpr ⟨cs, 0, [], rfl, rfl, (fun w hw => nomatch hw), hcs, Int.le_refl _, by omega, rfl⟩, ?_, ?_⟩
  · rintro j y acc _ hj hE
    obtain ⟨cs1, n1, wss, rfl, wl, wok, h1, n10, n11, rfl⟩ := (hIR _ _ _).mp hE
    clear hE
    have j6 : j < 6 := (List.getElem?_eq_some_iff.mp hj).1
    obtain ⟨lg, rfl, l0, l1⟩ : ∃ lg : Int, y = D.int lg ∧ 0 ≤ lg ∧ lg ≤ 40 := by
      have hy := List.mem_of_getElem? hj
      simp only [List.mem_cons, List.not_mem_nil, or_false] at hy
      rcases hy with rfl | rfl | rfl | rfl | rfl | rfl <;> exact ⟨_, rfl, by decide, by decide⟩
    walk_at "rd"
    refine ⟨40, lg, rfl, rfl, by decide, by decide, l0, l1, ⟨h1, n10⟩, by omega, fun ws cs2 n2 ok h2 n20 n21 => ?_⟩
    refine ⟨by rw [List.length_map]; exact small_lt (by omega), (hIR _ _ _).mpr ⟨cs2, n2, wss ++ [ws], by rw [List.map_append]; rfl, by rw [List.length_append, wl]; rfl, fun x hx => ?_, h2, by omega, by omega, rfl⟩⟩
    rcases List.mem_append.mp hx with z | z
    · exact wok x z
    · rw [List.mem_singleton.mp z]
      exact ok
  rintro acc _ hE
  obtain ⟨cs1, n1, wss, rfl, wl, wok, h1, n10, n11, rfl⟩ := (hIR _ _ _).mp hE
  clear hE
  have wl : wss.length = 6 := wl
  have n11 : n1 ≤ 1000 * 6 := n11
  walk_at "rd"
  refine ⟨2, 3, rfl, rfl, by decide, by decide, by decide, by decide, ⟨h1, n10⟩, by omega, fun ws cs2 n2 ok h2 n20 n21 => ?_⟩
  refine ⟨small_le (by decide), small_le (by rw [List.length_map]; omega), ?_⟩
  rw [show wss.map wyD ++ [D.tup (ws.map Wst.d)] = (wss ++ [ws]).map wyD from by rw [List.map_append]; rfl]
  obtain ⟨w7, e7, l7, ok7⟩ : ∃ w7, w7 = wss ++ [ws] ∧ w7.length = 7 ∧ ∀ w ∈ w7, WyOk w := ⟨_, rfl, by rw [List.length_append, wl]; rfl, fun x hx => by
    rcases List.mem_append.mp hx with z | z
    · exact wok x z
    · rw [List.mem_singleton.mp z]
      exact ok⟩
  rw [← e7]
  clear e7
  subst hk
  refine seq_intro fun k hk => ?_
  walk_at "rd"
  obtain ⟨IQ, hIQ⟩ : ∃ P : Nat → List D → En → Prop, ∀ j acc E, P j acc E ↔ ∃ (cs' : List Int) (n' : Int) (rs : List (Nat × Nat)), acc = rs.map rnD ∧ rs.length = j ∧ (∀ r ∈ rs, RnOk r) ∧ cs'.length ≤ 63 ∧ 0 ≤ n' ∧ n' ≤ 7000 + 4 * j ∧ E = [Sl.un, Sl.ow false (Ow.dk cs' n'), Sl.fz (D.lst (w7.map wyD)), Sl.un, Sl.un, Sl.un, Sl.un, Sl.un, Sl.un] := ⟨_, fun _ _ _ => Iff.rfl⟩
  refine ⟨⟨by decide, by decide⟩, fun j acc E => IQ j acc E, (hIQ _ _ _).mpr ⟨cs2, n2, [], rfl, rfl, (fun r hr => nomatch hr), h2, by omega, by omega, rfl⟩, ?_, ?_⟩
  · rintro j y acc _ hj hE
    obtain ⟨cs3, n3, rs, rfl, rl, rok, h3, n30, n31, rfl⟩ := (hIQ _ _ _).mp hE
    clear hE
    obtain ⟨hj2, rfl⟩ := rngD_inv hj
    have hj2 : j < 200 := hj2
    walk_at "rd"
    refine ⟨40, rfl, by decide, by decide, ⟨h3, n30⟩, by omega, fun r cs4 n4 ok4 h4 n40 n41 => ?_⟩
    refine ⟨by rw [List.length_map]; exact small_lt (by omega), (hIQ _ _ _).mpr ⟨cs4, n4, rs ++ [r], by rw [List.map_append]; rfl, by rw [List.length_append, rl]; rfl, fun x hx => ?_, h4, by omega, by omega, rfl⟩⟩
    rcases List.mem_append.mp hx with z | z
    · exact rok x z
    · rw [List.mem_singleton.mp z]
      exact ok4
  rintro acc _ hE
  obtain ⟨cs3, n3, rs, rfl, rl, rok, h3, n30, n31, rfl⟩ := (hIQ _ _ _).mp hE
  clear hE
  have rl : rs.length = 200 := rl
  walk_at "rd"
  subst hk
  refine seq_intro fun k hk => ?_
  walk_at "rd"
  have e30 : (10 : Int) ^ 30 = ((G30 : Nat) : Int) := by decide +kernel
  have c1 : cutL (rs.map rnD) none (some 100) = (rs.take 100).map rnD := cut_hd rs 100
  have c2 : cutL (rs.map rnD) (some 100) none = (rs.drop 100).map rnD := cut_tl rs 100 (by omega)
  rw [c1, c2, e30]
  have s1 : (1 : Nat) ≤ sizeLine := small_le (by decide)
  have s2 : (2 : Nat) ≤ sizeLine := small_le (by decide)
  have p30 : CPow 10 30 := cpow (by decide) (by decide) (by decide) (by decide)
  refine ⟨p30, s2, s1, s2, s1, small_le (by rw [List.length_map, List.length_drop]; omega), s2, s1, s2, s1, p30, s2, s1, small_le (by decide), small_le (by rw [List.length_map]; omega), ?_⟩
  obtain ⟨w12, e12, ok12⟩ : ∃ w12, w12 = w7 ++ [rs.map oneR, [.rnd rs G30], .rnd (rs.take 100) 1 :: (rs.drop 100).map oneR, [.rnd [(0, 1)] 1], [.one 39 G30]] ∧ ∀ w ∈ w12, WyOk w := ⟨_, rfl, fun x hx => by
    have ro : ∀ l : List (Nat × Nat), (∀ r ∈ l, RnOk r) → ∀ s ∈ l.map oneR, s.ok := fun l hl s hs => by
      obtain ⟨r, hr, rfl⟩ := List.mem_map.mp hs
      exact hl r hr
    have g1 : 1 ≤ G30 := by decide +kernel
    have k39 : ∀ a b : Nat, a < 40 → 1 ≤ b → b ≤ G30 → RnOk (a, b) := fun a b h1 h2 h3 => ⟨h1, h2, h3⟩
    rcases List.mem_append.mp hx with z | z
    · exact ok7 x z
    · simp only [List.mem_cons, List.not_mem_nil, or_false] at z
      rcases z with rfl | rfl | rfl | rfl | rfl
      · exact ⟨ro rs rok, by rw [ones_n]; omega⟩
      · exact ⟨fun s hs => by
          rw [List.mem_singleton.mp hs]
          exact ⟨(fun z => (by rw [z] at rl; cases rl)), rok, g1, Nat.le_refl _⟩, by show rs.length + 0 ≤ 200; omega⟩
      · refine ⟨fun s hs => ?_, ?_⟩
        · rcases List.mem_cons.mp hs with e | z
          · rw [e]
            exact ⟨fun z => by have := congrArg List.length z; rw [List.length_take] at this; have : min 100 rs.length = 0 := this; omega, fun r hr => rok r (List.mem_of_mem_take hr), Nat.le_refl _, g1⟩
          · exact ro _ (fun r hr => rok r (List.mem_of_mem_drop hr)) s z
        · show (rs.take 100).length + (((rs.drop 100).map oneR).map Wst.n).sum ≤ 200
          rw [ones_n, List.length_take, List.length_drop]
          omega
      · exact ⟨fun s hs => by
          rw [List.mem_singleton.mp hs]
          exact ⟨by simp, fun r hr => by rw [List.mem_singleton.mp hr]; exact k39 0 1 (by decide) (Nat.le_refl _) g1, Nat.le_refl _, g1⟩, by decide⟩
      · exact ⟨fun s hs => by
          rw [List.mem_singleton.mp hs]
          exact k39 39 G30 (by decide) g1 (Nat.le_refl _), by decide⟩⟩
  rw [show w7.map wyD ++ [D.tup (rs.map rnD), D.tup [D.tup [D.tup (rs.map rnD), D.int (G30 : Nat)]], D.tup (D.tup [D.tup ((rs.take 100).map rnD), D.int 1] :: (rs.drop 100).map rnD), D.tup [D.tup [D.tup [D.tup [D.int 0, D.int 1]], D.int 1]], D.tup [D.tup [D.int 39, D.int (G30 : Nat)]]] = w12.map wyD from by
    rw [e12, List.map_append]
    have o : ∀ l : List (Nat × Nat), (l.map oneR).map Wst.d = l.map rnD := fun l => by rw [List.map_map]; rfl
    simp only [List.map_cons, List.map_nil, wyD, o]
    rfl]
  have l12 : w12.length = 12 := by rw [e12, List.length_append, l7]; rfl
  clear e12
  subst hk
  refine seq_intro fun k hk => ?_
  walk_at "rd"
  obtain ⟨IO, hIO⟩ : ∃ P : En → Prop, ∀ E, P E ↔ ∃ (s6 s7 s8 : Sl), (s6.free ∧ s7.free ∧ s8.free) ∧ E = [Sl.un, Sl.ow false (Ow.dk cs3 n3), Sl.fz (D.lst (w12.map wyD)), Sl.un, Sl.fz (D.tup (rs.map rnD)), Sl.un, s6, s7, s8] := ⟨_, fun _ => Iff.rfl⟩
  refine ⟨fun j E => IO E, (hIO _).mpr ⟨.un, .un, .un, ⟨True.intro, True.intro, True.intro⟩, rfl⟩, ?_, ?_⟩
  · rintro i y _ hi hE
    obtain ⟨s6, s7, s8, ⟨f6, f7, f8⟩, rfl⟩ := (hIO _).mp hE
    clear hE hk
    obtain ⟨ws, hw, rfl⟩ := map_get hi
    have ok := ok12 ws (List.mem_of_getElem? hw)
    rw [show wyD ws = D.tup (ws.map Wst.d) from rfl]
    have shw := (sh_wy ok).sh (by decide) (by decide)
    refine ⟨f6, ?_⟩
    refine seq_intro fun k hk => ?_
    walk_at "rd"
    refine ⟨ws, rfl, ok, shw, f7, f8, ?_⟩
    subst hk
    refine seq_intro fun k hk => ?_
    walk_at "rd"
    have shT : (D.lst [D.str (mk (wyL ws)), D.str (mk (wyL ws))]).sh := (Sh.lst (ShL.cons (sh_str (Sg.wy ws) ok.len) (ShL.cons (sh_str (Sg.wy ws) ok.len) (ShL.nil (k := 0))))).sh (by decide) (by decide)
    have shD : (D.lst [D.tup (ws.map Wst.d), D.tup (ws.map Wst.d)]).sh := (Sh.lst (ShL.cons (sh_wy ok) (ShL.cons (sh_wy ok) (ShL.nil (k := 0))))).sh (by decide) (by decide)
    have s2 : (2 : Nat) ≤ sizeLine := small_le (by decide)
    refine ⟨ws, rfl, ok, ws, rfl, ok, s2, shT, s2, shT, ?_⟩
    rw [decide_eq_true rfl, if_neg (by decide)]
    refine ⟨shw, ?_⟩
    rw [if_neg (by decide)]
    subst hk
    walk_at "rd"
    have ln := ok.len
    refine ⟨ws, rfl, ok.ok, ok.n, by omega, ws, rfl, ok.ok, ok.n, by omega, s2, shD, s2, shD, ?_⟩
    try rw [decide_eq_true rfl]
    rw [if_neg (by decide)]
    exact (hIO _).mpr ⟨.fz (D.tup (ws.map Wst.d)), .fz (.str (mk (wyL ws))), .fz (.str (D.tup (ws.map Wst.d)).py.shown), ⟨True.intro, True.intro, True.intro⟩, rfl⟩
  · rintro _ hE
    obtain ⟨s6, s7, s8, ⟨f6, f7, f8⟩, rfl⟩ := (hIO _).mp hE
    clear hE
    subst hk
    walk_at "rd"
    have s2 : (2 : Nat) ≤ sizeLine := small_le (by decide)
    refine ⟨[.rnd [(0, 2), (1, 1)] 30, .one 1 1], congrArg D.str (by decide +kernel), ok1.ok, by decide, by decide +kernel, s2, s2, s2, s2, s2, s2, ⟨rfl, by decide +kernel⟩, ⟨rfl, by decide +kernel⟩, ?_⟩
    rw [if_pos (by decide +kernel)]
    refine ⟨Nat.zero_le _, [], rfl, ⟨(fun s hs => nomatch hs), by decide⟩, ?_⟩
    exact congrArg D.bl (decide_eq_true (by decide +kernel))
end
theorem all_mk {l : PySem.W.OpenLaw} {w : World} {K : PySem.W.Frag} {h : Heap} {mg : Str → Option Value} {fa : Addr} {f0 : Addr} {od0 an0 : Option Addr} {sl0 : Array (Option Value)} {oc0 kV0 dc0 pm0 cd0 ct0 : Value} {f1 : Addr} {od1 an1 : Option Addr} {sl1 : Array (Option Value)} {oc1 kV1 dc1 pm1 cd1 ct1 : Value} {f2 : Addr} {od2 an2 : Option Addr} {sl2 : Array (Option Value)} {oc2 kV2 dc2 pm2 cd2 ct2 : Value} {f3 : Addr} {od3 an3 : Option Addr} {sl3 : Array (Option Value)} {oc3 kV3 dc3 pm3 cd3 ct3 : Value} {f4 : Addr} {od4 an4 : Option Addr} {sl4 : Array (Option Value)} {oc4 kV4 dc4 pm4 cd4 ct4 : Value} {f5 : Addr} {od5 an5 : Option Addr} {sl5 : Array (Option Value)} {oc5 kV5 dc5 pm5 cd5 ct5 : Value} {f6 : Addr} {od6 an6 : Option Addr} {sl6 : Array (Option Value)} {oc6 kV6 dc6 pm6 cd6 ct6 : Value} {f7 : Addr} {od7 an7 : Option Addr} {sl7 : Array (Option Value)} {oc7 kV7 dc7 pm7 cd7 ct7 : Value} {f8 : Addr} {od8 an8 : Option Addr} {sl8 : Array (Option Value)} {oc8 kV8 dc8 pm8 cd8 ct8 : Value} {f9 : Addr} {od9 an9 : Option Addr} {sl9 : Array (Option Value)} {oc9 kV9 dc9 pm9 cd9 ct9 : Value} {f10 : Addr} {od10 an10 : Option Addr} {sl10 : Array (Option Value)} {oc10 kV10 dc10 pm10 cd10 ct10 : Value} {f11 : Addr} {od11 an11 : Option Addr} {sl11 : Array (Option Value)} {oc11 kV11 dc11 pm11 cd11 ct11 : Value} {f12 : Addr} {od12 an12 : Option Addr} {sl12 : Array (Option Value)} {oc12 kV12 dc12 pm12 cd12 ct12 : Value} {f13 : Addr} {od13 an13 : Option Addr} {sl13 : Array (Option Value)} {oc13 kV13 dc13 pm13 cd13 ct13 : Value} {f14 : Addr} {od14 an14 : Option Addr} {sl14 : Array (Option Value)} {oc14 kV14 dc14 pm14 cd14 ct14 : Value} {f15 : Addr} {od15 an15 : Option Addr} {sl15 : Array (Option Value)} {oc15 kV15 dc15 pm15 cd15 ct15 : Value} {f16 : Addr} {od16 an16 : Option Addr} {sl16 : Array (Option Value)} {oc16 kV16 dc16 pm16 cd16 ct16 : Value} {f17 : Addr} {od17 an17 : Option Addr} {sl17 : Array (Option Value)} {oc17 kV17 dc17 pm17 cd17 ct17 : Value} {f18 : Addr} {od18 an18 : Option Addr} {sl18 : Array (Option Value)} {oc18 kV18 dc18 pm18 cd18 ct18 : Value} {f19 : Addr} {od19 an19 : Option Addr} {sl19 : Array (Option Value)} {oc19 kV19 dc19 pm19 cd19 ct19 : Value} {f20 : Addr} {od20 an20 : Option Addr} {sl20 : Array (Option Value)} {oc20 kV20 dc20 pm20 cd20 ct20 : Value} {f21 : Addr} {od21 an21 : Option Addr} {sl21 : Array (Option Value)} {oc21 kV21 dc21 pm21 cd21 ct21 : Value} {f22 : Addr} {od22 an22 : Option Addr} {sl22 : Array (Option Value)} {oc22 kV22 dc22 pm22 cd22 ct22 : Value} {f23 : Addr} {od23 an23 : Option Addr} {sl23 : Array (Option Value)} {oc23 kV23 dc23 pm23 cd23 ct23 : Value} {f24 : Addr} {od24 an24 : Option Addr} {sl24 : Array (Option Value)} {oc24 kV24 dc24 pm24 cd24 ct24 : Value} {f25 : Addr} {od25 an25 : Option Addr} {sl25 : Array (Option Value)} {oc25 kV25 dc25 pm25 cd25 ct25 : Value} {A_Reader : Addr} (X : K.In h) (G : h.Ns mainGlobals mg) (hfa : mg "law" = some (.ref fa))
    (a0 : PySem.W.nsIn K mainGlobals "_law_deck" = some (some (.ref f0))) (l0 : K.lookup f0 = some ⟨oc0, od0, .func (PySem.W.fnOf "_law_deck" "_law_deck" (defArgs s__law_deck) (defBody s__law_deck) (defScope s__law_deck) .none kV0 dc0 pm0 an0 cd0 ct0), sl0⟩) (c0 : PySem.W.codeIn K cd0 "_law_deck" = true) (k0 : PySem.W.keepIn K (.ref f0) = true)
    (a1 : PySem.W.nsIn K mainGlobals "_law_draw" = some (some (.ref f1))) (l1 : K.lookup f1 = some ⟨oc1, od1, .func (PySem.W.fnOf "_law_draw" "_law_draw" (defArgs s__law_draw) (defBody s__law_draw) (defScope s__law_draw) .none kV1 dc1 pm1 an1 cd1 ct1), sl1⟩) (c1 : PySem.W.codeIn K cd1 "_law_draw" = true) (k1 : PySem.W.keepIn K (.ref f1) = true)
    (a2 : PySem.W.nsIn K mainGlobals "_law_one" = some (some (.ref f2))) (l2 : K.lookup f2 = some ⟨oc2, od2, .func (PySem.W.fnOf "_law_one" "_law_one" (defArgs s__law_one) (defBody s__law_one) (defScope s__law_one) .none kV2 dc2 pm2 an2 cd2 ct2), sl2⟩) (c2 : PySem.W.codeIn K cd2 "_law_one" = true) (k2 : PySem.W.keepIn K (.ref f2) = true)
    (a3 : PySem.W.findIn K (.ref A_Reader) "__init__" = some (some (.ref f3))) (l3 : K.lookup f3 = some ⟨oc3, od3, .func (PySem.W.fnOf "__init__" "Reader.__init__" (defArgs s_Reader___init__) (defBody s_Reader___init__) (defScope s_Reader___init__) .none kV3 dc3 pm3 an3 cd3 ct3), sl3⟩) (c3 : PySem.W.codeIn K cd3 "Reader.__init__" = true) (k3 : PySem.W.keepIn K (.ref f3) = true) (i3 : PySem.W.isFn K (.ref f3) = true)
    (a4 : PySem.W.findIn K (.ref A_Reader) "refuse" = some (some (.ref f4))) (l4 : K.lookup f4 = some ⟨oc4, od4, .func (PySem.W.fnOf "refuse" "Reader.refuse" (defArgs s_Reader_refuse) (defBody s_Reader_refuse) (defScope s_Reader_refuse) .none kV4 dc4 pm4 an4 cd4 ct4), sl4⟩) (c4 : PySem.W.codeIn K cd4 "Reader.refuse" = true) (k4 : PySem.W.keepIn K (.ref f4) = true) (i4 : PySem.W.isFn K (.ref f4) = true)
    (a5 : PySem.W.findIn K (.ref A_Reader) "is_done" = some (some (.ref f5))) (l5 : K.lookup f5 = some ⟨oc5, od5, .func (PySem.W.fnOf "is_done" "Reader.is_done" (defArgs s_Reader_is_done) (defBody s_Reader_is_done) (defScope s_Reader_is_done) .none kV5 dc5 pm5 an5 cd5 ct5), sl5⟩) (c5 : PySem.W.codeIn K cd5 "Reader.is_done" = true) (k5 : PySem.W.keepIn K (.ref f5) = true) (i5 : PySem.W.isFn K (.ref f5) = true)
    (a6 : PySem.W.findIn K (.ref A_Reader) "is_next" = some (some (.ref f6))) (l6 : K.lookup f6 = some ⟨oc6, od6, .func (PySem.W.fnOf "is_next" "Reader.is_next" (defArgs s_Reader_is_next) (defBody s_Reader_is_next) (defScope s_Reader_is_next) .none kV6 dc6 pm6 an6 cd6 ct6), sl6⟩) (c6 : PySem.W.codeIn K cd6 "Reader.is_next" = true) (k6 : PySem.W.keepIn K (.ref f6) = true) (i6 : PySem.W.isFn K (.ref f6) = true)
    (a7 : PySem.W.findIn K (.ref A_Reader) "need" = some (some (.ref f7))) (l7 : K.lookup f7 = some ⟨oc7, od7, .func (PySem.W.fnOf "need" "Reader.need" (defArgs s_Reader_need) (defBody s_Reader_need) (defScope s_Reader_need) .none kV7 dc7 pm7 an7 cd7 ct7), sl7⟩) (c7 : PySem.W.codeIn K cd7 "Reader.need" = true) (k7 : PySem.W.keepIn K (.ref f7) = true) (i7 : PySem.W.isFn K (.ref f7) = true)
    (a8 : PySem.W.findIn K (.ref A_Reader) "end" = some (some (.ref f8))) (l8 : K.lookup f8 = some ⟨oc8, od8, .func (PySem.W.fnOf "end" "Reader.end" (defArgs s_Reader_end) (defBody s_Reader_end) (defScope s_Reader_end) .none kV8 dc8 pm8 an8 cd8 ct8), sl8⟩) (c8 : PySem.W.codeIn K cd8 "Reader.end" = true) (k8 : PySem.W.keepIn K (.ref f8) = true) (i8 : PySem.W.isFn K (.ref f8) = true)
    (a9 : PySem.W.findIn K (.ref A_Reader) "digit" = some (some (.ref f9))) (l9 : K.lookup f9 = some ⟨oc9, od9, .func (PySem.W.fnOf "digit" "Reader.digit" (defArgs s_Reader_digit) (defBody s_Reader_digit) (defScope s_Reader_digit) .none kV9 dc9 pm9 an9 cd9 ct9), sl9⟩) (c9 : PySem.W.codeIn K cd9 "Reader.digit" = true) (k9 : PySem.W.keepIn K (.ref f9) = true) (i9 : PySem.W.isFn K (.ref f9) = true)
    (a10 : PySem.W.findIn K (.ref A_Reader) "read_number" = some (some (.ref f10))) (l10 : K.lookup f10 = some ⟨oc10, od10, .func (PySem.W.fnOf "read_number" "Reader.read_number" (defArgs s_Reader_read_number) (defBody s_Reader_read_number) (defScope s_Reader_read_number) .none kV10 dc10 pm10 an10 cd10 ct10), sl10⟩) (c10 : PySem.W.codeIn K cd10 "Reader.read_number" = true) (k10 : PySem.W.keepIn K (.ref f10) = true) (i10 : PySem.W.isFn K (.ref f10) = true)
    (a11 : PySem.W.nsIn K mainGlobals "need_text" = some (some (.ref f11))) (l11 : K.lookup f11 = some ⟨oc11, od11, .func (PySem.W.fnOf "need_text" "need_text" (defArgs s_need_text) (defBody s_need_text) (defScope s_need_text) .none kV11 dc11 pm11 an11 cd11 ct11), sl11⟩) (c11 : PySem.W.codeIn K cd11 "need_text" = true) (k11 : PySem.W.keepIn K (.ref f11) = true)
    (a12 : PySem.W.nsIn K mainGlobals "read_times" = some (some (.ref f12))) (l12 : K.lookup f12 = some ⟨oc12, od12, .func (PySem.W.fnOf "read_times" "read_times" (defArgs s_read_times) (defBody s_read_times) (defScope s_read_times) .none kV12 dc12 pm12 an12 cd12 ct12), sl12⟩) (c12 : PySem.W.codeIn K cd12 "read_times" = true) (k12 : PySem.W.keepIn K (.ref f12) = true)
    (a13 : PySem.W.nsIn K mainGlobals "read_run" = some (some (.ref f13))) (l13 : K.lookup f13 = some ⟨oc13, od13, .func (PySem.W.fnOf "read_run" "read_run" (defArgs s_read_run) (defBody s_read_run) (defScope s_read_run) .none kV13 dc13 pm13 an13 cd13 ct13), sl13⟩) (c13 : PySem.W.codeIn K cd13 "read_run" = true) (k13 : PySem.W.keepIn K (.ref f13) = true)
    (a14 : PySem.W.nsIn K mainGlobals "read_round" = some (some (.ref f14))) (l14 : K.lookup f14 = some ⟨oc14, od14, .func (PySem.W.fnOf "read_round" "read_round" (defArgs s_read_round) (defBody s_read_round) (defScope s_read_round) .none kV14 dc14 pm14 an14 cd14 ct14), sl14⟩) (c14 : PySem.W.codeIn K cd14 "read_round" = true) (k14 : PySem.W.keepIn K (.ref f14) = true)
    (a15 : PySem.W.nsIn K mainGlobals "read_step" = some (some (.ref f15))) (l15 : K.lookup f15 = some ⟨oc15, od15, .func (PySem.W.fnOf "read_step" "read_step" (defArgs s_read_step) (defBody s_read_step) (defScope s_read_step) .none kV15 dc15 pm15 an15 cd15 ct15), sl15⟩) (c15 : PySem.W.codeIn K cd15 "read_step" = true) (k15 : PySem.W.keepIn K (.ref f15) = true)
    (a16 : PySem.W.nsIn K mainGlobals "runs_in" = some (some (.ref f16))) (l16 : K.lookup f16 = some ⟨oc16, od16, .func (PySem.W.fnOf "runs_in" "runs_in" (defArgs s_runs_in) (defBody s_runs_in) (defScope s_runs_in) .none kV16 dc16 pm16 an16 cd16 ct16), sl16⟩) (c16 : PySem.W.codeIn K cd16 "runs_in" = true) (k16 : PySem.W.keepIn K (.ref f16) = true)
    (a17 : PySem.W.nsIn K mainGlobals "parse_way" = some (some (.ref f17))) (l17 : K.lookup f17 = some ⟨oc17, od17, .func (PySem.W.fnOf "parse_way" "parse_way" (defArgs s_parse_way) (defBody s_parse_way) (defScope s_parse_way) .none kV17 dc17 pm17 an17 cd17 ct17), sl17⟩) (c17 : PySem.W.codeIn K cd17 "parse_way" = true) (k17 : PySem.W.keepIn K (.ref f17) = true)
    (a18 : PySem.W.nsIn K mainGlobals "run_text" = some (some (.ref f18))) (l18 : K.lookup f18 = some ⟨oc18, od18, .func (PySem.W.fnOf "run_text" "run_text" (defArgs s_run_text) (defBody s_run_text) (defScope s_run_text) .none kV18 dc18 pm18 an18 cd18 ct18), sl18⟩) (c18 : PySem.W.codeIn K cd18 "run_text" = true) (k18 : PySem.W.keepIn K (.ref f18) = true)
    (a19 : PySem.W.nsIn K mainGlobals "_law_run_text" = some (some (.ref f19))) (l19 : K.lookup f19 = some ⟨oc19, od19, .func (PySem.W.fnOf "_law_run_text" "_law_run_text" (defArgs s__law_run_text) (defBody s__law_run_text) (defScope s__law_run_text) .none kV19 dc19 pm19 an19 cd19 ct19), sl19⟩) (c19 : PySem.W.codeIn K cd19 "_law_run_text" = true) (k19 : PySem.W.keepIn K (.ref f19) = true)
    (a20 : PySem.W.nsIn K mainGlobals "step_text" = some (some (.ref f20))) (l20 : K.lookup f20 = some ⟨oc20, od20, .func (PySem.W.fnOf "step_text" "step_text" (defArgs s_step_text) (defBody s_step_text) (defScope s_step_text) .none kV20 dc20 pm20 an20 cd20 ct20), sl20⟩) (c20 : PySem.W.codeIn K cd20 "step_text" = true) (k20 : PySem.W.keepIn K (.ref f20) = true)
    (a21 : PySem.W.nsIn K mainGlobals "way_text" = some (some (.ref f21))) (l21 : K.lookup f21 = some ⟨oc21, od21, .func (PySem.W.fnOf "way_text" "way_text" (defArgs s_way_text) (defBody s_way_text) (defScope s_way_text) .none kV21 dc21 pm21 an21 cd21 ct21), sl21⟩) (c21 : PySem.W.codeIn K cd21 "way_text" = true) (k21 : PySem.W.keepIn K (.ref f21) = true)
    (a22 : PySem.W.nsIn K mainGlobals "_law_way_text" = some (some (.ref f22))) (l22 : K.lookup f22 = some ⟨oc22, od22, .func (PySem.W.fnOf "_law_way_text" "_law_way_text" (defArgs s__law_way_text) (defBody s__law_way_text) (defScope s__law_way_text) .none kV22 dc22 pm22 an22 cd22 ct22), sl22⟩) (c22 : PySem.W.codeIn K cd22 "_law_way_text" = true) (k22 : PySem.W.keepIn K (.ref f22) = true)
    (a23 : PySem.W.nsIn K mainGlobals "_law_run" = some (some (.ref f23))) (l23 : K.lookup f23 = some ⟨oc23, od23, .func (PySem.W.fnOf "_law_run" "_law_run" (defArgs s__law_run) (defBody s__law_run) (defScope s__law_run) .none kV23 dc23 pm23 an23 cd23 ct23), sl23⟩) (c23 : PySem.W.codeIn K cd23 "_law_run" = true) (k23 : PySem.W.keepIn K (.ref f23) = true)
    (a24 : PySem.W.nsIn K mainGlobals "_law_way" = some (some (.ref f24))) (l24 : K.lookup f24 = some ⟨oc24, od24, .func (PySem.W.fnOf "_law_way" "_law_way" (defArgs s__law_way) (defBody s__law_way) (defScope s__law_way) .none kV24 dc24 pm24 an24 cd24 ct24), sl24⟩) (c24 : PySem.W.codeIn K cd24 "_law_way" = true) (k24 : PySem.W.keepIn K (.ref f24) = true)
    (a25 : PySem.W.nsIn K mainGlobals "law" = some (some (.ref f25))) (l25 : K.lookup f25 = some ⟨oc25, od25, .func (PySem.W.fnOf "law" "law" (defArgs s_law) (defBody s_law) (defScope s_law) .none kV25 dc25 pm25 an25 cd25 ct25), sl25⟩) (c25 : PySem.W.codeIn K cd25 "law" = true) (k25 : PySem.W.keepIn K (.ref f25) = true)
    {tk0 : Tok} (w0 : PySem.W.nsIn K mainGlobals "DIGITS" = some (some (.str "0123456789" tk0)))
    {tk1 : Tok} (w1 : PySem.W.nsIn K mainGlobals "MAX_OFFERS" = some (some (.int 40 tk1)))
    {tk2 : Tok} (w2 : PySem.W.nsIn K mainGlobals "MAX_RUNS" = some (some (.int 200 tk2)))
    {tk3 : Tok} (w3 : PySem.W.nsIn K mainGlobals "MOST_TIMES" = some (some (.int 1000000000000000000000000000000 tk3)))
    (xa_Reader : PySem.W.nsIn K mainGlobals "Reader" = some (some (.ref A_Reader)))
    (xl0_Reader : PySem.W.plainGet K A_Reader Str.empty = true)
    (xl1_Reader : PySem.W.hasDictIn K A_Reader = true)
    (xl2_Reader : PySem.W.plainOver K A_Reader = true)
    (xl3_Reader : PySem.W.findIn K (.ref A_Reader) "__setattr__" = some (some (.builtin "object.__setattr__")))
    (xo_Reader_index : PySem.W.findIn K (.ref A_Reader) "index" = some none)
    (xo_Reader_line : PySem.W.findIn K (.ref A_Reader) "line" = some none)
    (xo_Reader_at : PySem.W.findIn K (.ref A_Reader) "at" = some none)
    (xk0_Reader : PySem.W.makesIn K A_Reader = true)
    (xk1_Reader : PySem.W.keepIn K (.ref A_Reader) = true)
    (xi0_Reader : PySem.W.findIn K (.ref A_Reader) "__class__" = some (some (.builtin "object.__class__")))
    (xi1_Reader : PySem.W.specialIn K (.builtin "object.__class__") "__get__" = some (some (.builtin "getset_descriptor.__get__")))
    (xi2_Reader : PySem.W.takesIn K (.builtin "object.__class__") = some true)
    (xi3_Reader : PySem.W.mroIn K A_Reader (.type "object") = some true)
    (xi4_Reader : PySem.W.kitOne K (.ref A_Reader) (.ref A_Reader) = some true)
    (z_len : PySem.W.nsIn K mainGlobals "len" = some none) (z_abs : PySem.W.nsIn K mainGlobals "abs" = some none) (z_int : PySem.W.nsIn K mainGlobals "int" = some none) (z_max : PySem.W.nsIn K mainGlobals "max" = some none) (z_min : PySem.W.nsIn K mainGlobals "min" = some none) (z_tuple : PySem.W.nsIn K mainGlobals "tuple" = some none) (z_list : PySem.W.nsIn K mainGlobals "list" = some none) (z_range : PySem.W.nsIn K mainGlobals "range" = some none) (z_sum : PySem.W.nsIn K mainGlobals "sum" = some none) (z_all : PySem.W.nsIn K mainGlobals "all" = some none) (z_any : PySem.W.nsIn K mainGlobals "any" = some none) (z_repr : PySem.W.nsIn K mainGlobals "repr" = some none) (z_sorted : PySem.W.nsIn K mainGlobals "sorted" = some none) (z_set : PySem.W.nsIn K mainGlobals "set" = some none) (z_isinstance : PySem.W.nsIn K mainGlobals "isinstance" = some none) (z_enumerate : PySem.W.nsIn K mainGlobals "enumerate" = some none) (z_zip : PySem.W.nsIn K mainGlobals "zip" = some none) (z_str : PySem.W.nsIn K mainGlobals "str" = some none) (z_divmod : PySem.W.nsIn K mainGlobals "divmod" = some none) (z_bool : PySem.W.nsIn K mainGlobals "bool" = some none) :
    ∃ fd : FuncData, (∀ (s : Shared) (v : Value), BindsTo s fd ⟨[v], []⟩ [("_law_script", v)]) ∧ ∀ base : Heap, K.In base → base.Ns mainGlobals mg → FnG l.prog w K mg base CX0 9 fa fd ["_law_script"] (spLaw K) := by
  have e := hfa.symm.trans (PySem.W.mg_of X G a25)
  cases e
  have B : Bl mg := ⟨PySem.W.mg_none_of X G z_len, PySem.W.mg_none_of X G z_abs, PySem.W.mg_none_of X G z_int, PySem.W.mg_none_of X G z_max, PySem.W.mg_none_of X G z_min, PySem.W.mg_none_of X G z_tuple, PySem.W.mg_none_of X G z_list, PySem.W.mg_none_of X G z_range, PySem.W.mg_none_of X G z_sum, PySem.W.mg_none_of X G z_all, PySem.W.mg_none_of X G z_any, PySem.W.mg_none_of X G z_repr, PySem.W.mg_none_of X G z_sorted, PySem.W.mg_none_of X G z_set, PySem.W.mg_none_of X G z_isinstance, PySem.W.mg_none_of X G z_enumerate, PySem.W.mg_none_of X G z_zip, PySem.W.mg_none_of X G z_str, PySem.W.mg_none_of X G z_divmod, PySem.W.mg_none_of X G z_bool⟩
  have d__law_deck : Dfn K mg "_law_deck" s__law_deck ["_law_script"] := ⟨f0, _, fun_mk (st := s__law_deck) l0 c0 k0, PySem.W.mg_of X G a0, (fun_mk (st := s__law_deck) l0 c0 k0).binds (ps := ["_law_script"]) fun _ _ _ _ _ _ us hl => match us, hl with | [_], _ => rfl⟩
  have d__law_draw : Dfn K mg "_law_draw" s__law_draw ["_law_deck_here", "_law_many"] := ⟨f1, _, fun_mk (st := s__law_draw) l1 c1 k1, PySem.W.mg_of X G a1, (fun_mk (st := s__law_draw) l1 c1 k1).binds (ps := ["_law_deck_here", "_law_many"]) fun _ _ _ _ _ _ us hl => match us, hl with | [_, _], _ => rfl⟩
  have d__law_one : Dfn K mg "_law_one" s__law_one ["_law_deck_here", "_law_items"] := ⟨f2, _, fun_mk (st := s__law_one) l2 c2 k2, PySem.W.mg_of X G a2, (fun_mk (st := s__law_one) l2 c2 k2).binds (ps := ["_law_deck_here", "_law_items"]) fun _ _ _ _ _ _ us hl => match us, hl with | [_, _], _ => rfl⟩
  have d_Reader___init__ : DfnI K mg "Reader" A_Reader "Reader.__init__" s_Reader___init__ ["self", "index", "line"] := ⟨f3, _, (fun_mk (st := s_Reader___init__) l3 c3 k3), (fun_mk (st := s_Reader___init__) l3 c3 k3).binds (ps := ["self", "index", "line"]) (fun _ _ _ _ _ _ us hl => match us, hl with | [_, _, _], _ => rfl), ⟨xk0_Reader, a3, i3, xk1_Reader⟩, PySem.W.mg_of X G xa_Reader⟩
  have d_Reader_refuse : DfnM K A_Reader "refuse" "Reader.refuse" s_Reader_refuse ["self"] := ⟨f4, _, (fun_mk (st := s_Reader_refuse) l4 c4 k4), (fun_mk (st := s_Reader_refuse) l4 c4 k4).binds (ps := ["self"]) (fun _ _ _ _ _ _ us hl => match us, hl with | [_], _ => rfl), ⟨xl0_Reader, xl1_Reader, xl2_Reader, xl3_Reader⟩, ⟨a4, i4, k4⟩⟩
  have d_Reader_is_done : DfnM K A_Reader "is_done" "Reader.is_done" s_Reader_is_done ["self"] := ⟨f5, _, (fun_mk (st := s_Reader_is_done) l5 c5 k5), (fun_mk (st := s_Reader_is_done) l5 c5 k5).binds (ps := ["self"]) (fun _ _ _ _ _ _ us hl => match us, hl with | [_], _ => rfl), ⟨xl0_Reader, xl1_Reader, xl2_Reader, xl3_Reader⟩, ⟨a5, i5, k5⟩⟩
  have d_Reader_is_next : DfnM K A_Reader "is_next" "Reader.is_next" s_Reader_is_next ["self", "sign"] := ⟨f6, _, (fun_mk (st := s_Reader_is_next) l6 c6 k6), (fun_mk (st := s_Reader_is_next) l6 c6 k6).binds (ps := ["self", "sign"]) (fun _ _ _ _ _ _ us hl => match us, hl with | [_, _], _ => rfl), ⟨xl0_Reader, xl1_Reader, xl2_Reader, xl3_Reader⟩, ⟨a6, i6, k6⟩⟩
  have d_Reader_need : DfnM K A_Reader "need" "Reader.need" s_Reader_need ["self", "text"] := ⟨f7, _, (fun_mk (st := s_Reader_need) l7 c7 k7), (fun_mk (st := s_Reader_need) l7 c7 k7).binds (ps := ["self", "text"]) (fun _ _ _ _ _ _ us hl => match us, hl with | [_, _], _ => rfl), ⟨xl0_Reader, xl1_Reader, xl2_Reader, xl3_Reader⟩, ⟨a7, i7, k7⟩⟩
  have d_Reader_end : DfnM K A_Reader "end" "Reader.end" s_Reader_end ["self"] := ⟨f8, _, (fun_mk (st := s_Reader_end) l8 c8 k8), (fun_mk (st := s_Reader_end) l8 c8 k8).binds (ps := ["self"]) (fun _ _ _ _ _ _ us hl => match us, hl with | [_], _ => rfl), ⟨xl0_Reader, xl1_Reader, xl2_Reader, xl3_Reader⟩, ⟨a8, i8, k8⟩⟩
  have d_Reader_digit : DfnM K A_Reader "digit" "Reader.digit" s_Reader_digit ["self"] := ⟨f9, _, (fun_mk (st := s_Reader_digit) l9 c9 k9), (fun_mk (st := s_Reader_digit) l9 c9 k9).binds (ps := ["self"]) (fun _ _ _ _ _ _ us hl => match us, hl with | [_], _ => rfl), ⟨xl0_Reader, xl1_Reader, xl2_Reader, xl3_Reader⟩, ⟨a9, i9, k9⟩⟩
  have d_Reader_read_number : DfnM K A_Reader "read_number" "Reader.read_number" s_Reader_read_number ["self", "low", "high"] := ⟨f10, _, (fun_mk (st := s_Reader_read_number) l10 c10 k10), (fun_mk (st := s_Reader_read_number) l10 c10 k10).binds (ps := ["self", "low", "high"]) (fun _ _ _ _ _ _ us hl => match us, hl with | [_, _, _], _ => rfl), ⟨xl0_Reader, xl1_Reader, xl2_Reader, xl3_Reader⟩, ⟨a10, i10, k10⟩⟩
  have d_need_text : Dfn K mg "need_text" s_need_text ["value"] := ⟨f11, _, fun_mk (st := s_need_text) l11 c11 k11, PySem.W.mg_of X G a11, (fun_mk (st := s_need_text) l11 c11 k11).binds (ps := ["value"]) fun _ _ _ _ _ _ us hl => match us, hl with | [_], _ => rfl⟩
  have d_read_times : Dfn K mg "read_times" s_read_times ["reader"] := ⟨f12, _, fun_mk (st := s_read_times) l12 c12 k12, PySem.W.mg_of X G a12, (fun_mk (st := s_read_times) l12 c12 k12).binds (ps := ["reader"]) fun _ _ _ _ _ _ us hl => match us, hl with | [_], _ => rfl⟩
  have d_read_run : Dfn K mg "read_run" s_read_run ["reader"] := ⟨f13, _, fun_mk (st := s_read_run) l13 c13 k13, PySem.W.mg_of X G a13, (fun_mk (st := s_read_run) l13 c13 k13).binds (ps := ["reader"]) fun _ _ _ _ _ _ us hl => match us, hl with | [_], _ => rfl⟩
  have d_read_round : Dfn K mg "read_round" s_read_round ["reader", "times", "most"] := ⟨f14, _, fun_mk (st := s_read_round) l14 c14 k14, PySem.W.mg_of X G a14, (fun_mk (st := s_read_round) l14 c14 k14).binds (ps := ["reader", "times", "most"]) fun _ _ _ _ _ _ us hl => match us, hl with | [_, _, _], _ => rfl⟩
  have d_read_step : Dfn K mg "read_step" s_read_step ["reader", "most"] := ⟨f15, _, fun_mk (st := s_read_step) l15 c15 k15, PySem.W.mg_of X G a15, (fun_mk (st := s_read_step) l15 c15 k15).binds (ps := ["reader", "most"]) fun _ _ _ _ _ _ us hl => match us, hl with | [_, _], _ => rfl⟩
  have d_runs_in : Dfn K mg "runs_in" s_runs_in ["step"] := ⟨f16, _, fun_mk (st := s_runs_in) l16 c16 k16, PySem.W.mg_of X G a16, (fun_mk (st := s_runs_in) l16 c16 k16).binds (ps := ["step"]) fun _ _ _ _ _ _ us hl => match us, hl with | [_], _ => rfl⟩
  have d_parse_way : Dfn K mg "parse_way" s_parse_way ["value"] := ⟨f17, _, fun_mk (st := s_parse_way) l17 c17 k17, PySem.W.mg_of X G a17, (fun_mk (st := s_parse_way) l17 c17 k17).binds (ps := ["value"]) fun _ _ _ _ _ _ us hl => match us, hl with | [_], _ => rfl⟩
  have d_run_text : Dfn K mg "run_text" s_run_text ["run"] := ⟨f18, _, fun_mk (st := s_run_text) l18 c18 k18, PySem.W.mg_of X G a18, (fun_mk (st := s_run_text) l18 c18 k18).binds (ps := ["run"]) fun _ _ _ _ _ _ us hl => match us, hl with | [_], _ => rfl⟩
  have d__law_run_text : Dfn K mg "_law_run_text" s__law_run_text ["_law_run_here"] := ⟨f19, _, fun_mk (st := s__law_run_text) l19 c19 k19, PySem.W.mg_of X G a19, (fun_mk (st := s__law_run_text) l19 c19 k19).binds (ps := ["_law_run_here"]) fun _ _ _ _ _ _ us hl => match us, hl with | [_], _ => rfl⟩
  have d_step_text : Dfn K mg "step_text" s_step_text ["step"] := ⟨f20, _, fun_mk (st := s_step_text) l20 c20 k20, PySem.W.mg_of X G a20, (fun_mk (st := s_step_text) l20 c20 k20).binds (ps := ["step"]) fun _ _ _ _ _ _ us hl => match us, hl with | [_], _ => rfl⟩
  have d_way_text : Dfn K mg "way_text" s_way_text ["way"] := ⟨f21, _, fun_mk (st := s_way_text) l21 c21 k21, PySem.W.mg_of X G a21, (fun_mk (st := s_way_text) l21 c21 k21).binds (ps := ["way"]) fun _ _ _ _ _ _ us hl => match us, hl with | [_], _ => rfl⟩
  have d__law_way_text : Dfn K mg "_law_way_text" s__law_way_text ["_law_way_here"] := ⟨f22, _, fun_mk (st := s__law_way_text) l22 c22 k22, PySem.W.mg_of X G a22, (fun_mk (st := s__law_way_text) l22 c22 k22).binds (ps := ["_law_way_here"]) fun _ _ _ _ _ _ us hl => match us, hl with | [_], _ => rfl⟩
  have d__law_run : Dfn K mg "_law_run" s__law_run ["_law_deck_here", "_law_many"] := ⟨f23, _, fun_mk (st := s__law_run) l23 c23 k23, PySem.W.mg_of X G a23, (fun_mk (st := s__law_run) l23 c23 k23).binds (ps := ["_law_deck_here", "_law_many"]) fun _ _ _ _ _ _ us hl => match us, hl with | [_, _], _ => rfl⟩
  have d__law_way : Dfn K mg "_law_way" s__law_way ["_law_deck_here", "_law_many", "_law_long"] := ⟨f24, _, fun_mk (st := s__law_way) l24 c24 k24, PySem.W.mg_of X G a24, (fun_mk (st := s__law_way) l24 c24 k24).binds (ps := ["_law_deck_here", "_law_many", "_law_long"]) fun _ _ _ _ _ _ us hl => match us, hl with | [_, _, _], _ => rfl⟩
  have v_DIGITS : ∃ t, mg "DIGITS" = some (.str "0123456789" t) := ⟨tk0, PySem.W.mg_of X G w0⟩
  have v_MAX_OFFERS : ∃ t, mg "MAX_OFFERS" = some (.int 40 t) := ⟨tk1, PySem.W.mg_of X G w1⟩
  have v_MAX_RUNS : ∃ t, mg "MAX_RUNS" = some (.int 200 t) := ⟨tk2, PySem.W.mg_of X G w2⟩
  have v_MOST_TIMES : ∃ t, mg "MOST_TIMES" = some (.int 1000000000000000000000000000000 t) := ⟨tk3, PySem.W.mg_of X G w3⟩
  have l_Reader : L2.Cls K A_Reader := ⟨xl0_Reader, xl1_Reader, xl2_Reader, xl3_Reader⟩
  have o_Reader_at : OFld K A_Reader "at" := ⟨⟨xl0_Reader, xl1_Reader, xl2_Reader, xl3_Reader⟩, xo_Reader_at⟩
  have o_Reader_index : OFld K A_Reader "index" := ⟨⟨xl0_Reader, xl1_Reader, xl2_Reader, xl3_Reader⟩, xo_Reader_index⟩
  have o_Reader_line : OFld K A_Reader "line" := ⟨⟨xl0_Reader, xl1_Reader, xl2_Reader, xl3_Reader⟩, xo_Reader_line⟩
  have m_Reader : mg "Reader" = some (.ref A_Reader) := PySem.W.mg_of X G xa_Reader
  refine ⟨PySem.W.fnOf "law" "law" (defArgs s_law) (defBody s_law) (defScope s_law) .none kV25 dc25 pm25 an25 cd25 ct25, fun s v => .of_eq rfl, fun base _ _ => ?_⟩
  have k__law_deck := ok__law_deck (P := l.prog) (w := w) (base := base) d__law_deck B
  have k__law_draw := ok__law_draw (P := l.prog) (w := w) (base := base) d__law_draw B
  have k__law_one := ok__law_one (P := l.prog) (w := w) (base := base) d__law_one B k__law_draw
  have k_Reader___init__ := ok_Reader___init__ (P := l.prog) (w := w) (base := base) l_Reader o_Reader_at o_Reader_index o_Reader_line d_Reader___init__ B
  have k_Reader_refuse := ok_Reader_refuse (P := l.prog) (w := w) (base := base) l_Reader d_Reader_refuse B
  have k_Reader_is_done := ok_Reader_is_done (P := l.prog) (w := w) (base := base) l_Reader o_Reader_at o_Reader_line d_Reader_is_done B
  have k_Reader_is_next := ok_Reader_is_next (P := l.prog) (w := w) (base := base) l_Reader o_Reader_at o_Reader_line d_Reader_is_next B
  have k_Reader_need := ok_Reader_need (P := l.prog) (w := w) (base := base) l_Reader o_Reader_at o_Reader_line d_Reader_need B k_Reader_is_next k_Reader_refuse
  have k_Reader_end := ok_Reader_end (P := l.prog) (w := w) (base := base) l_Reader d_Reader_end B k_Reader_is_done k_Reader_refuse
  have k_Reader_digit := ok_Reader_digit (P := l.prog) (w := w) (base := base) l_Reader o_Reader_at o_Reader_line d_Reader_digit B v_DIGITS k_Reader_is_done
  have k_Reader_read_number := ok_Reader_read_number (P := l.prog) (w := w) (base := base) l_Reader o_Reader_at o_Reader_line d_Reader_read_number B k_Reader_digit k_Reader_refuse
  have k_need_text := ok_need_text (P := l.prog) (w := w) (base := base) d_need_text B
  have k_read_times := ok_read_times (P := l.prog) (w := w) (base := base) l_Reader d_read_times B v_MOST_TIMES k_Reader_need k_Reader_read_number k_Reader_is_next k_Reader_refuse
  have k_read_run := ok_read_run (P := l.prog) (w := w) (base := base) l_Reader d_read_run B v_MAX_OFFERS k_Reader_read_number k_read_times
  have k_read_round := ok_read_round (P := l.prog) (w := w) (base := base) l_Reader d_read_round B k_Reader_need k_read_run k_Reader_is_next
  have k_read_step := ok_read_step (P := l.prog) (w := w) (base := base) l_Reader d_read_step B v_MAX_OFFERS v_MOST_TIMES k_Reader_read_number k_read_round k_read_times k_Reader_is_next
  have k_runs_in := ok_runs_in (P := l.prog) (w := w) (base := base) d_runs_in B
  have k_parse_way := ok_parse_way (P := l.prog) (w := w) (base := base) l_Reader m_Reader d_parse_way B v_MAX_RUNS k_need_text k_Reader___init__ k_Reader_is_next k_Reader_end k_Reader_need k_read_step k_runs_in
  have k_run_text := ok_run_text (P := l.prog) (w := w) (base := base) d_run_text B
  have k__law_run_text := ok__law_run_text (P := l.prog) (w := w) (base := base) d__law_run_text B
  have k_step_text := ok_step_text (P := l.prog) (w := w) (base := base) d_step_text B k_run_text
  have k_way_text := ok_way_text (P := l.prog) (w := w) (base := base) d_way_text B k_step_text
  have k__law_way_text := ok__law_way_text (P := l.prog) (w := w) (base := base) d__law_way_text B k__law_run_text
  have k__law_run := ok__law_run (P := l.prog) (w := w) (base := base) d__law_run B k__law_one k__law_draw
  have k__law_way := ok__law_way (P := l.prog) (w := w) (base := base) d__law_way B k__law_one k__law_run k__law_draw
  exact ok_law (P := l.prog) (w := w) (base := base) (fun_mk (st := s_law) l25 c25 k25) B k__law_deck k__law_way k__law_run k__law_way_text k_parse_way k_way_text
end Zk21

open PySem PySem.W PyProof.Rows in
set_option maxRecDepth 100000 in
set_option maxHeartbeats 0 in
theorem PySem.Challenge.cw_smallchange_k21_texts_of_ways_holds : PySem.Challenge.rw_smallchange_k21_texts_of_ways.Holds := by
  w_on; o_law; k_head; (case hw => w_witness2)
  k_fill
  letI : L3.Tbs := ⟨[]⟩
  refine L3.walkG (k := 9) (x := "_law_script") (l := PySem.Challenge.rw_smallchange_k21_texts_of_ways) rfl rfl rfl ⟨rfl, by decide, by decide⟩ (fun w h Y => PySem.W.kIn_of Y) ?F
  case F =>
    intro w mg fa h KX G hmg
    refine' Zk21.all_mk KX G hmg ?a0 ?l0 ?c0 ?k0 ?a1 ?l1 ?c1 ?k1 ?a2 ?l2 ?c2 ?k2 ?a3 ?l3 ?c3 ?k3 ?i3 ?a4 ?l4 ?c4 ?k4 ?i4 ?a5 ?l5 ?c5 ?k5 ?i5 ?a6 ?l6 ?c6 ?k6 ?i6 ?a7 ?l7 ?c7 ?k7 ?i7 ?a8 ?l8 ?c8 ?k8 ?i8 ?a9 ?l9 ?c9 ?k9 ?i9 ?a10 ?l10 ?c10 ?k10 ?i10 ?a11 ?l11 ?c11 ?k11 ?a12 ?l12 ?c12 ?k12 ?a13 ?l13 ?c13 ?k13 ?a14 ?l14 ?c14 ?k14 ?a15 ?l15 ?c15 ?k15 ?a16 ?l16 ?c16 ?k16 ?a17 ?l17 ?c17 ?k17 ?a18 ?l18 ?c18 ?k18 ?a19 ?l19 ?c19 ?k19 ?a20 ?l20 ?c20 ?k20 ?a21 ?l21 ?c21 ?k21 ?a22 ?l22 ?c22 ?k22 ?a23 ?l23 ?c23 ?k23 ?a24 ?l24 ?c24 ?k24 ?a25 ?l25 ?c25 ?k25 ?w0 ?w1 ?w2 ?w3 ?xa_Reader ?xl0_Reader ?xl1_Reader ?xl2_Reader ?xl3_Reader ?xo_Reader_index ?xo_Reader_line ?xo_Reader_at ?xk0_Reader ?xk1_Reader ?xi0_Reader ?xi1_Reader ?xi2_Reader ?xi3_Reader ?xi4_Reader ?z_len ?z_abs ?z_int ?z_max ?z_min ?z_tuple ?z_list ?z_range ?z_sum ?z_all ?z_any ?z_repr ?z_sorted ?z_set ?z_isinstance ?z_enumerate ?z_zip ?z_str ?z_divmod ?z_bool
    (case xa_Reader => k_is)
    (case a0 => k_is)
    (case l0 => k_is)
    (case c0 => k_is)
    (case k0 => k_is)
    (case a1 => k_is)
    (case l1 => k_is)
    (case c1 => k_is)
    (case k1 => k_is)
    (case a2 => k_is)
    (case l2 => k_is)
    (case c2 => k_is)
    (case k2 => k_is)
    (case a3 => k_is)
    (case l3 => k_is)
    (case c3 => k_is)
    (case k3 => k_is)
    (case i3 => k_is)
    (case a4 => k_is)
    (case l4 => k_is)
    (case c4 => k_is)
    (case k4 => k_is)
    (case i4 => k_is)
    (case a5 => k_is)
    (case l5 => k_is)
    (case c5 => k_is)
    (case k5 => k_is)
    (case i5 => k_is)
    (case a6 => k_is)
    (case l6 => k_is)
    (case c6 => k_is)
    (case k6 => k_is)
    (case i6 => k_is)
    (case a7 => k_is)
    (case l7 => k_is)
    (case c7 => k_is)
    (case k7 => k_is)
    (case i7 => k_is)
    (case a8 => k_is)
    (case l8 => k_is)
    (case c8 => k_is)
    (case k8 => k_is)
    (case i8 => k_is)
    (case a9 => k_is)
    (case l9 => k_is)
    (case c9 => k_is)
    (case k9 => k_is)
    (case i9 => k_is)
    (case a10 => k_is)
    (case l10 => k_is)
    (case c10 => k_is)
    (case k10 => k_is)
    (case i10 => k_is)
    (case a11 => k_is)
    (case l11 => k_is)
    (case c11 => k_is)
    (case k11 => k_is)
    (case a12 => k_is)
    (case l12 => k_is)
    (case c12 => k_is)
    (case k12 => k_is)
    (case a13 => k_is)
    (case l13 => k_is)
    (case c13 => k_is)
    (case k13 => k_is)
    (case a14 => k_is)
    (case l14 => k_is)
    (case c14 => k_is)
    (case k14 => k_is)
    (case a15 => k_is)
    (case l15 => k_is)
    (case c15 => k_is)
    (case k15 => k_is)
    (case a16 => k_is)
    (case l16 => k_is)
    (case c16 => k_is)
    (case k16 => k_is)
    (case a17 => k_is)
    (case l17 => k_is)
    (case c17 => k_is)
    (case k17 => k_is)
    (case a18 => k_is)
    (case l18 => k_is)
    (case c18 => k_is)
    (case k18 => k_is)
    (case a19 => k_is)
    (case l19 => k_is)
    (case c19 => k_is)
    (case k19 => k_is)
    (case a20 => k_is)
    (case l20 => k_is)
    (case c20 => k_is)
    (case k20 => k_is)
    (case a21 => k_is)
    (case l21 => k_is)
    (case c21 => k_is)
    (case k21 => k_is)
    (case a22 => k_is)
    (case l22 => k_is)
    (case c22 => k_is)
    (case k22 => k_is)
    (case a23 => k_is)
    (case l23 => k_is)
    (case c23 => k_is)
    (case k23 => k_is)
    (case a24 => k_is)
    (case l24 => k_is)
    (case c24 => k_is)
    (case k24 => k_is)
    (case a25 => k_is)
    (case l25 => k_is)
    (case c25 => k_is)
    (case k25 => k_is)
    (case w0 => k_is)
    (case w1 => k_is)
    (case w2 => k_is)
    (case w3 => k_is)
    (case xl0_Reader => first | k_is | kernel_rfl)
    (case xl1_Reader => first | k_is | kernel_rfl)
    (case xl2_Reader => first | k_is | kernel_rfl)
    (case xl3_Reader => first | k_is | kernel_rfl)
    (case xo_Reader_index => k_is)
    (case xo_Reader_line => k_is)
    (case xo_Reader_at => k_is)
    (case xk0_Reader => first | k_is | kernel_rfl)
    (case xk1_Reader => k_is)
    (case xi0_Reader => k_is)
    (case xi1_Reader => k_is)
    (case xi2_Reader => k_is)
    (case xi3_Reader => k_is)
    (case xi4_Reader => kit_is)
    (case z_len => k_is)
    (case z_abs => k_is)
    (case z_int => k_is)
    (case z_max => k_is)
    (case z_min => k_is)
    (case z_tuple => k_is)
    (case z_list => k_is)
    (case z_range => k_is)
    (case z_sum => k_is)
    (case z_all => k_is)
    (case z_any => k_is)
    (case z_repr => k_is)
    (case z_sorted => k_is)
    (case z_set => k_is)
    (case z_isinstance => k_is)
    (case z_enumerate => k_is)
    (case z_zip => k_is)
    (case z_str => k_is)
    (case z_divmod => k_is)
    (case z_bool => k_is)
