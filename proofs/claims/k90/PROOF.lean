import PyProof.Rows.All
import Wide.All
import OpenK.AllK
import Wide.FinOn
import HandS.ForMost
import HandS.ForExc
import HandS.EndBits
import HandS.Wide
import HandS.Flow
import HandS.TupAny
import HandS.Exc
import HandS.ExcField
import HandS.ExcIs
import HandS.ExcInit
import HandS.TryMany
import HandS.Lambda
import HandS.Style
import HandS.Deep
import HandS.IsInst
import HandS.RaiseMore
import HandS.TupLe
import PyProof.ReprLen
import HandS.Conv
import HandS.Dict
import HandS.More
import HandS.TupSets
import HandS.Zip
import HandS.TupMul
import KE.GoesMore
import KE.KExcSuper
import KE.KExcLine
import HandS.ExcOwn
import HandS.ExcSuper
import KE.KExcIs
import HandS.Star
import HandS.ExcBuiltin
import KE.DataFind
import HandS.Iter
import HandS.SortInts
import HandS.Strs
import KE.KStar
import PyProof.EqKinds
import PyProof.EqAt
import PyProof.StrLawsRepr
import KE.KCallOwn
import KE.SortData
import HandS.FStr
import HandS.Text
import KE.GoesEnumKw
import HandS.Codes
import PyProof.StrLaws
import HandS.SetKeys
import KE.KOwnIter
import HandS.OwnIter
import HandS.ClsMeth
import OpenK.KOps
import HandS.IterVal
import HandS.NoneIn
import HandS.TupLen
import KE.KDictCopyH
import KE.KDictOf
import KE.KDictKeyed
import KE.KDictPairs
import HandS.Defaults
import HandS.MakeKwOnly
import OpenK.AllK
import PyProof.Rows.Range3
import PyProof.RulesMatch
import KE.OsRunLaw
import PySem.Challenge.RW_smallchange_k90_tills_made
set_option Elab.async false
set_option linter.all false
set_option maxRecDepth 100000
set_option maxHeartbeats 4000000
namespace HS
open PySem PySem.W PySem.Calls PyProof.Rows HeadRun
set_option maxHeartbeats 0
theorem fin {σ α β γ : Type} {o : Option σ} {f : σ → α} {g : σ → β} {k : σ → γ} {a : α} {b : β} {c : γ} (h1 : o.map (fun s => (f s, g s)) = some (a, b)) (h3 : o.map k = some c) : o.map (fun s => (f s, g s, k s)) = some (a, b, c) := by
  cases o with
  | none => cases h3
  | some s =>
    have e := Option.some.inj h1
    have e1 : f s = a := congrArg Prod.fst e
    have e2 : g s = b := congrArg Prod.snd e
    have e3 : k s = c := Option.some.inj h3
    show some (f s, g s, k s) = _
    rw [e1, e2, e3]
def p1 {α β : Type} (x : α × β) : α := match x with | (a, _) => a
def p2 {α β : Type} (x : α × β) : β := match x with | (_, b) => b
theorem joinAll {σ A1 A2 A3 A4 A5 A6 A7 A8 A9 : Type} {o : Option σ} {a : σ → Bool} {F : σ → A1 × A2 × A3 × A4 × A5 × A6 × A7 × A8 × A9} {v1 : A1} {v2 : A2} {v3 : A3} {v4 : A4} {v5 : A5} {v6 : A6} {v7 : A7} {v8 : A8} {v9 : A9}
    (g1 : o.map (fun s => (a s, p1 (p2 (F s)), p1 (p2 (p2 (p2 (p2 (F s))))), p1 (p2 (p2 (p2 (p2 (p2 (p2 (F s))))))))) = some (true, v2, v5, v7)) (b1 : o.map (fun s => p1 (F s)) = some v1) (b3 : o.map (fun s => p1 (p2 (p2 (F s)))) = some v3) (b4 : o.map (fun s => p1 (p2 (p2 (p2 (F s))))) = some v4) (b6 : o.map (fun s => p1 (p2 (p2 (p2 (p2 (p2 (F s))))))) = some v6)
    (g2 : o.map (fun s => (p1 (p2 (p2 (p2 (p2 (p2 (p2 (p2 (F s)))))))), p2 (p2 (p2 (p2 (p2 (p2 (p2 (p2 (F s)))))))))) = some (v8, v9)) : o.map (fun s => (a s, F s)) = some (true, v1, v2, v3, v4, v5, v6, v7, v8, v9) := by
  cases o with
  | none => cases b1
  | some s =>
    have g1 : (a s, p1 (p2 (F s)), p1 (p2 (p2 (p2 (p2 (F s))))), p1 (p2 (p2 (p2 (p2 (p2 (p2 (F s)))))))) = (true, v2, v5, v7) := Option.some.inj g1
    have b1 : p1 (F s) = v1 := Option.some.inj b1
    have b3 : p1 (p2 (p2 (F s))) = v3 := Option.some.inj b3
    have b4 : p1 (p2 (p2 (p2 (F s)))) = v4 := Option.some.inj b4
    have b6 : p1 (p2 (p2 (p2 (p2 (p2 (F s)))))) = v6 := Option.some.inj b6
    have g2 : (p1 (p2 (p2 (p2 (p2 (p2 (p2 (p2 (F s)))))))), p2 (p2 (p2 (p2 (p2 (p2 (p2 (p2 (F s))))))))) = (v8, v9) := Option.some.inj g2
    revert g1 b1 b3 b4 b6 g2
    show _ → _ → _ → _ → _ → _ → some (a s, F s) = _
    generalize F s = y
    obtain ⟨x1, x2, x3, x4, x5, x6, x7, x8, x9⟩ := y
    intro g1 b1 b3 b4 b6 g2
    have h0 : a s = true := congrArg Prod.fst g1
    have h2 : x2 = v2 := congrArg (fun z => z.2.1) g1
    have h5 : x5 = v5 := congrArg (fun z => z.2.2.1) g1
    have h7 : x7 = v7 := congrArg (fun z => z.2.2.2) g1
    have h1 : x1 = v1 := b1
    have h3 : x3 = v3 := b3
    have h4 : x4 = v4 := b4
    have h6 : x6 = v6 := b6
    have h8 : x8 = v8 := congrArg Prod.fst g2
    have h9 : x9 = v9 := congrArg Prod.snd g2
    rw [h0, h1, h2, h3, h4, h5, h6, h7, h8, h9]
@[reducible] noncomputable def pg : Program := PySem.Challenge.rw_smallchange_k90_tills_made.row.prog
@[irreducible] noncomputable def q : Program := PySem.W.view pg [0, 2, 3, 4, 5, 6, 7, 8, 9, 10, 11, 12, 14, 15, 16, 17, 18, 20, 21, 22, 23, 24, 25, 26, 27, 28, 29, 30, 31, 32, 33, 34, 35, 36, 38, 39, 41, 42, 43, 44, 45, 46, 47, 48, 49, 50, 51, 52, 53, 54, 55, 56, 57, 59, 60, 61, 62, 63, 65, 66, 67, 68, 69, 70, 71, 72, 73, 74, 75, 76, 77, 78, 79, 80, 82, 83, 84, 85, 87, 88, 89, 90, 91, 92, 93, 94, 95, 96, 97, 98, 99, 100, 101, 102, 103]
@[reducible] noncomputable def loose : List PySem.Str := [Str.ofString "MAX_PURSE", Str.ofString "END", Str.ofString "Node", Str.ofString "Growth", Str.ofString "most_covers", Str.ofString "Till"]
@[reducible] noncomputable def lv : List (PySem.Str × WData) := [(Str.ofString "MAX_PURSE", WData.int 1000000), (Str.ofString "END", WData.int 1606938044258990275541962092341162602522202993782792835301376)]
@[reducible] noncomputable def rw : RowW := PySem.Challenge.rw_smallchange_k90_tills_made.row.toRowW
@[irreducible] noncomputable def E (w : World) (os : OsState) : Option SharedT := endF (stepQ (denQ tabQ) pg w) 15692 pg w os
@[irreducible] noncomputable def F (s : SharedT) := seenQ q loose (importedModules pg.main.body) (fun s => xlAt q lv s && recOk (RowW.records rw) s) s.abs
theorem g1 (w : World) (os : OsState) : (E w os).map (fun s => (looksF pg (boot_heap w.params) s.abs, p1 (p2 (F s)), p1 (p2 (p2 (p2 (p2 (F s))))), p1 (p2 (p2 (p2 (p2 (p2 (p2 (F s))))))))) = some ((true, bltViewBooted, pinGoodD (drecsOf q), plainGoodD q loose)) := by kernel_rfl
theorem b1 (w : World) (os : OsState) : (E w os).map (fun s => p1 (F s)) = some (expectedOf q) := by kernel_rfl
theorem b3 (w : World) (os : OsState) : (E w os).map (fun s => p1 (p2 (p2 (F s)))) = some (true) := by kernel_rfl
theorem b4 (w : World) (os : OsState) : (E w os).map (fun s => p1 (p2 (p2 (p2 (F s))))) = some (true) := by kernel_rfl
theorem b6 (w : World) (os : OsState) : (E w os).map (fun s => p1 (p2 (p2 (p2 (p2 (p2 (F s))))))) = some ([]) := by kernel_rfl
theorem g2 (w : World) (os : OsState) : (E w os).map (fun s => (p1 (p2 (p2 (p2 (p2 (p2 (p2 (p2 (F s)))))))), p2 (p2 (p2 (p2 (p2 (p2 (p2 (p2 (F s)))))))))) = some ((wideGood q, clsGoodW q loose)) := by kernel_rfl
theorem b6e : plainGoodE q (looseW q loose) = [] := by kernel_rfl
theorem allq (w : World) (os : OsState) : (E w os).map (fun s => (looksF pg (boot_heap w.params) s.abs, F s)) = some (true, openGood q loose) := by
  have x := joinAll (o := E w os) (a := fun s => looksF pg (boot_heap w.params) s.abs) (F := F) (g1 w os) (b1 w os) (b3 w os) (b4 w os) (b6 w os) (g2 w os)
  unfold openGood
  rw [b6e]
  exact x
theorem allv {v : Program} (e : q = v) (w : World) (os : OsState) : (endF (stepQ (denQ tabQ) pg w) 15692 pg w os).map (fun s => (looksF pg (boot_heap w.params) s.abs, seenQ v loose (importedModules pg.main.body) (fun s => xlAt v lv s && recOk (RowW.records rw) s) s.abs)) = some (true, openGood v loose) := by
  subst e
  have x := allq w os
  unfold E F at x
  exact x
end HS
section
local macro_rules | `(tactic| kernel_rfl) => `(tactic| (with_reducible refine HS.fin ?h1 ?hk; (case h1 => (first | (with_reducible refine HS.allv ?hq _ _) | (refine HS.allv ?hq _ _)); (case hq => kernel_rfl)); (case hk => kernel_rfl)))
local macro_rules | `(tactic| k_head) => `(tactic| k_headL)
set_option maxHeartbeats 0
open PySem PySem.W PyProof.Rows
open_top HS.pre for PySem.Challenge.rw_smallchange_k90_tills_made
end
namespace L3
open PySem L2

inductive D where
  | non | bl (b : Bool) | int (i : Int) | str (x : Str) | opq (v : V)
  | tup (xs : List D) | lst (xs : List D) | dct (ks : List (Key × D)) | ins (C : Addr) (fs : List (Str × D)) | pt (ns : List Int) | ps (xs : List Str)

mutual
inductive Rep (K : PySem.W.Frag) (H : Hp) : V → D → Prop
  | non : Rep K H .non .non
  | bl (b : Bool) : Rep K H (.bl b) (.bl b)
  | int (i : Int) : Rep K H (.int i) (.int i)
  | str (x : Str) : Rep K H (.str x) (.str x)
  | opq (v : V) : Rep K H v (.opq v)
  | tup {a : Addr} {vs : List V} {ds : List D} : SqT K H a vs → RepL K H vs ds → Rep K H (.ref a) (.tup ds)
  | lst {a : Addr} {vs : List V} {ds : List D} : H a = some (.lst vs) → RepL K H vs ds → Rep K H (.ref a) (.lst ds)
  | dct {a : Addr} {vs : List (Key × V)} {ds : List (Key × D)} : H a = some (.dK vs) → RepK K H vs ds → Rep K H (.ref a) (.dct ds)
  | ins {a dx C : Addr} {vs : List (Str × V)} {ds : List (Str × D)} : H a = some (.ins C dx vs) → H dx = some (.own a) → RepF K H vs ds → Rep K H (.ref a) (.ins C ds)
  | pt {a : Addr} {ob : Obj} {ns : List Int} : H a = some (.frz ob (.tup (ns.map V.int))) → ob.dict = none → Rep K H (.ref a) (.pt ns)
  | ps {a : Addr} {ob : Obj} {xs : List Str} : H a = some (.frz ob (.tup (xs.map V.str))) → ob.dict = none → Rep K H (.ref a) (.ps xs)
inductive RepL (K : PySem.W.Frag) (H : Hp) : List V → List D → Prop
  | nil : RepL K H [] []
  | cons {v : V} {vs : List V} {d : D} {ds : List D} : Rep K H v d → RepL K H vs ds → RepL K H (v :: vs) (d :: ds)
inductive RepK (K : PySem.W.Frag) (H : Hp) : List (Key × V) → List (Key × D) → Prop
  | nil : RepK K H [] []
  | cons {k : Key} {v : V} {vs : List (Key × V)} {d : D} {ds : List (Key × D)} : Rep K H v d → RepK K H vs ds → RepK K H ((k, v) :: vs) ((k, d) :: ds)
inductive RepF (K : PySem.W.Frag) (H : Hp) : List (Str × V) → List (Str × D) → Prop
  | nil : RepF K H [] []
  | cons {k : Str} {v : V} {vs : List (Str × V)} {d : D} {ds : List (Str × D)} : Rep K H v d → RepF K H vs ds → RepF K H ((k, v) :: vs) ((k, d) :: ds)
end

theorem Same.sqT {K : PySem.W.Frag} {H H' : Hp} {a : Addr} {xs : List V} (e : Same H H') (h : SqT K H a xs) : SqT K H' a xs := by
  rcases h with (h | ⟨o, h⟩) | h
  · exact .inl (.inl (e _ _ h))
  · exact .inl (.inr ⟨o, e _ _ h⟩)
  · exact .inr h
theorem Same.rd {H H' : Hp} {a : Addr} {u : HO} (e : Same H H') (h : Rd H a u) : Rd H' a u := by
  rcases h with h | ⟨o, h⟩
  · exact .inl (e _ _ h)
  · exact .inr ⟨o, e _ _ h⟩

mutual
theorem Rep.mono {K : PySem.W.Frag} {H H' : Hp} (e : Same H H') : ∀ {v : V} {d : D}, Rep K H v d → Rep K H' v d
  | _, _, .non => .non
  | _, _, .bl b => .bl b
  | _, _, .int i => .int i
  | _, _, .str x => .str x
  | _, _, .opq v => .opq v
  | _, _, .tup s r => .tup (Same.sqT e s) (RepL.mono e r)
  | _, _, .lst s r => .lst (e _ _ s) (RepL.mono e r)
  | _, _, .dct s r => .dct (e _ _ s) (RepK.mono e r)
  | _, _, .ins s q r => .ins (e _ _ s) (e _ _ q) (RepF.mono e r)
  | _, _, .pt s q => .pt (e _ _ s) q
  | _, _, .ps s q => .ps (e _ _ s) q
theorem RepL.mono {K : PySem.W.Frag} {H H' : Hp} (e : Same H H') : ∀ {v : List V} {d : List D}, RepL K H v d → RepL K H' v d
  | _, _, .nil => .nil
  | _, _, .cons a b => .cons (Rep.mono e a) (RepL.mono e b)
theorem RepK.mono {K : PySem.W.Frag} {H H' : Hp} (e : Same H H') : ∀ {v : List (Key × V)} {d : List (Key × D)}, RepK K H v d → RepK K H' v d
  | _, _, .nil => .nil
  | _, _, .cons a b => .cons (Rep.mono e a) (RepK.mono e b)
theorem RepF.mono {K : PySem.W.Frag} {H H' : Hp} (e : Same H H') : ∀ {v : List (Str × V)} {d : List (Str × D)}, RepF K H v d → RepF K H' v d
  | _, _, .nil => .nil
  | _, _, .cons a b => .cons (Rep.mono e a) (RepF.mono e b)
end
theorem RepF.get {K : PySem.W.Frag} {H : Hp} {f : Str} : ∀ {vs : List (Str × V)} {fs : List (Str × D)} {d : D}, RepF K H vs fs → fs.lookup f = some d → ∃ v, vs.lookup f = some v ∧ Rep K H v d
  | _, _, _, .nil, e => by cases e
  | _, _, d, .cons (k := k) a b, e => by
    rw [List.lookup_cons] at e ⊢
    by_cases h : f = k
    · have z : (f == k) = true := by simpa using h
      rw [z] at e ⊢
      cases e
      exact ⟨_, rfl, a⟩
    · have z : (f == k) = false := by simpa using h
      rw [z] at e ⊢
      exact RepF.get b e

section
variable {K : PySem.W.Frag} {H : Hp}
theorem RepL.length : ∀ {vs : List V} {ds : List D}, RepL K H vs ds → vs.length = ds.length
  | _, _, .nil => rfl
  | _, _, .cons _ t => by rw [List.length_cons, List.length_cons, RepL.length t]
theorem RepL.get : ∀ {vs : List V} {ds : List D}, RepL K H vs ds → ∀ {i : Nat} {d : D}, ds[i]? = some d → ∃ v, vs[i]? = some v ∧ Rep K H v d
  | _, _, .nil, _, _, e => by simp at e
  | _, _, .cons a _, 0, _, e => by
    simp at e
    subst e
    exact ⟨_, rfl, a⟩
  | _, _, .cons _ b, i + 1, _, e => by
    obtain ⟨v, q, r⟩ := RepL.get b (i := i) (by simpa using e)
    exact ⟨v, by simpa using q, r⟩
theorem RepL.getV : ∀ {vs : List V} {ds : List D}, RepL K H vs ds → ∀ {i : Nat} {v : V}, vs[i]? = some v → ∃ d, ds[i]? = some d ∧ Rep K H v d
  | _, _, .nil, _, _, e => by simp at e
  | _, _, .cons a _, 0, _, e => by
    simp at e
    subst e
    exact ⟨_, rfl, a⟩
  | _, _, .cons _ b, i + 1, _, e => by
    obtain ⟨v, q, r⟩ := RepL.getV b (i := i) (by simpa using e)
    exact ⟨v, by simpa using q, r⟩
theorem RepL.append : ∀ {vs ws : List V} {ds es : List D}, RepL K H vs ds → RepL K H ws es → RepL K H (vs ++ ws) (ds ++ es)
  | _, _, _, _, .nil, r => r
  | _, _, _, _, .cons a t, r => .cons a (RepL.append t r)
theorem RepL.take : ∀ {vs : List V} {ds : List D} (n : Nat), RepL K H vs ds → RepL K H (vs.take n) (ds.take n)
  | _, _, 0, _ => .nil
  | _, _, _ + 1, .nil => .nil
  | _, _, n + 1, .cons a t => .cons a (RepL.take n t)
theorem RepL.drop : ∀ {vs : List V} {ds : List D} (n : Nat), RepL K H vs ds → RepL K H (vs.drop n) (ds.drop n)
  | _, _, 0, r => r
  | _, _, _ + 1, .nil => .nil
  | _, _, n + 1, .cons _ t => RepL.drop n t
theorem RepL.set {v : V} {d : D} (r : Rep K H v d) : ∀ {vs : List V} {ds : List D} (n : Nat), RepL K H vs ds → RepL K H (vs.set n v) (ds.set n d)
  | _, _, _, .nil => .nil
  | _, _, 0, .cons _ t => .cons r t
  | _, _, n + 1, .cons a t => .cons a (RepL.set r n t)
theorem RepL.ints : ∀ ns : List Int, RepL K H (ns.map V.int) (ns.map D.int)
  | [] => .nil
  | n :: r => .cons (.int n) (RepL.ints r)
theorem RepL.ints_inv : ∀ {ns : List Int} {vs : List V}, RepL K H vs (ns.map D.int) → vs = ns.map V.int
  | [], _, .nil => rfl
  | _ :: _, _, .cons a t => by
    cases a
    rw [List.map_cons, RepL.ints_inv t]
end

/-- a field of an instance of our own: data, or a list of its own -/
inductive Fv where
  | d (x : D) | l (xs : List D)
/-- what a frame owns: a list, a dict, the deck [cells, n], an instance -/
inductive Ow where
  | ol (xs : List D) | od (ks : List (Key × D)) | dk (cs : List Int) (n : Int) | oi (C : Addr) (fs : List (Str × D))
  /-- a list of our own, where it stands told -/
  | olA (q : Addr) (xs : List D)
  /-- a dict of our own: its keys tuples of ints, its values True -/
  | ot (ks : List (List Int))
  /-- a dict of our own: its keys tuples of ints; while it is walked it is locked -/
  | oT (lk : Option (Addr × Obj × List (List Int × Addr × V))) (ks : List (List Int × D))
  /-- an instance of our own, some of whose fields are lists of its own -/
  | ob (C : Addr) (fs : List (Str × Fv))
/-- a slot: nothing known; data that nobody changes any more; a thing of the frame's own (true: the caller's, lent) -/
inductive Sl where
  | un | fz (d : D) | ow (b : Bool) (o : Ow)
  /-- the caught exception: where, its class, its dict, its fields -/
  | xc (a : Addr) (cls : Value) (d : Option Addr) (fs : List (Str × D))
  /-- a lambda: its value, what it captured -/
  | cl (v : V) (vs : List V) (ds : List D) (c : Addr) (o : HO)
abbrev En := List Sl

/-- the fields of an exception, by its dict -/
def XfRep (K : PySem.W.Frag) (Hf : Hp) (d : Option Addr) (fs : List (Str × D)) : Prop := (d = none ∧ fs = []) ∨ ∃ dd vs, d = some dd ∧ Hf dd = some (.xd vs) ∧ RepF K Hf vs fs
theorem XfRep.mono {K : PySem.W.Frag} {H H' : Hp} (e : Same H H') {d : Option Addr} {fs : List (Str × D)} (h : XfRep K H d fs) : XfRep K H' d fs := by
  rcases h with h | ⟨dd, vs, h1, h2, h3⟩
  · exact .inl h
  · exact .inr ⟨dd, vs, h1, e _ _ h2, h3.mono e⟩

/-- the tables of code objects of the defs that make lambdas, and the lambdas' names -/
class Tbs where
  T : List (Addr × Str)
variable [Tbs]
abbrev tabs [Tbs] : List Addr := Tbs.T.map (·.1)
/-- the table at P; what it tells is frozen -/
def TabF (Hf H : Hp) (P : Addr) (q : Str) : Prop := ∃ ps : Array Value, H P = some (.tbl ps) ∧ TriplesOk ps.toList ∧ ∀ (pos : Pos) (cv : Value), codeAmong pos ps.toList = some cv → ∃ c, cv = .ref c ∧ Hf c = some (LamX.CodeO c q)
theorem TabF.mono {Hf Hf' H H' : Hp} {P : Addr} {q : Str} (t : TabF Hf H P q) (e : Same Hf Hf') (k : ∀ u, H P = some u → H' P = some u) : TabF Hf' H' P q := by
  obtain ⟨ps, h1, h2, h3⟩ := t
  refine ⟨ps, k _ h1, h2, fun pos cv hc => ?_⟩
  obtain ⟨c, e1, e2⟩ := h3 pos cv hc
  exact ⟨c, e1, e _ _ e2⟩
theorem TabF.nil {Hf H : Hp} {P : Addr} {q : Str} (h : H P = some (.tbl #[])) : TabF Hf H P q := ⟨#[], h, True.intro, fun pos cv hc => by
  have z : codeAmong pos [] = some cv := hc
  simp [codeAmong] at z⟩
def ClRep (K : PySem.W.Frag) (Hf : Hp) (vs : List V) (ds : List D) (c : Addr) (o : HO) : Prop := RepL K Hf vs ds ∧ Hf c = some o
theorem ClRep.mono {K : PySem.W.Frag} {H H' : Hp} (e : Same H H') {vs : List V} {ds : List D} {c : Addr} {o : HO} (h : ClRep K H vs ds c o) : ClRep K H' vs ds c o := ⟨h.1.mono e, e _ _ h.2⟩
/-- a dict whose keys are tuples of ints, where they stand, and whose values are True -/
def tEnt (x : List Int × Addr) : DictEntry := ⟨reduceHash (Builtin.Tuple.tupleHashOf (x.1.map hashInt)), .ref x.2, .bool true⟩
def dtO (d : Addr) (xs : List (List Int × Addr)) : HO := .ext fun h => (d == sysModules) = false ∧ xs.length ≤ sizeLine ∧ (xs.map (·.1)).Nodup ∧ ∃ (o : Obj) (es : Array DictEntry) (ep : Nat), h.get? d = some o ∧ o.ExactDict ∧ o.data = .dict es ep ∧ es.toList = xs.map tEnt
/-- a dict whose keys are tuples of ints, where they stand; its values -/
def vEnt (x : List Int × Addr × V) (u : Value) : DictEntry := ⟨reduceHash (Builtin.Tuple.tupleHashOf (x.1.map hashInt)), .ref x.2.1, u⟩
def dtV (d : Addr) (xs : List (List Int × Addr × V)) : HO := .ext fun h => (d == sysModules) = false ∧ xs.length ≤ sizeLine ∧ (xs.map (·.1)).Nodup ∧ ∃ (o : Obj) (es : Array DictEntry) (ep : Nat) (us : List Value), h.get? d = some o ∧ o.ExactDict ∧ o.data = .dict es ep ∧ Vals (xs.map (·.2.2)) us ∧ es.toList = List.zipWith vEnt xs us
/-- it stands there, locked or not -/
def lkV (H : Hp) (p : Addr) (xs : List (List Int × Addr × V)) : Option (Addr × Obj × List (List Int × Addr × V)) → Prop
  | none => H p = some (dtV p xs)
  | some (a, o, ys) => a = p ∧ ys = xs ∧ H p = some (.frz o (dtV p xs))
theorem lkV.ex {H : Hp} {p : Addr} {xs : List (List Int × Addr × V)} : ∀ {lk : Option (Addr × Obj × List (List Int × Addr × V))}, lkV H p xs lk → ∃ u, H p = some u
  | none, h => ⟨_, h⟩
  | some _, ⟨_, _, h⟩ => ⟨_, h⟩
theorem lkV.mono {H H' : Hp} {p : Addr} {xs : List (List Int × Addr × V)} (k : ∀ u, H p = some u → H' p = some u) : ∀ {lk : Option (Addr × Obj × List (List Int × Addr × V))}, lkV H p xs lk → lkV H' p xs lk
  | none, h => k _ h
  | some _, ⟨a, b, h⟩ => ⟨a, b, k _ h⟩
def RepT (K : PySem.W.Frag) (H : Hp) (xs : List (List Int × Addr × V)) (ks : List (List Int × D)) : Prop := xs.map (·.1) = ks.map (·.1) ∧ (∀ x ∈ xs, SqT K H x.2.1 (x.1.map V.int)) ∧ RepL K H (xs.map (·.2.2)) (ks.map (·.2))
theorem RepT.mono {K : PySem.W.Frag} {H H' : Hp} (e : Same H H') {xs : List (List Int × Addr × V)} {ks : List (List Int × D)} (h : RepT K H xs ks) : RepT K H' xs ks := ⟨h.1, fun x hx => Same.sqT e (h.2.1 x hx), h.2.2.mono e⟩
/-- the fields of an instance of our own; the lists among them -/
inductive RepO (K : PySem.W.Frag) (Hf H : Hp) : List (Str × V) → List (Str × Fv) → List Addr → Prop
  | nil : RepO K Hf H [] [] []
  | d {f : Str} {v : V} {x : D} {vs : List (Str × V)} {fs : List (Str × Fv)} {qs : List Addr} : Rep K Hf v x → RepO K Hf H vs fs qs → RepO K Hf H ((f, v) :: vs) ((f, .d x) :: fs) qs
  | l {f : Str} {q : Addr} {ws : List V} {xs : List D} {vs : List (Str × V)} {fs : List (Str × Fv)} {qs : List Addr} : H q = some (.lst ws) → RepL K Hf ws xs → RepO K Hf H vs fs qs → RepO K Hf H ((f, .ref q) :: vs) ((f, .l xs) :: fs) (q :: qs)
theorem RepO.mono {K : PySem.W.Frag} {Hf Hf' H H' : Hp} (e : Same Hf Hf') : ∀ {vs : List (Str × V)} {fs : List (Str × Fv)} {qs : List Addr}, RepO K Hf H vs fs qs → (∀ p ∈ qs, ∀ u, H p = some u → H' p = some u) → RepO K Hf' H' vs fs qs
  | _, _, _, .nil, _ => .nil
  | _, _, _, .d r t, k => .d (r.mono e) (RepO.mono e t k)
  | _, _, _, .l h r t, k => .l (k _ (List.mem_cons_self ..) _ h) (r.mono e) (RepO.mono e t fun p hp => k p (List.mem_cons_of_mem _ hp))
theorem RepO.some {K : PySem.W.Frag} {Hf H : Hp} : ∀ {vs : List (Str × V)} {fs : List (Str × Fv)} {qs : List Addr}, RepO K Hf H vs fs qs → ∀ p ∈ qs, ∃ ws, H p = some (.lst ws)
  | _, _, _, .nil, _, hp => nomatch hp
  | _, _, _, .d _ t, p, hp => RepO.some t p hp
  | _, _, _, .l (ws := ws) h _ t, p, hp => (List.mem_cons.mp hp).elim (fun e => ⟨ws, e ▸ h⟩) fun m => RepO.some t p m
def OwRep (K : PySem.W.Frag) (Hf H : Hp) (v : V) : Ow → List Addr → Prop
  | .ol xs, fp => ∃ p vs, v = .ref p ∧ fp = [p] ∧ H p = some (.lst vs) ∧ RepL K Hf vs xs
  | .od ks, fp => ∃ p vs, v = .ref p ∧ fp = [p] ∧ H p = some (.dK vs) ∧ RepK K Hf vs ks
  | .dk cs n, fp => ∃ p q, v = .ref p ∧ p ≠ q ∧ fp = p :: q :: tabs ∧ H p = some (.lst [.ref q, .int n]) ∧ H q = some (.lst (cs.map V.int)) ∧ (p ∉ tabs ∧ q ∉ tabs) ∧ ∀ t ∈ Tbs.T, TabF Hf H t.1 t.2
  | .oi C fs, fp => ∃ p dx vs, v = .ref p ∧ fp = [p, dx] ∧ H p = some (.ins C dx vs) ∧ H dx = some (.own p) ∧ RepF K Hf vs fs
  | .olA q xs, fp => ∃ vs, v = .ref q ∧ fp = [q] ∧ H q = some (.lst vs) ∧ RepL K Hf vs xs
  | .ot ks, fp => ∃ p xs, v = .ref p ∧ fp = [p] ∧ H p = some (dtO p xs) ∧ xs.map (·.1) = ks ∧ ∀ x ∈ xs, SqT K Hf x.2 (x.1.map V.int)
  | .oT lk ks, fp => ∃ p xs, v = .ref p ∧ fp = [p] ∧ lkV H p xs lk ∧ RepT K Hf xs ks
  | .ob C fs, fp => ∃ p dx vs qs, v = .ref p ∧ fp = p :: dx :: qs ∧ (p :: dx :: qs).Nodup ∧ H p = some (.ins C dx vs) ∧ H dx = some (.own p) ∧ RepO K Hf H vs fs qs
theorem OwRep.mono {K : PySem.W.Frag} {Hf Hf' H H' : Hp} {v : V} {o : Ow} {fp : List Addr} (r : OwRep K Hf H v o fp) (e : Same Hf Hf') (k : ∀ p ∈ fp, ∀ u, H p = some u → H' p = some u) : OwRep K Hf' H' v o fp := by
  cases o with
  | ol xs =>
    obtain ⟨p, vs, rfl, rfl, h, q⟩ := r
    exact ⟨p, vs, rfl, rfl, k p (by simp) _ h, q.mono e⟩
  | od xs =>
    obtain ⟨p, vs, rfl, rfl, h, q⟩ := r
    exact ⟨p, vs, rfl, rfl, k p (by simp) _ h, q.mono e⟩
  | dk cs n =>
    obtain ⟨p, q, rfl, ne, rfl, h1, h2, hn, ht⟩ := r
    exact ⟨p, q, rfl, ne, rfl, k p (by simp) _ h1, k q (by simp) _ h2, hn, fun t m => (ht t m).mono e (k t.1 (List.mem_cons_of_mem _ (List.mem_cons_of_mem _ (List.mem_map.mpr ⟨t, m, rfl⟩))))⟩
  | oi C fs =>
    obtain ⟨p, dx, vs, rfl, rfl, h, h2, q⟩ := r
    exact ⟨p, dx, vs, rfl, rfl, k p (by simp) _ h, k dx (by simp) _ h2, q.mono e⟩
  | olA p xs =>
    obtain ⟨vs, rfl, rfl, h, q⟩ := r
    exact ⟨vs, rfl, rfl, k p (by simp) _ h, q.mono e⟩
  | ot ks =>
    obtain ⟨p, xs, rfl, rfl, h, q, z⟩ := r
    exact ⟨p, xs, rfl, rfl, k p (by simp) _ h, q, fun x hx => Same.sqT e (z x hx)⟩
  | oT lk ks =>
    obtain ⟨p, xs, rfl, rfl, h, z⟩ := r
    exact ⟨p, xs, rfl, rfl, lkV.mono (k p (by simp)) h, z.mono e⟩
  | ob C fs =>
    obtain ⟨p, dx, vs, qs, rfl, rfl, nd, h, h2, q⟩ := r
    exact ⟨p, dx, vs, qs, rfl, rfl, nd, k p (by simp) _ h, k dx (by simp) _ h2, q.mono e fun a ha => k a (List.mem_cons_of_mem _ (List.mem_cons_of_mem _ ha))⟩
theorem OwRep.some {K : PySem.W.Frag} {Hf H : Hp} {v : V} {o : Ow} {fp : List Addr} (r : OwRep K Hf H v o fp) : ∀ p ∈ fp, ∃ u, H p = some u := by
  cases o with
  | ol xs =>
    obtain ⟨p, vs, rfl, rfl, h, q⟩ := r
    intro b hb
    obtain rfl : b = p := by simpa using hb
    exact ⟨_, h⟩
  | od xs =>
    obtain ⟨p, vs, rfl, rfl, h, q⟩ := r
    intro b hb
    obtain rfl : b = p := by simpa using hb
    exact ⟨_, h⟩
  | dk cs n =>
    obtain ⟨p, q, rfl, ne, rfl, h1, h2, hn, ht⟩ := r
    intro b hb
    rcases List.mem_cons.mp hb with rfl | hb
    · exact ⟨_, h1⟩
    · rcases List.mem_cons.mp hb with rfl | hb
      · exact ⟨_, h2⟩
      · obtain ⟨t, m, rfl⟩ := List.mem_map.mp hb
        obtain ⟨ps, h3, _⟩ := ht t m
        exact ⟨_, h3⟩
  | oi C fs =>
    obtain ⟨p, dx, vs, rfl, rfl, h, h2, q⟩ := r
    intro b hb
    rcases List.mem_cons.mp hb with rfl | hb
    · exact ⟨_, h⟩
    · obtain rfl : b = dx := by simpa using hb
      exact ⟨_, h2⟩
  | olA p xs =>
    obtain ⟨vs, rfl, rfl, h, q⟩ := r
    intro b hb
    obtain rfl : b = p := by simpa using hb
    exact ⟨_, h⟩
  | ot ks =>
    obtain ⟨p, xs, rfl, rfl, h, q⟩ := r
    intro b hb
    obtain rfl : b = p := by simpa using hb
    exact ⟨_, h⟩
  | oT lk ks =>
    obtain ⟨p, xs, rfl, rfl, h, q⟩ := r
    intro b hb
    obtain rfl : b = p := by simpa using hb
    exact lkV.ex h
  | ob C fs =>
    obtain ⟨p, dx, vs, qs, rfl, rfl, nd, h, h2, q⟩ := r
    intro b hb
    rcases List.mem_cons.mp hb with rfl | hb
    · exact ⟨_, h⟩
    · rcases List.mem_cons.mp hb with rfl | hb
      · exact ⟨_, h2⟩
      · obtain ⟨ws, e⟩ := q.some b hb
        exact ⟨_, e⟩

/-- the entry of the frame: the heap there, its frozen part, what is lent -/
structure Et where
  H0 : Hp
  Hf0 : Hp
  F0 : Nat → List Addr
  v0 : Nat → V
  Pr : Hp

def SlRep (K : PySem.W.Frag) (en : Et) (Hf H : Hp) (F : Nat → List Addr) (i : Nat) (σ : St) : Sl → Prop
  | .un => True
  | .fz d => ∃ v, σ[i]? = some (some v) ∧ Rep K Hf v d
  | .ow b o => ∃ v, σ[i]? = some (some v) ∧ OwRep K Hf H v o (F i) ∧ (b = true → v = en.v0 i) ∧ (b = false → ∀ p ∈ F i, en.H0 p = none)
  | .xc a _ d fs => σ[i]? = some (some (.ref a)) ∧ XfRep K Hf d fs
  | .cl v vs ds c o => σ[i]? = some (some v) ∧ ClRep K Hf vs ds c o

structure Sat (K : PySem.W.Frag) (en : Et) (Hf H : Hp) (F : Nat → List Addr) (E : En) (σ : St) : Prop where
  sf : Same Hf H
  so : ∀ p o, (∀ i, p ∉ en.F0 i) → en.H0 p = some o → H p = some o
  dom : ∀ p o, en.H0 p = some o → ∃ o', H p = some o'
  sp : Same en.Pr H
  pf : ∀ p o, en.Pr p = some o → Hf p = none
  gf : Same en.Hf0 Hf
  gn : ∀ p o, Hf p = some o → en.Hf0 p = some o ∨ en.H0 p = none
  dj : ∀ i j p, p ∈ F i → p ∈ F j → i = j
  fp : ∀ i p, p ∈ F i → Hf p = none ∧ (∃ o, H p = some o) ∧ ((∃ j, p ∈ en.F0 j) ∨ en.H0 p = none) ∧ en.Pr p = none
  len : σ.length = E.length
  sl : ∀ i s, E[i]? = some s → SlRep K en Hf H F i σ s

section
variable {K : PySem.W.Frag} {en : Et} {Hf Hf' H H' : Hp} {F : Nat → List Addr} {E : En} {σ : St}
/-- both heaps grow -/
theorem Sat.grow (S : Sat K en Hf H F E σ) (h1 : Same Hf Hf') (h2 : Same Hf' H') (h3 : Same H H') (h4 : ∀ p o, Hf' p = some o → Hf p = some o ∨ H p = none) : Sat K en Hf' H' F E σ where
  sf := h2
  so := fun p o a b => h3 _ _ (S.so p o a b)
  dom := fun p o a => let ⟨o', q⟩ := S.dom p o a; ⟨o', h3 _ _ q⟩
  sp := S.sp.trans h3
  pf := fun p o a => by
    cases r : Hf' p with
    | none => rfl
    | some u =>
      rcases h4 p u r with q | q
      · rw [S.pf p o a] at q
        cases q
      · rw [S.sp p o a] at q
        cases q
  gf := S.gf.trans h1
  gn := fun p o a => by
    rcases h4 p o a with q | q
    · exact S.gn p o q
    · cases r : en.H0 p with
      | none => exact .inr rfl
      | some u =>
        obtain ⟨o', q'⟩ := S.dom p u r
        rw [q] at q'
        cases q'
  dj := S.dj
  fp := fun i p a => by
    obtain ⟨q1, ⟨o, q2⟩, q3⟩ := S.fp i p a
    refine ⟨?_, ⟨o, h3 _ _ q2⟩, q3⟩
    cases r : Hf' p with
    | none => rfl
    | some u =>
      rcases h4 p u r with z | z
      · rw [q1] at z
        cases z
      · rw [q2] at z
        cases z
  len := S.len
  sl := fun i s a => by
    have q := S.sl i s a
    cases s with
    | un => trivial
    | fz d =>
      obtain ⟨v, e, r⟩ := q
      exact ⟨v, e, r.mono h1⟩
    | xc a c d fs => exact ⟨q.1, q.2.mono h1⟩
    | cl v vs ds cc oo => exact ⟨q.1, q.2.mono h1⟩
    | ow b o =>
      obtain ⟨v, e, r, z⟩ := q
      exact ⟨v, e, r.mono h1 fun p _ u hu => h3 _ _ hu, z⟩
theorem same_upd {H : Hp} {p : Addr} {o : HO} (n : H p = none) : Same H (upd H p o) := fun b u e => by rw [upd_ne (ne_of_none e n)]; exact e
theorem Same.upd {H H' : Hp} {p : Addr} {o : HO} (s : Same H H') : Same (upd H p o) (upd H' p o) := fun b u e => by
  by_cases q : b = p
  · subst q
    rw [upd_same] at e ⊢
    exact e
  · rw [upd_ne q] at e ⊢
    exact s _ _ e
/-- a new thing that nobody changes -/
theorem Sat.new (S : Sat K en Hf H F E σ) {p : Addr} (o : HO) (n : H p = none) : Sat K en (upd Hf p o) (upd H p o) F E σ :=
  S.grow (same_upd (S.sf.free n)) (Same.upd S.sf) (same_upd n) fun b u e => by
    by_cases q : b = p
    · subst q
      exact .inr n
    · rw [upd_ne q] at e
      exact .inl e
theorem Sat.get (S : Sat K en Hf H F E σ) {i : Nat} {d : D} (e : E[i]? = some (.fz d)) : ∃ v, σ[i]? = some (some v) ∧ Rep K Hf v d := S.sl i _ e
theorem Sat.own (S : Sat K en Hf H F E σ) {i : Nat} {b : Bool} {o : Ow} (e : E[i]? = some (.ow b o)) : ∃ v, σ[i]? = some (some v) ∧ OwRep K Hf H v o (F i) ∧ (b = true → v = en.v0 i) ∧ (b = false → ∀ p ∈ F i, en.H0 p = none) := S.sl i _ e
end
end L3
namespace L3
open PySem L2
variable [Tbs]

abbrev TEd := En → (D → En → Prop) → Prop
abbrev TTd := En → (Bool → En → Prop) → Prop
abbrev TAd := En → (List D → En → Prop) → Prop
/-- an exception: its class's name, its fields -/
structure Xd where
  nm : Str
  fs : List (Str × D)
structure EndsD where
  nx : En → Prop
  rt : D → En → Prop
  bk : En → Prop := fun _ => False
  ct : En → Prop := fun _ => False
  ex : Xd → En → Prop := fun _ _ => False
abbrev TSd := EndsD → En → Prop

def liftE (K : PySem.W.Frag) (t : TEd) : TE := fun σ H Q => ∃ en Hf F E Qd, Sat K en Hf H F E σ ∧ t E Qd ∧
  ∀ v H' Hf' F' E' d, Same Hf Hf' → Sat K en Hf' H' F' E' σ → Rep K Hf' v d → Qd d E' → Q v H'
def liftT (K : PySem.W.Frag) (t : TTd) : TT := fun σ H Q => ∃ en Hf F E Qd, Sat K en Hf H F E σ ∧ t E Qd ∧
  ∀ b H' Hf' F' E', Same Hf Hf' → Sat K en Hf' H' F' E' σ → Qd b E' → Q b H'
def liftA (K : PySem.W.Frag) (t : TAd) : TA := fun σ H Q => ∃ en Hf F E Qd, Sat K en Hf H F E σ ∧ t E Qd ∧
  ∀ vs H' Hf' F' E' ds, Same Hf Hf' → Sat K en Hf' H' F' E' σ → RepL K Hf' vs ds → Qd ds E' → Q vs H'
/-- the exception of the class cls, with the dict d, stands for x -/
def XRep (K : PySem.W.Frag) (mg : Str → Option Value) (Hf : Hp) (cls : Value) (d : Option Addr) (x : Xd) : Prop :=
  (∃ C : Addr, cls = .ref C) ∧ mg x.nm = some cls ∧ XfRep K Hf d x.fs
/-- what the context wishes of an exception -/
def Wx (X : Cx) : WX := fun cls d σ H => ∀ u s', XE X (fun c d' σ' H' => c = cls ∧ d' = d ∧ σ' = σ ∧ H' = H) u s' → X.xe u s'
def liftS (X : Cx) (t : TSd) : TS := fun D σ H => ∃ en Hf F E Dd, Sat X.K en Hf H F E σ ∧ t Dd E ∧
  (∀ σ' H' Hf' F' E', Same Hf Hf' → Sat X.K en Hf' H' F' E' σ' → Dd.nx E' → D.nx σ' H') ∧
  (∀ σ' H' Hf' F' E', Same Hf Hf' → Sat X.K en Hf' H' F' E' σ' → Dd.bk E' → D.bk σ' H') ∧
  (∀ σ' H' Hf' F' E', Same Hf Hf' → Sat X.K en Hf' H' F' E' σ' → Dd.ct E' → D.ct σ' H') ∧
  (∀ v σ' H' Hf' F' E' d, Same Hf Hf' → Sat X.K en Hf' H' F' E' σ' → Rep X.K Hf' v d → Dd.rt d E' → D.rt v H') ∧
  (∀ cls x σ' H' Hf' F' E' d, Same Hf Hf' → Sat X.K en Hf' H' F' E' σ' → XRep X.K X.mg Hf' cls d x → Dd.ex x E' → Wx X cls d σ' H')

abbrev PEd (X : Cx) (e : Expr) (t : TEd) : Prop := PE X e (liftE X.K t)
abbrev PTd (X : Cx) (e : Expr) (t : TTd) : Prop := PT X e (liftT X.K t)
abbrev PWd (X : Cx) (e : Expr) (t : TTd) : Prop := PW X e (liftT X.K t)
abbrev PAd (X : Cx) (es : List Expr) (t : TAd) : Prop := PA X es (liftA X.K t)
abbrev PSd (X : Cx) (st : Stmt) (t : TSd) : Prop := PS X st (liftS X t)
abbrev PBd (X : Cx) (st : List Stmt) (t : TSd) : Prop := PSs X st (liftS X t)

section
variable {X : Cx}
theorem pe_imp {e : Expr} {t t' : TE} (h : PE X e t) (i : ∀ σ H Q, t' σ H Q → t σ H Q) : PE X e t' := ⟨fun pins s σ H Q I q => h.run pins s σ H Q I (i σ H Q q)⟩
theorem pt_imp {e : Expr} {t t' : TT} (h : PT X e t) (i : ∀ σ H Q, t' σ H Q → t σ H Q) : PT X e t' := ⟨fun pins s σ H Q I q => h.run pins s σ H Q I (i σ H Q q)⟩
theorem pw_imp {e : Expr} {t t' : TT} (h : PW X e t) (i : ∀ σ H Q, t' σ H Q → t σ H Q) : PW X e t' := ⟨fun wh pins s σ H Q I q => h.run wh pins s σ H Q I (i σ H Q q)⟩
theorem pa_imp {e : List Expr} {t t' : TA} (h : PA X e t) (i : ∀ σ H Q, t' σ H Q → t σ H Q) : PA X e t' := ⟨fun pos pins s σ H Q I q => h.run pos pins s σ H Q I (i σ H Q q)⟩
theorem ps_imp {e : Stmt} {t t' : TS} (h : PS X e t) (i : ∀ D σ H, t' D σ H → t D σ H) : PS X e t' := ⟨fun pins s σ H D I q => h.run pins s σ H D I (i D σ H q)⟩
theorem pss_imp {e : List Stmt} {t t' : TS} (h : PSs X e t) (i : ∀ D σ H, t' D σ H → t D σ H) : PSs X e t' := ⟨fun pins s σ H D I q => h.run pins s σ H D I (i D σ H q)⟩
end

def setF (F : Nat → List Addr) (i : Nat) (l : List Addr) : Nat → List Addr := fun j => if j = i then l else F j
theorem setF_same {F : Nat → List Addr} {i : Nat} {l : List Addr} : setF F i l i = l := by unfold setF; rw [if_pos rfl]
theorem setF_ne {F : Nat → List Addr} {i j : Nat} {l : List Addr} (h : j ≠ i) : setF F i l j = F j := by unfold setF; rw [if_neg h]
/-- a slot that may be stored to -/
def Sl.free : Sl → Prop
  | .ow true _ => False
  | _ => True
theorem free_un : Sl.free .un = True := rfl
theorem free_fz {d : D} : Sl.free (.fz d) = True := rfl
theorem free_ow {o : Ow} : Sl.free (.ow false o) = True := rfl
def canSet (E : En) (i : Nat) : Prop := match E[i]? with
  | some s => s.free
  | none => False
theorem canSet.lt {E : En} {i : Nat} (h : canSet E i) : i < E.length := by
  unfold canSet at h
  cases e : E[i]? with
  | none =>
    rw [e] at h
    exact h.elim
  | some s => exact (List.getElem?_eq_some_iff.mp e).1
section
variable {K : PySem.W.Frag} {en : Et} {Hf Hf' H H' : Hp} {F : Nat → List Addr} {E : En} {σ : St}
theorem Sat.setG (S : Sat K en Hf H F E σ) {i : Nat} {v : V} {s : Sl} {l : List Addr} (hi : i < E.length) (hl : ∀ p ∈ l, Hf p = none ∧ (∃ o, H p = some o) ∧ ((∃ j, p ∈ en.F0 j) ∨ en.H0 p = none) ∧ en.Pr p = none ∧ ∀ j, j ≠ i → p ∉ F j)
    (r : SlRep K en Hf H (setF F i l) i (σ.set i (some v)) s) : Sat K en Hf H (setF F i l) (E.set i s) (σ.set i (some v)) where
  sf := S.sf
  so := S.so
  dom := S.dom
  sp := S.sp
  pf := S.pf
  gf := S.gf
  gn := S.gn
  dj := fun j k p a b => by
    by_cases h1 : j = i
    · subst h1
      rw [setF_same] at a
      by_cases h2 : k = j
      · exact h2.symm
      · rw [setF_ne h2] at b
        exact absurd b ((hl p a).2.2.2.2 k h2)
    · rw [setF_ne h1] at a
      by_cases h2 : k = i
      · subst h2
        rw [setF_same] at b
        exact absurd a ((hl p b).2.2.2.2 j h1)
      · rw [setF_ne h2] at b
        exact S.dj j k p a b
  fp := fun j p a => by
    by_cases h1 : j = i
    · subst h1
      rw [setF_same] at a
      obtain ⟨q1, q2, q3, q4, _⟩ := hl p a
      exact ⟨q1, q2, q3, q4⟩
    · rw [setF_ne h1] at a
      exact S.fp j p a
  len := by rw [List.length_set, List.length_set, S.len]
  sl := fun j s' a => by
    by_cases h1 : j = i
    · subst h1
      rw [List.getElem?_set_self hi] at a
      cases a
      exact r
    · rw [List.getElem?_set_ne (Ne.symm h1)] at a
      have q := S.sl j s' a
      cases s' with
      | un => trivial
      | fz d =>
        obtain ⟨u, e, z⟩ := q
        exact ⟨u, by rw [List.getElem?_set_ne (Ne.symm h1)]; exact e, z⟩
      | xc a c d fs => exact ⟨by rw [List.getElem?_set_ne (Ne.symm h1)]; exact q.1, q.2⟩
      | cl v vs ds cc oo => exact ⟨by rw [List.getElem?_set_ne (Ne.symm h1)]; exact q.1, q.2⟩
      | ow b o =>
        obtain ⟨u, e, z, w⟩ := q
        refine ⟨u, by rw [List.getElem?_set_ne (Ne.symm h1)]; exact e, ?_⟩
        rw [setF_ne h1]
        exact ⟨z, w⟩
/-- name = data -/
theorem Sat.set (S : Sat K en Hf H F E σ) {i : Nat} {v : V} {d : D} (c : canSet E i) (r : Rep K Hf v d) : Sat K en Hf H (setF F i []) (E.set i (.fz d)) (σ.set i (some v)) :=
  S.setG c.lt (fun p h => nomatch h) ⟨v, by rw [List.getElem?_set_self (by rw [S.len]; exact c.lt)], r⟩
/-- name = a new thing of our own, at p -/
theorem Sat.setNew (S : Sat K en Hf H F E σ) {i : Nat} {p : Addr} {u : HO} {o : Ow} (c : canSet E i) (n : H p = none) (r : OwRep K Hf (upd H p u) (.ref p) o [p]) :
    Sat K en Hf (upd H p u) (setF F i [p]) (E.set i (.ow false o)) (σ.set i (some (.ref p))) := by
  have S1 : Sat K en Hf (upd H p u) F E σ := S.grow (Same.refl _) (S.sf.trans (same_upd n)) (same_upd n) fun _ _ a => .inl a
  have h0 : en.H0 p = none := by
    cases q : en.H0 p with
    | none => rfl
    | some z =>
      obtain ⟨z', e⟩ := S.dom _ _ q
      rw [n] at e
      cases e
  refine S1.setG c.lt (fun b h => ?_) ⟨_, by rw [List.getElem?_set_self (by rw [S.len]; exact c.lt)], by rw [setF_same]; exact r, (fun z => by cases z), fun _ b h => ?_⟩
  · obtain rfl : b = p := by simpa using h
    refine ⟨S.sf.free n, ⟨_, upd_same⟩, .inr h0, S.sp.free n, fun j _ hb => ?_⟩
    obtain ⟨_, ⟨z, e⟩, _⟩ := S.fp j b hb
    rw [n] at e
    cases e
  · rw [setF_same] at h
    obtain rfl : b = p := by simpa using h
    exact h0
/-- our own thing (or a lent one) is changed -/
theorem Sat.change (S : Sat K en Hf H F E σ) {i : Nat} {b : Bool} {o o' : Ow} {v : V} (e : E[i]? = some (.ow b o)) (hv : σ[i]? = some (some v)) (h1 : Same Hf Hf') (h2 : Same Hf' H') (h3 : ∀ p u, p ∉ F i → H p = some u → H' p = some u) (hd : ∀ p u, H p = some u → ∃ u', H' p = some u')
    (h4 : ∀ p u, Hf' p = some u → Hf p = some u ∨ H p = none) (r : OwRep K Hf' H' v o' (F i)) : Sat K en Hf' H' F (E.set i (.ow b o')) σ where
  sf := h2
  so := fun p u a z => by
    by_cases hp : p ∈ F i
    · obtain ⟨_, _, q, _⟩ := S.fp i p hp
      rcases q with ⟨j, q⟩ | q
      · exact absurd q (a j)
      · rw [z] at q
        cases q
    · exact h3 p u hp (S.so p u a z)
  dom := fun p u a => let ⟨u', q⟩ := S.dom p u a; hd p u' q
  sp := fun p u a => by
    have np : p ∉ F i := fun hp => by
      rw [(S.fp i p hp).2.2.2] at a
      cases a
    exact h3 p u np (S.sp p u a)
  pf := fun p u a => by
    cases z : Hf' p with
    | none => rfl
    | some w =>
      rcases h4 p w z with y | y
      · rw [S.pf p u a] at y
        cases y
      · rw [S.sp p u a] at y
        cases y
  gf := S.gf.trans h1
  gn := fun p u a => by
    rcases h4 p u a with q | q
    · exact S.gn p u q
    · cases z : en.H0 p with
      | none => exact .inr rfl
      | some w =>
        obtain ⟨o', q'⟩ := S.dom p w z
        rw [q] at q'
        cases q'
  dj := S.dj
  fp := fun j p a => by
    obtain ⟨q1, ⟨u, q2⟩, q3⟩ := S.fp j p a
    refine ⟨?_, hd p u q2, q3⟩
    cases z : Hf' p with
    | none => rfl
    | some w =>
      rcases h4 p w z with y | y
      · rw [q1] at y
        cases y
      · rw [q2] at y
        cases y
  len := by rw [List.length_set, S.len]
  sl := fun j s a => by
    have hi : i < E.length := (List.getElem?_eq_some_iff.mp e).1
    by_cases hj : j = i
    · subst hj
      rw [List.getElem?_set_self hi] at a
      cases a
      obtain ⟨v1, e1, _, z⟩ := S.own e
      rw [hv] at e1
      cases e1
      exact ⟨v, hv, r, z⟩
    · rw [List.getElem?_set_ne (Ne.symm hj)] at a
      have q := S.sl j s a
      cases s with
      | un => trivial
      | fz d =>
        obtain ⟨w, e, z⟩ := q
        exact ⟨w, e, z.mono h1⟩
      | xc a c d fs => exact ⟨q.1, q.2.mono h1⟩
      | cl v vs ds cc oo => exact ⟨q.1, q.2.mono h1⟩
      | ow c oc =>
        obtain ⟨w, e, z, y⟩ := q
        exact ⟨w, e, z.mono h1 fun p hp u hu => h3 p u (fun hq => hj (S.dj j i p hp hq)) hu, y⟩
/-- .. and may stand on other addresses -/
theorem Sat.changeF (S : Sat K en Hf H F E σ) {i : Nat} {b : Bool} {o o' : Ow} {v : V} {l : List Addr} (e : E[i]? = some (.ow b o)) (hv : σ[i]? = some (some v)) (h1 : Same Hf Hf') (h2 : Same Hf' H') (h3 : ∀ p u, p ∉ F i → H p = some u → H' p = some u) (hd : ∀ p u, H p = some u → ∃ u', H' p = some u')
    (h4 : ∀ p u, Hf' p = some u → Hf p = some u ∨ H p = none) (nf : ∀ p ∈ l, Hf' p = none ∧ (p ∈ F i ∨ H p = none)) (r : OwRep K Hf' H' v o' l) : Sat K en Hf' H' (setF F i l) (E.set i (.ow b o')) σ := by
  have h0 : ∀ p, H p = none → en.H0 p = none := fun p n => by
    cases q : en.H0 p with
    | none => rfl
    | some z =>
      obtain ⟨z', e⟩ := S.dom _ _ q
      rw [n] at e
      cases e
  have hp0 : ∀ p, H p = none → en.Pr p = none := fun p n => by
    cases q : en.Pr p with
    | none => rfl
    | some z =>
      have e := S.sp _ _ q
      rw [n] at e
      cases e
  have ol : ∀ {j p}, j ≠ i → p ∈ F j → p ∉ F i ∧ p ∉ l := fun {j p} hj hp => by
    have n1 : p ∉ F i := fun z => hj (S.dj j i p hp z)
    refine ⟨n1, fun z => ?_⟩
    rcases (nf p z).2 with y | y
    · exact n1 y
    · obtain ⟨_, ⟨u, q⟩, _⟩ := S.fp j p hp
      rw [y] at q
      cases q
  exact {
    sf := h2
    so := fun p u a z => by
      by_cases hp : p ∈ F i
      · obtain ⟨_, _, q, _⟩ := S.fp i p hp
        rcases q with ⟨j, q⟩ | q
        · exact absurd q (a j)
        · rw [z] at q
          cases q
      · exact h3 p u hp (S.so p u a z)
    dom := fun p u a => let ⟨u', q⟩ := S.dom p u a; hd p u' q
    sp := fun p u a => by
      have np : p ∉ F i := fun hp => by
        rw [(S.fp i p hp).2.2.2] at a
        cases a
      exact h3 p u np (S.sp p u a)
    pf := fun p u a => by
      cases z : Hf' p with
      | none => rfl
      | some w =>
        rcases h4 p w z with y | y
        · rw [S.pf p u a] at y
          cases y
        · rw [S.sp p u a] at y
          cases y
    gf := S.gf.trans h1
    gn := fun p u a => by
      rcases h4 p u a with q | q
      · exact S.gn p u q
      · exact .inr (h0 p q)
    dj := fun j k p hj hk => by
      by_cases cj : j = i
      · by_cases ck : k = i
        · rw [cj, ck]
        · rw [cj, setF_same] at hj
          rw [setF_ne ck] at hk
          exact absurd hj (ol ck hk).2
      · rw [setF_ne cj] at hj
        by_cases ck : k = i
        · rw [ck, setF_same] at hk
          exact absurd hk (ol cj hj).2
        · rw [setF_ne ck] at hk
          exact S.dj j k p hj hk
    fp := fun j p a => by
      by_cases cj : j = i
      · rw [cj, setF_same] at a
        obtain ⟨z, y⟩ := nf p a
        refine ⟨z, r.some p a, ?_⟩
        rcases y with y | y
        · exact (S.fp i p y).2.2
        · exact ⟨.inr (h0 p y), hp0 p y⟩
      · rw [setF_ne cj] at a
        obtain ⟨q1, ⟨u, q2⟩, q3⟩ := S.fp j p a
        refine ⟨?_, hd p u q2, q3⟩
        cases z : Hf' p with
        | none => rfl
        | some w =>
          rcases h4 p w z with y | y
          · rw [q1] at y
            cases y
          · rw [q2] at y
            cases y
    len := by rw [List.length_set, S.len]
    sl := fun j s a => by
      have hi : i < E.length := (List.getElem?_eq_some_iff.mp e).1
      by_cases hj : j = i
      · subst hj
        rw [List.getElem?_set_self hi] at a
        cases a
        obtain ⟨v1, e1, _, z1, z2⟩ := S.own e
        rw [hv] at e1
        cases e1
        refine ⟨v, hv, by rw [setF_same]; exact r, z1, fun hb p hp => ?_⟩
        rw [setF_same] at hp
        rcases (nf p hp).2 with y | y
        · exact z2 hb p y
        · exact h0 p y
      · rw [List.getElem?_set_ne (Ne.symm hj)] at a
        have q := S.sl j s a
        cases s with
        | un => trivial
        | fz d =>
          obtain ⟨w, e, z⟩ := q
          exact ⟨w, e, z.mono h1⟩
        | xc a c d fs => exact ⟨q.1, q.2.mono h1⟩
        | cl v vs ds cc oo => exact ⟨q.1, q.2.mono h1⟩
        | ow c oc =>
          obtain ⟨w, e, z, y1, y2⟩ := q
          exact ⟨w, e, by rw [setF_ne hj]; exact z.mono h1 fun p hp u hu => h3 p u (ol hj hp).1 hu, y1, fun hb p hp => by rw [setF_ne hj] at hp; exact y2 hb p hp⟩ }
/-- our own list is changed no more -/
theorem Sat.freeze (S : Sat K en Hf H F E σ) {i : Nat} {xs : List D} (e : E[i]? = some (.ow false (.ol xs))) :
    ∃ v Hf', σ[i]? = some (some v) ∧ Same Hf Hf' ∧ Rep K Hf' v (.lst xs) ∧ Sat K en Hf' H (setF F i []) (E.set i (.fz (.lst xs))) σ := by
  obtain ⟨v, hv, ⟨p, vs, rfl, hF, hp, r⟩, _, hnew⟩ := S.own e
  have hi : i < E.length := (List.getElem?_eq_some_iff.mp e).1
  have hmem : p ∈ F i := by rw [hF]; simp
  obtain ⟨n1, n2, n3, n4⟩ := S.fp i p hmem
  have s1 : Same Hf (upd Hf p (.lst vs)) := same_upd n1
  have nj : ∀ j b, j ≠ i → b ∈ F j → b ≠ p := fun j b hj hb z => hj (S.dj j i b hb (by rw [z]; exact hmem))
  refine ⟨.ref p, upd Hf p (.lst vs), hv, s1, .lst upd_same (r.mono s1), ?_⟩
  refine { sf := fun b u z => ?_, so := S.so, dom := S.dom, sp := S.sp, pf := fun b u z => (by rw [upd_ne (fun q => by rw [q, n4] at z; cases z)]; exact S.pf b u z), gf := S.gf.trans s1, gn := fun b u z => ?_, dj := fun j k b h1 h2 => ?_, fp := fun j b h1 => ?_, len := by rw [List.length_set, S.len], sl := fun j s a => ?_ }
  · by_cases q : b = p
    · subst q
      rw [upd_same] at z
      cases z
      exact hp
    · rw [upd_ne q] at z
      exact S.sf _ _ z
  · by_cases q : b = p
    · subst q
      exact .inr (hnew rfl b hmem)
    · rw [upd_ne q] at z
      exact S.gn _ _ z
  · by_cases q1 : j = i
    · subst q1
      rw [setF_same] at h1
      cases h1
    · by_cases q2 : k = i
      · subst q2
        rw [setF_same] at h2
        cases h2
      · rw [setF_ne q1] at h1
        rw [setF_ne q2] at h2
        exact S.dj j k b h1 h2
  · by_cases q1 : j = i
    · subst q1
      rw [setF_same] at h1
      cases h1
    · rw [setF_ne q1] at h1
      obtain ⟨a1, a2, a3⟩ := S.fp j b h1
      exact ⟨by rw [upd_ne (nj j b q1 h1)]; exact a1, a2, a3⟩
  · by_cases q1 : j = i
    · subst q1
      rw [List.getElem?_set_self hi] at a
      cases a
      exact ⟨_, hv, .lst upd_same (r.mono s1)⟩
    · rw [List.getElem?_set_ne (Ne.symm q1)] at a
      have q := S.sl j s a
      cases s with
      | un => trivial
      | fz d =>
        obtain ⟨w, e, z⟩ := q
        exact ⟨w, e, z.mono s1⟩
      | xc a c d fs => exact ⟨q.1, q.2.mono s1⟩
      | cl v vs ds cc oo => exact ⟨q.1, q.2.mono s1⟩
      | ow c oc =>
        obtain ⟨w, e, z, y⟩ := q
        refine ⟨w, e, ?_⟩
        rw [setF_ne q1]
        exact ⟨z.mono s1 fun _ _ _ hu => hu, y⟩
end
end L3
namespace L3
open PySem L2
open PyProof.Rows (b2i)
variable [Tbs]
section
variable {X : Cx} {a b c e : Expr} {es : List Expr} {ta tb tc te : TEd} {t : TAd} {pos : Pos}

/-- a name: data; our own list is from now on data -/
def tVarD (i : Nat) : TEd := fun E Q => match E[i]? with
  | some (.fz d) => Q d E
  | some (.ow false (.ol xs)) => Q (.lst xs) (E.set i (.fz (.lst xs)))
  | _ => False
theorem dv (i : Nat) {x : Str} {pos : Pos} (hN : X.N[i]? = some x := by rfl) (hv : Vis X.env.scope x := by first | exact Or.inl rfl | exact Or.inr (Or.inl rfl) | exact Or.inr (Or.inr rfl)) (hd : (x == ("__debug__" : Str)) = false := by decide)
    (hcd : (x == ("__classdict__" : Str)) = false := by decide) : PEd X (.Name x pos) (tVarD i) :=
  pe_imp (pv i hN hv hd hcd) fun σ H Q ⟨en, Hf, F, E, Qd, S, h, k⟩ => by
    unfold tVarD at h
    split at h
    · rename_i d e
      obtain ⟨v, hv, r⟩ := S.get e
      exact ⟨v, hv, k v H Hf F E d (Same.refl _) S r h⟩
    · rename_i xs e
      obtain ⟨v, Hf', hv, s1, r, S'⟩ := S.freeze e
      exact ⟨v, hv, k v H Hf' _ _ _ s1 S' r h⟩
    · exact h.elim
def tCD (d : D) : TEd := fun E Q => Q d E
theorem d_const {v : V} {d : D} (h : PE X e (tC v)) (r : ∀ Hf, Rep X.K Hf v d) : PEd X e (tCD d) :=
  pe_imp h fun σ H Q ⟨en, Hf, F, E, Qd, S, h, k⟩ => k v H Hf F E d (Same.refl _) S (r Hf) h
theorem d_int {i j pos} : PEd X (.Constant (.int i) j pos) (tCD (.int i)) := d_const pe_int fun _ => .int i
theorem d_bl {b j pos} : PEd X (.Constant (.bool b) j pos) (tCD (.bl b)) := d_const pe_bl fun _ => .bl b
theorem d_non {j pos} : PEd X (.Constant .none j pos) (tCD .non) := d_const pe_non fun _ => .non
theorem d_str {x j pos} : PEd X (.Constant (.str x) j pos) (tCD (.str x)) := d_const pe_str fun _ => .str x
/-- a module's constant, a class, a def, as a value -/
theorem d_glob {x : Str} {v : V} {u : Value} {d : D} {pos : Pos} (hg : Gl X x) (hm : X.mg x = some u) (r : RelV v u) (rp : ∀ Hf, Rep X.K Hf v d) (hd : (x == ("__debug__" : Str)) = false := by decide) : PEd X (.Name x pos) (tCD d) :=
  d_const (pe_glob hg hm r hd) rp

def tNilD : TAd := fun E Q => Q [] E
def tConsD (ta : TEd) (tr : TAd) : TAd := fun E Q => ta E fun x E1 => tr E1 fun xs E2 => Q (x :: xs) E2
theorem dn : PAd X [] tNilD := pa_imp pa_nil fun σ H Q ⟨en, Hf, F, E, Qd, S, h, k⟩ => k [] H Hf F E [] (Same.refl _) S .nil h
theorem dc (ha : PEd X e te) (hr : PAd X es t) (hs : starEach (e :: es) X.env = (false, eval e X.env) :: starEach es X.env := by rfl) : PAd X (e :: es) (tConsD te t) :=
  pa_imp (pa_cons ha hr hs) fun σ H Q ⟨en, Hf, F, E, Qd, S, h, k⟩ =>
    ⟨en, Hf, F, E, _, S, h, fun v H1 Hf1 F1 E1 x s1 S1 r1 h1 => ⟨en, Hf1, F1, E1, _, S1, h1, fun vs H2 Hf2 F2 E2 xs s2 S2 r2 h2 =>
      k _ _ _ _ _ _ (s1.trans s2) S2 (.cons (r1.mono s2) r2) h2⟩⟩
def tTupD (t : TAd) : TEd := fun E Q => t E fun xs E1 => xs.length ≤ sizeLine ∧ Q (.tup xs) E1
def tLstD (t : TAd) : TEd := fun E Q => t E fun xs E1 => xs.length ≤ sizeLine ∧ Q (.lst xs) E1
theorem d_tup {x1} (h : PAd X es t) : PEd X (.Tuple es x1 pos) (tTupD t) :=
  pe_imp (pe_tup h) fun σ H Q ⟨en, Hf, F, E, Qd, S, h, k⟩ =>
    ⟨en, Hf, F, E, _, S, h, fun vs H1 Hf1 F1 E1 xs s1 S1 r1 h1 => ⟨by rw [r1.length]; exact h1.1, fun p np => by
      have s2 : Same Hf1 (upd Hf1 p (.tup vs)) := same_upd (S1.sf.free np)
      exact k _ _ _ _ _ _ (s1.trans s2) (S1.new _ np) (.tup (.inl (.inl upd_same)) (r1.mono s2)) h1.2⟩⟩
theorem d_lst (h : PAd X es t) : PEd X (.List es pos) (tLstD t) :=
  pe_imp (pe_lst h) fun σ H Q ⟨en, Hf, F, E, Qd, S, h, k⟩ =>
    ⟨en, Hf, F, E, _, S, h, fun vs H1 Hf1 F1 E1 xs s1 S1 r1 h1 => ⟨by rw [r1.length]; exact h1.1, fun p np => by
      have s2 : Same Hf1 (upd Hf1 p (.lst vs)) := same_upd (S1.sf.free np)
      exact k _ _ _ _ _ _ (s1.trans s2) (S1.new _ np) (.lst upd_same (r1.mono s2)) h1.2⟩⟩

abbrev RD := D → D → En → (D → En → Prop) → Prop
def tOpD (rd : RD) (ta tb : TEd) : TEd := fun E Q => ta E fun x E1 => tb E1 fun y E2 => rd x y E2 Q
/-- what is wanted behind -/
def Fin (K : PySem.W.Frag) (en : Et) (σ : St) (Hf : Hp) (Qd : D → En → Prop) (Q : VK) : Prop := ∀ v H' Hf' F' E' d, Same Hf Hf' → Sat K en Hf' H' F' E' σ → Rep K Hf' v d → Qd d E' → Q v H'
theorem Fin.new {K : PySem.W.Frag} {en : Et} {σ : St} {Hf H : Hp} {F : Nat → List Addr} {E : En} {Qd : D → En → Prop} {Q : VK} (k : Fin K en σ Hf Qd Q) (S : Sat K en Hf H F E σ) {p : Addr} {o : HO} {d : D} (np : H p = none)
    (r : ∀ Hf', Same Hf Hf' → Hf' p = some o → Rep K Hf' (.ref p) d) (q : Qd d E) : Q (.ref p) (upd H p o) :=
  have s2 : Same Hf (upd Hf p o) := same_upd (S.sf.free np)
  k _ _ _ _ _ _ s2 (S.new o np) (r _ s2 upd_same) q
def OpOk (K : PySem.W.Frag) (r : R2) (rd : RD) : Prop := ∀ en Hf H F E σ vx vy x y Q Qd, Sat K en Hf H F E σ → Rep K Hf vx x → Rep K Hf vy y → rd x y E Qd → Fin K en σ Hf Qd Q → r vx vy H Q
theorem lift2 {K : PySem.W.Frag} {r : R2} {rd : RD} (hk : OpOk K r rd) : ∀ σ H Q, liftE K (tOpD rd ta tb) σ H Q → tOp r (liftE K ta) (liftE K tb) σ H Q := fun σ H Q ⟨en, Hf, F, E, Qd, S, h, k⟩ =>
  ⟨en, Hf, F, E, _, S, h, fun v1 H1 Hf1 F1 E1 x s1 S1 r1 h1 => ⟨en, Hf1, F1, E1, _, S1, h1, fun v2 H2 Hf2 F2 E2 y s2 S2 r2 h2 =>
    hk en Hf2 H2 F2 E2 σ v1 v2 x y Q Qd S2 (r1.mono s2) r2 h2 fun v H' Hf' F' E' d s3 S3 r3 h3 => k v H' Hf' F' E' d ((s1.trans s2).trans s3) S3 r3 h3⟩⟩
theorem d_op {op : Operator} {r : R2} {rd : RD} (ho : OpR X (binaryOp op) r) (hk : OpOk X.K r rd) (ha : PEd X a ta) (hb : PEd X b tb) : PEd X (.BinOp a op b pos) (tOpD rd ta tb) := pe_imp (pe_op ho ha hb) (lift2 hk)
theorem OpOk.or {K : PySem.W.Frag} {r r' : R2} {rd rd' : RD} (h : OpOk K r rd) (h' : OpOk K r' rd') : OpOk K (fun x y H Q => r x y H Q ∨ r' x y H Q) (fun x y E Q => rd x y E Q ∨ rd' x y E Q) :=
  fun en Hf H F E σ vx vy x y Q Qd S rx ry q k => q.elim (fun q => .inl (h en Hf H F E σ vx vy x y Q Qd S rx ry q k)) fun q => .inr (h' en Hf H F E σ vx vy x y Q Qd S rx ry q k)
theorem OpOk.imp {K : PySem.W.Frag} {r : R2} {rd rd' : RD} (h : OpOk K r rd) (i : ∀ x y E Q, rd' x y E Q → rd x y E Q) : OpOk K r rd' :=
  fun en Hf H F E σ vx vy x y Q Qd S rx ry q k => h en Hf H F E σ vx vy x y Q Qd S rx ry (i x y E Qd q) k

/-- ints -/
def rdI (C : Int → Int → Prop) (g : Int → Int → D) : RD := fun x y E Q => match x, y with
  | .int i, .int j => C i j ∧ Q (g i j) E
  | _, _ => False
def rdI0 (g : Int → Int → D) : RD := fun x y E Q => match x, y with
  | .int i, .int j => Q (g i j) E
  | _, _ => False
theorem ok_I {K : PySem.W.Frag} {C : Int → Int → Prop} {g : Int → Int → V} {g' : Int → Int → D} (hg : ∀ i j Hf, Rep K Hf (g i j) (g' i j)) : OpOk K (rI C g) (rdI C g') :=
  fun en Hf H F E σ vx vy x y Q Qd S rx ry q k => by
    unfold rdI at q
    split at q
    · cases rx
      cases ry
      exact ⟨_, _, rfl, rfl, q.1, k _ _ _ _ _ _ (Same.refl _) S (hg _ _ _) q.2⟩
    · exact q.elim
theorem ok_I0 {K : PySem.W.Frag} {g : Int → Int → V} {g' : Int → Int → D} (hg : ∀ i j Hf, Rep K Hf (g i j) (g' i j)) : OpOk K (rI0 g) (rdI0 g') :=
  fun en Hf H F E σ vx vy x y Q Qd S rx ry q k => by
    unfold rdI0 at q
    split at q
    · cases rx
      cases ry
      exact ⟨_, _, rfl, rfl, k _ _ _ _ _ _ (Same.refl _) S (hg _ _ _) q⟩
    · exact q.elim
theorem sum_le {α β : Type} {a b : List α} {c d : List β} (h1 : a.length = c.length) (h2 : b.length = d.length) (h : c.length + d.length ≤ sizeLine) : a.length + b.length ≤ sizeLine := by omega
/-- + -/
def rdAdd : RD := fun x y E Q => match x, y with
  | .int i, .int j => Q (.int (i + j)) E
  | .str u, .str w => u.length + w.length ≤ sizeLine ∧ Q (.str (u ++ w)) E
  | .tup u, .tup w => u.length + w.length ≤ sizeLine ∧ Q (.tup (u ++ w)) E
  | .lst u, .lst w => u.length + w.length ≤ sizeLine ∧ Q (.lst (u ++ w)) E
  | .int i, .bl k => Q (.int (i + b2i k)) E
  | _, _ => False
theorem ok_add {K : PySem.W.Frag} : OpOk K (fun x y H Q => rI0 (fun i j => .int (i + j)) x y H Q ∨ (∃ i j, x = .str i ∧ y = .str j ∧ i.length + j.length ≤ sizeLine ∧ Q (.str (i ++ j)) H) ∨ rCatA K x y H Q ∨ rCat x y H Q ∨ (∃ i k, x = .int i ∧ y = .bl k ∧ Q (.int (i + b2i k)) H)) rdAdd :=
  fun en Hf H F E σ vx vy x y Q Qd S rx ry q k => by
    unfold rdAdd at q
    split at q
    · cases rx
      cases ry
      exact .inl ⟨_, _, rfl, rfl, k _ _ _ _ _ _ (Same.refl _) S (.int _) q⟩
    · cases rx
      cases ry
      exact .inr (.inl ⟨_, _, rfl, rfl, q.1, k _ _ _ _ _ _ (Same.refl _) S (.str _) q.2⟩)
    · cases rx with | tup h1 l1 =>
      cases ry with | tup h2 l2 =>
      refine .inr (.inr (.inl ⟨_, _, _, _, rfl, rfl, Same.sqT S.sf h1, Same.sqT S.sf h2, sum_le l1.length l2.length q.1, fun e => ?_, fun e1 e2 => ?_, fun e1 e2 p np => ?_⟩))
      · subst e
        cases l1
        exact k _ _ _ _ _ _ (Same.refl _) S (.tup h2 l2) q.2
      · subst e2
        cases l2
        have q2 := q.2
        rw [List.append_nil] at q2
        exact k _ _ _ _ _ _ (Same.refl _) S (.tup h1 l1) q2
      · exact k.new S np (fun _ s2 e => .tup (.inl (.inl e)) ((l1.append l2).mono s2)) q.2
    · cases rx with | lst h1 l1 =>
      cases ry with | lst h2 l2 =>
      refine .inr (.inr (.inr (.inl ⟨_, _, _, _, rfl, rfl, S.sf _ _ h1, S.sf _ _ h2, sum_le l1.length l2.length q.1, fun p np => ?_⟩)))
      exact k.new S np (fun _ s2 e => .lst e ((l1.append l2).mono s2)) q.2
    · cases rx
      cases ry
      exact .inr (.inr (.inr (.inr ⟨_, _, rfl, rfl, k _ _ _ _ _ _ (Same.refl _) S (.int _) q⟩)))
    · exact q.elim
theorem d_add (ha : PEd X a ta) (hb : PEd X b tb) : PEd X (.BinOp a .Add b pos) (tOpD rdAdd ta tb) := d_op (OpR.or op_add (OpR.or op_add_str (OpR.or op_catA (OpR.or op_cat op_add_ib)))) ok_add ha hb
theorem d_sub (ha : PEd X a ta) (hb : PEd X b tb) : PEd X (.BinOp a .Sub b pos) (tOpD (rdI0 fun i j => .int (i - j)) ta tb) := d_op op_sub (ok_I0 fun _ _ _ => .int _) ha hb
def CMulA (i j : Int) : Prop := CMul i j ∨ CMulW i j
theorem op_mulA : OpR X (binaryOp .Mult) (rI CMulA fun i j => .int (i * j)) := fun pins s σ H x y v u Q I rx ry ⟨i, j, e1, e2, c, q⟩ => by
  rcases c with c | c
  · exact op_mul pins s σ H x y v u Q I rx ry ⟨i, j, e1, e2, c, q⟩
  · exact op_mulW pins s σ H x y v u Q I rx ry ⟨i, j, e1, e2, c, q⟩
/-- *: ints; a list often -/
def rdMul : RD := fun x y E Q => match x, y with
  | .int i, .int j => CMulA i j ∧ Q (.int (i * j)) E
  | .lst u, .int n => (-(2 ^ 63) ≤ n ∧ n < 2 ^ 63 ∧ u.length * n.toNat ≤ sizeLine) ∧ Q (.lst (List.replicate n.toNat u).flatten) E
  | _, _ => False
theorem RepL.rep {K : PySem.W.Frag} {H : Hp} {vs : List V} {ds : List D} (r : RepL K H vs ds) : ∀ n : Nat, RepL K H (List.replicate n vs).flatten (List.replicate n ds).flatten
  | 0 => .nil
  | n + 1 => by
    rw [List.replicate_succ, List.replicate_succ, List.flatten_cons, List.flatten_cons]
    exact r.append (r.rep n)
theorem ok_mul {K : PySem.W.Frag} : OpOk K (fun x y H Q => rI CMulA (fun i j => .int (i * j)) x y H Q ∨ rRep x y H Q) rdMul :=
  fun en Hf H F E σ vx vy x y Q Qd S rx ry q k => by
    unfold rdMul at q
    split at q
    · cases rx
      cases ry
      exact .inl ⟨_, _, rfl, rfl, q.1, k _ _ _ _ _ _ (Same.refl _) S (.int _) q.2⟩
    · cases rx with | lst h1 l1 =>
      cases ry
      refine .inr ⟨_, _, _, rfl, rfl, S.sf _ _ h1, q.1.1, q.1.2.1, by rw [l1.length]; exact q.1.2.2, fun p np => ?_⟩
      exact k.new S np (fun _ s2 e => .lst e ((l1.rep _).mono s2)) q.2
    · exact q.elim
theorem d_mul (ha : PEd X a ta) (hb : PEd X b tb) : PEd X (.BinOp a .Mult b pos) (tOpD rdMul ta tb) := d_op (OpR.or op_mulA op_rep) ok_mul ha hb
theorem d_fdiv (ha : PEd X a ta) (hb : PEd X b tb) : PEd X (.BinOp a .FloorDiv b pos) (tOpD (rdI CDivW fun i j => .int (i / j)) ta tb) := d_op op_fdivW (ok_I fun _ _ _ => .int _) ha hb
theorem d_mod (ha : PEd X a ta) (hb : PEd X b tb) : PEd X (.BinOp a .Mod b pos) (tOpD (rdI (fun _ j => 0 < j) fun i j => .int (i % j)) ta tb) := d_op op_mod (ok_I fun _ _ _ => .int _) ha hb
theorem d_pow (ha : PEd X a ta) (hb : PEd X b tb) : PEd X (.BinOp a .Pow b pos) (tOpD (rdI CPow fun i j => .int (i ^ j.toNat)) ta tb) := d_op op_pow (ok_I fun _ _ _ => .int _) ha hb
/-- -a -/
def tNegD (ta : TEd) : TEd := fun E Q => ta E fun x E1 => match x with
  | .int i => Q (.int (-i)) E1
  | _ => False
theorem d_neg (ha : PEd X a ta) : PEd X (.UnaryOp .USub a pos) (tNegD ta) := pe_imp (pe_un un_neg ha) fun σ H Q ⟨en, Hf, F, E, Qd, S, h, k⟩ =>
  ⟨en, Hf, F, E, _, S, h, fun v1 H1 Hf1 F1 E1 x s1 S1 r1 h1 => by
    split at h1
    · cases r1
      exact ⟨_, rfl, k _ _ _ _ _ _ s1 S1 (.int _) h1⟩
    · exact h1.elim⟩

abbrev rdCmp (p : Int → Int → Bool) : RD := rdI0 fun i j => .bl (p i j)
theorem d_cmp {op : CmpOp} {r : R2} {rd : RD} (ho : OpR X (compareOp op) r) (hk : OpOk X.K r rd) (ha : PEd X a ta) (hb : PEd X b tb) (hm : behindInMarks op b = false) : PEd X (.Compare a [op] [b] pos) (tOpD rd ta tb) := pe_imp (pe_cmpR ho ha hb hm) (lift2 hk)
def tTestD (t : TEd) : TTd := fun E Q => t E fun d E1 => match d with
  | .bl k => Q k E1
  | _ => False
theorem t_cmp {op : CmpOp} {r : R2} {rd : RD} (ho : OpR X (compareOp op) r) (hk : OpOk X.K r rd) (ha : PEd X a ta) (hb : PEd X b tb) (hm : behindInMarks op b = false) : PTd X (.Compare a [op] [b] pos) (tTestD (tOpD rd ta tb)) :=
  pt_imp (pt_cmpR ho ha hb hm) fun σ H Q ⟨en, Hf, F, E, Qd, S, h, k⟩ =>
    lift2 hk σ H _ ⟨en, Hf, F, E, _, S, h, fun v H' Hf' F' E' d s1 S1 r1 h1 => by
      split at h1
      · cases r1
        exact ⟨_, rfl, k _ _ _ _ _ s1 S1 h1⟩
      · exact h1.elim⟩
theorem ok_cmp {K : PySem.W.Frag} {p : Int → Int → Bool} : OpOk K (rI0 fun i j => .bl (p i j)) (rdCmp p) := ok_I0 fun _ _ _ => .bl _
abbrev rdLt : RD := rdCmp fun i j => decide (i < j)
abbrev rdGt : RD := rdCmp fun i j => decide (j < i)
abbrev rdGe : RD := rdCmp fun i j => decide (j ≤ i)
theorem d_gt (ha : PEd X a ta) (hb : PEd X b tb) : PEd X (.Compare a [.Gt] [b] pos) (tOpD rdGt ta tb) := d_cmp op_gt ok_cmp ha hb (nomark _)
theorem t_lt (ha : PEd X a ta) (hb : PEd X b tb) : PTd X (.Compare a [.Lt] [b] pos) (tTestD (tOpD rdLt ta tb)) := t_cmp op_lt ok_cmp ha hb (nomark _)
theorem t_gt (ha : PEd X a ta) (hb : PEd X b tb) : PTd X (.Compare a [.Gt] [b] pos) (tTestD (tOpD rdGt ta tb)) := t_cmp op_gt ok_cmp ha hb (nomark _)
theorem t_ge (ha : PEd X a ta) (hb : PEd X b tb) : PTd X (.Compare a [.GtE] [b] pos) (tTestD (tOpD rdGe ta tb)) := t_cmp op_ge ok_cmp ha hb (nomark _)

mutual
def D.py : D → PyData
  | .non => .none
  | .bl b => .bool b
  | .int i => .int i
  | .str x => .str x
  | .opq _ => .none
  | .pt _ => .none
  | .ps _ => .none
  | .tup xs => .tuple (D.pyL xs)
  | .lst xs => .list (D.pyL xs)
  | .dct _ => .none
  | .ins _ _ => .none
def D.pyL : List D → List PyData
  | [] => []
  | d :: r => D.py d :: D.pyL r
end
mutual
/-- no object, no dict in it, texts that can be -/
def D.plain : D → Bool
  | .opq _ => false
  | .pt _ => false
  | .ps _ => false
  | .dct _ => false
  | .ins _ _ => false
  | .tup xs => D.plainL xs
  | .lst xs => D.plainL xs
  | .non => true
  | .bl _ => true
  | .int _ => true
  | .str _ => true
def D.plainL : List D → Bool
  | [] => true
  | d :: r => D.plain d && D.plainL r
end
mutual
theorem Rep.dp {K : PySem.W.Frag} {H : Hp} : ∀ {v : V} {d : D}, Rep K H v d → d.plain = true → Dp K H v d.py
  | _, _, .non, _ => .non
  | _, _, .bl b, _ => .bl b
  | _, _, .int i, _ => .int i
  | _, _, .str x, _ => .str x
  | _, _, .opq v, h => by cases h
  | _, _, .pt _ _, h => by cases h
  | _, _, .ps _ _, h => by cases h
  | _, _, .tup s r, h => .tup s (RepL.dp r h)
  | _, _, .lst s r, h => .lst (.inl (.inl s)) (RepL.dp r h)
  | _, _, .dct s r, h => by cases h
  | _, _, .ins _ _ _, h => by cases h
theorem RepL.dp {K : PySem.W.Frag} {H : Hp} : ∀ {v : List V} {d : List D}, RepL K H v d → D.plainL d = true → DpAll K H v (D.pyL d)
  | _, _, .nil, _ => .nil
  | _, _, .cons a b, h => by
    have h' := Bool.and_eq_true_iff.mp h
    exact .cons (Rep.dp a h'.1) (RepL.dp b h'.2)
end
def D.eqv (x y : D) : Bool := PyData.eqv x.py y.py
/-- what may be compared -/
def D.ok (x : D) : Prop := x.plain = true ∧ SeqAt.shaped x.py = true
def rdEq : RD := fun x y E Q => match x, y with
  | .int i, .int j => Q (.bl (decide (i = j))) E
  | .str i, .str j => Q (.bl (decide (i = j))) E
  | .bl i, .bl j => Q (.bl (decide (i = j))) E
  | x, y => x.ok ∧ y.ok ∧ Q (.bl (D.eqv x y)) E
def rdNe : RD := fun x y E Q => match x, y with
  | .int i, .int j => Q (.bl (!decide (i = j))) E
  | .str i, .str j => Q (.bl (!decide (i = j))) E
  | .bl i, .bl j => Q (.bl (!decide (i = j))) E
  | x, y => x.ok ∧ y.ok ∧ Q (.bl (!D.eqv x y)) E
theorem decV_int {i j : Int} : decide (V.int i = V.int j) = decide (i = j) := by simp
theorem decV_str {i j : Str} : decide (V.str i = V.str j) = decide (i = j) := by simp
theorem decV_bl {i j : Bool} : decide (V.bl i = V.bl j) = decide (i = j) := by simp
theorem ok_eq {K : PySem.W.Frag} : OpOk K (fun x y H Q => L2.rEq x y H Q ∨ rEqD K x y H Q) rdEq :=
  fun en Hf H F E σ vx vy x y Q Qd S rx ry q k => by
    unfold rdEq at q
    split at q
    · cases rx
      cases ry
      exact .inl ⟨rfl, k _ _ _ _ _ _ (Same.refl _) S (by rw [decV_int]; exact .bl _) q⟩
    · cases rx
      cases ry
      exact .inl ⟨rfl, k _ _ _ _ _ _ (Same.refl _) S (by rw [decV_str]; exact .bl _) q⟩
    · cases rx
      cases ry
      exact .inl ⟨rfl, k _ _ _ _ _ _ (Same.refl _) S (by rw [decV_bl]; exact .bl _) q⟩
    · exact .inr ⟨_, _, (rx.mono S.sf).dp q.1.1, (ry.mono S.sf).dp q.2.1.1, q.1.2, q.2.1.2, k _ _ _ _ _ _ (Same.refl _) S (.bl _) q.2.2⟩
theorem ok_ne {K : PySem.W.Frag} : OpOk K (fun x y H Q => L2.rNe x y H Q ∨ rNeD K x y H Q) rdNe :=
  fun en Hf H F E σ vx vy x y Q Qd S rx ry q k => by
    unfold rdNe at q
    split at q
    · cases rx
      cases ry
      exact .inl ⟨rfl, k _ _ _ _ _ _ (Same.refl _) S (by rw [decV_int]; exact .bl _) q⟩
    · cases rx
      cases ry
      exact .inl ⟨rfl, k _ _ _ _ _ _ (Same.refl _) S (by rw [decV_str]; exact .bl _) q⟩
    · cases rx
      cases ry
      exact .inl ⟨rfl, k _ _ _ _ _ _ (Same.refl _) S (by rw [decV_bl]; exact .bl _) q⟩
    · exact .inr ⟨_, _, (rx.mono S.sf).dp q.1.1, (ry.mono S.sf).dp q.2.1.1, q.1.2, q.2.1.2, k _ _ _ _ _ _ (Same.refl _) S (.bl _) q.2.2⟩
theorem d_eq (hu : X.A.units + 64 < cLine) (ha : PEd X a ta) (hb : PEd X b tb) : PEd X (.Compare a [.Eq] [b] pos) (tOpD rdEq ta tb) := d_cmp (OpR.or op_eq (op_eqD hu)) ok_eq ha hb (nomark _)
theorem d_ne (hu : X.A.units + 64 < cLine) (ha : PEd X a ta) (hb : PEd X b tb) : PEd X (.Compare a [.NotEq] [b] pos) (tOpD rdNe ta tb) := d_cmp (OpR.or op_ne (op_neD hu)) ok_ne ha hb (nomark _)
theorem t_eq (hu : X.A.units + 64 < cLine) (ha : PEd X a ta) (hb : PEd X b tb) : PTd X (.Compare a [.Eq] [b] pos) (tTestD (tOpD rdEq ta tb)) := t_cmp (OpR.or op_eq (op_eqD hu)) ok_eq ha hb (nomark _)
theorem t_ne (hu : X.A.units + 64 < cLine) (ha : PEd X a ta) (hb : PEd X b tb) : PTd X (.Compare a [.NotEq] [b] pos) (tTestD (tOpD rdNe ta tb)) := t_cmp (OpR.or op_ne (op_neD hu)) ok_ne ha hb (nomark _)

def D.isNon : D → Option Bool
  | .non => some true
  | .opq v => some (decide (v = .non))
  | _ => some false
def rdIsN : RD := fun x y E Q => match y with
  | .non => (match D.isNon x with | some k => Q (.bl k) E | none => False)
  | _ => False
def rdNotN : RD := fun x y E Q => match y with
  | .non => (match D.isNon x with | some k => Q (.bl (!k)) E | none => False)
  | _ => False
theorem isNon_ok {K : PySem.W.Frag} {H : Hp} {v : V} {d : D} {k : Bool} (r : Rep K H v d) (e : D.isNon d = some k) : decide (v = V.non) = k := by
  cases r <;> first | (simp [D.isNon] at e; simpa using e) | (simp [D.isNon] at e; subst e; simp)
theorem ok_isN {K : PySem.W.Frag} : OpOk K (fun x y H Q => y = .non ∧ Q (.bl (decide (x = .non))) H) rdIsN :=
  fun en Hf H F E σ vx vy x y Q Qd S rx ry q k => by
    unfold rdIsN at q
    split at q
    · split at q
      · rename_i kk e
        cases ry
        exact ⟨rfl, k _ _ _ _ _ _ (Same.refl _) S (by rw [isNon_ok rx e]; exact .bl _) q⟩
      · exact q.elim
    · exact q.elim
theorem ok_notN {K : PySem.W.Frag} : OpOk K (fun x y H Q => y = .non ∧ Q (.bl (!decide (x = .non))) H) rdNotN :=
  fun en Hf H F E σ vx vy x y Q Qd S rx ry q k => by
    unfold rdNotN at q
    split at q
    · split at q
      · rename_i kk e
        cases ry
        exact ⟨rfl, k _ _ _ _ _ _ (Same.refl _) S (by rw [isNon_ok rx e]; exact .bl _) q⟩
      · exact q.elim
    · exact q.elim
theorem d_isN (ha : PEd X a ta) (hb : PEd X b tb) : PEd X (.Compare a [.Is] [b] pos) (tOpD rdIsN ta tb) := d_cmp op_isN ok_isN ha hb (nomark _)
theorem t_isN (ha : PEd X a ta) (hb : PEd X b tb) : PTd X (.Compare a [.Is] [b] pos) (tTestD (tOpD rdIsN ta tb)) := t_cmp op_isN ok_isN ha hb (nomark _)
theorem t_notN (ha : PEd X a ta) (hb : PEd X b tb) : PTd X (.Compare a [.IsNot] [b] pos) (tTestD (tOpD rdNotN ta tb)) := t_cmp op_notN ok_notN ha hb (nomark _)
end
end L3
namespace L3
open PySem L2
open PyProof.Rows (b2i)
variable [Tbs]
section
variable {X : Cx} {a b c e : Expr} {es rest : List Expr} {ta tb tc te : TEd} {tA tB : TTd} {t : TAd} {pos : Pos}

def truD : D → (Bool → Prop) → Prop
  | .non, Q => Q false
  | .bl b, Q => Q b
  | .int i, Q => Q (i != 0)
  | .str x, Q => x.length ≤ sizeLine ∧ Q ((x.length : Int) != 0)
  | .tup xs, Q => Q (!xs.isEmpty)
  | .lst xs, Q => Q (!xs.isEmpty)
  | .dct ks, Q => Q (!ks.isEmpty)
  | .opq _, _ => False
  | .pt _, _ => False
  | .ps _, _ => False
  | .ins _ _, _ => False
theorem RepL.empty {K : PySem.W.Frag} {H : Hp} {vs : List V} {ds : List D} (r : RepL K H vs ds) : ds.isEmpty = vs.isEmpty := by cases r <;> rfl
theorem RepK.empty {K : PySem.W.Frag} {H : Hp} {vs : List (Key × V)} {ds : List (Key × D)} (r : RepK K H vs ds) : ds.isEmpty = vs.isEmpty := by cases r <;> rfl
theorem tru_of {K : PySem.W.Frag} {Hf H : Hp} {v : V} {d : D} {Q : Bool → Prop} (s : Same Hf H) (r : Rep K Hf v d) (h : truD d Q) : ∃ k, TruV K v H k ∧ Q k := by
  cases r with
  | non => exact ⟨_, rfl, h⟩
  | bl b => exact ⟨_, rfl, h⟩
  | int i => exact ⟨_, rfl, h⟩
  | str x => exact ⟨_, ⟨h.1, rfl⟩, h.2⟩
  | opq v => exact h.elim
  | pt _ _ => exact h.elim
  | ps _ _ => exact h.elim
  | ins _ _ _ => exact h.elim
  | tup q l => exact ⟨_, .inr (.inl ⟨_, Same.sqT s q, rfl⟩), by rw [← l.empty]; exact h⟩
  | lst q l => exact ⟨_, .inl ⟨_, .inl (.inl (s _ _ q)), rfl⟩, by rw [← l.empty]; exact h⟩
  | dct q l => exact ⟨_, .inr (.inr ⟨_, s _ _ q, rfl⟩), by rw [← l.empty]; exact h⟩
def tOrD (ta tb : TEd) : TEd := fun E Q => ta E fun x E1 => truD x fun k => if k = true then Q x E1 else tb E1 Q
def tAndD (ta tb : TEd) : TEd := fun E Q => ta E fun x E1 => truD x fun k => if k = true then tb E1 Q else Q x E1
theorem d_and (ha : PEd X a ta) (hb : PEd X (.BoolOp .And (b :: rest) pos) tb) : PEd X (.BoolOp .And (a :: b :: rest) pos) (tAndD ta tb) :=
  pe_imp (pe_andT ha hb) fun σ H Q ⟨en, Hf, F, E, Qd, S, h, k⟩ => ⟨en, Hf, F, E, _, S, h, fun v1 H1 Hf1 F1 E1 x s1 S1 r1 h1 => by
    obtain ⟨kk, hk, q⟩ := tru_of S1.sf r1 h1
    refine ⟨kk, hk, ?_⟩
    cases kk with
    | false => exact k _ _ _ _ _ _ s1 S1 r1 q
    | true => exact ⟨en, Hf1, F1, E1, _, S1, q, fun v H' Hf' F' E' d s2 S2 r2 h2 => k _ _ _ _ _ _ (s1.trans s2) S2 r2 h2⟩⟩
theorem d_one {op} (h : PEd X a ta) : PEd X (.BoolOp op [a] pos) ta := pe_one h
def tNotD (ta : TEd) : TEd := fun E Q => ta E fun x E1 => truD x fun k => Q (.bl (!k)) E1
theorem d_not (ha : PEd X a ta) : PEd X (.UnaryOp .Not a pos) (tNotD ta) :=
  pe_imp (pe_notT ha) fun σ H Q ⟨en, Hf, F, E, Qd, S, h, k⟩ => ⟨en, Hf, F, E, _, S, h, fun v1 H1 Hf1 F1 E1 x s1 S1 r1 h1 => by
    obtain ⟨kk, hk, q⟩ := tru_of S1.sf r1 h1
    exact ⟨kk, hk, k _ _ _ _ _ _ s1 S1 (.bl _) q⟩⟩
/-- any expression as a test -/
def tTruD (ta : TEd) : TTd := fun E Q => ta E fun x E1 => truD x fun k => Q k E1
theorem t_val (ha : PEd X a ta) (he : ∀ whole, isTrue a X.env whole = (do let v ← whole; standAt a.pos; holding [v] (truthy v)) := by intro _; rfl) : PTd X a (tTruD ta) :=
  pt_imp (pt_truth ha he) fun σ H Q ⟨en, Hf, F, E, Qd, S, h, k⟩ => ⟨en, Hf, F, E, _, S, h, fun v1 H1 Hf1 F1 E1 x s1 S1 r1 h1 => by
    obtain ⟨kk, hk, q⟩ := tru_of S1.sf r1 h1
    exact ⟨kk, hk, k _ _ _ _ _ s1 S1 q⟩⟩
def tAndW (tA tB : TTd) : TTd := fun E Q => tA E fun k E1 => if k = true then tB E1 Q else Q false E1
def tOrW (tA tB : TTd) : TTd := fun E Q => tA E fun k E1 => if k = true then Q true E1 else tB E1 Q
def tNotW (tA : TTd) : TTd := fun E Q => tA E fun k E1 => Q (!k) E1
theorem t_not (ha : PTd X a tA) : PTd X (.UnaryOp .Not a pos) (tNotW tA) := pt_imp (pt_not ha) fun σ H Q ⟨en, Hf, F, E, Qd, S, h, k⟩ =>
  ⟨en, Hf, F, E, _, S, h, fun b H1 Hf1 F1 E1 s1 S1 h1 => k _ _ _ _ _ s1 S1 h1⟩
theorem w_and1 (ha : PTd X a tA) : PWd X (.BoolOp .And [a] pos) tA := pw_and1 ha
theorem w_or1 (ha : PTd X a tA) : PWd X (.BoolOp .Or [a] pos) tA := pw_or1 ha
theorem w_and (ha : PTd X a tA) (hb : PWd X (.BoolOp .And (b :: rest) pos) tB) : PWd X (.BoolOp .And (a :: b :: rest) pos) (tAndW tA tB) :=
  pw_imp (pw_and ha hb) fun σ H Q ⟨en, Hf, F, E, Qd, S, h, k⟩ => ⟨en, Hf, F, E, _, S, h, fun b H1 Hf1 F1 E1 s1 S1 h1 => by
    cases b with
    | false => exact k _ _ _ _ _ s1 S1 h1
    | true => exact ⟨en, Hf1, F1, E1, _, S1, h1, fun v H' Hf' F' E' s2 S2 h2 => k _ _ _ _ _ (s1.trans s2) S2 h2⟩⟩
theorem w_or (ha : PTd X a tA) (hb : PWd X (.BoolOp .Or (b :: rest) pos) tB) : PWd X (.BoolOp .Or (a :: b :: rest) pos) (tOrW tA tB) :=
  pw_imp (pw_or ha hb) fun σ H Q ⟨en, Hf, F, E, Qd, S, h, k⟩ => ⟨en, Hf, F, E, _, S, h, fun b H1 Hf1 F1 E1 s1 S1 h1 => by
    cases b with
    | true => exact k _ _ _ _ _ s1 S1 h1
    | false => exact ⟨en, Hf1, F1, E1, _, S1, h1, fun v H' Hf' F' E' s2 S2 h2 => k _ _ _ _ _ (s1.trans s2) S2 h2⟩⟩
theorem t_w (h : PWd X a tA) : PTd X a tA := h.pt
def tIfD (tA : TTd) (ta tb : TEd) : TEd := fun E Q => tA E fun k E1 => if k = true then ta E1 Q else tb E1 Q
theorem d_ifx (hc : PTd X c tA) (ha : PEd X a ta) (hb : PEd X b tb) : PEd X (.IfExp c a b pos) (tIfD tA ta tb) :=
  pe_imp (pe_ifExp hc ha hb) fun σ H Q ⟨en, Hf, F, E, Qd, S, h, k⟩ => ⟨en, Hf, F, E, _, S, h, fun b H1 Hf1 F1 E1 s1 S1 h1 => by
    cases b with
    | true => exact ⟨en, Hf1, F1, E1, _, S1, h1, fun v H' Hf' F' E' d s2 S2 r2 h2 => k _ _ _ _ _ _ (s1.trans s2) S2 r2 h2⟩
    | false => exact ⟨en, Hf1, F1, E1, _, S1, h1, fun v H' Hf' F' E' d s2 S2 r2 h2 => k _ _ _ _ _ _ (s1.trans s2) S2 r2 h2⟩⟩
/-- a < b < c, of ints -/
def tChainD (rd rd' : RD) (ta tb tc : TEd) : TEd := fun E Q => ta E fun x E1 => tb E1 fun y E2 => rd x y E2 fun z E3 => match z with
  | .bl k => if k = true then tc E3 fun w E4 => rd' y w E4 Q else Q (.bl false) E3
  | _ => False
theorem lift3 {K : PySem.W.Frag} {r r' : R2} {rd rd' : RD} (hk : OpOk K r rd) (hk' : OpOk K r' rd') : ∀ σ H Q, liftE K (tChainD rd rd' ta tb tc) σ H Q → tChain r r' (liftE K ta) (liftE K tb) (liftE K tc) σ H Q := fun σ H Q ⟨en, Hf, F, E, Qd, S, h, k⟩ =>
  ⟨en, Hf, F, E, _, S, h, fun v1 H1 Hf1 F1 E1 x s1 S1 r1 h1 => ⟨en, Hf1, F1, E1, _, S1, h1, fun v2 H2 Hf2 F2 E2 y s2 S2 r2 h2 =>
    hk en Hf2 H2 F2 E2 σ v1 v2 x y _ _ S2 (r1.mono s2) r2 h2 fun v3 H3 Hf3 F3 E3 z s3 S3 r3 h3 => by
      split at h3
      · rename_i kk
        cases r3
        refine ⟨kk, rfl, ?_⟩
        cases kk with
        | false => exact k _ _ _ _ _ _ ((s1.trans s2).trans s3) S3 (.bl _) h3
        | true => exact ⟨en, Hf3, F3, E3, _, S3, h3, fun v4 H4 Hf4 F4 E4 w s4 S4 r4 h4 =>
            hk' en Hf4 H4 F4 E4 σ v2 v4 y w Q Qd S4 (r2.mono (s3.trans s4)) r4 h4 fun v H' Hf' F' E' d s5 S5 r5 h5 => k v H' Hf' F' E' d ((((s1.trans s2).trans s3).trans s4).trans s5) S5 r5 h5⟩
      · exact h3.elim⟩⟩
theorem d_chain {op op' : CmpOp} {r r' : R2} {rd rd' : RD} (ho : OpR X (compareOp op) r) (hk : OpOk X.K r rd) (ho' : OpR X (compareOp op') r') (hk' : OpOk X.K r' rd') (ha : PEd X a ta) (hb : PEd X b tb) (hc : PEd X c tc)
    (hm : lastMarks [op, op'] [b, c] = false := by with_unfolding_all rfl) : PEd X (.Compare a [op, op'] [b, c] pos) (tChainD rd rd' ta tb tc) := pe_imp (pe_chain ho ho' ha hb hc hm) (lift3 hk hk')
theorem RepL.atI {K : PySem.W.Frag} {H : Hp} {vs : List V} {ds : List D} {i : Int} {d : D} (r : RepL K H vs ds) (h : L2.atI ds i = some d) : ∃ v, L2.atI vs i = some v ∧ Rep K H v d := by
  unfold L2.atI at h ⊢
  rw [r.length]
  cases e : ixN ds.length i with
  | none =>
    rw [e] at h
    cases h
  | some j =>
    rw [e] at h
    exact r.get h
/-- a[i]: a list, a tuple, a text -/
def rdIx : RD := fun x y E Q => match x, y with
  | .lst xs, .int i => (match atI xs i with | some d => Q d E | none => False)
  | .tup xs, .int i => (match atI xs i with | some d => Q d E | none => False)
  | .str z, .int i => z.length ≤ sizeLine ∧ (match atI z.cps.toList i with | some c => Q (.str ⟨#[c]⟩) E | none => False)
  | _, _ => False
theorem ok_ix {K : PySem.W.Frag} : OpOk K (rIx K) rdIx :=
  fun en Hf H F E σ vx vy x y Q Qd S rx ry q k => by
    unfold rdIx at q
    split at q
    · cases rx with | lst h1 l1 =>
      cases ry
      split at q
      · rename_i d e
        obtain ⟨v, e', r⟩ := l1.atI e
        exact .inl ⟨_, _, _, v, rfl, rfl, .inl (.inl (S.sf _ _ h1)), e', k _ _ _ _ _ _ (Same.refl _) S r q⟩
      · exact q.elim
    · cases rx with | tup h1 l1 =>
      cases ry
      split at q
      · rename_i d e
        obtain ⟨v, e', r⟩ := l1.atI e
        exact .inr (.inl ⟨_, _, _, v, rfl, rfl, Same.sqT S.sf h1, e', k _ _ _ _ _ _ (Same.refl _) S r q⟩)
      · exact q.elim
    · cases rx
      cases ry
      obtain ⟨hz, q⟩ := q
      split at q
      · rename_i c e
        exact .inr (.inr ⟨_, _, c, rfl, rfl, hz, e, k _ _ _ _ _ _ (Same.refl _) S (.str _) q⟩)
      · exact q.elim
    · exact q.elim
theorem d_ix (ha : PEd X a ta) (hb : PEd X b tb) (hs : PlainIx b := by exact fun _ _ => rfl) : PEd X (.Subscript a b pos) (tOpD rdIx ta tb) := pe_imp (pe_ix ix_seq ha hb hs) (lift2 ok_ix)
/-- x[i] of a name whose list may be our own: it stays so -/
def held (E : En) (j : Nat) : Prop := match E[j]? with
  | some (.fz _) => True
  | some (.ow _ _) => True
  | _ => False
theorem held.val {K : PySem.W.Frag} {en : Et} {Hf H : Hp} {F : Nat → List Addr} {E : En} {σ : St} (S : Sat K en Hf H F E σ) {j : Nat} (h : held E j) : ∃ v, σ[j]? = some (some v) := by
  unfold held at h
  split at h
  · rename_i d e
    obtain ⟨v, e, _⟩ := S.get e
    exact ⟨v, e⟩
  · rename_i b o e
    obtain ⟨v, e, _⟩ := S.own e
    exact ⟨v, e⟩
  · exact h.elim
def tIxV (j : Nat) (tb : TEd) : TEd := fun E Q => held E j ∧ tb E fun y E1 => match E1[j]? with
  | some (.fz x) => rdIx x y E1 Q
  | some (.ow _ (.ol xs)) => rdIx (.lst xs) y E1 Q
  | _ => False
theorem d_ixV (j : Nat) {x : Str} {p : Pos} (hb : PEd X b tb) (hs : PlainIx b := by exact fun _ _ => rfl) (hN : X.N[j]? = some x := by rfl) (hv : Vis X.env.scope x := by first | exact Or.inl rfl | exact Or.inr (Or.inl rfl) | exact Or.inr (Or.inr rfl))
    (hd : (x == ("__debug__" : Str)) = false := by decide) (hcd : (x == ("__classdict__" : Str)) = false := by decide) : PEd X (.Subscript (.Name x p) b pos) (tIxV j tb) :=
  pe_imp (pe_ix ix_seq (pv j hN hv hd hcd) hb hs) fun σ H Q ⟨en, Hf, F, E, Qd, S, ⟨hh, h⟩, k⟩ => by
    obtain ⟨v, hv⟩ := hh.val S
    refine ⟨v, hv, en, Hf, F, E, _, S, h, fun v1 H1 Hf1 F1 E1 y s1 S1 r1 h1 => ?_⟩
    split at h1
    · rename_i xd e
      obtain ⟨v', e', r'⟩ := S1.get e
      rw [hv] at e'
      cases e'
      exact ok_ix en Hf1 H1 F1 E1 σ v v1 xd y Q Qd S1 r' r1 h1 fun v H' Hf' F' E' d s2 S2 r2 h2 => k v H' Hf' F' E' d (s1.trans s2) S2 r2 h2
    · rename_i bb xs e
      obtain ⟨v', e', ⟨p, vs, rfl, _, hp, l⟩, _⟩ := S1.own e
      rw [hv] at e'
      cases e'
      unfold rdIx at h1
      cases r1 with
      | int i =>
        simp only at h1
        split at h1
        · rename_i d e1
          obtain ⟨w, e2, r2⟩ := l.atI e1
          exact .inl ⟨_, _, _, w, rfl, rfl, .inl (.inl hp), e2, k _ _ _ _ _ _ s1 S1 r2 h1⟩
        · exact h1.elim
      | _ => exact h1.elim
    · exact h1.elim
/-- slices -/
def cutL {α : Type} (xs : List α) (lo hi : Option Int) : List α := (xs.drop (HT.sIx xs.length 0 lo)).take (HT.sIx xs.length xs.length hi - HT.sIx xs.length 0 lo)
theorem RepL.cut {K : PySem.W.Frag} {H : Hp} {vs : List V} {ds : List D} (r : RepL K H vs ds) (lo hi : Option Int) : RepL K H (cutV vs lo hi) (cutL ds lo hi) := by
  unfold cutV cutL
  rw [r.length]
  exact (r.drop _).take _
abbrev TOd := En → (Option Int → En → Prop) → Prop
def liftO (K : PySem.W.Frag) (t : TOd) : St → Hp → (Option Int → Hp → Prop) → Prop := fun σ H Q => ∃ en Hf F E Qd, Sat K en Hf H F E σ ∧ t E Qd ∧
  ∀ o H' Hf' F' E', Same Hf Hf' → Sat K en Hf' H' F' E' σ → Qd o E' → Q o H'
abbrev POd (X : Cx) (e : Option Expr) (t : TOd) : Prop := PO X e (liftO X.K t)
theorem po_imp {e : Option Expr} {t t' : St → Hp → (Option Int → Hp → Prop) → Prop} (h : PO X e t) (i : ∀ σ H Q, t' σ H Q → t σ H Q) : PO X e t' := ⟨fun pins s σ H Q I q => h.run pins s σ H Q I (i σ H Q q)⟩
def tNoPartD : TOd := fun E Q => Q none E
def tPartD (ta : TEd) : TOd := fun E Q => ta E fun x E1 => match x with
  | .int i => Q (some i) E1
  | _ => False
theorem o_none : POd X none tNoPartD := po_imp po_none fun σ H Q ⟨en, Hf, F, E, Qd, S, h, k⟩ => k _ _ _ _ _ (Same.refl _) S h
theorem o_some (h : PEd X e te) : POd X (some e) (tPartD te) := po_imp (po_some h) fun σ H Q ⟨en, Hf, F, E, Qd, S, h, k⟩ => ⟨en, Hf, F, E, _, S, h, fun v1 H1 Hf1 F1 E1 x s1 S1 r1 h1 => by
  split at h1
  · cases r1
    exact ⟨_, rfl, k _ _ _ _ _ s1 S1 h1⟩
  · exact h1.elim⟩
def rdSl (x : D) (lo hi : Option Int) (E : En) (Q : D → En → Prop) : Prop := match x with
  | .lst xs => Q (.lst (cutL xs lo hi)) E
  | .tup xs => Q (.tup (cutL xs lo hi)) E
  | .str z => z.length ≤ sizeLine ∧ Q (.str (cutS z lo hi)) E
  | _ => False
def tSlD (te : TEd) (tl th : TOd) : TEd := fun E Q => te E fun x E1 => tl E1 fun l E2 => th E2 fun u E3 => rdSl x l u E3 Q
theorem cut_whole {α : Type} {xs : List α} {lo hi : Option Int} (h : HT.sIx xs.length 0 lo = 0 ∧ HT.sIx xs.length xs.length hi = xs.length) : cutL xs lo hi = xs := by
  unfold cutL
  rw [h.1, h.2]
  simp
theorem d_slice {lo hi : Option Expr} {tl th : TOd} {p2 : Pos} (he : PEd X e te) (hl : POd X lo tl) (hu : POd X hi th) : PEd X (.Subscript e (.Slice lo hi none p2) pos) (tSlD te tl th) :=
  pe_imp (pe_slice (SlR.or sl_list (SlR.or sl_tupA sl_str)) he hl hu) fun σ H Q ⟨en, Hf, F, E, Qd, S, h, k⟩ =>
    ⟨en, Hf, F, E, _, S, h, fun v1 H1 Hf1 F1 E1 x s1 S1 r1 h1 => ⟨en, Hf1, F1, E1, _, S1, h1, fun lo H2 Hf2 F2 E2 s2 S2 h2 => ⟨en, Hf2, F2, E2, _, S2, h2, fun hi H3 Hf3 F3 E3 s3 S3 h3 => by
      have kk : Fin X.K en σ Hf3 Qd Q := fun v H' Hf' F' E' d s4 S4 r4 h4 => k v H' Hf' F' E' d (((s1.trans s2).trans s3).trans s4) S4 r4 h4
      have r3 := r1.mono (s2.trans s3)
      unfold rdSl at h3
      split at h3
      · cases r3 with | lst q l =>
        exact .inl ⟨_, _, rfl, .inl (.inl (S3.sf _ _ q)), fun p np => kk.new S3 np (fun _ s4 e => .lst e ((l.cut _ _).mono s4)) h3⟩
      · cases r3 with | tup q l =>
        refine .inr (.inl ⟨_, _, rfl, Same.sqT S3.sf q, fun w => ?_, fun w p np => kk.new S3 np (fun _ s4 e => .tup (.inl (.inl e)) ((l.cut _ _).mono s4)) h3⟩)
        rw [l.length] at w
        rw [cut_whole w] at h3
        exact kk _ _ _ _ _ _ (Same.refl _) S3 (.tup q l) h3
      · cases r3
        exact .inr (.inr ⟨_, rfl, h3.1, kk _ _ _ _ _ _ (Same.refl _) S3 (.str _) h3.2⟩)
      · exact h3.elim⟩⟩⟩

def D.fv : D → V
  | .bl b => .bl b
  | .int i => .int i
  | .str x => .str x
  | .opq v => v
  | _ => .non
def D.flat : D → Bool
  | .bl _ => true
  | .int _ => true
  | .str _ => true
  | .non => true
  | _ => false
theorem Rep.fv {K : PySem.W.Frag} {H : Hp} {v : V} {d : D} (r : Rep K H v d) (h : d.flat = true) : v = d.fv ∧ flatV v = true := by
  cases r <;> first | exact ⟨rfl, rfl⟩ | cases h
theorem RepL.fv {K : PySem.W.Frag} {H : Hp} : ∀ {vs : List V} {ds : List D}, RepL K H vs ds → ds.all D.flat = true → vs = ds.map D.fv ∧ vs.all flatV = true
  | _, _, .nil, _ => ⟨rfl, rfl⟩
  | _, _, .cons a l, h => by
    rw [List.all_cons, Bool.and_eq_true] at h
    obtain ⟨e1, e2⟩ := a.fv h.1
    obtain ⟨e3, e4⟩ := RepL.fv l h.2
    exact ⟨by rw [List.map_cons, ← e1, ← e3], by rw [List.all_cons, e2, e4]; rfl⟩
def inD (x : D) (ys : List D) : Bool := inV x.fv (ys.map D.fv)
def rdIn (neg : Bool) : RD := fun x y E Q => match y with
  | .lst ys => x.flat = true ∧ ys.all D.flat = true ∧ Q (.bl (if neg then !inD x ys else inD x ys)) E
  | .tup ys => x.flat = true ∧ ys.all D.flat = true ∧ Q (.bl (if neg then !inD x ys else inD x ys)) E
  | _ => False
theorem ok_in {K : PySem.W.Frag} {neg : Bool} : OpOk K (rIn K neg) (rdIn neg) :=
  fun en Hf H F E σ vx vy x y Q Qd S rx ry q k => by
    unfold rdIn at q
    split at q
    · cases ry with | lst h1 l1 =>
      obtain ⟨e1, e2⟩ := rx.fv q.1
      obtain ⟨e3, e4⟩ := l1.fv q.2.1
      exact ⟨_, _, rfl, .inl (.inl (.inl (S.sf _ _ h1))), e2, e4, k _ _ _ _ _ _ (Same.refl _) S (by rw [e1, e3]; exact .bl _) q.2.2⟩
    · cases ry with | tup h1 l1 =>
      obtain ⟨e1, e2⟩ := rx.fv q.1
      obtain ⟨e3, e4⟩ := l1.fv q.2.1
      exact ⟨_, _, rfl, .inr (Same.sqT S.sf h1), e2, e4, k _ _ _ _ _ _ (Same.refl _) S (by rw [e1, e3]; exact .bl _) q.2.2⟩
    · exact q.elim
theorem d_notin (ha : PEd X a ta) (hb : PEd X b tb) (hm : behindInMarks .NotIn b = false := by rfl) : PEd X (.Compare a [.NotIn] [b] pos) (tOpD (rdIn true) ta tb) := d_cmp op_notIn_seq ok_in ha hb hm
theorem t_notin (ha : PEd X a ta) (hb : PEd X b tb) (hm : behindInMarks .NotIn b = false := by rfl) : PTd X (.Compare a [.NotIn] [b] pos) (tTestD (tOpD (rdIn true) ta tb)) := t_cmp op_notIn_seq ok_in ha hb hm
end
end L3
namespace L3
open PySem L2
variable [Tbs]
section
variable {X : Cx} {a b c e : Expr} {es : List Expr} {ta tb tc te : TEd} {tA tB : TTd} {t : TAd} {pos : Pos} {st : Stmt} {sts : List Stmt} {u w : TSd}

def tNextD : TSd := fun D E => D.nx E
def tSeqD (u w : TSd) : TSd := fun D E => u { D with nx := w D } E
theorem b_nil : PBd X [] tNextD := pss_imp pss_nil fun D σ H ⟨en, Hf, F, E, Dd, S, h, k1, k2, k3, k4, k5⟩ => k1 _ _ _ _ _ (Same.refl _) S h
theorem b_cons (h1 : PSd X st u) (h2 : PBd X sts w) : PBd X (st :: sts) (tSeqD u w) := pss_imp (pss_cons h1 h2) fun D σ H ⟨en, Hf, F, E, Dd, S, h, k1, k2, k3, k4, k5⟩ =>
  ⟨en, Hf, F, E, _, S, h, fun σ' H' Hf' F' E' s1 S1 q => ⟨en, Hf', F', E', _, S1, q, fun _ _ _ _ _ s2 => k1 _ _ _ _ _ (s1.trans s2), fun _ _ _ _ _ s2 => k2 _ _ _ _ _ (s1.trans s2), fun _ _ _ _ _ s2 => k3 _ _ _ _ _ (s1.trans s2), fun _ _ _ _ _ _ _ s2 => k4 _ _ _ _ _ _ _ (s1.trans s2), fun _ _ _ _ _ _ _ _ s2 => k5 _ _ _ _ _ _ _ _ (s1.trans s2)⟩, k2, k3, k4, k5⟩
theorem b_one (h1 : PSd X st u) : PBd X [st] u := pss_one h1
def tDropD (te : TEd) : TSd := fun D E => te E fun _ E1 => D.nx E1
theorem s_expr (he : PEd X e te) (hs : swapsWith e none pos.line X.env = pure false := by rfl) : PSd X (.Expr e pos) (tDropD te) := ps_imp (ps_expr he hs) fun D σ H ⟨en, Hf, F, E, Dd, S, h, k1, k2, k3, k4, k5⟩ =>
  ⟨en, Hf, F, E, _, S, h, fun v H' Hf' F' E' d s1 S1 r1 q => k1 _ _ _ _ _ s1 S1 q⟩
def tRetD (te : TEd) : TSd := fun D E => te E D.rt
theorem s_ret (he : PEd X e te) : PSd X (.Return (some e) pos) (tRetD te) := ps_imp (ps_ret he) fun D σ H ⟨en, Hf, F, E, Dd, S, h, k1, k2, k3, k4, k5⟩ =>
  ⟨en, Hf, F, E, _, S, h, fun v H' Hf' F' E' d s1 S1 r1 q => k4 _ _ _ _ _ _ _ s1 S1 r1 q⟩
def tRetND : TSd := fun D E => D.rt .non E
def tIfSD (tA : TTd) (u w : TSd) : TSd := fun D E => tA E fun k E1 => if k = true then u D E1 else w D E1
theorem s_if {p q : List Stmt} (hc : PTd X c tA) (ha : PBd X p u) (hb : PBd X q w) : PSd X (.If c p q pos) (tIfSD tA u w) := ps_imp (ps_if hc ha hb) fun D σ H ⟨en, Hf, F, E, Dd, S, h, k1, k2, k3, k4, k5⟩ =>
  ⟨en, Hf, F, E, _, S, h, fun b H1 Hf1 F1 E1 s1 S1 h1 => by
    cases b with
    | true => exact ⟨en, Hf1, F1, E1, Dd, S1, h1, fun _ _ _ _ _ s2 => k1 _ _ _ _ _ (s1.trans s2), fun _ _ _ _ _ s2 => k2 _ _ _ _ _ (s1.trans s2), fun _ _ _ _ _ s2 => k3 _ _ _ _ _ (s1.trans s2), fun _ _ _ _ _ _ _ s2 => k4 _ _ _ _ _ _ _ (s1.trans s2), fun _ _ _ _ _ _ _ _ s2 => k5 _ _ _ _ _ _ _ _ (s1.trans s2)⟩
    | false => exact ⟨en, Hf1, F1, E1, Dd, S1, h1, fun _ _ _ _ _ s2 => k1 _ _ _ _ _ (s1.trans s2), fun _ _ _ _ _ s2 => k2 _ _ _ _ _ (s1.trans s2), fun _ _ _ _ _ s2 => k3 _ _ _ _ _ (s1.trans s2), fun _ _ _ _ _ _ _ s2 => k4 _ _ _ _ _ _ _ (s1.trans s2), fun _ _ _ _ _ _ _ _ s2 => k5 _ _ _ _ _ _ _ _ (s1.trans s2)⟩⟩

abbrev TGd := D → En → (En → Prop) → Prop
abbrev TGsd := List D → En → (En → Prop) → Prop
def liftG (K : PySem.W.Frag) (t : TGd) : TG := fun v σ H Q => ∃ en Hf F E d Qd, Sat K en Hf H F E σ ∧ Rep K Hf v d ∧ t d E Qd ∧ ∀ σ' H' Hf' F' E', Same Hf Hf' → Sat K en Hf' H' F' E' σ' → Qd E' → Q σ' H'
def liftGs (K : PySem.W.Frag) (t : TGsd) : TGs := fun vs σ H Q => ∃ en Hf F E ds Qd, Sat K en Hf H F E σ ∧ RepL K Hf vs ds ∧ t ds E Qd ∧ ∀ σ' H' Hf' F' E', Same Hf Hf' → Sat K en Hf' H' F' E' σ' → Qd E' → Q σ' H'
abbrev PGd (X : Cx) (e : Expr) (t : TGd) : Prop := PG X e (liftG X.K t)
abbrev PGsd (X : Cx) (es : List Expr) (t : TGsd) : Prop := PGs X es (liftGs X.K t)
theorem pg_imp {e : Expr} {t t' : TG} (h : PG X e t) (i : ∀ v σ H Q, t' v σ H Q → t v σ H Q) : PG X e t' := ⟨fun pins s σ H v u Q I r q => h.run pins s σ H v u Q I r (i v σ H Q q)⟩
theorem pgs_imp {e : List Expr} {t t' : TGs} (h : PGs X e t) (i : ∀ v σ H Q, t' v σ H Q → t v σ H Q) : PGs X e t' := ⟨fun pins s σ H v u Q I r q => h.run pins s σ H v u Q I r (i v σ H Q q)⟩
def gNameD (i : Nat) : TGd := fun d E Q => canSet E i ∧ Q (E.set i (.fz d))
theorem g_name {i : Nat} {x : Str} (hN : X.N.Nodup) (hi : X.N[i]? = some x := by rfl) (hx : Loc X.env.scope x := by first | exact .inl rfl | exact .inr rfl) (hf : X.fn x = true ∨ X.env.scope.names.lookup x = some .local := by first | exact .inl rfl | exact .inr rfl | assumption) : PGd X (.Name x pos) (gNameD i) :=
  pg_imp (pg_name hN hi hx hf) fun v σ H Q ⟨en, Hf, F, E, d, Qd, S, r, h, k⟩ => k _ _ _ _ _ (Same.refl _) (S.set h.1 r) h.2
def gNilD : TGsd := fun ds E Q => match ds with
  | [] => Q E
  | _ => False
def gConsD (t : TGd) (u : TGsd) : TGsd := fun ds E Q => match ds with
  | d :: r => t d E fun E1 => u r E1 Q
  | _ => False
theorem gs_nil : PGsd X [] gNilD := pgs_imp pgs_nil fun v σ H Q ⟨en, Hf, F, E, d, Qd, S, r, h, k⟩ => by
  unfold gNilD at h
  split at h
  · cases r
    exact ⟨rfl, k _ _ _ _ _ (Same.refl _) S h⟩
  · exact h.elim
theorem gs_cons {t : TGd} {u : TGsd} (h1 : PGd X e t) (h2 : PGsd X es u) (hs : (assignEach (e :: es) X.env).map (·.2) = assign e X.env :: (assignEach es X.env).map (·.2) := by rfl) : PGsd X (e :: es) (gConsD t u) :=
  pgs_imp (pgs_cons h1 h2 hs) fun v σ H Q ⟨en, Hf, F, E, d, Qd, S, r, h, k⟩ => by
    unfold gConsD at h
    split at h
    · cases r with | cons a l =>
      exact ⟨_, _, rfl, en, Hf, F, E, _, _, S, a, h, fun σ1 H1 Hf1 F1 E1 s1 S1 q => ⟨en, Hf1, F1, E1, _, _, S1, l.mono s1, q, fun _ _ _ _ _ s2 => k _ _ _ _ _ (s1.trans s2)⟩⟩
    · exact h.elim
def gTupD (n : Nat) (t : TGsd) : TGd := fun d E Q => match d with
  | .tup xs => xs.length = n ∧ t xs E Q
  | _ => False
theorem g_tup {k : Nat} {t : TGsd} {n : Nat} (hc : X.calm = true) (h : PGsd X es t) (hn : (assignEach es X.env).length = n := by rfl) (hst : (assignEach es X.env).findIdx? (·.1) = none := by rfl) : PGd X (.Tuple es k pos) (gTupD n t) :=
  pg_imp (pg_tup hc h hn hst) fun v σ H Q ⟨en, Hf, F, E, d, Qd, S, r, h, k⟩ => by
    unfold gTupD at h
    split at h
    · cases r with | tup q l =>
      exact ⟨_, _, rfl, Same.sqT S.sf q, by rw [l.length]; exact h.1, en, Hf, F, E, _, _, S, l, h.2, k⟩
    · exact h.elim
def tAsgD (te : TEd) (g : TGd) : TSd := fun D E => te E fun x E1 => g x E1 D.nx
theorem liftAsg {g : TGd} : ∀ D σ H, liftS X (tAsgD te g) D σ H → tAsg (liftE X.K te) (liftG X.K g) D σ H := fun D σ H ⟨en, Hf, F, E, Dd, S, h, k1, k2, k3, k4, k5⟩ =>
  ⟨en, Hf, F, E, _, S, h, fun v H' Hf' F' E' d s1 S1 r1 q => ⟨en, Hf', F', E', d, _, S1, r1, q, fun _ _ _ _ _ s2 => k1 _ _ _ _ _ (s1.trans s2)⟩⟩
theorem s_asg {tg : Expr} {g : TGd} (he : PEd X e te) (hg : PGd X tg g) (hs : swapsWithSole [tg] e pos.line X.env = pure false := by rfl) (hw : swappedStores [tg] e X.env = pure none := by rfl)
    (h1 : (assignEach [tg] X.env).map (·.2) = [assign tg X.env] := by rfl) : PSd X (.Assign [tg] e pos) (tAsgD te g) := ps_imp (ps_asg he hg hs hw h1) liftAsg
theorem s_set {i : Nat} {x : Str} {pos' : Pos} (hN : X.N.Nodup) (he : PEd X e te) (hi : X.N[i]? = some x := by rfl) (hx : Loc X.env.scope x := by first | exact .inl rfl | exact .inr rfl) (hs : swapsWith e (some (.Name x pos')) pos.line X.env = pure false := by rfl) (hf : X.fn x = true ∨ X.env.scope.names.lookup x = some .local := by first | exact .inl rfl | exact .inr rfl | assumption) :
    PSd X (.Assign [.Name x pos'] e pos) (tAsgD te (gNameD i)) :=
  ps_imp (ps_set hN hi hx he hs hf) fun D σ H ⟨en, Hf, F, E, Dd, S, h, k1, k2, k3, k4, k5⟩ =>
    ⟨en, Hf, F, E, _, S, h, fun v H' Hf' F' E' d s1 S1 r1 q => k1 _ _ _ _ _ s1 (S1.set q.1 r1) q.2⟩
/-- a, b = x, y -/
def tParD (i j : Nat) (t : TAd) : TSd := fun D E => t E fun ds E1 => match ds with
  | [x, y] => canSet E1 i ∧ canSet E1 j ∧ D.nx ((E1.set i (.fz x)).set j (.fz y))
  | _ => False
theorem canSet.set {E : En} {i j : Nat} {d : D} (h : canSet E j) : canSet (E.set i (.fz d)) j := by
  by_cases e : i = j
  · subst e
    have hl := h.lt
    unfold canSet
    rw [List.getElem?_set_self hl]
    exact True.intro
  · unfold canSet at h ⊢
    rw [List.getElem?_set_ne e]
    exact h
theorem s_par {i j : Nat} {x y : Str} {px py pt : Pos} {kt k2 pt2} (hc : X.calm = true) (hN : X.N.Nodup) (ha : PAd X [a, b] t) (hi : X.N[i]? = some x := by rfl) (hj : X.N[j]? = some y := by rfl) (hij : i ≠ j := by decide)
    (hx : X.env.scope.names.lookup x = some .local := by rfl) (hy : X.env.scope.names.lookup y = some .local := by rfl)
    (hw : swappedStores [.Tuple [.Name x px, .Name y py] kt pt] (.Tuple [a, b] k2 pt2) X.env = pure (some [x, y]) := by rfl)
    (hs : swapsWithSole [.Tuple [.Name x px, .Name y py] kt pt] (.Tuple [a, b] k2 pt2) pos.line X.env = pure false := by rfl) :
    PSd X (.Assign [.Tuple [.Name x px, .Name y py] kt pt] (.Tuple [a, b] k2 pt2) pos) (tParD i j t) :=
  ps_imp (ps_par hc hN hi hj hij hx hy ha hw hs) fun D σ H ⟨en, Hf, F, E, Dd, S, h, k1, k2, k3, k4, k5⟩ => ⟨en, Hf, F, E, _, S, h, fun vs H1 Hf1 F1 E1 ds s1 S1 r1 h1 => by
    split at h1
    · cases r1 with | cons a1 l1 =>
      cases l1 with | cons a2 l2 =>
      cases l2
      exact ⟨_, _, rfl, k1 _ _ _ _ _ s1 ((S1.set h1.1 a1).set h1.2.1.set a2) h1.2.2⟩
    · exact h1.elim⟩
def tPar3D (i j l : Nat) (t : TAd) : TSd := fun D E => t E fun ds E1 => match ds with
  | [x, y, z] => canSet E1 i ∧ canSet E1 j ∧ canSet E1 l ∧ D.nx (((E1.set i (.fz x)).set j (.fz y)).set l (.fz z))
  | _ => False
/-- x += e, x -= e -/
def tAugD (i : Nat) (te : TEd) (rd : RD) : TSd := fun D E => held E i ∧ te E fun y E1 => match E1[i]? with
  | some (.fz x) => rd x y E1 fun z E2 => canSet E2 i ∧ D.nx (E2.set i (.fz z))
  | _ => False
theorem s_aug {i : Nat} {x : Str} {op : Operator} {r : R2} {rd : RD} {pos' : Pos} (hN : X.N.Nodup) (ho : OpR X (inplaceOp op) r) (hk : OpOk X.K r rd) (he : PEd X e te) (hi : X.N[i]? = some x := by rfl) (hx : Loc X.env.scope x := by first | exact .inl rfl | exact .inr rfl) (hf : X.fn x = true ∨ X.env.scope.names.lookup x = some .local := by first | exact .inl rfl | exact .inr rfl | assumption) :
    PSd X (.AugAssign (.Name x pos') op e pos) (tAugD i te rd) :=
  ps_imp (ps_aug (ti := fun x y H Q => r x y H Q) hN hi hx he (fun pins s σ H x y v u Q I rx ry q => ho pins s σ H x y v u Q I rx ry q) hf) fun D σ H ⟨en, Hf, F, E, Dd, S, h, k1, k2, k3, k4, k5⟩ => by
    obtain ⟨v, hv⟩ := h.1.val S
    refine ⟨v, hv, en, Hf, F, E, _, S, h.2, fun v1 H1 Hf1 F1 E1 y s1 S1 r1 h1 => ?_⟩
    split at h1
    · rename_i xd ex
      obtain ⟨v', e', r'⟩ := S1.get ex
      rw [hv] at e'
      cases e'
      exact hk en Hf1 H1 F1 E1 σ v v1 xd y _ _ S1 r' r1 h1 fun v2 H2 Hf2 F2 E2 z s2 S2 r2 h2 => k1 _ _ _ _ _ (s1.trans s2) (S2.set h2.1 r2) h2.2
    · exact h1.elim
theorem s_augAdd {i : Nat} {x : Str} {pos' : Pos} (hN : X.N.Nodup) (he : PEd X e te) (hi : X.N[i]? = some x := by rfl) (hx : Loc X.env.scope x := by first | exact .inl rfl | exact .inr rfl) (hf : X.fn x = true ∨ X.env.scope.names.lookup x = some .local := by first | exact .inl rfl | exact .inr rfl | assumption) :
    PSd X (.AugAssign (.Name x pos') .Add e pos) (tAugD i te (rdI0 fun i j => .int (i + j))) := s_aug hN iop_add (ok_I0 fun _ _ _ => .int _) he hi hx hf
/-- x = [..], a list that will be changed -/
def tLstO (i : Nat) (t : TAd) : TSd := fun D E => t E fun xs E1 => xs.length ≤ sizeLine ∧ canSet E1 i ∧ D.nx (E1.set i (.ow false (.ol xs)))
theorem s_newL {i : Nat} {x : Str} {pos' pl : Pos} (hN : X.N.Nodup) (h : PAd X es t) (hi : X.N[i]? = some x := by rfl) (hx : Loc X.env.scope x := by first | exact .inl rfl | exact .inr rfl) (hs : swapsWith (.List es pl) (some (.Name x pos')) pos.line X.env = pure false := by rfl) (hf : X.fn x = true ∨ X.env.scope.names.lookup x = some .local := by first | exact .inl rfl | exact .inr rfl | assumption) :
    PSd X (.Assign [.Name x pos'] (.List es pl) pos) (tLstO i t) :=
  ps_imp (ps_set hN hi hx (pe_lst h) hs hf) fun D σ H ⟨en, Hf, F, E, Dd, S, h, k1, k2, k3, k4, k5⟩ =>
    ⟨en, Hf, F, E, _, S, h, fun vs H1 Hf1 F1 E1 xs s1 S1 r1 h1 => ⟨by rw [r1.length]; exact h1.1, fun p np =>
      k1 _ _ _ _ _ s1 (S1.setNew (o := .ol xs) h1.2.1 np ⟨p, vs, rfl, rfl, upd_same, r1⟩) h1.2.2⟩⟩
/-- our own list in a slot is changed in its place -/
theorem Sat.chL {K : PySem.W.Frag} {en : Et} {Hf H : Hp} {F : Nat → List Addr} {E : En} {σ : St} (S : Sat K en Hf H F E σ) {i : Nat} {b : Bool} {xs : List D} (e : E[i]? = some (.ow b (.ol xs))) :
    ∃ p vs, σ[i]? = some (some (.ref p)) ∧ H p = some (.lst vs) ∧ RepL K Hf vs xs ∧ ∀ vs' xs', RepL K Hf vs' xs' → Sat K en Hf (upd H p (.lst vs')) F (E.set i (.ow b (.ol xs'))) σ := by
  obtain ⟨v, hv, ⟨p, vs, rfl, hF, hp, r⟩, _⟩ := S.own e
  have hm : p ∈ F i := by rw [hF]; simp
  obtain ⟨n1, _, _⟩ := S.fp i p hm
  refine ⟨p, vs, hv, hp, r, fun vs' xs' r' => S.change e hv (Same.refl _) (fun b u z => ?_) (fun q u nq z => ?_) (fun q u z => ?_) (fun _ _ z => .inl z) ⟨p, vs', rfl, hF, upd_same, r'⟩⟩
  · have nb : b ≠ p := fun q => by
      rw [q, n1] at z
      cases z
    rw [upd_ne nb]
    exact S.sf _ _ z
  · have nb : q ≠ p := fun y => nq (by rw [y]; exact hm)
    rw [upd_ne nb]
    exact z
  · by_cases y : q = p
    · subst y
      exact ⟨_, upd_same⟩
    · rw [upd_ne y]
      exact ⟨u, z⟩
def ownL (E : En) (j : Nat) : Prop := match E[j]? with
  | some (.ow _ (.ol _)) => True
  | _ => False
theorem ownL.ex {E : En} {j : Nat} (h : ownL E j) : ∃ b xs, E[j]? = some (.ow b (.ol xs)) := by
  unfold ownL at h
  split at h
  · rename_i b xs e
    exact ⟨b, xs, e⟩
  · exact h.elim
/-- x.append(e), x our own list -/
def tAppD (i : Nat) (te : TEd) : TSd := fun D E => ownL E i ∧ te E fun x E1 => match E1[i]? with
  | some (.ow b (.ol xs)) => xs.length < sizeLine ∧ D.nx (E1.set i (.ow b (.ol (xs ++ [x]))))
  | _ => False
theorem s_app (i : Nat) {x : Str} {p apos cpos : Pos} (he : PEd X e te) (hN : X.N[i]? = some x := by rfl) (hv : Vis X.env.scope x := by first | exact Or.inl rfl | exact Or.inr (Or.inl rfl) | exact Or.inr (Or.inr rfl))
    (hd : (x == ("__debug__" : Str)) = false := by decide) (hcd : (x == ("__classdict__" : Str)) = false := by decide)
    (hbase : attributeBase (.Name x p) "append" X.env (eval (.Name x p) X.env) = eval (.Name x p) X.env := by rfl)
    (hfew : ((backTo cpos (starEach [e] X.env)).all (fun x => !x.1) && (backToKw cpos (keywordEach [] X.env)).all (fun x => x.1.isSome)
      && decide ([e].length + ([] : List Keyword).length + (if ([] : List Keyword).isEmpty then 0 else 1) < 30)) = true := by rfl)
    (hline : (apos.endLine == cpos.line) = true := by rfl) (hs : starEach [e] X.env = [(false, eval e X.env)] := by rfl)
    (hsw : swapsWith (.Call (.Attribute (.Name x p) "append" apos) [e] [] cpos) none pos.line X.env = pure false := by rfl) :
    PSd X (.Expr (.Call (.Attribute (.Name x p) "append" apos) [e] [] cpos) pos) (tAppD i te) :=
  ps_imp (ps_expr (pe_bm PySem.F.plainAttrs_list PySem.F.slot_list_append PySem.F.type_list_append mt_append (pv i hN hv hd hcd) (pa_cons he pa_nil (by rw [hs]; rfl)) hbase hfew hline (by rw [hs]; rfl)) hsw) fun D σ H ⟨en, Hf, F, E, Dd, S, h, k1, k2, k3, k4, k5⟩ => by
    obtain ⟨b0, xs0, e0⟩ := h.1.ex
    obtain ⟨p0, vs0, hv0, hp0, _⟩ := S.chL e0
    refine ⟨_, hv0, .inl ⟨rfl, _, .inl (.inl hp0)⟩, en, Hf, F, E, _, S, h.2, fun v1 H1 Hf1 F1 E1 y s1 S1 r1 h1 => ?_⟩
    split at h1
    · rename_i b1 xs1 e1
      obtain ⟨p1, vs1, hv1, hp1, l1, ch⟩ := S1.chL e1
      rw [hv0] at hv1
      cases hv1
      exact ⟨_, _, _, rfl, rfl, hp1, by rw [l1.length]; exact h1.1, k1 _ _ _ _ _ s1 (ch _ _ (l1.append (.cons r1 .nil))) h1.2⟩
    · exact h1.elim
/-- x[i] = e, x our own list -/
def tPutD (j : Nat) (te ti : TEd) : TSd := fun D E => te E fun y E1 => ownL E1 j ∧ ti E1 fun z E2 => match E2[j]?, z with
  | some (.ow b (.ol xs)), .int n => ∃ m, ixN xs.length n = some m ∧ D.nx (E2.set j (.ow b (.ol (xs.set m y))))
  | _, _ => False
end
end L3
namespace L3
open PySem L2
variable [Tbs]
section
variable {X : Cx} {tg iter : Expr}
/-- a list or a tuple is walked -/
def iSeq (K : PySem.W.Frag) (tl : TE) : TI := fun σ H R => tl σ H fun x H1 => ∃ a, x = .ref a ∧ (((∃ xs, SqL K H1 a xs) ∧ R (Itl K a) H1) ∨ ((∃ xs, SqT K H1 a xs) ∧ R (Itt K a) H1))
theorem pi_seq {l : Expr} {tl : TE} (hl : PE X l tl) : PI X tg l (iSeq X.K tl) := by
  refine ⟨fun pins s σ H R I h => ?_⟩
  refine thn (hl.run pins s σ H _ I h) fun v s1 ⟨x, H1, I1, r1, q1⟩ => ?_
  obtain ⟨a, e, q⟩ := q1
  subst e
  cases r1
  rcases q with ⟨⟨xs, hq⟩, q⟩ | ⟨⟨xs, hq⟩, q⟩
  · obtain ⟨its, rv, p, hz⟩ := I1.list hq
    refine wpAny_pyIter_list p.isList ?_
    refine ⟨s1.heap.objs.size, [s1.heap.objs.size], _, _, H1, rfl, I1.kept (t' := s1.toks) fun b o e => Heap.get?_push_of_some _ e, turn_list a _, ⟨_, Heap.get?_push_size _ rfl, rfl, rfl⟩, fun b hb => ?_, q⟩
    obtain rfl : b = s1.heap.objs.size := by simpa using hb
    exact I1.fpOk (Nat.le_refl _) (I1.hok.fresh (Nat.le_refl _))
  · obtain ⟨its, rv, p, hz⟩ := I1.tuple hq
    refine wpAny_pyIter_tuple (show s1.heap.IsTuple a its.toArray from p) ?_
    refine ⟨s1.heap.objs.size, [s1.heap.objs.size], _, _, H1, rfl, I1.kept (t' := s1.toks) fun b o e => Heap.get?_push_of_some _ e, turn_tuple a _, ⟨_, Heap.get?_push_size _ rfl, rfl, rfl⟩, fun b hb => ?_, q⟩
    obtain rfl : b = s1.heap.objs.size := by simpa using hb
    exact I1.fpOk (Nat.le_refl _) (I1.hok.fresh (Nat.le_refl _))
end
section
variable {X : Cx} {a b c e tg iter : Expr} {es : List Expr} {ta tb tc te : TEd} {tA tB : TTd} {t : TAd} {g : TGd} {pos : Pos} {body : List Stmt} {u w : TSd}
def D.items : D → Option (List D)
  | .lst xs => some xs
  | .tup xs => some xs
  | _ => none
/-- the walk J yields what stands for xs, told by the frozen heap alone -/
structure JOk (K : PySem.W.Frag) (Hf : Hp) (J : It) (xs : List D) : Prop where
  go : ∀ i H', Same Hf H' → i < xs.length → J.go i H'
  stop : ∀ H', Same Hf H' → J.stop xs.length H'
  yld : ∀ i H1 v H2, Same Hf H1 → i < xs.length → J.yld i H1 v H2 → ∃ d, xs[i]? = some d ∧ ((H2 = H1 ∧ Rep K Hf v d) ∨ ∃ p o, v = .ref p ∧ H1 p = none ∧ H2 = upd H1 p o ∧ ∀ Hf', Same Hf Hf' → Hf' p = some o → Rep K Hf' v d)
theorem JOk.mono {K : PySem.W.Frag} {Hf Hf' : Hp} {J : It} {xs : List D} (h : JOk K Hf J xs) (s : Same Hf Hf') : JOk K Hf' J xs where
  go := fun i H' s' hi => h.go i H' (s.trans s') hi
  stop := fun H' s' => h.stop H' (s.trans s')
  yld := fun i H1 v H2 s1 hi y => by
    obtain ⟨d, e, q⟩ := h.yld i H1 v H2 (s.trans s1) hi y
    refine ⟨d, e, ?_⟩
    rcases q with ⟨q1, q2⟩ | ⟨p, o, q1, q2, q3, q4⟩
    · exact .inl ⟨q1, q2.mono s⟩
    · exact .inr ⟨p, o, q1, q2, q3, fun Hf2 s2 => q4 Hf2 (s.trans s2)⟩
/-- an item comes: the state behind it -/
theorem JOk.item {K : PySem.W.Frag} {Hf0 Hf : Hp} {J : It} {xs : List D} {en : Et} {H H2 : Hp} {F : Nat → List Addr} {E : En} {σ : St} {i : Nat} {v : V} (h : JOk K Hf0 J xs) (s0 : Same Hf0 Hf) (S : Sat K en Hf H F E σ) (hi : i < xs.length) (y : J.yld i H v H2) :
    ∃ d Hf', xs[i]? = some d ∧ Same Hf Hf' ∧ Sat K en Hf' H2 F E σ ∧ Rep K Hf' v d := by
  obtain ⟨d, e, q⟩ := h.yld i H v H2 (s0.trans S.sf) hi y
  rcases q with ⟨rfl, q2⟩ | ⟨p, o, rfl, q2, rfl, q4⟩
  · exact ⟨d, Hf, e, Same.refl _, S, q2.mono s0⟩
  · have s2 : Same Hf (upd Hf p o) := same_upd (S.sf.free q2)
    exact ⟨d, upd Hf p o, e, s2, S.new o q2, q4 _ (s0.trans s2) upd_same⟩
abbrev TId := En → (List D → En → Prop) → Prop
def liftI (K : PySem.W.Frag) (t : TId) : TI := fun σ H R => ∃ en Hf F E Qd, Sat K en Hf H F E σ ∧ t E Qd ∧
  ∀ J H' Hf' F' E' xs, Same Hf Hf' → Sat K en Hf' H' F' E' σ → JOk K Hf' J xs → Qd xs E' → R J H'
abbrev PId (X : Cx) (tg iter : Expr) (t : TId) : Prop := PI X tg iter (liftI X.K t)
theorem pi_imp {tg iter : Expr} {t t' : TI} (h : PI X tg iter t) (i : ∀ σ H R, t' σ H R → t σ H R) : PI X tg iter t' := ⟨fun pins s σ H R I q => h.run pins s σ H R I (i σ H R q)⟩
theorem getE {α : Type} {xs : List α} {i : Nat} (h : i < xs.length) : ∃ d, xs[i]? = some d := ⟨xs[i], by simp [h]⟩
/-- a list, a tuple -/
def iSeqD (te : TEd) : TId := fun E Q => te E fun x E1 => match x.items with
  | some xs => Q xs E1
  | none => False
theorem i_seq (he : PEd X iter te) : PId X tg iter (iSeqD te) :=
  pi_imp (pi_seq he) fun σ H R ⟨en, Hf, F, E, Qd, S, h, k⟩ => ⟨en, Hf, F, E, _, S, h, fun v1 H1 Hf1 F1 E1 x s1 S1 r1 h1 => by
    split at h1
    · rename_i xs ex
      cases r1 with
      | lst q l =>
        cases ex
        have hq : ∀ H', Same Hf1 H' → SqL X.K H' _ _ := fun H' s => .inl (.inl (s _ _ q))
        refine ⟨_, rfl, .inl ⟨⟨_, hq _ S1.sf⟩, k _ _ _ _ _ _ s1 S1 ⟨fun i H' s hi => ?_, fun H' s => ⟨_, hq _ s, Nat.le_of_eq l.length⟩, fun i H2 v H3 s hi y => ?_⟩ h1⟩⟩
        · obtain ⟨d, ed⟩ := getE hi
          obtain ⟨v, ev, _⟩ := l.get ed
          exact ⟨_, v, hq _ s, ev⟩
        · obtain ⟨d, ed⟩ := getE hi
          obtain ⟨v', ev, rv⟩ := l.get ed
          have := y.2 _ (hq _ s)
          rw [ev] at this
          cases this
          exact ⟨d, ed, .inl ⟨y.1, rv⟩⟩
      | tup q l =>
        cases ex
        have hq : ∀ H', Same Hf1 H' → SqT X.K H' _ _ := fun H' s => Same.sqT s q
        refine ⟨_, rfl, .inr ⟨⟨_, hq _ S1.sf⟩, k _ _ _ _ _ _ s1 S1 ⟨fun i H' s hi => ?_, fun H' s => ⟨_, hq _ s, Nat.le_of_eq l.length⟩, fun i H2 v H3 s hi y => ?_⟩ h1⟩⟩
        · obtain ⟨d, ed⟩ := getE hi
          obtain ⟨v, ev, _⟩ := l.get ed
          exact ⟨_, v, hq _ s, ev⟩
        · obtain ⟨d, ed⟩ := getE hi
          obtain ⟨v', ev, rv⟩ := l.get ed
          have := y.2 _ (hq _ s)
          rw [ev] at this
          cases this
          exact ⟨d, ed, .inl ⟨y.1, rv⟩⟩
      | _ => cases ex
    · exact h1.elim⟩
/-- lo, lo + 1, .. (n of them) as data -/
def rngD (lo : Int) (n : Nat) : List D := (List.range n).map fun (i : Nat) => D.int (lo + i)
theorem rngD_len (lo : Int) (n : Nat) : (rngD lo n).length = n := by unfold rngD; simp
theorem rngD_get {lo : Int} {n i : Nat} (h : i < n) : (rngD lo n)[i]? = some (.int (lo + i)) := by unfold rngD; simp [h]
theorem rngD_inv {lo : Int} {n i : Nat} {d : D} (h : (rngD lo n)[i]? = some d) : i < n ∧ d = .int (lo + i) := by
  have hi : i < n := by
    have := (List.getElem?_eq_some_iff.mp h).1
    rw [rngD_len] at this
    exact this
  rw [rngD_get hi] at h
  exact ⟨hi, (Option.some.inj h).symm⟩
theorem rng_ok {K : PySem.W.Frag} {Hf : Hp} (lo : Int) (n : Nat) : JOk K Hf (Itr lo n) (rngD lo n) where
  go := fun i H' _ hi => by
    rw [rngD_len] at hi
    exact hi
  stop := fun H' _ => by
    show n ≤ _
    rw [rngD_len]
    exact Nat.le_refl _
  yld := fun i H1 v H2 _ hi y => by
    rw [rngD_len] at hi
    obtain ⟨e1, e2⟩ := y
    subst e2
    exact ⟨_, rngD_get hi, .inl ⟨e1, .int _⟩⟩
def iRng1D (te : TAd) : TId := fun E Q => te E fun xs E1 => match xs with
  | [.int n] => (-(2 ^ 62) ≤ n ∧ n < 2 ^ 62) ∧ Q (rngD 0 n.toNat) E1
  | _ => False
def iRng2D (te : TAd) : TId := fun E Q => te E fun xs E1 => match xs with
  | [.int m, .int n] => (-(2 ^ 62) ≤ m ∧ m < 2 ^ 62 ∧ -(2 ^ 62) ≤ n ∧ n < 2 ^ 62) ∧ Q (rngD m (n - m).toNat) E1
  | _ => False
theorem i_range1 {p p2 : Pos} (hm : X.mg "range" = none) (ha : PAd X [a] t) (hg : Gl X "range" := by rfl) (hs : starEach [a] X.env = [(false, eval a X.env)] := by rfl) : PId X tg (.Call (.Name "range" p) [a] [] p2) (iRng1D t) :=
  pi_imp (pi_range1 hg hm ha hs) fun σ H R ⟨en, Hf, F, E, Qd, S, h, k⟩ => ⟨en, Hf, F, E, _, S, h, fun v1 H1 Hf1 F1 E1 x s1 S1 r1 h1 => by
    split at h1
    · cases r1 with | cons a1 l1 =>
      cases l1
      cases a1
      exact ⟨_, rfl, h1.1.1, h1.1.2, k _ _ _ _ _ _ s1 S1 (rng_ok _ _) h1.2⟩
    · exact h1.elim⟩
/-- the turns of a for over the data xs -/
def forD (xs : List D) (g : TGd) (u : TSd) (D : EndsD) (E : En) : Prop := ∃ P : Nat → En → Prop, P 0 E ∧
  (∀ i y E, xs[i]? = some y → P i E → g y E fun E2 => u { nx := P (i + 1), ct := P (i + 1), bk := D.nx, rt := D.rt, ex := D.ex } E2) ∧ ∀ E, P xs.length E → D.nx E
def tForD (ti : TId) (g : TGd) (u : TSd) : TSd := fun D E => ti E fun xs E1 => forD xs g u D E1
theorem s_for {ti : TId} (hp : PassesOwn (model X.prog X.w) X.A X.env X.xe) (hc : X.calm = true) (hi : PId X tg iter ti) (hg : PGd X tg g) (hb : PBd X body u) (hs : ∀ x, foldedSetIterable iter X.env x = pure x := by intro _; rfl) : PSd X (.For tg iter body [] pos) (tForD ti g u) :=
  ps_imp (ps_for hp hc hi hg hb hs) fun D σ0 H0 ⟨en, Hf0, F0, E0, Dd, S0, h, j1, j2, j3, j4, j5⟩ => ⟨en, Hf0, F0, E0, _, S0, h, fun J H Hf F E xs sa S jo hf => by
    have k1 : ∀ σ' H' Hf' F' E', Same Hf Hf' → Sat X.K en Hf' H' F' E' σ' → Dd.nx E' → D.nx σ' H' := fun _ _ _ _ _ s2 => j1 _ _ _ _ _ (sa.trans s2)
    have k4 : ∀ v σ' H' Hf' F' E' d, Same Hf Hf' → Sat X.K en Hf' H' F' E' σ' → Rep X.K Hf' v d → Dd.rt d E' → D.rt v H' := fun _ _ _ _ _ _ _ s2 => j4 _ _ _ _ _ _ _ (sa.trans s2)
    obtain ⟨P, p0, ps, pd⟩ := hf
    refine ⟨fun i m σ H => m = xs.length - i ∧ i ≤ xs.length ∧ ∃ Hf' F' E', Same Hf Hf' ∧ Sat X.K en Hf' H F' E' σ ∧ P i E', ⟨xs.length, by simp, Nat.zero_le _, Hf, F, E, Same.refl _, S, p0⟩, ?_⟩
    rintro i m σ1 H1 ⟨rfl, hi, Hf1, F1, E1, s1, S1, p1⟩
    have sH : Same Hf H1 := s1.trans S1.sf
    by_cases hlt : i < xs.length
    · refine .inr ⟨jo.go i H1 sH hlt, fun σ' H' => ∃ Hf' F' E', Same Hf Hf' ∧ Sat X.K en Hf' H' F' E' σ' ∧ P (i + 1) E', fun σ' H' q => ⟨xs.length - (i + 1), by omega, rfl, hlt, q⟩, fun x H' y => ?_⟩
      obtain ⟨d, Hfx, ed, sx, Sx, rx⟩ := jo.item s1 S1 hlt y
      have s1x := s1.trans sx
      refine ⟨en, Hfx, F1, E1, d, _, Sx, rx, ps i d E1 ed p1, fun σ2 H2 Hf2 F2 E2 s2 S2 q2 => ?_⟩
      refine ⟨en, Hf2, F2, E2, _, S2, q2, fun σ3 H3 Hf3 F3 E3 s3 S3 q3 => ⟨Hf3, F3, E3, (s1x.trans s2).trans s3, S3, q3⟩, fun σ3 H3 Hf3 F3 E3 s3 S3 q3 => k1 _ _ _ _ _ ((s1x.trans s2).trans s3) S3 q3,
        fun σ3 H3 Hf3 F3 E3 s3 S3 q3 => ⟨Hf3, F3, E3, (s1x.trans s2).trans s3, S3, q3⟩, fun v σ3 H3 Hf3 F3 E3 d3 s3 S3 r3 q3 => k4 _ _ _ _ _ _ _ ((s1x.trans s2).trans s3) S3 r3 q3, fun _ _ _ _ _ _ _ _ s3 => j5 _ _ _ _ _ _ _ _ (sa.trans ((s1x.trans s2).trans s3))⟩
    · obtain rfl : i = xs.length := by omega
      exact .inl ⟨jo.stop H1 sH, k1 _ _ _ _ _ s1 S1 (pd E1 p1)⟩⟩
/-- while -/
def tWhileD (tA : TTd) (u : TSd) : TSd := fun D E => ∃ P : Nat → En → Prop, (∃ m, P m E) ∧ ∀ m E, P m E → tA E fun k E1 =>
  if k = true then u { nx := fun E2 => ∃ m', m' < m ∧ P m' E2, ct := fun E2 => ∃ m', m' < m ∧ P m' E2, bk := D.nx, rt := D.rt, ex := D.ex } E1 else D.nx E1
theorem s_while (hp : PassesOwn (model X.prog X.w) X.A X.env X.xe) (hc : PTd X c tA) (hb : PBd X body u) : PSd X (.While c body [] pos) (tWhileD tA u) :=
  ps_imp (ps_while hp hc hb) fun D σ H ⟨en, Hf, F, E, Dd, S, ⟨P, ⟨m0, p0⟩, ps⟩, k1, k2, k3, k4, k5⟩ => by
    refine ⟨fun m σ H => ∃ Hf' F' E', Same Hf Hf' ∧ Sat X.K en Hf' H F' E' σ ∧ P m E', ⟨m0, Hf, F, E, Same.refl _, S, p0⟩, ?_⟩
    rintro m σ1 H1 ⟨Hf1, F1, E1, s1, S1, p1⟩
    refine ⟨en, Hf1, F1, E1, _, S1, ps m E1 p1, fun b H2 Hf2 F2 E2 s2 S2 q2 => ?_⟩
    cases b with
    | true =>
      refine ⟨fun σ' H' => ∃ m', m' < m ∧ ∃ Hf' F' E', Same Hf Hf' ∧ Sat X.K en Hf' H' F' E' σ' ∧ P m' E', fun σ' H' q => q, ?_⟩
      exact ⟨en, Hf2, F2, E2, _, S2, q2, fun σ3 H3 Hf3 F3 E3 s3 S3 ⟨m', l, q3⟩ => ⟨m', l, Hf3, F3, E3, (s1.trans s2).trans s3, S3, q3⟩, fun σ3 H3 Hf3 F3 E3 s3 S3 q3 => k1 _ _ _ _ _ ((s1.trans s2).trans s3) S3 q3,
        fun σ3 H3 Hf3 F3 E3 s3 S3 ⟨m', l, q3⟩ => ⟨m', l, Hf3, F3, E3, (s1.trans s2).trans s3, S3, q3⟩, fun v σ3 H3 Hf3 F3 E3 d3 s3 S3 r3 q3 => k4 _ _ _ _ _ _ _ ((s1.trans s2).trans s3) S3 r3 q3, fun _ _ _ _ _ _ _ _ s3 => k5 _ _ _ _ _ _ _ _ ((s1.trans s2).trans s3)⟩
    | false => exact k1 _ _ _ _ _ (s1.trans s2) S2 q2
end

structure FnG (P : Program) (w : World) (K : PySem.W.Frag) (mg : Str → Option Value) (base : Heap) (CX : CXT) (k : Nat) (f : Addr) (fd : FuncData) (ps : List Str) (sp : Sp) : Prop where
  len : ∀ vs H Q E, sp vs H Q E → vs.length = ps.length
  run : ∀ (A : Around), A.guards = some [] → Room k A → ∀ (outer : List Env) (s : Shared) (H : Hp) (args : Args) (us : List Value) (vs : List V) (Q : VK) (E : XK), Env0 P w K mg base A outer s H → BindsTo s fd args (ps.zip us) → Vals vs us → sp vs H Q E →
    codeAny (model P w) A (.call (.ref f) args) (CR CX outer P w H s Q E) s
theorem FnG.mono {P : Program} {w : World} {K : PySem.W.Frag} {mg : Str → Option Value} {base : Heap} {CX : CXT} {j k : Nat} {f : Addr} {fd : FuncData} {ps : List Str} {sp : Sp} (F : FnG P w K mg base CX j f fd ps sp) (h : j ≤ k) : FnG P w K mg base CX k f fd ps sp :=
  ⟨F.len, fun A hg hr => F.run A hg (hr.mono h)⟩
section
variable {X : Cx} {CX : CXT} {k : Nat} {f : Addr} {fd : FuncData} {ps : List Str} {sp : Sp} {E : XK} {x : Str} {p pos : Pos} {e : Expr} {es : List Expr} {t : TA}
theorem run_G {pins : List (Addr × Obj)} {σ : St} {H : Hp} {s : Shared} {Q : VK} {us : List Value} {vs : List V} (F : FnG X.prog X.w X.K X.mg X.base CX k f fd ps sp) (hgd : X.A.guards = some []) (hr : Room k X.A) (hb : Binds X.K fd ps []) (hx : Passes CX X E)
    (I : Inv X pins σ H s) (r : Vals vs us) (h : sp vs H Q E) : wpAny (model X.prog X.w) X.A (call (.ref f) us) (EP X pins σ Q) X.xe s := by
  have lu : us.length = ps.length := r.length.symm.trans (F.len _ _ _ _ h)
  have bt : BindsTo s fd ⟨us, []⟩ (ps.zip us) := by
    have z := hb s us I.kIn (by rw [List.append_nil]; exact lu)
    rw [List.append_nil] at z
    exact z
  have main := F.run X.A hgd hr X.stack s H ⟨us, []⟩ us vs Q E I.env0 bt r h
  refine wpAny_call (codeAny_mono main fun res s' q => ?_)
  match res, q with
  | .error err, q => exact hx pins σ H s err s' I q
  | .ok (.ret u), q => exact I.after q
theorem pe_callG (F : FnG X.prog X.w X.K X.mg X.base CX k f fd ps sp) (hgd : X.A.guards = some []) (hr : Room k X.A) (hg : Gl X x) (hm : X.mg x = some (.ref f)) (hk : PySem.W.keepIn X.K (.ref f) = true) (hb : Binds X.K fd ps []) (hx : Passes CX X E) (ha : PA X (e :: es) t)
    (hdb : (x == ("__debug__" : Str)) = false := by decide) (he : starEach (e :: es) X.env = (false, eval e X.env) :: starEach es X.env := by rfl) (hpl : (backTo pos (starEach es X.env)).any (·.1) = false := by rfl) :
    PE X (.Call (.Name x p) (e :: es) [] pos) (fun σ H Q => t σ H fun vs H1 => sp vs H1 Q E) :=
  ⟨fun pins s σ H Q I h => wpAny_Call_Name_kw (ld_glob I hg hm (PySem.W.callWith_K (h₀ := X.base) I.ok.mod.kin hk
    (thn (ha.run pos pins s σ H _ I h) fun us s1 ⟨vs, H1, I1, r, q⟩ => ⟨I1.kIn, run_G F hgd hr hb hx I1 r q⟩) he hpl) hdb)⟩
end
section
variable {P : Program} {w : World} {K : PySem.W.Frag} {mg : Str → Option Value} {base : Heap}
/-- a def keeps its promise if its body does -/
theorem FnG.body {CX : CXT} {x qual : Str} {st : Stmt} {f : Addr} {fd : FuncData} {N ps : List Str} {k : Nat} {sp : Sp} (F : Fun K x qual st f fd) (S : FnScope N ps (defScope st)) (len : ∀ vs H Q E, sp vs H Q E → vs.length = ps.length)
    (hb : ∀ (cdv : Value) (A : Around) (outer : List Env) (s : Shared) (H : Hp) (vs : List V) (Q : VK) (E : XK), A.guards = some [] → Room k (A.deeper (PyProof.Rows.envOfC qual (defScope st) s.heap.objs.size f cdv)) → sp vs H Q E →
      ∃ t, PSs (cxOf CX P w K mg base N qual (defScope st) f cdv A outer s H E) (defBody st) t ∧ t { nx := fun _ H' => Q .non H', rt := Q } (L2.start N vs) H) : FnG P w K mg base CX (k + 1) f fd ps sp := by
  obtain ⟨oc, od, kV, doc, pm, an, cdv, ct, osl, efd, lk, hcd⟩ := F.ex
  subst efd
  refine ⟨len, fun A hg hr outer s H args us vs Q E e0 bt r h => ?_⟩
  have keepB : ∀ b o, base.get? b = some o → s.heap.get? b = some o := fun b o e => (e0.bs b o e).1
  have kin : K.In s.heap := e0.mod.kin.keeps keepB
  refine codeAny_call_function hr.depth (kin _ _ lk) rfl S.co S.gen rfl (PySem.W.codeRec_of kin hcd) (bt _ _ _ _ ?_)
  refine wpAny_newFunctionEnv_cells S.kind (fun y hy => ?_) fun env he s1 xc => ?_
  · rcases S.par y.1 (List.of_mem_zip hy).1 with q | q
    · exact .inl q
    · exact .inr ⟨q, PySem.W.cellsFrom_some _ _ _ (.inl q)⟩
  · subst he
    obtain ⟨t, ht, hq⟩ := hb cdv A outer s H vs Q E hg (hr.deeper _) h
    have I0 : Inv (cxOf CX P w K mg base N qual (defScope st) f cdv A outer s H E) [] (L2.start N vs) H s1 := inv_start S hr.hd e0 (len _ _ _ _ h) r xc
    refine ⟨(e0.mod.nolimit.keeps keepB).keeps xc.toInCall.keep, codeAny_func (wpAny_mono (ht.run [] s1 _ H _ I0 hq) (fun fl s' hs => ?_) fun _ _ z => z)⟩
    match fl, hs with
    | .ret u, ⟨v, σ', H', J, rv, q⟩ => exact ⟨v, H', J.os, J.bare, J.base, J.hok, rv, q⟩
    | .next, ⟨σ', H', J, q⟩ => exact ⟨.non, H', J.os, J.bare, J.base, J.hok, rfl, q⟩
    | .brk, ⟨_, _, _, q⟩ => exact q.elim
    | .cont, ⟨_, _, _, q⟩ => exact q.elim
end

/-- a def whose arguments are data -/
abbrev SpP := List D → (D → Prop) → Prop
def liftP (K : PySem.W.Frag) (sp : SpP) : Sp := fun vs H Q _ => ∃ Hf ds Qd, Same Hf H ∧ RepL K Hf vs ds ∧ sp ds Qd ∧
  ∀ v H' Hf' d, Same Hf Hf' → Same Hf' H' → Same H H' → (∀ p o, Hf' p = some o → Hf p = some o ∨ H p = none) → Rep K Hf' v d → Qd d → Q v H'
/-- a def whose first argument is a thing that it may change -/
abbrev SpO := Ow → List D → (D → Ow → Prop) → Prop
def liftOw (K : PySem.W.Frag) (sp : SpO) : Sp := fun vs H Q _ => ∃ Hf v0 ws o fp ds Qd, vs = v0 :: ws ∧ Same Hf H ∧ OwRep K Hf H v0 o fp ∧ (∀ p ∈ fp, Hf p = none) ∧ RepL K Hf ws ds ∧ sp o ds Qd ∧
  ∀ v H' Hf' d o' fp', Same Hf Hf' → Same Hf' H' → (∀ p u, p ∉ fp → H p = some u → H' p = some u) → (∀ p u, H p = some u → ∃ u', H' p = some u') → (∀ p u, Hf' p = some u → Hf p = some u ∨ H p = none) →
    (∀ p ∈ fp', Hf' p = none ∧ (p ∈ fp ∨ H p = none)) → OwRep K Hf' H' v0 o' fp' → Rep K Hf' v d → Qd d o' → Q v H'
section
variable {X : Cx} {CX : CXT} {k : Nat} {f : Addr} {fd : FuncData} {ps : List Str} {sp : SpP} {so : SpO} {E : XK} {x : Str} {p pos : Pos} {e : Expr} {es : List Expr} {t : TAd}
def tCallD (sp : SpP) (t : TAd) : TEd := fun E Q => t E fun ds E1 => sp ds fun d => Q d E1
theorem d_call (F : FnG X.prog X.w X.K X.mg X.base CX k f fd ps (liftP X.K sp)) (hgd : X.A.guards = some []) (hr : Room k X.A) (hm : X.mg x = some (.ref f)) (hk : PySem.W.keepIn X.K (.ref f) = true) (hb : Binds X.K fd ps []) (hx : Passes CX X E)
    (ha : PAd X (e :: es) t) (hg : Gl X x := by rfl) (hdb : (x == ("__debug__" : Str)) = false := by decide) (he : starEach (e :: es) X.env = (false, eval e X.env) :: starEach es X.env := by rfl) (hpl : (backTo pos (starEach es X.env)).any (·.1) = false := by rfl) :
    PEd X (.Call (.Name x p) (e :: es) [] pos) (tCallD sp t) :=
  pe_imp (pe_callG F hgd hr hg hm hk hb hx ha hdb he hpl) fun σ H Q ⟨en, Hf, F, E, Qd, S, h, k⟩ => ⟨en, Hf, F, E, _, S, h, fun vs H1 Hf1 F1 E1 ds s1 S1 r1 h1 => by
    exact ⟨Hf1, ds, _, S1.sf, r1, h1, fun v H' Hf' d s2 s3 s4 g r q => k _ _ _ _ _ _ (s1.trans s2) (S1.grow s2 s3 s4 g) r q⟩⟩
/-- f(x, ..), x (slot j) a thing of ours, or lent to us -/
def tCallO (j : Nat) (so : SpO) (t : TAd) : TEd := fun E Q => held E j ∧ t E fun ds E1 => match E1[j]? with
  | some (.ow b o) => so o ds fun d o' => Q d (E1.set j (.ow b o'))
  | _ => False
theorem d_callO (j : Nat) {y : Str} {py : Pos} (F : FnG X.prog X.w X.K X.mg X.base CX k f fd ps (liftOw X.K so)) (hgd : X.A.guards = some []) (hr : Room k X.A) (hm : X.mg x = some (.ref f)) (hk : PySem.W.keepIn X.K (.ref f) = true) (hb : Binds X.K fd ps []) (hx : Passes CX X E)
    (ha : PAd X es t) (hN : X.N[j]? = some y := by rfl) (hv : Vis X.env.scope y := by first | exact Or.inl rfl | exact Or.inr (Or.inl rfl) | exact Or.inr (Or.inr rfl))
    (hyd : (y == ("__debug__" : Str)) = false := by decide) (hyc : (y == ("__classdict__" : Str)) = false := by decide) (hg : Gl X x := by rfl) (hdb : (x == ("__debug__" : Str)) = false := by decide)
    (he : starEach (.Name y py :: es) X.env = (false, eval (.Name y py) X.env) :: starEach es X.env := by rfl) (hpl : (backTo pos (starEach es X.env)).any (·.1) = false := by rfl) :
    PEd X (.Call (.Name x p) (.Name y py :: es) [] pos) (tCallO j so t) :=
  pe_imp (pe_callG F hgd hr hg hm hk hb hx (pa_cons (pv j hN hv hyd hyc) ha he) hdb he hpl) fun σ H Q ⟨en, Hf, F, E, Qd, S, h, k⟩ => by
    obtain ⟨v0, hv0⟩ := h.1.val S
    refine ⟨v0, hv0, en, Hf, F, E, _, S, h.2, fun vs H1 Hf1 F1 E1 ds s1 S1 r1 h1 => ?_⟩
    split at h1
    · rename_i b o eo
      obtain ⟨v1, hv1, ro, hl⟩ := S1.own eo
      rw [hv0] at hv1
      cases hv1
      exact ⟨Hf1, v0, vs, o, F1 j, ds, _, rfl, S1.sf, ro, fun q hq => (S1.fp j q hq).1, r1, h1, fun v H' Hf' d o' fp' s2 s3 s4 dm g nf ro' r q =>
        k _ _ _ _ _ _ (s1.trans s2) (S1.changeF eo hv0 s2 s3 s4 dm g nf ro') r q⟩
    · exact h1.elim
end

def noHp : Hp := fun _ => none
/-- the slots at the entry -/
def startD (N : List Str) (ds : List Sl) : En := ds ++ List.replicate (N.length - ds.length) .un
section
variable {P : Program} {w : World} {K : PySem.W.Frag} {mg : Str → Option Value} {base : Heap}
theorem start_at {N : List Str} {vs : List V} {i : Nat} {v : V} (h : vs[i]? = some v) : (start N vs)[i]? = some (some v) := by
  unfold L2.start
  obtain ⟨hi, e⟩ := List.getElem?_eq_some_iff.mp h
  rw [List.getElem?_append_left (by rw [List.length_map]; exact hi), List.getElem?_map, h]
  rfl
theorem fn_pure {x qual : Str} {st : Stmt} {f : Addr} {fd : FuncData} {N ps : List Str} {k : Nat} {sp : SpP} (F : Fun K x qual st f fd) (S : FnScope N ps (defScope st)) (hN : ps.length ≤ N.length) (len : ∀ ds Q, sp ds Q → ds.length = ps.length)
    (hbody : ∃ t : TSd, (∀ (cdv : Value) (A : Around) (outer : List Env) (s : Shared) (H : Hp) (E : XK), A.guards = some [] → Room k (A.deeper (PyProof.Rows.envOfC qual (defScope st) s.heap.objs.size f cdv)) →
      PBd (cxOf CX0 P w K mg base N qual (defScope st) f cdv A outer s H E).nox (defBody st) t) ∧
      ∀ ds Q, sp ds Q → t { nx := fun _ => Q .non, rt := fun d _ => Q d } (startD N (ds.map .fz))) : FnG P w K mg base CX0 (k + 1) f fd ps (liftP K sp) := by
  obtain ⟨t, hd, hq⟩ := hbody
  refine FnG.body F S (fun vs H Q E ⟨Hf, ds, Qd, _, r, h, _⟩ => by rw [r.length]; exact len _ _ h) (fun cdv A outer s H vs Q E hgd hr ⟨Hf, ds, Qd, sf, r, h, kk⟩ => ⟨_, (hd cdv A outer s H E hgd hr).nox, ?_⟩)
  have hl := len _ _ h
  have hlen : (start N vs).length = (startD N (ds.map .fz)).length := by
    unfold L2.start startD
    simp only [List.length_append, List.length_map, List.length_replicate, r.length]
  refine ⟨⟨H, Hf, fun _ => [], fun _ => .non, noHp⟩, Hf, fun _ => [], startD N (ds.map .fz), _, ?_, hq ds Qd h, fun σ' H' Hf' F' E' s1 S1 q => ?_, fun _ _ _ _ _ _ _ q => q.elim, fun _ _ _ _ _ _ _ q => q.elim, fun v σ' H' Hf' F' E' d s1 S1 r1 q => ?_, fun _ _ _ _ _ _ _ _ _ _ _ q => q.elim⟩
  · refine { sf := sf, so := fun p o _ a => a, dom := fun p o a => ⟨o, a⟩, sp := fun p o a => (nomatch a), pf := fun p o a => (nomatch a), gf := Same.refl _, gn := fun p o a => .inl a, dj := fun i j p a => (nomatch a), fp := fun i p a => (nomatch a), len := hlen, sl := fun i sl e => ?_ }
    unfold startD at e
    by_cases hi : i < ds.length
    · rw [List.getElem?_append_left (by rw [List.length_map]; exact hi), List.getElem?_map] at e
      obtain ⟨d, ed⟩ := getE hi
      rw [ed] at e
      cases e
      obtain ⟨v, ev, rv⟩ := r.get ed
      exact ⟨v, start_at ev, rv⟩
    · rw [List.getElem?_append_right (by rw [List.length_map]; omega)] at e
      have e2 := List.mem_of_getElem? e
      rw [List.eq_of_mem_replicate e2]
      trivial
  · exact kk .non H' Hf' .non s1 S1.sf (fun p o a => S1.so p o (fun _ z => nomatch z) a) (fun p o a => S1.gn p o a) .non q
  · exact kk v H' Hf' d s1 S1.sf (fun p o a => S1.so p o (fun _ z => nomatch z) a) (fun p o a => S1.gn p o a) r1 q
theorem fn_own {x qual : Str} {st : Stmt} {f : Addr} {fd : FuncData} {N ps : List Str} {k : Nat} {so : SpO} (F : Fun K x qual st f fd) (S : FnScope N ps (defScope st)) (len : ∀ o ds Q, so o ds Q → ds.length + 1 = ps.length)
    (hbody : ∃ t : TSd, (∀ (cdv : Value) (A : Around) (outer : List Env) (s : Shared) (H : Hp) (E : XK), A.guards = some [] → Room k (A.deeper (PyProof.Rows.envOfC qual (defScope st) s.heap.objs.size f cdv)) →
      PBd (cxOf CX0 P w K mg base N qual (defScope st) f cdv A outer s H E).nox (defBody st) t) ∧
      ∀ o ds Q, so o ds Q → t { nx := fun E => ∃ o', E[0]? = some (.ow true o') ∧ Q .non o', rt := fun d E => ∃ o', E[0]? = some (.ow true o') ∧ Q d o' } (startD N (.ow true o :: ds.map .fz))) : FnG P w K mg base CX0 (k + 1) f fd ps (liftOw K so) := by
  obtain ⟨t, hd, hq⟩ := hbody
  refine FnG.body F S (fun vs H Q E ⟨Hf, v0, ws, o, fp, ds, Qd, e, _, _, _, r, h, _⟩ => by rw [e, List.length_cons, r.length]; exact len _ _ _ h) (fun cdv A outer s H vs Q E hgd hr ⟨Hf, v0, ws, o, fp, ds, Qd, e, sf, ro, hfp, r, h, kk⟩ => ⟨_, (hd cdv A outer s H E hgd hr).nox, ?_⟩)
  subst e
  have hlen : (start N (v0 :: ws)).length = (startD N (.ow true o :: ds.map .fz)).length := by
    unfold L2.start startD
    simp only [List.length_append, List.length_map, List.length_replicate, List.length_cons, r.length]
  have notin : ∀ {p : Addr}, (∀ i, p ∉ setF (fun _ => []) 0 fp i) → p ∉ fp := fun h => by
    have := h 0
    rw [setF_same] at this
    exact this
  have inn : ∀ {i : Nat} {p : Addr}, p ∈ setF (fun _ => []) 0 fp i → i = 0 ∧ p ∈ fp := fun {i p} h => by
    by_cases z : i = 0
    · subst z
      rw [setF_same] at h
      exact ⟨rfl, h⟩
    · rw [setF_ne z] at h
      cases h
  have fin : ∀ {v σ' H' Hf' F' E' d}, Same Hf Hf' → Sat K ⟨H, Hf, setF (fun _ => []) 0 fp, fun _ => v0, noHp⟩ Hf' H' F' E' σ' → Rep K Hf' v d → (∃ o', E'[0]? = some (Sl.ow true o') ∧ Qd d o') → Q v H' := fun {v σ' H' Hf' F' E' d} s1 S1 r1 ⟨o', e1, q⟩ => by
    obtain ⟨v1, hv1, ro1, hl1, _⟩ := S1.own e1
    have e2 := hl1 rfl
    have ro2 : OwRep K Hf' H' v0 o' (F' 0) := by
      have z2 : v1 = v0 := e2
      rw [z2] at ro1
      exact ro1
    have nf : ∀ p ∈ F' 0, Hf' p = none ∧ (p ∈ fp ∨ H p = none) := fun p hp => by
      obtain ⟨q1, _, q3, _⟩ := S1.fp 0 p hp
      exact ⟨q1, q3.imp (fun ⟨j, hj⟩ => (inn hj).2) id⟩
    refine kk v H' Hf' d o' (F' 0) s1 S1.sf (fun p u np a => S1.so p u (fun i z => np (inn z).2) a) S1.dom (fun p u a => S1.gn p u a) nf ro2 r1 q
  refine ⟨⟨H, Hf, setF (fun _ => []) 0 fp, fun _ => v0, noHp⟩, Hf, setF (fun _ => []) 0 fp, startD N (.ow true o :: ds.map .fz), _, ?_, hq o ds Qd h, fun σ' H' Hf' F' E' s1 S1 q => ?_, fun _ _ _ _ _ _ _ q => q.elim, fun _ _ _ _ _ _ _ q => q.elim, fun v σ' H' Hf' F' E' d s1 S1 r1 q => fin s1 S1 r1 q, fun _ _ _ _ _ _ _ _ _ _ _ q => q.elim⟩
  · refine { sf := sf, so := fun p o _ a => a, dom := fun p o a => ⟨o, a⟩, sp := fun p o a => (nomatch a), pf := fun p o a => (nomatch a), gf := Same.refl _, gn := fun p o a => .inl a, dj := fun i j p a b => by rw [(inn a).1, (inn b).1], fp := fun i p a => ⟨hfp p (inn a).2, ro.some p (inn a).2, .inl ⟨i, a⟩, rfl⟩, len := hlen, sl := fun i sl e => ?_ }
    unfold startD at e
    cases i with
    | zero =>
      rw [List.cons_append, List.getElem?_cons_zero] at e
      cases e
      refine ⟨v0, start_at rfl, by rw [setF_same]; exact ro, fun _ => rfl, fun z => by cases z⟩
    | succ i =>
      rw [List.cons_append, List.getElem?_cons_succ] at e
      by_cases hi : i < ds.length
      · rw [List.getElem?_append_left (by rw [List.length_map]; exact hi), List.getElem?_map] at e
        obtain ⟨d, ed⟩ := getE hi
        rw [ed] at e
        cases e
        obtain ⟨v, ev, rv⟩ := r.get ed
        exact ⟨v, start_at (by rw [List.getElem?_cons_succ]; exact ev), rv⟩
      · rw [List.getElem?_append_right (by rw [List.length_map]; omega)] at e
        have e2 := List.mem_of_getElem? e
        rw [List.eq_of_mem_replicate e2]
        trivial
  · exact fin s1 S1 .non q
end
end L3
namespace L3
open PySem L2
variable [Tbs]
def wipeD (E : En) : List Nat → En
  | [] => E
  | v :: vs => (wipeD E vs).set v .un
theorem wipeD_length (E : En) : ∀ vs : List Nat, (wipeD E vs).length = E.length
  | [] => rfl
  | v :: vs => by unfold wipeD; rw [List.length_set, wipeD_length E vs]
theorem wipeD_get {E : En} {i : Nat} {s : Sl} : ∀ {vs : List Nat}, (wipeD E vs)[i]? = some s → s = .un ∨ (E[i]? = some s ∧ i ∉ vs)
  | [], h => .inr ⟨h, by simp⟩
  | v :: vs, h => by
    unfold wipeD at h
    by_cases hi : v = i
    · subst hi
      by_cases hv : v < (wipeD E vs).length
      · rw [List.getElem?_set_self hv] at h
        cases h
        exact .inl rfl
      · rw [List.getElem?_eq_none (by simpa using hv)] at h
        cases h
    · rw [List.getElem?_set_ne hi] at h
      rcases wipeD_get h with q | ⟨q1, q2⟩
      · exact .inl q
      · exact .inr ⟨q1, by simp only [List.mem_cons, not_or]; exact ⟨fun e => hi e.symm, q2⟩⟩
theorem wipe_off {σ : St} {i : Nat} : ∀ {vs : List Nat}, i ∉ vs → (wipe σ vs)[i]? = σ[i]?
  | [], _ => rfl
  | v :: vs, h => by
    unfold wipe
    rw [List.getElem?_set_ne (fun e => h (by simp [e]))]
    exact wipe_off fun z => h (List.mem_cons_of_mem _ z)
theorem wipe_set {σ : St} {i : Nat} {x : Option V} : ∀ {vs : List Nat}, i ∈ vs → wipe (σ.set i x) vs = wipe σ vs
  | [], h => by cases h
  | v :: vs, h => by
    unfold wipe
    by_cases hm : i ∈ vs
    · rw [wipe_set hm]
    · have e : i = v := by
        rcases List.mem_cons.mp h with e | e
        · exact e
        · exact absurd e hm
      subst e
      have : wipe (σ.set i x) vs = (wipe σ vs).set i x := by
        clear h
        induction vs with
        | nil => rfl
        | cons w ws ih =>
          have h1 : i ≠ w := fun e => hm (by simp [e])
          have h2 : i ∉ ws := fun e => hm (List.mem_cons_of_mem _ e)
          unfold wipe
          rw [ih h2, List.set_comm _ _ h1]
      rw [this, List.set_set]
theorem wipe_wipe {σ : St} : ∀ vs : List Nat, wipe (wipe σ vs) vs = wipe σ vs := fun vs => by
  have h : ∀ ws : List Nat, (∀ v ∈ ws, v ∈ vs) → wipe (wipe σ ws) vs = wipe σ vs := by
    intro ws
    induction ws with
    | nil => intro _; rfl
    | cons w ws ih =>
      intro hs
      have : wipe σ (w :: ws) = (wipe σ ws).set w none := rfl
      rw [this, wipe_set (hs w (by simp))]
      exact ih fun v hv => hs v (List.mem_cons_of_mem _ hv)
  exact h vs fun _ z => z
section
variable {K : PySem.W.Frag} {en : Et} {Hf Hf' H H' : Hp} {F : Nat → List Addr} {E : En} {σ σ' : St} {A : Addr} {o : HO}
theorem Sat.re (S : Sat K en Hf H F E σ) {E' : En} {σ' : St} (hl : σ'.length = E'.length) (h : ∀ (i : Nat) (s : Sl), E'[i]? = some s → s = .un ∨ (E[i]? = some s ∧ σ'[i]? = σ[i]?)) : Sat K en Hf H F E' σ' := by
  refine { S with len := hl, sl := fun i s e => ?_ }
  rcases h i s e with q | ⟨q1, q2⟩
  · subst q
    trivial
  · have z := S.sl i s q1
    cases s with
    | un => trivial
    | fz d =>
      obtain ⟨v, e, r⟩ := z
      exact ⟨v, q2.trans e, r⟩
    | xc a c d fs => exact ⟨q2.trans z.1, z.2⟩
    | cl v vs ds cc oo => exact ⟨q2.trans z.1, z.2⟩
    | ow b o =>
      obtain ⟨v, e, r⟩ := z
      exact ⟨v, q2.trans e, r⟩
theorem Sat.wipe (S : Sat K en Hf H F E σ) (vs : List Nat) : Sat K en Hf H F (wipeD E vs) (L2.wipe σ vs) :=
  S.re (by rw [wipe_length, wipeD_length, S.len]) fun i s e => (wipeD_get e).imp id fun ⟨a, b⟩ => ⟨a, wipe_off b⟩
theorem Sat.unwipe (S : Sat K en Hf H F E σ') (vs : List Nat) (e : L2.wipe σ' vs = L2.wipe σ vs) : Sat K en Hf H F (wipeD E vs) σ := by
  refine S.re ?_ fun i s h => (wipeD_get h).imp id fun ⟨a, b⟩ => ⟨a, ?_⟩
  · rw [wipeD_length, ← S.len, ← wipe_length σ' vs, e, wipe_length]
  · rw [← wipe_off (σ := σ) b, ← e, wipe_off b]
/-- one more thing that is not ours is not to be changed -/
def Et.prot (en : Et) (p : Addr) (o : HO) : Et := { en with Pr := upd en.Pr p o }
theorem Sat.protect (S : Sat K en Hf H F E σ) {p : Addr} {o : HO} (n : H p = none) : Sat K (en.prot p o) Hf (upd H p o) F E σ := by
  have S1 : Sat K en Hf (upd H p o) F E σ := S.grow (Same.refl _) (S.sf.trans (same_upd n)) (same_upd n) fun _ _ a => .inl a
  refine { S1 with sp := ?_, pf := ?_, fp := ?_, sl := ?_ }
  · exact Same.upd S.sp
  · intro b u z
    by_cases q : b = p
    · subst q
      exact S.sf.free n
    · have z' : upd en.Pr p o b = some u := z
      rw [upd_ne q] at z'
      exact S.pf b u z'
  · intro i b hb
    obtain ⟨a1, a2, a3, a4⟩ := S.fp i b hb
    obtain ⟨u, a2⟩ := a2
    have q : b ≠ p := ne_of_none a2 n
    refine ⟨a1, ⟨u, by rw [upd_ne q]; exact a2⟩, a3, ?_⟩
    show upd en.Pr p o b = none
    rw [upd_ne q]
    exact a4
  · intro i s e
    have z := S1.sl i s e
    cases s <;> exact z
/-- .. is changed by the rule itself -/
theorem Sat.chProt (S : Sat K (en.prot A o) Hf H F E σ) (h0 : en.Pr A = none) (h1 : en.H0 A = none) (o' : HO) : Sat K (en.prot A o') Hf (upd H A o') F E σ := by
  have hD : Hf A = none := S.pf A o (show upd en.Pr A o A = some o from upd_same)
  have nF : ∀ i, A ∉ F i := fun i hb => by
    have z : upd en.Pr A o A = some o := upd_same
    rw [show upd en.Pr A o A = none from (S.fp i A hb).2.2.2] at z
    cases z
  refine { sf := fun b u z => ?_, so := fun b u a z => ?_, dom := fun b u z => ?_, sp := fun b u z => ?_, pf := fun b u z => ?_, gf := S.gf, gn := S.gn, dj := S.dj, fp := fun i b hb => ?_, len := S.len, sl := fun i s e => ?_ }
  · have q : b ≠ A := fun q => by
      rw [q, hD] at z
      cases z
    rw [upd_ne q]
    exact S.sf _ _ z
  · have q : b ≠ A := fun q => by
      have z' : en.H0 b = some u := z
      rw [q, h1] at z'
      cases z'
    rw [upd_ne q]
    exact S.so b u a z
  · by_cases q : b = A
    · subst q
      exact ⟨_, upd_same⟩
    · rw [upd_ne q]
      exact S.dom b u z
  · have z' : upd en.Pr A o' b = some u := z
    by_cases q : b = A
    · subst q
      rw [upd_same] at z' ⊢
      exact z'
    · rw [upd_ne q] at z' ⊢
      refine S.sp b u (show upd en.Pr A o b = some u from ?_)
      rw [upd_ne q]
      exact z'
  · have z' : upd en.Pr A o' b = some u := z
    by_cases q : b = A
    · subst q
      exact hD
    · rw [upd_ne q] at z'
      refine S.pf b u (show upd en.Pr A o b = some u from ?_)
      rw [upd_ne q]
      exact z'
  · obtain ⟨a1, ⟨u, a2⟩, a3, a4⟩ := S.fp i b hb
    have q : b ≠ A := fun q => nF i (q ▸ hb)
    refine ⟨a1, ⟨u, by rw [upd_ne q]; exact a2⟩, a3, ?_⟩
    show upd en.Pr A o' b = none
    rw [upd_ne q]
    have a4' : upd en.Pr A o b = none := a4
    rw [upd_ne q] at a4'
    exact a4'
  · have z := S.sl i s e
    cases s with
    | un => trivial
    | fz d => exact z
    | xc a c d fs => exact z
    | cl v vs ds cc oo => exact z
    | ow b ow =>
      obtain ⟨v, e, r, y⟩ := z
      exact ⟨v, e, r.mono (Same.refl _) fun p hp u hu => (by
        have q : p ≠ A := fun q => nF i (by rw [← q]; exact hp)
        rw [upd_ne q]
        exact hu), y⟩
/-- .. becomes data -/
theorem Sat.unprot (S : Sat K (en.prot A o) Hf H F E σ) (h0 : en.Pr A = none) (h1 : en.H0 A = none) : Sat K en (upd Hf A o) H F E σ ∧ Same Hf (upd Hf A o) := by
  have hD : Hf A = none := S.pf A o (show upd en.Pr A o A = some o from upd_same)
  have hH : H A = some o := S.sp A o (show upd en.Pr A o A = some o from upd_same)
  have s1 : Same Hf (upd Hf A o) := same_upd hD
  have nF : ∀ i b, b ∈ F i → b ≠ A := fun i b hb q => by
    subst q
    have z : upd en.Pr b o b = some o := upd_same
    rw [show upd en.Pr b o b = none from (S.fp i b hb).2.2.2] at z
    cases z
  refine ⟨{ sf := fun b u z => ?_, so := S.so, dom := S.dom, sp := fun b u z => ?_, pf := fun b u z => ?_, gf := S.gf.trans s1, gn := fun b u z => ?_, dj := S.dj, fp := fun i b hb => ?_, len := S.len, sl := fun i s e => ?_ }, s1⟩
  · by_cases q : b = A
    · subst q
      rw [upd_same] at z
      cases z
      exact hH
    · rw [upd_ne q] at z
      exact S.sf _ _ z
  · refine S.sp b u (show upd en.Pr A o b = some u from ?_)
    rw [upd_ne (ne_of_none z h0)]
    exact z
  · have q : b ≠ A := ne_of_none z h0
    rw [upd_ne q]
    refine S.pf b u (show upd en.Pr A o b = some u from ?_)
    rw [upd_ne q]
    exact z
  · by_cases q : b = A
    · subst q
      exact .inr h1
    · rw [upd_ne q] at z
      exact S.gn b u z
  · obtain ⟨a1, a2, a3, a4⟩ := S.fp i b hb
    have q := nF i b hb
    refine ⟨by rw [upd_ne q]; exact a1, a2, a3, ?_⟩
    have a4' : upd en.Pr A o b = none := a4
    rw [upd_ne q] at a4'
    exact a4'
  · have z := S.sl i s e
    cases s with
    | un => trivial
    | fz d =>
      obtain ⟨v, e, r⟩ := z
      exact ⟨v, e, r.mono s1⟩
    | xc a c d fs => exact ⟨z.1, z.2.mono s1⟩
    | cl v vs ds cc oo => exact ⟨z.1, z.2.mono s1⟩
    | ow b ow =>
      obtain ⟨v, e, r, y⟩ := z
      exact ⟨v, e, r.mono s1 fun _ _ _ hu => hu, y⟩
theorem Sat.fresh (S : Sat K en Hf H F E σ) {p : Addr} (n : H p = none) : en.Pr p = none ∧ en.H0 p = none := by
  refine ⟨S.sp.free n, ?_⟩
  cases q : en.H0 p with
  | none => rfl
  | some u =>
    obtain ⟨u', e⟩ := S.dom p u q
    rw [n] at e
    cases e
end
section
variable {X : Cx} {a b c e tg iter elt : Expr} {es ifs : List Expr} {ta tb tc te : TEd} {tt : TTd} {t : TAd} {g : TGd} {pos : Pos} {vs : List Nat}
/-- targets of a comprehension: the frame's other slots stay -/
def liftC (K : PySem.W.Frag) (vs : List Nat) (t : TGd) : TG := fun v σ H Q => ∃ en Hf F E d Qd, Sat K en Hf H F E σ ∧ Rep K Hf v d ∧ t d E Qd ∧ ∀ σ' H' Hf' F' E', Same Hf Hf' → Sat K en Hf' H' F' E' σ' → wipe σ' vs = wipe σ vs → Qd E' → Q σ' H'
def liftCs (K : PySem.W.Frag) (vs : List Nat) (t : TGsd) : TGs := fun ws σ H Q => ∃ en Hf F E ds Qd, Sat K en Hf H F E σ ∧ RepL K Hf ws ds ∧ t ds E Qd ∧ ∀ σ' H' Hf' F' E', Same Hf Hf' → Sat K en Hf' H' F' E' σ' → wipe σ' vs = wipe σ vs → Qd E' → Q σ' H'
abbrev PCd (X : Cx) (vs : List Nat) (e : Expr) (t : TGd) : Prop := PG X e (liftC X.K vs t)
abbrev PCsd (X : Cx) (vs : List Nat) (es : List Expr) (t : TGsd) : Prop := PGs X es (liftCs X.K vs t)
theorem c_name {i : Nat} {x : Str} (hN : X.N.Nodup) (hvs : i ∈ vs := by decide) (hi : X.N[i]? = some x := by rfl) (hx : Loc X.env.scope x := by first | exact .inl rfl | exact .inr rfl) (hf : X.fn x = true ∨ X.env.scope.names.lookup x = some .local := by first | exact .inl rfl | exact .inr rfl | assumption) : PCd X vs (.Name x pos) (gNameD i) :=
  pg_imp (pg_name hN hi hx hf) fun v σ H Q ⟨en, Hf, F, E, d, Qd, S, r, h, k⟩ => k _ _ _ _ _ (Same.refl _) (S.set h.1 r) (wipe_set hvs) h.2
theorem cs_nil : PCsd X vs [] gNilD := pgs_imp pgs_nil fun v σ H Q ⟨en, Hf, F, E, d, Qd, S, r, h, k⟩ => by
  unfold gNilD at h
  split at h
  · cases r
    exact ⟨rfl, k _ _ _ _ _ (Same.refl _) S rfl h⟩
  · exact h.elim
theorem cs_cons {t : TGd} {u : TGsd} (h1 : PCd X vs e t) (h2 : PCsd X vs es u) (hs : (assignEach (e :: es) X.env).map (·.2) = assign e X.env :: (assignEach es X.env).map (·.2) := by rfl) : PCsd X vs (e :: es) (gConsD t u) :=
  pgs_imp (pgs_cons h1 h2 hs) fun v σ H Q ⟨en, Hf, F, E, d, Qd, S, r, h, k⟩ => by
    unfold gConsD at h
    split at h
    · cases r with | cons a l =>
      exact ⟨_, _, rfl, en, Hf, F, E, _, _, S, a, h, fun σ1 H1 Hf1 F1 E1 s1 S1 w1 q => ⟨en, Hf1, F1, E1, _, _, S1, l.mono s1, q, fun _ _ _ _ _ s2 S2 w2 => k _ _ _ _ _ (s1.trans s2) S2 (w2.trans w1)⟩⟩
    · exact h.elim
theorem c_tup {k : Nat} {t : TGsd} {n : Nat} (hc : X.calm = true) (h : PCsd X vs es t) (hn : (assignEach es X.env).length = n := by rfl) (hst : (assignEach es X.env).findIdx? (·.1) = none := by rfl) : PCd X vs (.Tuple es k pos) (gTupD n t) :=
  pg_imp (pg_tup hc h hn hst) fun v σ H Q ⟨en, Hf, F, E, d, Qd, S, r, h, k⟩ => by
    unfold gTupD at h
    split at h
    · cases r with | tup q l =>
      exact ⟨_, _, rfl, Same.sqT S.sf q, by rw [l.length]; exact h.1, en, Hf, F, E, _, _, S, l, h.2, k⟩
    · exact h.elim
abbrev PTsd (X : Cx) (ifs : List Expr) (t : TTd) : Prop := PTs X ifs (liftT X.K t)
theorem pts_imp {ifs : List Expr} {t t' : TT} (h : PTs X ifs t) (i : ∀ σ H Q, t' σ H Q → t σ H Q) : PTs X ifs t' := ⟨fun pins s σ H Q I q => h.run pins s σ H Q I (i σ H Q q)⟩
def tYesD : TTd := fun E Q => Q true E
theorem ts_nil : PTsd X [] tYesD := pts_imp pts_nil fun σ H Q ⟨en, Hf, F, E, Qd, S, h, k⟩ => k _ _ _ _ _ (Same.refl _) S h
theorem ts_one (h : PTd X c tt) : PTsd X [c] tt := pts_one h
def lcD (xs : List D) (g : TGd) (tt : TTd) (te : TEd) (vs : List Nat) (E : En) (Q : List D → En → Prop) : Prop := ∃ P : Nat → List D → En → Prop, P 0 [] (wipeD E vs) ∧
  (∀ i x acc E, xs[i]? = some x → P i acc E → g x (wipeD E vs) fun E2 => tt E2 fun b E3 => if b = true then te E3 fun y E4 => acc.length < sizeLine ∧ P (i + 1) (acc ++ [y]) (wipeD E4 vs) else P (i + 1) acc (wipeD E3 vs)) ∧
  ∀ acc E, P xs.length acc E → Q acc E
def tLcD (ti : TId) (g : TGd) (tt : TTd) (te : TEd) (vs : List Nat) : TEd := fun E Q => ti E fun xs E1 => lcD xs g tt te vs E1 fun acc E2 => Q (.lst acc) E2
/-- the reading of the layer below, by ours -/
theorem lift_lc {ti : TId} {K : PySem.W.Frag} : ∀ σ H Q, liftE K (tLcD ti g tt te vs) σ H Q → tLc (liftI K ti) (liftC K vs g) (liftT K tt) (liftE K te) vs σ H Q := fun σ H Q ⟨en, Hf, F, E, Qd, S, h, k⟩ =>
  ⟨en, Hf, F, E, _, S, h, fun J H1 Hf1 F1 E1 xs s1 S1 jo ⟨P, p0, ps, pd⟩ => fun D nD => by
    obtain ⟨d1, d2⟩ := S1.fresh nD
    refine ⟨fun i m H => m = xs.length - i ∧ i ≤ xs.length ∧ ∃ Hf' F' E' acc ws, Same Hf1 Hf' ∧ Sat K (en.prot D (.lst ws)) Hf' H F' E' σ ∧ RepL K Hf' ws acc ∧ P i acc E',
      ⟨xs.length, by simp, Nat.zero_le _, Hf1, F1, wipeD E1 vs, [], [], Same.refl _, (S1.unwipe vs rfl).protect nD, .nil, p0⟩, ?_⟩
    rintro i m H2 ⟨rfl, hi, Hf2, F2, E2, acc, ws, s2, S2, r2, p2⟩
    have sH : Same Hf1 H2 := s2.trans S2.sf
    by_cases hlt : i < xs.length
    · refine .inr ⟨jo.go i H2 sH hlt, fun H' => ∃ Hf' F' E' acc ws, Same Hf1 Hf' ∧ Sat K (en.prot D (.lst ws)) Hf' H' F' E' σ ∧ RepL K Hf' ws acc ∧ P (i + 1) acc E', fun H' q => ⟨xs.length - (i + 1), by omega, rfl, hlt, q⟩, fun x H' y => ?_⟩
      obtain ⟨d, Hfx, ed, sx, Sx, rx⟩ := jo.item s2 S2 hlt y
      refine ⟨_, Hfx, F2, _, d, _, Sx.wipe vs, rx, ps i d acc E2 ed p2, fun σ3 H3 Hf3 F3 E3 s3 S3 w3 q3 => ⟨w3.trans (wipe_wipe vs), ?_⟩⟩
      have w3' : wipe σ3 vs = wipe σ vs := w3.trans (wipe_wipe vs)
      refine ⟨_, Hf3, F3, E3, _, S3, q3, fun b H4 Hf4 F4 E4 s4 S4 q4 => ?_⟩
      cases b with
      | false =>
        exact ⟨Hf4, F4, wipeD E4 vs, acc, ws, (((s2.trans sx).trans s3).trans s4), S4.unwipe vs w3', r2.mono ((sx.trans s3).trans s4), q4⟩
      | true =>
        refine ⟨_, Hf4, F4, E4, _, S4, q4, fun v H5 Hf5 F5 E5 y5 s5 S5 r5 q5 => ?_⟩
        have hD : H5 D = some (.lst ws) := S5.sp D _ (show upd en.Pr D (.lst ws) D = some (.lst ws) from upd_same)
        have rr := (r2.mono (((sx.trans s3).trans s4).trans s5))
        refine ⟨ws, hD, by rw [rr.length]; exact q5.1, Hf5, F5, wipeD E5 vs, acc ++ [y5], ws ++ [v], ((((s2.trans sx).trans s3).trans s4).trans s5), ?_, rr.append (.cons r5 .nil), q5.2⟩
        exact (S5.unwipe vs w3').chProt d1 d2 _
    · obtain rfl : i = xs.length := by omega
      obtain ⟨S3, s3⟩ := S2.unprot d1 d2
      exact .inl ⟨jo.stop H2 sH, k _ _ _ _ _ _ ((s1.trans s2).trans s3) S3 (.lst upd_same (r2.mono s3)) (pd acc E2 p2)⟩⟩
theorem d_lc {ti : TId} {scope : Scope} {own : List (Str × Nat)} (hc : X.calm = true) (hN : X.N.Nodup) (hi : PId X tg iter ti) (ok : BlkOk X.N X.env.scope scope own)
    (hg : ∀ (s : Shared) (H : Hp) (C : Addr) (cl : List (Str × Addr)) (fp : List Addr), PCd (X.blk s H scope (compEnvC scope cl C X.env) fp) (own.map (·.2)) tg g) (ht : ∀ (s : Shared) (H : Hp) (C : Addr) (cl : List (Str × Addr)) (fp : List Addr), PTsd (X.blk s H scope (compEnvC scope cl C X.env) fp) ifs tt)
    (he : ∀ (s : Shared) (H : Hp) (C : Addr) (cl : List (Str × Addr)) (fp : List Addr), PEd (X.blk s H scope (compEnvC scope cl C X.env) fp) elt te) (hs : ∀ x, foldedSetIterable iter X.env x = pure x := by intro _; rfl) :
    PEd X (.ListComp elt [⟨tg, iter, ifs, 0⟩] scope pos) (tLcD ti g tt te (own.map (·.2))) :=
  pe_imp (pe_lc hc hN hi ok hg ht he hs) lift_lc
theorem s_setLc {ti : TId} {i : Nat} {y : Str} {py spos : Pos} {scope : Scope} {own : List (Str × Nat)} (hc : X.calm = true) (hN : X.N.Nodup) (hi : PId X tg iter ti) (ok : BlkOk X.N X.env.scope scope own)
    (hg : ∀ (s : Shared) (H : Hp) (C : Addr) (cl : List (Str × Addr)) (fp : List Addr), PCd (X.blk s H scope (compEnvC scope cl C X.env) fp) (own.map (·.2)) tg g) (ht : ∀ (s : Shared) (H : Hp) (C : Addr) (cl : List (Str × Addr)) (fp : List Addr), PTsd (X.blk s H scope (compEnvC scope cl C X.env) fp) ifs tt)
    (he : ∀ (s : Shared) (H : Hp) (C : Addr) (cl : List (Str × Addr)) (fp : List Addr), PEd (X.blk s H scope (compEnvC scope cl C X.env) fp) elt te)
    (hsw : swapsWith (.ListComp elt [⟨tg, iter, ifs, 0⟩] scope pos) (some (.Name y py)) spos.line X.env = pure true) (hy : X.N[i]? = some y := by rfl) (hyl : X.env.scope.names.lookup y = some .local := by rfl) (hs : ∀ x, foldedSetIterable iter X.env x = pure x := by intro _; rfl) :
    PSd X (.Assign [.Name y py] (.ListComp elt [⟨tg, iter, ifs, 0⟩] scope pos) spos) (tAsgD (tLcD ti g tt te (own.map (·.2))) (gNameD i)) :=
  ps_imp (ps_setLc hc hN hy hyl hsw hi ok hg ht he hs) fun D σ H ⟨en, Hf, F, E, Dd, S, h, k1, k2, k3, k4, k5⟩ =>
    lift_lc σ H _ ⟨en, Hf, F, E, _, S, h, fun v H' Hf' F' E' d s1 S1 r1 q => k1 _ _ _ _ _ s1 (S1.set q.1 r1) q.2⟩
end
end L3
namespace L3
open PySem L2
variable [Tbs]
abbrev RB := List D → En → (D → En → Prop) → Prop
def tCBd (rb : RB) (t : TAd) : TEd := fun E Q => t E fun ds E1 => rb ds E1 Q
def CallOk (K : PySem.W.Frag) (r : List V → Hp → VK → Prop) (rb : RB) : Prop := ∀ en Hf H F E σ vs ds Q Qd, Sat K en Hf H F E σ → RepL K Hf vs ds → rb ds E Qd → Fin K en σ Hf Qd Q → r vs H Q
theorem CallOk.or {K : PySem.W.Frag} {r r' : List V → Hp → VK → Prop} {rb rb' : RB} (h : CallOk K r rb) (h' : CallOk K r' rb') : CallOk K (fun xs H Q => r xs H Q ∨ r' xs H Q) (fun x E Q => rb x E Q ∨ rb' x E Q) :=
  fun en Hf H F E σ vs ds Q Qd S rx q k => q.elim (fun q => .inl (h en Hf H F E σ vs ds Q Qd S rx q k)) fun q => .inr (h' en Hf H F E σ vs ds Q Qd S rx q k)
section
variable {X : Cx} {x : Str} {p pos : Pos} {e : Expr} {es : List Expr} {t : TAd} {id T : String} {r : List V → Hp → VK → Prop} {rb : RB}
theorem lift_cb {K : PySem.W.Frag} (hk : CallOk K r rb) : ∀ σ H Q, liftE K (tCBd rb t) σ H Q → tCB r (liftA K t) σ H Q := fun σ H Q ⟨en, Hf, F, E, Qd, S, h, k⟩ =>
  ⟨en, Hf, F, E, _, S, h, fun vs H1 Hf1 F1 E1 ds s1 S1 r1 h1 => hk en Hf1 H1 F1 E1 σ vs ds Q Qd S1 r1 h1 fun v H' Hf' F' E' d s2 S2 r2 h2 => k v H' Hf' F' E' d (s1.trans s2) S2 r2 h2⟩
theorem d_callB (hc : CallR X (.builtin id) r) (hk : CallOk X.K r rb) (hm : X.mg x = none) (hv : bootBuiltins x = some (.builtin id)) (ha : PAd X (e :: es) t) (hg : Gl X x := by rfl) (hn : x ≠ "__name__" := by decide) (hdb : (x == ("__debug__" : Str)) = false := by decide)
    (he : starEach (e :: es) X.env = (false, eval e X.env) :: starEach es X.env := by rfl) (hpl : (backTo pos (starEach es X.env)).any (·.1) = false := by rfl) : PEd X (.Call (.Name x p) (e :: es) [] pos) (tCBd rb t) :=
  pe_imp (pe_callB hc hg hm hv ha hn hdb he hpl) (lift_cb hk)
theorem d_callT (hc : CallR X (.type T) r) (hk : CallOk X.K r rb) (hm : X.mg x = none) (hv : bootBuiltins x = some (.type T)) (ha : PAd X (e :: es) t) (hg : Gl X x := by rfl) (hn : x ≠ "__name__" := by decide) (hdb : (x == ("__debug__" : Str)) = false := by decide)
    (he : starEach (e :: es) X.env = (false, eval e X.env) :: starEach es X.env := by rfl) (hpl : (backTo pos (starEach es X.env)).any (·.1) = false := by rfl) : PEd X (.Call (.Name x p) (e :: es) [] pos) (tCBd rb t) :=
  pe_imp (pe_callTy hc hg hm hv ha hn hdb he hpl) (lift_cb hk)
end
/-- ready to split: what stands in the list -/
theorem RepL.one {K : PySem.W.Frag} {H : Hp} {vs : List V} {d : D} (r : RepL K H vs [d]) : ∃ v, vs = [v] ∧ Rep K H v d := by
  cases r with | cons a l =>
  cases l
  exact ⟨_, rfl, a⟩
theorem RepL.two {K : PySem.W.Frag} {H : Hp} {vs : List V} {d e : D} (r : RepL K H vs [d, e]) : ∃ v w, vs = [v, w] ∧ Rep K H v d ∧ Rep K H w e := by
  cases r with | cons a l =>
  obtain ⟨w, rfl, b⟩ := l.one
  exact ⟨_, _, rfl, a, b⟩
theorem RepL.ofInts {K : PySem.W.Frag} {H : Hp} {vs : List V} {ns : List Int} (r : RepL K H vs (ns.map D.int)) : vs = ns.map V.int := r.ints_inv
theorem RepL.ofBls {K : PySem.W.Frag} {H : Hp} : ∀ {bs : List Bool} {vs : List V}, RepL K H vs (bs.map D.bl) → vs = bs.map V.bl
  | [], _, .nil => rfl
  | _ :: _, _, .cons a t => by
    cases a
    rw [List.map_cons, RepL.ofBls t]
section
variable {X : Cx} {a e : Expr} {ta : TEd} {t : TAd} {es : List Expr} {p pos : Pos}
/-- len -/
def rbLen : RB := fun ds E Q => match ds with
  | [.str x] => x.length ≤ sizeLine ∧ Q (.int x.length) E
  | [.lst xs] => Q (.int xs.length) E
  | [.tup xs] => Q (.int xs.length) E
  | [.dct ks] => Q (.int ks.length) E
  | _ => False
theorem RepK.length {K : PySem.W.Frag} {H : Hp} : ∀ {vs : List (Key × V)} {ds : List (Key × D)}, RepK K H vs ds → vs.length = ds.length
  | _, _, .nil => rfl
  | _, _, .cons _ t => by rw [List.length_cons, List.length_cons, RepK.length t]
theorem ok_len {K : PySem.W.Frag} : CallOk K (fun xs H Q => (∃ x n, xs = [x] ∧ LenV K x H n ∧ Q (.int n) H) ∨ (∃ a kvs, xs = [V.ref a] ∧ H a = some (.dK kvs) ∧ Q (.int kvs.length) H)) rbLen :=
  fun en Hf H F E σ vs ds Q Qd S rx q k => by
    unfold rbLen at q
    split at q
    · obtain ⟨v, rfl, r⟩ := rx.one
      cases r
      exact .inl ⟨_, _, rfl, ⟨q.1, rfl⟩, k _ _ _ _ _ _ (Same.refl _) S (.int _) q.2⟩
    · obtain ⟨v, rfl, r⟩ := rx.one
      cases r with | lst h l =>
      exact .inl ⟨_, _, rfl, .inl ⟨_, .inl (.inl (S.sf _ _ h)), rfl⟩, k _ _ _ _ _ _ (Same.refl _) S (by rw [l.length]; exact .int _) q⟩
    · obtain ⟨v, rfl, r⟩ := rx.one
      cases r with | tup h l =>
      exact .inl ⟨_, _, rfl, .inr ⟨_, Same.sqT S.sf h, rfl⟩, k _ _ _ _ _ _ (Same.refl _) S (by rw [l.length]; exact .int _) q⟩
    · obtain ⟨v, rfl, r⟩ := rx.one
      cases r with | dct h l =>
      exact .inr ⟨_, _, rfl, S.sf _ _ h, k _ _ _ _ _ _ (Same.refl _) S (by rw [l.length]; exact .int _) q⟩
    · exact q.elim
theorem d_len (hm : X.mg "len" = none) (ha : PAd X [a] t) (hg : Gl X "len" := by rfl) (he : starEach [a] X.env = (false, eval a X.env) :: starEach [] X.env := by rfl) : PEd X (.Call (.Name "len" p) [a] [] pos) (tCBd rbLen t) :=
  d_callB (CallR.or call_len call_lenD) ok_len hm PySem.boot_len ha hg (by decide) (by decide) he
/-- len(x), x a list that may be our own -/
def tLenV (j : Nat) : TEd := fun E Q => match E[j]? with
  | some (.fz d) => rbLen [d] E Q
  | some (.ow _ (.ol xs)) => Q (.int xs.length) E
  | some (.ow _ (.od ks)) => Q (.int ks.length) E
  | _ => False
theorem d_lenV (j : Nat) {y : Str} {py : Pos} (hm : X.mg "len" = none) (hN : X.N[j]? = some y := by rfl) (hv : Vis X.env.scope y := by first | exact Or.inl rfl | exact Or.inr (Or.inl rfl) | exact Or.inr (Or.inr rfl))
    (hyd : (y == ("__debug__" : Str)) = false := by decide) (hyc : (y == ("__classdict__" : Str)) = false := by decide) (hg : Gl X "len" := by rfl) (he : starEach [.Name y py] X.env = (false, eval (.Name y py) X.env) :: starEach [] X.env := by rfl) :
    PEd X (.Call (.Name "len" p) [.Name y py] [] pos) (tLenV j) :=
  pe_imp (pe_callB (CallR.or call_len call_lenD) hg hm PySem.boot_len (pa_cons (pv j hN hv hyd hyc) pa_nil he) (by decide) (by decide) he) fun σ H Q ⟨en, Hf, F, E, Qd, S, h, k⟩ => by
    unfold tLenV at h
    split at h
    · rename_i d e
      obtain ⟨v, hv, r⟩ := S.get e
      exact ⟨v, hv, ok_len en Hf H F E σ [v] [d] Q Qd S (.cons r .nil) h k⟩
    · rename_i b xs e
      obtain ⟨v, hv, ⟨p, vs, rfl, _, hp, l⟩, _⟩ := S.own e
      exact ⟨_, hv, .inl ⟨_, _, rfl, .inl ⟨_, .inl (.inl hp), rfl⟩, k _ _ _ _ _ _ (Same.refl _) S (by rw [l.length]; exact .int _) h⟩⟩
    · rename_i b xs e
      obtain ⟨v, hv, ⟨p, vs, rfl, _, hp, l⟩, _⟩ := S.own e
      exact ⟨_, hv, .inr ⟨_, _, rfl, hp, k _ _ _ _ _ _ (Same.refl _) S (by rw [l.length]; exact .int _) h⟩⟩
    · exact h.elim
/-- abs, int, max, min of ints -/
def rbAbs : RB := fun ds E Q => match ds with
  | [.int i] => Q (.int (if i < 0 then -i else i)) E
  | _ => False
def rbInt : RB := fun ds E Q => match ds with
  | [.int i] => Q (.int i) E
  | [.bl b] => Q (.int (if b then 1 else 0)) E
  | _ => False
theorem d_intc (hm : X.mg "int" = none) (ha : PAd X [a] t) (hg : Gl X "int" := by rfl) (he : starEach [a] X.env = (false, eval a X.env) :: starEach [] X.env := by rfl) : PEd X (.Call (.Name "int" p) [a] [] pos) (tCBd rbInt t) :=
  d_callT call_int1 (fun en Hf H F E σ vs ds Q Qd S rx q k => by
    unfold rbInt at q
    split at q
    · obtain ⟨v, rfl, r⟩ := rx.one
      cases r
      exact .inl ⟨_, rfl, k _ _ _ _ _ _ (Same.refl _) S (.int _) q⟩
    · obtain ⟨v, rfl, r⟩ := rx.one
      cases r
      exact .inr ⟨_, rfl, k _ _ _ _ _ _ (Same.refl _) S (.int _) q⟩
    · exact q.elim) hm PyProof.Rows.boot_int ha hg (by decide) (by decide) he
def rbMax2 : RB := fun ds E Q => match ds with
  | [.int i, .int j] => Q (.int (if j > i then j else i)) E
  | _ => False
def rbMin2 : RB := fun ds E Q => match ds with
  | [.int i, .int j] => Q (.int (if j < i then j else i)) E
  | _ => False
/-- max, min of a list of ints -/
def rbMaxL : RB := fun ds E Q => match ds with
  | [.lst xs] => ∃ ns : List Int, xs = ns.map D.int ∧ 0 < ns.length ∧ ∀ m, m ∈ ns → (∀ y, y ∈ ns → y ≤ m) → Q (.int m) E
  | _ => False
def rbMinL : RB := fun ds E Q => match ds with
  | [.lst xs] => ∃ ns : List Int, xs = ns.map D.int ∧ 0 < ns.length ∧ ∀ m, m ∈ ns → (∀ y, y ∈ ns → m ≤ y) → Q (.int m) E
  | _ => False
/-- tuple, list -/
def rbTuple : RB := fun ds E Q => match ds with
  | [.lst xs] => Q (.tup xs) E
  | [.tup xs] => Q (.tup xs) E
  | _ => False
def rbList : RB := fun ds E Q => match ds with
  | [.lst xs] => Q (.lst xs) E
  | [.tup xs] => Q (.lst xs) E
  | _ => False
theorem d_tuplec (hm : X.mg "tuple" = none) (ha : PAd X [a] t) (hg : Gl X "tuple" := by rfl) (he : starEach [a] X.env = (false, eval a X.env) :: starEach [] X.env := by rfl) : PEd X (.Call (.Name "tuple" p) [a] [] pos) (tCBd rbTuple t) :=
  d_callT call_tuple_of (fun en Hf H F E σ vs ds Q Qd S rx q k => by
    unfold rbTuple at q
    split at q
    · obtain ⟨v, rfl, r⟩ := rx.one
      cases r with | lst h l =>
      exact ⟨_, _, rfl, .inl ⟨.inl (.inl (S.sf _ _ h)), fun p np => k.new S np (fun _ s2 e => .tup (.inl (.inl e)) (l.mono s2)) q⟩⟩
    · obtain ⟨v, rfl, r⟩ := rx.one
      cases r with | tup h l =>
      exact ⟨_, _, rfl, .inr ⟨Same.sqT S.sf h, k _ _ _ _ _ _ (Same.refl _) S (.tup h l) q⟩⟩
    · exact q.elim) hm PyProof.Rows.boot_tuple ha hg (by decide) (by decide) he
theorem d_listc (hm : X.mg "list" = none) (ha : PAd X [a] t) (hg : Gl X "list" := by rfl) (he : starEach [a] X.env = (false, eval a X.env) :: starEach [] X.env := by rfl) : PEd X (.Call (.Name "list" p) [a] [] pos) (tCBd rbList t) :=
  d_callT call_list_of (fun en Hf H F E σ vs ds Q Qd S rx q k => by
    unfold rbList at q
    split at q
    · obtain ⟨v, rfl, r⟩ := rx.one
      cases r with | lst h l =>
      exact ⟨_, _, rfl, .inl (.inl (.inl (S.sf _ _ h))), fun p np => k.new S np (fun _ s2 e => .lst e (l.mono s2)) q⟩
    · obtain ⟨v, rfl, r⟩ := rx.one
      cases r with | tup h l =>
      exact ⟨_, _, rfl, .inr (Same.sqT S.sf h), fun p np => k.new S np (fun _ s2 e => .lst e (l.mono s2)) q⟩
    · exact q.elim) hm PyProof.Rows.boot_list ha hg (by decide) (by decide) he
/-- sum, all, any -/
def rbSum : RB := fun ds E Q => match ds with
  | [.lst xs] => ∃ ns : List Int, xs = ns.map D.int ∧ Q (.int ns.sum) E
  | _ => False
def rbAll : RB := fun ds E Q => match ds with
  | [.lst xs] => ∃ bs : List Bool, xs = bs.map D.bl ∧ Q (.bl (bs.all id)) E
  | _ => False
def rbAny : RB := fun ds E Q => match ds with
  | [.lst xs] => ∃ bs : List Bool, xs = bs.map D.bl ∧ Q (.bl (bs.any id)) E
  | _ => False
theorem d_all (hc : X.calm = true) (hm : X.mg "all" = none) (ha : PAd X [a] t) (hg : Gl X "all" := by rfl) (he : starEach [a] X.env = (false, eval a X.env) :: starEach [] X.env := by rfl) : PEd X (.Call (.Name "all" p) [a] [] pos) (tCBd rbAll t) :=
  d_callB (cr_all hc) (fun en Hf H F E σ vs ds Q Qd S rx q k => by
    unfold rbAll at q
    split at q
    · obtain ⟨v, rfl, r⟩ := rx.one
      cases r with | lst h l =>
      obtain ⟨ns, rfl, q⟩ := q
      rw [l.ofBls] at h
      exact ⟨_, ns, rfl, .inl (.inl (S.sf _ _ h)), k _ _ _ _ _ _ (Same.refl _) S (.bl _) q⟩
    · exact q.elim) hm PyProof.Rows.boot_all ha hg (by decide) (by decide) he
/-- what may be shown -/
structure D.sh (d : D) : Prop where
  plain : d.plain = true
  able : PyData.showable d.py = true
  size : (PyData.shown d.py).length ≤ sizeLine
  deep : PyData.depth d.py ≤ 60
def rbRepr : RB := fun ds E Q => match ds with
  | [d] => d.sh ∧ Q (.str (PyData.shown d.py)) E
  | _ => False
end
end L3
namespace L3
open PySem L2
variable [Tbs]
section
variable {K : PySem.W.Frag} {en : Et} {Hf H : Hp} {F : Nat → List Addr} {E : En} {σ : St}
/-- a lent or own deck is read and changed in its place -/
theorem Sat.deck (S : Sat K en Hf H F E σ) {j : Nat} {b : Bool} {cs : List Int} {n : Int} (e : E[j]? = some (.ow b (.dk cs n))) :
    ∃ p q, σ[j]? = some (some (.ref p)) ∧ p ≠ q ∧ H p = some (.lst [.ref q, .int n]) ∧ H q = some (.lst (cs.map V.int)) ∧
      (∀ n', Sat K en Hf (upd H p (.lst [.ref q, .int n'])) F (E.set j (.ow b (.dk cs n'))) σ) ∧ ∀ cs', Sat K en Hf (upd H q (.lst (cs'.map V.int))) F (E.set j (.ow b (.dk cs' n))) σ := by
  obtain ⟨v, hv, ⟨p, q, rfl, ne, hF, hp, hq, hn, ht⟩, _⟩ := S.own e
  have tne : ∀ t ∈ Tbs.T, t.1 ≠ p ∧ t.1 ≠ q := fun t m => ⟨fun z => hn.1 (by rw [← z]; exact List.mem_map.mpr ⟨t, m, rfl⟩), fun z => hn.2 (by rw [← z]; exact List.mem_map.mpr ⟨t, m, rfl⟩)⟩
  have mp : p ∈ F j := by rw [hF]; simp
  have mq : q ∈ F j := by rw [hF]; simp
  have np := (S.fp j p mp).1
  have nq := (S.fp j q mq).1
  have go : ∀ (r : Addr) (u : HO) (o' : Ow), r ∈ F j → Hf r = none → OwRep K Hf (upd H r u) (.ref p) o' (F j) → Sat K en Hf (upd H r u) F (E.set j (.ow b o')) σ := fun r u o' mr nr ro =>
    S.change e hv (Same.refl _) (fun c w z => by
      have nc : c ≠ r := fun y => by
        rw [y, nr] at z
        cases z
      rw [upd_ne nc]
      exact S.sf _ _ z) (fun c w nc z => by
      have ne : c ≠ r := fun y => nc (by rw [y]; exact mr)
      rw [upd_ne ne]
      exact z) (fun c w z => by
      by_cases y : c = r
      · subst y
        exact ⟨_, upd_same⟩
      · rw [upd_ne y]
        exact ⟨w, z⟩) (fun _ _ z => .inl z) ro
  refine ⟨p, q, hv, ne, hp, hq, fun n' => go p _ _ mp np ⟨p, q, rfl, ne, hF, upd_same, ?_, hn, fun t m => (ht t m).mono (Same.refl _) fun u z => by rw [upd_ne (tne t m).1]; exact z⟩, fun cs' => go q _ _ mq nq ⟨p, q, rfl, ne, hF, ?_, upd_same, hn, fun t m => (ht t m).mono (Same.refl _) fun u z => by rw [upd_ne (tne t m).2]; exact z⟩⟩
  · rw [upd_ne (Ne.symm ne)]
    exact hq
  · rw [upd_ne ne]
    exact hp
end
def isDk (E : En) (j : Nat) : Prop := match E[j]? with
  | some (.ow _ (.dk _ _)) => True
  | _ => False
theorem isDk.ex {E : En} {j : Nat} (h : isDk E j) : ∃ b cs n, E[j]? = some (.ow b (.dk cs n)) := by
  unfold isDk at h
  split at h
  · rename_i b cs n e
    exact ⟨b, cs, n, e⟩
  · exact h.elim
section
variable {X : Cx} {a b c e : Expr} {ta tb te : TEd} {pos p p1 p2 p3 p4 p5 : Pos} {c1 c2 : Nat} {x : Str}
/-- deck[1] -/
def tDkN (j : Nat) : TEd := fun E Q => match E[j]? with
  | some (.ow _ (.dk _ n)) => Q (.int n) E
  | _ => False
theorem d_dkN (j : Nat) (hN : X.N[j]? = some x := by rfl) (hv : Vis X.env.scope x := by first | exact Or.inl rfl | exact Or.inr (Or.inl rfl) | exact Or.inr (Or.inr rfl)) (hd : (x == ("__debug__" : Str)) = false := by decide) (hcd : (x == ("__classdict__" : Str)) = false := by decide)
    (hs : PlainIx (.Constant (.int 1) c1 p1) := by exact fun _ _ => rfl) : PEd X (.Subscript (.Name x p) (.Constant (.int 1) c1 p1) pos) (tDkN j) :=
  pe_imp (pe_ix ix_seq (pv j hN hv hd hcd) pe_int hs) fun σ H Q ⟨en, Hf, F, E, Qd, S, h, k⟩ => by
    unfold tDkN at h
    split at h
    · rename_i b cs n e
      obtain ⟨p, q, hv, _, hp, _⟩ := S.deck e
      exact ⟨_, hv, .inl ⟨_, _, _, _, rfl, rfl, .inl (.inl hp), rfl, k _ _ _ _ _ _ (Same.refl _) S (.int _) h⟩⟩
    · exact h.elim
/-- len(deck[0]) -/
def tDkLen (j : Nat) : TEd := fun E Q => match E[j]? with
  | some (.ow _ (.dk cs _)) => Q (.int cs.length) E
  | _ => False
theorem d_dkLen (j : Nat) (hm : X.mg "len" = none) (hN : X.N[j]? = some x := by rfl) (hv : Vis X.env.scope x := by first | exact Or.inl rfl | exact Or.inr (Or.inl rfl) | exact Or.inr (Or.inr rfl)) (hd : (x == ("__debug__" : Str)) = false := by decide) (hcd : (x == ("__classdict__" : Str)) = false := by decide)
    (hs : PlainIx (.Constant (.int 0) c1 p1) := by exact fun _ _ => rfl) (hg : Gl X "len" := by rfl) (he : starEach [.Subscript (.Name x p) (.Constant (.int 0) c1 p1) p2] X.env = (false, eval (.Subscript (.Name x p) (.Constant (.int 0) c1 p1) p2) X.env) :: starEach [] X.env := by rfl) :
    PEd X (.Call (.Name "len" p3) [.Subscript (.Name x p) (.Constant (.int 0) c1 p1) p2] [] pos) (tDkLen j) :=
  pe_imp (pe_callB call_len_seq hg hm PySem.boot_len (pa_cons (pe_ix ix_seq (pv j hN hv hd hcd) pe_int hs) pa_nil he) (by decide) (by decide) he) fun σ H Q ⟨en, Hf, F, E, Qd, S, h, k⟩ => by
    unfold tDkLen at h
    split at h
    · rename_i b cs n e
      obtain ⟨p, q, hv, _, hp, hq, _⟩ := S.deck e
      refine ⟨_, hv, .inl ⟨_, _, _, _, rfl, rfl, .inl (.inl hp), rfl, _, _, rfl, .inl (.inl (.inl hq)), ?_⟩⟩
      refine k _ _ _ _ _ _ (Same.refl _) S ?_ h
      rw [List.length_map]
      exact .int _
    · exact h.elim
/-- deck[0] + [0] -/
def tDkPad (j : Nat) : TEd := fun E Q => match E[j]? with
  | some (.ow _ (.dk cs _)) => cs.length + 1 ≤ sizeLine ∧ Q (.lst (cs.map D.int ++ [.int 0])) E
  | _ => False
theorem atI_map {α β : Type} {f : α → β} {xs : List α} {i : Int} {m : α} (h : atI xs i = some m) : atI (xs.map f) i = some (f m) := by
  unfold atI at h ⊢
  rw [List.length_map]
  cases e : ixN xs.length i with
  | none =>
    rw [e] at h
    cases h
  | some j =>
    rw [e] at h
    show (xs.map f)[j]? = _
    rw [List.getElem?_map]
    have h' : xs[j]? = some m := h
    rw [h']
    rfl
/-- deck[0][i], i a name -/
def tDkAt (j i : Nat) : TEd := fun E Q => match E[j]?, E[i]? with
  | some (.ow _ (.dk cs _)), some (.fz (.int k)) => ∃ m, atI cs k = some m ∧ Q (.int m) E
  | _, _ => False
theorem d_dkAt (j i : Nat) {y : Str} (hN : X.N[j]? = some x := by rfl) (hv : Vis X.env.scope x := by first | exact Or.inl rfl | exact Or.inr (Or.inl rfl) | exact Or.inr (Or.inr rfl)) (hd : (x == ("__debug__" : Str)) = false := by decide) (hcd : (x == ("__classdict__" : Str)) = false := by decide)
    (hN2 : X.N[i]? = some y := by rfl) (hv2 : Vis X.env.scope y := by first | exact Or.inl rfl | exact Or.inr (Or.inl rfl) | exact Or.inr (Or.inr rfl)) (hd2 : (y == ("__debug__" : Str)) = false := by decide) (hcd2 : (y == ("__classdict__" : Str)) = false := by decide)
    (hs : PlainIx (.Constant (.int 0) c1 p1) := by exact fun _ _ => rfl) (hs2 : PlainIx (.Name y p3) := by exact fun _ _ => rfl) :
    PEd X (.Subscript (.Subscript (.Name x p) (.Constant (.int 0) c1 p1) p2) (.Name y p3) pos) (tDkAt j i) :=
  pe_imp (pe_ix ix_seq (pe_ix ix_seq (pv j hN hv hd hcd) pe_int hs) (pv i hN2 hv2 hd2 hcd2) hs2) fun σ H Q ⟨en, Hf, F, E, Qd, S, h, k⟩ => by
    unfold tDkAt at h
    split at h
    · rename_i b cs n m e1 e2
      obtain ⟨p, q, hv, _, hp, hq, _⟩ := S.deck e1
      obtain ⟨v, hv2, r2⟩ := S.get e2
      cases r2
      obtain ⟨w, hw, h⟩ := h
      exact ⟨_, hv, .inl ⟨_, _, _, _, rfl, rfl, .inl (.inl hp), rfl, _, hv2, .inl ⟨_, _, _, _, rfl, rfl, .inl (.inl hq), atI_map hw, k _ _ _ _ _ _ (Same.refl _) S (.int _) h⟩⟩⟩
    · exact h.elim
/-- deck[1] = e -/
def tDkSet (j : Nat) (te : TEd) : TSd := fun D E => te E fun y E1 => match E1[j]?, y with
  | some (.ow b (.dk cs _)), .int m => D.nx (E1.set j (.ow b (.dk cs m)))
  | _, _ => False
theorem s_dkSet (j : Nat) (he : PEd X e te) (hN : X.N[j]? = some x := by rfl) (hv : Vis X.env.scope x := by first | exact Or.inl rfl | exact Or.inr (Or.inl rfl) | exact Or.inr (Or.inr rfl)) (hd : (x == ("__debug__" : Str)) = false := by decide) (hcd : (x == ("__classdict__" : Str)) = false := by decide)
    (ha : ∀ v, assign (.Subscript (.Name x p) (.Constant (.int 1) c1 p1) p2) X.env v = (do
      let ov ← holding [v] (eval (.Name x p) X.env)
      let iv ← holding [v, ov] (eval (.Constant (.int 1) c1 p1) X.env)
      standAt p2
      holding [v, ov, iv] (setItem ov iv v)
      release [v, ov, iv] []) := by intro _; rfl)
    (hs : swapsWithSole [.Subscript (.Name x p) (.Constant (.int 1) c1 p1) p2] e pos.line X.env = pure false := by rfl) (hw : swappedStores [.Subscript (.Name x p) (.Constant (.int 1) c1 p1) p2] e X.env = pure none := by rfl)
    (h1 : (assignEach [.Subscript (.Name x p) (.Constant (.int 1) c1 p1) p2] X.env).map (·.2) = [assign (.Subscript (.Name x p) (.Constant (.int 1) c1 p1) p2) X.env] := by rfl) :
    PSd X (.Assign [.Subscript (.Name x p) (.Constant (.int 1) c1 p1) p2] e pos) (tDkSet j te) :=
  ps_imp (ps_asg he (pg_sub (pv j hN hv hd hcd) pe_int set_list ha) hs hw h1) fun D σ H ⟨en, Hf, F, E, Dd, S, h, k1, k2, k3, k4, k5⟩ =>
    ⟨en, Hf, F, E, _, S, h, fun v1 H1 Hf1 F1 E1 y s1 S1 r1 h1 => by
      split at h1
      · rename_i b cs n m e1
        cases r1
        obtain ⟨p, q, hv, _, hp, hq, cn, _⟩ := S1.deck e1
        exact ⟨_, hv, _, _, _, 1, rfl, rfl, hp, rfl, k1 _ _ _ _ _ s1 (cn m) h1⟩
      · exact h1.elim⟩
/-- deck[0][i] = e, i a name -/
def tDkPut (j i : Nat) (te : TEd) : TSd := fun D E => te E fun y E1 => match E1[j]?, E1[i]?, y with
  | some (.ow b (.dk cs n)), some (.fz (.int k)), .int m => ∃ l, ixN cs.length k = some l ∧ D.nx (E1.set j (.ow b (.dk (cs.set l m) n)))
  | _, _, _ => False
theorem s_dkPut (j i : Nat) {y : Str} (he : PEd X e te) (hN : X.N[j]? = some x := by rfl) (hv : Vis X.env.scope x := by first | exact Or.inl rfl | exact Or.inr (Or.inl rfl) | exact Or.inr (Or.inr rfl)) (hd : (x == ("__debug__" : Str)) = false := by decide) (hcd : (x == ("__classdict__" : Str)) = false := by decide)
    (hN2 : X.N[i]? = some y := by rfl) (hv2 : Vis X.env.scope y := by first | exact Or.inl rfl | exact Or.inr (Or.inl rfl) | exact Or.inr (Or.inr rfl)) (hd2 : (y == ("__debug__" : Str)) = false := by decide) (hcd2 : (y == ("__classdict__" : Str)) = false := by decide)
    (hx : PlainIx (.Constant (.int 0) c1 p1) := by exact fun _ _ => rfl)
    (ha : ∀ v, assign (.Subscript (.Subscript (.Name x p) (.Constant (.int 0) c1 p1) p2) (.Name y p3) p4) X.env v = (do
      let ov ← holding [v] (eval (.Subscript (.Name x p) (.Constant (.int 0) c1 p1) p2) X.env)
      let iv ← holding [v, ov] (eval (.Name y p3) X.env)
      standAt p4
      holding [v, ov, iv] (setItem ov iv v)
      release [v, ov, iv] []) := by intro _; rfl)
    (hs : swapsWithSole [.Subscript (.Subscript (.Name x p) (.Constant (.int 0) c1 p1) p2) (.Name y p3) p4] e pos.line X.env = pure false := by rfl) (hw : swappedStores [.Subscript (.Subscript (.Name x p) (.Constant (.int 0) c1 p1) p2) (.Name y p3) p4] e X.env = pure none := by rfl)
    (h1 : (assignEach [.Subscript (.Subscript (.Name x p) (.Constant (.int 0) c1 p1) p2) (.Name y p3) p4] X.env).map (·.2) = [assign (.Subscript (.Subscript (.Name x p) (.Constant (.int 0) c1 p1) p2) (.Name y p3) p4) X.env] := by rfl) :
    PSd X (.Assign [.Subscript (.Subscript (.Name x p) (.Constant (.int 0) c1 p1) p2) (.Name y p3) p4] e pos) (tDkPut j i te) :=
  ps_imp (ps_asg he (pg_sub (pe_ix ix_seq (pv j hN hv hd hcd) pe_int hx) (pv i hN2 hv2 hd2 hcd2) set_list ha) hs hw h1) fun D σ H ⟨en, Hf, F, E, Dd, S, h, k1, k2, k3, k4, k5⟩ =>
    ⟨en, Hf, F, E, _, S, h, fun v1 H1 Hf1 F1 E1 y s1 S1 r1 h1 => by
      split at h1
      · rename_i b cs n kk m e1 e2
        cases r1
        obtain ⟨p, q, hv, _, hp, hq, _, cc⟩ := S1.deck e1
        obtain ⟨v, hv2, r2⟩ := S1.get e2
        cases r2
        obtain ⟨l, hl, h1⟩ := h1
        have eq : (cs.map V.int).set l (V.int m) = (cs.set l m).map V.int := List.map_set.symm
        refine ⟨_, hv, .inl ⟨_, _, _, _, rfl, rfl, .inl (.inl hp), rfl, _, hv2, _, _, _, l, rfl, rfl, hq, by rw [List.length_map]; exact hl, ?_⟩⟩
        rw [eq]
        exact k1 _ _ _ _ _ s1 (cc _) h1
      · exact h1.elim⟩
end

section
variable {P : Program} {w : World} {K : PySem.W.Frag} {mg : Str → Option Value} {base : Heap}
/-- what makes the deck promises -/
def spDeck (K : PySem.W.Frag) : Sp := fun vs H Q _ => ∃ (a : Addr) (ns : List Int), vs = [.ref a] ∧ SqL K H a (ns.map V.int) ∧ ns.length ≤ 63 ∧
  ∀ (p q : Addr) (H' : Hp) (cs : List Int), p ≠ q → H p = none → H q = none → Same H H' → H' p = some (.lst [.ref q, .int 0]) → H' q = some (.lst (cs.map V.int)) → cs.length ≤ 63 → Q (.ref p) H'
/-- the law's promise -/
def spLaw (K : PySem.W.Frag) : Sp := fun vs H Q _ => ∃ (a : Addr) (ns : List Int), vs = [.ref a] ∧ SqL K H a (ns.map V.int) ∧ ns.length ≤ 63 ∧ (∀ t ∈ Tbs.T, H t.1 = some (.tbl #[])) ∧ ∀ H', Q (.bl true) H'
theorem law_deck {X : Cx} {CX : CXT} {k : Nat} {f : Addr} {fd : FuncData} {x dk sc : Str} {i : Nat} {p1 p2 p3 p4 pos : Pos} {rest : List Stmt} {t : TSd} {XE : XK} (F : FnG X.prog X.w X.K X.mg X.base CX k f fd [sc] (spDeck X.K)) (hgd : X.A.guards = some []) (hr : Room k X.A) (hm : X.mg x = some (.ref f)) (hk : PySem.W.keepIn X.K (.ref f) = true) (hb : Binds X.K fd [sc] []) (hx : Passes CX X XE)
    (hN : X.N.Nodup) (h0 : X.N[0]? = some sc) (hi : X.N[i]? = some dk) (hrest : PBd X rest t) (hg : Gl X x := by rfl) (hv : Vis X.env.scope sc := by first | exact Or.inl rfl | exact Or.inr (Or.inl rfl)) (hd : (sc == ("__debug__" : Str)) = false := by decide) (hcd : (sc == ("__classdict__" : Str)) = false := by decide) (hxd : (x == ("__debug__" : Str)) = false := by decide)
    (hl : Loc X.env.scope dk := by first | exact .inl rfl | exact .inr rfl) (hf : X.fn dk = true ∨ X.env.scope.names.lookup dk = some .local := by first | exact .inl rfl | exact .inr rfl)
    (he : starEach [.Name sc p3] X.env = (false, eval (.Name sc p3) X.env) :: starEach [] X.env := by rfl) (hs : swapsWith (.Call (.Name x p2) [.Name sc p3] [] p4) (some (.Name dk p1)) pos.line X.env = pure false := by rfl)
    {N : List Str} (eN : X.N = N) (hiN : 0 < i ∧ i < N.length) :
    PSs X (.Assign [.Name dk p1] (.Call (.Name x p2) [.Name sc p3] [] p4) pos :: rest) (fun D σ H => ∃ (a : Addr) (ns : List Int), σ = L2.start N [.ref a] ∧ SqL X.K H a (ns.map V.int) ∧ ns.length ≤ 63 ∧ (∀ t ∈ Tbs.T, H t.1 = some (.tbl #[])) ∧
      (∀ cs : List Int, cs.length ≤ 63 → t { nx := fun _ => False, rt := fun d _ => d = .bl true } ((List.replicate N.length Sl.un).set i (.ow false (.dk cs 0)))) ∧ ∀ H', D.rt (.bl true) H') :=
  pss_imp (pss_cons (ps_set hN hi hl (pe_callG F hgd hr hg hm hk hb hx (pa_cons (pv 0 h0 hv hd hcd) pa_nil he) hxd he) hs hf) hrest) fun D σ H ⟨a, ns, e1, hq, hlen, hT, ht, kk⟩ => by
    subst e1
    refine ⟨_, rfl, a, ns, rfl, hq, hlen, fun p q H' cs ne np nq s1 hp hq2 hl2 => ?_⟩
    show liftS X t D _ _
    have hlenN : (L2.start N [V.ref a]).length = N.length := by
      unfold L2.start
      simp only [List.length_append, List.length_map, List.length_replicate, List.length_cons, List.length_nil]
      omega
    have isT : ∀ b ∈ tabs, H b = some (.tbl #[]) := fun b hb => by
      obtain ⟨t, m, rfl⟩ := List.mem_map.mp hb
      exact hT t m
    have pT : p ∉ tabs := fun z => by
      have y := isT p z
      rw [np] at y
      cases y
    have qT : q ∉ tabs := fun z => by
      have y := isT q z
      rw [nq] at y
      cases y
    have e0s : ∀ b o, (if b ∈ tabs then none else H b) = some o → H b = some o := fun b o z => by
      split at z
      · cases z
      · exact z
    refine ⟨⟨fun b => if b ∈ tabs then none else H b, noHp, fun _ => [], fun _ => .non, noHp⟩, noHp, setF (fun _ => []) i (p :: q :: tabs), _, _, ?_, ht cs hl2, fun _ _ _ _ _ _ _ q => q.elim, fun _ _ _ _ _ _ _ q => q.elim, fun _ _ _ _ _ _ _ q => q.elim, fun v σ' H2 Hf' F' E' d s2 S2 r2 q2 => ?_, fun _ _ _ _ _ _ _ _ _ _ _ q => q.elim⟩
    · refine { sf := fun b o z => (nomatch z), so := fun b o _ z => s1 b o (e0s b o z), dom := fun b o z => ⟨o, s1 b o (e0s b o z)⟩, sp := fun b o z => (nomatch z), pf := fun b o z => (nomatch z), gf := fun b o z => (nomatch z), gn := fun b o z => (nomatch z), dj := fun j l b z1 z2 => ?_, fp := fun j b z => ?_, len := ?_, sl := fun j s z => ?_ }
      · have only : ∀ {j : Nat} {b : Addr}, b ∈ setF (fun _ => []) i (p :: q :: tabs) j → j = i := fun {j b} z => by
          by_cases y : j = i
          · exact y
          · rw [setF_ne y] at z
            cases z
        rw [only z1, only z2]
      · have y : j = i := by
          by_cases y : j = i
          · exact y
          · rw [setF_ne y] at z
            cases z
        subst y
        rw [setF_same] at z
        rcases List.mem_cons.mp z with rfl | z
        · exact ⟨rfl, ⟨_, hp⟩, .inr ((if_neg pT).trans np), rfl⟩
        · rcases List.mem_cons.mp z with rfl | z
          · exact ⟨rfl, ⟨_, hq2⟩, .inr ((if_neg qT).trans nq), rfl⟩
          · exact ⟨rfl, ⟨_, s1 _ _ (isT b z)⟩, .inr (if_pos z), rfl⟩
      · rw [List.length_set, List.length_set, List.length_replicate, hlenN]
      · by_cases y : j = i
        · subst y
          rw [List.getElem?_set_self (by rw [List.length_replicate]; exact hiN.2)] at z
          cases z
          refine ⟨.ref p, by rw [List.getElem?_set_self (by rw [hlenN]; exact hiN.2)], by rw [setF_same]; exact ⟨p, q, rfl, ne, rfl, hp, hq2, ⟨pT, qT⟩, fun t m => TabF.nil (s1 _ _ (hT t m))⟩, (fun z => by cases z), fun _ b z => ?_⟩
          rw [setF_same] at z
          rcases List.mem_cons.mp z with rfl | z
          · exact (if_neg pT).trans np
          · rcases List.mem_cons.mp z with rfl | z
            · exact (if_neg qT).trans nq
            · exact if_pos z
        · rw [List.getElem?_set_ne (Ne.symm y)] at z
          have z2 := List.mem_of_getElem? z
          rw [List.eq_of_mem_replicate z2]
          trivial
    · have q3 : d = .bl true := q2
      subst q3
      cases r2
      exact kk H2
end
end L3
namespace L3
open PySem PySem.Spec L2
open PyProof.Rows (IntsAre AllBare)
variable [Tbs]
section
variable {P : Program} {w : World} {K : PySem.W.Frag} {mg mb : Str → Option Value} {k : Nat} {fa a : Addr} {fd : FuncData} {x : Str} {s₁ : Shared} {vs : List Value} {ns : List Int}
/-- the call of the law over an abstract heap that tracks the script at most -/
theorem end_at (hT : Tbs.T = []) (H : Hp) (KX : K.In s₁.heap) (hns : s₁.heap.Ns mainGlobals mg) (hb : s₁.heap.Ns builtinsNs mb) (hbb : ∀ x : Str, x ≠ "__name__" → mb x = bootBuiltins x) (hlim : s₁.heap.NoLimit) (hg : s₁.gens = #[])
    (ha : s₁.heap.get? a = some { cls := .type "list", data := .seq vs.toArray }) (hr : Room k callerA)
    (F : ∀ base : Heap, K.In base → base.Ns mainGlobals mg → FnG P w K mg base CX0 k fa fd [x] (spLaw K)) (hbind : ∀ (s : Shared) (u : Value), BindsTo s fd ⟨[u], []⟩ [(x, u)]) (hl : ns.length ≤ 63)
    (hq : SqL K H a (ns.map V.int)) (hok : HOk P w H s₁.heap) (hH : ∀ b u, H b = some u → b = a ∧ ∃ o xs, u = .frz o (.lst xs)) (hK : ∀ u, H a = some u → K.lookup a = none) :
    codeAny (model P w) callerA (.call (.ref fa) ⟨[.ref a], []⟩) (fun r s' => r = .ok (.ret (.bool true)) ∧ OldK s₁.heap s'.heap ∧ s'.os = s₁.os ∧ AllBare s'.gens) s₁ := by
  -- what is no list of the script's is not tracked
  have un : ∀ b o, s₁.heap.get? b = some o → o.cls ≠ .type "list" ∨ K.lookup b = some o → H b = none := fun b o e d => by
    cases z : H b with
    | none => rfl
    | some u =>
      obtain ⟨rfl, _⟩ := hH b u z
      rw [ha] at e
      cases e
      rcases d with d | d
      · exact absurd rfl d
      · rw [hK u z] at d
        cases d
  have kin : K.In (hidT s₁.heap H) := fun b o e => hidT_get (KX b o e) (un b o (KX b o e) (.inr e))
  have nsK : ∀ {b : Addr} {m : Str → Option Value}, s₁.heap.Ns b m → (hidT s₁.heap H).Ns b m := fun {b m} ⟨o, es, ep, e, d, r⟩ => by
    refine ⟨o, es, ep, hidT_get e ?_, d, r⟩
    cases z : H b with
    | none => rfl
    | some u =>
      obtain ⟨rfl, _⟩ := hH b u z
      rw [ha] at e
      cases e
      cases d
  have md : Mod K mg (hidT s₁.heap H) := ⟨kin, nsK hns, ⟨mb, nsK hb, hbb⟩, let ⟨mc, h1, h2⟩ := hlim; ⟨mc, nsK h1, h2⟩⟩
  have e0 : Env0 P w K mg (hidT s₁.heap H) callerA [] s₁ H := ⟨rfl, md, fun b o e => of_hidT e, Nat.le_of_eq (hidT_size _ _), trivial, fun b hb => (nomatch hb), hok, .of_eq hg⟩
  refine codeAny_mono ((F _ kin (nsK hns)).run callerA rfl hr [] s₁ H ⟨[.ref a], []⟩ [.ref a] [.ref a] (fun v _ => v = .bl true) (fun _ _ _ => False) e0 (hbind s₁ (.ref a)) (.cons rfl .nil) ⟨a, ns, rfl, hq, hl, (fun t m => by rw [hT] at m; cases m), fun _ => rfl⟩) fun r s' h => ?_
  match r, h with
  | .ok (.ret u), ⟨v, H', os, bare, un', hok', rv, e⟩ =>
    cases e
    cases rv
    refine ⟨rfl, OldK.of_keep fun b o eb => ?_, os, bare⟩
    cases z : H b with
    | none => exact un'.keep b o eb z (fun y => nomatch y) (fun y => nomatch y)
    | some u =>
      obtain ⟨rfl, o1, xs, rfl⟩ := hH b u z
      obtain ⟨e1, _⟩ := hok b _ z
      obtain ⟨e2, _⟩ := hok' b _ (un'.frzs b _ _ z)
      rw [eb] at e1
      cases e1
      exact e2
end
theorem walkG {l : PySem.W.OpenLaw} {k : Nat} {q : Program} {loose : List Str} {XP : (Str → Option Value) → Heap → Prop} {YP : World → Heap → Prop} {d : DefRec} {K : Params → PySem.W.Frag} {x : Str} (hT : Tbs.T = []) (hn : l.most = some 63) (hdf : d.params.defaults = []) (hr : Room k callerA)
    (hY : ∀ (w : World) (h : Heap), YP w h → (K w.params).In h)
    (F : ∀ (w : World) (mg : Str → Option Value) (fa : Addr) (h : Heap), (K w.params).In h → h.Ns mainGlobals mg → mg d.name = some (.ref fa) →
      ∃ fd : FuncData, (∀ (s : Shared) (u : Value), BindsTo s fd ⟨[u], []⟩ [(x, u)]) ∧ ∀ base : Heap, (K w.params).In base → base.Ns mainGlobals mg → FnG l.prog w (K w.params) mg base CX0 k fa fd [x] (spLaw (K w.params))) :
    PySem.W.WalkO q loose XP YP l.row.toRowW d [] (fun f vs => PySem.call f vs) := by
  refine Att.attach_call hn hdf fun w s₀ s₁ mg mb fa o pm cd doc a vs ns G Y ho hd hcd hmg hobj hints hlen hg => ?_
  have KX := hY w _ Y
  obtain ⟨fd, hb, hF⟩ := F w mg fa _ KX G.T.g hmg
  have rv := vals_ints hints
  have go := fun (H : Hp) => end_at (mb := mb) (ns := ns) hT H KX G.T.g G.T.b G.T.builtins G.T.nolimit hg hobj hr hF hb hlen
  have h63 : (63 : Nat) ≤ sizeLine := by decide
  cases hk : (K w.params).lookup a with
  | some o =>
    have e := KX a o hk
    rw [hobj] at e
    cases e
    refine go (fun _ => none) (.inr ⟨_, vs.toArray, _, hk, rfl, rfl, rfl, ?_, by simpa using rv⟩) (fun b u z => (nomatch z)) (fun b u z => (nomatch z)) fun u z => (nomatch z)
    have e1 := hints.length
    rw [List.size_toArray]
    omega
  | none =>
    have at_a : upd noHp a (.frz { cls := .type "list", data := .seq vs.toArray } (.lst (ns.map V.int))) a = some (.frz { cls := .type "list", data := .seq vs.toArray } (.lst (ns.map V.int))) := upd_same
    have only : ∀ b u, upd noHp a (.frz { cls := .type "list", data := .seq vs.toArray } (.lst (ns.map V.int))) b = some u → b = a ∧ u = .frz { cls := .type "list", data := .seq vs.toArray } (.lst (ns.map V.int)) := fun b u z => by
      by_cases e : b = a
      · subst e
        rw [upd_same] at z
        cases z
        exact ⟨rfl, rfl⟩
      · rw [upd_ne e] at z
        cases z
    refine go (upd noHp a _) (.inl (.inr ⟨_, at_a⟩)) (fun b u z => ?_) (fun b u z => ?_) fun _ _ => hk
    · obtain ⟨rfl, rfl⟩ := only b u z
      refine ⟨hobj, ?_, vs, _, rv, hobj⟩
      rw [List.length_map]
      omega
    · obtain ⟨rfl, rfl⟩ := only b u z
      exact ⟨rfl, _, _, rfl⟩
end L3
namespace L3
open PySem L2
variable [Tbs]
section
variable {X : Cx} {a b : Expr} {ta tb : TEd} {pos : Pos}
def rdIsB : RD := fun x y E Q => match x, y with
  | .bl i, .bl j => Q (.bl (decide (i = j))) E
  | _, _ => False
def rdNotB : RD := fun x y E Q => match x, y with
  | .bl i, .bl j => Q (.bl (!decide (i = j))) E
  | _, _ => False
end
/-- the def st stands behind the name x -/
def Dfn (K : PySem.W.Frag) (mg : Str → Option Value) (x : Str) (st : Stmt) (ps : List Str) : Prop := ∃ f fd, Fun K x x st f fd ∧ mg x = some (.ref f) ∧ Binds K fd ps []
/-- a def with its promise, ready to be called -/
structure CalAt (P : Program) (w : World) (K : PySem.W.Frag) (mg : Str → Option Value) (base : Heap) (CX : CXT) (x : Str) (k : Nat) (ps : List Str) (sp : Sp) (f : Addr) (fd : FuncData) : Prop where
  fn : FnG P w K mg base CX k f fd ps sp
  mg : mg x = some (.ref f)
  kp : PySem.W.keepIn K (.ref f) = true
  bd : Binds K fd ps []
def Cal (P : Program) (w : World) (K : PySem.W.Frag) (mg : Str → Option Value) (base : Heap) (CX : CXT) (x : Str) (k : Nat) (ps : List Str) (sp : Sp) : Prop := ∃ f fd, CalAt P w K mg base CX x k ps sp f fd
/-- the built-ins' names are the built-ins' -/
structure Bl (mg : Str → Option Value) : Prop where
  len : mg "len" = none
  abs : mg "abs" = none
  int : mg "int" = none
  max : mg "max" = none
  min : mg "min" = none
  tuple : mg "tuple" = none
  list : mg "list" = none
  range : mg "range" = none
  sum : mg "sum" = none
  all : mg "all" = none
  any : mg "any" = none
  repr : mg "repr" = none
  sorted : mg "sorted" = none
  set : mg "set" = none
  isinstance : mg "isinstance" = none
  enumerate : mg "enumerate" = none
  zip : mg "zip" = none
  str : mg "str" = none
  divmod : mg "divmod" = none
  bool : mg "bool" = none
section
variable {P : Program} {w : World} {K : PySem.W.Frag} {mg : Str → Option Value} {base : Heap}
theorem cal_pure {x : Str} {st : Stmt} {N ps : List Str} {k : Nat} {sp : SpP} (d : Dfn K mg x st ps) (S : FnScope N ps (defScope st)) (hN : ps.length ≤ N.length) (len : ∀ ds Q, sp ds Q → ds.length = ps.length)
    (hbody : ∃ t : TSd, (∀ (f : Addr) (cdv : Value) (A : Around) (outer : List Env) (s : Shared) (H : Hp) (E : XK), A.guards = some [] → Room k (A.deeper (PyProof.Rows.envOfC x (defScope st) s.heap.objs.size f cdv)) →
      PBd (cxOf CX0 P w K mg base N x (defScope st) f cdv A outer s H E).nox (defBody st) t) ∧
      ∀ ds Q, sp ds Q → t { nx := fun _ => Q .non, rt := fun d _ => Q d } (startD N (ds.map .fz))) : Cal P w K mg base CX0 x (k + 1) ps (liftP K sp) := by
  obtain ⟨f, fd, F, hm, hb⟩ := d
  obtain ⟨t, h1, h2⟩ := hbody
  exact ⟨f, fd, fn_pure F S hN len ⟨t, h1 f, h2⟩, hm, F.kp, hb⟩
theorem cal_own {x : Str} {st : Stmt} {N ps : List Str} {k : Nat} {so : SpO} (d : Dfn K mg x st ps) (S : FnScope N ps (defScope st)) (len : ∀ o ds Q, so o ds Q → ds.length + 1 = ps.length)
    (hbody : ∃ t : TSd, (∀ (f : Addr) (cdv : Value) (A : Around) (outer : List Env) (s : Shared) (H : Hp) (E : XK), A.guards = some [] → Room k (A.deeper (PyProof.Rows.envOfC x (defScope st) s.heap.objs.size f cdv)) →
      PBd (cxOf CX0 P w K mg base N x (defScope st) f cdv A outer s H E).nox (defBody st) t) ∧
      ∀ o ds Q, so o ds Q → t { nx := fun E => ∃ o', E[0]? = some (.ow true o') ∧ Q .non o', rt := fun d E => ∃ o', E[0]? = some (.ow true o') ∧ Q d o' } (startD N (.ow true o :: ds.map .fz))) : Cal P w K mg base CX0 x (k + 1) ps (liftOw K so) := by
  obtain ⟨f, fd, F, hm, hb⟩ := d
  obtain ⟨t, h1, h2⟩ := hbody
  exact ⟨f, fd, fn_own F S len ⟨t, h1 f, h2⟩, hm, F.kp, hb⟩
end
def sp1 (R : D → (D → Prop) → Prop) : SpP := fun ds Q => match ds with
  | [x] => R x Q
  | _ => False
def sp2 (R : D → D → (D → Prop) → Prop) : SpP := fun ds Q => match ds with
  | [x, y] => R x y Q
  | _ => False
def sp3 (R : D → D → D → (D → Prop) → Prop) : SpP := fun ds Q => match ds with
  | [x, y, z] => R x y z Q
  | _ => False
def sp4 (R : D → D → D → D → (D → Prop) → Prop) : SpP := fun ds Q => match ds with
  | [x, y, z, u] => R x y z u Q
  | _ => False
theorem sp1_len {R} : ∀ ds Q, sp1 R ds Q → ds.length = 1 := fun ds Q h => by
  unfold sp1 at h
  split at h
  · rfl
  · exact h.elim
theorem sp2_len {R} : ∀ ds Q, sp2 R ds Q → ds.length = 2 := fun ds Q h => by
  unfold sp2 at h
  split at h
  · rfl
  · exact h.elim
theorem sp3_len {R} : ∀ ds Q, sp3 R ds Q → ds.length = 3 := fun ds Q h => by
  unfold sp3 at h
  split at h
  · rfl
  · exact h.elim
theorem sp1_by {R} {G : List D → (D → Prop) → Prop} (h : ∀ x Q, R x Q → G [x] Q) : ∀ ds Q, sp1 R ds Q → G ds Q := fun ds Q q => by
  unfold sp1 at q
  split at q
  · exact h _ _ q
  · exact q.elim
theorem sp2_by {R} {G : List D → (D → Prop) → Prop} (h : ∀ x y Q, R x y Q → G [x, y] Q) : ∀ ds Q, sp2 R ds Q → G ds Q := fun ds Q q => by
  unfold sp2 at q
  split at q
  · exact h _ _ _ q
  · exact q.elim
theorem sp3_by {R} {G : List D → (D → Prop) → Prop} (h : ∀ x y z Q, R x y z Q → G [x, y, z] Q) : ∀ ds Q, sp3 R ds Q → G ds Q := fun ds Q q => by
  unfold sp3 at q
  split at q
  · exact h _ _ _ _ q
  · exact q.elim
/-- a def over the deck: cells cs, counter n, then the other arguments -/
abbrev DkP := List Int → Int → (D → List Int → Int → Prop) → Prop
def so0 (R : DkP) : SpO := fun o ds Q => match o, ds with
  | .dk cs n, [] => R cs n fun d cs' n' => Q d (.dk cs' n')
  | _, _ => False
def so1 (R : D → DkP) : SpO := fun o ds Q => match o, ds with
  | .dk cs n, [x] => R x cs n fun d cs' n' => Q d (.dk cs' n')
  | _, _ => False
def so2 (R : D → D → DkP) : SpO := fun o ds Q => match o, ds with
  | .dk cs n, [x, y] => R x y cs n fun d cs' n' => Q d (.dk cs' n')
  | _, _ => False
def so3 (R : D → D → D → DkP) : SpO := fun o ds Q => match o, ds with
  | .dk cs n, [x, y, z] => R x y z cs n fun d cs' n' => Q d (.dk cs' n')
  | _, _ => False
theorem so0_len {R} : ∀ o ds Q, so0 R o ds Q → ds.length + 1 = 1 := fun o ds Q h => by
  unfold so0 at h
  split at h
  · rfl
  · exact h.elim
theorem so1_len {R} : ∀ o ds Q, so1 R o ds Q → ds.length + 1 = 2 := fun o ds Q h => by
  unfold so1 at h
  split at h
  · rfl
  · exact h.elim
theorem so0_by {R} {G : Ow → List D → (D → Ow → Prop) → Prop} (h : ∀ cs n Q, R cs n (fun d cs' n' => Q d (.dk cs' n')) → G (.dk cs n) [] Q) : ∀ o ds Q, so0 R o ds Q → G o ds Q := fun o ds Q q => by
  unfold so0 at q
  split at q
  · exact h _ _ _ q
  · exact q.elim
theorem so1_by {R} {G : Ow → List D → (D → Ow → Prop) → Prop} (h : ∀ x cs n Q, R x cs n (fun d cs' n' => Q d (.dk cs' n')) → G (.dk cs n) [x] Q) : ∀ o ds Q, so1 R o ds Q → G o ds Q := fun o ds Q q => by
  unfold so1 at q
  split at q
  · exact h _ _ _ _ q
  · exact q.elim
def DkOk (cs : List Int) (n : Int) : Prop := cs.length ≤ 63 ∧ 0 ≤ n
/-- _law_draw -/
def R_draw : D → DkP := fun m cs n Q => ∃ k : Int, m = .int k ∧ DkOk cs n ∧ n < 2 ^ 40 ∧ 0 < k ∧ k.natAbs.log2 < 9000 ∧ ∀ (r : Int) (cs' : List Int), cs'.length ≤ 63 → 0 ≤ r → r < k → Q (.int r) cs' (n + 1)
/-- _law_one -/
def R_one : D → DkP := fun m cs n Q => ∃ xs : List D, (m = .lst xs ∨ m = .tup xs) ∧ DkOk cs n ∧ n < 2 ^ 40 ∧ 0 < xs.length ∧ xs.length ≤ sizeLine ∧ ∀ (x : D) (cs' : List Int), cs'.length ≤ 63 → x ∈ xs → Q x cs' (n + 1)
end L3
namespace L3
open PySem L2
variable [Tbs]
theorem deck_reading {K : PySem.W.Frag} {a : Addr} {ns : List Int} {H : Hp} {Q : VK} (hq : SqL K H a (ns.map V.int)) (hl : ns.length ≤ 63)
    (k : ∀ (p q : Addr) (H' : Hp) (cs : List Int), p ≠ q → H p = none → H q = none → Same H H' → H' p = some (.lst [.ref q, .int 0]) → H' q = some (.lst (cs.map V.int)) → cs.length ≤ 63 → Q (.ref p) H') {nx : St → Hp → Prop} :
    tRet (tLst (tCons (tLc (iList K (tSl (rSlL K) (tVar 0) tNoPart (tPart (tC (.int 63))))) (gName 1) tYes (tCB (fun xs H Q => ∃ i, xs = [.int i] ∧ Q (.int (if i < 0 then -i else i)) H) (tCons (tVar 1) tNil)) [1]) (tCons (tC (.int 0)) tNil)))
      { nx := nx, rt := Q } [some (.ref a), none] H := by
  refine ⟨.ref a, rfl, 63, rfl, a, _, rfl, hq, fun l nl => ⟨l, rfl, ⟨_, SqL.of upd_same⟩, fun D nD => ?_⟩⟩
  have hcut : cutV (ns.map V.int) none (some 63) = (cutL ns none (some 63)).map V.int := by
    unfold cutV cutL
    rw [List.length_map, List.map_take, List.map_drop]
  have clen : (cutL ns none (some 63)).length ≤ 63 := by
    have h1 : (cutL ns none (some 63)).length ≤ ns.length := by
      unfold cutL
      rw [List.length_take, List.length_drop]
      omega
    omega
  have s1 : Same H (upd H l (.lst (cutV (ns.map V.int) none (some 63)))) := same_upd nl
  have nHD : H D = none := s1.free nD
  have nlD : l ≠ D := fun e => by
    rw [← e, upd_same] at nD
    cases nD
  refine lc_list (K := K) (a := l) (xs := cutV (ns.map V.int) none (some 63)) (fun i H' => i ≤ 63 ∧ ∃ acc : List Int, Same (upd H l (.lst (cutV (ns.map V.int) none (some 63)))) (upd H' D (.lst [])) ∧ (∀ b u, upd H l (.lst (cutV (ns.map V.int) none (some 63))) b = some u → H' b = some u) ∧ H' D = some (.lst (acc.map V.int)) ∧ acc.length = i) ?_ ?_ ?_ ?_
  · refine ⟨by omega, [], ?_, ?_, upd_same, rfl⟩
    · rw [upd_upd]
      exact same_upd nD
    · exact same_upd nD
  · rintro i H' hi ⟨_, acc, _, h2, _⟩
    exact SqL.of (h2 _ _ upd_same)
  · rintro i x H' hi ⟨h0, acc, h1, h2, h3, h4⟩
    have hib : i < 63 := by
      have q := (List.getElem?_eq_some_iff.mp hi).1
      rw [hcut, List.length_map] at q
      omega
    obtain ⟨m, rfl⟩ : ∃ m, x = V.int m := by
      rw [hcut, List.getElem?_map] at hi
      cases e : (cutL ns none (some 63))[i]? with
      | none =>
        rw [e] at hi
        cases hi
      | some m =>
        rw [e] at hi
        exact ⟨m, (Option.some.inj hi).symm⟩
    refine ⟨rfl, ?_⟩
    refine ⟨.int m, rfl, m, rfl, acc.map V.int, h3, ?_, by omega, acc ++ [if m < 0 then -m else m], ?_, ?_, ?_, by rw [List.length_append, h4]; rfl⟩
    · rw [List.length_map, h4]
      exact Nat.lt_of_le_of_lt h0 (by decide)
    · rw [upd_upd]
      exact h1
    · intro b u e
      have nb : b ≠ D := ne_of_none e nD
      rw [upd_ne nb]
      exact h2 b u e
    · rw [upd_same, List.map_append]
      rfl
  · rintro H' ⟨h0, acc, h1, h2, h3, h4⟩
    refine ⟨show (2 : Nat) ≤ sizeLine by decide, fun p np => ?_⟩
    have sH : Same H H' := fun b u e => h2 b u (s1 b u e)
    have hpD : p ≠ D := fun e => by
      rw [e, h3] at np
      cases np
    refine k p D _ acc hpD (sH.free np) nHD (sH.trans (same_upd np)) upd_same ?_ ?_
    · rw [upd_ne (Ne.symm hpD)]
      exact h3
    · rw [h4]
      exact h0
section
variable {P : Program} {w : World} {K : PySem.W.Frag} {mg : Str → Option Value} {base : Heap}
theorem cal_deck {x : Str} {st : Stmt} (d : Dfn K mg x st ["_law_script"]) (S : FnScope ["_law_script", "_law_cell"] ["_law_script"] (defScope st))
    (hb : ∀ (f : Addr) (cdv : Value) (A : Around) (outer : List Env) (s : Shared) (H : Hp) (E : XK), PSs (cxOf CX0 P w K mg base ["_law_script", "_law_cell"] x (defScope st) f cdv A outer s H E).nox (defBody st)
      (tRet (tLst (tCons (tLc (iList K (tSl (rSlL K) (tVar 0) tNoPart (tPart (tC (.int 63))))) (gName 1) tYes (tCB (fun xs H Q => ∃ i, xs = [.int i] ∧ Q (.int (if i < 0 then -i else i)) H) (tCons (tVar 1) tNil)) [1]) (tCons (tC (.int 0)) tNil))))) :
    Cal P w K mg base CX0 x 1 ["_law_script"] (spDeck K) := by
  obtain ⟨f, fd, F, hm, hbd⟩ := d
  refine ⟨f, fd, FnG.body F S (fun vs H Q E ⟨a, ns, e, _⟩ => by rw [e]; rfl) (fun cdv A outer s H vs Q E hgd hr h => ⟨_, (hb f cdv A outer s H E).nox, ?_⟩), hm, F.kp, hbd⟩
  obtain ⟨a, ns, rfl, hq, hl, k⟩ := h
  exact deck_reading hq hl k
end
theorem seq_intro {u w : TSd} {nx bk ct : En → Prop} {rt : D → En → Prop} {ex : Xd → En → Prop} {E : En} (h : ∀ k : En → Prop, k = w { nx := nx, rt := rt, bk := bk, ct := ct, ex := ex } → u { nx := k, rt := rt, bk := bk, ct := ct, ex := ex } E) : tSeqD u w { nx := nx, rt := rt, bk := bk, ct := ct, ex := ex } E := h _ rfl
theorem ite_by {c : Prop} [Decidable c] {A B : Prop} (h1 : c → A) (h2 : ¬ c → B) : if decide c = true then A else B := by
  by_cases h : c
  · rw [if_pos (decide_eq_true h)]
    exact h1 h
  · rw [if_neg (by simpa using h)]
    exact h2 h
theorem ite_nby {c : Prop} [Decidable c] {A B : Prop} (h1 : ¬ c → A) (h2 : c → B) : if (!decide c) = true then A else B := by
  by_cases h : c
  · rw [if_neg (by simpa using h)]
    exact h2 h
  · rw [if_pos (by simpa using h)]
    exact h1 h
/-- n slots that may be stored to -/
def Frees : Nat → En → Prop
  | 0, l => l = []
  | n + 1, l => ∃ s r, l = s :: r ∧ s.free ∧ Frees n r
theorem atI0 {α : Type} {x0 : α} {l : List α} : atI (x0 :: l) 0 = some x0 := atI_nat (xs := x0 :: l) (j := 0) rfl
theorem atI1 {α : Type} {x0 x1 : α} {l : List α} : atI (x0 :: x1 :: l) 1 = some x1 := atI_nat (xs := x0 :: x1 :: l) (j := 1) rfl
theorem atI2 {α : Type} {x0 x1 x2 : α} {l : List α} : atI (x0 :: x1 :: x2 :: l) 2 = some x2 := atI_nat (xs := x0 :: x1 :: x2 :: l) (j := 2) rfl
theorem atI3 {α : Type} {x0 x1 x2 x3 : α} {l : List α} : atI (x0 :: x1 :: x2 :: x3 :: l) 3 = some x3 := atI_nat (xs := x0 :: x1 :: x2 :: x3 :: l) (j := 3) rfl
theorem atI4 {α : Type} {x0 x1 x2 x3 x4 : α} {l : List α} : atI (x0 :: x1 :: x2 :: x3 :: x4 :: l) 4 = some x4 := atI_nat (xs := x0 :: x1 :: x2 :: x3 :: x4 :: l) (j := 4) rfl
theorem atI5 {α : Type} {x0 x1 x2 x3 x4 x5 : α} {l : List α} : atI (x0 :: x1 :: x2 :: x3 :: x4 :: x5 :: l) 5 = some x5 := atI_nat (xs := x0 :: x1 :: x2 :: x3 :: x4 :: x5 :: l) (j := 5) rfl
theorem atI6 {α : Type} {x0 x1 x2 x3 x4 x5 x6 : α} {l : List α} : atI (x0 :: x1 :: x2 :: x3 :: x4 :: x5 :: x6 :: l) 6 = some x6 := atI_nat (xs := x0 :: x1 :: x2 :: x3 :: x4 :: x5 :: x6 :: l) (j := 6) rfl
theorem atI7 {α : Type} {x0 x1 x2 x3 x4 x5 x6 x7 : α} {l : List α} : atI (x0 :: x1 :: x2 :: x3 :: x4 :: x5 :: x6 :: x7 :: l) 7 = some x7 := atI_nat (xs := x0 :: x1 :: x2 :: x3 :: x4 :: x5 :: x6 :: x7 :: l) (j := 7) rfl
theorem atI8 {α : Type} {x0 x1 x2 x3 x4 x5 x6 x7 x8 : α} {l : List α} : atI (x0 :: x1 :: x2 :: x3 :: x4 :: x5 :: x6 :: x7 :: x8 :: l) 8 = some x8 := atI_nat (xs := x0 :: x1 :: x2 :: x3 :: x4 :: x5 :: x6 :: x7 :: x8 :: l) (j := 8) rfl
theorem atI9 {α : Type} {x0 x1 x2 x3 x4 x5 x6 x7 x8 x9 : α} {l : List α} : atI (x0 :: x1 :: x2 :: x3 :: x4 :: x5 :: x6 :: x7 :: x8 :: x9 :: l) 9 = some x9 := atI_nat (xs := x0 :: x1 :: x2 :: x3 :: x4 :: x5 :: x6 :: x7 :: x8 :: x9 :: l) (j := 9) rfl
theorem atI10 {α : Type} {x0 x1 x2 x3 x4 x5 x6 x7 x8 x9 x10 : α} {l : List α} : atI (x0 :: x1 :: x2 :: x3 :: x4 :: x5 :: x6 :: x7 :: x8 :: x9 :: x10 :: l) 10 = some x10 := atI_nat (xs := x0 :: x1 :: x2 :: x3 :: x4 :: x5 :: x6 :: x7 :: x8 :: x9 :: x10 :: l) (j := 10) rfl
theorem atI11 {α : Type} {x0 x1 x2 x3 x4 x5 x6 x7 x8 x9 x10 x11 : α} {l : List α} : atI (x0 :: x1 :: x2 :: x3 :: x4 :: x5 :: x6 :: x7 :: x8 :: x9 :: x10 :: x11 :: l) 11 = some x11 := atI_nat (xs := x0 :: x1 :: x2 :: x3 :: x4 :: x5 :: x6 :: x7 :: x8 :: x9 :: x10 :: x11 :: l) (j := 11) rfl
theorem atI12 {α : Type} {x0 x1 x2 x3 x4 x5 x6 x7 x8 x9 x10 x11 x12 : α} {l : List α} : atI (x0 :: x1 :: x2 :: x3 :: x4 :: x5 :: x6 :: x7 :: x8 :: x9 :: x10 :: x11 :: x12 :: l) 12 = some x12 := atI_nat (xs := x0 :: x1 :: x2 :: x3 :: x4 :: x5 :: x6 :: x7 :: x8 :: x9 :: x10 :: x11 :: x12 :: l) (j := 12) rfl
theorem atIm1 {α : Type} {x0 : α} : atI [x0] (-1) = some x0 := rfl
theorem atIm2 {α : Type} {x0 x1 : α} : atI [x0, x1] (-1) = some x1 := rfl
theorem atIm3 {α : Type} {x0 x1 x2 : α} : atI [x0, x1, x2] (-1) = some x2 := rfl
theorem atIm4 {α : Type} {x0 x1 x2 x3 : α} : atI [x0, x1, x2, x3] (-1) = some x3 := rfl
theorem atIm5 {α : Type} {x0 x1 x2 x3 x4 : α} : atI [x0, x1, x2, x3, x4] (-1) = some x4 := rfl
theorem cdiv60 {i j : Int} (h0 : 0 < j) (h1 : j < 1152921504606846976) : CDivW i j := ⟨h0, by
  have h2 : j.natAbs < 2 ^ 60 := by
    have e : (2 ^ 60 : Nat) = 1152921504606846976 := by decide
    omega
  exact Nat.lt_of_lt_of_le (PySem.Flt.log2_lt_of (by decide) h2) (by decide)⟩
theorem log60 {j : Int} (h0 : 0 < j) (h1 : j < 1152921504606846976) : j.natAbs.log2 < 9000 := (cdiv60 (i := 0) h0 h1).2
theorem cmulL {i j : Int} (h0 : -18446744073709551616 < i) (h1 : i < 18446744073709551616) : CMulA i j := .inl (.inl ⟨h0, h1⟩)
theorem cmulR {i j : Int} (h0 : -18446744073709551616 < j) (h1 : j < 18446744073709551616) : CMulA i j := .inl (.inr ⟨h0, h1⟩)
theorem cpow {i j : Int} (h0 : 0 ≤ j) (h1 : j ≤ 1000000) (h2 : -18446744073709551616 < i) (h3 : i < 18446744073709551616) : CPow i j := ⟨h0, h1, by
  have e : (2 : Nat) ^ 64 = 18446744073709551616 := by decide
  omega⟩
theorem small_le {n : Nat} (h : n ≤ 16777216) : n ≤ sizeLine := by rw [sizeLine_eq]; exact h
theorem small_lt {n : Nat} (h : n < 16777216) : n < sizeLine := by rw [sizeLine_eq]; exact h
theorem atI_ex {α : Type} {xs : List α} {i : Int} (h0 : 0 ≤ i) (h1 : i < xs.length) : ∃ x, atI xs i = some x ∧ x ∈ xs := by
  have hi : i.toNat < xs.length := by omega
  obtain ⟨x, hx⟩ : ∃ x, xs[i.toNat]? = some x := getE hi
  have e : ((i.toNat : Nat) : Int) = i := by omega
  have q := atI_nat hx
  rw [e] at q
  exact ⟨x, q, List.mem_of_getElem? hx⟩
theorem ixN_ex {n : Nat} {i : Int} (h0 : 0 ≤ i) (h1 : i < n) : ∃ l, ixN n i = some l ∧ l < n := by
  refine ⟨i.toNat, ?_, by omega⟩
  unfold ixN
  rw [if_pos h0, if_pos h1]
end L3
namespace L3
open PySem L2
variable [Tbs]
section
variable {X : Cx} {a b : Expr} {t : TAd} {p pos : Pos}
def rbSumA : RB := fun ds E Q => match ds with
  | [.lst xs] => ∃ ns : List Int, xs = ns.map D.int ∧ Q (.int ns.sum) E
  | [.tup xs] => ∃ ns : List Int, xs = ns.map D.int ∧ Q (.int ns.sum) E
  | _ => False
def rbDivmod : RB := fun ds E Q => match ds with
  | [.int i, .int j] => CDiv i j ∧ Q (.tup [.int (i / j), .int (i % j)]) E
  | _ => False
end
end L3
namespace L3
open PySem L2
variable [Tbs]
section
variable {X : Cx} {tg a b : Expr} {p pos : Pos} {t : TAd}
def iRng2W (te : TAd) : TId := fun E Q => te E fun xs E1 => match xs with
  | [.int m, .int n] => Q (rngD m (n - m).toNat) E1
  | _ => False
end
end L3
namespace L3
open PySem L2
variable [Tbs]
theorem cutL_map {α β : Type} (f : α → β) (xs : List α) (lo hi : Option Int) : cutL (xs.map f) lo hi = (cutL xs lo hi).map f := by
  unfold cutL
  rw [List.length_map, List.map_take, List.map_drop]
theorem sIx_nn {n d : Nat} {i : Int} (h0 : 0 ≤ i) : HT.sIx n d (some i) = min i.toNat n := by
  show (if i < 0 then (i + (n : Int)).toNat else min i.toNat n) = _
  rw [if_neg (by omega)]
theorem cutL_to {α : Type} {xs : List α} {i : Int} (h0 : 0 ≤ i) : cutL xs none (some i) = xs.take i.toNat := by
  unfold cutL
  rw [sIx_nn h0]
  show (xs.drop 0).take _ = _
  rw [List.drop_zero, List.take_eq_take_iff]
  simp [HT.sIx]
theorem cutL_from {α : Type} {xs : List α} {i : Int} (h0 : 0 ≤ i) : cutL xs (some i) none = xs.drop i.toNat := by
  unfold cutL
  rw [sIx_nn h0]
  show (xs.drop _).take (xs.length - _) = _
  rw [← List.length_drop, List.take_length]
  by_cases h : i.toNat ≤ xs.length
  · rw [Nat.min_eq_left h]
  · rw [Nat.min_eq_right (by omega), List.drop_length, List.drop_eq_nil_of_le (by omega)]
/-- what is shown: how deep, how long -/
structure Sh (k m : Nat) (d : D) : Prop where
  plain : d.plain = true
  able : PyData.showable d.py = true
  size : (PyData.shown d.py).length ≤ m
  deep : PyData.depth d.py ≤ k
structure ShL (k m : Nat) (ds : List D) : Prop where
  plain : D.plainL ds = true
  able : PyData.showableAll (D.pyL ds) = true
  size : ((PyData.shownAll (D.pyL ds)).map (·.length)).sum + 2 * (PyData.shownAll (D.pyL ds)).length ≤ m
  deep : PyData.depthAll (D.pyL ds) ≤ k
theorem Sh.sh {k m : Nat} {d : D} (h : Sh k m d) (h1 : k ≤ 60) (h2 : m ≤ 16777216) : d.sh := ⟨h.plain, h.able, Nat.le_trans h.size (small_le h2), Nat.le_trans h.deep h1⟩
theorem log_of {a : Int} {k : Nat} (h0 : 0 < k) (h : a.natAbs < 2 ^ k) : a.natAbs.log2 < k := PySem.Flt.log2_lt_of h0 h
theorem Sh.int {a : Int} {b : Nat} (h0 : 0 < b) (h1 : b ≤ 1920) (h : a.natAbs < 2 ^ b) : Sh 0 (b + 1) (.int a) := by
  have la := log_of h0 h
  refine ⟨rfl, decide_eq_true (show a.natAbs.log2 < 1920 by omega), ?_, Nat.le_refl _⟩
  show (Str.ofString (toString a)).length ≤ _
  rw [ofString_length]
  exact int_text_length_le h0 la
theorem Sh.non : Sh 0 4 .non := ⟨rfl, rfl, Nat.le_refl _, Nat.le_refl _⟩
theorem Sh.bl {b : Bool} : Sh 0 5 (.bl b) := ⟨rfl, rfl, by cases b <;> decide, Nat.le_refl _⟩
theorem Sh.lst {k m : Nat} {ds : List D} (h : ShL k m ds) : Sh (k + 1) (m + 3) (.lst ds) := ⟨h.plain, h.able, by
  have e := listText_len_le (PyData.shownAll (D.pyL ds))
  have e2 := h.size
  show (listText (PyData.shownAll (D.pyL ds))).length ≤ _
  omega, Nat.succ_le_succ h.deep⟩
theorem Sh.tup {k m : Nat} {ds : List D} (h : ShL k m ds) : Sh (k + 1) (m + 3) (.tup ds) := ⟨h.plain, h.able, by
  have e := tupleText_len_le (PyData.shownAll (D.pyL ds))
  have e2 := h.size
  show (tupleText (PyData.shownAll (D.pyL ds))).length ≤ _
  omega, Nat.succ_le_succ h.deep⟩
theorem ShL.nil {k : Nat} : ShL k 0 [] := ⟨rfl, rfl, Nat.le_refl _, Nat.zero_le _⟩
theorem ShL.cons {k k' m m' : Nat} {d : D} {ds : List D} (h : Sh k m d) (h' : ShL k' m' ds) : ShL (max k k') (m + m' + 2) (d :: ds) := ⟨Bool.and_eq_true_iff.mpr ⟨h.plain, h'.plain⟩, Bool.and_eq_true_iff.mpr ⟨h.able, h'.able⟩, by
  show ((PyData.shown d.py :: PyData.shownAll (D.pyL ds)).map (·.length)).sum + 2 * (PyData.shown d.py :: PyData.shownAll (D.pyL ds)).length ≤ _
  have e := h.size
  have e2 := h'.size
  rw [List.map_cons, List.sum_cons, List.length_cons]
  omega, by
  show max (PyData.depth d.py) (PyData.depthAll (D.pyL ds)) ≤ _
  have e := h.deep
  have e2 := h'.deep
  omega⟩
end L3
namespace L3
open PySem L2
variable [Tbs]
/-- the name of the class -/
def D.tyN : D → Option String
  | .non => some "NoneType"
  | .bl _ => some "bool"
  | .int _ => some "int"
  | .str _ => some "str"
  | .tup _ => some "tuple"
  | .lst _ => some "list"
  | .dct _ => some "dict"
  | .opq _ => none
  | .pt _ => none
  | .ps _ => none
  | .ins _ _ => none
def kitD (d : D) (n : String) : Option Bool := d.tyN.bind fun m => kitB m n
theorem kit_non_int : kitD D.non "int" = some false := show kitB "NoneType" "int" = _ by decide +kernel
theorem kit_non_bool : kitD D.non "bool" = some false := show kitB "NoneType" "bool" = _ by decide +kernel
theorem kit_non_str : kitD D.non "str" = some false := show kitB "NoneType" "str" = _ by decide +kernel
theorem kit_non_tuple : kitD D.non "tuple" = some false := show kitB "NoneType" "tuple" = _ by decide +kernel
theorem kit_non_list : kitD D.non "list" = some false := show kitB "NoneType" "list" = _ by decide +kernel
theorem kit_non_dict : kitD D.non "dict" = some false := show kitB "NoneType" "dict" = _ by decide +kernel
theorem kit_bl_int {b : Bool} : kitD (D.bl b) "int" = some true := show kitB "bool" "int" = _ by decide +kernel
theorem kit_bl_bool {b : Bool} : kitD (D.bl b) "bool" = some true := show kitB "bool" "bool" = _ by decide +kernel
theorem kit_bl_str {b : Bool} : kitD (D.bl b) "str" = some false := show kitB "bool" "str" = _ by decide +kernel
theorem kit_bl_tuple {b : Bool} : kitD (D.bl b) "tuple" = some false := show kitB "bool" "tuple" = _ by decide +kernel
theorem kit_bl_list {b : Bool} : kitD (D.bl b) "list" = some false := show kitB "bool" "list" = _ by decide +kernel
theorem kit_bl_dict {b : Bool} : kitD (D.bl b) "dict" = some false := show kitB "bool" "dict" = _ by decide +kernel
theorem kit_int_int {i : Int} : kitD (D.int i) "int" = some true := show kitB "int" "int" = _ by decide +kernel
theorem kit_int_bool {i : Int} : kitD (D.int i) "bool" = some false := show kitB "int" "bool" = _ by decide +kernel
theorem kit_int_str {i : Int} : kitD (D.int i) "str" = some false := show kitB "int" "str" = _ by decide +kernel
theorem kit_int_tuple {i : Int} : kitD (D.int i) "tuple" = some false := show kitB "int" "tuple" = _ by decide +kernel
theorem kit_int_list {i : Int} : kitD (D.int i) "list" = some false := show kitB "int" "list" = _ by decide +kernel
theorem kit_int_dict {i : Int} : kitD (D.int i) "dict" = some false := show kitB "int" "dict" = _ by decide +kernel
theorem kit_str_int {x : Str} : kitD (D.str x) "int" = some false := show kitB "str" "int" = _ by decide +kernel
theorem kit_str_bool {x : Str} : kitD (D.str x) "bool" = some false := show kitB "str" "bool" = _ by decide +kernel
theorem kit_str_str {x : Str} : kitD (D.str x) "str" = some true := show kitB "str" "str" = _ by decide +kernel
theorem kit_str_tuple {x : Str} : kitD (D.str x) "tuple" = some false := show kitB "str" "tuple" = _ by decide +kernel
theorem kit_str_list {x : Str} : kitD (D.str x) "list" = some false := show kitB "str" "list" = _ by decide +kernel
theorem kit_str_dict {x : Str} : kitD (D.str x) "dict" = some false := show kitB "str" "dict" = _ by decide +kernel
theorem kit_tup_int {xs : List D} : kitD (D.tup xs) "int" = some false := show kitB "tuple" "int" = _ by decide +kernel
theorem kit_tup_bool {xs : List D} : kitD (D.tup xs) "bool" = some false := show kitB "tuple" "bool" = _ by decide +kernel
theorem kit_tup_str {xs : List D} : kitD (D.tup xs) "str" = some false := show kitB "tuple" "str" = _ by decide +kernel
theorem kit_tup_tuple {xs : List D} : kitD (D.tup xs) "tuple" = some true := show kitB "tuple" "tuple" = _ by decide +kernel
theorem kit_tup_list {xs : List D} : kitD (D.tup xs) "list" = some false := show kitB "tuple" "list" = _ by decide +kernel
theorem kit_tup_dict {xs : List D} : kitD (D.tup xs) "dict" = some false := show kitB "tuple" "dict" = _ by decide +kernel
theorem kit_lst_int {xs : List D} : kitD (D.lst xs) "int" = some false := show kitB "list" "int" = _ by decide +kernel
theorem kit_lst_bool {xs : List D} : kitD (D.lst xs) "bool" = some false := show kitB "list" "bool" = _ by decide +kernel
theorem kit_lst_str {xs : List D} : kitD (D.lst xs) "str" = some false := show kitB "list" "str" = _ by decide +kernel
theorem kit_lst_tuple {xs : List D} : kitD (D.lst xs) "tuple" = some false := show kitB "list" "tuple" = _ by decide +kernel
theorem kit_lst_list {xs : List D} : kitD (D.lst xs) "list" = some true := show kitB "list" "list" = _ by decide +kernel
theorem kit_lst_dict {xs : List D} : kitD (D.lst xs) "dict" = some false := show kitB "list" "dict" = _ by decide +kernel
theorem kit_dct_int {ks : List (Key × D)} : kitD (D.dct ks) "int" = some false := show kitB "dict" "int" = _ by decide +kernel
theorem kit_dct_bool {ks : List (Key × D)} : kitD (D.dct ks) "bool" = some false := show kitB "dict" "bool" = _ by decide +kernel
theorem kit_dct_str {ks : List (Key × D)} : kitD (D.dct ks) "str" = some false := show kitB "dict" "str" = _ by decide +kernel
theorem kit_dct_tuple {ks : List (Key × D)} : kitD (D.dct ks) "tuple" = some false := show kitB "dict" "tuple" = _ by decide +kernel
theorem kit_dct_list {ks : List (Key × D)} : kitD (D.dct ks) "list" = some false := show kitB "dict" "list" = _ by decide +kernel
theorem kit_dct_dict {ks : List (Key × D)} : kitD (D.dct ks) "dict" = some true := show kitB "dict" "dict" = _ by decide +kernel
def isTs (d : D) : List D → Option Bool
  | [] => some false
  | .opq (.ty n) :: r => (match kitD d n, isTs d r with | some a, some b => some (a || b) | _, _ => none)
  | _ => none
def isT (d : D) : D → Option Bool
  | .opq (.ty n) => kitD d n
  | .tup cs => (match d.tyN with | some _ => isTs d cs | none => none)
  | _ => none
theorem Rep.tyX {K : PySem.W.Frag} {H : Hp} {v : V} {d : D} {n : String} (r : Rep K H v d) (h : d.tyN = some n) : TyX K H v (.type n) := by
  cases r with
  | non => cases h; exact .base .non
  | bl b => cases h; exact .base (.bl b)
  | int i => cases h; exact .base (.int i)
  | str x => cases h; exact .base (.str x)
  | opq v => cases h
  | pt _ _ => cases h
  | ps _ _ => cases h
  | ins _ _ _ => cases h
  | tup s l =>
    cases h
    rcases s with (e | ⟨o, e⟩) | ⟨o, its, m, e, c, _⟩
    · exact .base (.tup e)
    · exact .fTuple e
    · exact .kTuple e c
  | lst s l => cases h; exact .base (.lst s)
  | dct s l => cases h; exact .base (.dK s)
theorem isTs_ok {K : PySem.W.Frag} {H : Hp} {d : D} {m : String} (hd : d.tyN = some m) : ∀ {vs : List V} {cs : List D} {b : Bool}, RepL K H vs cs → isTs d cs = some b → ∃ us : List Value, Paired ClsV vs us ∧ PySem.W.kitAny K (.type m) us = some b
  | _, _, b, .nil, h => by
    cases h
    exact ⟨[], .nil, kitAny_nil⟩
  | _, _, b, .cons rc l, h => by
    unfold isTs at h
    split at h
    · rename_i e
      cases e
    · rename_i n r' e
      cases e
      cases rc
      split at h
      · rename_i a b' e1 e2
        cases h
        obtain ⟨us, hu, hk⟩ := isTs_ok hd l e2
        have k1 : PySem.W.kitOne K (.type m) (.type n) = some a := by
          unfold kitD at e1
          rw [hd] at e1
          exact kit_ty e1
        refine ⟨_, .cons (.ty n) hu, kitAny_cons k1 (fun z => ?_) fun z => ?_⟩
        · rw [z]
          exact hk
        · rw [z]
          rfl
      · cases h
    · cases h
def rbIsi : RB := fun ds E Q => match ds with
  | [d, c] => (match isT d c with | some b => Q (.bl b) E | none => False)
  | _ => False
section
variable {X : Cx} {a b e : Expr} {t : TAd} {te : TEd} {p p2 pos : Pos}
theorem d_ty {x : Str} {n : String} (hm : X.mg x = none) (hv : bootBuiltins x = some (.type n)) (hg : Gl X x := by rfl) (hn : x ≠ "__name__" := by decide) (hdb : (x == ("__debug__" : Str)) = false := by decide) : PEd X (.Name x pos) (tCD (.opq (.ty n))) :=
  d_const (pe_bltn (v := .ty n) hg hm hv (show Value.type n = Value.type n from rfl) hn hdb) fun _ => .opq _
theorem cr_isiT : CallR X (.builtin "isinstance") (fun xs H Q => ∃ (x : V) (tp : Addr) (cs : List V) (t : Value) (us : List Value) (b : Bool), xs = [x, .ref tp] ∧ SqT X.K H tp cs ∧ Paired ClsV cs us ∧ TyX X.K H x t ∧ PySem.W.kitAny X.K t us = some b ∧ Q (.bl b) H) := by
  intro pins s σ H xs us Q I r h
  obtain ⟨x, tp, cs, t, ws, b, rfl, hT, k, ty, e, q⟩ := h
  obtain ⟨u1, u2, rfl, r1, r2⟩ := vals2 r
  cases (show u2 = Value.ref tp from r2)
  obtain ⟨P, Z, p, hx⟩ := kit_of I r1 ty
  obtain ⟨its, rv, ⟨o, h1, h2, n, h3⟩, _⟩ := I.tuple hT
  have e3 := ClsV.all k rv
  subst e3
  obtain ⟨oc, od, dt, sl⟩ := o
  simp only at h2 h3
  subst h2 h3
  exact PySem.W.kia_tup Z I.kIn p h1 e hx fun tk => ⟨.bl b, H, I.tok tk, rfl, q⟩
theorem d_isi (hm : X.mg "isinstance" = none) (ha : PAd X [a, b] t) (hg : Gl X "isinstance" := by rfl) (he : starEach [a, b] X.env = (false, eval a X.env) :: starEach [b] X.env := by rfl) (hpl : (backTo pos (starEach [b] X.env)).any (·.1) = false := by rfl) : PEd X (.Call (.Name "isinstance" p) [a, b] [] pos) (tCBd rbIsi t) :=
  d_callB (CallR.or call_isi cr_isiT) (fun en Hf H F E σ vs ds Q Qd S rx q k => by
    unfold rbIsi at q
    split at q
    · rename_i d c
      obtain ⟨v, w, rfl, r1, r2⟩ := rx.two
      split at q
      · rename_i b e
        have fin := k _ _ _ _ _ _ (Same.refl _) S (.bl b) q
        unfold isT at e
        split at e
        · rename_i n
          cases r2
          unfold kitD at e
          cases e1 : d.tyN with
          | none =>
            rw [e1] at e
            cases e
          | some m =>
            rw [e1] at e
            exact .inl ⟨_, _, _, _, b, rfl, .ty n, (r1.mono S.sf).tyX e1, kit_ty e, fin⟩
        · rename_i cs
          split at e
          · rename_i m e1
            cases r2 with | tup h l =>
            obtain ⟨us, hu, hk⟩ := isTs_ok (K := X.K) e1 l e
            exact .inr ⟨_, _, _, _, us, b, rfl, Same.sqT S.sf h, hu, (r1.mono S.sf).tyX e1, hk, fin⟩
          · cases e
        · cases e
      · exact q.elim
    · exact q.elim) hm PyProof.Rows.boot_isinstance ha hg (by decide) (by decide) he hpl
def tRevD (te : TEd) : TEd := fun E Q => te E fun x E1 => match x with
  | .lst xs => Q (.lst xs.reverse) E1
  | _ => False
theorem RepL.snoc {K : PySem.W.Frag} {H : Hp} {vs : List V} {ds : List D} {v : V} {d : D} (r : RepL K H vs ds) (h : Rep K H v d) : RepL K H (vs ++ [v]) (ds ++ [d]) := r.append (.cons h .nil)
def tLRgD (te : TEd) : TEd := fun E Q => te E fun x E1 => match x with
  | .int n => (-(2 ^ 62) ≤ n ∧ n ≤ 16777216) ∧ Q (.lst (rngD 0 n.toNat)) E1
  | _ => False
theorem rep_rg {K : PySem.W.Frag} {H : Hp} (f : Nat → Int) : ∀ l : List Nat, RepL K H (l.map fun i => V.int (f i)) (l.map fun i => D.int (f i))
  | [] => .nil
  | x :: r => .cons (.int _) (rep_rg f r)
theorem d_listRg {p' pos' : Pos} (hc : X.calm = true) (hm : X.mg "list" = none) (hmr : X.mg "range" = none) (he : PEd X e te) (hg : Gl X "list" := by rfl) (hgr : Gl X "range" := by rfl) (na : starEach [.Call (.Name "range" p') [e] [] pos'] X.env = (false, eval (.Call (.Name "range" p') [e] [] pos') X.env) :: starEach [] X.env := by rfl) (nb : starEach [e] X.env = (false, eval e X.env) :: starEach [] X.env := by rfl) :
    PEd X (.Call (.Name "list" p) [.Call (.Name "range" p') [e] [] pos'] [] pos) (tLRgD te) :=
  pe_imp (pe_listRg hc hg hm (prg_1 hgr hmr he nb) na) fun σ H Q ⟨en, Hf, F, E, Qd, S, h, k⟩ => ⟨en, Hf, F, E, _, S, h, fun v1 H1 Hf1 F1 E1 x s1 S1 r1 h1 => by
    split at h1
    · cases r1
      rename_i n
      refine ⟨n, rfl, ⟨by decide, by decide, h1.1.1, by omega, by omega⟩, fun p np => ?_⟩
      have kk : Fin X.K en σ Hf1 Qd Q := fun v H' Hf' F' E' d s4 S4 r4 h4 => k v H' Hf' F' E' d (s1.trans s4) S4 r4 h4
      refine kk.new S1 np (fun _ s2 e => .lst e ?_) h1.2
      unfold rgV rngD
      rw [Int.sub_zero]
      exact rep_rg (fun i => 0 + (i : Int)) _
    · exact h1.elim⟩
end
theorem ShL.ints {b : Nat} (h0 : 0 < b) (h1 : b ≤ 1920) : ∀ ns : List Int, (∀ n ∈ ns, n.natAbs < 2 ^ b) → ShL 0 (ns.length * (b + 3)) (ns.map D.int)
  | [], _ => by
    have := ShL.nil (k := 0)
    simpa using this
  | n :: r, h => by
    have e := ShL.cons (Sh.int h0 h1 (h n List.mem_cons_self)) (ShL.ints h0 h1 r fun m hm => h m (List.mem_cons_of_mem _ hm))
    have e2 : b + 1 + r.length * (b + 3) + 2 = (n :: r).length * (b + 3) := by
      rw [List.length_cons, Nat.add_mul]
      omega
    rw [e2] at e
    exact e
end L3
namespace L3
open PySem L2
variable [Tbs]
theorem cutL_mem {α : Type} {xs : List α} {lo hi : Option Int} {x : α} (h : x ∈ cutL xs lo hi) : x ∈ xs := List.mem_of_mem_drop (List.mem_of_mem_take h)
theorem cutL_len {α : Type} (xs : List α) (lo hi : Option Int) : (cutL xs lo hi).length ≤ xs.length := by
  unfold cutL
  rw [List.length_take, List.length_drop]
  omega
theorem rngD_ints (lo : Int) (n : Nat) : rngD lo n = ((List.range n).map fun i : Nat => lo + (i : Int)).map D.int := by
  unfold rngD
  rw [List.map_map]
  rfl
end L3
namespace L3
open PySem L2
variable [Tbs]
theorem _root_.L2.Room.units1 {k : Nat} {A : Around} (r : L2.Room k A) : A.units + 1 < cLine := by have := r.un; omega
def D.key : D → Option Key
  | .int i => some (.inl i)
  | .str x => some (.inr x)
  | _ => none
def hasK (ks : List (Key × D)) (k : Key) : Bool := ks.any fun kv => decide (kv.1 = k)
def putD (ks : List (Key × D)) (k : Key) (d : D) : List (Key × D) := if hasK ks k = true then ks.map (fun kv => if kv.1 = k then (kv.1, d) else kv) else ks ++ [(k, d)]
section
variable {K : PySem.W.Frag} {en : Et} {Hf H : Hp} {F : Nat → List Addr} {E : En} {σ : St}
theorem Rep.key {v : V} {d : D} {k : Key} (r : Rep K H v d) (h : d.key = some k) : v = kV k := by
  cases r <;> cases h <;> rfl
theorem RepK.has : ∀ {vs : List (Key × V)} {ds : List (Key × D)}, RepK K H vs ds → ∀ k : Key, (vs.any fun kv => decide (kv.1 = k)) = hasK ds k
  | _, _, .nil, _ => rfl
  | _, _, .cons (k := k0) a t, k => by
    unfold hasK
    rw [List.any_cons, List.any_cons]
    exact congrArg _ (t.has k)
theorem valV_some : ∀ (vs : List (Key × V)) (k : Key), (valV vs k).isSome = vs.any fun kv => decide (kv.1 = k)
  | [], _ => rfl
  | p :: r, k => by
    by_cases e : p.1 = k
    · rw [valV_pos e, List.any_cons, decide_eq_true e]
      rfl
    · rw [valV_neg e, List.any_cons, decide_eq_false e, valV_some r k]
      rfl
theorem RepK.repl {v : V} {d : D} {k : Key} (r : Rep K H v d) : ∀ {vs : List (Key × V)} {ds : List (Key × D)}, RepK K H vs ds → RepK K H (vs.map fun kv => if kv.1 = k then (kv.1, v) else kv) (ds.map fun kv => if kv.1 = k then (kv.1, d) else kv)
  | _, _, .nil => .nil
  | _, _, .cons (k := k0) a t => by
    rw [List.map_cons, List.map_cons]
    by_cases e : k0 = k
    · rw [if_pos e, if_pos e]
      exact .cons r (t.repl r)
    · rw [if_neg e, if_neg e]
      exact .cons a (t.repl r)
theorem RepK.snoc {v : V} {d : D} {k : Key} (r : Rep K H v d) : ∀ {vs : List (Key × V)} {ds : List (Key × D)}, RepK K H vs ds → RepK K H (vs ++ [(k, v)]) (ds ++ [(k, d)])
  | _, _, .nil => .cons r .nil
  | _, _, .cons a t => .cons a (t.snoc r)
theorem RepK.put {vs : List (Key × V)} {ds : List (Key × D)} {v : V} {d : D} {k : Key} (t : RepK K H vs ds) (r : Rep K H v d) : RepK K H (putK vs k v) (putD ds k d) := by
  unfold putK putD
  rw [t.has k]
  split
  · exact t.repl r
  · exact t.snoc r
theorem Sat.freezeD (S : Sat K en Hf H F E σ) {i : Nat} {xs : List (Key × D)} (e : E[i]? = some (.ow false (.od xs))) :
    ∃ v Hf', σ[i]? = some (some v) ∧ Same Hf Hf' ∧ Rep K Hf' v (.dct xs) ∧ Sat K en Hf' H (setF F i []) (E.set i (.fz (.dct xs))) σ := by
  obtain ⟨v, hv, ⟨p, vs, rfl, hF, hp, r⟩, _, hnew⟩ := S.own e
  have hi : i < E.length := (List.getElem?_eq_some_iff.mp e).1
  have hmem : p ∈ F i := by rw [hF]; simp
  obtain ⟨n1, n2, n3, n4⟩ := S.fp i p hmem
  have s1 : Same Hf (upd Hf p (.dK vs)) := same_upd n1
  have nj : ∀ j b, j ≠ i → b ∈ F j → b ≠ p := fun j b hj hb z => hj (S.dj j i b hb (by rw [z]; exact hmem))
  refine ⟨.ref p, upd Hf p (.dK vs), hv, s1, .dct upd_same (r.mono s1), ?_⟩
  refine { sf := fun b u z => ?_, so := S.so, dom := S.dom, sp := S.sp, pf := fun b u z => (by rw [upd_ne (fun q => by rw [q, n4] at z; cases z)]; exact S.pf b u z), gf := S.gf.trans s1, gn := fun b u z => ?_, dj := fun j k b h1 h2 => ?_, fp := fun j b h1 => ?_, len := by rw [List.length_set, S.len], sl := fun j s a => ?_ }
  · by_cases q : b = p
    · subst q
      rw [upd_same] at z
      cases z
      exact hp
    · rw [upd_ne q] at z
      exact S.sf _ _ z
  · by_cases q : b = p
    · subst q
      exact .inr (hnew rfl b hmem)
    · rw [upd_ne q] at z
      exact S.gn _ _ z
  · by_cases q1 : j = i
    · subst q1
      rw [setF_same] at h1
      cases h1
    · by_cases q2 : k = i
      · subst q2
        rw [setF_same] at h2
        cases h2
      · rw [setF_ne q1] at h1
        rw [setF_ne q2] at h2
        exact S.dj j k b h1 h2
  · by_cases q1 : j = i
    · subst q1
      rw [setF_same] at h1
      cases h1
    · rw [setF_ne q1] at h1
      obtain ⟨a1, a2, a3⟩ := S.fp j b h1
      exact ⟨by rw [upd_ne (nj j b q1 h1)]; exact a1, a2, a3⟩
  · by_cases q1 : j = i
    · subst q1
      rw [List.getElem?_set_self hi] at a
      cases a
      exact ⟨_, hv, .dct upd_same (r.mono s1)⟩
    · rw [List.getElem?_set_ne (Ne.symm q1)] at a
      have q := S.sl j s a
      cases s with
      | un => trivial
      | fz d =>
        obtain ⟨w, e, z⟩ := q
        exact ⟨w, e, z.mono s1⟩
      | xc a c d fs => exact ⟨q.1, q.2.mono s1⟩
      | cl v vs ds cc oo => exact ⟨q.1, q.2.mono s1⟩
      | ow c oc =>
        obtain ⟨w, e, z, y⟩ := q
        refine ⟨w, e, ?_⟩
        rw [setF_ne q1]
        exact ⟨z.mono s1 fun _ _ _ hu => hu, y⟩
theorem Sat.chD (S : Sat K en Hf H F E σ) {i : Nat} {b : Bool} {xs : List (Key × D)} (e : E[i]? = some (.ow b (.od xs))) :
    ∃ p vs, σ[i]? = some (some (.ref p)) ∧ H p = some (.dK vs) ∧ RepK K Hf vs xs ∧ ∀ vs' xs', RepK K Hf vs' xs' → Sat K en Hf (upd H p (.dK vs')) F (E.set i (.ow b (.od xs'))) σ := by
  obtain ⟨v, hv, ⟨p, vs, rfl, hF, hp, r⟩, _⟩ := S.own e
  have hm : p ∈ F i := by rw [hF]; simp
  obtain ⟨n1, _, _⟩ := S.fp i p hm
  refine ⟨p, vs, hv, hp, r, fun vs' xs' r' => S.change e hv (Same.refl _) (fun b u z => ?_) (fun q u nq z => ?_) (fun q u z => ?_) (fun _ _ z => .inl z) ⟨p, vs', rfl, hF, upd_same, r'⟩⟩
  · have nb : b ≠ p := fun q => by
      rw [q, n1] at z
      cases z
    rw [upd_ne nb]
    exact S.sf _ _ z
  · have nb : q ≠ p := fun y => nq (by rw [y]; exact hm)
    rw [upd_ne nb]
    exact z
  · by_cases y : q = p
    · subst y
      exact ⟨_, upd_same⟩
    · rw [upd_ne y]
      exact ⟨_, z⟩
end
section
variable {X : Cx} {a b e v : Expr} {te tv ta tb : TEd} {t : TAd} {p pos : Pos}
/-- a dict behind a name: our own one or data -/
def tInO (neg : Bool) (te : TEd) (j : Nat) : TEd := fun E Q => te E fun x E1 => match E1[j]?, x.key with
  | some (.ow _ (.od ks)), some k => Q (.bl (if neg then !hasK ks k else hasK ks k)) E1
  | some (.fz (.dct ks)), some k => Q (.bl (if neg then !hasK ks k else hasK ks k)) E1
  | _, _ => False
/-- in a dict that is data -/
def rdInK (neg : Bool) : RD := fun x y E Q => match y, x.key with
  | .dct ks, some k => Q (.bl (if neg then !hasK ks k else hasK ks k)) E
  | _, _ => False
/-- our own dict, from now on data -/
def tVarO (i : Nat) : TEd := fun E Q => match E[i]? with
  | some (.ow false (.od ks)) => Q (.dct ks) (E.set i (.fz (.dct ks)))
  | _ => False
theorem dvO (i : Nat) {x : Str} {pos : Pos} (hN : X.N[i]? = some x := by rfl) (hv : Vis X.env.scope x := by first | exact Or.inl rfl | exact Or.inr (Or.inl rfl) | exact Or.inr (Or.inr rfl)) (hd : (x == ("__debug__" : Str)) = false := by decide)
    (hcd : (x == ("__classdict__" : Str)) = false := by decide) : PEd X (.Name x pos) (tVarO i) :=
  pe_imp (pv i hN hv hd hcd) fun σ H Q ⟨en, Hf, F, E, Qd, S, h, k⟩ => by
    unfold tVarO at h
    split at h
    · rename_i xs e
      obtain ⟨v, Hf', hv, s1, r, S'⟩ := S.freezeD e
      exact ⟨v, hv, k v H Hf' _ _ _ s1 S' r h⟩
    · exact h.elim
/-- x = {y: c}, a dict that will be changed -/
def tDctV (i j : Nat) (c : D) : TSd := fun A E => match E[j]? with
  | some (.fz d) => (match d.key with | some k => canSet E i ∧ A.nx (E.set i (.ow false (.od [(k, c)]))) | none => False)
  | _ => False
/-- x[k] = v, x our own dict -/
def tPutO (j : Nat) (te ti : TEd) : TSd := fun A E => te E fun y E1 => (match E1[j]? with | some (.ow _ (.od _)) => True | _ => False) ∧ ti E1 fun z E2 => match E2[j]?, z.key with
  | some (.ow b (.od ks)), some k => ks.length < sizeLine ∧ A.nx (E2.set j (.ow b (.od (putD ks k y))))
  | _, _ => False
theorem s_putO (j : Nat) {x : Str} {i : Expr} {ti : TEd} {p tpos : Pos} (hu : X.A.units + 1 < cLine) (he : PEd X e te) (hi : PEd X i ti) (hN : X.N[j]? = some x := by rfl) (hv : Vis X.env.scope x := by first | exact Or.inl rfl | exact Or.inr (Or.inl rfl) | exact Or.inr (Or.inr rfl))
    (hd : (x == ("__debug__" : Str)) = false := by decide) (hcd : (x == ("__classdict__" : Str)) = false := by decide) (hs : swapsWith e (some (.Subscript (.Name x p) i tpos)) pos.line X.env = pure false := by rfl) :
    PSd X (.Assign [.Subscript (.Name x p) i tpos] e pos) (tPutO j te ti) :=
  ps_imp (ps_dput hu (pv j hN hv hd hcd) hi he hs) fun D σ H ⟨en, Hf, F, E, Dd, S, h, k1, k2, k3, k4, k5⟩ =>
    ⟨en, Hf, F, E, _, S, h, fun v1 H1 Hf1 F1 E1 y s1 S1 r1 h1 => by
      have h11 := h1.1
      split at h11
      · rename_i b0 ks0 e0
        obtain ⟨p0, vs0, hv0, hp0, _⟩ := S1.chD e0
        refine ⟨_, hv0, en, Hf1, F1, E1, _, S1, h1.2, fun v2 H2 Hf2 F2 E2 z s2 S2 r2 h2 => ?_⟩
        split at h2
        · rename_i b1 ks1 kk e1 ek
          obtain ⟨p1, vs1, hv1, hp1, l1, ch⟩ := S2.chD e1
          rw [hv0] at hv1
          cases hv1
          have e2 := r2.key ek
          subst e2
          exact ⟨_, _, rfl, .k hp1 (by rw [l1.length]; exact h2.1), k1 _ _ _ _ _ (s1.trans s2) (ch _ _ (l1.put (r1.mono s2))) h2.2⟩
        · exact h2.elim
      · exact h11.elim⟩
/-- sorted(d), the keys of d ints -/
def rbSortK : RB := fun ds E Q => match ds with
  | [.dct ks] => ∃ ns : List Int, ks.map (·.1) = ns.map Sum.inl ∧ ns.length < 64 ∧ ∀ ys : List Int, ys.Perm ns → ys.Pairwise (· ≤ ·) → Q (.lst (ys.map D.int)) E
  | _ => False
theorem RepK.keys {K : PySem.W.Frag} {H : Hp} : ∀ {vs : List (Key × V)} {ds : List (Key × D)}, RepK K H vs ds → vs.map (·.1) = ds.map (·.1)
  | _, _, .nil => rfl
  | _, _, .cons a t => by rw [List.map_cons, List.map_cons, t.keys]
theorem d_sortK (hc : X.calm = true) (hm : X.mg "sorted" = none) (ha : PAd X [a] t) (hg : Gl X "sorted" := by rfl) (he : starEach [a] X.env = (false, eval a X.env) :: starEach [] X.env := by rfl) : PEd X (.Call (.Name "sorted" p) [a] [] pos) (tCBd rbSortK t) :=
  d_callB (call_sortedDI hc) (fun en Hf H F E σ vs ds Q Qd S rx q k => by
    unfold rbSortK at q
    split at q
    · obtain ⟨v, rfl, r⟩ := rx.one
      cases r with | dct h l =>
      obtain ⟨ns, h1, h2, q⟩ := q
      exact ⟨_, _, ns, rfl, .inl (S.sf _ _ h), by rw [l.keys]; exact h1, h2, fun ys p y1 y2 np => k.new S np (fun _ s2 e => .lst e (RepL.ints ys)) (q ys y1 y2)⟩
    · exact q.elim) hm PyProof.Rows.boot_sorted ha hg (by decide) (by decide) he
end
end L3
namespace L3
open PySem L2
variable [Tbs]
def tI (k : List Int) : D := .tup (k.map D.int)
theorem RepL.tups {K : PySem.W.Frag} {H : Hp} : ∀ {ks : List (List Int)} {vs : List V}, RepL K H vs (ks.map tI) → ∃ L : List (Addr × List Int), vs = L.map (fun p => V.ref p.1) ∧ L.map (·.2) = ks ∧ ∀ p ∈ L, SqT K H p.1 (p.2.map V.int)
  | [], _, .nil => ⟨[], rfl, rfl, fun _ h => nomatch h⟩
  | k :: ks, _, .cons r l => by
    obtain ⟨L, h1, h2, h3⟩ := l.tups
    unfold tI at r
    cases r with | tup h l' =>
    rename_i a vs
    rw [l'.ofInts] at h
    refine ⟨(a, k) :: L, by rw [h1]; rfl, by rw [List.map_cons, h2], fun p hp => ?_⟩
    rcases List.mem_cons.mp hp with rfl | hp
    · exact h
    · exact h3 p hp
theorem RepL.ofTups {K : PySem.W.Frag} {H : Hp} : ∀ {L : List (Addr × List Int)}, (∀ p ∈ L, SqT K H p.1 (p.2.map V.int)) → RepL K H (L.map fun p => V.ref p.1) ((L.map (·.2)).map tI)
  | [], _ => .nil
  | p :: L, h => .cons (.tup (h p List.mem_cons_self) (RepL.ints _)) (RepL.ofTups fun q hq => h q (List.mem_cons_of_mem _ hq))
def tSortSet (te : TEd) : TEd := fun E Q => te E fun x E1 => match x with
  | .lst xs => ∃ (ks : List (List Int)) (d : Nat) (B : Int), xs = ks.map tI ∧ ks.length < 64 ∧ 1 ≤ d ∧ (∀ k ∈ ks, k.length = d ∧ TS.Bd B k) ∧ ∀ ks' : List (List Int), (∀ k, k ∈ ks' ↔ k ∈ ks) → ks'.Nodup → ks'.length < 64 → ks'.Pairwise (fun q r => TS.code B q ≤ TS.code B r) → Q (.lst (ks'.map tI)) E1
  | .tup xs => False
  | _ => False
section
variable {X : Cx} {e : Expr} {te : TEd} {p p' pos pos' : Pos}
end
end L3
namespace L3
open PySem L2
variable [Tbs]
theorem lcD_flt {α : Type} (as : List α) (dd : α → D) (p : α → Bool) (f : α → D) {g : TGd} {tt : TTd} {te : TEd} {vs : List Nat} {E : En} (E0 : En) {Q : List D → En → Prop} (hw : wipeD E vs = E0) (hw2 : wipeD E0 vs = E0) (hs : as.length ≤ sizeLine)
    (step : ∀ a ∈ as, ∀ (R : D → En → Prop) (R' : En → Prop), (p a = true → ∀ E4, wipeD E4 vs = E0 → R (f a) E4) → (p a = false → ∀ E4, wipeD E4 vs = E0 → R' E4) → g (dd a) E0 fun E2 => tt E2 fun b E3 => if b = true then te E3 R else R' E3)
    (q : Q ((as.filter p).map f) E0) : lcD (as.map dd) g tt te vs E Q := by
  refine ⟨fun i acc E1 => i ≤ as.length ∧ acc = ((as.take i).filter p).map f ∧ E1 = E0, ⟨Nat.zero_le _, rfl, hw⟩, ?_, ?_⟩
  · rintro i x acc E1 hi ⟨h1, rfl, h2⟩
    subst h2
    rw [List.getElem?_map] at hi
    cases ea : as[i]? with
    | none =>
      rw [ea] at hi
      cases hi
    | some a =>
      rw [ea] at hi
      cases hi
      have hlt : i < as.length := (List.getElem?_eq_some_iff.mp ea).1
      have tk : as.take (i + 1) = as.take i ++ [a] := by
        rw [List.take_succ, ea]
        rfl
      have hle : (((as.take i).filter p).map f).length ≤ i := by
        rw [List.length_map]
        refine Nat.le_trans (List.length_filter_le _ _) ?_
        rw [List.length_take]
        omega
      rw [hw2]
      refine step a (List.mem_of_getElem? ea) _ _ (fun hp E4 h4 => ⟨by omega, by omega, ?_, h4⟩) fun hp E4 h4 => ⟨by omega, ?_, h4⟩
      · rw [tk, List.filter_append, List.map_append, List.filter_cons_of_pos hp]
        rfl
      · rw [tk, List.filter_append, List.filter_cons_of_neg (by rw [hp]; decide), List.filter_nil, List.append_nil]
  · rw [List.length_map]
    rintro acc E1 ⟨_, rfl, rfl⟩
    rw [List.take_length]
    exact q
/-- .. without a test -/
theorem lcD_all {α : Type} (as : List α) (dd : α → D) (f : α → D) {g : TGd} {te : TEd} {vs : List Nat} {E : En} (E0 : En) {Q : List D → En → Prop} (hw : wipeD E vs = E0) (hw2 : wipeD E0 vs = E0) (hs : as.length ≤ sizeLine)
    (step : ∀ a ∈ as, ∀ (R : D → En → Prop), (∀ E4, wipeD E4 vs = E0 → R (f a) E4) → g (dd a) E0 fun E2 => te E2 R)
    (q : Q (as.map f) E0) : lcD (as.map dd) g tYesD te vs E Q := by
  refine lcD_flt as dd (fun _ => true) f E0 hw hw2 hs (fun a ha R R' h1 _ => ?_) ?_
  · have := step a ha R (fun E4 h4 => h1 rfl E4 h4)
    unfold tYesD
    simp only [if_true]
    exact this
  · rw [List.filter_eq_self.mpr (fun _ _ => rfl)]
    exact q
theorem inD_ints {k : Int} {l : List Int} : inD (.int k) (l.map D.int) = true ↔ k ∈ l := by
  unfold inD inV
  rw [List.map_map, List.any_map, List.any_eq_true]
  constructor
  · rintro ⟨x, hx, e⟩
    have e : eqV (V.int x) (V.int k) = true := e
    have : x = k := by simpa [eqV] using e
    exact this ▸ hx
  · intro h
    exact ⟨k, h, by show eqV (V.int k) (V.int k) = true; simp [eqV]⟩
end L3
namespace L3
open PySem L2
variable [Tbs]
mutual
def D.nb : D → Bool
  | .non => true
  | .int _ => true
  | .tup xs => D.nbL xs
  | .lst xs => D.nbL xs
  | .bl _ => false
  | .str _ => false
  | .opq _ => false
  | .pt _ => false
  | .ps _ => false
  | .dct _ => false
  | .ins _ _ => false
def D.nbL : List D → Bool
  | [] => true
  | d :: r => D.nb d && D.nbL r
end
mutual
theorem nb_plain : ∀ {d : D}, d.nb = true → d.plain = true ∧ PyData.canLay0 d.py = true
  | .non, _ => ⟨rfl, rfl⟩
  | .int _, _ => ⟨rfl, rfl⟩
  | .tup xs, h => nbL_plain (xs := xs) h
  | .lst xs, h => nbL_plain (xs := xs) h
  | .bl _, h => nomatch h
  | .str _, h => nomatch h
  | .opq _, h => nomatch h
  | .pt _, h => nomatch h
  | .ps _, h => nomatch h
  | .dct _, h => nomatch h
  | .ins _ _, h => nomatch h
theorem nbL_plain : ∀ {xs : List D}, D.nbL xs = true → D.plainL xs = true ∧ PyData.canLayAll0 (D.pyL xs) = true
  | [], _ => ⟨rfl, rfl⟩
  | d :: r, h => by
    have h' := Bool.and_eq_true_iff.mp h
    obtain ⟨a, b⟩ := nb_plain h'.1
    obtain ⟨c, e⟩ := nbL_plain h'.2
    exact ⟨Bool.and_eq_true_iff.mpr ⟨a, c⟩, Bool.and_eq_true_iff.mpr ⟨b, e⟩⟩
end
mutual
theorem py_inj : ∀ {x y : D}, x.nb = true → y.nb = true → PyData.eqv x.py y.py = true → x = y
  | .non, y, _, hy, h => by
    cases y <;> first | rfl | (cases hy; done) | exact absurd (show false = true from h) (by decide)
  | .int i, y, _, hy, h => by
    cases y <;> first | (cases hy; done) | skip
    · exact absurd (show false = true from h) (by decide)
    · have : (i == _) = true := h
      rw [eq_of_beq this]
    · exact absurd (show false = true from h) (by decide)
    · exact absurd (show false = true from h) (by decide)
  | .tup xs, y, hx, hy, h => by
    cases y <;> first | (cases hy; done) | skip
    · exact absurd (show false = true from h) (by decide)
    · exact absurd (show false = true from h) (by decide)
    · rename_i ys
      rw [py_injL (xs := xs) (ys := ys) hx hy h]
    · exact absurd (show false = true from h) (by decide)
  | .lst xs, y, hx, hy, h => by
    cases y <;> first | (cases hy; done) | skip
    · exact absurd (show false = true from h) (by decide)
    · exact absurd (show false = true from h) (by decide)
    · exact absurd (show false = true from h) (by decide)
    · rename_i ys
      rw [py_injL (xs := xs) (ys := ys) hx hy h]
  | .bl _, _, h, _, _ => nomatch h
  | .str _, _, h, _, _ => nomatch h
  | .opq _, _, h, _, _ => nomatch h
  | .pt _, _, h, _, _ => nomatch h
  | .ps _, _, h, _, _ => nomatch h
  | .dct _, _, h, _, _ => nomatch h
  | .ins _ _, _, h, _, _ => nomatch h
theorem py_injL : ∀ {xs ys : List D}, D.nbL xs = true → D.nbL ys = true → PyData.eqvAll (D.pyL xs) (D.pyL ys) = true → xs = ys
  | [], [], _, _, _ => rfl
  | [], y :: ys, _, _, h => absurd (show false = true from h) (by decide)
  | x :: xs, [], _, _, h => absurd (show false = true from h) (by decide)
  | x :: xs, y :: ys, hx, hy, h => by
    have hx' := Bool.and_eq_true_iff.mp hx
    have hy' := Bool.and_eq_true_iff.mp hy
    have h' := Bool.and_eq_true_iff.mp (show (PyData.eqv x.py y.py && PyData.eqvAll (D.pyL xs) (D.pyL ys)) = true from h)
    rw [py_inj hx'.1 hy'.1 h'.1, py_injL hx'.2 hy'.2 h'.2]
end
theorem eqv_iff {x y : D} (hx : x.nb = true) (hy : y.nb = true) : D.eqv x y = true ↔ x = y :=
  ⟨py_inj hx hy, fun e => by subst e; exact PySem.SeqAt.eqv_refl _ (nb_plain hx).2⟩
theorem eqv_self {x : D} (hx : x.nb = true) : D.eqv x x = true := (eqv_iff hx hx).mpr rfl
theorem eqv_ne {x y : D} (hx : x.nb = true) (hy : y.nb = true) (h : x ≠ y) : D.eqv x y = false := by
  cases e : D.eqv x y with
  | false => rfl
  | true => exact absurd ((eqv_iff hx hy).mp e) h
theorem nb_ok {d : D} (h : d.nb = true) (hd : PyData.depth d.py ≤ 64) : d.ok := by
  refine ⟨(nb_plain h).1, ?_⟩
  unfold SeqAt.shaped
  rw [(nb_plain h).2, decide_eq_true hd]
  rfl
theorem Sh.ok {k m : Nat} {d : D} (s : Sh k m d) (h : d.nb = true) (hk : k ≤ 64) : d.ok := nb_ok h (Nat.le_trans s.deep hk)
theorem nbL_map {α : Type} {f : α → D} : ∀ {as : List α}, (∀ a ∈ as, (f a).nb = true) → D.nbL (as.map f) = true
  | [], _ => rfl
  | a :: as, h => Bool.and_eq_true_iff.mpr ⟨h a List.mem_cons_self, nbL_map fun b hb => h b (List.mem_cons_of_mem _ hb)⟩
theorem nb_ints (l : List Int) : D.nbL (l.map D.int) = true := nbL_map fun _ _ => rfl
theorem ShL.map {α : Type} {k m : Nat} {f : α → D} : ∀ {as : List α}, (∀ a ∈ as, Sh k m (f a)) → ShL k (as.length * (m + 2)) (as.map f)
  | [], _ => by
    refine ⟨rfl, rfl, Nat.zero_le _, Nat.zero_le _⟩
  | a :: as, h => by
    have e := ShL.cons (h a List.mem_cons_self) (ShL.map (as := as) fun b hb => h b (List.mem_cons_of_mem _ hb))
    rw [Nat.max_self] at e
    have e2 : (a :: as).length * (m + 2) = m + as.length * (m + 2) + 2 := by
      rw [List.length_cons, Nat.add_mul]
      omega
    rw [e2]
    exact e
theorem Sh.mono {k m k' m' : Nat} {d : D} (h : Sh k m d) (h1 : k ≤ k') (h2 : m ≤ m') : Sh k' m' d := ⟨h.plain, h.able, Nat.le_trans h.size h2, Nat.le_trans h.deep h1⟩
theorem ShL.mono {k m k' m' : Nat} {d : List D} (h : ShL k m d) (h1 : k ≤ k') (h2 : m ≤ m') : ShL k' m' d := ⟨h.plain, h.able, Nat.le_trans h.size h2, Nat.le_trans h.deep h1⟩
/-- at most n of them -/
theorem ShL.most {α : Type} {k m n : Nat} {f : α → D} {as : List α} (h : ∀ a ∈ as, Sh k m (f a)) (hl : as.length ≤ n) : ShL k (n * (m + 2)) (as.map f) := (ShL.map h).mono (Nat.le_refl _) (Nat.mul_le_mul_right _ hl)
/-- a small number -/
theorem Sh.int60 {a : Int} (h0 : -1152921504606846976 < a) (h1 : a < 1152921504606846976) : Sh 0 61 (.int a) := Sh.int (by decide) (by decide) (by
  have e : (2 ^ 60 : Nat) = 1152921504606846976 := by decide
  omega)
theorem ShL.small {l : List Int} {n : Nat} (h : ∀ v ∈ l, -1152921504606846976 < v ∧ v < 1152921504606846976) (hl : l.length ≤ n) : ShL 0 (n * 63) (l.map D.int) := ShL.most (fun v hv => Sh.int60 (h v hv).1 (h v hv).2) hl
end L3
namespace L2
open PySem PySem.Spec PyProof.Rows
section
variable {pg : Program} {wo : World} {Ar : Around} {Er : Value → Shared → Prop} {z : Shared}
end
end L2
namespace L3
open PySem L2
variable [Tbs]
def tSortSetT (te : TEd) : TEd := fun E Q => te E fun x E1 => match x with
  | .tup xs => ∃ (ks : List (List Int)) (d : Nat) (B : Int), xs = ks.map tI ∧ ks.length < 64 ∧ 1 ≤ d ∧ (∀ k ∈ ks, k.length = d ∧ TS.Bd B k) ∧ ∀ ks' : List (List Int), (∀ k, k ∈ ks' ↔ k ∈ ks) → ks'.Nodup → ks'.length < 64 → ks'.Pairwise (fun q r => TS.code B q ≤ TS.code B r) → Q (.lst (ks'.map tI)) E1
  | _ => False
section
variable {X : Cx} {e : Expr} {te : TEd} {p p' pos pos' : Pos}
end
end L3
namespace L3
open PySem L2
variable [Tbs]
/-- (0, x), (1, y), .. -/
def enumL : Nat → List D → List D
  | _, [] => []
  | i, x :: xs => .tup [.int i, x] :: enumL (i + 1) xs
theorem enumL_len : ∀ (i : Nat) (xs : List D), (enumL i xs).length = xs.length
  | _, [] => rfl
  | i, _ :: xs => congrArg (· + 1) (enumL_len (i + 1) xs)
theorem enumL_get : ∀ (i : Nat) (xs : List D) (k : Nat), (enumL i xs)[k]? = xs[k]?.map fun x => D.tup [.int ((i + k : Nat) : Int), x]
  | _, [], _ => rfl
  | i, x :: xs, 0 => rfl
  | i, x :: xs, k + 1 => by
    have e := enumL_get (i + 1) xs k
    rw [show i + 1 + k = i + (k + 1) by omega] at e
    exact e
section
variable {X : Cx} {a b : Expr} {es elts : List Expr} {t : TAd} {p p2 pos tpos : Pos} {kk : Nat}
def iEnumD (t : TAd) : TId := fun E Q => t E fun xs E1 => match xs with
  | [.lst ys] => Q (enumL 0 ys) E1
  | _ => False
/-- pairs of two lists, or of two tuples -/
def iZipD (t : TAd) : TId := fun E Q => t E fun xs E1 => match xs with
  | [.lst ys, .lst zs] => Q (List.zipWith (fun y z => D.tup [y, z]) ys zs) E1
  | [.tup ys, .tup zs] => Q (List.zipWith (fun y z => D.tup [y, z]) ys zs) E1
  | _ => False
end
end L3
namespace L2
open PySem PySem.Spec PyProof.Rows
section
variable {X : Cx}
end
end L2
namespace L3
open PySem L2
variable [Tbs]
/-- *: ints; a list or a tuple often -/
def rdMulT : RD := fun x y E Q => match x, y with
  | .tup u, .int n => (u ≠ [] ∧ -1000 ≤ n ∧ n ≤ 1000 ∧ u.length ≤ 1000) ∧ Q (.tup (List.replicate n.toNat u).flatten) E
  | _, _ => False
section
variable {X : Cx} {a b : Expr} {ta tb : TEd} {pos : Pos}
end
theorem depth_ints : ∀ l : List Int, PyData.depthAll (D.pyL (l.map D.int)) = 0
  | [] => rfl
  | x :: l => by
    show max 0 (PyData.depthAll (D.pyL (l.map D.int))) = 0
    rw [depth_ints l]
    rfl
theorem ok_lints (l : List Int) : (D.lst (l.map D.int)).ok := nb_ok (nb_ints l) (by
  show PyData.depthAll (D.pyL (l.map D.int)) + 1 ≤ 64
  rw [depth_ints]
  decide)
theorem ok_tints (l : List Int) : (D.tup (l.map D.int)).ok := nb_ok (nb_ints l) (by
  show PyData.depthAll (D.pyL (l.map D.int)) + 1 ≤ 64
  rw [depth_ints]
  decide)
theorem eqv_nil : D.eqv (D.lst []) (D.lst []) = true := rfl
theorem eqv_cons {x : D} {xs : List D} : D.eqv (D.lst (x :: xs)) (D.lst []) = false := rfl
theorem eqv_nil' {x : D} {xs : List D} : D.eqv (D.lst []) (D.lst (x :: xs)) = false := rfl
section
variable {X : Cx} {pos : Pos}
/-- a statement that is never come to -/
def tNevD : TSd := fun _ _ => False
/-- a constant of the module -/
theorem d_globI {x : Str} {n : Int} (hm : ∃ t, X.mg x = some (.int n t)) (hg : Gl X x := by rfl) (hd : (x == ("__debug__" : Str)) = false := by decide) : PEd X (.Name x pos) (tCD (.int n)) := by
  obtain ⟨t, hm⟩ := hm
  exact d_glob hg hm (v := .int n) ⟨t, rfl⟩ (fun _ => .int n) hd
end
end L3
namespace L2
open PySem PySem.Spec PyProof.Rows
theorem draws_tup {pg : Program} {wo : World} {Ar : Around} (nohd : Ar.handled = none) (it q : Addr) (ne : q ≠ it) (ite : Array Value) :
    Draws pg wo Ar it [it, q] ite.size (fun i v => ite[i]? = some v) (fun i h => h.IsTupleIter it q i ∧ h.IsTuple q ite) where
  live := fun _ _ st => st.1.elim fun o ho => ⟨o, ho.1⟩
  frame := fun _ _ _ st hk => ⟨st.1.at fun o e => hk it (by simp) o e, st.2.at fun o e => hk q (by simp) o e⟩
  item := fun i s Q E lt st fin => wpAny_nextOf_tuple_item st.1 st.2 (x := ite[i]) (by simp [lt]) fun h1 it1 same => fin _ h1 s.toks (by simp [lt]) ⟨it1, st.2.extBut same.extBut ne⟩ same
  done := fun s Q E st fin => wpAny_nextOf_tuple_end nohd st.1 st.2 (by simp) fin
theorem meets_enum_newT (q : Addr) (ite : Array Value) (n : Nat) (dd : Option Addr) (sl : Array (Option Value)) :
    Meets (Builtin.«enumerate.__new__» ⟨[.type "enumerate", .ref q], []⟩) (fun _ R z => z.heap.get? q = some { cls := .type "tuple", dict := dd, data := .seq ite n, slots := sl } ∧
      R (.ok (.ret (.ref (z.heap.push { cls := .type "tuple_iterator", data := .fields #[.ref q, .int 0 0] }).objs.size)))
        { z with heap := (z.heap.push { cls := .type "tuple_iterator", data := .fields #[.ref q, .int 0 0] }).push { cls := .type "enumerate", data := .fields #[.none, .bool false, .ref z.heap.objs.size, rawInt 0, .none, .none] } }) :=
  .of_wp fun prog w A R z h => by
    obtain ⟨hp, g, d, tk, os⟩ := z
    obtain ⟨hl, h⟩ := h
    have sub := sub_enumerate
    have isT : Heap.IsTuple (Shared.heap ⟨hp, g, d, tk, os⟩) q ite := ⟨_, hl, rfl, n, rfl⟩
    wp_walk using wpAny_loadPart' hl
    refine wpAny_stack_any fun st => wpAny_pure ?_
    split
    · rename_i c _ _ _ _ _
      cases (c == Value.type "enumerate") <;>
      · wp_walk using wpAny_loadPart' hl, wpAny_pyIter_tuple isT
        exact ⟨_, rfl, h⟩
    · wp_walk using wpAny_loadPart' hl, wpAny_pyIter_tuple isT
      exact ⟨_, rfl, h⟩
section
variable {pg : Program} {wo : World} {Ar : Around} {Er : Value → Shared → Prop} {z : Shared}
theorem call_enumT {q : Addr} {ite : Array Value} {Q : Value → Shared → Prop} (isT : z.heap.IsTuple q ite)
    (fin : ∀ h', IsEnum h' (z.heap.objs.size + 1) z.heap.objs.size 0 .none → h'.IsTupleIter z.heap.objs.size q 0 → h'.objs.size = z.heap.objs.size + 2 →
      (∀ b o, z.heap.get? b = some o → h'.get? b = some o) → Q (.ref (z.heap.objs.size + 1)) { z with heap := h' }) :
    wpAny (model pg wo) Ar (call (.type "enumerate") [.ref q]) Q Er z := by
  obtain ⟨⟨c, dd, dt, sl⟩, hq, hcl, n, hd⟩ := isT
  simp only at hcl hd
  subst hcl hd
  refine callType_new F.called_enumerate (by decide) (F.typeCall_enumerate_1 _) (F.newCall_enumerate_1 _) (fun obj => F.args_object_init_2 obj _) F.entry_enumerate_new (meets_enum_newT q ite n dd sl) ⟨hq, ?_⟩
  have size1 : (z.heap.push { cls := .type "tuple_iterator", data := .fields #[.ref q, .int 0 0] }).objs.size = z.heap.objs.size + 1 := Heap.size_push ..
  show _ ∧ _
  rw [size1]
  have isE : IsEnum ((z.heap.push { cls := .type "tuple_iterator", data := .fields #[.ref q, .int 0 0] }).push { cls := .type "enumerate", data := .fields #[.none, .bool false, .ref z.heap.objs.size, rawInt 0, .none, .none] }) (z.heap.objs.size + 1) z.heap.objs.size 0 .none := by
    have e := Heap.get?_push_size (z.heap.push { cls := .type "tuple_iterator", data := .fields #[.ref q, .int 0 0] }) (o := { cls := .type "enumerate", data := .fields #[.none, .bool false, .ref z.heap.objs.size, rawInt 0, .none, .none] }) rfl
    rw [size1] at e
    exact e
  exact ⟨⟨_, isE, rfl⟩, fin _ isE ⟨_, Heap.get?_push_of_some _ (Heap.get?_push_size _ rfl), rfl, rfl⟩ (by rw [Heap.size_push, size1]) fun b o x => Heap.get?_push_of_some _ (Heap.get?_push_of_some _ x)⟩
end
/-- the tuple at a, each item in a new pair -/
def IteT (K : PySem.W.Frag) (a : Addr) : It :=
  ⟨fun i H => ∃ (xs : List V) (x : V), SqT K H a xs ∧ xs[i]? = some x, fun i H v H' => ∃ T x, v = .ref T ∧ H T = none ∧ H' = upd H T (.tup [.int (i : Nat), x]) ∧ ∀ xs, SqT K H a xs → xs[i]? = some x, fun i H => ∃ xs : List V, SqT K H a xs ∧ xs.length = i⟩
theorem turn_enumT {pg : Program} {wo : World} {K : PySem.W.Frag} {elts : List Expr} {kk : Nat} {tpos : Pos} (a e it : Addr) (na : a ≠ it) (nb : e ≠ a) :
    Turn pg wo K (.Tuple elts kk tpos) (IteT K a) [e, it] e (fun i h => (∃ old, IsEnum h e it ((i : Nat) : Int) old) ∧ h.IsTupleIter it a i ∧ e ≠ it) where
  mem := by simp
  obj := fun i h st b hb => by
    obtain ⟨⟨old, he⟩, ⟨o, ho, hc, hd⟩, _⟩ := st
    rcases (show b = e ∨ b = it by simpa using hb) with rfl | rfl
    · exact ⟨_, he, fun v q => nomatch q⟩
    · exact ⟨o, ho, fun v q => by rw [hd] at q; cases q⟩
  keep := fun i h h' st k => ⟨st.1.elim fun old he => ⟨old, k e (by simp) _ he⟩, st.2.1.at fun o q => k it (by simp) o q, st.2.2⟩
  item := by
    intro X hP hw hK hc i pins s σ H E I hf st hg
    subst hP hw hK
    obtain ⟨⟨old, he⟩, hit, hne⟩ := st
    obtain ⟨xs, x, hq, hx⟩ := hg
    obtain ⟨its, rv, p, hz⟩ := I.tuple hq
    have isT : s.heap.IsTuple a its.toArray := p
    obtain ⟨u, hu, ru⟩ := rv.get hx
    have hel : e < s.heap.objs.size := Heap.lt_size he
    have hil : it < s.heap.objs.size := hit.elim fun _ q => Heap.lt_size q.1
    have lt : i < its.toArray.size := by
      have := (List.getElem?_eq_some_iff.mp hu).1
      simpa using this
    refine wpAny_pyNext_enum_itemD (draws_tup (by simpa using I.ok.hd hc) it a na its.toArray) he ⟨hit, isT⟩ lt hne (by simp [hne, nb]) fun x1 h1 tk px ho hst hT hsz hk => ?_
    have ex : x1 = u := by
      have e1 : its[i]? = some x1 := by simpa using px
      rw [hu] at e1
      exact (Option.some.inj e1).symm
    subst ex
    refine ⟨_, rfl, wpAny_letOwnedTupleGo_enum (s := { s with heap := h1, toks := tk + 1 }) ho fun h2 he2 sb => ?_⟩
    have hT2 : h2.get? s.heap.objs.size = some { cls := .type "tuple", data := .seq #[.int i tk, x1] } := (sb.2 _ (Nat.ne_of_gt hel)).trans hT
    have made : ObjOk X.prog X.w (upd H s.heap.objs.size (.tup [.int (i : Nat), x])) h2 s.heap.objs.size (.tup [.int (i : Nat), x]) :=
      ⟨by show 2 ≤ sizeLine; decide, [.int i tk, x1], .cons ⟨_, rfl⟩ (.cons ru .nil), ⟨_, hT2, rfl, _, rfl⟩⟩
    have I1 : Inv X pins σ (upd H s.heap.objs.size (.tup [.int (i : Nat), x])) { s with heap := h2, toks := tk + 1 } :=
      I.turnedNew (ch := [e, it]) (fun b ob hb q => (sb.2 b (fun y => hb (by simp [y]))).trans (hk b ob (fun y => hb (by simp [y])) (fun y => hb (by simp [y])) q)) hf (Nat.le_refl _) made
    refine ⟨.ref s.heap.objs.size, _, I1, rfl, ⟨_, x, rfl, I.hok.fresh (Nat.le_refl _), rfl, fun ys hy => by rw [I.tuple_inj hy hq]; exact hx⟩, ⟨⟨x1, ?_⟩, hst.1.at fun o q => (sb.2 it (Ne.symm hne)).trans q, hne⟩, fun b hb => ?_⟩
    · rw [show ((i + 1 : Nat) : Int) = (i : Int) + 1 by omega]
      exact he2
    · have lb : b < s.heap.objs.size := by
        rcases (show b = e ∨ b = it by simpa using hb) with rfl | rfl
        · exact hel
        · exact hil
      rw [upd_ne (Nat.ne_of_lt lb)]
      exact (hf b hb).1
  done := by
    intro X hP hw hK hc i pins s σ H E I hf st hg
    subst hP hw hK
    obtain ⟨⟨old, he⟩, hit, hne⟩ := st
    obtain ⟨xs, hq, hx⟩ := hg
    obtain ⟨its, rv, p, hz⟩ := I.tuple hq
    have isT : s.heap.IsTuple a its.toArray := p
    obtain ⟨f0, f1, f2, f3, f4, f5⟩ := hf it (by simp)
    have el : i = its.toArray.size := by
      have := rv.length
      simp
      omega
    refine wpAny_pyNext_enum_endD (draws_tup (by simpa using I.ok.hd hc) it a na its.toArray) he ⟨by rw [← el]; exact hit, isT⟩ fun h1 eb => ⟨rfl, I.turned (t' := s.toks) (fun b o hb q => eb b o hb q) f0 f1 f3 f4 f5⟩
  self := fun A i s Q E st h => st.1.elim fun _ he => wpAny_pyIter_enum he h
def iEnumT (K : PySem.W.Frag) (ta : TA) : TI := fun σ H R => ta σ H fun vs H1 => ∃ a xs, vs = [.ref a] ∧ SqT K H1 a xs ∧ R (IteT K a) H1
theorem pi_enumT {X : Cx} {e : Expr} {ta : TA} {p pos tpos : Pos} {elts : List Expr} {kk : Nat} (hg : Gl X "enumerate") (hm : X.mg "enumerate" = none) (ha : PA X [e] ta) (hs : starEach [e] X.env = [(false, eval e X.env)] := by rfl) :
    PI X (.Tuple elts kk tpos) (.Call (.Name "enumerate" p) [e] [] pos) (iEnumT X.K ta) := by
  refine ⟨fun pins s σ H R I h => Call_ (ld_blt I hg hm boot_enumerate (PyProof.Rows.callWith_type1 (thn (ha.run pos pins s σ H _ I h) fun us s1 ⟨vs, H1, I1, r1, q1⟩ => ?_) hs rfl))⟩
  obtain ⟨a, xs, rfl, hq, q⟩ := q1
  rw [Vals.ref1 r1]
  obtain ⟨its, rv, p1, hz⟩ := I1.tuple hq
  have isT : s1.heap.IsTuple a its.toArray := p1
  have la : a < s1.heap.objs.size := isT.elim fun _ q => Heap.lt_size q.1
  refine call_enumT isT fun h1 he hit hsz hk => wpAny_pyIter_enum he ?_
  refine ⟨s1.heap.objs.size + 1, [s1.heap.objs.size + 1, s1.heap.objs.size], _, _, H1, rfl, I1.kept (t' := s1.toks) hk, turn_enumT a (s1.heap.objs.size + 1) s1.heap.objs.size (Nat.ne_of_lt la) (Nat.ne_of_gt (Nat.lt_succ_of_lt la)), ⟨⟨.none, he⟩, hit, Nat.succ_ne_self _⟩, fun b hb => ?_, q⟩
  have le : s1.heap.objs.size ≤ b := by
    rcases (show b = s1.heap.objs.size + 1 ∨ b = s1.heap.objs.size by simpa using hb) with rfl | rfl
    · exact Nat.le_succ _
    · exact Nat.le_refl _
  exact I1.fpOk le (I1.hok.fresh le)
end L2
namespace L3
open PySem L2
variable [Tbs]
section
variable {X : Cx} {a b : Expr} {es elts : List Expr} {t : TAd} {p p2 pos tpos : Pos} {kk : Nat}
def iEnumTD (t : TAd) : TId := fun E Q => t E fun xs E1 => match xs with
  | [.tup ys] => Q (enumL 0 ys) E1
  | _ => False
theorem i_enumT (hm : X.mg "enumerate" = none) (ha : PAd X [a] t) (hg : Gl X "enumerate" := by rfl) (hs : starEach [a] X.env = [(false, eval a X.env)] := by rfl) : PId X (.Tuple elts kk tpos) (.Call (.Name "enumerate" p) [a] [] p2) (iEnumTD t) :=
  pi_imp (pi_enumT hg hm ha hs) fun σ H R ⟨en, Hf, F, E, Qd, S, h, k⟩ => ⟨en, Hf, F, E, _, S, h, fun v1 H1 Hf1 F1 E1 x s1 S1 r1 h1 => by
    split at h1
    · rename_i ys
      cases r1 with | cons a1 l1 =>
      cases l1
      cases a1 with | tup q l =>
      have hq : ∀ H', Same Hf1 H' → SqT X.K H' _ _ := fun H' s => Same.sqT s q
      refine ⟨_, _, rfl, hq _ S1.sf, k _ _ _ _ _ _ s1 S1 ⟨fun i H' s hi => ?_, fun H' s => ⟨_, hq _ s, ?_⟩, fun i H2 v H3 s hi y => ?_⟩ h1⟩
      · rw [enumL_len] at hi
        obtain ⟨d, ed⟩ := getE hi
        obtain ⟨v, ev, _⟩ := l.get ed
        exact ⟨_, v, hq _ s, ev⟩
      · rw [enumL_len, l.length]
      · rw [enumL_len] at hi
        obtain ⟨d, ed⟩ := getE hi
        obtain ⟨w, ew, rw'⟩ := l.get ed
        obtain ⟨T, x, e1, e2, e3, e4⟩ := y
        have := e4 _ (hq _ s)
        rw [ew] at this
        cases this
        refine ⟨_, by rw [enumL_get, ed]; rfl, .inr ⟨T, _, e1, e2, e3, fun Hf' s2 e => ?_⟩⟩
        rw [e1, Nat.zero_add]
        exact .tup (.inl (.inl e)) (.cons (.int _) (.cons (rw'.mono s2) .nil))
    · exact h1.elim⟩
end
end L3
namespace L3
open PySem L2
variable [Tbs]
namespace Xm
open PySem.W PySem.Calls PyProof.Rows
section
variable {prog : Program} {w : World} {A : Around} {E : Value → Shared → Prop} {s : Shared} {h₀ : Heap} {L : Addr} {m mg : Str → Option Value} {news : List (Addr × Obj)} {K : PySem.W.Frag} {x C D f f2 cc cda so : Addr} {ox : Obj} {odx : Option Obj}
/-- super() in a method, over what a module says of the names -/
theorem super_node {body : List Stmt} {q : Str} {scope : Scope} {p0 p1 : Pos} {attr : Str} {whole : Sem Value} {fd : FuncData} {ar : Arg} {vs : Array Value} {file : Str} {tf : Tok} {oc ccl cl : Value} {od cdd cld : Option Addr} {osl ccs csl : Array (Option Value)} {cdD : ClassData} {Q : Value → Shared → Prop}
    (F : Fr h₀ L s.heap m) (X₀ : K.In h₀) (md : Mod K mg h₀) (N : News h₀ L s.heap news)
    (hf : K.lookup f = some ⟨oc, od, .func fd, osl⟩) (hp : (fd.params.posonlyargs ++ fd.params.args).head? = some ar) (hv : m ar.arg = some (.ref x)) (I : InstAt s.heap x ox C odx)
    (hcode : K.lookup cda = some ⟨ccl, cdd, .fields vs, ccs⟩) (hvs : vs[2]? = some (.str file tf)) (hfile : ((prog.main.file : Str) == file) = true)
    (hcell : K.lookup cc = some ⟨cl, cld, .cell (some (.ref D)), csl⟩) (hD : clsIn K D = some cdD) (hsub : mroIn K C (.ref D) = some true) (hsuper : mg "super" = none)
    (hat : (attr == ("__class__" : Str)) = false) (hks : scope.names.lookup ("super" : Str) = some .globalImplicit) (hkc : scope.names.lookup ("__class__" : Str) = some .free) (hka : scope.names.lookup ar.arg = some .local) (hk : scope.kind = .function)
    (htop : (prog.main.scope.names.lookup ("super" : Str)).isSome = false) (hboot : bootBuiltins "super" = some (.type "super"))
    (h : ∀ so h', Fr h₀ L h' m → News h₀ L h' ((so, ks_superObj D x C) :: news) → (∀ p ∈ news, p.1 < so) → Q (.ref so) { s with heap := h' }) :
    _root_.PySem.wpAt (model prog w) A (.func body (ksEnv q scope L f (.ref cda) cc)) (attributeBase (.Call (.Name "super" p0) [] [] p1) attr (ksEnv q scope L f (.ref cda) cc) whole) Q E s := by
  have X : K.In s.heap := X₀.keeps F.keep
  obtain ⟨mb, hmb, hbb⟩ := md.blt
  obtain ⟨hh, g, d, t, os⟩ := s
  obtain ⟨oD, hD1, hD2⟩ : ∃ oD, hh.get? D = some oD ∧ oD.data = .cls cdD := by
    unfold clsIn at hD
    split at hD
    · rename_i c d cd' sl ho
      cases hD
      exact ⟨_, X _ _ ho, rfl⟩
    · cases hD
  refine ks_wpAt_super_base (env := ksEnv q scope L f (.ref cda) cc) hks hkc hat rfl (X _ _ hf) rfl hp rfl (X _ _ hcode) rfl hvs hfile htop ?_
  refine ks_loadName_global hk hks (loadGlobal_builtin (env := ksEnv q scope L f (.ref cda) cc) (md.glob.keeps F.keep) hsuper (hmb.keeps F.keep) ((hbb _ (by decide +kernel)).trans hboot) ⟨rfl, ?_⟩)
  refine wpAny_loadName_free hk hkc rfl ⟨_, X _ _ hcell, rfl⟩ ?_
  refine wpAny_loadName_local hk hka F.ns hv ?_
  refine ks_wpAny_isType_cls hD1 hD2 ⟨rfl, ?_⟩
  refine ks_wpAny_call_super hD1 hD2 I.at_ I.cls (fun c e => ?_) (looks_mroIn X hsub) (fun h' e k => ?_)
  · have := I.no
    unfold notCls at this
    rw [e] at this
    exact Bool.noConfusion this
  · obtain ⟨F', N', l'⟩ := ks_newsPush (s := ⟨hh, g, d, t, os⟩) F N rfl e k
    exact h _ _ F' N' l'
end
/-- what the bases ValueError and LookupError say -/
structure BaseX (B newId initId : String) (bmB : List Value) : Prop where
  kf : KxsFacts B initId
  fb : ExcBaseFacts B newId initId bmB
  sf : StoreFacts B bmB "object.__setattr__" "object"
theorem bx_VE : BaseX "ValueError" "ValueError.__new__" "ValueError.__init__" [.type "ValueError", .type "Exception", .type "BaseException", .type "object"] := ⟨kxs_ValueError, PySem.F.excBase_ValueError, PySem.F.store_ValueError⟩
theorem bx_LE : BaseX "LookupError" "LookupError.__new__" "LookupError.__init__" [.type "LookupError", .type "Exception", .type "BaseException", .type "object"] := ⟨kxs_LookupError, PySem.F.excBase_LookupError, PySem.F.store_LookupError⟩
/-- the scope of such an __init__ -/
structure IScope (sc : Scope) (ps : List Str) : Prop where
  cell : ∀ x ∈ sc.names, x.2 ≠ .cell
  loc : ∀ x ∈ ps, sc.names.lookup x = some .local
  nd : ps.Nodup
  sup : sc.names.lookup ("super" : Str) = some .globalImplicit
  cls : sc.names.lookup ("__class__" : Str) = some .free
  kind : sc.kind = .function
  co : sc.isCoroutine = false
  gen : sc.isGenerator = false
/-- what the written part says of a class whose __init__ is walked -/
structure XKey (prog : Program) (K : PySem.W.Frag) (mg : Str → Option Value) (C fI cc cda : Addr) (B newId initId : String) (bmB : List Value) : Prop where
  bx : BaseX B newId initId bmB
  hi : findIn K (.ref C) "__init__" = some (some (.ref fI))
  q : excInitIn K C bmB newId = true
  ty : typeIn K (.ref fI) = some (.type "function")
  code : ∃ ccl cdd ccs vs file tf, K.lookup cda = some ⟨ccl, cdd, .fields vs, ccs⟩ ∧ vs[2]? = some (.str file tf) ∧ ((prog.main.file : Str) == file) = true
  cell : ∃ cl cld csl, K.lookup cc = some ⟨cl, cld, .cell (some (.ref C)), csl⟩
  cd : ∃ cdD, clsIn K C = some cdD
  sub : mroIn K C (.ref C) = some true
  sup : mg "super" = none
  any : nsIn K cStatics "thirdparty.any" = some none
  si : ks_superIn K C C "__init__" = some (some (.builtin initId))
  sB : subIn K (.ref C) (.type B) = some true
  sa : findIn K (.ref C) "__setattr__" = some (some (.builtin "object.__setattr__"))
  ov : excOver K C bmB = true
  hd : hasDictIn K C = true
  top : (prog.main.scope.names.lookup ("super" : Str)).isSome = false
section
open Builtin Builtin.ObjectAttr
variable {prog : Program} {w : World} {A : Around} {E : Value → Shared → Prop} {K : PySem.W.Frag} {hp : Heap} {g : Array GenState} {d : Drawn} {t : Nat} {os : OsState}
/-- self.f = v on an exception without a dict yet -/
theorem xset0 {x C : Addr} {fv : Array Value} {name : Str} {v : Value} {B : String} {bmB : List Value} {Q : Unit → Shared → Prop} (SF : StoreFacts B bmB "object.__setattr__" "object") (X : K.In hp) (hx : hp.get? x = some { cls := .ref C, data := .fields fv })
    (hs : findIn K (.ref C) "__setattr__" = some (some (.builtin "object.__setattr__"))) (ov : excOver K C bmB = true) (ht : takerIn K C name = some none) (hh : hasDictIn K C = true)
    (hq : ∀ h' tk' dx, (∀ b o, b ≠ x → hp.get? b = some o → h'.get? b = some o) → hp.objs.size ≤ dx → dx ≠ x → h'.get? x = some { cls := .ref C, dict := some dx, data := .fields fv } →
      h'.Ns1 dx (fun y => if y = name then some v else none) → Q () ⟨h', g, d, tk', os⟩) : wpAny (model prog w) A (setAttr (.ref x) name v) Q E ⟨hp, g, d, t, os⟩ := by
  have I : PySem.W.InstAt hp x { cls := .ref C, data := .fields fv } C none := ⟨hx, rfl, rfl, trivial⟩
  have hxs : x ≠ hp.objs.size := Nat.ne_of_lt (Heap.lt_size hx)
  obtain ⟨cd, hc, hdc⟩ := any_some hh
  refine PySem.W.set_plain X I hs ?_
  refine osa_openX (s := ⟨hp, g, d, t + 1, os⟩) SF X I ov ht fun b => ?_
  have hcls : PySem.W.Looks (model prog w) hp (classData C) cd := PySem.W.looks_clsIn X hc
  obtain ⟨nm, bs, mro, ns, qn, hd, sn, sb, ab, col, del⟩ := cd
  dsimp only at hdc
  subst hdc
  unfold storeInOwnDict ownDictForStores
  repeat (first | with_reducible refine PySem.HandSPX.store_in_new ?_ ?_ | with_reducible refine wpAny_loadPart_at hx ?_ | with_reducible refine hcls.at ?_ | wp_step)
  · exact ⟨_, #[], _, (Heap.get?_update_ne _ _ _ _ hxs.symm).trans (Heap.get?_push_at rfl rfl), rfl, fun e he => absurd he (by simp), fun _ => rfl⟩
  · intro h' tk' hn' hs
    have hx₁ : (hp.push { cls := .type "dict", data := .dict #[] }).get? x = some { cls := .ref C, data := .fields fv } := Heap.get?_push_of_some _ hx
    refine hq h' tk' hp.objs.size (fun b o hb ho => ?_) (Nat.le_refl _) hxs.symm ?_ hn'
    · exact (hs.2 b (Nat.ne_of_lt (Heap.lt_size ho))).trans ((Heap.get?_update_ne _ _ _ _ hb).trans (Heap.get?_push_of_some _ ho))
    · exact (hs.2 x hxs).trans (Heap.get?_update_self _ hx₁ rfl)
end
section
open Builtin Builtin.ObjectAttr
variable {prog : Program} {w : World} {A : Around} {K : PySem.W.Frag} {mg : Str → Option Value} {hp : Heap} {g : Array GenState} {d : Drawn} {t : Nat} {os : OsState}
abbrev supCall (a1 a2 a3 a5 : Pos) (es : List Expr) : Expr := .Call (.Attribute (.Call (.Name "super" a1) [] [] a2) "__init__" a3) es [] a5
abbrev body1 (a1 a2 a3 a4 a5 a6 b1 b2 b3 b4 : Pos) (self p1 f1 : Str) : List Stmt := [.Expr (supCall a1 a2 a3 a5 [.Name p1 a4]) a6, .Assign [.Attribute (.Name self b1) f1 b2] (.Name p1 b3) b4]
/-- super().__init__(p1), in the frame of such an __init__ -/
theorem run_super {C fI cc cda : Addr} {B newId initId : String} {bmB : List Value} {name qual : Str} {params : Arguments} {body rest : List Stmt} {scope : Scope} {dV kV doc pm ct oc : Value} {an od : Option Addr} {osl : Array (Option Value)} {ar : Arg}
    {a1 a2 a3 a5 a6 : Pos} {e1 : Expr} {es : List Expr} {us : List Value} {L t0 e : Addr} {m : Str → Option Value} {Q : Flow → Shared → Prop} {E : Value → Shared → Prop} {h₁ : Heap}
    (T : XKey prog K mg C fI cc cda B newId initId bmB) (har : (params.posonlyargs ++ params.args).head? = some ar) (hks : scope.names.lookup ("super" : Str) = some .globalImplicit) (hkc : scope.names.lookup ("__class__" : Str) = some .free) (hka : scope.names.lookup ar.arg = some .local) (hk : scope.kind = .function)
    (lk : K.lookup fI = some ⟨oc, od, .func (ksFn name qual params body scope dV kV doc pm an (.ref cda) ct cc), osl⟩)
    (X₀ : K.In hp) (md : Mod K mg hp) (F : Fr hp L h₁ m) (N : News hp L h₁ [(e, excObj C t0 none .none), (t0, excTup us)]) (ne : e ≠ t0) (hv : m ar.arg = some (.ref e)) (hz : us.length ≤ sizeLine)
    (hint : interactive (ksEnv qual scope L fI (.ref cda) cc) = false) (hsw : swapsWith (supCall a1 a2 a3 a5 (e1 :: es)) none a6.line (ksEnv qual scope L fI (.ref cda) cc) = pure false)
    (hst : starEach (e1 :: es) (ksEnv qual scope L fI (.ref cda) cc) = (false, eval e1 (ksEnv qual scope L fI (.ref cda) cc)) :: starEach es (ksEnv qual scope L fI (.ref cda) cc)) (hpl : (backTo a5 (starEach es (ksEnv qual scope L fI (.ref cda) cc))).any (·.1) = false)
    {pl : Sem Bool} (hev : eval (supCall a1 a2 a3 a5 (e1 :: es)) (ksEnv qual scope L fI (.ref cda) cc) = (do
      let ov ← attributeBase (.Call (.Name "super" a1) [] [] a2) "__init__" (ksEnv qual scope L fI (.ref cda) cc) (eval (.Call (.Name "super" a1) [] [] a2) (ksEnv qual scope L fI (.ref cda) cc))
      standAt a3.atName
      let (f, first) ← holding [ov] (getMethod ov "__init__" pl)
      callWith a5 f first (backTo a5 (starEach (e1 :: es) (ksEnv qual scope L fI (.ref cda) cc))) []))
    (hargs : ∀ (s : Shared) (M : Model) (A' : Around) (Q : List Value → Shared → Prop), Fr hp L s.heap m → Q us s → wpAny M A' (spliced (backTo a5 (starEach (e1 :: es) (ksEnv qual scope L fI (.ref cda) cc)))) Q E s)
    (h : ∀ h' tk' t1 ns', Fr hp L h' m → News hp L h' ((e, excObj C t1 none .none) :: ns') → (∀ p ∈ ns', p.1 ≠ e) →
      _root_.PySem.wpAt (model prog w) A (.func body (ksEnv qual scope L fI (.ref cda) cc)) (execs rest (ksEnv qual scope L fI (.ref cda) cc)) Q E ⟨h', g, d, tk', os⟩) :
    _root_.PySem.wpAt (model prog w) A (.func body (ksEnv qual scope L fI (.ref cda) cc)) (execs (.Expr (supCall a1 a2 a3 a5 (e1 :: es)) a6 :: rest) (ksEnv qual scope L fI (.ref cda) cc)) Q E ⟨h₁, g, d, t, os⟩ := by
  obtain ⟨ccl, cdd, ccs, vs, file, tf, hcode, hvs, hfile⟩ := T.code
  obtain ⟨cl, cld, csl, hcell⟩ := T.cell
  obtain ⟨cdD, hD⟩ := T.cd
  refine ks_wpAt_execs_cons (ks_wpAt_Expr_any ?_ hint hsw)
  refine ks_wpAt_MethodCall (pl := pl) ?_ hev
  have I0 := InstAt.of_exc0 (C := C) (c2 := .none) N (List.mem_cons_self ..)
  refine super_node (s := ⟨h₁, g, d, t, os⟩) F X₀ md N lk har hv I0 hcode hvs hfile hcell hD T.sub T.sup (by decide) hks hkc hka hk T.top (by first | boot_by_name | rfl | kernel_rfl) fun so h2 F2 N2 l2 => ?_
  have ls : ∀ p ∈ [(e, excObj C t0 none .none), (t0, excTup us)], p.1 < so := l2
  have e1 : e < so := ls (e, excObj C t0 none .none) (List.mem_cons_self ..)
  have e3 : t0 < so := ls (t0, excTup us) (List.mem_cons_of_mem _ (List.mem_cons_self ..))
  have I2 := InstAt.of_exc0 (C := C) (c2 := .none) N2 (List.mem_cons_of_mem _ (List.mem_cons_self ..))
  refine kxs_method (s := ⟨h2, g, d, t, os⟩) T.bx.kf F2 X₀ N2 (List.mem_cons_self ..) I2 T.any T.si T.sB (by decide) fun q h3 F3 N3 l3 => ?_
  have lq : ∀ p ∈ [(so, ks_superObj C e C), (e, excObj C t0 none .none), (t0, excTup us)], p.1 < q := l3
  have e2 : so < q := lq (so, ks_superObj C e C) (List.mem_cons_self ..)
  refine kxs_callWith1 (i := initId) (x := e) N3 (List.mem_cons_self ..) ?_ hst hpl
  refine hargs _ _ _ _ F3 ⟨kxs_at N3 (List.mem_cons_self ..), ?_⟩
  have U : UpdF e (excObj C t0 none .none) [(q, kxs_mw initId e), (so, ks_superObj C e C), (e, excObj C t0 none .none), (t0, excTup us)] (fun o' => [(q, kxs_mw initId e), (so, ks_superObj C e C), (e, o'), (t0, excTup us)]) :=
    .tail (Nat.ne_of_gt (Nat.lt_trans e1 e2)) (.tail (Nat.ne_of_gt e1) (.head fun p hp => by
      obtain rfl : p = (t0, excTup us) := by simpa using hp
      exact Ne.symm ne))
  refine kxs_call (s := ⟨h3, g, d, t + 1, os⟩) (t := t0) (dv := none) (c2 := .none) F3 X₀ N3 T.bx.fb T.q (List.mem_cons_self ..) U hz fun t' h4 F4 N4 l4 => ?_
  have l4' : ∀ p ∈ [(q, kxs_mw initId e), (so, ks_superObj C e C), (e, excObj C t0 none .none), (t0, excTup us)], p.1 < t' := l4
  have e4 : q < t' := l4' (q, kxs_mw initId e) (List.mem_cons_self ..)
  refine h h4 (t + 1) t' [(t', excTup us), (q, kxs_mw initId e), (so, ks_superObj C e C), (t0, excTup us)] F4 (fun p hp => N4 p ?_) fun p hp => ?_
  · simp only [List.mem_cons, List.not_mem_nil, or_false] at hp ⊢
    rcases hp with h | h | h | h | h
    · exact .inr (.inr (.inr (.inl h)))
    · exact .inl h
    · exact .inr (.inl h)
    · exact .inr (.inr (.inl h))
    · exact .inr (.inr (.inr (.inr h)))
  · simp only [List.mem_cons, List.not_mem_nil, or_false] at hp
    have g1 := Nat.lt_trans e1 e2
    rcases hp with h | h | h | h
    · rw [h]
      exact Nat.ne_of_gt (Nat.lt_trans g1 e4)
    · rw [h]
      exact Nat.ne_of_gt g1
    · rw [h]
      exact Nat.ne_of_gt e1
    · rw [h]
      exact Ne.symm ne
end
section
open Builtin Builtin.ObjectAttr
variable {prog : Program} {w : World} {A : Around} {K : PySem.W.Frag} {mg : Str → Option Value} {hp : Heap} {g : Array GenState} {d : Drawn} {t : Nat} {os : OsState}
theorem lk_put {β : Type} (f g : Str) (y : β) (l : List (Str × β)) : ((f, y) :: l).lookup g = if g = f then some y else l.lookup g := by
  rw [List.lookup_cons]
  by_cases h : g = f
  · subst h
    simp
  · have e : (g == f) = false := by simpa using h
    rw [if_neg h, e]
/-- the tree of super().__init__(..) in such a frame -/
def SupOk (qual : Str) (scope : Scope) (fI cda cc : Addr) (a1 a2 a3 a5 : Pos) (e1 : Expr) (es : List Expr) : Prop := ∀ L, ∃ pl, eval (supCall a1 a2 a3 a5 (e1 :: es)) (ksEnv qual scope L fI (.ref cda) cc) = (do
      let ov ← attributeBase (.Call (.Name "super" a1) [] [] a2) "__init__" (ksEnv qual scope L fI (.ref cda) cc) (eval (.Call (.Name "super" a1) [] [] a2) (ksEnv qual scope L fI (.ref cda) cc))
      standAt a3.atName
      let (f, first) ← holding [ov] (getMethod ov "__init__" pl)
      callWith a5 f first (backTo a5 (starEach (e1 :: es) (ksEnv qual scope L fI (.ref cda) cc))) [])
theorem notInter {q : Str} {sc : Scope} {L f cda cc : Addr} (h : sc.kind = .function) : interactive (ksEnv q sc L f (.ref cda) cc) = false := by
  unfold interactive
  show (sc.kind == .module && _) = false
  rw [h]
  rfl
/-- def __init__(self, p1): super().__init__(p1); self.f1 = p1 -/
structure Init1 (K : PySem.W.Frag) (fI cc cda : Addr) (f1 : Str) : Prop where
  ex : ∃ (name qual self p1 : Str) (params : Arguments) (scope : Scope) (dV kV doc pm ct oc : Value) (an od : Option Addr) (osl : Array (Option Value)) (ar : Arg) (a1 a2 a3 a4 a5 a6 b1 b2 b3 b4 : Pos),
    K.lookup fI = some ⟨oc, od, .func (ksFn name qual params (body1 a1 a2 a3 a4 a5 a6 b1 b2 b3 b4 self p1 f1) scope dV kV doc pm an (.ref cda) ct cc), osl⟩ ∧ codeIn K (.ref cda) qual = true ∧ (params.posonlyargs ++ params.args).head? = some ar ∧ ar.arg = self ∧ IScope scope [self, p1] ∧ (self == ("__debug__" : Str)) = false ∧ (p1 == ("__debug__" : Str)) = false ∧
    (∀ u v : Value, bindArgs (ksFn name qual params (body1 a1 a2 a3 a4 a5 a6 b1 b2 b3 b4 self p1 f1) scope dV kV doc pm an (.ref cda) ct cc) ⟨[u, v], []⟩ = pure [(self, u), (p1, v)]) ∧ SupOk qual scope fI cda cc a1 a2 a3 a5 (.Name p1 a4) []
theorem call_init1 {C fI cc cda : Addr} {B newId initId : String} {bmB : List Value} {f1 : Str} {R : Result → Shared → Prop} {hp2 : Heap} {e t0 : Addr} {u : Value} (T : XKey prog K mg C fI cc cda B newId initId bmB) (J : Init1 K fI cc cda f1) (ht : takerIn K C f1 = some none)
    (X₀ : K.In hp) (md : Mod K mg hp) (hroom : A.depth < recursionLimit) (k2 : ∀ b o, hp.get? b = some o → hp2.get? b = some o) (he : hp2.get? e = some (excObj C t0 none .none)) (htt : hp2.get? t0 = some (excTup [u])) (hsz : hp.objs.size ≤ hp2.objs.size) (ne : e ≠ t0) (fe : hp.get? e = none) (ft : hp.get? t0 = none)
    (h : ∀ h' tk' t1 dx, (∀ b o, hp.get? b = some o → h'.get? b = some o) → h'.get? e = some (excObj C t1 (some dx) .none) → hp.objs.size ≤ dx → dx ≠ e → h'.Ns1 dx (fun y => if y = f1 then some u else none) → R (.ok (.ret .none)) ⟨h', g, d, tk', os⟩) :
    codeAny (model prog w) A (.call (.ref fI) ⟨[.ref e, u], []⟩) R ⟨hp2, g, d, t, os⟩ := by
  obtain ⟨name, qual, self, p1, params, scope, dV, kV, doc, pm, ct, oc, an, od, osl, ar, a1, a2, a3, a4, a5, a6, b1, b2, b3, b4, lk, hcd, har, hself, S, hs0, hp0, hb, hev⟩ := J.ex
  have X2 : K.In hp2 := X₀.keeps k2
  subst hself
  refine ks_codeAny_call_defAt (s := ⟨hp2, g, d, t, os⟩) (binds := [(ar.arg, .ref e), (p1, u)]) hroom (X2 _ _ lk) rfl (md.nolimit.keeps k2) (codeRec_of X2 hcd) rfl (BindsTo.of_eq (hb _ _)) S.cell (fun y hy => ?_) (fun h₁ hns hk₁ => ?_) S.co S.gen S.kind
  · simp only [List.mem_cons, List.not_mem_nil, or_false] at hy
    rcases hy with rfl | rfl
    · exact S.loc _ (by simp)
    · exact S.loc _ (by simp)
  have hne : ar.arg ≠ p1 := fun z => by
    have := S.nd
    rw [z] at this
    simp at this
  have hv : ([(ar.arg, Value.ref e), (p1, u)].reverse.lookup ar.arg) = some (.ref e) := by
    show List.lookup ar.arg [(p1, u), (ar.arg, Value.ref e)] = _
    rw [lk_put, if_neg hne, lk_put, if_pos rfl]
  have hv1 : ([(ar.arg, Value.ref e), (p1, u)].reverse.lookup p1) = some u := by
    show List.lookup p1 [(p1, u), (ar.arg, Value.ref e)] = _
    rw [lk_put, if_pos rfl]
  have F1 : Fr hp hp2.objs.size h₁ (fun y => [(ar.arg, Value.ref e), (p1, u)].reverse.lookup y) := ⟨hns, fun b o e => hk₁ b o (k2 b o e), hsz⟩
  have N1 : News hp hp2.objs.size h₁ [(e, excObj C t0 none .none), (t0, excTup [u])] := fun p hp' => by
    simp only [List.mem_cons, List.not_mem_nil, or_false] at hp'
    rcases hp' with h | h
    · rw [h]
      exact ⟨hk₁ _ _ he, Nat.ne_of_lt (Heap.lt_size he), fe⟩
    · rw [h]
      exact ⟨hk₁ _ _ htt, Nat.ne_of_lt (Heap.lt_size htt), ft⟩
  have lself := S.loc ar.arg (by simp)
  have lp1 := S.loc p1 (by simp)
  obtain ⟨pl, hev⟩ := hev hp2.objs.size
  refine run_super (e1 := .Name p1 a4) (es := []) (us := [u]) (pl := pl) T har S.sup S.cls lself S.kind lk X₀ md F1 N1 ne hv (by show 1 ≤ sizeLine; rw [sizeLine_eq]; decide) (notInter S.kind) (by rfl) (by rfl) (by rfl) hev (fun s M A' Q F q => ?_) (fun h' tk' t1 ns' F2 N2 ns2 => ?_)
  · exact Calls.spliced_cons (PySem.ESX.ldL F.ns hv1 (Calls.spliced_nil q) S.kind lp1 hp0)
  · obtain ⟨e0, e1, e2⟩ := N2 (e, excObj C t1 none .none) (List.mem_cons_self ..)
    refine _root_.PySem.wpAt_of_wpAny (wpAny_execs_cons (plainObj_wpAny_Assign_Attribute (PySem.ESX.ldL F2.ns hv1 (PySem.ESX.ldL F2.ns hv ?_ S.kind lself hs0) S.kind lp1 hp0) (by rfl)))
    refine xset0 T.bx.sf (X₀.keeps F2.keep) e0 T.sa T.ov ht T.hd fun h3 tk3 dx k3 dn dne hx hn => wpAny_execs_nil ?_
    have k4 : ∀ b o, hp.get? b = some o → h3.get? b = some o := fun b o eb => k3 b o (fun z => by rw [z, fe] at eb; cases eb) (F2.keep b o eb)
    obtain ⟨oL, _, _, eL, _⟩ := F2.ns
    exact h h3 tk3 t1 dx k4 hx (Nat.le_trans hsz (Nat.le_trans (Nat.le_of_lt (Heap.lt_size eL)) dn)) dne hn
abbrev body2 (a1 a2 a3 a4 a41 a5 a6 b1 b2 b3 b4 c1 c2 c3 c4 : Pos) (self p1 p2 f1 f2 : Str) : List Stmt := [.Expr (supCall a1 a2 a3 a5 [.Name p1 a4, .Name p2 a41]) a6, .Assign [.Attribute (.Name self b1) f1 b2] (.Name p1 b3) b4, .Assign [.Attribute (.Name self c1) f2 c2] (.Name p2 c3) c4]
/-- def __init__(self, p1, p2): super().__init__(p1, p2); self.f1 = p1; self.f2 = p2 -/
structure Init2 (K : PySem.W.Frag) (fI cc cda : Addr) (f1 f2 : Str) : Prop where
  ex : ∃ (name qual self p1 p2 : Str) (params : Arguments) (scope : Scope) (dV kV doc pm ct oc : Value) (an od : Option Addr) (osl : Array (Option Value)) (ar : Arg) (a1 a2 a3 a4 a41 a5 a6 b1 b2 b3 b4 c1 c2 c3 c4 : Pos),
    K.lookup fI = some ⟨oc, od, .func (ksFn name qual params (body2 a1 a2 a3 a4 a41 a5 a6 b1 b2 b3 b4 c1 c2 c3 c4 self p1 p2 f1 f2) scope dV kV doc pm an (.ref cda) ct cc), osl⟩ ∧ codeIn K (.ref cda) qual = true ∧ (params.posonlyargs ++ params.args).head? = some ar ∧ ar.arg = self ∧ IScope scope [self, p1, p2] ∧ (self == ("__debug__" : Str)) = false ∧ (p1 == ("__debug__" : Str)) = false ∧ (p2 == ("__debug__" : Str)) = false ∧
    (∀ u v v2 : Value, bindArgs (ksFn name qual params (body2 a1 a2 a3 a4 a41 a5 a6 b1 b2 b3 b4 c1 c2 c3 c4 self p1 p2 f1 f2) scope dV kV doc pm an (.ref cda) ct cc) ⟨[u, v, v2], []⟩ = pure [(self, u), (p1, v), (p2, v2)]) ∧ SupOk qual scope fI cda cc a1 a2 a3 a5 (.Name p1 a4) [.Name p2 a41]
end
/-- own classes: their instances are made, raised -/
structure XOne (prog : Program) (K : PySem.W.Frag) (mg : Str → Option Value) (C : Addr) (f1 : Str) : Prop where
  ex : ∃ fI cc cda B newId initId bmB, XKey prog K mg C fI cc cda B newId initId bmB ∧ Init1 K fI cc cda f1
  ht : takerIn K C f1 = some none
  kC : keepIn K (.ref C) = true
  sE : subIn K (.ref C) (.type "BaseException") = some true
  tC : typeIn K (.ref C) = some (.type "type")
section
variable {X : Cx} {pins : List (Addr × Obj)} {σ : L2.St} {H : Hp} {s : Shared} {Q : XK} {C : Addr}
/-- what a made exception leaves -/
theorem mk_xd {e t1 dx : Addr} {m0 : Str → Option Value} {fs : List (Str × V)} {h' : Heap} {tk' : Nat} (sE : subIn X.K (.ref C) (.type "BaseException") = some true) (tC : typeIn X.K (.ref C) = some (.type "type")) (I : L2.Inv X pins σ H s)
    (fe : s.heap.get? e = none) (ne' : s.heap.objs.size ≤ e) (k : ∀ b o, s.heap.get? b = some o → h'.get? b = some o) (he : h'.get? e = some (excObj C t1 (some dx) .none)) (hd : s.heap.objs.size ≤ dx) (dne : dx ≠ e) (hn : h'.Ns1 dx m0) (rel : ∀ f, RelO (fs.lookup f) (m0 f))
    (q : Q (.ref C) (some dx) (upd H dx (.xd fs))) : MkP X pins σ Q (.ref e) { s with heap := h', toks := tk' } := by
  obtain ⟨G, g1, g2⟩ := L2.restrict h' fun b => decide (b ≠ e)
  have gk : ∀ b, b ≠ e → G.get? b = h'.get? b := fun b hb => g1 b (decide_eq_true hb)
  have ge : G.get? e = none := g2 e (by simp)
  have kG : ∀ b o, s.heap.get? b = some o → G.get? b = some o := fun b o eb => by
    rw [gk b (fun z => by rw [z, fe] at eb; cases eb)]
    exact k b o eb
  have hnd : H dx = none := I.hok.fresh hd
  have hne : H e = none := I.hok.fresh ne'
  have J : L2.Inv X pins σ (upd H dx (.xd fs)) { s with heap := G, toks := tk' } := I.laid (t' := tk') kG hd ⟨m0, hn.at fun o y => (gk dx dne).trans y, rel⟩
  refine ⟨e, _, _, { s with heap := G, toks := tk' }, _, .ref C, some dx, rfl, J, fun b o eb => ?_, ge, he, ⟨rfl, rfl⟩, rfl, rfl, ?_, rfl, I.bare, raises_own sE tC, q⟩
  · by_cases hb : b = e
    · rw [hb, ge] at eb
      cases eb
    · exact (gk b hb).symm.trans eb
  · rw [upd_ne (Ne.symm dne)]
    exact hne
end
section
variable {X : Cx} {x : Str} {C : Addr} {f1 f2 : Str} {e : Expr} {es : List Expr} {t : TA} {p pos : Pos}
def tXc1 (C : Addr) (f1 : Str) (t : TA) : L2.St → Hp → XK → Prop := fun σ H Q => t σ H fun vs H1 => ∃ v, vs = [v] ∧ ∀ d, H1 d = none → Q (.ref C) (some d) (upd H1 d (.xd [(f1, v)]))
theorem md_of {pins : List (Addr × Obj)} {σ : L2.St} {H : Hp} {s : Shared} (I : L2.Inv X pins σ H s) : Mod X.K X.mg s.heap :=
  have b := I.bk
  ⟨I.kIn, I.ok.mod.glob.keeps b, let ⟨mb, h1, h2⟩ := I.ok.mod.blt; ⟨mb, h1.keeps b, h2⟩, I.nolimit⟩
theorem relO_one {f : Str} {y : V} {u : Value} (r : RelV y u) (g : Str) : RelO (([(f, y)] : List (Str × V)).lookup g) (if g = f then some u else none) := by
  rw [lk_put]
  by_cases h : g = f
  · rw [if_pos h, if_pos h]
    exact r
  · rw [if_neg h, if_neg h]
    exact True.intro
theorem mk_one (T : XOne X.prog X.K X.mg C f1) (hr : Room 1 X.A) (hg : Gl X x) (hm : X.mg x = some (.ref C)) (ha : PA X [e] t) (hdb : (x == ("__debug__" : Str)) = false := by decide)
    (he : starEach [e] X.env = (false, eval e X.env) :: starEach [] X.env := by rfl) : PMk X (.Call (.Name x p) [e] [] pos) (tXc1 C f1 t) := by
  intro pins s σ H Q I h
  obtain ⟨fI, cc, cda, B, newId, initId, bmB, K1, J1⟩ := T.ex
  refine wpAny_Call_Name_kw (ld_glob I hg hm ?_ hdb)
  refine PySem.W.callWith_K (h₀ := X.base) I.ok.mod.kin T.kC (thn (ha.run pos pins s σ H _ I h) fun us s1 ⟨vs, H1, I1, r1, v, ev, q1⟩ => ⟨I1.kIn, ?_⟩) he (by rfl)
  subst ev
  obtain ⟨u, rfl, ru⟩ := vals1 r1
  show wpAny _ _ (call (.ref C) [u]) _ _ _
  obtain ⟨nm, N', qn, bs, bm, hdct, sn, sub, ab, col, dd, k0, k1, k2, k3, k5, hC, hT⟩ := excInit_of I1.kIn K1.q
  have md := md_of I1
  have hi := PySem.W.looks_findIn (M := model X.prog X.w) I1.kIn K1.hi
  have kIn1 := I1.kIn
  obtain ⟨hp, g, dr, tk, os⟩ := s1
  have kk : ∀ b o, hp.get? b = some o → ((hp.push (PySem.W.kdv_tup [u])).push (PySem.HandSPX.excO C hp.objs.size)).get? b = some o := fun b o e => Heap.get?_push_of_some _ (Heap.get?_push_of_some _ e)
  have hget : ((hp.push (PySem.W.kdv_tup [u])).push (PySem.HandSPX.excO C hp.objs.size)).get? (hp.objs.size + 1) = some (PySem.HandSPX.excO C hp.objs.size) := by heap_get
  have hgt : ((hp.push (PySem.W.kdv_tup [u])).push (PySem.HandSPX.excO C hp.objs.size)).get? hp.objs.size = some (PySem.W.kdv_tup [u]) := Heap.get?_push_of_some _ (Heap.get?_push_at rfl rfl)
  have none0 : ∀ {n : Nat}, hp.objs.size ≤ n → hp.get? n = none := fun {n} hn => by
    cases z : hp.get? n with
    | none => rfl
    | some o => exact absurd (Nat.lt_of_lt_of_le (Heap.lt_size z) hn) (Nat.lt_irrefl _)
  refine wpAny_call (PySem.HandSPX.call_own K1.bx.fb hT hC hi (fun self => PySem.W.bind_fn kIn1 self K1.ty) (by show 1 ≤ sizeLine; rw [sizeLine_eq]; decide) ?_)
  refine call_init1 (hp := hp) K1 J1 T.ht kIn1 md (hr.make C [u] []).depth kk hget hgt (by rw [Heap.size_push, Heap.size_push]; omega) (Nat.succ_ne_self _) (none0 (Nat.le_succ _)) (none0 (Nat.le_refl _)) fun h' tk' t1 dx k h1 h2 h3 h4 => ?_
  refine ⟨rfl, ?_⟩
  exact mk_xd T.sE T.tC I1 (none0 (Nat.le_succ _)) (Nat.le_succ _) k h1 h2 h3 h4 (relO_one ru) (q1 dx (I1.hok.fresh h2))
/-- X(), a class without an __init__ of its own -/
theorem mk_own0 {bmB : List Value} {B newId initId : String} (F : ExcBaseFacts B newId initId bmB) (q : PySem.W.excIn X.K C bmB newId = true) (kC : PySem.W.keepIn X.K (.ref C) = true) (sE : subIn X.K (.ref C) (.type "BaseException") = some true) (tC : typeIn X.K (.ref C) = some (.type "type")) (hg : Gl X x) (hm : X.mg x = some (.ref C))
    (hdb : (x == ("__debug__" : Str)) = false := by decide) : PMk X (.Call (.Name x p) [] [] pos) (fun _ H Q => Q (.ref C) none H) := by
  intro pins s σ H Q I h
  refine wpAny_Call_Name_kw (ld_glob I hg hm (PySem.W.callWith_K0 I.kIn kC ?_) hdb)
  obtain ⟨bm, N, nm, qn, bs, hdct, sn, sub, ab, col, dd, k0, k1, k2, k3, k5, mN, hC, hN, hni, T⟩ := exc_obj I.kIn q
  refine wpAny_call_exc_subT F T hC hN hni (fun h' e hmx => ?_) (by show 0 ≤ sizeLine; exact Nat.zero_le _)
  exact mk_of I hmx (raises_own sE tC) h (I.hok.gone hmx.new)
end
end Xm
end L3
namespace L3
open PySem L2
variable [Tbs]
theorem wx_takes {X : Cx} : Takes X (Wx X) := fun u s' ⟨a, B, sI, pins, σ, H, cls, d, e, I, nb, up, sky, na, os, ag, w⟩ => w u s' ⟨a, B, sI, pins, σ, H, cls, d, e, I, nb, up, sky, na, os, ag, rfl, rfl, rfl, rfl⟩
theorem wx_of {X : Cx} {W : WX} {cls : Value} {d : Option Addr} {σ : St} {H : Hp} (tk : Takes X W) (w : W cls d σ H) : Wx X cls d σ H := fun u s' ⟨a, B, sI, pins, σ', H', cls', d', e, I, nb, up, sky, na, os, ag, e1, e2, e3, e4⟩ =>
  tk u s' ⟨a, B, sI, pins, σ', H', cls', d', e, I, nb, up, sky, na, os, ag, by rw [e1, e2, e3, e4]; exact w⟩
section
variable {X : Cx} {e e2 : Expr} {es : List Expr} {t : TAd} {x f1 f2 : Str} {p pos pos2 : Pos} {C : Addr}
def tRaise0 (nm : Str) : TSd := fun D E => D.ex ⟨nm, []⟩ E
def tRaise1 (nm f1 : Str) (t : TAd) : TSd := fun D E => t E fun ds E1 => match ds with
  | [d] => D.ex ⟨nm, [(f1, d)]⟩ E1
  | _ => False
def tRaise2 (nm f1 f2 : Str) (t : TAd) : TSd := fun D E => t E fun ds E1 => match ds with
  | [d, d2] => D.ex ⟨nm, [(f2, d2), (f1, d)]⟩ E1
  | _ => False
theorem s_raise1 (T : Xm.XOne X.prog X.K X.mg C f1) (hr : Room 1 X.A) (hm : X.mg x = some (.ref C)) (ha : PAd X [e] t) (hc : X.calm = true := by rfl) (hg : Gl X x := by rfl) (hdb : (x == ("__debug__" : Str)) = false := by decide)
    (he : starEach [e] X.env = (false, eval e X.env) :: starEach [] X.env := by rfl) : PSd X (.Raise (some (.Call (.Name x p) [e] [] pos2)) none pos) (tRaise1 x f1 t) :=
  ps_imp (ps_raise hc wx_takes (Xm.mk_one T hr hg hm ha hdb he)) fun D σ H ⟨en, Hf, F, E, Dd, S, h, k1, k2, k3, k4, k5⟩ => ⟨en, Hf, F, E, _, S, h, fun vs H1 Hf1 F1 E1 ds s1 S1 r1 h1 => by
    split at h1
    · obtain ⟨v, rfl, r⟩ := r1.one
      refine ⟨v, rfl, fun d nd => ?_⟩
      have s2 : Same Hf1 (upd Hf1 d (.xd [(f1, v)])) := same_upd (S1.sf.free nd)
      exact k5 _ _ _ _ _ _ _ _ (s1.trans s2) (S1.new _ nd) ⟨⟨C, rfl⟩, hm, .inr ⟨d, _, rfl, upd_same, .cons (r.mono s2) .nil⟩⟩ h1
    · exact h1.elim⟩
end
abbrev TXd := (Xd → En → Prop) → TEd
abbrev TAXd := (Xd → En → Prop) → TAd
def liftX (X : Cx) (t : TXd) : TE := fun σ H Q => ∃ en Hf F E Qd Wd, Sat X.K en Hf H F E σ ∧ t Wd E Qd ∧
  (∀ v H' Hf' F' E' d, Same Hf Hf' → Sat X.K en Hf' H' F' E' σ → Rep X.K Hf' v d → Qd d E' → Q v H') ∧
  (∀ cls x H' Hf' F' E' d, Same Hf Hf' → Sat X.K en Hf' H' F' E' σ → XRep X.K X.mg Hf' cls d x → Wd x E' → Wx X cls d σ H')
def liftAX (X : Cx) (t : TAXd) : TA := fun σ H Q => ∃ en Hf F E Qd Wd, Sat X.K en Hf H F E σ ∧ t Wd E Qd ∧
  (∀ vs H' Hf' F' E' ds, Same Hf Hf' → Sat X.K en Hf' H' F' E' σ → RepL X.K Hf' vs ds → Qd ds E' → Q vs H') ∧
  (∀ cls x H' Hf' F' E' d, Same Hf Hf' → Sat X.K en Hf' H' F' E' σ → XRep X.K X.mg Hf' cls d x → Wd x E' → Wx X cls d σ H')
abbrev PXd (X : Cx) (e : Expr) (t : TXd) : Prop := PE X e (liftX X t)
abbrev PAXd (X : Cx) (es : List Expr) (t : TAXd) : Prop := PA X es (liftAX X t)
section
variable {X : Cx} {a b c e : Expr} {es : List Expr} {t : TAd} {ta : TEd} {te tf : TXd} {tx ty : TAXd} {pos : Pos}
def tOfX (t : TEd) : TXd := fun _ => t
def tOfAX (t : TAd) : TAXd := fun _ => t
theorem x_of (h : PEd X e ta) : PXd X e (tOfX ta) := pe_imp h fun σ H Q ⟨en, Hf, F, E, Qd, Wd, S, h, k, _⟩ => ⟨en, Hf, F, E, Qd, S, h, k⟩
theorem ax_of (h : PAd X es t) : PAXd X es (tOfAX t) := pa_imp h fun σ H Q ⟨en, Hf, F, E, Qd, Wd, S, h, k, _⟩ => ⟨en, Hf, F, E, Qd, S, h, k⟩
def tConsAX (ta : TXd) (tr : TAXd) : TAXd := fun W E Q => ta W E fun x E1 => tr W E1 fun xs E2 => Q (x :: xs) E2
/-- any rule that asks its arguments first -/
def tBindX (tx : TAXd) (r : List D → En → (D → En → Prop) → Prop) : TXd := fun W E Q => tx W E fun ds E1 => r ds E1 Q
/-- operators of two, comparisons -/
def tOpX (rd : RD) (ta tb : TXd) : TXd := fun W E Q => ta W E fun x E1 => tb W E1 fun y E2 => rd x y E2 Q
/-- a def without exceptions, its arguments may raise -/
theorem x_call {CX : CXT} {k : Nat} {f : Addr} {fd : FuncData} {ps : List Str} {sp : SpP} {E : XK} {x : Str} {p : Pos} (F : FnG X.prog X.w X.K X.mg X.base CX k f fd ps (liftP X.K sp)) (hgd : X.A.guards = some []) (hr : Room k X.A) (hm : X.mg x = some (.ref f)) (hk : PySem.W.keepIn X.K (.ref f) = true) (hb : Binds X.K fd ps []) (hx : Passes CX X E)
    (ha : PAXd X (e :: es) tx) (hg : Gl X x := by rfl) (hdb : (x == ("__debug__" : Str)) = false := by decide) (he : starEach (e :: es) X.env = (false, eval e X.env) :: starEach es X.env := by rfl) (hpl : (backTo pos (starEach es X.env)).any (·.1) = false := by rfl) :
    PXd X (.Call (.Name x p) (e :: es) [] pos) (tBindX tx fun ds E Q => sp ds fun d => Q d E) :=
  pe_imp (pe_callG F hgd hr hg hm hk hb hx ha hdb he hpl) fun σ H Q ⟨en, Hf, F, E, Qd, Wd, S, h, k, kx⟩ => ⟨en, Hf, F, E, _, Wd, S, h, fun vs H1 Hf1 F1 E1 ds s1 S1 r1 h1 => by
    exact ⟨Hf1, ds, _, S1.sf, r1, h1, fun v H' Hf' d s2 s3 s4 g r q => k _ _ _ _ _ _ (s1.trans s2) (S1.grow s2 s3 s4 g) r q⟩, kx⟩
end
end L3
namespace L3
open PySem L2
variable [Tbs]
abbrev SpX := List D → (D → Prop) → (Xd → Prop) → Prop
def liftPX (K : PySem.W.Frag) (mg : Str → Option Value) (sp : SpX) : Sp := fun vs H Q Ex => ∃ Hf ds Qd Wd, Same Hf H ∧ RepL K Hf vs ds ∧ sp ds Qd Wd ∧
  (∀ v H' Hf' d, Same Hf Hf' → Same Hf' H' → Same H H' → (∀ p o, Hf' p = some o → Hf p = some o ∨ H p = none) → Rep K Hf' v d → Qd d → Q v H') ∧
  (∀ cls x d H' Hf', Same Hf Hf' → Same Hf' H' → Same H H' → (∀ p o, Hf' p = some o → Hf p = some o ∨ H p = none) → XRep K mg Hf' cls d x → Wd x → Ex cls d H')
/-- .. whose first argument may be changed -/
abbrev SoX := Ow → List D → (D → Ow → Prop) → (Xd → Ow → Prop) → Prop
def liftOX (K : PySem.W.Frag) (mg : Str → Option Value) (sp : SoX) : Sp := fun vs H Q Ex => ∃ Hf v0 ws o fp ds Qd Wd, vs = v0 :: ws ∧ Same Hf H ∧ OwRep K Hf H v0 o fp ∧ (∀ p ∈ fp, Hf p = none) ∧ RepL K Hf ws ds ∧ sp o ds Qd Wd ∧
  (∀ v H' Hf' d o' fp', Same Hf Hf' → Same Hf' H' → (∀ p u, p ∉ fp → H p = some u → H' p = some u) → (∀ p u, H p = some u → ∃ u', H' p = some u') → (∀ p u, Hf' p = some u → Hf p = some u ∨ H p = none) →
    (∀ p ∈ fp', Hf' p = none ∧ (p ∈ fp ∨ H p = none)) → OwRep K Hf' H' v0 o' fp' → Rep K Hf' v d → Qd d o' → Q v H') ∧
  (∀ cls x d H' Hf' o' fp', Same Hf Hf' → Same Hf' H' → (∀ p u, p ∉ fp → H p = some u → H' p = some u) → (∀ p u, H p = some u → ∃ u', H' p = some u') → (∀ p u, Hf' p = some u → Hf p = some u ∨ H p = none) →
    (∀ p ∈ fp', Hf' p = none ∧ (p ∈ fp ∨ H p = none)) → OwRep K Hf' H' v0 o' fp' → XRep K mg Hf' cls d x → Wd x o' → Ex cls d H')
section
variable {X : Cx} {k : Nat} {f : Addr} {fd : FuncData} {ps : List Str} {sp : Sp} {E : St → XK} {x : Str} {p pos : Pos} {e : Expr} {es : List Expr} {t : TA} {CX : CXT}
theorem run_GS {pins : List (Addr × Obj)} {σ : St} {H : Hp} {s : Shared} {Q : VK} {us : List Value} {vs : List V} (F : FnG X.prog X.w X.K X.mg X.base CX k f fd ps sp) (hgd : X.A.guards = some []) (hr : Room k X.A) (hb : Binds X.K fd ps []) (hx : PassesAt CX X σ (E σ))
    (I : Inv X pins σ H s) (r : Vals vs us) (h : sp vs H Q (E σ)) : wpAny (model X.prog X.w) X.A (call (.ref f) us) (EP X pins σ Q) X.xe s := by
  have lu : us.length = ps.length := r.length.symm.trans (F.len _ _ _ _ h)
  have bt : BindsTo s fd ⟨us, []⟩ (ps.zip us) := by
    have z := hb s us I.kIn (by rw [List.append_nil]; exact lu)
    rw [List.append_nil] at z
    exact z
  refine wpAny_call (codeAny_mono (F.run X.A hgd hr X.stack s H ⟨us, []⟩ us vs Q (E σ) I.env0 bt r h) fun res s' q => ?_)
  match res, q with
  | .error err, q => exact hx pins H s err s' I q
  | .ok (.ret u), q => exact I.after q
theorem pe_callGS (F : FnG X.prog X.w X.K X.mg X.base CX k f fd ps sp) (hgd : X.A.guards = some []) (hr : Room k X.A) (hg : Gl X x) (hm : X.mg x = some (.ref f)) (hk : PySem.W.keepIn X.K (.ref f) = true) (hb : Binds X.K fd ps []) (hx : ∀ σ, PassesAt CX X σ (E σ)) (ha : PA X (e :: es) t)
    (hdb : (x == ("__debug__" : Str)) = false := by decide) (he : starEach (e :: es) X.env = (false, eval e X.env) :: starEach es X.env := by rfl) (hpl : (backTo pos (starEach es X.env)).any (·.1) = false := by rfl) :
    PE X (.Call (.Name x p) (e :: es) [] pos) (fun σ H Q => t σ H fun vs H1 => sp vs H1 Q (E σ)) :=
  ⟨fun pins s σ H Q I h => wpAny_Call_Name_kw (ld_glob I hg hm (PySem.W.callWith_K (h₀ := X.base) I.ok.mod.kin hk
    (thn (ha.run pos pins s σ H _ I h) fun us s1 ⟨vs, H1, I1, r, q⟩ => ⟨I1.kIn, run_GS F hgd hr hb (hx σ) I1 r q⟩) he hpl) hdb)⟩
end
section
variable {X : Cx} {k : Nat} {f : Addr} {fd : FuncData} {ps : List Str} {sp : SpX} {so : SoX} {x : Str} {p pos : Pos} {e : Expr} {es : List Expr} {tx : TAXd} {t : TAd}
abbrev wxe (X : Cx) : St → XK := fun σ cls d H => Wx X cls d σ H
theorem wx_pass {X : Cx} (σ : St) : PassesAt (L2.CX X.prog X.w) X σ (wxe X σ) := passAt wx_takes σ
def tCallX (sp : SpX) (tx : TAXd) : TXd := fun W E Q => tx W E fun ds E1 => sp ds (fun d => Q d E1) (fun x => W x E1)
/-- .. where it raises nothing -/
def tCallN (sp : SpX) (t : TAd) : TEd := fun E Q => t E fun ds E1 => sp ds (fun d => Q d E1) (fun _ => False)
/-- f(x, ..), x (slot j) a thing of ours, or lent to us -/
def tCallOX (j : Nat) (so : SoX) (tx : TAXd) : TXd := fun W E Q => held E j ∧ tx W E fun ds E1 => match E1[j]? with
  | some (.ow b o) => so o ds (fun d o' => Q d (E1.set j (.ow b o'))) (fun x o' => W x (E1.set j (.ow b o')))
  | _ => False
theorem x_callOX (j : Nat) {y : Str} {py : Pos} (F : FnG X.prog X.w X.K X.mg X.base (L2.CX X.prog X.w) k f fd ps (liftOX X.K X.mg so)) (hgd : X.A.guards = some []) (hr : Room k X.A) (hm : X.mg x = some (.ref f)) (hk : PySem.W.keepIn X.K (.ref f) = true) (hb : Binds X.K fd ps [])
    (ha : PAXd X es tx) (hN : X.N[j]? = some y := by rfl) (hv : Vis X.env.scope y := by first | exact Or.inl rfl | exact Or.inr (Or.inl rfl) | exact Or.inr (Or.inr rfl))
    (hyd : (y == ("__debug__" : Str)) = false := by decide) (hyc : (y == ("__classdict__" : Str)) = false := by decide) (hg : Gl X x := by rfl) (hdb : (x == ("__debug__" : Str)) = false := by decide)
    (he : starEach (.Name y py :: es) X.env = (false, eval (.Name y py) X.env) :: starEach es X.env := by rfl) (hpl : (backTo pos (starEach es X.env)).any (·.1) = false := by rfl) :
    PXd X (.Call (.Name x p) (.Name y py :: es) [] pos) (tCallOX j so tx) :=
  pe_imp (pe_callGS F hgd hr hg hm hk hb wx_pass (pa_cons (pv j hN hv hyd hyc) ha he) hdb he hpl) fun σ H Q ⟨en, Hf, F, E, Qd, Wd, S, h, k, kx⟩ => by
    obtain ⟨v0, hv0⟩ := h.1.val S
    refine ⟨v0, hv0, en, Hf, F, E, _, Wd, S, h.2, fun vs H1 Hf1 F1 E1 ds s1 S1 r1 h1 => ?_, kx⟩
    split at h1
    · rename_i b o eo
      obtain ⟨v1, hv1, ro, hl⟩ := S1.own eo
      rw [hv0] at hv1
      cases hv1
      exact ⟨Hf1, v0, vs, o, F1 j, ds, _, _, rfl, S1.sf, ro, fun q hq => (S1.fp j q hq).1, r1, h1, fun v H' Hf' d o' fp' s2 s3 s4 dm g nf ro' r q =>
        k _ _ _ _ _ _ (s1.trans s2) (S1.changeF eo hv0 s2 s3 s4 dm g nf ro') r q, fun cls x d H' Hf' o' fp' s2 s3 s4 dm g nf ro' r q => kx _ _ _ _ _ _ _ (s1.trans s2) (S1.changeF eo hv0 s2 s3 s4 dm g nf ro') r q⟩
    · exact h1.elim
end
section
variable {X : Cx} {e c tg : Expr} {te : TXd} {g : TGd} {pos : Pos} {u w : TSd} {p q : List Stmt}
def tRetX (te : TXd) : TSd := fun D E => te D.ex E D.rt
theorem s_retX (he : PXd X e te) : PSd X (.Return (some e) pos) (tRetX te) := ps_imp (ps_ret he) fun D σ H ⟨en, Hf, F, E, Dd, S, h, k1, k2, k3, k4, k5⟩ =>
  ⟨en, Hf, F, E, _, _, S, h, fun v H' Hf' F' E' d s1 S1 r1 q => k4 _ _ _ _ _ _ _ s1 S1 r1 q, fun cls x H' Hf' F' E' d s1 S1 r1 q => k5 _ _ _ _ _ _ _ _ s1 S1 r1 q⟩
def tDropX (te : TXd) : TSd := fun D E => te D.ex E fun _ E1 => D.nx E1
def tAsgX (te : TXd) (g : TGd) : TSd := fun D E => te D.ex E fun x E1 => g x E1 D.nx
/-- tests -/
abbrev TTXd := (Xd → En → Prop) → TTd
def tTruX (te : TXd) : TTXd := fun W E Q => te W E fun x E1 => truD x fun k => Q k E1
def tNotX (tt : TTXd) : TTXd := fun W E Q => tt W E fun k E1 => Q (!k) E1
def tTestX (te : TXd) : TTXd := fun W E Q => te W E fun d E1 => match d with
  | .bl k => Q k E1
  | _ => False
def tIfX (tt : TTXd) (u w : TSd) : TSd := fun D E => tt D.ex E fun k E1 => if k = true then u D E1 else w D E1
end
end L3
namespace L3
open PySem L2
variable [Tbs]
section
variable {P : Program} {w : World} {K : PySem.W.Frag} {mg : Str → Option Value} {base : Heap}
theorem fn_pureX {x qual : Str} {st : Stmt} {f : Addr} {fd : FuncData} {N ps : List Str} {k : Nat} {sp : SpX} (F : Fun K x qual st f fd) (S : FnScope N ps (defScope st)) (len : ∀ ds Q W, sp ds Q W → ds.length = ps.length)
    (hbody : ∃ t : TSd, (∀ (cdv : Value) (A : Around) (outer : List Env) (s : Shared) (H : Hp) (E : XK), A.guards = some [] → Room k (A.deeper (PyProof.Rows.envOfC qual (defScope st) s.heap.objs.size f cdv)) →
      PBd (cxOf (L2.CX P w) P w K mg base N qual (defScope st) f cdv A outer s H E) (defBody st) t) ∧
      ∀ ds Q W, sp ds Q W → t { nx := fun _ => Q .non, rt := fun d _ => Q d, ex := fun x _ => W x } (startD N (ds.map .fz))) : FnG P w K mg base (L2.CX P w) (k + 1) f fd ps (liftPX K mg sp) := by
  obtain ⟨t, hd, hq⟩ := hbody
  refine FnG.body F S (fun vs H Q E ⟨Hf, ds, Qd, Wd, _, r, h, _⟩ => by rw [r.length]; exact len _ _ _ h) (fun cdv A outer s H vs Q E hgd hr ⟨Hf, ds, Qd, Wd, sf, r, h, kk, kx⟩ => ⟨_, hd cdv A outer s H E hgd hr, ?_⟩)
  have hl := len _ _ _ h
  have hlen : (start N vs).length = (startD N (ds.map .fz)).length := by
    unfold L2.start startD
    simp only [List.length_append, List.length_map, List.length_replicate, r.length]
  refine ⟨⟨H, Hf, fun _ => [], fun _ => .non, noHp⟩, Hf, fun _ => [], startD N (ds.map .fz), _, ?_, hq ds Qd Wd h, fun σ' H' Hf' F' E' s1 S1 q => ?_, fun _ _ _ _ _ _ _ q => q.elim, fun _ _ _ _ _ _ _ q => q.elim, fun v σ' H' Hf' F' E' d s1 S1 r1 q => ?_, fun cls x σ' H' Hf' F' E' d s1 S1 r1 q => ?_⟩
  · refine { sf := sf, so := fun p o _ a => a, dom := fun p o a => ⟨o, a⟩, sp := fun p o a => (nomatch a), pf := fun p o a => (nomatch a), gf := Same.refl _, gn := fun p o a => .inl a, dj := fun i j p a => (nomatch a), fp := fun i p a => (nomatch a), len := hlen, sl := fun i sl e => ?_ }
    unfold startD at e
    by_cases hi : i < ds.length
    · rw [List.getElem?_append_left (by rw [List.length_map]; exact hi), List.getElem?_map] at e
      obtain ⟨d, ed⟩ := getE hi
      rw [ed] at e
      cases e
      obtain ⟨v, ev, rv⟩ := r.get ed
      exact ⟨v, start_at ev, rv⟩
    · rw [List.getElem?_append_right (by rw [List.length_map]; omega)] at e
      have e2 := List.mem_of_getElem? e
      rw [List.eq_of_mem_replicate e2]
      trivial
  · exact kk .non H' Hf' .non s1 S1.sf (fun p o a => S1.so p o (fun _ z => nomatch z) a) (fun p o a => S1.gn p o a) .non q
  · exact kk v H' Hf' d s1 S1.sf (fun p o a => S1.so p o (fun _ z => nomatch z) a) (fun p o a => S1.gn p o a) r1 q
  · exact wx_of (takes_of rfl rfl rfl rfl) (kx cls x d H' Hf' s1 S1.sf (fun p o a => S1.so p o (fun _ z => nomatch z) a) (fun p o a => S1.gn p o a) r1 q)
theorem fn_ownX {x qual : Str} {st : Stmt} {f : Addr} {fd : FuncData} {N ps : List Str} {k : Nat} {so : SoX} (F : Fun K x qual st f fd) (S : FnScope N ps (defScope st)) (len : ∀ o ds Q W, so o ds Q W → ds.length + 1 = ps.length)
    (hbody : ∃ t : TSd, (∀ (cdv : Value) (A : Around) (outer : List Env) (s : Shared) (H : Hp) (E : XK), A.guards = some [] → Room k (A.deeper (PyProof.Rows.envOfC qual (defScope st) s.heap.objs.size f cdv)) →
      PBd (cxOf (L2.CX P w) P w K mg base N qual (defScope st) f cdv A outer s H E) (defBody st) t) ∧
      ∀ o ds Q W, so o ds Q W → t { nx := fun E => ∃ o', E[0]? = some (.ow true o') ∧ Q .non o', rt := fun d E => ∃ o', E[0]? = some (.ow true o') ∧ Q d o', ex := fun x E => ∃ o', E[0]? = some (.ow true o') ∧ W x o' } (startD N (.ow true o :: ds.map .fz))) : FnG P w K mg base (L2.CX P w) (k + 1) f fd ps (liftOX K mg so) := by
  obtain ⟨t, hd, hq⟩ := hbody
  refine FnG.body F S (fun vs H Q E ⟨Hf, v0, ws, o, fp, ds, Qd, Wd, e, _, _, _, r, h, _⟩ => by rw [e, List.length_cons, r.length]; exact len _ _ _ _ h) (fun cdv A outer s H vs Q E hgd hr ⟨Hf, v0, ws, o, fp, ds, Qd, Wd, e, sf, ro, hfp, r, h, kk, kx⟩ => ⟨_, hd cdv A outer s H E hgd hr, ?_⟩)
  subst e
  have hlen : (start N (v0 :: ws)).length = (startD N (.ow true o :: ds.map .fz)).length := by
    unfold L2.start startD
    simp only [List.length_append, List.length_map, List.length_replicate, List.length_cons, r.length]
  have notin : ∀ {p : Addr}, (∀ i, p ∉ setF (fun _ => []) 0 fp i) → p ∉ fp := fun h => by
    have := h 0
    rw [setF_same] at this
    exact this
  have inn : ∀ {i : Nat} {p : Addr}, p ∈ setF (fun _ => []) 0 fp i → i = 0 ∧ p ∈ fp := fun {i p} h => by
    by_cases z : i = 0
    · subst z
      rw [setF_same] at h
      exact ⟨rfl, h⟩
    · rw [setF_ne z] at h
      cases h
  have own : ∀ {σ' H' Hf' F' E' o'}, Sat K ⟨H, Hf, setF (fun _ => []) 0 fp, fun _ => v0, noHp⟩ Hf' H' F' E' σ' → E'[0]? = some (Sl.ow true o') → OwRep K Hf' H' v0 o' (F' 0) := fun {σ' H' Hf' F' E' o'} S1 e1 => by
    obtain ⟨v1, hv1, ro1, hl1, _⟩ := S1.own e1
    have z2 : v1 = v0 := hl1 rfl
    rw [z2] at ro1
    exact ro1
  have nf : ∀ {σ' H' Hf' F' E'}, Sat K ⟨H, Hf, setF (fun _ => []) 0 fp, fun _ => v0, noHp⟩ Hf' H' F' E' σ' → ∀ p ∈ F' 0, Hf' p = none ∧ (p ∈ fp ∨ H p = none) := fun {σ' H' Hf' F' E'} S1 p hp => by
    obtain ⟨q1, _, q3, _⟩ := S1.fp 0 p hp
    exact ⟨q1, q3.imp (fun ⟨j, hj⟩ => (inn hj).2) id⟩
  have fin : ∀ {v σ' H' Hf' F' E' d}, Same Hf Hf' → Sat K ⟨H, Hf, setF (fun _ => []) 0 fp, fun _ => v0, noHp⟩ Hf' H' F' E' σ' → Rep K Hf' v d → (∃ o', E'[0]? = some (Sl.ow true o') ∧ Qd d o') → Q v H' := fun {v σ' H' Hf' F' E' d} s1 S1 r1 ⟨o', e1, q⟩ =>
    kk v H' Hf' d o' (F' 0) s1 S1.sf (fun p u np a => S1.so p u (fun i z => np (inn z).2) a) S1.dom (fun p u a => S1.gn p u a) (nf S1) (own S1 e1) r1 q
  refine ⟨⟨H, Hf, setF (fun _ => []) 0 fp, fun _ => v0, noHp⟩, Hf, setF (fun _ => []) 0 fp, startD N (.ow true o :: ds.map .fz), _, ?_, hq o ds Qd Wd h, fun σ' H' Hf' F' E' s1 S1 q => ?_, fun _ _ _ _ _ _ _ q => q.elim, fun _ _ _ _ _ _ _ q => q.elim, fun v σ' H' Hf' F' E' d s1 S1 r1 q => fin s1 S1 r1 q, fun cls x σ' H' Hf' F' E' d s1 S1 r1 ⟨o', e1, q⟩ => ?_⟩
  · refine { sf := sf, so := fun p o _ a => a, dom := fun p o a => ⟨o, a⟩, sp := fun p o a => (nomatch a), pf := fun p o a => (nomatch a), gf := Same.refl _, gn := fun p o a => .inl a, dj := fun i j p a b => by rw [(inn a).1, (inn b).1], fp := fun i p a => ⟨hfp p (inn a).2, ro.some p (inn a).2, .inl ⟨i, a⟩, rfl⟩, len := hlen, sl := fun i sl e => ?_ }
    unfold startD at e
    cases i with
    | zero =>
      rw [List.cons_append, List.getElem?_cons_zero] at e
      cases e
      refine ⟨v0, start_at rfl, by rw [setF_same]; exact ro, fun _ => rfl, fun z => by cases z⟩
    | succ i =>
      rw [List.cons_append, List.getElem?_cons_succ] at e
      by_cases hi : i < ds.length
      · rw [List.getElem?_append_left (by rw [List.length_map]; exact hi), List.getElem?_map] at e
        obtain ⟨d, ed⟩ := getE hi
        rw [ed] at e
        cases e
        obtain ⟨v, ev, rv⟩ := r.get ed
        exact ⟨v, start_at (by rw [List.getElem?_cons_succ]; exact ev), rv⟩
      · rw [List.getElem?_append_right (by rw [List.length_map]; omega)] at e
        have e2 := List.mem_of_getElem? e
        rw [List.eq_of_mem_replicate e2]
        trivial
  · exact fin s1 S1 .non q
  · exact wx_of (takes_of rfl rfl rfl rfl) (kx cls x d H' Hf' o' (F' 0) s1 S1.sf (fun p u np a => S1.so p u (fun i z => np (inn z).2) a) S1.dom (fun p u a => S1.gn p u a) (nf S1) (own S1 e1) r1 q)
theorem cal_ownX {x : Str} {st : Stmt} {N ps : List Str} {k : Nat} {so : SoX} (d : Dfn K mg x st ps) (S : FnScope N ps (defScope st)) (len : ∀ o ds Q W, so o ds Q W → ds.length + 1 = ps.length)
    (hbody : ∃ t : TSd, (∀ (f : Addr) (cdv : Value) (A : Around) (outer : List Env) (s : Shared) (H : Hp) (E : XK), A.guards = some [] → Room k (A.deeper (PyProof.Rows.envOfC x (defScope st) s.heap.objs.size f cdv)) →
      PBd (cxOf (L2.CX P w) P w K mg base N x (defScope st) f cdv A outer s H E) (defBody st) t) ∧
      ∀ o ds Q W, so o ds Q W → t { nx := fun E => ∃ o', E[0]? = some (.ow true o') ∧ Q .non o', rt := fun d E => ∃ o', E[0]? = some (.ow true o') ∧ Q d o', ex := fun x E => ∃ o', E[0]? = some (.ow true o') ∧ W x o' } (startD N (.ow true o :: ds.map .fz))) : Cal P w K mg base (L2.CX P w) x (k + 1) ps (liftOX K mg so) := by
  obtain ⟨f, fd, F, hm, hb⟩ := d
  obtain ⟨t, h1, h2⟩ := hbody
  exact ⟨f, fd, fn_ownX F S len ⟨t, h1 f, h2⟩, hm, F.kp, hb⟩
end
def spx0 (R : (D → Prop) → (Xd → Prop) → Prop) : SpX := fun ds Q W => match ds with
  | [] => R Q W
  | _ => False
def spx1 (R : D → (D → Prop) → (Xd → Prop) → Prop) : SpX := fun ds Q W => match ds with
  | [x] => R x Q W
  | _ => False
def spx2 (R : D → D → (D → Prop) → (Xd → Prop) → Prop) : SpX := fun ds Q W => match ds with
  | [x, y] => R x y Q W
  | _ => False
def spx3 (R : D → D → D → (D → Prop) → (Xd → Prop) → Prop) : SpX := fun ds Q W => match ds with
  | [x, y, z] => R x y z Q W
  | _ => False
def spx4 (R : D → D → D → D → (D → Prop) → (Xd → Prop) → Prop) : SpX := fun ds Q W => match ds with
  | [x, y, z, u] => R x y z u Q W
  | _ => False
theorem spx1_len {R} : ∀ ds Q W, spx1 R ds Q W → ds.length = 1 := fun ds Q W h => by
  unfold spx1 at h
  split at h
  · rfl
  · exact h.elim
theorem spx2_len {R} : ∀ ds Q W, spx2 R ds Q W → ds.length = 2 := fun ds Q W h => by
  unfold spx2 at h
  split at h
  · rfl
  · exact h.elim
theorem spx1_by {R} {G : List D → (D → Prop) → (Xd → Prop) → Prop} (h : ∀ x Q W, R x Q W → G [x] Q W) : ∀ ds Q W, spx1 R ds Q W → G ds Q W := fun ds Q W q => by
  unfold spx1 at q
  split at q
  · exact h _ _ _ q
  · exact q.elim
theorem spx2_by {R} {G : List D → (D → Prop) → (Xd → Prop) → Prop} (h : ∀ x y Q W, R x y Q W → G [x, y] Q W) : ∀ ds Q W, spx2 R ds Q W → G ds Q W := fun ds Q W q => by
  unfold spx2 at q
  split at q
  · exact h _ _ _ _ q
  · exact q.elim
end L3
namespace L3
open PySem L2 PySem.Spec PyProof.Rows
variable [Tbs]
/-- the ends behind a suite whose clause has the name of slot i -/
def endsBut (D : Ends) : Option Nat → Ends
  | none => D
  | some i => { nx := fun σ' H' => D.nx (σ'.set i none) H', rt := D.rt, bk := fun σ' H' => D.bk (σ'.set i none) H', ct := fun σ' H' => D.ct (σ'.set i none) H' }
def slotAt (σ : L2.St) (a : Addr) : Option Nat → L2.St
  | none => σ
  | some i => σ.set i (some (.ref a))
abbrev Clause := Value × Option Nat × (Addr → Value → Option Addr → TS)
def wAll (K : PySem.W.Frag) (Wout : WX) (D : Ends) : List Clause → WX
  | [] => Wout
  | (c, i, ts) :: r => fun cls d σ H => ∃ b, PySem.W.exmOne K cls c = some b ∧ (b = true → ∀ a, H a = none → ts a cls d (endsBut D i) (slotAt σ a i) H) ∧ (b = false → wAll K Wout D r cls d σ H)
inductive HdsAll (X : Cx) : List ExceptHandler → List Clause → Prop
  | nil : HdsAll X [] []
  | only {x : Str} {c : Value} {ts : Addr → Value → Option Addr → TS} {b₀ : Stmt} {suite : List Stmt} {np pos' : Pos} {hds : List ExceptHandler} {l : List Clause} (hc : Names X x c)
      (hsu : ∀ (a : Addr) (oe : Obj) (cls : Value) (d : Option Addr) (pn : List (Addr × Obj)), Zc cls d oe → (∃ vs, oe.data = .fields vs) → PSs (X.suite a ((a, oe) :: pn)) (b₀ :: suite) (ts a cls d)) (r : HdsAll X hds l) :
      HdsAll X (.ExceptHandler (some (.Name x np)) none (b₀ :: suite) pos' :: hds) ((c, none, ts) :: l)
  | as {x n : Str} {i : Nat} {c : Value} {ts : Addr → Value → Option Addr → TS} {b₀ : Stmt} {suite : List Stmt} {np pos' : Pos} {hds : List ExceptHandler} {l : List Clause} (hc : Names X x c) (hi : X.N[i]? = some n) (hln : X.env.kindOf n = some .local)
      (hsu : ∀ (a : Addr) (oe : Obj) (cls : Value) (d : Option Addr) (pn : List (Addr × Obj)), Zc cls d oe → (∃ vs, oe.data = .fields vs) → PSs (X.suite a ((a, oe) :: pn)) (b₀ :: suite) (ts a cls d)) (r : HdsAll X hds l) :
      HdsAll X (.ExceptHandler (some (.Name x np)) (some n) (b₀ :: suite) pos' :: hds) ((c, some i, ts) :: l)
section
variable {X : Cx} {body : List Stmt} {h₀ : ExceptHandler} {hds : List ExceptHandler} {l : List Clause} {pos : Pos} {tb : WX → TS} {Wout : WX}
theorem ps_try_all (hs : X.stack = X.env :: X.outer) (hf : X.env.frame = some X.env.locals) (hN : X.N.Nodup) (tk : Takes X Wout)
    (hb : ∀ (W : WX) (pn : List (Addr × Obj)) (xe : Value → Shared → Prop), Takes (X.tr pn xe) W → PassesOwn (model X.prog X.w) X.A X.env xe → PSs (X.tr pn xe) body (tb W))
    (hh : HdsAll X (h₀ :: hds) l) : PS X (.Try body (h₀ :: hds) [] [] pos) (fun D σ H => tb (wAll X.K Wout D l) D σ H) := by
  refine ⟨fun pins s σ H D I h => ?_⟩
  have ok := I.ok
  have hfr : X.A.frames = some (X.env :: X.outer) := by rw [ok.frames, hs]
  refine wpAny_Try_except ?_
  refine wpAny_mono ((hb (wAll X.K Wout D l) (X.pn ++ pins) (fun e s₁ => wpAny (model X.prog X.w) X.A (noteFrame e X.env) (fun _ s₂ => wpAny (model X.prog X.w) X.A (setFlight e none) (fun _ s₃ =>
    wpAny (model X.prog X.w) X.A (handleBy e X.env (h₀ :: hds)) (SP X pins D) X.xe s₃) X.xe s₂) X.xe s₁) (fun u s' xx => ?_) PassesOwn.looking).run [] s σ H D (I.toTry _) h) (fun f s1 hsp => ?_) (fun e s1 he => he)
  · -- the catch
    obtain ⟨a, B, sI, pins', σ', H', cls, d, rfl, J', nb, up, sky, na, os, ag, w⟩ := xx
    have J : L2.Inv X pins σ' H' sI := J'.ofTry ok
    have sky' : Sky B (X.env :: X.outer) a (Zc cls d) X.env.locals s'.heap := by rw [← hs]; exact sky
    show wpAny (model X.prog X.w) X.A (noteFrame (.ref a) X.env) _ _ _
    refine Sky.land Zc.steady hfr hf sky' fun h3 fl3 up3 => ?_
    have J3 : L2.Inv X pins σ' H' { s' with heap := h3 } := J.landed nb fl3.1 (up.trans up3) os ag
    obtain ⟨oe3, vs3, he3, hz3, hd3⟩ := fl3.there
    have notFr : ∀ {h : Heap} {o : Obj} {vs : Array Value}, h.FunFrames B (X.env :: X.outer) → h.get? a = some o → o.data = .fields vs → a ∉ frs (X.env :: X.outer) := fun {h o vs} ff e dd hm => by
      obtain ⟨_, o', e', hnf⟩ := ff.mem hm
      rw [e] at e'; cases e'
      exact hnf _ dd
    have nfr := notFr fl3.2.2.1 he3 hd3
    have nL : a ≠ X.env.locals := fun z => nfr (List.mem_filterMap.mpr ⟨X.env, List.mem_cons_self, by rw [hf, z]⟩)
    have nF : a ∉ X.fs := fun hm => by
      obtain ⟨e, he, q⟩ := List.mem_filterMap.mp hm
      exact nfr (List.mem_filterMap.mpr ⟨e, List.mem_cons_of_mem _ he, q⟩)
    have S3 := J3.suite he3 hd3 na nL nF
    have LT : PySem.W.Looks (model X.prog X.w) h3 (typeOf (.ref a)) cls := fun A Q E s k q => wpAny_typeOf_ref (k _ _ he3) (by rw [hz3.1]; exact q)
    have test : ∀ {x : Str} {c : Value} {np : Pos}, Names X x c → ∀ {Q : Value → Shared → Prop} {E : Value → Shared → Prop}, Q c { s' with heap := h3 } → wpAny (model X.prog X.w) (X.A.mark (some (.ref a))) (eval (.Name x np) X.env) Q E { s' with heap := h3 } := fun {x c np} hc {Q E} q => by
      obtain ⟨hg, hdbg, hm | ⟨hm, hv, hnn⟩⟩ := hc
      · exact ld_glob (X := X.suite a ((a, oe3) :: (X.pn ++ pins))) S3 hg hm q hdbg
      · exact ld_blt (X := X.suite a ((a, oe3) :: (X.pn ++ pins))) S3 hg hm hv q hnn hdbg
    have go : ∀ {hds' : List ExceptHandler} {l' : List Clause}, HdsAll X hds' l' → wAll X.K Wout D l' cls d σ' H' →
        wpAny (model X.prog X.w) X.A (handleBy (.ref a) X.env hds') (SP X pins D) X.xe { s' with heap := h3 } := by
      intro hds' l' hk
      induction hk with
      | nil =>
        intro w
        refine wpAny_handleBy_nil ?_
        obtain ⟨k1, k2, k3, oe, vs, T, oT, ts', he, hz, hd, h1, hr⟩ := id fl3
        unfold PySem.passOn
        refine wpAny_bind (wpAny_field he hd h1 ?_)
        rw [if_neg (show ¬ ((Value.ref T == Value.none) = true) from by simp)]
        have fin : wpAny (model X.prog X.w) X.A (setFlight (.ref a) X.env.frame) (fun _ s4 => wpAny (model X.prog X.w) X.A (throw (.ref a) : Sem Flow) (SP X pins D) X.xe s4) X.xe { s' with heap := h3 } := by
          rw [hf]
          refine HandSPX.setFlight_upZ fl3 fun h4 hh4 up4 => wpAny_throw (tk _ _ ?_)
          exact ⟨a, B, sI, pins, σ', H', cls, d, rfl, J, nb, (up.trans up3).trans up4, .inr (.inr (by rw [hs]; exact hh4)), na, os, ag, w⟩
        first
          | exact wpAny_bind (wpAny_pure (wpAny_bind fin))
          | exact wpAny_bind fin
      | @only x c ts b₀ suite np pos' hds2 l2 hc hsu r ih =>
        intro w
        obtain ⟨b, hb1, hyes, hno⟩ := w
        refine wpAny_handleBy_cons (codeAny_handlers_test ?_) (by intro q; cases q)
        have LM := PySem.W.exm_one (M := model X.prog X.w) (J3.kIn) LT hb1
        refine test hc (LM.here ?_)
        cases b with
        | true =>
          refine codeAny_handlers_suite ?_
          refine HandSPX.lands_againZ fl3 fun h4 fl4 up4 => ?_
          have J4 : L2.Inv X pins σ' H' { s' with heap := h4 } := J.landed nb fl4.1 ((up.trans up3).trans up4) os ag
          obtain ⟨oe4, vs4, he4, hz4, hd4⟩ := fl4.there
          have S4 := J4.suite he4 hd4 na nL nF
          refine wpAny_mono ((hsu a oe4 cls d (X.pn ++ pins) hz4 ⟨_, hd4⟩).run [] _ _ H' _ S4 (hyes rfl a na)) (fun f s6 hsp => ?_) (fun _ _ z => False.elim z)
          cases f with
          | next =>
            obtain ⟨σ6, H6, S6, q6⟩ := hsp
            exact ⟨_, _, S6.unsuite ok, q6⟩
          | brk =>
            obtain ⟨σ6, H6, S6, q6⟩ := hsp
            exact ⟨_, _, S6.unsuite ok, q6⟩
          | cont =>
            obtain ⟨σ6, H6, S6, q6⟩ := hsp
            exact ⟨_, _, S6.unsuite ok, q6⟩
          | ret u =>
            obtain ⟨v6, σ6, H6, S6, r6, q6⟩ := hsp
            exact ⟨_, _, _, S6.unsuite ok, r6, q6⟩
        | false =>
          show wpAny _ X.A (handleBy (.ref a) X.env hds2) _ _ _
          exact ih (hno rfl)
      | @as x n i c ts b₀ suite np pos' hds2 l2 hc hi hln hsu r ih =>
        intro w
        obtain ⟨b, hb1, hyes, hno⟩ := w
        refine wpAny_handleBy_cons (codeAny_handlers_test ?_) (by intro q; cases q)
        have LM := PySem.W.exm_one (M := model X.prog X.w) (J3.kIn) LT hb1
        refine test hc (LM.here ?_)
        cases b with
        | true =>
          refine codeAny_handlers_suite_as ?_
          refine HandSPX.lands_againZ fl3 fun h4 fl4 up4 => ?_
          have J4 : L2.Inv X pins σ' H' { s' with heap := h4 } := J.landed nb fl4.1 ((up.trans up3).trans up4) os ag
          obtain ⟨oe4, vs4, he4, hz4, hd4⟩ := fl4.there
          have S4 := J4.suite he4 hd4 na nL nF
          refine store_ok (X := X.suite a ((a, oe4) :: (X.pn ++ pins))) (v := .ref a) S4 hN hi (.inl hln) rfl (fun s5 S5 => ?_) (.inr hln)
          refine wpAny_mono ((hsu a oe4 cls d (X.pn ++ pins) hz4 ⟨_, hd4⟩).run [] s5 _ H' _ S5 (hyes rfl a na)) (fun f s6 hsp => ?_) (fun _ _ z => False.elim z)
          have end_ : ∀ {σ6 : L2.St} {H6 : Hp} {Q : Shared → Prop}, L2.Inv (X.suite a ((a, oe4) :: (X.pn ++ pins))) [] σ6 H6 s6 → (∀ s7, L2.Inv X pins (σ6.set i none) H6 s7 → Q s7) →
              wpAny (model X.prog X.w) X.A (do bindName X.env n .none; unbindBehindTheSuite X.env n pos') (fun _ s7 => Q s7) X.xe s6 := fun {σ6 H6 Q} S6 hq => gone_ok (S6.unsuite ok) hN hi hln hq
          cases f with
          | next =>
            obtain ⟨σ6, H6, S6, q6⟩ := hsp
            exact end_ S6 fun s7 J7 => ⟨_, _, J7, q6⟩
          | brk =>
            obtain ⟨σ6, H6, S6, q6⟩ := hsp
            exact end_ S6 fun s7 J7 => ⟨_, _, J7, q6⟩
          | cont =>
            obtain ⟨σ6, H6, S6, q6⟩ := hsp
            exact end_ S6 fun s7 J7 => ⟨_, _, J7, q6⟩
          | ret u =>
            obtain ⟨v6, σ6, H6, S6, r6, q6⟩ := hsp
            exact end_ S6 fun s7 J7 => ⟨_, _, _, J7, r6, q6⟩
        | false =>
          show wpAny _ X.A (handleBy (.ref a) X.env hds2) _ _ _
          exact ih (hno rfl)
    exact go hh w
  · cases f with
    | next =>
      obtain ⟨σ', H', J', q⟩ := hsp
      exact wpAny_execs_nil ⟨σ', H', J'.ofTry ok, q⟩
    | brk =>
      obtain ⟨σ', H', J', q⟩ := hsp
      exact ⟨σ', H', J'.ofTry ok, q⟩
    | cont =>
      obtain ⟨σ', H', J', q⟩ := hsp
      exact ⟨σ', H', J'.ofTry ok, q⟩
    | ret u =>
      obtain ⟨v, σ', H', J', r, q⟩ := hsp
      exact ⟨v, σ', H', J'.ofTry ok, r, q⟩
end
end L3
namespace L3
open PySem L2
variable [Tbs]
/-- an exception of the class nm: does the clause of hn take it? -/
def XSub (K : PySem.W.Frag) (mg : Str → Option Value) (nm hn : Str) (b : Bool) : Prop := ∀ cls c, mg nm = some cls → (mg hn = some c ∨ (mg hn = none ∧ bootBuiltins hn = some c)) → PySem.W.exmOne K cls c = some b
abbrev ClauseD := Str × Option Nat × (Addr → Value → Option Addr → TSd)
def endsButD (D : EndsD) : Option Nat → EndsD
  | none => { nx := D.nx, rt := D.rt, bk := D.bk, ct := D.ct }
  | some i => { nx := fun E => D.nx (E.set i .un), rt := D.rt, bk := fun E => D.bk (E.set i .un), ct := fun E => D.ct (E.set i .un) }
def slotOkD (E : En) : Option Nat → Prop
  | none => True
  | some i => canSet E i
def slotD (E : En) (a : Addr) (cls : Value) (d : Option Addr) (fs : List (Str × D)) : Option Nat → En
  | none => E
  | some i => E.set i (.xc a cls d fs)
def clausesD (K : PySem.W.Frag) (mg : Str → Option Value) : List ClauseD → EndsD → Xd → En → Prop
  | [], D, x, E => D.ex x E
  | (hn, i, ts) :: r, D, x, E => ∃ b, XSub K mg x.nm hn b ∧ (b = true → slotOkD E i ∧ ∀ a cls d, mg x.nm = some cls → (∃ C : Addr, cls = .ref C) → (x.fs ≠ [] → ∃ dd, d = some dd) → ts a cls d (endsButD D i) (slotD E a cls d x.fs i)) ∧ (b = false → clausesD K mg r D x E)
def tTryD (K : PySem.W.Frag) (mg : Str → Option Value) (tb : TSd) (l : List ClauseD) : TSd := fun D E => tb { nx := D.nx, rt := D.rt, bk := D.bk, ct := D.ct, ex := fun x E1 => clausesD K mg l D x E1 } E
/-- a block's reading, its exceptions wished for by W -/
def liftSW (K : PySem.W.Frag) (mg : Str → Option Value) (W : WX) (t : TSd) : TS := fun D σ H => ∃ en Hf F E Dd, Sat K en Hf H F E σ ∧ t Dd E ∧
  (∀ σ' H' Hf' F' E', Same Hf Hf' → Sat K en Hf' H' F' E' σ' → Dd.nx E' → D.nx σ' H') ∧
  (∀ σ' H' Hf' F' E', Same Hf Hf' → Sat K en Hf' H' F' E' σ' → Dd.bk E' → D.bk σ' H') ∧
  (∀ σ' H' Hf' F' E', Same Hf Hf' → Sat K en Hf' H' F' E' σ' → Dd.ct E' → D.ct σ' H') ∧
  (∀ v σ' H' Hf' F' E' d, Same Hf Hf' → Sat K en Hf' H' F' E' σ' → Rep K Hf' v d → Dd.rt d E' → D.rt v H') ∧
  (∀ cls x σ' H' Hf' F' E' d, Same Hf Hf' → Sat K en Hf' H' F' E' σ' → XRep K mg Hf' cls d x → Dd.ex x E' → W cls d σ' H')
theorem sw_of {X : Cx} {W : WX} {body : List Stmt} {t : TSd} (tk : Takes X W) (h : PBd X body t) : PSs X body (liftSW X.K X.mg W t) :=
  pss_imp h fun D σ H ⟨en, Hf, F, E, Dd, S, h, k1, k2, k3, k4, k5⟩ => ⟨en, Hf, F, E, Dd, S, h, k1, k2, k3, k4, fun cls x σ' H' Hf' F' E' d s1 S1 r1 q => wx_of tk (k5 cls x σ' H' Hf' F' E' d s1 S1 r1 q)⟩
theorem sw_no {X : Cx} {body : List Stmt} {t : TSd} (h : PBd X body t) : PSs X body (liftSW X.K X.mg (fun _ _ _ _ => False) t) :=
  pss_imp h fun D σ H ⟨en, Hf, F, E, Dd, S, h, k1, k2, k3, k4, k5⟩ => ⟨en, Hf, F, E, Dd, S, h, k1, k2, k3, k4, fun cls x σ' H' Hf' F' E' d s1 S1 r1 q => (k5 cls x σ' H' Hf' F' E' d s1 S1 r1 q).elim⟩
section
variable {K : PySem.W.Frag} {en : Et} {Hf H : Hp} {F : Nat → List Addr} {E : En} {σ : St}
theorem Sat.setXc (S : Sat K en Hf H F E σ) {i : Nat} {a : Addr} {cls : Value} {d : Option Addr} {fs : List (Str × D)} (c : canSet E i) (r : XfRep K Hf d fs) : Sat K en Hf H (setF F i []) (E.set i (.xc a cls d fs)) (σ.set i (some (.ref a))) :=
  S.setG c.lt (fun p h => nomatch h) ⟨by rw [List.getElem?_set_self (by rw [S.len]; exact c.lt)], r⟩
theorem Sat.unset (S : Sat K en Hf H F E σ) (i : Nat) : Sat K en Hf H F (E.set i .un) (σ.set i none) :=
  S.re (by rw [List.length_set, List.length_set, S.len]) fun j s h => by
    by_cases hj : i = j
    · subst hj
      by_cases hl : i < E.length
      · rw [List.getElem?_set_self hl] at h
        cases h
        exact .inl rfl
      · rw [List.getElem?_eq_none (by simpa using hl)] at h
        cases h
    · rw [List.getElem?_set_ne hj] at h
      exact .inr ⟨h, List.getElem?_set_ne hj⟩
end
inductive HdsD (X : Cx) : List ExceptHandler → List ClauseD → Prop
  | nil : HdsD X [] []
  | only {x : Str} {ts : Addr → Value → Option Addr → TSd} {b₀ : Stmt} {suite : List Stmt} {np pos' : Pos} {hds : List ExceptHandler} {l : List ClauseD} (c : Value) (hc : Names X x c)
      (hsu : ∀ (a : Addr) (oe : Obj) (cls : Value) (d : Option Addr) (pn : List (Addr × Obj)), Zc cls d oe → (∃ vs, oe.data = .fields vs) → PBd (X.suite a ((a, oe) :: pn)) (b₀ :: suite) (ts a cls d)) (r : HdsD X hds l) :
      HdsD X (.ExceptHandler (some (.Name x np)) none (b₀ :: suite) pos' :: hds) ((x, none, ts) :: l)
  | as {x n : Str} (i : Nat) {ts : Addr → Value → Option Addr → TSd} {b₀ : Stmt} {suite : List Stmt} {np pos' : Pos} {hds : List ExceptHandler} {l : List ClauseD} (c : Value) (hc : Names X x c) (hi : X.N[i]? = some n) (hln : X.env.kindOf n = some .local)
      (hsu : ∀ (a : Addr) (oe : Obj) (cls : Value) (d : Option Addr) (pn : List (Addr × Obj)), Zc cls d oe → (∃ vs, oe.data = .fields vs) → PBd (X.suite a ((a, oe) :: pn)) (b₀ :: suite) (ts a cls d)) (r : HdsD X hds l) :
      HdsD X (.ExceptHandler (some (.Name x np)) (some n) (b₀ :: suite) pos' :: hds) ((x, some i, ts) :: l)
theorem names_sub {X : Cx} {x : Str} {c cls : Value} {nm : Str} {b : Bool} (hc : Names X x c) (h : XSub X.K X.mg nm x b) (hm : X.mg nm = some cls) : PySem.W.exmOne X.K cls c = some b := by
  obtain ⟨_, _, h1 | ⟨h1, h2, _⟩⟩ := hc
  · exact h _ _ hm (.inl h1)
  · exact h _ _ hm (.inr ⟨h1, h2⟩)
theorem HdsD.all {X : Cx} {hds : List ExceptHandler} {l : List ClauseD} (h : HdsD X hds l) : ∃ l2 : List Clause, HdsAll X hds l2 ∧ ∀ (D : Ends) (Dd : EndsD) (en : Et) (Hf : Hp) (H : Hp) (F : Nat → List Addr) (E : En) (σ : St) (cls : Value) (x : Xd) (d : Option Addr), Sat X.K en Hf H F E σ → XRep X.K X.mg Hf cls d x → clausesD X.K X.mg l Dd x E →
    (∀ σ' H' Hf' F' E', Same Hf Hf' → Sat X.K en Hf' H' F' E' σ' → Dd.nx E' → D.nx σ' H') →
    (∀ σ' H' Hf' F' E', Same Hf Hf' → Sat X.K en Hf' H' F' E' σ' → Dd.bk E' → D.bk σ' H') →
    (∀ σ' H' Hf' F' E', Same Hf Hf' → Sat X.K en Hf' H' F' E' σ' → Dd.ct E' → D.ct σ' H') →
    (∀ v σ' H' Hf' F' E' d, Same Hf Hf' → Sat X.K en Hf' H' F' E' σ' → Rep X.K Hf' v d → Dd.rt d E' → D.rt v H') →
    (∀ cls x σ' H' Hf' F' E' d, Same Hf Hf' → Sat X.K en Hf' H' F' E' σ' → XRep X.K X.mg Hf' cls d x → Dd.ex x E' → Wx X cls d σ' H') → wAll X.K (Wx X) D l2 cls d σ H := by
  induction h with
  | nil => exact ⟨[], .nil, fun D Dd en Hf H F E σ cls x d S r h k1 k2 k3 k4 k5 => k5 cls x σ H Hf F E d (Same.refl _) S r h⟩
  | @only x ts b₀ suite np pos' hds l c hc hsu r ih =>
    obtain ⟨l2, hl2, ih⟩ := ih
    refine ⟨(c, none, fun a cls d => liftSW X.K X.mg (fun _ _ _ _ => False) (ts a cls d)) :: l2, .only hc (fun a oe cls d pn hz hf => sw_no (hsu a oe cls d pn hz hf)) hl2, fun D Dd en Hf H F E σ cls x d S rx h k1 k2 k3 k4 k5 => ?_⟩
    obtain ⟨b, hb, h1, h2⟩ := h
    obtain ⟨⟨C, hC⟩, hm, hf⟩ := id rx
    refine ⟨b, names_sub hc hb hm, fun e a na => ?_, fun e => ih D Dd en Hf H F E σ cls x d S rx (h2 e) k1 k2 k3 k4 k5⟩
    obtain ⟨_, h1⟩ := h1 e
    exact ⟨en, Hf, F, E, _, S, h1 a cls d hm ⟨C, hC⟩ (fun ne => by
      rcases hf with ⟨_, q⟩ | ⟨dd, vs, q, _⟩
      · exact absurd q ne
      · exact ⟨dd, q⟩), k1, k2, k3, k4, fun _ _ _ _ _ _ _ _ _ _ _ w => w⟩
  | @as x n i ts b₀ suite np pos' hds l c hc hi hln hsu r ih =>
    obtain ⟨l2, hl2, ih⟩ := ih
    refine ⟨(c, some i, fun a cls d => liftSW X.K X.mg (fun _ _ _ _ => False) (ts a cls d)) :: l2, .as hc hi hln (fun a oe cls d pn hz hf => sw_no (hsu a oe cls d pn hz hf)) hl2, fun D Dd en Hf H F E σ cls x d S rx h k1 k2 k3 k4 k5 => ?_⟩
    obtain ⟨b, hb, h1, h2⟩ := h
    obtain ⟨⟨C, hC⟩, hm, hf⟩ := id rx
    refine ⟨b, names_sub hc hb hm, fun e a na => ?_, fun e => ih D Dd en Hf H F E σ cls x d S rx (h2 e) k1 k2 k3 k4 k5⟩
    obtain ⟨hs, h1⟩ := h1 e
    have hs : canSet E i := hs
    exact ⟨en, Hf, _, _, _, S.setXc hs hf, h1 a cls d hm ⟨C, hC⟩ (fun ne => by
      rcases hf with ⟨_, q⟩ | ⟨dd, vs, q, _⟩
      · exact absurd q ne
      · exact ⟨dd, q⟩), fun σ' H' Hf' F' E' s1 S1 q => k1 _ _ _ _ _ s1 (S1.unset i) q, fun σ' H' Hf' F' E' s1 S1 q => k2 _ _ _ _ _ s1 (S1.unset i) q, fun σ' H' Hf' F' E' s1 S1 q => k3 _ _ _ _ _ s1 (S1.unset i) q, k4, fun _ _ _ _ _ _ _ _ _ _ _ w => w⟩
section
variable {X : Cx} {body : List Stmt} {h₀ : ExceptHandler} {hds : List ExceptHandler} {l : List ClauseD} {pos : Pos} {u : TSd}
theorem s_try (hN : X.N.Nodup) (hb : ∀ (pn : List (Addr × Obj)) (xe : Value → Shared → Prop), PassesOwn (model X.prog X.w) X.A X.env xe → PBd (X.tr pn xe) body u) (hh : HdsD X (h₀ :: hds) l) (hs : X.stack = X.env :: X.outer := by rfl) (hf : X.env.frame = some X.env.locals := by rfl) :
    PSd X (.Try body (h₀ :: hds) [] [] pos) (tTryD X.K X.mg u l) := by
  obtain ⟨l2, h2, hc⟩ := hh.all
  refine ps_imp (ps_try_all (tb := fun W => liftSW X.K X.mg W u) hs hf hN wx_takes (fun W pn xe tk po => sw_of tk (hb pn xe po)) h2) fun D σ H ⟨en, Hf, F, E, Dd, S, h, k1, k2, k3, k4, k5⟩ => ?_
  exact ⟨en, Hf, F, E, _, S, h, k1, k2, k3, k4, fun cls x σ' H' Hf' F' E' d s1 S1 r1 q => hc D Dd en Hf' H' F' E' σ' cls x d S1 r1 q (fun _ _ _ _ _ s2 => k1 _ _ _ _ _ (s1.trans s2)) (fun _ _ _ _ _ s2 => k2 _ _ _ _ _ (s1.trans s2)) (fun _ _ _ _ _ s2 => k3 _ _ _ _ _ (s1.trans s2)) (fun _ _ _ _ _ _ _ s2 => k4 _ _ _ _ _ _ _ (s1.trans s2)) fun _ _ _ _ _ _ _ _ s2 => k5 _ _ _ _ _ _ _ _ (s1.trans s2)⟩
/-- what the class of nm must say for its instances' field f to be read -/
def XFld (K : PySem.W.Frag) (mg : Str → Option Value) (nm f : Str) : Prop := ∀ C, mg nm = some (.ref C) → XfC K C ∧ PySem.W.findIn K (.ref C) f = some none
def XfOk (K : PySem.W.Frag) (cls : Value) (f : Str) : Prop := ∃ C : Addr, cls = .ref C ∧ XfC K C ∧ PySem.W.findIn K (.ref C) f = some none
theorem XFld.ok {K : PySem.W.Frag} {mg : Str → Option Value} {nm f : Str} {cls : Value} (h : XFld K mg nm f) (hm : mg nm = some cls) (hc : ∃ C : Addr, cls = .ref C) : XfOk K cls f := by
  obtain ⟨C, rfl⟩ := hc
  exact ⟨C, rfl, h C hm⟩
def tXfD (K : PySem.W.Frag) (a : Addr) (cls : Value) (d : Option Addr) (i : Nat) (f : Str) : TEd := fun E Q => match E[i]? with
  | some (.xc a' cls' d' fs) => a = a' ∧ cls = cls' ∧ d = d' ∧ XfOk K cls f ∧ ∃ v, fs.lookup f = some v ∧ Q v E
  | _ => False
theorem pe_xfA {X : Cx} {a : Addr} {oe : Obj} {cls : Value} {d : Option Addr} {pn : List (Addr × Obj)} {e : Expr} {te : TE} {pos : Pos} {n : Str}
    (hz : Zc cls d oe) (hf : ∃ vs, oe.data = .fields vs) (he : PE (X.suite a ((a, oe) :: pn)) e te) (hb : attributeBase e n X.env (eval e X.env) = eval e X.env := by rfl) :
    PE (X.suite a ((a, oe) :: pn)) (.Attribute e n pos) (fun σ H Q => ∃ C, XfC X.K C ∧ PySem.W.findIn X.K (.ref C) n = some none ∧ tXf a cls d C n te σ H Q) :=
  ⟨fun pins s σ H Q I ⟨C, T, hno, h⟩ => (pe_xf T hno hz hf he hb).run pins s σ H Q I h⟩
theorem d_xf {a : Addr} {oe : Obj} {cls : Value} {d : Option Addr} {pn : List (Addr × Obj)} {x n : Str} {p : Pos} (i : Nat) (hz : Zc cls d oe) (hf : ∃ vs, oe.data = .fields vs) (hN : X.N[i]? = some x := by rfl) (hv : Vis X.env.scope x := by first | exact Or.inl rfl | exact Or.inr (Or.inl rfl) | exact Or.inr (Or.inr rfl))
    (hd : (x == ("__debug__" : Str)) = false := by decide) (hcd : (x == ("__classdict__" : Str)) = false := by decide) (hb : attributeBase (.Name x p) n X.env (eval (.Name x p) X.env) = eval (.Name x p) X.env := by rfl) :
    PEd (X.suite a ((a, oe) :: pn)) (.Attribute (.Name x p) n pos) (tXfD X.K a cls d i n) :=
  pe_imp (pe_xfA hz hf (pv (X := X.suite a ((a, oe) :: pn)) i hN hv hd hcd) hb) fun σ H Q ⟨en, Hf, F, E, Qd, S, h, k⟩ => by
    unfold tXfD at h
    split at h
    · rename_i a' cls' d' fs e
      obtain ⟨rfl, rfl, rfl, ⟨C, rfl, T, hno⟩, v, hv2, q⟩ := h
      obtain ⟨e1, hx⟩ := S.sl i _ e
      rcases hx with ⟨_, q2⟩ | ⟨dd, vs, rfl, q2, q3⟩
      · rw [q2] at hv2
        cases hv2
      · obtain ⟨w, hw, rw'⟩ := q3.get hv2
        exact ⟨C, T, hno, _, e1, rfl, rfl, dd, vs, w, rfl, S.sf _ _ q2, hw, k w H Hf F E v (Same.refl _) S rw' q⟩
    · exact h.elim
end
end L3
namespace L3
open PySem L2
variable [Tbs]
structure ExcE (K : PySem.W.Frag) (C : Addr) : Prop where
  cl : (PySem.W.clsIn K C).isSome = true
  ga : PySem.W.findIn K (.ref C) "__getattribute__" = some (some (.builtin "BaseException.__getattribute__"))
  gt : PySem.W.findIn K (.ref C) "__getattr__" = some none
  sb : PySem.W.subIn K (.ref C) (.type "BaseException") = some true
  ac : PySem.W.findIn K (.ref C) "__class__" = some (some (.builtin "object.__class__"))
  sg : PySem.W.specialIn K (.builtin "object.__class__") "__get__" = some (some (.builtin "getset_descriptor.__get__"))
  tk : PySem.W.takesIn K (.builtin "object.__class__") = some true
  mo : PySem.W.mroIn K C (.type "object") = some true
/-- the answer: c a class, or a tuple of classes -/
def XIs (K : PySem.W.Frag) (cls : Value) (c : D) (b : Bool) : Prop := ∃ D0 : Addr, cls = .ref D0 ∧ ExcE K D0 ∧ match c with
  | .opq v => ∃ cv, ClsV v cv ∧ PySem.W.kitOne K (.ref D0) cv = some b
  | .tup cs => ∃ vs us, cs = vs.map D.opq ∧ Paired ClsV vs us ∧ PySem.W.kitAny K (.ref D0) us = some b
  | _ => False
def tIsX (K : PySem.W.Frag) (a : Addr) (cls : Value) (d : Option Addr) (i : Nat) (tb : TEd) : TEd := fun E Q => match E[i]? with
  | some (.xc a' cls' d' fs) => a = a' ∧ cls = cls' ∧ d = d' ∧ tb E fun c E1 => ∃ b, XIs K cls c b ∧ Q (.bl b) E1
  | _ => False
section
variable {X : Cx} {a D0 : Addr} {oe : Obj} {cls : Value} {d : Option Addr} {pn : List (Addr × Obj)}
/-- a class of the program, as a value -/
theorem d_cls {X : Cx} {x : Str} {C : Addr} {pos : Pos} (hm : X.mg x = some (.ref C)) (hg : Gl X x := by rfl) (hd : (x == ("__debug__" : Str)) = false := by decide) : PEd X (.Name x pos) (tCD (.opq (.ref C))) := d_glob (v := .ref C) hg hm rfl (fun _ => .opq _) hd
end
end L3
namespace L3
open PySem L2
variable [Tbs]
section
variable {X : Cx} {CX : CXT} {k : Nat} {f : Addr} {fd : FuncData} {ps : List Str} {sp : SpP} {E : XK} {x : Str} {p sp_ pos : Pos} {e : Expr} {te : TEd}
def tStarD (sp : SpP) (te : TEd) : TEd := fun E Q => te E fun x E1 => match x.items with
  | some xs => sp xs fun d => Q d E1
  | none => False
end
end L3
namespace L3
open PySem L2
variable [Tbs]
inductive It where
  | dat (d : D)
  | nw (xs : List D)
def It.sl : It → Sl
  | .dat d => .fz d
  | .nw xs => .ow false (.ol xs)
abbrev TMd := En → (List It → En → Prop) → Prop
abbrev TNd := En → (List D → En → Prop) → Prop
def enP (en : Et) : List (Addr × HO) → Et
  | [] => en
  | (p, o) :: ps => enP (en.prot p o) ps
def Fresh (en : Et) : List (Addr × HO) → Prop
  | [] => True
  | (p, o) :: ps => en.Pr p = none ∧ en.H0 p = none ∧ Fresh (en.prot p o) ps
inductive RepM (K : PySem.W.Frag) (Hf : Hp) : List V → List It → List (Addr × HO) → Prop
  | nil : RepM K Hf [] [] []
  | dat {v vs d its ps} : Rep K Hf v d → RepM K Hf vs its ps → RepM K Hf (v :: vs) (.dat d :: its) ps
  | nw {p ws xs vs its ps} : RepL K Hf ws xs → RepM K Hf vs its ps → RepM K Hf (.ref p :: vs) (.nw xs :: its) ((p, .lst ws) :: ps)
theorem RepM.mono {K : PySem.W.Frag} {H H' : Hp} (e : Same H H') : ∀ {vs its ps}, RepM K H vs its ps → RepM K H' vs its ps := fun h => by
  induction h with
  | nil => exact .nil
  | dat r _ ih => exact .dat (r.mono e) ih
  | nw r _ ih => exact .nw (r.mono e) ih
theorem prot_swap {en : Et} {p q : Addr} {o u : HO} (h : p ≠ q) : (en.prot p o).prot q u = (en.prot q u).prot p o := by
  unfold Et.prot
  congr 1
  funext b
  unfold upd
  by_cases a : b = p
  · by_cases c : b = q
    · exact absurd (a.symm.trans c) h
    · simp [a, c, h]
  · by_cases c : b = q
    · simp [a, c, Ne.symm h]
    · simp [a, c]
theorem Fresh.less {en : Et} {p : Addr} {o : HO} : ∀ {ps}, Fresh (en.prot p o) ps → en.Pr p = none → Fresh en ps ∧ (∀ b ∈ ps, b.1 ≠ p) := by
  intro ps
  induction ps generalizing en with
  | nil => exact fun _ _ => ⟨True.intro, fun b hb => nomatch hb⟩
  | cons b ps ih =>
    obtain ⟨q, u⟩ := b
    rintro ⟨a1, a2, a3⟩ hp
    have ne : q ≠ p := fun e => by
      have z : upd en.Pr p o q = none := a1
      rw [e, upd_same] at z
      cases z
    rw [prot_swap (Ne.symm ne)] at a3
    have a1' : en.Pr q = none := by
      have z : upd en.Pr p o q = none := a1
      rwa [upd_ne ne] at z
    obtain ⟨b1, b2⟩ := ih a3 (show upd en.Pr q u p = none by rw [upd_ne (Ne.symm ne)]; exact hp)
    refine ⟨⟨a1', a2, b1⟩, fun b hb => ?_⟩
    rcases List.mem_cons.mp hb with rfl | hb
    · exact ne
    · exact b2 b hb
theorem enP_prot {p : Addr} {o : HO} : ∀ {ps} {en : Et}, (∀ b ∈ ps, b.1 ≠ p) → enP (en.prot p o) ps = (enP en ps).prot p o := by
  intro ps
  induction ps with
  | nil => exact fun _ => rfl
  | cons b ps ih =>
    intro en h
    obtain ⟨q, u⟩ := b
    show enP ((en.prot p o).prot q u) ps = (enP (en.prot q u) ps).prot p o
    rw [prot_swap (q := q) (u := u) (Ne.symm (h (q, u) (by simp)))]
    exact ih fun b hb => h b (List.mem_cons_of_mem _ hb)
theorem enP_H0 : ∀ {ps} {en : Et}, (enP en ps).H0 = en.H0 := by
  intro ps
  induction ps with
  | nil => exact rfl
  | cons b ps ih => exact fun {en} => ih
theorem enP_Pr {p : Addr} : ∀ {ps} {en : Et}, (∀ b ∈ ps, b.1 ≠ p) → (enP en ps).Pr p = en.Pr p := by
  intro ps
  induction ps with
  | nil => exact fun _ => rfl
  | cons b ps ih =>
    intro en h
    refine (ih fun b hb => h b (List.mem_cons_of_mem _ hb)).trans ?_
    show upd en.Pr b.1 b.2 p = _
    rw [upd_ne (Ne.symm (h _ (by simp)))]
section
variable {K : PySem.W.Frag} {en : Et} {Hf Hf' H H' : Hp} {F : Nat → List Addr} {E : En} {σ : St}
/-- what was kept apart gets its place -/
theorem Sat.keep {A : Addr} {o : HO} {i : Nat} {ow : Ow} (S : Sat K (en.prot A o) Hf H F E σ) (h0 : en.Pr A = none) (h1 : en.H0 A = none) (c : canSet E i) (r : OwRep K Hf H (.ref A) ow [A]) :
    Sat K en Hf H (setF F i [A]) (E.set i (.ow false ow)) (σ.set i (some (.ref A))) := by
  have hD : Hf A = none := S.pf A o (show upd en.Pr A o A = some o from upd_same)
  have hH : H A = some o := S.sp A o (show upd en.Pr A o A = some o from upd_same)
  have up : ∀ b u, en.Pr b = some u → upd en.Pr A o b = some u := fun b u z => by
    rw [upd_ne (ne_of_none z h0)]
    exact z
  have dn : ∀ b, upd en.Pr A o b = none → en.Pr b = none := fun b z => by
    by_cases q : b = A
    · rw [q]
      exact h0
    · rwa [upd_ne q] at z
  have nF : ∀ i, A ∉ F i := fun i hb => by
    have z : upd en.Pr A o A = some o := upd_same
    rw [show upd en.Pr A o A = none from (S.fp i A hb).2.2.2] at z
    cases z
  have S1 : Sat K en Hf H F E σ := { sf := S.sf, so := S.so, dom := S.dom, sp := fun b u z => S.sp b u (up b u z), pf := fun b u z => S.pf b u (up b u z), gf := S.gf, gn := S.gn, dj := S.dj, fp := fun i b hb => by
                                       obtain ⟨a1, a2, a3, a4⟩ := S.fp i b hb
                                       exact ⟨a1, a2, a3, dn b a4⟩
                                     len := S.len, sl := fun i s e => by
                                       have z := S.sl i s e
                                       cases s <;> exact z }
  refine S1.setG c.lt (fun b h => ?_) ⟨_, by rw [List.getElem?_set_self (by rw [S.len]; exact c.lt)], by rw [setF_same]; exact r, (fun z => by cases z), fun _ b h => ?_⟩
  · obtain rfl : b = A := by simpa using h
    exact ⟨hD, ⟨_, hH⟩, .inr h1, h0, fun j _ hb => nF j hb⟩
  · rw [setF_same] at h
    obtain rfl : b = A := by simpa using h
    exact h1
theorem It.fr (a : It) : a.sl.free := by cases a <;> exact True.intro
theorem RepM.put {v : V} {vs : List V} {a : It} {its : List It} {ps : List (Addr × HO)} {i : Nat} (r : RepM K Hf (v :: vs) (a :: its) ps) (fr : Fresh en ps) (S : Sat K (enP en ps) Hf H F E σ) (c : canSet E i) :
    ∃ ps' F', Sat K (enP en ps') Hf H F' (E.set i a.sl) (σ.set i (some v)) ∧ Fresh en ps' ∧ RepM K Hf vs its ps' := by
  cases r with
  | dat r1 r2 => exact ⟨_, _, S.set c r1, fr, r2⟩
  | nw r1 r2 =>
    obtain ⟨f1, f2, f3⟩ := fr
    obtain ⟨f4, f5⟩ := f3.less f1
    have S' := S
    rw [show enP en ((_, HO.lst _) :: _) = enP (en.prot _ _) _ from rfl, enP_prot f5] at S'
    refine ⟨_, _, S'.keep (by rw [enP_Pr f5]; exact f1) (by rw [enP_H0]; exact f2) c ⟨_, _, rfl, rfl, S'.sp _ _ (show upd _ _ _ _ = _ from upd_same), r1⟩, f4, r2⟩
end
section
variable {X : Cx} {e a b c : Expr} {es : List Expr} {pos : Pos} {te : TEd} {tn : TNd} {t : TAd} {tm : TMd}
def tMNil : TMd := fun E Q => Q [] E
def tMDat (te : TEd) (tm : TMd) : TMd := fun E Q => te E fun x E1 => tm E1 fun xs E2 => Q (.dat x :: xs) E2
def tMNew (tn : TNd) (tm : TMd) : TMd := fun E Q => tn E fun x E1 => tm E1 fun xs E2 => Q (.nw x :: xs) E2
def tNLst (t : TAd) : TNd := fun E Q => t E fun xs E1 => xs.length ≤ sizeLine ∧ Q xs E1
/-- name = a list of our own -/
def tSetN (i : Nat) (tn : TNd) : TSd := fun D E => tn E fun xs E1 => canSet E1 i ∧ D.nx (E1.set i (.ow false (.ol xs)))
/-- a, b = x, y -/
def tParM (i j : Nat) (t : TMd) : TSd := fun D E => t E fun ds E1 => match ds with
  | [x, y] => canSet E1 i ∧ canSet E1 j ∧ D.nx ((E1.set i x.sl).set j y.sl)
  | _ => False
/-- a, b, c = x, y, z -/
def tPar3M (i j l : Nat) (t : TMd) : TSd := fun D E => t E fun ds E1 => match ds with
  | [x, y, z] => canSet E1 i ∧ canSet E1 j ∧ canSet E1 l ∧ D.nx (((E1.set i x.sl).set j y.sl).set l z.sl)
  | _ => False
end
end L3
namespace L3
open PySem L2 PySem.W
variable [Tbs]
namespace Xm
/-- the def of an __init__ with one argument, as it stands in the tree -/
structure Shape1 (qual : Str) (st : Stmt) (f1 : Str) : Prop where
  ex : ∃ (self p1 : Str) (ar : Arg) (a1 a2 a3 a4 a5 a6 b1 b2 b3 b4 : Pos), defBody st = body1 a1 a2 a3 a4 a5 a6 b1 b2 b3 b4 self p1 f1 ∧ ((defArgs st).posonlyargs ++ (defArgs st).args).head? = some ar ∧ ar.arg = self ∧ IScope (defScope st) [self, p1] ∧ (self == ("__debug__" : Str)) = false ∧ (p1 == ("__debug__" : Str)) = false ∧
    (∀ (kV dc pm ct : Value) (an : Option Addr) (cda cc : Addr) (u v : Value), bindArgs (ksFn "__init__" qual (defArgs st) (defBody st) (defScope st) .none kV dc pm an (.ref cda) ct cc) ⟨[u, v], []⟩ = pure [(self, u), (p1, v)]) ∧ ∀ fI cda cc, SupOk qual (defScope st) fI cda cc a1 a2 a3 a5 (.Name p1 a4) []
section
variable {prog : Program} {K : PySem.W.Frag} {mg : Str → Option Value} {C fI cc cda : Addr} {qual f1 f2 file : Str} {st : Stmt} {od an cdd cld : Option Addr} {osl ccs csl : Array (Option Value)} {oc kV dc pm ct ccl cl : Value} {vs : Array Value} {tf : Tok} {B newId initId : String} {bmB : List Value}
/-- the part's words of one class -/
structure XRaw (prog : Program) (K : PySem.W.Frag) (C fI cc cda : Addr) (B newId initId : String) (bmB : List Value) : Prop where
  q : excInitIn K C bmB newId = true
  ty : typeIn K (.ref fI) = some (.type "function")
  cd : (clsIn K C).isSome = true
  sub : mroIn K C (.ref C) = some true
  any : nsIn K cStatics "thirdparty.any" = some none
  si : ks_superIn K C C "__init__" = some (some (.builtin initId))
  sB : subIn K (.ref C) (.type B) = some true
  sa : findIn K (.ref C) "__setattr__" = some (some (.builtin "object.__setattr__"))
  ov : excOver K C bmB = true
  hd : hasDictIn K C = true
  kC : keepIn K (.ref C) = true
  sE : subIn K (.ref C) (.type "BaseException") = some true
  tC : typeIn K (.ref C) = some (.type "type")
theorem xkey_mk (bx : BaseX B newId initId bmB) (r : XRaw prog K C fI cc cda B newId initId bmB) (sup : mg "super" = none) (top : (prog.main.scope.names.lookup ("super" : Str)).isSome = false)
    (hi : findIn K (.ref C) "__init__" = some (some (.ref fI))) (lc : K.lookup cda = some ⟨ccl, cdd, .fields vs, ccs⟩) (v2 : vs[2]? = some (.str file tf)) (fl : ((prog.main.file : Str) == file) = true)
    (lcc : K.lookup cc = some ⟨cl, cld, .cell (some (.ref C)), csl⟩) : XKey prog K mg C fI cc cda B newId initId bmB :=
  { bx := bx, hi := hi, q := r.q, ty := r.ty, code := ⟨_, _, _, _, _, _, lc, v2, fl⟩, cell := ⟨_, _, _, lcc⟩, cd := Option.isSome_iff_exists.mp r.cd, sub := r.sub, sup := sup, any := r.any, si := r.si, sB := r.sB, sa := r.sa, ov := r.ov, hd := r.hd, top := top }
theorem xone_mk (bx : BaseX B newId initId bmB) (sh : Shape1 qual st f1) (r : XRaw prog K C fI cc cda B newId initId bmB) (sup : mg "super" = none) (top : (prog.main.scope.names.lookup ("super" : Str)).isSome = false)
    (hi : findIn K (.ref C) "__init__" = some (some (.ref fI))) (lI : K.lookup fI = some ⟨oc, od, .func (ksFn "__init__" qual (defArgs st) (defBody st) (defScope st) .none kV dc pm an (.ref cda) ct cc), osl⟩) (co : codeIn K (.ref cda) qual = true)
    (lc : K.lookup cda = some ⟨ccl, cdd, .fields vs, ccs⟩) (v2 : vs[2]? = some (.str file tf)) (fl : ((prog.main.file : Str) == file) = true)
    (lcc : K.lookup cc = some ⟨cl, cld, .cell (some (.ref C)), csl⟩) (ht : takerIn K C f1 = some none) : XOne prog K mg C f1 := by
  obtain ⟨self, p1, ar, a1, a2, a3, a4, a5, a6, b1, b2, b3, b4, eb, h1, h2, h3, h4, h5, h6, h7⟩ := sh.ex
  refine ⟨⟨fI, cc, cda, B, newId, initId, bmB, xkey_mk bx r sup top hi lc v2 fl lcc, ⟨"__init__", qual, self, p1, defArgs st, defScope st, .none, kV, dc, pm, ct, oc, an, od, osl, ar, a1, a2, a3, a4, a5, a6, b1, b2, b3, b4, ?_, co, h1, h2, h3, h4, h5, ?_, h7 fI cda cc⟩⟩, ht, r.kC, r.sE, r.tC⟩
  · rw [lI, eb]
  · intro u v
    rw [← eb]
    exact h6 _ _ _ _ _ _ _ u v
end
end Xm
section
variable {K : PySem.W.Frag} {mg : Str → Option Value} {C A : Addr} {nm hn f : Str} {c : Value} {b : Bool}
theorem xsub_mk (hA : mg nm = some (.ref A)) (hB : mg hn = some c) (e : exmOne K (.ref A) c = some b) : XSub K mg nm hn b := fun cls c' h1 h2 => by
  rw [hA] at h1
  cases h1
  rcases h2 with h | ⟨h, _⟩
  · rw [hB] at h
    cases h
    exact e
  · rw [hB] at h
    cases h
theorem xfld_mk (hA : mg nm = some (.ref A)) (h : XfC K A) (hf : PySem.W.findIn K (.ref A) f = some none) : XFld K mg nm f := fun C h1 => by
  rw [hA] at h1
  cases h1
  exact ⟨h, hf⟩
end
section
variable {X : Cx}
theorem s_tryK (K : PySem.W.Frag) (mg : Str → Option Value) {body : List Stmt} {h₀ : ExceptHandler} {hds : List ExceptHandler} {l : List ClauseD} {pos : Pos} {u : TSd} (hN : X.N.Nodup) (hb : ∀ (pn : List (Addr × Obj)) (xe : Value → Shared → Prop), PassesOwn (model X.prog X.w) X.A X.env xe → PBd (X.tr pn xe) body u) (hh : HdsD X (h₀ :: hds) l) (hK : X.K = K := by rfl) (hm : X.mg = mg := by rfl) (hs : X.stack = X.env :: X.outer := by rfl) (hf : X.env.frame = some X.env.locals := by rfl) :
    PSd X (.Try body (h₀ :: hds) [] [] pos) (tTryD K mg u l) := by
  subst hK hm
  exact s_try hN hb hh hs hf
theorem d_xfK (K : PySem.W.Frag) {a : Addr} {oe : Obj} {cls : Value} {d : Option Addr} {pn : List (Addr × Obj)} {x n : Str} {p pos : Pos} (i : Nat) (hz : Zc cls d oe) (hf : ∃ vs, oe.data = .fields vs) (hK : X.K = K := by rfl) (hN : X.N[i]? = some x := by rfl) (hv : Vis X.env.scope x := by first | exact Or.inl rfl | exact Or.inr (Or.inl rfl) | exact Or.inr (Or.inr rfl))
    (hd : (x == ("__debug__" : Str)) = false := by decide) (hcd : (x == ("__classdict__" : Str)) = false := by decide) (hb : attributeBase (.Name x p) n X.env (eval (.Name x p) X.env) = eval (.Name x p) X.env := by rfl) :
    PEd (X.suite a ((a, oe) :: pn)) (.Attribute (.Name x p) n pos) (tXfD K a cls d i n) := by
  subst hK
  exact d_xf i hz hf hN hv hd hcd hb
end
end L3
namespace L3
open PySem L2 PySem.Spec PyProof.Rows
variable [Tbs]
section
variable {X : Cx}
def rdMany : RD := fun x y E Q => match x, y with
  | .tup u, .int n => (0 < u.length ∧ 2 ≤ n ∧ n * u.length ≤ 1000000) ∧ Q (.tup (List.replicate n.toNat u).flatten) E
  | _, _ => False
end
end L3
namespace L3
open PySem L2 PySem.Spec PyProof.Rows PySem.W
variable [Tbs]
section
variable {X : Cx} {a b : Expr} {ta tb : TEd}
def tCntD (ta tb : TEd) : TEd := fun E Q => ta E fun x E1 => match x with
  | .lst es => tb E1 fun e E2 => ((D.lst es).plain = true ∧ e.plain = true ∧ PyData.plainAll (D.pyL es) = true ∧ PyData.plain e.py = true ∧ PyData.depth e.py ≤ 60) ∧ Q (.int ((es.countP fun z => D.eqv z e : Nat) : Int)) E2
  | _ => False
end
end L3
namespace L3
open PySem L2
variable [Tbs]
def rngC (lo c : Int) (n : Nat) : List D := (List.range n).map fun (i : Nat) => D.int (lo + i * c)
def iRng3D (te : TAd) : TId := fun E Q => te E fun xs E1 => match xs with
  | [.int i, .int j, .int c] => ∃ n, RgC i j c n ∧ Q (rngC i c n) E1
  | _ => False
section
variable {X : Cx} {a b c tg : Expr} {t : TAd} {p pos : Pos}
def tStarC (te : TEd) (t : TAd) : TAd := fun E Q => te E fun x E1 => match x.items with
  | some xs => t E1 fun ys E2 => Q (xs ++ ys) E2
  | none => False
end
end L3
namespace L3
open PySem L2
variable [Tbs]
section
variable {K : PySem.W.Frag} {en : Et} {Hf H : Hp} {F : Nat → List Addr} {E : En} {σ : St}
end
section
variable {X : Cx} {elt tg : Expr} {ifs : List Expr} {te : TEd} {tt : TTd} {g : TGd} {pos p : Pos} {vs : List Nat}
def tLcO (j : Nat) (g : TGd) (tt : TTd) (te : TEd) (vs : List Nat) : TEd := fun E Q => match E[j]? with
  | some (.ow false (.ol xs)) => lcD xs g tt te vs (E.set j .un) fun acc E2 => canSet E2 j ∧ Q (.lst acc) (E2.set j (.ow false (.ol xs)))
  | _ => False
end
end L3
namespace L3
open PySem PySem.Spec PyProof.Rows L2
variable [Tbs]
def keyPy : Key → PyData
  | .inl i => .int i
  | .inr x => .str x
mutual
def D.pyK : D → PyData
  | .non => .none
  | .bl b => .bool b
  | .int i => .int i
  | .str x => .str x
  | .opq _ => .none
  | .pt _ => .none
  | .ps _ => .none
  | .tup xs => .tuple (D.pyKL xs)
  | .lst xs => .list (D.pyKL xs)
  | .dct ks => .dict (D.pyKv ks)
  | .ins _ _ => .none
def D.pyKL : List D → List PyData
  | [] => []
  | d :: r => D.pyK d :: D.pyKL r
def D.pyKv : List (Key × D) → List (PyData × PyData)
  | [] => []
  | (k, d) :: r => (keyPy k, D.pyK d) :: D.pyKv r
end
mutual
def D.plainK : D → Bool
  | .opq _ => false
  | .pt _ => false
  | .ps _ => false
  | .ins _ _ => false
  | .dct ks => D.plainKv ks
  | .tup xs => D.plainKL xs
  | .lst xs => D.plainKL xs
  | .non => true
  | .bl _ => true
  | .int _ => true
  | .str _ => true
def D.plainKL : List D → Bool
  | [] => true
  | d :: r => D.plainK d && D.plainKL r
def D.plainKv : List (Key × D) → Bool
  | [] => true
  | (_, d) :: r => D.plainK d && D.plainKv r
end
section
variable {X : Cx} {pins : List (Addr × Obj)} {σ : L2.St} {H : Hp} {s : Shared}
theorem amost_le {h : Heap} {n m : Nat} {a b : List Addr} (x : ReadAtMost h n a) (y : ReadAtMost h m b) : ReadAtMost h (max n m) (a ++ b) := (x.mono (Nat.le_max_left n m)).append (y.mono (Nat.le_max_right n m))
theorem amost_nil {h : Heap} {n : Nat} : ReadAtMost h n [] := fun _ z => nomatch z
/-- a key of a dict -/
theorem key_rd {k : Key} {u : Value} (h : keyIs k u = true) (sh : (keyPy k).showable = true) (z : (keyPy k).shown.length ≤ sizeLine) : Reads s.heap u (keyPy k) [] ∧ ∀ bs d, ReprK X.prog X.w bs s.heap d u (keyPy k).shown := by
  rcases keyIs_shape h with ⟨i, t, rfl, rfl⟩ | ⟨x, t, rfl, rfl⟩
  · refine ⟨.int i t, fun bs d => ?_⟩
    have e := ReprIs.int (prog := X.prog) (w := X.w) t (show i.natAbs.log2 < 1920 from of_decide_eq_true sh)
    simpa only [keyPy, PyData.shown] using ReprK.of_is e bs s.heap d
  · refine ⟨.str x t, fun bs d => ?_⟩
    have e := ReprIs.str (prog := X.prog) (w := X.w) x t (by simpa only [keyPy, PyData.shown] using z)
    simpa only [keyPy, PyData.shown] using ReprK.of_is e bs s.heap d
mutual
theorem rdK (I : Inv X pins σ H s) : ∀ (d : D) (v : V) (u : Value), d.plainK = true → Rep X.K H v d → RelV v u → d.pyK.showable = true → d.pyK.shown.length ≤ sizeLine →
    ∃ as bs, Reads s.heap u d.pyK as ∧ ReadAtMost s.heap d.pyK.depth bs ∧ ReprK X.prog X.w bs s.heap d.pyK.depth u d.pyK.shown
  | .non, _, _, _, .non, r, _, _ => by
    cases r
    refine ⟨_, [], Reads.none, amost_nil, ?_⟩
    simpa only [D.pyK, PyData.shown] using ReprK.of_is ReprIs.none [] s.heap _
  | .bl b, _, _, _, .bl _, r, _, _ => by
    cases r
    refine ⟨_, [], Reads.bool b, amost_nil, ?_⟩
    simpa only [D.pyK, PyData.shown] using ReprK.of_is (ReprIs.bool b) [] s.heap _
  | .int i, _, _, _, .int _, r, sh, _ => by
    obtain ⟨t, rfl⟩ := r
    refine ⟨_, [], Reads.int i t, amost_nil, ?_⟩
    simpa only [D.pyK, PyData.shown] using ReprK.of_is (ReprIs.int t (of_decide_eq_true sh)) [] s.heap _
  | .str x, _, _, _, .str _, r, _, z => by
    obtain ⟨t, rfl⟩ := r
    refine ⟨_, [], Reads.str x t, amost_nil, ?_⟩
    simpa only [D.pyK, PyData.shown] using ReprK.of_is (ReprIs.str x t (by simpa only [D.pyK, PyData.shown] using z)) [] s.heap _
  | .opq _, _, _, p, _, _, _, _ => by cases p
  | .pt _, _, _, p, _, _, _, _ => by cases p
  | .ps _, _, _, p, _, _, _, _ => by cases p
  | .ins _ _, _, _, p, _, _, _, _ => by cases p
  | .tup xs, _, _, p, .tup hs l, r, sh, z => by
    cases r
    obtain ⟨its, rv, ⟨o, ho, hc, n, hd⟩, _⟩ := I.tuple hs
    have z2 : (tupleText (PyData.shownAll (D.pyKL xs))).length ≤ sizeLine := by simpa only [D.pyK, PyData.shown] using z
    obtain ⟨as, bs, q1, q2, q3⟩ := rdKL I xs _ its p l rv sh fun t ht => Nat.le_trans (tupleText_mem_le ht) z2
    have whole : Reads s.heap (.ref _) (.tuple (D.pyKL xs)) as := Reads.tuple ho hc hd (by simpa using q1)
    have dp : PyData.depthAll (D.pyKL xs) < (PyData.tuple (D.pyKL xs)).depth := by simp only [PyData.depth]; omega
    have out := not_mem_of_deeper whole dp q2
    refine ⟨as, _ :: bs, whole, ReadAtMost.cons whole (Nat.le_of_lt dp) q2, ?_⟩
    have e := ReprK.tuple ho hc hd out (by simpa using q3)
    simpa only [D.pyK, PyData.depth, PyData.shown] using e
  | .lst xs, _, _, p, .lst (a := a0) hs l, r, sh, z => by
    cases r
    obtain ⟨its, rv, ⟨o, n, ho, hc, _, hd⟩, _⟩ := I.list (.inl (.inl hs))
    have z2 : (listText (PyData.shownAll (D.pyKL xs))).length ≤ sizeLine := by simpa only [D.pyK, PyData.shown] using z
    obtain ⟨as, bs, q1, q2, q3⟩ := rdKL I xs _ its p l rv sh fun t ht => Nat.le_trans (listText_mem_le ht) z2
    have whole : Reads s.heap (.ref _) (.list (D.pyKL xs)) _ := Reads.list ho hc hd q1
    have dp : PyData.depthAll (D.pyKL xs) < (PyData.list (D.pyKL xs)).depth := by simp only [PyData.depth]; omega
    have out := not_mem_of_deeper whole dp q2
    refine ⟨_, _ :: bs, whole, ReadAtMost.cons whole (Nat.le_of_lt dp) q2, ?_⟩
    cases its with
    | nil =>
      have e : D.pyKL xs = [] := by
        generalize D.pyKL xs = ps at q1
        cases q1
        rfl
      have e2 := ReprK.listEmpty (prog := X.prog) (w := X.w) (as := a0 :: bs) (d := PyData.depthAll (D.pyKL xs) + 1) ho hc hd
      simp only [D.pyK, PyData.depth, PyData.shown]
      rw [show listText (PyData.shownAll (D.pyKL xs)) = ("[]" : Str) by rw [e]; exact listText_nil]
      exact e2
    | cons y ys => simpa only [D.pyK, PyData.depth, PyData.shown] using ReprK.list ho hc hd out (by simpa using q3.length_eq) fun i w e => q3.item i w (by simpa using e)
  | .dct ks, _, _, p, .dct hs l, r, sh, z => by
    cases r
    obtain ⟨_, sy, vs, kv, o, es, ep, ho, ex, hd, _, pr, _⟩ := dk_of I.hok hs
    have z2 : (dictText (PyData.shownKv (D.pyKv ks))).length ≤ sizeLine := by simpa only [D.pyK, PyData.shown] using z
    have sp := PyData.showableKv_split _ (show PyData.showableKv (D.pyKv ks) = true from sh)
    obtain ⟨as, bs, cs, q1, q2, q3, q4, q5⟩ := rdKv I ks _ vs es.toList p l kv pr sp.1 sp.2
      (fun t ht => let ⟨w, hw, hl⟩ := PyData.shownKv_key_le _ t ht; Nat.le_trans hl (Nat.le_trans (dictText_mem_le hw) z2))
      (fun t ht => let ⟨w, hw, hl⟩ := PyData.shownKv_val_le _ t ht; Nat.le_trans hl (Nat.le_trans (dictText_mem_le hw) z2))
    have whole : Reads s.heap (.ref _) (.dict (D.pyKv ks)) _ := Reads.dict ho ex.1 hd q1 q2
    have dp : PyData.depthKv (D.pyKv ks) < (PyData.dict (D.pyKv ks)).depth := by simp only [PyData.depth]; omega
    have out := not_mem_of_deeper whole dp q3
    refine ⟨_, _ :: cs, whole, ReadAtMost.cons whole (Nat.le_of_lt dp) q3, ?_⟩
    have e := ReprK.dict ho ex.1 hd sy out (ReprEntriesK.of_two es.toList _ _ q4 q5)
    simpa only [D.pyK, PyData.depth, PyData.shown, PyData.shownKv_eq] using e
theorem rdKL (I : Inv X pins σ H s) : ∀ (ds : List D) (vs : List V) (us : List Value), D.plainKL ds = true → RepL X.K H vs ds → Vals vs us → PyData.showableAll (D.pyKL ds) = true → (∀ t ∈ PyData.shownAll (D.pyKL ds), t.length ≤ sizeLine) →
    ∃ as bs, ReadsAll s.heap us (D.pyKL ds) as ∧ ReadAtMost s.heap (PyData.depthAll (D.pyKL ds)) bs ∧ ReprAllK X.prog X.w bs s.heap (PyData.depthAll (D.pyKL ds)) us (PyData.shownAll (D.pyKL ds))
  | [], _, _, _, .nil, r, _, _ => by
    cases r
    exact ⟨[], [], .nil, amost_nil, .nil⟩
  | d :: ds, _, _, p, .cons l1 l2, r, sh, z => by
    cases r with | cons r1 r2 =>
    have p2 := Bool.and_eq_true_iff.mp p
    have s2 := Bool.and_eq_true_iff.mp (show (d.pyK.showable && PyData.showableAll (D.pyKL ds)) = true from sh)
    obtain ⟨a1, b1, x1, y1, z1⟩ := rdK I d _ _ p2.1 l1 r1 s2.1 (z _ List.mem_cons_self)
    obtain ⟨a2, b2, x2, y2, z2⟩ := rdKL I ds _ _ p2.2 l2 r2 s2.2 fun t ht => z t (List.mem_cons_of_mem _ ht)
    exact ⟨_, b1 ++ b2, .cons x1 x2, amost_le y1 y2, .cons ((z1.more fun _ h => List.mem_append_left _ h).level_le (Nat.le_max_left _ _)) (z2.more_le (fun _ h => List.mem_append_right _ h) (Nat.le_max_right _ _))⟩
theorem rdKv (I : Inv X pins σ H s) : ∀ (ks : List (Key × D)) (kvs : List (Key × V)) (vs : List (Key × Value)) (es : List DictEntry), D.plainKv ks = true → RepK X.K H kvs ks → KV kvs vs → Pairs (mixKind X.prog X.w) es vs →
    PyData.showableAll ((D.pyKv ks).map (·.1)) = true → PyData.showableAll ((D.pyKv ks).map (·.2)) = true → (∀ t ∈ PyData.shownAll ((D.pyKv ks).map (·.1)), t.length ≤ sizeLine) → (∀ t ∈ PyData.shownAll ((D.pyKv ks).map (·.2)), t.length ≤ sizeLine) →
    ∃ as bs cs, ReadsAll s.heap (es.map (·.key)) ((D.pyKv ks).map (·.1)) as ∧ ReadsAll s.heap (es.map (·.val)) ((D.pyKv ks).map (·.2)) bs ∧ ReadAtMost s.heap (PyData.depthKv (D.pyKv ks)) cs ∧
      ReprAllK X.prog X.w cs s.heap (PyData.depthKv (D.pyKv ks)) (es.map (·.key)) (PyData.shownAll ((D.pyKv ks).map (·.1))) ∧ ReprAllK X.prog X.w cs s.heap (PyData.depthKv (D.pyKv ks)) (es.map (·.val)) (PyData.shownAll ((D.pyKv ks).map (·.2)))
  | [], _, _, _, _, .nil, r, pr, _, _, _, _ => by
    cases r
    cases pr
    exact ⟨[], [], [], .nil, .nil, amost_nil, .nil, .nil⟩
  | (k, d) :: ks, _, _, _, p, .cons l1 l2, r, pr, sk, sv, zk, zv => by
    cases r with | cons r1 r2 =>
    cases pr with | cons e1 e2 e3 =>
    obtain ⟨r11, r12⟩ := r1
    have p2 := Bool.and_eq_true_iff.mp p
    have sk2 := Bool.and_eq_true_iff.mp (show ((keyPy k).showable && PyData.showableAll ((D.pyKv ks).map (·.1))) = true from sk)
    have sv2 := Bool.and_eq_true_iff.mp (show (d.pyK.showable && PyData.showableAll ((D.pyKv ks).map (·.2))) = true from sv)
    have e4 := (show k = _ from r11) ▸ e1
    obtain ⟨xk, yk⟩ := key_rd (X := X) (s := s) e4 sk2.1 (zk _ List.mem_cons_self)
    obtain ⟨a1, b1, x1, y1, z1⟩ := rdK I d _ _ p2.1 l1 r12 sv2.1 (zv _ List.mem_cons_self)
    obtain ⟨a2, a3, b2, x2, x3, y2, z2, z3⟩ := rdKv I ks _ _ _ p2.2 l2 r2 e3 sk2.2 sv2.2 (fun t ht => zk t (List.mem_cons_of_mem _ ht)) (fun t ht => zv t (List.mem_cons_of_mem _ ht))
    have le1 : d.pyK.depth ≤ PyData.depthKv (D.pyKv ((k, d) :: ks)) := by simp only [D.pyKv, PyData.depthKv]; omega
    have le2 : PyData.depthKv (D.pyKv ks) ≤ PyData.depthKv (D.pyKv ((k, d) :: ks)) := by simp only [D.pyKv, PyData.depthKv]; omega
    have inl : ∀ b ∈ b1, b ∈ b1 ++ b2 := fun _ h => List.mem_append_left _ h
    have inr : ∀ b ∈ b2, b ∈ b1 ++ b2 := fun _ h => List.mem_append_right _ h
    refine ⟨_, _, b1 ++ b2, .cons xk x2, .cons (e2 ▸ x1) x3, (y1.mono le1).append (y2.mono le2), .cons (yk _ _) (z2.more_le inr le2), .cons ?_ (z3.more_le inr le2)⟩
    have e5 := (z1.more inl).level_le le1
    rw [← e2] at e5
    exact e5
end
/-- what may be shown, dicts too -/
structure D.shK (d : D) : Prop where
  plain : d.plainK = true
  able : PyData.showable d.pyK = true
  size : (PyData.shown d.pyK).length ≤ sizeLine
  deep : PyData.depth d.pyK ≤ 60
end
def rbReprK : RB := fun ds E Q => match ds with
  | [d] => d.shK ∧ Q (.str (PyData.shown d.pyK)) E
  | _ => False
section
variable {X : Cx} {a e : Expr} {t : TAd} {p pos : Pos}
theorem call_reprK (hgd : X.A.guards = some []) (hu : X.A.units + 64 < cLine) : CallR X (.builtin "repr") (fun xs H Q => ∃ v d, xs = [v] ∧ Rep X.K H v d ∧ d.shK ∧ Q (.str (PyData.shown d.pyK)) H) := by
  intro pins s σ H xs us Q I r h
  obtain ⟨v, d, rfl, rd, sh, q⟩ := h
  obtain ⟨u, rfl, ru⟩ := vals1 r
  have dp := sh.deep
  have fin : ∀ (T idr : String), SlotG T "__repr__" idr → s.TypeIs u T →
      (∀ (E : Value → Shared → Prop) (Q : Value → Shared → Prop), (∀ h' tu tk, (∀ b o, s.heap.get? b = some o → h'.get? b = some o) → Q (.str d.pyK.shown tu) { s with heap := h', toks := tk }) → wpAny (model X.prog X.w) X.A.in1 (call (.builtin idr) [u]) Q E s) →
      wpAny (model X.prog X.w) X.A (call (.builtin "repr") [u]) (EP X pins σ Q) X.xe s := fun T idr sl ty cl =>
    call_repr_slot (by omega) ty sl (cl _ _ fun h' tu tk hk => ⟨_, _, rfl, .str _, H, I.kept (h' := h') (t' := tk) hk, ⟨_, rfl⟩, q⟩)
  have room : ∀ n, n + 1 ≤ 60 → X.A.in1.units + (n + 1) < cLine := fun n h => by
    show X.A.units + 1 + (n + 1) < cLine
    omega
  cases rd with
  | non =>
    cases ru
    exact PySem.P.repr_of_none ⟨.str _, H, I.tok _, ⟨_, rfl⟩, q⟩
  | bl b =>
    cases ru
    exact PySem.P.repr_of_bool ⟨.str _, H, I.tok _, ⟨_, rfl⟩, q⟩
  | int i =>
    obtain ⟨t, rfl⟩ := ru
    exact PySem.P.repr_of_int (of_decide_eq_true sh.able) ⟨.str _, H, I.tok _, ⟨_, rfl⟩, q⟩
  | str x =>
    obtain ⟨t, rfl⟩ := ru
    exact PySem.P.repr_of_str ⟨.str _, H, I.tok _, ⟨_, rfl⟩, q⟩ sh.size
  | opq v => exact nomatch sh.plain
  | pt _ _ => exact nomatch sh.plain
  | ps _ _ => exact nomatch sh.plain
  | ins _ _ _ => exact nomatch sh.plain
  | tup hs l =>
    rename_i a0 vs0 xs
    cases ru
    obtain ⟨its, rv, ⟨o, ho, hc, n, hd⟩, _⟩ := I.tuple hs
    have z2 : (tupleText (PyData.shownAll (D.pyKL xs))).length ≤ sizeLine := by simpa only [D.pyK, PyData.shown] using sh.size
    obtain ⟨as, bs, q1, q2, q3⟩ := rdKL I xs _ its sh.plain l rv sh.able fun t ht => Nat.le_trans (tupleText_mem_le ht) z2
    have whole : Reads s.heap (.ref a0) (.tuple (D.pyKL xs)) as := Reads.tuple ho hc hd (by simpa using q1)
    have lt : PyData.depthAll (D.pyKL xs) < (PyData.tuple (D.pyKL xs)).depth := by simp only [PyData.depth]; omega
    have out := not_mem_of_deeper whole lt q2
    simp only [D.pyK, PyData.depth] at dp
    refine fin "tuple" "tuple.__repr__" F.slot_tuple_repr ⟨o, ho, hc⟩ fun E Q2 hQ => ?_
    simp only [D.pyK, PyData.shown] at hQ
    exact call_tuple_reprK ho hc hd out (by simpa using q3) hgd (fun b _ => Clear.nil b) (room _ dp) (fun _ _ e => e) hQ z2
  | lst hs l =>
    rename_i a0 vs0 xs
    cases ru
    obtain ⟨its, rv, ⟨o, n, ho, hc, _, hd⟩, _⟩ := I.list (.inl (.inl hs))
    have z2 : (listText (PyData.shownAll (D.pyKL xs))).length ≤ sizeLine := by simpa only [D.pyK, PyData.shown] using sh.size
    obtain ⟨as, bs, q1, q2, q3⟩ := rdKL I xs _ its sh.plain l rv sh.able fun t ht => Nat.le_trans (listText_mem_le ht) z2
    have whole : Reads s.heap (.ref a0) (.list (D.pyKL xs)) _ := Reads.list ho hc hd q1
    have lt : PyData.depthAll (D.pyKL xs) < (PyData.list (D.pyKL xs)).depth := by simp only [PyData.depth]; omega
    have out := not_mem_of_deeper whole lt q2
    simp only [D.pyK, PyData.depth] at dp
    refine fin "list" "list.__repr__" F.slot_list_repr.toG ⟨o, ho, hc⟩ fun E Q2 hQ => ?_
    simp only [D.pyK, PyData.shown] at hQ
    cases its with
    | nil =>
      have e : D.pyKL xs = [] := by
        generalize D.pyKL xs = ps at q1
        cases q1
        rfl
      rw [show listText (PyData.shownAll (D.pyKL xs)) = ("[]" : Str) by rw [e]; exact listText_nil] at hQ
      exact call_list_repr_empty ⟨o, ho, hc⟩ ho hd (hQ s.heap _ _ fun _ _ e => e)
    | cons y ys => exact call_list_reprK ho hc hd out (by simpa using q3.length_eq) (fun i w e => q3.item i w (by simpa using e)) hgd (fun b _ => Clear.nil b) (room _ dp) (fun _ _ e => e) hQ z2
  | dct hs l =>
    rename_i a0 vs0 ks
    cases ru
    obtain ⟨_, sy, vs, kv, o, es, ep, ho, ex, hd, _, pr, _⟩ := dk_of I.hok hs
    have z2 : (dictText (PyData.shownKv (D.pyKv ks))).length ≤ sizeLine := by simpa only [D.pyK, PyData.shown] using sh.size
    have sp := PyData.showableKv_split _ (show PyData.showableKv (D.pyKv ks) = true from sh.able)
    obtain ⟨as, bs, cs, q1, q2, q3, q4, q5⟩ := rdKv I ks _ vs es.toList sh.plain l kv pr sp.1 sp.2
      (fun t ht => let ⟨w, hw, hl⟩ := PyData.shownKv_key_le _ t ht; Nat.le_trans hl (Nat.le_trans (dictText_mem_le hw) z2))
      (fun t ht => let ⟨w, hw, hl⟩ := PyData.shownKv_val_le _ t ht; Nat.le_trans hl (Nat.le_trans (dictText_mem_le hw) z2))
    have whole : Reads s.heap (.ref a0) (.dict (D.pyKv ks)) _ := Reads.dict ho ex.1 hd q1 q2
    have lt : PyData.depthKv (D.pyKv ks) < (PyData.dict (D.pyKv ks)).depth := by simp only [PyData.depth]; omega
    have out := not_mem_of_deeper whole lt q3
    simp only [D.pyK, PyData.depth] at dp
    refine fin "dict" "dict.__repr__" F.slot_dict_repr ⟨o, ho, ex.1⟩ fun E Q2 hQ => ?_
    simp only [D.pyK, PyData.shown, PyData.shownKv_eq] at hQ
    exact call_dict_reprK ho ex.1 hd sy out (ReprEntriesK.of_two es.toList _ _ q4 q5) hgd (fun b _ => Clear.nil b) (room _ dp) (fun _ _ e => e) hQ (by rw [← PyData.shownKv_eq]; exact z2)
theorem d_reprK (hgd : X.A.guards = some []) (hu : X.A.units + 64 < cLine) (hm : X.mg "repr" = none) (ha : PAd X [a] t) (hg : Gl X "repr" := by rfl) (he : starEach [a] X.env = (false, eval a X.env) :: starEach [] X.env := by rfl) : PEd X (.Call (.Name "repr" p) [a] [] pos) (tCBd rbReprK t) :=
  d_callB (call_reprK hgd hu) (fun en Hf H F E σ vs ds Q Qd S rx q k => by
    unfold rbReprK at q
    split at q
    · obtain ⟨v, rfl, r⟩ := rx.one
      exact ⟨_, _, rfl, r.mono S.sf, q.1, k _ _ _ _ _ _ (Same.refl _) S (.str _) q.2⟩
    · exact q.elim) hm PyProof.Rows.boot_repr ha hg (by decide) (by decide) he
def tDct0 : TEd := fun E Q => Q (.dct []) E
theorem d_dct0 : PEd X (.Dict [] [] pos) tDct0 :=
  pe_imp pe_dnewK fun σ H Q ⟨en, Hf, F, E, Qd, S, h, k⟩ p np => Fin.new k S np (fun _ _ e => .dct e .nil) h
def tDct1 (kk : Key) (d : D) : TEd := fun E Q => Q (.dct [(kk, d)]) E
def tNListc (t : TAd) : TNd := fun E Q => t E fun ds E1 => match ds with
  | [.lst xs] => Q xs E1
  | [.tup xs] => Q xs E1
  | _ => False
def tNMul (ta tb : TEd) : TNd := fun E Q => ta E fun x E1 => tb E1 fun y E2 => match x, y with
  | .lst u, .int n => (-(2 ^ 63) ≤ n ∧ n < 2 ^ 63 ∧ u.length * n.toNat ≤ sizeLine) ∧ Q (List.replicate n.toNat u).flatten E2
  | _, _ => False
end
structure ShK (k m : Nat) (d : D) : Prop where
  plain : d.plainK = true
  able : PyData.showable d.pyK = true
  size : (PyData.shown d.pyK).length ≤ m
  deep : PyData.depth d.pyK ≤ k
structure ShKL (k m : Nat) (ds : List D) : Prop where
  plain : D.plainKL ds = true
  able : PyData.showableAll (D.pyKL ds) = true
  size : ((PyData.shownAll (D.pyKL ds)).map (·.length)).sum + 2 * (PyData.shownAll (D.pyKL ds)).length ≤ m
  deep : PyData.depthAll (D.pyKL ds) ≤ k
theorem ShK.shK {k m : Nat} {d : D} (h : ShK k m d) (h1 : k ≤ 60) (h2 : m ≤ 16777216) : d.shK := ⟨h.plain, h.able, Nat.le_trans h.size (small_le h2), Nat.le_trans h.deep h1⟩
theorem ShK.mono {k m k' m' : Nat} {d : D} (h : ShK k m d) (h1 : k ≤ k') (h2 : m ≤ m') : ShK k' m' d := ⟨h.plain, h.able, Nat.le_trans h.size h2, Nat.le_trans h.deep h1⟩
mutual
theorem pyK_plain : ∀ d : D, d.plain = true → d.pyK = d.py ∧ d.plainK = true
  | .non, _ => ⟨rfl, rfl⟩
  | .bl _, _ => ⟨rfl, rfl⟩
  | .int _, _ => ⟨rfl, rfl⟩
  | .str _, _ => ⟨rfl, rfl⟩
  | .opq _, h => nomatch h
  | .pt _, h => nomatch h
  | .ps _, h => nomatch h
  | .ins _ _, h => nomatch h
  | .dct _, h => nomatch h
  | .tup xs, h => ⟨congrArg PyData.tuple (pyKL_plain xs h).1, (pyKL_plain xs h).2⟩
  | .lst xs, h => ⟨congrArg PyData.list (pyKL_plain xs h).1, (pyKL_plain xs h).2⟩
theorem pyKL_plain : ∀ ds : List D, D.plainL ds = true → D.pyKL ds = D.pyL ds ∧ D.plainKL ds = true
  | [], _ => ⟨rfl, rfl⟩
  | d :: ds, h => by
    have p := Bool.and_eq_true_iff.mp h
    obtain ⟨e1, e2⟩ := pyK_plain d p.1
    obtain ⟨e3, e4⟩ := pyKL_plain ds p.2
    exact ⟨by rw [D.pyKL, D.pyL, e1, e3], Bool.and_eq_true_iff.mpr ⟨e2, e4⟩⟩
end
theorem ShK.of {k m : Nat} {d : D} (h : Sh k m d) : ShK k m d := by
  obtain ⟨e1, e2⟩ := pyK_plain d h.plain
  exact ⟨e2, by rw [e1]; exact h.able, by rw [e1]; exact h.size, by rw [e1]; exact h.deep⟩
theorem ShK.lst {k m : Nat} {ds : List D} (h : ShKL k m ds) : ShK (k + 1) (m + 3) (.lst ds) := ⟨h.plain, h.able, by
  have a := listText_len_le (PyData.shownAll (D.pyKL ds))
  have b := h.size
  show (listText (PyData.shownAll (D.pyKL ds))).length ≤ _
  omega, Nat.succ_le_succ h.deep⟩
theorem ShK.tup {k m : Nat} {ds : List D} (h : ShKL k m ds) : ShK (k + 1) (m + 3) (.tup ds) := ⟨h.plain, h.able, by
  have a := tupleText_len_le (PyData.shownAll (D.pyKL ds))
  have b := h.size
  show (tupleText (PyData.shownAll (D.pyKL ds))).length ≤ _
  omega, Nat.succ_le_succ h.deep⟩
theorem ShKL.nil {k : Nat} : ShKL k 0 [] := ⟨rfl, rfl, Nat.le_refl _, Nat.zero_le _⟩
theorem ShKL.cons {k k' m m' : Nat} {d : D} {ds : List D} (h : ShK k m d) (h' : ShKL k' m' ds) : ShKL (max k k') (m + m' + 2) (d :: ds) := ⟨Bool.and_eq_true_iff.mpr ⟨h.plain, h'.plain⟩, Bool.and_eq_true_iff.mpr ⟨h.able, h'.able⟩, by
  have a := h.size
  have b := h'.size
  show ((PyData.shown d.pyK :: PyData.shownAll (D.pyKL ds)).map (·.length)).sum + 2 * (PyData.shown d.pyK :: PyData.shownAll (D.pyKL ds)).length ≤ _
  rw [List.map_cons, List.sum_cons, List.length_cons]
  omega, by
  have a := h.deep
  have b := h'.deep
  show max (PyData.depth d.pyK) (PyData.depthAll (D.pyKL ds)) ≤ _
  omega⟩
theorem ShKL.all {k m : Nat} : ∀ {ds : List D}, (∀ d ∈ ds, ShK k m d) → ShKL k (ds.length * (m + 2)) ds
  | [], _ => ⟨rfl, rfl, by simp [D.pyKL, PyData.shownAll], Nat.zero_le _⟩
  | d :: ds, h => by
    have e := ShKL.cons (h d List.mem_cons_self) (ShKL.all (ds := ds) fun x hx => h x (List.mem_cons_of_mem _ hx))
    rw [Nat.max_self] at e
    refine ⟨e.plain, e.able, Nat.le_trans e.size ?_, e.deep⟩
    rw [List.length_cons, Nat.add_mul, Nat.one_mul]
    omega
theorem ShKL.mono {k m k' m' : Nat} {ds : List D} (h : ShKL k m ds) (h1 : k ≤ k') (h2 : m ≤ m') : ShKL k' m' ds := ⟨h.plain, h.able, Nat.le_trans h.size h2, Nat.le_trans h.deep h1⟩
theorem plainKL_all : ∀ {ds : List D}, D.plainKL ds = true → ∀ d ∈ ds, d.plainK = true
  | [], _, _, hx => nomatch hx
  | _ :: _, h, _, hx => by
    have p := Bool.and_eq_true_iff.mp h
    rcases List.mem_cons.mp hx with rfl | hx
    · exact p.1
    · exact plainKL_all p.2 _ hx
end L3
namespace L3
open PySem PySem.Spec PyProof.Rows L2
variable [Tbs]
/-- the new set, empty -/
abbrev newSetO (w : World) : Obj := { cls := .type "set", dict := none, data := .set #[] 0 (.fresh 0 0 (!w.params.followText "set-order")) }
section
variable {P : Program} {w : World} {A : Around} {E : Value → Shared → Prop} {s : Shared}
set_option maxRecDepth 100000 in
set_option maxHeartbeats 3200000 in
theorem set_of_ints {l : Addr} {items : Array Value} (ns : List Int) {Q : Value → Shared → Prop} (quiet : A.handled = none) (isl : s.heap.IsList l items) (isI : IntsAre items.toList ns) (few : ns.length + 1 < scanBound)
    (done : ∀ (g : Heap) (tk c : Nat), SetR w g s.heap.objs.size (fun j => decide (j ∈ ns)) c → c ≤ ns.length → (∀ b o, s.heap.get? b = some o → g.get? b = some o) → Q (.ref s.heap.objs.size) { s with heap := g, toks := tk }) :
    wpAny (model P w) A (call (.type "set") [.ref l]) Q E s := by
  have size : items.size = ns.length := by rw [← Array.length_toList]; exact IntsAre.length isI
  obtain ⟨c0, tl0, m0⟩ := F.called_set.mro; have m1 := F.called_set.made; have m2 := F.called_set.sub
  refine wpAny_call (codeAny_of_tree ?_); show wpAny _ _ (callAny (.type "set") _) _ _ _
  refine wpAny_pure ⟨Code.quiet_builtin _ (by decide +kernel), codeAny_builtin F.entry_type_call ?_⟩; rw [Around.under_plain (weight_type_call_type "set" [.ref l] []) rfl]
  have k1 := F.called_set.notType; have k2 := F.called_set.canCreate; have k3 := F.typeCall_set_1 (.ref l)
  repeat (any_goals (first | assumption | wp_step))
  refine codeAny_mono (code_set_led1 (.ref l) (E := E) (Q₁ := fun obj t => obj = .ref s.heap.objs.size ∧ t = { s with heap := s.heap.push (newSetO w) }) ⟨rfl, rfl⟩) fun r t hr => ?_
  rcases r with e | fl
  · exact hr
  cases fl with
  | ret obj =>
    obtain ⟨rfl, rfl⟩ := hr
    have at0 : (s.heap.push (newSetO w)).get? s.heap.objs.size = some (newSetO w) := Heap.get?_push_size _ rfl
    have ty : Shared.TypeIs { s with heap := s.heap.push (newSetO w) } (.ref s.heap.objs.size) "set" := ⟨_, at0, rfl⟩
    have i1 := F.called_set.init.lookup; have i2 := F.called_set.init.bind (.ref s.heap.objs.size)
    repeat (any_goals (first | assumption | wp_step))
    refine codeAny_mono (codeAny_call_builtin (R := wants (fun r t => r = .none ∧ ∃ g tk c, t = { s with heap := g, toks := tk } ∧ SetR w g s.heap.objs.size (fun j => decide (j ∈ ns)) c ∧ c ≤ ns.length ∧ (∀ b o, s.heap.get? b = some o → g.get? b = some o)) E) F.called_set.init.plain F.entry_set_init (check_set_init_1 ty ?_)) fun r2 t2 hr2 => ?_
    · obtain ⟨⟨oc, odc, odt, osl⟩, hol, hcl, nl, hdl⟩ := isl
      simp only at hcl hdl; subst hcl hdl
      have old : (s.heap.push (newSetO w)).get? l = some { cls := .type "list", dict := odc, data := .seq items nl, slots := osl } := Heap.get?_push_of_some _ hol
      have n1 := F.sub_list_set; have n2 := F.sub_list_frozenset; have n3 : (Value.type "list" == Value.type "dict") = false := by decide
      have isl2 : (s.heap.push (newSetO w)).IsList l items := ⟨_, old, rfl, nl, rfl⟩
      unfold Builtin.«set.__init__» noKeywords Builtin.Frozenset.updateFrom; generalize hPI : pyIter = PI; wp_walk; subst hPI
      refine wpAny_pyIter_list isl2 (wpAny_bind (wpAny_runValue ?_))
      have lt : l < s.heap.objs.size := Heap.lt_size hol
      have quiet3 : A.in1.in1.in1.handled = none := by simp [quiet]
      have sz : (s.heap.push (newSetO w)).objs.size = s.heap.objs.size + 1 := Heap.size_push ..
      have ne : l ≠ (s.heap.push (newSetO w)).objs.size := by rw [sz]; exact Nat.ne_of_lt (Nat.lt_succ_of_lt lt)
      have out : s.heap.objs.size ∉ [(s.heap.push (newSetO w)).objs.size, l] := by
        rw [sz]; simp only [List.mem_cons, List.mem_singleton, List.not_mem_nil, or_false, not_or]; exact ⟨Nat.ne_of_lt (Nat.lt_succ_self _), Nat.ne_of_gt lt⟩
      have vals : ∀ (i : Nat) (v : Value), items[i]? = some v → ∃ k t, ns[i]? = some k ∧ v = .int k t := fun i v hv => by
        have hi : i < ns.length := size ▸ (Array.getElem?_eq_some_iff.mp hv).1
        obtain ⟨t, e⟩ := PyProof.Rows.IntsAre.int_at isI i v (by rw [Array.getElem?_toList]; exact hv)
        exact ⟨ns[i], t, List.getElem?_eq_getElem hi, by rw [e, List.getD_eq_getElem?_getD, List.getElem?_eq_getElem hi]; rfl⟩
      refine set_update_ints ((Walks.list quiet3 _ l ne items).toS) s.heap.objs.size out ns size few vals (items.size - 0) 0 _ (by omega) (Nat.zero_le _) ⟨⟨_, Heap.get?_push_size _ rfl, rfl, rfl⟩, (isl2.push _)⟩ ⟨0, Nat.le_refl 0, setR_new_at (Heap.get?_push_of_some _ at0)⟩ ?_
      intro t c2 mv few2 R
      obtain ⟨g, gg, dd, tk2, oo⟩ := t
      have e1 : gg = s.gens := mv.gens
      have e2 : dd = s.drawn := mv.drawn
      have e3 : oo = s.os := mv.os
      subst e1 e2 e3
      show wpAny _ _ _ _ _ _
      refine wpAny_pure (show wpAny _ _ (ret Value.none) _ _ _ from wpAny_pure ⟨rfl, g, tk2, c2, rfl, R, by rw [← size]; exact few2, fun b o e => ?_⟩)
      have b0 : b < s.heap.objs.size := Heap.lt_size e
      refine mv.heap b o (fun hb => ?_) (Heap.get?_push_of_some _ (Heap.get?_push_of_some _ e))
      simp only [List.mem_cons, List.mem_singleton, List.not_mem_nil, or_false, sz] at hb
      rcases hb with e | e
      · exact Nat.ne_of_lt b0 e
      · exact Nat.ne_of_lt (Nat.lt_succ_of_lt b0) e
    · rcases r2 with e | fl2
      · exact hr2
      cases fl2 with
      | ret r =>
        obtain ⟨rfl, g, tk, c, rfl, R, few2, keep⟩ := hr2
        repeat (any_goals (first | assumption | wp_step))
        exact done _ _ _ R few2 keep
      | _ => exact hr2.elim
  | _ => exact hr.elim
end
section
variable {X : Cx}
/-- sorted(set(xs)), xs a list of ints -/
def rSetI (K : PySem.W.Frag) (w : World) : List V → Hp → VK → Prop := fun xs H Q => ∃ (l : Addr) (ns : List Int), xs = [V.ref l] ∧ SqL K H l (ns.map V.int) ∧ ns.length + 1 < scanBound ∧
  ∀ a c, H a = none → Q (.ref a) (upd H a (SetO w a (fun j => decide (j ∈ ns)) c))
theorem cr_setI (calm : X.calm = true) : CallR X (.type "set") (rSetI X.K X.w) := by
  intro pins s σ H xs us Q I r h
  obtain ⟨l, ns, rfl, hl, few, q⟩ := h
  rw [Vals.ref1 r]
  obtain ⟨its, rv, pl, hz⟩ := I.list hl
  have free : H s.heap.objs.size = none := I.hok.fresh (Nat.le_refl _)
  refine set_of_ints (P := X.prog) (w := X.w) ns (I.ok.hd calm) pl.isList (by simpa using rv.ints) few fun g tk c R _ k => ?_
  exact ⟨.ref s.heap.objs.size, upd H s.heap.objs.size (SetO X.w s.heap.objs.size (fun j => decide (j ∈ ns)) c), I.laid (t' := tk) k (Nat.le_refl _) (setO_new R), rfl, q _ c free⟩
end
def tSortSetI (te : TEd) : TEd := fun E Q => te E fun x E1 => ∃ ns : List Int, x = .lst (ns.map D.int) ∧ ns.length + 1 < scanBound ∧ ∀ out : List Int, out.Pairwise (· < ·) → (∀ k, k ∈ out ↔ k ∈ ns) → Q (.lst (out.map D.int)) E1
section
variable {X : Cx} {e : Expr} {te : TEd} {p p' pos pos' : Pos}
end
end L3
namespace Z3
open PySem PyProof.Rows
/-- two addresses stand apart -/
abbrev Tri (h : Heap) (T : Addr) (a b c : Value) : Prop := h.get? T = some { cls := .type "tuple", data := .seq #[a, b, c] }
structure Zs (h : Heap) (n l1 l2 l3 : Nat) (f : Value) (j1 j2 j3 : Nat) (a b c : Value) : Prop where
  z : IsZip h (n + 5) (n + 3) (n + 4) f
  ti : Tri h (n + 3) (.ref n) (.ref (n + 1)) (.ref (n + 2))
  to : Tri h (n + 4) a b c
  i1 : h.IsListIter n l1 j1
  i2 : h.IsListIter (n + 1) l2 j2
  i3 : h.IsListIter (n + 2) l3 j3
section
variable {prog : Program} {w : World} {A : Around} {E : Value → Shared → Prop} {s : Shared} {n l1 l2 l3 : Nat} {a b c : Value} {xs ys us : Array Value}
theorem upd_tri {T : Addr} {a b c x : Value} {k : Nat} {Q : Unit → Shared → Prop} (hT : Tri s.heap T a b c)
    (h : ∀ g, g.get? T = some { cls := .type "tuple", data := .seq ((#[a, b, c] : Array Value).setIfInBounds k x) } → Heap.SameBut T s.heap g → Q () { s with heap := g }) : wpAny (model prog w) A (updateSeq T (·.setIfInBounds k x)) Q E s := by
  refine wpAny_updateSeq hT rfl (h _ (by rw [Heap.get?_update_self _ hT rfl]; simp [Obj.mapSeq]) (Heap.SameBut.update ..))
theorem item {j : Nat} {x y u : Value} {Q : Value → Shared → Prop} (Z : Zs s.heap n l1 l2 l3 .none j j j a b c) (h1 : l1 < n) (h2 : l2 < n) (h3 : l3 < n) (L1 : s.heap.IsList l1 xs) (L2 : s.heap.IsList l2 ys) (L3 : s.heap.IsList l3 us)
    (hx : xs[j]? = some x) (hy : ys[j]? = some y) (hu : us[j]? = some u)
    (hQ : ∀ g, Zs g n l1 l2 l3 (rawInt s.heap.objs.size) (j + 1) (j + 1) (j + 1) x y u → Tri g s.heap.objs.size x y u → g.objs.size = s.heap.objs.size + 1 → (∀ (d : Nat) (o : Obj), (d < n ∨ n + 6 ≤ d) → s.heap.get? d = some o → g.get? d = some o) → Q (.ref s.heap.objs.size) { s with heap := g }) :
    wpAny (model prog w) A (Builtin.«zip.__next__» ⟨[.ref (n + 5)], []⟩) (fun fin t => ∃ v, fin = .done (.ret v) ∧ Q v t) E s := by
  obtain ⟨hz, ti, to, i1, i2, i3⟩ := Z
  show wpAny _ _ (field (.ref (n + 5)) 2 >>= _) _ _ _; refine wpAny_bind (wpAny_field hz rfl (x := .bool false) rfl ?_)
  show wpAny _ _ (field (.ref (n + 5)) 3 >>= _) _ _ _; refine wpAny_bind (wpAny_field hz rfl (x := .ref (n + 3)) rfl (wpAny_bind (wpAny_seqItems ti rfl ?_)))
  show wpAny _ _ (Builtin.SmallTypes.ownedTupleIsFree (.ref (n + 5)) >>= _) _ _ _
  refine wpAny_bind ?_; unfold Builtin.SmallTypes.ownedTupleIsFree
  refine wpAny_bind (wpAny_field hz rfl (x := .none) rfl (wpAny_pure ?_)); simp only [if_true]
  refine wpAny_bind (wpAny_rule (wpAny_bind (wpAny_field hz rfl (x := .ref (n + 4)) rfl (wpAny_bind (wpAny_setField_rec hz (by simp) fun g1 z1 s1 => ?_)))))
  replace z1 : IsZip g1 (n + 5) (n + 3) (n + 4) .ellipsis := z1
  refine wpAny_bind ?_; simp only [List.zipIdx_cons, List.zipIdx_nil, List.forIn_cons, List.forIn_nil]
  have k1 : ∀ (d : Nat) (o : Obj), d ≠ n + 5 → s.heap.get? d = some o → g1.get? d = some o := fun d o ne e => s1.extBut d o ne e
  -- the first
  refine wpAny_bind (wpAny_bind (wpAny_onRaise ?_)); show wpAny _ _ (Builtin.SmallTypes.nextOf (.ref n) >>= _) _ _ _
  refine wpAny_bind (wpAny_nextOf_list_item (i1.at fun o e => k1 _ o (by first | omega | (show @Ne Nat _ _; omega)) e) (L1.at fun o e => k1 _ o (by first | omega | (show @Ne Nat _ _; omega)) e) hx fun g2 i1b s2 => wpAny_pure ?_)
  have k2 : ∀ (d : Nat) (o : Obj), d ≠ n + 5 → d ≠ n → s.heap.get? d = some o → g2.get? d = some o := fun d o n5 n0 e => s2.extBut d o n0 (k1 d o n5 e)
  have to2 : Tri g2 (n + 4) a b c := k2 _ _ (by first | omega | (show @Ne Nat _ _; omega)) (by first | omega | (show @Ne Nat _ _; omega)) to
  refine wpAny_bind (wpAny_seqItems to2 rfl (wpAny_bind (upd_tri to2 fun g3 to3 s3 => ?_)))
  replace to3 : Tri g3 (n + 4) x b c := to3
  refine wpAny_bind (wpAny_letGo (wpAny_pure ?_))
  have k3 : ∀ (d : Nat) (o : Obj), d ≠ n + 5 → d ≠ n → d ≠ n + 4 → s.heap.get? d = some o → g3.get? d = some o := fun d o n5 n0 n4 e => s3.extBut d o n4 (k2 d o n5 n0 e)
  -- the second
  refine wpAny_bind (wpAny_bind (wpAny_onRaise ?_)); show wpAny _ _ (Builtin.SmallTypes.nextOf (.ref (n + 1)) >>= _) _ _ _
  refine wpAny_bind (wpAny_nextOf_list_item (i2.at fun o e => k3 _ o (by first | omega | (show @Ne Nat _ _; omega)) (by first | omega | (show @Ne Nat _ _; omega)) (by first | omega | (show @Ne Nat _ _; omega)) e) (L2.at fun o e => k3 _ o (by first | omega | (show @Ne Nat _ _; omega)) (by first | omega | (show @Ne Nat _ _; omega)) (by first | omega | (show @Ne Nat _ _; omega)) e) hy fun g4 i2b s4 => wpAny_pure ?_)
  have to4 : Tri g4 (n + 4) x b c := s4.extBut _ _ (by first | omega | (show @Ne Nat _ _; omega)) to3
  refine wpAny_bind (wpAny_seqItems to4 rfl (wpAny_bind (upd_tri to4 fun g5 to5 s5 => ?_)))
  replace to5 : Tri g5 (n + 4) x y c := to5
  refine wpAny_bind (wpAny_letGo (wpAny_pure ?_))
  have k5 : ∀ (d : Nat) (o : Obj), d ≠ n + 5 → d ≠ n → d ≠ n + 4 → d ≠ n + 1 → s.heap.get? d = some o → g5.get? d = some o := fun d o n5 n0 n4 n1 e => s5.extBut d o n4 (s4.extBut d o n1 (k3 d o n5 n0 n4 e))
  -- the third
  refine wpAny_bind (wpAny_bind (wpAny_onRaise ?_)); show wpAny _ _ (Builtin.SmallTypes.nextOf (.ref (n + 2)) >>= _) _ _ _
  refine wpAny_bind (wpAny_nextOf_list_item (i3.at fun o e => k5 _ o (by first | omega | (show @Ne Nat _ _; omega)) (by first | omega | (show @Ne Nat _ _; omega)) (by first | omega | (show @Ne Nat _ _; omega)) (by first | omega | (show @Ne Nat _ _; omega)) e) (L3.at fun o e => k5 _ o (by first | omega | (show @Ne Nat _ _; omega)) (by first | omega | (show @Ne Nat _ _; omega)) (by first | omega | (show @Ne Nat _ _; omega)) (by first | omega | (show @Ne Nat _ _; omega)) e) hu fun g6 i3b s6 => wpAny_pure ?_)
  have to6 : Tri g6 (n + 4) x y c := s6.extBut _ _ (by first | omega | (show @Ne Nat _ _; omega)) to5
  refine wpAny_bind (wpAny_seqItems to6 rfl (wpAny_bind (upd_tri to6 fun g7 to7 s7 => ?_)))
  replace to7 : Tri g7 (n + 4) x y u := to7
  refine wpAny_bind (wpAny_letGo (wpAny_pure (wpAny_pure ?_)))
  have k7 : ∀ (d : Nat) (o : Obj), d ≠ n + 5 → d ≠ n → d ≠ n + 4 → d ≠ n + 1 → d ≠ n + 2 → s.heap.get? d = some o → g7.get? d = some o := fun d o n5 n0 n4 n1 n2 e => s7.extBut d o n4 (s6.extBut d o n2 (k5 d o n5 n0 n4 n1 e))
  have z7 : IsZip g7 (n + 5) (n + 3) (n + 4) .ellipsis := s7.extBut _ _ (by first | omega | (show @Ne Nat _ _; omega)) (s6.extBut _ _ (by first | omega | (show @Ne Nat _ _; omega)) (s5.extBut _ _ (by first | omega | (show @Ne Nat _ _; omega)) (s4.extBut _ _ (by first | omega | (show @Ne Nat _ _; omega)) (s3.extBut _ _ (by first | omega | (show @Ne Nat _ _; omega)) (s2.extBut _ _ (by first | omega | (show @Ne Nat _ _; omega)) z1)))))
  have i17 : g7.IsListIter n l1 (j + 1) := i1b.at fun o e => s7.extBut _ _ (by first | omega | (show @Ne Nat _ _; omega)) (s6.extBut _ _ (by first | omega | (show @Ne Nat _ _; omega)) (s5.extBut _ _ (by first | omega | (show @Ne Nat _ _; omega)) (s4.extBut _ _ (by first | omega | (show @Ne Nat _ _; omega)) (s3.extBut _ _ (by first | omega | (show @Ne Nat _ _; omega)) e))))
  have i27 : g7.IsListIter (n + 1) l2 (j + 1) := i2b.at fun o e => s7.extBut _ _ (by first | omega | (show @Ne Nat _ _; omega)) (s6.extBut _ _ (by first | omega | (show @Ne Nat _ _; omega)) (s5.extBut _ _ (by first | omega | (show @Ne Nat _ _; omega)) e))
  have i37 : g7.IsListIter (n + 2) l3 (j + 1) := i3b.at fun o e => s7.extBut _ _ (by first | omega | (show @Ne Nat _ _; omega)) e
  have ti7 : Tri g7 (n + 3) (.ref n) (.ref (n + 1)) (.ref (n + 2)) := k7 _ _ (by first | omega | (show @Ne Nat _ _; omega)) (by first | omega | (show @Ne Nat _ _; omega)) (by first | omega | (show @Ne Nat _ _; omega)) (by first | omega | (show @Ne Nat _ _; omega)) (by first | omega | (show @Ne Nat _ _; omega)) ti
  have sz : g7.objs.size = s.heap.objs.size := by rw [s7.1, s6.1, s5.1, s4.1, s3.1, s2.1, s1.1]
  have zlt : n + 5 < g7.objs.size := Heap.lt_size z7
  -- the tuple is handed out
  refine wpAny_bind (wpAny_seqItems to7 rfl (wpAny_bind (wpAny_newTuple ?_)))
  show wpAny _ _ (Builtin.SmallTypes.ownedTupleHandOut (.ref (n + 5)) (.ref g7.objs.size) >>= _) _ _ _
  refine wpAny_bind ?_; unfold Builtin.SmallTypes.ownedTupleHandOut
  have z8 : IsZip (g7.push { cls := .type "tuple", data := .seq #[x, y, u] }) (n + 5) (n + 3) (n + 4) .ellipsis := Heap.get?_push_of_some _ z7
  refine wpAny_bind (wpAny_setField_rec z8 (by simp) fun g9 z9 s9 => ?_)
  replace z9 : IsZip g9 (n + 5) (n + 3) (n + 4) (rawInt g7.objs.size) := z9
  refine wpAny_setField_rec z9 (by simp) fun gA zA sA => ?_
  replace zA : IsZip gA (n + 5) (n + 3) (n + 4) (rawInt g7.objs.size) := zA
  have up : ∀ (d : Nat) (o : Obj), d ≠ n + 5 → g7.get? d = some o → gA.get? d = some o := fun d o n5 e => sA.extBut _ _ n5 (s9.extBut _ _ n5 (Heap.get?_push_of_some _ e))
  have tA : Tri gA g7.objs.size x y u := sA.extBut _ _ (Nat.ne_of_gt zlt) (s9.extBut _ _ (Nat.ne_of_gt zlt) (Heap.get?_push_size _ rfl))
  have szA : gA.objs.size = g7.objs.size + 1 := by rw [sA.1, s9.1, Heap.size_push]
  rw [sz] at zA tA szA
  refine wpAny_pure ⟨_, rfl, ?_⟩
  show Q (.ref g7.objs.size) _
  rw [sz]
  exact hQ gA ⟨zA, up _ _ (by first | omega | (show @Ne Nat _ _; omega)) ti7, up _ _ (by first | omega | (show @Ne Nat _ _; omega)) to7, i17.at fun o e => up _ o (by first | omega | (show @Ne Nat _ _; omega)) e, i27.at fun o e => up _ o (by first | omega | (show @Ne Nat _ _; omega)) e, i37.at fun o e => up _ o (by first | omega | (show @Ne Nat _ _; omega)) e⟩ tA szA fun d o hd e => up d o (by first | omega | (show @Ne Nat _ _; omega)) (k7 d o (by first | omega | (show @Ne Nat _ _; omega)) (by first | omega | (show @Ne Nat _ _; omega)) (by first | omega | (show @Ne Nat _ _; omega)) (by first | omega | (show @Ne Nat _ _; omega)) (by first | omega | (show @Ne Nat _ _; omega)) e)
/-- the first list is at its end -/
theorem stop {j : Nat} {Q : Fin → Shared → Prop} (quiet : A.handled = none) (Z : Zs s.heap n l1 l2 l3 .none j j j a b c) (h1 : l1 < n) (L1 : s.heap.IsList l1 xs) (hx : xs[j]? = none)
    (hE : ∀ g e, (∀ (d : Nat) (o : Obj), (d < n ∨ n + 6 ≤ d) → s.heap.get? d = some o → g.get? d = some o) → (∃ o, g.get? e = some o ∧ o.cls = .type "StopIteration") → E (.ref e) { s with heap := g }) :
    wpAny (model prog w) A (Builtin.«zip.__next__» ⟨[.ref (n + 5)], []⟩) Q E s := by
  obtain ⟨hz, ti, to, i1, i2, i3⟩ := Z
  show wpAny _ _ (field (.ref (n + 5)) 2 >>= _) _ _ _; refine wpAny_bind (wpAny_field hz rfl (x := .bool false) rfl ?_)
  show wpAny _ _ (field (.ref (n + 5)) 3 >>= _) _ _ _; refine wpAny_bind (wpAny_field hz rfl (x := .ref (n + 3)) rfl (wpAny_bind (wpAny_seqItems ti rfl ?_)))
  show wpAny _ _ (Builtin.SmallTypes.ownedTupleIsFree (.ref (n + 5)) >>= _) _ _ _
  refine wpAny_bind ?_; unfold Builtin.SmallTypes.ownedTupleIsFree
  refine wpAny_bind (wpAny_field hz rfl (x := .none) rfl (wpAny_pure ?_)); simp only [if_true]
  refine wpAny_bind (wpAny_rule (wpAny_bind (wpAny_field hz rfl (x := .ref (n + 4)) rfl (wpAny_bind (wpAny_setField_rec hz (by simp) fun g1 z1 s1 => ?_)))))
  replace z1 : IsZip g1 (n + 5) (n + 3) (n + 4) .ellipsis := z1
  refine wpAny_bind ?_; simp only [List.zipIdx_cons, List.zipIdx_nil, List.forIn_cons, List.forIn_nil]
  have k1 : ∀ (d : Nat) (o : Obj), d ≠ n + 5 → s.heap.get? d = some o → g1.get? d = some o := fun d o ne e => s1.extBut d o ne e
  refine wpAny_bind (wpAny_bind (wpAny_onRaise ?_)); show wpAny _ _ (Builtin.SmallTypes.nextOf (.ref n) >>= _) _ _ _
  refine wpAny_bind (wpAny_nextOf_list_end quiet (i1.at fun o e => k1 _ o (by first | omega | (show @Ne Nat _ _; omega)) e) (L1.at fun o e => k1 _ o (by first | omega | (show @Ne Nat _ _; omega)) e) hx fun g2 e s2 he => ?_)
  obtain ⟨oe, e1, e2⟩ := he
  have z2 : IsZip g2 (n + 5) (n + 3) (n + 4) .ellipsis := s2 _ _ (by first | omega | (show @Ne Nat _ _; omega)) z1
  have ne : e ≠ n + 5 := fun z => by
    rw [z, z2] at e1
    cases e1
    simp at e2
  exact wpAny_setField_rec z2 (by simp) fun g3 _ s3 => hE g3 e (fun d o hd x => s3.extBut _ _ (by first | omega | (show @Ne Nat _ _; omega)) (s2 _ _ (by first | omega | (show @Ne Nat _ _; omega)) (k1 d o (by first | omega | (show @Ne Nat _ _; omega)) x))) ⟨oe, s3.extBut _ _ ne e1, e2⟩
abbrev H1 (h : Heap) (l1 : Addr) : Heap := h.push { cls := .type "list_iterator", data := .fields #[.ref l1, .int 0 0] }
abbrev H2 (h : Heap) (l1 l2 : Addr) : Heap := (H1 h l1).push { cls := .type "list_iterator", data := .fields #[.ref l2, .int 0 0] }
abbrev H3 (h : Heap) (l1 l2 l3 : Addr) : Heap := (H2 h l1 l2).push { cls := .type "list_iterator", data := .fields #[.ref l3, .int 0 0] }
abbrev H4 (h : Heap) (l1 l2 l3 : Addr) : Heap := (H3 h l1 l2 l3).push { cls := .type "tuple", data := .seq #[.ref h.objs.size, .ref (H1 h l1).objs.size, .ref (H2 h l1 l2).objs.size] }
abbrev H5 (h : Heap) (l1 l2 l3 : Addr) : Heap := (H4 h l1 l2 l3).push { cls := .type "tuple", data := .seq #[.none, .none, .none] }
abbrev H6 (h : Heap) (l1 l2 l3 : Addr) : Heap := (H5 h l1 l2 l3).push { cls := .type "zip", data := .fields #[.none, .bool false, .bool false, .ref (H3 h l1 l2 l3).objs.size, .ref (H4 h l1 l2 l3).objs.size] }
end
end Z3
namespace L3
open PySem PySem.Spec PyProof.Rows L2 Z3
variable [Tbs]
/-- three lists of one length, walked together -/
def zip3D (xs ys us : List D) : List D := List.zipWith (fun x q => D.tup [x, q.1, q.2]) xs (List.zip ys us)
section
variable {X : Cx} {a b c : Expr} {elts : List Expr} {t : TAd} {p p2 pos tpos : Pos} {kk : Nat}
def iZip3D (t : TAd) : TId := fun E Q => t E fun xs E1 => match xs with
  | [.lst xs, .lst ys, .lst us] => ys.length = xs.length ∧ us.length = xs.length ∧ Q (zip3D xs ys us) E1
  | _ => False
end
end L3
namespace L3
open PySem PySem.Spec PyProof.Rows L2
variable [Tbs]
section
variable {M : Model} {A : Around} {E : Value → Shared → Prop} {s : Shared} {env : Env} {e : Expr} {p pos : Pos}
end
def zip2D (xs ys : List D) : List D := List.zipWith (fun x y => D.tup [x, y]) xs ys
section
variable {X : Cx} {a b e : Expr} {elts : List Expr} {t : TAd} {te : TEd} {p p2 sp pos tpos : Pos} {kk : Nat}
def iZip2D (t : TAd) : TId := fun E Q => t E fun xs E1 => match xs with
  | [.lst xs, .lst ys] => ys.length = xs.length ∧ Q (zip2D xs ys) E1
  | _ => False
def iZipSD (te : TEd) : TId := fun E Q => te E fun x E1 => match x with
  | .tup [.lst xs, .lst ys] => ys.length = xs.length ∧ Q (zip2D xs ys) E1
  | _ => False
end
section
variable {X : Cx} {e : Expr} {te : TEd} {pos : Pos}
def tExtD (i : Nat) (te : TEd) : TSd := fun D E => ownL E i ∧ te E fun x E1 => match E1[i]?, x with
  | some (.ow b (.ol xs)), .lst ys => xs.length + ys.length ≤ sizeLine ∧ D.nx (E1.set i (.ow b (.ol (xs ++ ys))))
  | _, _ => False
end
section
variable {X : Cx}
def gSubD (j : Nat) (ti : TEd) : TGd := fun y E Q => ownL E j ∧ ti E fun z E2 => match E2[j]?, z with
  | some (.ow b (.ol xs)), .int n => ∃ m, ixN xs.length n = some m ∧ Q (E2.set j (.ow b (.ol (xs.set m y))))
  | _, _ => False
end
end L3
namespace Z2
open PySem PyProof.Rows
abbrev Duo (h : Heap) (T : Addr) (a b : Value) : Prop := h.get? T = some { cls := .type "tuple", data := .seq #[a, b] }
def Bx (t : Bool) (h : Heap) (a : Nat) (xs : Array Value) : Prop := if t then h.IsTuple a xs else h.IsList a xs
def It (t : Bool) (h : Heap) (i a k : Nat) : Prop := if t then h.IsTupleIter i a k else h.IsListIter i a k
theorem Bx.at {t : Bool} {h g : Heap} {a : Nat} {xs : Array Value} (x : Bx t h a xs) (e : ∀ o, h.get? a = some o → g.get? a = some o) : Bx t g a xs := by
  cases t
  · exact Heap.IsList.at (show h.IsList a xs from x) e
  · obtain ⟨o, ho, r⟩ := (show h.IsTuple a xs from x)
    exact ⟨o, e _ ho, r⟩
theorem Bx.lt {t : Bool} {h : Heap} {a : Nat} {xs : Array Value} (x : Bx t h a xs) : a < h.objs.size := by
  cases t
  · obtain ⟨o, ho, r⟩ := (show h.IsList a xs from x)
    exact Heap.lt_size ho
  · obtain ⟨o, ho, r⟩ := (show h.IsTuple a xs from x)
    exact Heap.lt_size ho
theorem It.at {t : Bool} {h g : Heap} {i a k : Nat} (x : It t h i a k) (e : ∀ o, h.get? i = some o → g.get? i = some o) : It t g i a k := by
  cases t
  · exact Heap.IsListIter.at (show h.IsListIter i a k from x) e
  · exact Heap.IsTupleIter.at (show h.IsTupleIter i a k from x) e
theorem It.ob {t : Bool} {h : Heap} {i a k : Nat} (x : It t h i a k) : ∃ o vs, h.get? i = some o ∧ o.data = .fields vs := by
  cases t
  · obtain ⟨o, e, _, d⟩ := (show h.IsListIter i a k from x)
    exact ⟨o, _, e, d⟩
  · obtain ⟨o, e, _, d⟩ := (show h.IsTupleIter i a k from x)
    exact ⟨o, _, e, d⟩
structure Zs (t1 t2 : Bool) (h : Heap) (n l1 l2 : Nat) (f : Value) (j1 j2 : Nat) (a b : Value) : Prop where
  z : IsZip h (n + 4) (n + 2) (n + 3) f
  ti : Duo h (n + 2) (.ref n) (.ref (n + 1))
  to : Duo h (n + 3) a b
  i1 : It t1 h n l1 j1
  i2 : It t2 h (n + 1) l2 j2
section
variable {prog : Program} {w : World} {A : Around} {E : Value → Shared → Prop} {s : Shared} {n l1 l2 : Nat} {a b : Value} {xs ys : Array Value} {t1 t2 : Bool}
theorem nx_item {t : Bool} {it l i : Nat} {items : Array Value} {x : Value} {Q : Value → Shared → Prop} (hit : It t s.heap it l i) (hl : Bx t s.heap l items) (hx : items[i]? = some x)
    (hQ : ∀ g, It t g it l (i + 1) → Heap.SameBut it s.heap g → Q x { s with heap := g }) : wpAny (model prog w) A (Builtin.SmallTypes.nextOf (.ref it)) Q E s := by
  cases t
  · exact wpAny_nextOf_list_item hit hl hx hQ
  · exact wpAny_nextOf_tuple_item hit hl hx hQ
theorem nx_end {t : Bool} {it l i : Nat} {items : Array Value} {Q : Value → Shared → Prop} (hh : A.handled = none) (hit : It t s.heap it l i) (hl : Bx t s.heap l items) (hx : items[i]? = none)
    (hE : ∀ g e, Heap.ExtBut it s.heap g → (∃ o, g.get? e = some o ∧ o.cls = .type "StopIteration") → E (.ref e) { s with heap := g }) : wpAny (model prog w) A (Builtin.SmallTypes.nextOf (.ref it)) Q E s := by
  cases t
  · exact wpAny_nextOf_list_end hh hit hl hx hE
  · exact wpAny_nextOf_tuple_end hh hit hl hx hE
theorem upd_duo {T : Addr} {a b x : Value} {k : Nat} {Q : Unit → Shared → Prop} (hT : Duo s.heap T a b)
    (h : ∀ g, g.get? T = some { cls := .type "tuple", data := .seq ((#[a, b] : Array Value).setIfInBounds k x) } → Heap.SameBut T s.heap g → Q () { s with heap := g }) : wpAny (model prog w) A (updateSeq T (·.setIfInBounds k x)) Q E s := by
  refine wpAny_updateSeq hT rfl (h _ (by rw [Heap.get?_update_self _ hT rfl]; simp [Obj.mapSeq]) (Heap.SameBut.update ..))
theorem item {j : Nat} {x y : Value} {Q : Value → Shared → Prop} (Z : Zs t1 t2 s.heap n l1 l2 .none j j a b) (h1 : l1 < n) (h2 : l2 < n) (L1 : Bx t1 s.heap l1 xs) (L2 : Bx t2 s.heap l2 ys)
    (hx : xs[j]? = some x) (hy : ys[j]? = some y)
    (hQ : ∀ g, Zs t1 t2 g n l1 l2 (rawInt s.heap.objs.size) (j + 1) (j + 1) x y → Duo g s.heap.objs.size x y → g.objs.size = s.heap.objs.size + 1 → (∀ (d : Nat) (o : Obj), (d < n ∨ n + 5 ≤ d) → s.heap.get? d = some o → g.get? d = some o) → Q (.ref s.heap.objs.size) { s with heap := g }) :
    wpAny (model prog w) A (Builtin.«zip.__next__» ⟨[.ref (n + 4)], []⟩) (fun fin t => ∃ v, fin = .done (.ret v) ∧ Q v t) E s := by
  obtain ⟨hz, ti, to, i1, i2⟩ := Z
  show wpAny _ _ (field (.ref (n + 4)) 2 >>= _) _ _ _; refine wpAny_bind (wpAny_field hz rfl (x := .bool false) rfl ?_)
  show wpAny _ _ (field (.ref (n + 4)) 3 >>= _) _ _ _; refine wpAny_bind (wpAny_field hz rfl (x := .ref (n + 2)) rfl (wpAny_bind (wpAny_seqItems ti rfl ?_)))
  show wpAny _ _ (Builtin.SmallTypes.ownedTupleIsFree (.ref (n + 4)) >>= _) _ _ _
  refine wpAny_bind ?_; unfold Builtin.SmallTypes.ownedTupleIsFree
  refine wpAny_bind (wpAny_field hz rfl (x := .none) rfl (wpAny_pure ?_)); simp only [if_true]
  refine wpAny_bind (wpAny_rule (wpAny_bind (wpAny_field hz rfl (x := .ref (n + 3)) rfl (wpAny_bind (wpAny_setField_rec hz (by simp) fun g1 z1 s1 => ?_)))))
  replace z1 : IsZip g1 (n + 4) (n + 2) (n + 3) .ellipsis := z1
  refine wpAny_bind ?_; simp only [List.zipIdx_cons, List.zipIdx_nil, List.forIn_cons, List.forIn_nil]
  have k1 : ∀ (d : Nat) (o : Obj), d ≠ n + 4 → s.heap.get? d = some o → g1.get? d = some o := fun d o ne e => s1.extBut d o ne e
  -- the first
  refine wpAny_bind (wpAny_bind (wpAny_onRaise ?_)); show wpAny _ _ (Builtin.SmallTypes.nextOf (.ref n) >>= _) _ _ _
  refine wpAny_bind (nx_item (i1.at fun o e => k1 _ o (by first | omega | (show @Ne Nat _ _; omega)) e) (L1.at fun o e => k1 _ o (by first | omega | (show @Ne Nat _ _; omega)) e) hx fun g2 i1b s2 => wpAny_pure ?_)
  have k2 : ∀ (d : Nat) (o : Obj), d ≠ n + 4 → d ≠ n → s.heap.get? d = some o → g2.get? d = some o := fun d o n5 n0 e => s2.extBut d o n0 (k1 d o n5 e)
  have to2 : Duo g2 (n + 3) a b := k2 _ _ (by first | omega | (show @Ne Nat _ _; omega)) (by first | omega | (show @Ne Nat _ _; omega)) to
  refine wpAny_bind (wpAny_seqItems to2 rfl (wpAny_bind (upd_duo to2 fun g3 to3 s3 => ?_)))
  replace to3 : Duo g3 (n + 3) x b := to3
  refine wpAny_bind (wpAny_letGo (wpAny_pure ?_))
  have k3 : ∀ (d : Nat) (o : Obj), d ≠ n + 4 → d ≠ n → d ≠ n + 3 → s.heap.get? d = some o → g3.get? d = some o := fun d o n5 n0 n4 e => s3.extBut d o n4 (k2 d o n5 n0 e)
  -- the second
  refine wpAny_bind (wpAny_bind (wpAny_onRaise ?_)); show wpAny _ _ (Builtin.SmallTypes.nextOf (.ref (n + 1)) >>= _) _ _ _
  refine wpAny_bind (nx_item (i2.at fun o e => k3 _ o (by first | omega | (show @Ne Nat _ _; omega)) (by first | omega | (show @Ne Nat _ _; omega)) (by first | omega | (show @Ne Nat _ _; omega)) e) (L2.at fun o e => k3 _ o (by first | omega | (show @Ne Nat _ _; omega)) (by first | omega | (show @Ne Nat _ _; omega)) (by first | omega | (show @Ne Nat _ _; omega)) e) hy fun g4 i2b s4 => wpAny_pure ?_)
  have to4 : Duo g4 (n + 3) x b := s4.extBut _ _ (by first | omega | (show @Ne Nat _ _; omega)) to3
  refine wpAny_bind (wpAny_seqItems to4 rfl (wpAny_bind (upd_duo to4 fun g5 to5 s5 => ?_)))
  replace to5 : Duo g5 (n + 3) x y := to5
  refine wpAny_bind (wpAny_letGo (wpAny_pure (wpAny_pure ?_)))
  have k5 : ∀ (d : Nat) (o : Obj), d ≠ n + 4 → d ≠ n → d ≠ n + 3 → d ≠ n + 1 → s.heap.get? d = some o → g5.get? d = some o := fun d o n5 n0 n4 n1 e => s5.extBut d o n4 (s4.extBut d o n1 (k3 d o n5 n0 n4 e))
  have z5 : IsZip g5 (n + 4) (n + 2) (n + 3) .ellipsis := s5.extBut _ _ (by first | omega | (show @Ne Nat _ _; omega)) (s4.extBut _ _ (by first | omega | (show @Ne Nat _ _; omega)) (s3.extBut _ _ (by first | omega | (show @Ne Nat _ _; omega)) (s2.extBut _ _ (by first | omega | (show @Ne Nat _ _; omega)) z1)))
  have i15 : It t1 g5 n l1 (j + 1) := i1b.at fun o e => s5.extBut _ _ (by first | omega | (show @Ne Nat _ _; omega)) (s4.extBut _ _ (by first | omega | (show @Ne Nat _ _; omega)) (s3.extBut _ _ (by first | omega | (show @Ne Nat _ _; omega)) e))
  have i25 : It t2 g5 (n + 1) l2 (j + 1) := i2b.at fun o e => s5.extBut _ _ (by first | omega | (show @Ne Nat _ _; omega)) e
  have ti5 : Duo g5 (n + 2) (.ref n) (.ref (n + 1)) := k5 _ _ (by first | omega | (show @Ne Nat _ _; omega)) (by first | omega | (show @Ne Nat _ _; omega)) (by first | omega | (show @Ne Nat _ _; omega)) (by first | omega | (show @Ne Nat _ _; omega)) ti
  have sz : g5.objs.size = s.heap.objs.size := by rw [s5.1, s4.1, s3.1, s2.1, s1.1]
  have zlt : n + 4 < g5.objs.size := Heap.lt_size z5
  -- the tuple is handed out
  refine wpAny_bind (wpAny_seqItems to5 rfl (wpAny_bind (wpAny_newTuple ?_)))
  show wpAny _ _ (Builtin.SmallTypes.ownedTupleHandOut (.ref (n + 4)) (.ref g5.objs.size) >>= _) _ _ _
  refine wpAny_bind ?_; unfold Builtin.SmallTypes.ownedTupleHandOut
  have z8 : IsZip (g5.push { cls := .type "tuple", data := .seq #[x, y] }) (n + 4) (n + 2) (n + 3) .ellipsis := Heap.get?_push_of_some _ z5
  refine wpAny_bind (wpAny_setField_rec z8 (by simp) fun g9 z9 s9 => ?_)
  replace z9 : IsZip g9 (n + 4) (n + 2) (n + 3) (rawInt g5.objs.size) := z9
  refine wpAny_setField_rec z9 (by simp) fun gA zA sA => ?_
  replace zA : IsZip gA (n + 4) (n + 2) (n + 3) (rawInt g5.objs.size) := zA
  have up : ∀ (d : Nat) (o : Obj), d ≠ n + 4 → g5.get? d = some o → gA.get? d = some o := fun d o n5 e => sA.extBut _ _ n5 (s9.extBut _ _ n5 (Heap.get?_push_of_some _ e))
  have tA : Duo gA g5.objs.size x y := sA.extBut _ _ (Nat.ne_of_gt zlt) (s9.extBut _ _ (Nat.ne_of_gt zlt) (Heap.get?_push_size _ rfl))
  have szA : gA.objs.size = g5.objs.size + 1 := by rw [sA.1, s9.1, Heap.size_push]
  rw [sz] at zA tA szA
  refine wpAny_pure ⟨_, rfl, ?_⟩
  show Q (.ref g5.objs.size) _
  rw [sz]
  exact hQ gA ⟨zA, up _ _ (by first | omega | (show @Ne Nat _ _; omega)) ti5, up _ _ (by first | omega | (show @Ne Nat _ _; omega)) to5, i15.at fun o e => up _ o (by first | omega | (show @Ne Nat _ _; omega)) e, i25.at fun o e => up _ o (by first | omega | (show @Ne Nat _ _; omega)) e⟩ tA szA fun d o hd e => up d o (by first | omega | (show @Ne Nat _ _; omega)) (k5 d o (by first | omega | (show @Ne Nat _ _; omega)) (by first | omega | (show @Ne Nat _ _; omega)) (by first | omega | (show @Ne Nat _ _; omega)) (by first | omega | (show @Ne Nat _ _; omega)) e)
/-- the first is at its end -/
theorem stop {j : Nat} {Q : Fin → Shared → Prop} (quiet : A.handled = none) (Z : Zs t1 t2 s.heap n l1 l2 .none j j a b) (h1 : l1 < n) (L1 : Bx t1 s.heap l1 xs) (hx : xs[j]? = none)
    (hE : ∀ g e, (∀ (d : Nat) (o : Obj), (d < n ∨ n + 5 ≤ d) → s.heap.get? d = some o → g.get? d = some o) → (∃ o, g.get? e = some o ∧ o.cls = .type "StopIteration") → E (.ref e) { s with heap := g }) :
    wpAny (model prog w) A (Builtin.«zip.__next__» ⟨[.ref (n + 4)], []⟩) Q E s := by
  obtain ⟨hz, ti, to, i1, i2⟩ := Z
  show wpAny _ _ (field (.ref (n + 4)) 2 >>= _) _ _ _; refine wpAny_bind (wpAny_field hz rfl (x := .bool false) rfl ?_)
  show wpAny _ _ (field (.ref (n + 4)) 3 >>= _) _ _ _; refine wpAny_bind (wpAny_field hz rfl (x := .ref (n + 2)) rfl (wpAny_bind (wpAny_seqItems ti rfl ?_)))
  show wpAny _ _ (Builtin.SmallTypes.ownedTupleIsFree (.ref (n + 4)) >>= _) _ _ _
  refine wpAny_bind ?_; unfold Builtin.SmallTypes.ownedTupleIsFree
  refine wpAny_bind (wpAny_field hz rfl (x := .none) rfl (wpAny_pure ?_)); simp only [if_true]
  refine wpAny_bind (wpAny_rule (wpAny_bind (wpAny_field hz rfl (x := .ref (n + 3)) rfl (wpAny_bind (wpAny_setField_rec hz (by simp) fun g1 z1 s1 => ?_)))))
  replace z1 : IsZip g1 (n + 4) (n + 2) (n + 3) .ellipsis := z1
  refine wpAny_bind ?_; simp only [List.zipIdx_cons, List.zipIdx_nil, List.forIn_cons, List.forIn_nil]
  have k1 : ∀ (d : Nat) (o : Obj), d ≠ n + 4 → s.heap.get? d = some o → g1.get? d = some o := fun d o ne e => s1.extBut d o ne e
  refine wpAny_bind (wpAny_bind (wpAny_onRaise ?_)); show wpAny _ _ (Builtin.SmallTypes.nextOf (.ref n) >>= _) _ _ _
  refine wpAny_bind (nx_end quiet (i1.at fun o e => k1 _ o (by first | omega | (show @Ne Nat _ _; omega)) e) (L1.at fun o e => k1 _ o (by first | omega | (show @Ne Nat _ _; omega)) e) hx fun g2 e s2 he => ?_)
  obtain ⟨oe, e1, e2⟩ := he
  have z2 : IsZip g2 (n + 4) (n + 2) (n + 3) .ellipsis := s2 _ _ (by first | omega | (show @Ne Nat _ _; omega)) z1
  have ne : e ≠ n + 4 := fun z => by
    rw [z, z2] at e1
    cases e1
    simp at e2
  exact wpAny_setField_rec z2 (by simp) fun g3 _ s3 => hE g3 e (fun d o hd x => s3.extBut _ _ (by first | omega | (show @Ne Nat _ _; omega)) (s2 _ _ (by first | omega | (show @Ne Nat _ _; omega)) (k1 d o (by first | omega | (show @Ne Nat _ _; omega)) x))) ⟨oe, s3.extBut _ _ ne e1, e2⟩
abbrev itO (t : Bool) (l : Addr) : Obj := { cls := .type (if t then "tuple_iterator" else "list_iterator"), data := .fields #[.ref l, .int 0 0] }
abbrev H1 (t1 : Bool) (h : Heap) (l1 : Addr) : Heap := h.push (itO t1 l1)
abbrev H2 (t1 t2 : Bool) (h : Heap) (l1 l2 : Addr) : Heap := (H1 t1 h l1).push (itO t2 l2)
abbrev H4 (t1 t2 : Bool) (h : Heap) (l1 l2 : Addr) : Heap := (H2 t1 t2 h l1 l2).push { cls := .type "tuple", data := .seq #[.ref h.objs.size, .ref (H1 t1 h l1).objs.size] }
abbrev H5 (t1 t2 : Bool) (h : Heap) (l1 l2 : Addr) : Heap := (H4 t1 t2 h l1 l2).push { cls := .type "tuple", data := .seq #[.none, .none] }
abbrev H6 (t1 t2 : Bool) (h : Heap) (l1 l2 : Addr) : Heap := (H5 t1 t2 h l1 l2).push { cls := .type "zip", data := .fields #[.none, .bool false, .bool false, .ref (H2 t1 t2 h l1 l2).objs.size, .ref (H4 t1 t2 h l1 l2).objs.size] }
theorem Bx.push {t : Bool} {h : Heap} {a : Nat} {xs : Array Value} (x : Bx t h a xs) (o : Obj) : Bx t (h.push o) a xs := x.at fun _ e => Heap.get?_push_of_some _ e
end
end Z2
namespace L3
open PySem PySem.Spec PyProof.Rows L2 Z2
variable [Tbs]
def SqX (t : Bool) (K : PySem.W.Frag) (H : Hp) (a : Addr) (xs : List V) : Prop := if t then SqT K H a xs else SqL K H a xs
theorem SqX.inj {X : Cx} {pins : List (Addr × Obj)} {s : Shared} {σ : L2.St} {H : Hp} {t : Bool} {a : Addr} {xs ys : List V} (I : Inv X pins σ H s) (p : SqX t X.K H a xs) (q : SqX t X.K H a ys) : xs = ys := by
  cases t
  · exact I.list_inj p q
  · exact I.tuple_inj p q
theorem SqX.get {X : Cx} {pins : List (Addr × Obj)} {s : Shared} {σ : L2.St} {H : Hp} {t : Bool} {a : Addr} {xs : List V} (I : Inv X pins σ H s) (p : SqX t X.K H a xs) : ∃ its : List Value, Vals xs its ∧ Bx t s.heap a its.toArray := by
  cases t
  · obtain ⟨its, rv, p1, _⟩ := I.list p
    exact ⟨its, rv, p1.isList⟩
  · obtain ⟨its, rv, p1, _⟩ := I.tuple p
    exact ⟨its, rv, p1⟩
section
variable {X : Cx} {a b e : Expr} {elts : List Expr} {t : TAd} {te : TEd} {p p2 sp pos tpos : Pos} {kk : Nat}
def iZipXD (t : TAd) : TId := fun E Q => t E fun xs E1 => match xs with
  | [.lst xs, .lst ys] => ys.length = xs.length ∧ Q (zip2D xs ys) E1
  | [.lst xs, .tup ys] => ys.length = xs.length ∧ Q (zip2D xs ys) E1
  | [.tup xs, .lst ys] => ys.length = xs.length ∧ Q (zip2D xs ys) E1
  | [.tup xs, .tup ys] => ys.length = xs.length ∧ Q (zip2D xs ys) E1
  | _ => False
end
end L3
namespace TupNum
open PySem PyProof.Rows
open Sem (wp)
section
variable {prog : Program} {w : World} {A : Around} {E : Value → Shared → Prop} {s : Shared} {l : Addr} {xs : Array (Int × Tok)}
theorem iter_intTup {Q : Value → Shared → Prop} (hl : s.heap.IsTuple l (intItems xs))
    (h : ∀ s₂ : Shared, s₂ = { s with heap := s.heap.push { cls := .type "tuple_iterator", data := .fields #[.ref l, .int 0 0] } } →
      (s₂.heap.IsTupleIter s.heap.objs.size l 0 ∧ s₂.heap.IsTuple l (intItems xs)) → (∀ b ∈ [s.heap.objs.size, l], b < s₂.heap.objs.size) → l ≠ s.heap.objs.size → Q (.ref s.heap.objs.size) s₂) :
    wpAny (model prog w) A (pyIter (.ref l)) Q E s := by
  have hlt : l < s.heap.objs.size := by obtain ⟨_, e, _⟩ := hl; exact Heap.lt_size e
  obtain ⟨o, ho, r⟩ := id hl
  refine wpAny_pyIter_tuple hl (h _ rfl ⟨⟨_, Heap.get?_push_size _ rfl, rfl, rfl⟩, ⟨o, Heap.get?_push_of_some _ ho, r⟩⟩ (fun b hb => ?_) (Nat.ne_of_lt hlt))
  show b < (s.heap.push _).objs.size
  rw [Heap.size_push]
  rcases List.mem_cons.mp hb with rfl | hb
  · exact Nat.lt_succ_self _
  · rcases List.mem_cons.mp hb with rfl | hb
    · exact Nat.lt_succ_of_lt hlt
    · cases hb
theorem old_keptT {h' : Heap} (hk : ∀ b o, b ∉ [s.heap.objs.size] → (s.heap.push { cls := .type "tuple_iterator", data := .fields #[.ref l, .int 0 0] }).get? b = some o → h'.get? b = some o) :
    ∀ b o, s.heap.get? b = some o → h'.get? b = some o := fun b o e => by
  refine hk b o (fun hm => ?_) (Heap.get?_push_of_some _ e)
  rcases List.mem_cons.mp hm with e1 | hm
  · exact absurd (e1 ▸ Heap.lt_size e) (Nat.lt_irrefl _)
  · cases hm
theorem min_intTup {Q : Value → Shared → Prop} (hh : A.handled = none) (hl : s.heap.IsTuple l (intItems xs)) (hne : 0 < xs.size)
    (h : ∀ v h' tk, (intItems xs)[argBest (fun i j => decide (numAt xs i < numAt xs j)) (xs.size - 1)]? = some v → (∀ b o, s.heap.get? b = some o → h'.get? b = some o) → Q v { s with heap := h', toks := tk }) :
    wpAny (model prog w) A (call (.builtin "min") [.ref l]) Q E s := by
  refine call_min_walk (iter_intTup hl fun s₂ e st hfp hlI => ?_)
  subst e
  refine ⟨_, _, _, _, _, _, _, rfl, Walks.tuple (A := A.in1) hh _ l hlI (intItems xs), st, hfp, by simpa [intItems] using hne, CmpOf.ints_lt (numAt xs) (fun _ _ => intItems_at), fun v h' tk hP hk => ?_⟩
  exact h v h' tk (by simpa [intItems] using hP) (old_keptT hk)
end
end TupNum
namespace L3
open PySem PySem.Spec PyProof.Rows L2
variable [Tbs]
section
variable {prog : Program} {w : World} {A : Around} {E : Value → Shared → Prop} {s : Shared} {l : Addr} {its : List Value} {ns : List Int} {Q : Value → Shared → Prop}
theorem min_rawT (hh : A.handled = none) (hl : s.heap.IsTuple l its.toArray) (hi : IntsAre its ns) (hne : 0 < ns.length)
    (h : ∀ h' tk M t', (∀ b o, s.heap.get? b = some o → h'.get? b = some o) → M ∈ ns → (∀ a, a ∈ ns → M ≤ a) → Q (.int M t') { s with heap := h', toks := tk }) : wpAny (model prog w) A (call (.builtin "min") [.ref l]) Q E s := by
  obtain ⟨xs, e⟩ := hi.allInts.items
  have hn : numsOf (intItems xs).toList = ns := by rw [← e]; exact hi.numsOf
  rw [nums_intItems] at hn
  subst hn
  rw [e] at hl
  have hsz : 0 < xs.size := by simpa using hne
  refine TupNum.min_intTup hh hl hsz fun v h' tk hv hk => ?_
  obtain ⟨t, rfl⟩ := intItems_at hv
  obtain ⟨h1, h2⟩ := argBest_lt (numAt xs) (xs.size - 1)
  refine h h' tk _ t hk ?_ fun a ha => ?_
  · rw [numAt_eq]; exact PySem.getD_mem (by rw [List.length_map, Array.length_toList]; omega)
  · obtain ⟨j, hj, rfl⟩ := mem_getD ha
    rw [List.length_map, Array.length_toList] at hj
    rw [← numAt_eq]; exact h2 j (by omega)
end
section
variable {X : Cx}
def rMinX (K : PySem.W.Frag) : List V → Hp → VK → Prop := fun vs H Q => ∃ (a : Addr) (ns : List Int), vs = [V.ref a] ∧ (SqL K H a (ns.map V.int) ∨ SqT K H a (ns.map V.int)) ∧ 0 < ns.length ∧ ∀ m, m ∈ ns → (∀ y, y ∈ ns → m ≤ y) → Q (.int m) H
theorem cr_minX (hc : X.calm = true) : CallR X (.builtin "min") (rMinX X.K) := by
  intro pins s σ H vs us Q I r h
  obtain ⟨a, ns, rfl, hs | hs, hne, q⟩ := h
  · obtain ⟨its, rv, hl, _⟩ := I.list hs
    rw [Vals.ref1 r]
    exact min_raw (I.ok.hd hc) hl.isList rv.ints hne fun h' tk m t' hk h1 h2 => ⟨.int _, H, I.kept hk, ⟨_, rfl⟩, q m h1 h2⟩
  · obtain ⟨its, rv, hl, _⟩ := I.tuple hs
    rw [Vals.ref1 r]
    exact min_rawT (I.ok.hd hc) hl rv.ints hne fun h' tk m t' hk h1 h2 => ⟨.int _, H, I.kept hk, ⟨_, rfl⟩, q m h1 h2⟩
variable {a : Expr} {t : TAd} {p pos : Pos}
def rbMaxX : RB := fun ds E Q => match ds with
  | [.lst xs] => ∃ ns : List Int, xs = ns.map D.int ∧ 0 < ns.length ∧ ∀ m, m ∈ ns → (∀ y, y ∈ ns → y ≤ m) → Q (.int m) E
  | [.tup xs] => ∃ ns : List Int, xs = ns.map D.int ∧ 0 < ns.length ∧ ∀ m, m ∈ ns → (∀ y, y ∈ ns → y ≤ m) → Q (.int m) E
  | _ => False
def rbMinX : RB := fun ds E Q => match ds with
  | [.lst xs] => ∃ ns : List Int, xs = ns.map D.int ∧ 0 < ns.length ∧ ∀ m, m ∈ ns → (∀ y, y ∈ ns → m ≤ y) → Q (.int m) E
  | [.tup xs] => ∃ ns : List Int, xs = ns.map D.int ∧ 0 < ns.length ∧ ∀ m, m ∈ ns → (∀ y, y ∈ ns → m ≤ y) → Q (.int m) E
  | _ => False
def rbSumX : RB := fun ds E Q => match ds with
  | [.lst xs] => ∃ ns : List Int, xs = ns.map D.int ∧ Q (.int ns.sum) E
  | [.tup xs] => ∃ ns : List Int, xs = ns.map D.int ∧ Q (.int ns.sum) E
  | _ => False
theorem d_minX (hc : X.calm = true) (hm : X.mg "min" = none) (ha : PAd X [a] t) (hg : Gl X "min" := by rfl) (he : starEach [a] X.env = (false, eval a X.env) :: starEach [] X.env := by rfl) : PEd X (.Call (.Name "min" p) [a] [] pos) (tCBd rbMinX t) :=
  d_callB (cr_minX hc) (fun en Hf H F E σ vs ds Q Qd S rx q k => by
    unfold rbMinX at q
    split at q
    · obtain ⟨v, rfl, r⟩ := rx.one
      cases r with | lst h l =>
      obtain ⟨ns, rfl, h0, q⟩ := q
      rw [l.ofInts] at h
      exact ⟨_, ns, rfl, .inl (.inl (.inl (S.sf _ _ h))), h0, fun m hm hle => k _ _ _ _ _ _ (Same.refl _) S (.int _) (q m hm hle)⟩
    · obtain ⟨v, rfl, r⟩ := rx.one
      cases r with | tup h l =>
      obtain ⟨ns, rfl, h0, q⟩ := q
      rw [l.ofInts] at h
      exact ⟨_, ns, rfl, .inr (Same.sqT S.sf h), h0, fun m hm hle => k _ _ _ _ _ _ (Same.refl _) S (.int _) (q m hm hle)⟩
    · exact q.elim) hm PyProof.Rows.boot_min ha hg (by decide) (by decide) he
end
end L3
namespace L3
open PySem L2 PySem.Spec PyProof.Rows PySem.W
variable [Tbs]
theorem units65 {k : Nat} {A : Around} (r : Room k A) : A.units + 65 < cLine := by have := r.un; omega
section
variable {X : Cx} {a b : Expr} {ta tb : TEd}
def tIndexD (ta tb : TEd) : TEd := fun E Q => ta E fun x E1 => match x with
  | .lst es => tb E1 fun e E2 => ((D.lst es).ok ∧ e.ok) ∧ ∃ (j : Nat) (z : D), es[j]? = some z ∧ D.eqv z e = true ∧ (∀ (m : Nat) (z' : D), m < j → es[m]? = some z' → D.eqv z' e = false) ∧ Q (.int (j : Nat)) E2
  | _ => False
end
def rLenS (w : World) : List V → Hp → VK → Prop := fun vs H Q => ∃ (a : Addr) (S : Int → Bool) (n : Nat), vs = [V.ref a] ∧ H a = some (SetO w a S n) ∧ ∀ ns : List Int, ns.Nodup → (∀ k : Int, k ∈ ns ↔ S k = true) → Q (.int (ns.length : Nat)) H
theorem cr_lenS {X : Cx} : CallR X (.builtin "len") (rLenS X.w) := by
  intro pins s σ H vs us Q I r h
  obtain ⟨a, S, n, rfl, ha, q⟩ := h
  obtain ⟨o, es, ep, tb, ho, hex, hd, g, nd, hm, hb, hf, hn, hr, hl⟩ := setO_get I ha
  rw [Vals.ref1 r]
  have len : (es.toList.map keyOf).length = es.size := by simp
  have q := q (es.toList.map keyOf) nd (fun k => (hm k).symm)
  rw [len] at q
  exact PySem.call_len_set ho hex hd hf (by unfold scanBound at hb; omega) ⟨.int (es.size : Nat), H, I.tok _, ⟨_, rfl⟩, q⟩
def tLenSetD (te : TEd) : TEd := fun E Q => te E fun x E1 => ∃ ns : List Int, x = .lst (ns.map D.int) ∧ ns.length + 1 < scanBound ∧ ∀ out : List Int, out.Nodup → (∀ k, k ∈ out ↔ k ∈ ns) → Q (.int (out.length : Nat)) E1
section
variable {X : Cx} {e : Expr} {te : TEd} {p p' pos pos' : Pos}
theorem d_lenSetI (hc : X.calm = true) (hm : X.mg "len" = none) (hm2 : X.mg "set" = none) (he : PEd X e te) (hg : Gl X "len" := by rfl) (hg2 : Gl X "set" := by rfl)
    (na : starEach [.Call (.Name "set" p') [e] [] pos'] X.env = (false, eval (.Call (.Name "set" p') [e] [] pos') X.env) :: starEach [] X.env := by rfl) (nb : starEach [e] X.env = (false, eval e X.env) :: starEach [] X.env := by rfl) :
    PEd X (.Call (.Name "len" p) [.Call (.Name "set" p') [e] [] pos'] [] pos) (tLenSetD te) :=
  pe_imp (pe_callB cr_lenS hg hm PySem.boot_len (pa_cons (pe_callTy (cr_setI hc) hg2 hm2 PyProof.Rows.boot_set (pa_cons he pa_nil nb) (by decide) (by decide) nb) pa_nil na) (by decide) (by decide) na) fun σ H Q ⟨en, Hf, F, E, Qd, S, h, k⟩ =>
    ⟨en, Hf, F, E, _, S, h, fun v1 H1 Hf1 F1 E1 x s1 S1 r1 h1 => by
      obtain ⟨ns, rfl, few, q⟩ := h1
      cases r1 with | lst hl l =>
      rw [l.ofInts] at hl
      refine ⟨_, ns, rfl, .inl (.inl (S1.sf _ _ hl)), few, fun a c na => ⟨a, _, c, rfl, upd_same, fun out nd mem => ?_⟩⟩
      have S2 := S1.new (SetO X.w a (fun j => decide (j ∈ ns)) c) na
      exact k _ _ _ _ _ _ (s1.trans (same_upd (o := SetO X.w a (fun j => decide (j ∈ ns)) c) (S1.sf.free na))) S2 (.int _) (q out nd fun k => by rw [mem k, decide_eq_true_iff])⟩
end
end L3
namespace L3
open PySem L2 PySem.Spec PyProof.Rows PySem.W
variable [Tbs]
section
variable {K : PySem.W.Frag} {te : TEd} {tt : TTd} {g : TGd} {vs : List Nat}
/-- the new list D stands by itself -/
def LcEnd (K : PySem.W.Frag) (en : Et) (σ : L2.St) (Hf : Hp) (Qd : List D → En → Prop) (Q : V → Hp → Prop) : Prop := ∀ Hf' H' F' E' D ws acc, Same Hf Hf' → Sat K (en.prot D (.lst ws)) Hf' H' F' E' σ → en.Pr D = none → en.H0 D = none → RepL K Hf' ws acc → Qd acc E' → Q (.ref D) H'
def tLcN (ti : TId) (g : TGd) (tt : TTd) (te : TEd) (vs : List Nat) : TNd := fun E Q => ti E fun xs E1 => lcD xs g tt te vs E1 Q
def tLcON (j : Nat) (g : TGd) (tt : TTd) (te : TEd) (vs : List Nat) : TNd := fun E Q => match E[j]? with
  | some (.ow false (.ol xs)) => lcD xs g tt te vs (E.set j .un) fun acc E2 => canSet E2 j ∧ Q acc (E2.set j (.ow false (.ol xs)))
  | _ => False
end
section
variable {X : Cx} {elt tg iter a b : Expr} {ifs : List Expr} {ta tb te : TEd} {tt : TTd} {g : TGd} {pos p : Pos} {vs : List Nat}
theorem LcEnd.store {K : PySem.W.Frag} {en : Et} {Hf0 : Hp} {σ : L2.St} {i : Nat} {Qd : En → Prop} {Q : L2.St → Hp → Prop}
    (k1 : ∀ σ' H' Hf' F' E', Same Hf0 Hf' → Sat K en Hf' H' F' E' σ' → Qd E' → Q σ' H') :
    LcEnd K en σ Hf0 (fun acc E' => canSet E' i ∧ Qd (E'.set i (.ow false (.ol acc)))) (fun v H' => Q (σ.set i (some v)) H') := fun Hf' H' F' E' D ws acc s S d1 d2 r q =>
  k1 _ _ _ _ _ s (S.keep (ow := .ol acc) d1 d2 q.1 ⟨D, ws, rfl, rfl, S.sp D _ (show upd en.Pr D (.lst ws) D = some (.lst ws) from upd_same), r⟩) q.2
def tNAdd (ta tb : TEd) : TNd := fun E Q => ta E fun x E1 => tb E1 fun y E2 => match x, y with
  | .lst u, .lst w => u.length + w.length ≤ sizeLine ∧ Q (u ++ w) E2
  | _, _ => False
end
end L3
namespace L3
open PySem L2 PySem.Spec PyProof.Rows PySem.W
variable [Tbs]
section
variable {P : Program} {w : World} {A : Around} {E : Value → Shared → Prop} {s : Shared}
end
section
variable {X : Cx} {a b : Expr} {ta tb : TEd} {pos : Pos}
def rdEqS : RD := fun x y E Q => match x, y with
  | .dct _, .str _ => Q (.bl false) E
  | x, y => rdEq x y E Q
end
end L3
namespace Z2
open PySem PyProof.Rows
section
variable {prog : Program} {w : World} {A : Around} {E : Value → Shared → Prop} {s : Shared} {n l1 l2 : Nat} {a b : Value} {xs ys : Array Value} {t1 t2 : Bool}
end
end Z2
namespace L3
open PySem PySem.Spec PyProof.Rows L2 Z2
variable [Tbs]
theorem hT {xs ys : List D} (h : ys.length ≤ xs.length) : ys.length = (xs.take ys.length).length := by rw [List.length_take]; omega
section
variable {X : Cx} {a b e : Expr} {elts : List Expr} {t : TAd} {te : TEd} {p p2 sp pos tpos : Pos} {kk : Nat}
def iZipYD (t : TAd) : TId := fun E Q => t E fun xs E1 => match xs with
  | [.lst xs, .lst ys] => ys.length ≤ xs.length ∧ Q (zip2D (xs.take ys.length) ys) E1
  | [.lst xs, .tup ys] => ys.length ≤ xs.length ∧ Q (zip2D (xs.take ys.length) ys) E1
  | [.tup xs, .lst ys] => ys.length ≤ xs.length ∧ Q (zip2D (xs.take ys.length) ys) E1
  | [.tup xs, .tup ys] => ys.length ≤ xs.length ∧ Q (zip2D (xs.take ys.length) ys) E1
  | _ => False
end
end L3
namespace L3
open PySem L2 PySem.Spec PyProof.Rows PySem.W
variable [Tbs]
section
variable {X : Cx} {a b : Expr} {ta tb : TEd} {pos : Pos}
def rEqEm (K : PySem.W.Frag) : R2 := fun x y H Q => ∃ (a b : Addr) (xs : List V), x = .ref a ∧ y = .ref b ∧ SqT K H a xs ∧ SqT K H b [] ∧ Q (.bl xs.isEmpty) H
theorem op_eqEm (hu : X.A.units < cLine) : OpR X (compareOp .Eq) (rEqEm X.K) := by
  intro pins s σ H x y v u Q I rx ry h
  obtain ⟨a, b, xs, rfl, rfl, ha, hb, q⟩ := h
  cases rx
  cases ry
  obtain ⟨its, rv, p1, _⟩ := I.tuple ha
  obtain ⟨its2, rv2, p2, _⟩ := I.tuple hb
  have z2 : its2 = [] := by
    have := rv2.length
    exact List.eq_nil_of_length_eq_zero (by simpa using this.symm)
  subst z2
  refine PySem.SeqAt.eq_tupleAt (e := fun _ => true) p1 p2 hu (fun j h1 h2 => absurd h2 (by simp)) ?_
  have e : ((List.range (min its.toArray.size ([] : List Value).toArray.size)).all (fun _ => true) && its.toArray.size == ([] : List Value).toArray.size) = xs.isEmpty := by
    cases rv with
    | nil => rfl
    | cons _ _ => simp
  rw [e]
  exact ⟨.bl _, H, I, rfl, q⟩
def rdEqE : RD := fun x y E Q => match x, y with
  | .tup xs, .tup [] => Q (.bl xs.isEmpty) E
  | x, y => rdEq x y E Q
theorem ok_eqE {K : PySem.W.Frag} : OpOk K (fun x y H Q => rEqEm K x y H Q ∨ (L2.rEq x y H Q ∨ rEqD K x y H Q)) rdEqE :=
  fun en Hf H F E σ vx vy x y Q Qd S rx ry q k => by
    unfold rdEqE at q
    split at q
    · cases rx with | tup h l =>
      cases ry with | tup h2 l2 =>
      cases l2
      refine .inl ⟨_, _, _, rfl, rfl, Same.sqT S.sf h, Same.sqT S.sf h2, k _ _ _ _ _ _ (Same.refl _) S (.bl _) ?_⟩
      cases l <;> exact q
    · exact .inr (ok_eq en Hf H F E σ vx vy _ _ Q Qd S rx ry q k)
theorem t_eqE (hu : X.A.units + 64 < cLine) (ha : PEd X a ta) (hb : PEd X b tb) : PTd X (.Compare a [.Eq] [b] pos) (tTestD (tOpD rdEqE ta tb)) := t_cmp (OpR.or (op_eqEm (by omega)) (OpR.or op_eq (op_eqD hu))) ok_eqE ha hb (nomark _)
end
end L3
namespace L3
open PySem L2 PySem.Spec PyProof.Rows PySem.W
variable [Tbs]
theorem RepM.three {K : PySem.W.Frag} {Hf : Hp} {vs : List V} {a b c : It} {ps : List (Addr × HO)} (r : RepM K Hf vs [a, b, c] ps) : ∃ v1 v2 v3, vs = [v1, v2, v3] := by
  have one : ∀ {vs : List V} {c : It} {ps : List (Addr × HO)}, RepM K Hf vs [c] ps → ∃ v, vs = [v] := fun r => by
    cases r with
    | dat _ r => cases r; exact ⟨_, rfl⟩
    | nw _ r => cases r; exact ⟨_, rfl⟩
  have two : ∀ {vs : List V} {b c : It} {ps : List (Addr × HO)}, RepM K Hf vs [b, c] ps → ∃ v w, vs = [v, w] := fun r => by
    cases r with
    | dat _ r => obtain ⟨w, rfl⟩ := one r; exact ⟨_, _, rfl⟩
    | nw _ r => obtain ⟨w, rfl⟩ := one r; exact ⟨_, _, rfl⟩
  cases r with
  | dat _ r => obtain ⟨v, w, rfl⟩ := two r; exact ⟨_, _, _, rfl⟩
  | nw _ r => obtain ⟨v, w, rfl⟩ := two r; exact ⟨_, _, _, rfl⟩
section
variable {X : Cx} {pos : Pos}
end
end L3
namespace L3
open PySem PySem.Spec PyProof.Rows L2
variable [Tbs]
section
variable {X : Cx} {pins : List (Addr × Obj)} {σ : L2.St} {H : Hp} {s : Shared}
end
/-- the slots js hold the values hv -/
def Cap (σ : L2.St) : List Nat → List V → Prop
  | [], vs => vs = []
  | j :: js, vs => ∃ v r, vs = v :: r ∧ σ[j]? = some (some v) ∧ Cap σ js r
theorem Cap.get {σ : L2.St} {K : PySem.W.Frag} {Hf : Hp} : ∀ {js : List Nat} {hv : List V} {hd : List D} {m j : Nat} {d : D}, Cap σ js hv → RepL K Hf hv hd → js[m]? = some j → hd[m]? = some d → ∃ v, σ[j]? = some (some v) ∧ Rep K Hf v d
  | [], _, _, _, _, _, _, _, e, _ => by simp at e
  | j :: js, _, _, 0, _, _, ⟨v, r, e, h, _⟩, q, e1, e2 => by
    subst e
    cases q with
    | cons a b =>
      simp at e1 e2
      subst e1
      subst e2
      exact ⟨v, h, a⟩
  | j :: js, _, _, m + 1, _, _, ⟨v, r, e, _, h⟩, q, e1, e2 => by
    subst e
    cases q with
    | cons a b => exact Cap.get h b (m := m) (by simpa using e1) (by simpa using e2)
abbrev TQe := List D → (D → Prop) → Prop
abbrev TQa := List D → (List D → Prop) → Prop
def Grow (Hf H Hf' H' : Hp) : Prop := Same Hf Hf' ∧ Same Hf' H' ∧ Same H H' ∧ ∀ p o, Hf' p = some o → Hf p = some o ∨ H p = none
theorem Grow.refl {Hf H : Hp} (s : Same Hf H) : Grow Hf H Hf H := ⟨Same.refl _, s, Same.refl _, fun _ _ a => .inl a⟩
theorem Grow.trans {Hf H Hf1 H1 Hf2 H2 : Hp} (a : Grow Hf H Hf1 H1) (b : Grow Hf1 H1 Hf2 H2) : Grow Hf H Hf2 H2 := ⟨a.1.trans b.1, b.2.1, a.2.2.1.trans b.2.2.1, fun p o z => by
  rcases b.2.2.2 p o z with q | q
  · exact a.2.2.2 p o q
  · exact .inr (a.2.2.1.free q)⟩
theorem Grow.new {Hf H : Hp} (s : Same Hf H) {p : Addr} (o : HO) (n : H p = none) : Grow Hf H (upd Hf p o) (upd H p o) := ⟨same_upd (s.free n), Same.upd s, same_upd n, fun b u e => by
  by_cases q : b = p
  · subst q
    exact .inr n
  · rw [upd_ne q] at e
    exact .inl e⟩
def liftQa (K : PySem.W.Frag) (js : List Nat) (t : TQa) : TA := fun σ H Q => ∃ Hf hv hd Qd, Cap σ js hv ∧ Same Hf H ∧ RepL K Hf hv hd ∧ t hd Qd ∧ ∀ vs H' Hf' ds, Grow Hf H Hf' H' → RepL K Hf' vs ds → Qd ds → Q vs H'
section
variable {X : Cx} {js : List Nat} {e : Expr} {es : List Expr} {te : TQe} {ta : TQa} {x : Str} {p pos : Pos} {cc : Nat}
def tQn (m : Nat) : TQe := fun hd Q => match hd[m]? with
  | some d => Q d
  | none => False
def tQc (d : D) : TQe := fun _ Q => Q d
def tQnil : TQa := fun _ Q => Q []
def tQcons (te : TQe) (ta : TQa) : TQa := fun hd Q => te hd fun d => ta hd fun ds => Q (d :: ds)
def tQtup (ta : TQa) : TQe := fun hd Q => ta hd fun ds => ds.length ≤ sizeLine ∧ Q (.tup ds)
end
/-- the reading of the lambda's body: f(..), f a def of the module -/
def tLq (K : PySem.W.Frag) (mg : Str → Option Value) (js : List Nat) (ta : TQa) (sp : SpX) (E : XK) : TE := fun σ H Q => liftQa K js ta σ H fun vs H1 => liftPX K mg sp vs H1 Q E
section
variable {X : Cx} {A : Around} {outer : List Env} {s : Shared} {H : Hp} {E : XK} {scope : Scope} {f c' : Addr} {k : Nat} {fl : Addr} {fd : FuncData} {ps : List Str} {sp : SpX} {js : List Nat} {ta : TQa} {e : Expr} {es : List Expr} {x : Str} {p pos : Pos}
end
abbrev LamR := (D → Prop) → (Xd → Prop) → Prop
def mkL (F : LamR) : LamR := fun A B => ∃ A0 B0, (∀ d, A0 d → A d) ∧ (∀ x, B0 x → B x) ∧ F A0 B0
def tActX (f : Addr) (hv : List V) (hd : List D) (c' : Addr) (o : HO) (L : LamR) : TXd := fun W E Q => E[0]? = some (.cl (.ref f) hv hd c' o) ∧ L (fun d => Q d E) (fun x => W x E)
section
variable {X : Cx} {pins : List (Addr × Obj)} {σ : L2.St} {H : Hp} {s : Shared}
end
section
variable {P : Program} {w : World} {K : PySem.W.Frag} {mg : Str → Option Value} {base : Heap}
end
section
variable {K : PySem.W.Frag} {en : Et} {Hf H : Hp} {F : Nat → List Addr} {E : En} {σ : L2.St} {j : Nat} {P c' : Addr} {q : Str}
end
/-- the captured data -/
def capD (E : En) : List Nat → Option (List D)
  | [] => some []
  | j :: js => match E[j]?, capD E js with
    | some (.fz d), some ds => some (d :: ds)
    | _, _ => none
/-- g(lambda: f(..), ..): j the deck's slot, js the slots that the lambda captures -/
def tLamD (j : Nat) (js : List Nat) (tq : TQa) (sp : SpX) (R : LamR → List D → (D → Prop) → Prop) (ta : TAd) : TEd := fun E Q => isDk E j ∧ ta E fun ds E1 => match capD E1 js with
  | some hd => R (mkL fun A B => tq hd fun as => sp as A B) ds fun d => Q d E1
  | none => False
section
variable {X : Cx}
end
end L3
namespace L3
open PySem PySem.Spec L2
open PyProof.Rows (IntsAre AllBare recsOf)
variable [Tbs]
section
variable {P : Program} {w : World} {K : PySem.W.Frag} {mg : Str → Option Value} {base : Heap}
end
section
variable {P : Program} {w : World} {K : PySem.W.Frag} {mg mb : Str → Option Value} {k : Nat} {fa a : Addr} {fd : FuncData} {x : Str} {s₁ : Shared} {vs : List Value} {ns : List Int} {cs : List (Addr × Addr)}
end
end L3
namespace L3
open PySem L2
variable [Tbs]
/-- the name of a lambda that the def x makes -/
abbrev lamQ (x : Str) : Str := (x ++ ".<locals>.") ++ "<lambda>"
section
variable {X : Cx} {a : Expr} {ta : TEd} {pos : Pos}
def tInV (neg : Bool) (j : Nat) (ta : TEd) : TEd := fun E Q => ta E fun x E1 => held E1 j ∧ match E1[j]? with
  | some (.fz y) => rdIn neg x y E1 Q
  | some (.ow _ (.ol ys)) => x.flat = true ∧ ys.all D.flat = true ∧ Q (.bl (if neg then !inD x ys else inD x ys)) E1
  | _ => False
variable {x : Str} {p : Pos}
end
def sp0 (R : (D → Prop) → Prop) : SpP := fun ds Q => match ds with
  | [] => R Q
  | _ => False
end L3
namespace L3
open PySem L2
variable [Tbs]
/-- the fields with one stored -/
def putFD (f : Str) (d : D) : List (Str × D) → List (Str × D)
  | [] => [(f, d)]
  | (g, x) :: r => if g = f then (g, d) :: r else (g, x) :: putFD f d r
theorem RepF.put {K : PySem.W.Frag} {H : Hp} {f : Str} {v : V} {d : D} (r : Rep K H v d) : ∀ {vs : List (Str × V)} {fs : List (Str × D)}, RepF K H vs fs → RepF K H (putF f v vs) (putFD f d fs)
  | _, _, .nil => .cons r .nil
  | _, _, .cons (k := k) a t => by
    unfold putF putFD
    by_cases h : k = f
    · rw [if_pos h, if_pos h]
      exact .cons r t
    · rw [if_neg h, if_neg h]
      exact .cons a (RepF.put r t)
theorem RepF.length {K : PySem.W.Frag} {H : Hp} : ∀ {vs : List (Str × V)} {fs : List (Str × D)}, RepF K H vs fs → vs.length = fs.length
  | _, _, .nil => rfl
  | _, _, .cons _ t => by rw [List.length_cons, List.length_cons, RepF.length t]
theorem RepF.no {K : PySem.W.Frag} {H : Hp} {f : Str} : ∀ {vs : List (Str × V)} {fs : List (Str × D)}, RepF K H vs fs → fs.lookup f = none → vs.lookup f = none
  | _, _, .nil, _ => rfl
  | _, _, .cons (k := k) a t, e => by
    rw [List.lookup_cons] at e ⊢
    by_cases h : f = k
    · have z : (f == k) = true := by simpa using h
      rw [z] at e
      cases e
    · have z : (f == k) = false := by simpa using h
      rw [z] at e ⊢
      exact RepF.no t e
/-- the attribute f of the class at C may be read and stored -/
def OFld (K : PySem.W.Frag) (C : Addr) (f : Str) : Prop := Cls K C ∧ NoAttr K C f
section
variable {X : Cx} {e o : Expr} {te ta : TEd} {pos p apos : Pos} {f x : Str}
/-- e.f, e an instance -/
def tFldD (K : PySem.W.Frag) (f : Str) (te : TEd) : TEd := fun E Q => te E fun x E1 => match x with
  | .ins C fs => OFld K C f ∧ ∃ d, fs.lookup f = some d ∧ Q d E1
  | _ => False
theorem d_fldK (K : PySem.W.Frag) (he : PEd X e te) (hK : X.K = K := by rfl) (hb : attributeBase e f X.env (eval e X.env) = eval e X.env := by rfl) : PEd X (.Attribute e f pos) (tFldD K f te) := by
  subst hK
  exact pe_imp (pe_fld he hb) fun σ H Q ⟨en, Hf, F, E, Qd, S, h, k⟩ => ⟨en, Hf, F, E, _, S, h, fun v H1 Hf1 F1 E1 d s1 S1 r1 h1 => by
    split at h1
    · rename_i C fs
      obtain ⟨⟨c, n⟩, d, l, q⟩ := h1
      cases r1 with | ins h2 h3 rf =>
      obtain ⟨w, l2, rw_⟩ := rf.get l
      exact ⟨_, _, _, _, w, rfl, S1.sf _ _ h2, c, n, l2, k _ _ _ _ _ _ s1 S1 rw_ q⟩
    · exact h1.elim⟩
/-- x.f = e, x our own instance (slot j) -/
def tFldSet (K : PySem.W.Frag) (j : Nat) (f : Str) (te : TEd) : TSd := fun D E => held E j ∧ te E fun y E1 => match E1[j]? with
  | some (.ow b (.oi C fs)) => OFld K C f ∧ fs.length < 1000 ∧ D.nx (E1.set j (.ow b (.oi C (putFD f y fs))))
  | _ => False
theorem s_fldSetK (K : PySem.W.Frag) (j : Nat) {p1 p2 : Pos} (he : PEd X e te) (hK : X.K = K := by rfl) (hN : X.N[j]? = some x := by rfl) (hv : Vis X.env.scope x := by first | exact Or.inl rfl | exact Or.inr (Or.inl rfl) | exact Or.inr (Or.inr rfl)) (hd : (x == ("__debug__" : Str)) = false := by decide) (hcd : (x == ("__classdict__" : Str)) = false := by decide)
    (hs : swapsWith e (some (.Attribute (.Name x p1) f p2)) pos.line X.env = pure false := by rfl) : PSd X (.Assign [.Attribute (.Name x p1) f p2] e pos) (tFldSet K j f te) := by
  subst hK
  exact ps_imp (ps_fld (pv j hN hv hd hcd) he hs) fun D σ H ⟨en, Hf, F, E, Dd, S, ⟨hh, h⟩, k1, k2, k3, k4, k5⟩ => ⟨en, Hf, F, E, _, S, h, fun v1 H1 Hf1 F1 E1 y s1 S1 r1 h1 => by
    split at h1
    · rename_i b C fs e1
      obtain ⟨v, hv, ⟨a, dx, vs, rfl, hF, ha, hdx, rf⟩, _⟩ := S1.own e1
      obtain ⟨⟨c, n⟩, hl, q⟩ := h1
      have ma : a ∈ F1 j := by rw [hF]; simp
      have md : dx ∈ F1 j := by rw [hF]; simp
      have na := (S1.fp j a ma).1
      have ne : dx ≠ a := fun z => by rw [z, ha] at hdx; cases hdx
      refine ⟨_, hv, a, C, dx, vs, rfl, ha, c, n, by rw [rf.length]; exact hl, ?_⟩
      refine k1 _ _ _ _ _ s1 (S1.change e1 hv (o' := .oi C (putFD f y fs)) (Same.refl _) (fun b u z => ?_) (fun b u nb z => ?_) (fun b u z => ?_) (fun _ _ z => .inl z) ⟨a, dx, _, rfl, hF, upd_same, by rw [upd_ne ne]; exact hdx, rf.put r1⟩) q
      · have nb : b ≠ a := fun y => by rw [y, na] at z; cases z
        rw [upd_ne nb]
        exact S1.sf _ _ z
      · have nb' : b ≠ a := fun y => nb (by rw [y]; exact ma)
        rw [upd_ne nb']
        exact z
      · by_cases y : b = a
        · subst y
          exact ⟨_, upd_same⟩
        · rw [upd_ne y]
          exact ⟨u, z⟩
    · exact h1.elim⟩
end
section
variable {X : Cx} {C f : Addr} {k : Nat} {fd : FuncData} {ps : List Str} {sp : Sp} {x m : Str} {p pos apos : Pos} {e o : Expr} {es : List Expr} {t : TA} {ta : TE} {E : St → XK} {CX : CXT}
theorem pe_methGS {pl : Sem Bool} (he : PE X o ta) (c : Cls X.K C) (hm : Meth X.K C m f) (F : FnG X.prog X.w X.K X.mg X.base CX k f fd ps sp) (hgd : X.A.guards = some []) (hr : Room k X.A) (hb : Binds X.K fd ps []) (hx : ∀ σ, PassesAt CX X σ (E σ)) (ha : PA X (e :: es) t)
    (hst : starEach (e :: es) X.env = (false, eval e X.env) :: starEach es X.env := by rfl) (hpl : (backTo pos (starEach es X.env)).any (·.1) = false := by rfl)
    (ht : eval (.Call (.Attribute o m apos) (e :: es) [] pos) X.env = (do
      let ov ← eval o X.env
      standAt apos.atName
      let (f, first) ← holding [ov] (getMethod ov m pl)
      callWith pos f first (backTo pos (starEach (e :: es) X.env)) (backToKw pos (keywordEach [] X.env))) := by rfl) :
    PE X (.Call (.Attribute o m apos) (e :: es) [] pos) (fun σ H Q => ta σ H fun x H1 => ∃ a dx fs, x = .ref a ∧ H1 a = some (.ins C dx fs) ∧ fs.lookup m = none ∧ t σ H1 fun vs H2 => sp (x :: vs) H2 Q (E σ)) := by
  refine ⟨fun pins s σ H Q I h => ?_⟩
  refine PySem.W.methodCall_KW (pl := pl) (thn (he.run pins s σ H _ I h) fun u s1 ⟨x, H1, I1, rx, a, dx, fs, ex, ea, l, q⟩ => ?_) ht
  subst ex
  obtain rfl : u = Value.ref a := rx
  refine getmeth_ok I1 ea c hm l ?_
  refine PySem.W.callWith_K (first := [.ref a]) (h₀ := X.base) I.ok.mod.kin hm.kp (thn (ha.run pos pins s1 σ H1 _ I1 q) fun us s2 ⟨vs, H2, I2, r, q2⟩ => ⟨I2.kIn, ?_⟩) hst hpl
  exact run_GS (us := .ref a :: us) (vs := .ref a :: vs) F hgd hr hb (hx σ) I2 (.cons rfl r) q2
theorem run_makeGS {pins : List (Addr × Obj)} {σ : L2.St} {H : Hp} {s : Shared} {Q : VK} {us : List Value} {vs : List V} (M : Mk X.K C f) (F : FnG X.prog X.w X.K X.mg X.base CX k f fd ps sp) (hgd : X.A.guards = some []) (hr : Room (k + 1) X.A) (hb : Binds X.K fd ps [])
    (hx : PassesAt CX X σ (E σ)) (I : Inv X pins σ H s) (r : Vals vs us)
    (h : ∀ x dx, H x = none → H dx = none → dx ≠ x → sp (.ref x :: vs) (upd (upd H dx (.own x)) x (.ins C dx [])) (fun v H2 => v = .non ∧ Q (.ref x) H2) (E σ)) :
    wpAny (model X.prog X.w) X.A (call (.ref C) us) (EP X pins σ Q) X.xe s := by
  have hq := h (s.heap.objs.size + 1) s.heap.objs.size (I.hok.fresh (Nat.le_succ _)) (I.hok.fresh (Nat.le_refl _)) (Nat.ne_of_lt (Nat.lt_succ_self _))
  have I2 := Inv.made (C := C) I
  have r2 : Vals (V.ref (s.heap.objs.size + 1) :: vs) (Value.ref (s.heap.objs.size + 1) :: us) := .cons rfl r
  have hl : (Value.ref (s.heap.objs.size + 1) :: us).length = ps.length := r2.length.symm.trans (F.len _ _ _ _ hq)
  have bt : BindsTo ({ s with heap := (s.heap.push PySem.W.emptyDict).push (PySem.W.instObj C s.heap.objs.size) }) fd ⟨Value.ref (s.heap.objs.size + 1) :: us, []⟩ (ps.zip (Value.ref (s.heap.objs.size + 1) :: us)) := by
    have z := hb _ (Value.ref (s.heap.objs.size + 1) :: us) I2.kIn (by rw [List.append_nil]; exact hl)
    rw [List.append_nil] at z
    exact z
  refine wpAny_call (make_map (f := f) I.kIn M.makes M.init (beq_iff_eq.mp M.fn) (codeAny_mono (F.run (X.A.under (.builtin "type.__call__" ⟨Value.ref C :: us, []⟩)) hgd (hr.make C us []) X.stack _ _ ⟨Value.ref (s.heap.objs.size + 1) :: us, []⟩ (Value.ref (s.heap.objs.size + 1) :: us) _ _ (E σ)
    (I2.env0.make C us []) bt r2 hq) fun r s' hq' => ?_))
  match r, hq' with
  | .error e, hq' => exact hx pins _ _ e s' I2 hq'
  | .ok (.ret u), hq' =>
    obtain ⟨v, H', I3, rv, ev, q3⟩ := I2.after hq'
    subst ev
    exact ⟨rv, ⟨V.ref (s.heap.objs.size + 1), H', I3, rfl, q3⟩⟩
theorem pe_makeGS (M : Mk X.K C f) (F : FnG X.prog X.w X.K X.mg X.base CX k f fd ps sp) (hgd : X.A.guards = some []) (hr : Room (k + 1) X.A) (hg : Gl X x) (hm : X.mg x = some (.ref C)) (hb : Binds X.K fd ps []) (hx : ∀ σ, PassesAt CX X σ (E σ))
    (ha : PA X (e :: es) t) (hdb : (x == ("__debug__" : Str)) = false := by decide) (he : starEach (e :: es) X.env = (false, eval e X.env) :: starEach es X.env := by rfl) (hpl : (backTo pos (starEach es X.env)).any (·.1) = false := by rfl) :
    PE X (.Call (.Name x p) (e :: es) [] pos) (fun σ H Q => t σ H fun vs H1 => ∀ x dx, H1 x = none → H1 dx = none → dx ≠ x → sp (.ref x :: vs) (upd (upd H1 dx (.own x)) x (.ins C dx [])) (fun v H2 => v = .non ∧ Q (.ref x) H2) (E σ)) := by
  refine ⟨fun pins s σ H Q I h => ?_⟩
  refine wpAny_Call_Name_kw (ld_glob I hg hm ?_ hdb)
  refine PySem.W.callWith_K (h₀ := X.base) I.ok.mod.kin M.kp (thn (ha.run pos pins s σ H _ I h) fun us s1 ⟨vs, H1, I1, r, q⟩ => ⟨I1.kIn, ?_⟩) he hpl
  exact run_makeGS M F hgd hr hb (hx σ) I1 r q
end
section
variable {X : Cx} {C f : Addr} {k : Nat} {fd : FuncData} {ps : List Str} {sp : SpX} {so : SoX} {x m : Str} {p pos apos : Pos} {e o : Expr} {es : List Expr} {tx : TAXd} {to : TEd}
def tMethX (C : Addr) (m : Str) (sp : SpX) (to : TEd) (tx : TAXd) : TXd := fun W E Q => to E fun x E1 => match x with
  | .ins C' fs => C' = C ∧ fs.lookup m = none ∧ tx W E1 fun ds E2 => sp (.ins C' fs :: ds) (fun d => Q d E2) (fun x => W x E2)
  | _ => False
theorem x_meth {pl : Sem Bool} (c : Cls X.K C) (hm : Meth X.K C m f) (F : FnG X.prog X.w X.K X.mg X.base (L2.CX X.prog X.w) k f fd ps (liftPX X.K X.mg sp)) (hgd : X.A.guards = some []) (hr : Room k X.A) (hb : Binds X.K fd ps []) (he : PEd X o to) (ha : PAXd X (e :: es) tx)
    (hst : starEach (e :: es) X.env = (false, eval e X.env) :: starEach es X.env := by rfl) (hpl : (backTo pos (starEach es X.env)).any (·.1) = false := by rfl)
    (ht : eval (.Call (.Attribute o m apos) (e :: es) [] pos) X.env = (do
      let ov ← eval o X.env
      standAt apos.atName
      let (f, first) ← holding [ov] (getMethod ov m pl)
      callWith pos f first (backTo pos (starEach (e :: es) X.env)) (backToKw pos (keywordEach [] X.env))) := by rfl) :
    PXd X (.Call (.Attribute o m apos) (e :: es) [] pos) (tMethX C m sp to tx) :=
  pe_imp (pe_methGS (pl := pl) he c hm F hgd hr hb wx_pass ha hst hpl ht) fun σ H Q ⟨en, Hf, F, E, Qd, Wd, S, h, k, kx⟩ => ⟨en, Hf, F, E, _, S, h, fun v H1 Hf1 F1 E1 d s1 S1 r1 h1 => by
    split at h1
    · rename_i C' fs
      obtain ⟨rfl, l, h1⟩ := h1
      have r1' := r1
      cases r1 with | ins h2 h3 rf =>
      refine ⟨_, _, _, rfl, S1.sf _ _ h2, rf.no l, en, Hf1, F1, E1, _, Wd, S1, h1, fun vs H2 Hf2 F2 E2 ds s2 S2 r2 h4 => ?_, fun cls x H' Hf' F' E' d s2 S2 r q => kx _ _ _ _ _ _ _ (s1.trans s2) S2 r q⟩
      exact ⟨Hf2, _, _, _, S2.sf, .cons (r1'.mono s2) r2, h4, fun v H' Hf' d s3 s4 s5 g r q => k _ _ _ _ _ _ ((s1.trans s2).trans s3) (S2.grow s3 s4 s5 g) r q, fun cls x d H' Hf' s3 s4 s5 g r q => kx _ _ _ _ _ _ _ ((s1.trans s2).trans s3) (S2.grow s3 s4 s5 g) r q⟩
    · exact h1.elim⟩
/-- C(..) -/
def tMakeX (C : Addr) (so : SoX) (tx : TAXd) : TXd := fun W E Q => tx W E fun ds E1 => so (.oi C []) ds (fun d o' => d = .non ∧ ∃ fs, o' = .oi C fs ∧ Q (.ins C fs) E1) (fun x _ => W x E1)
theorem x_make (M : Mk X.K C f) (F : FnG X.prog X.w X.K X.mg X.base (L2.CX X.prog X.w) k f fd ps (liftOX X.K X.mg so)) (hgd : X.A.guards = some []) (hr : Room (k + 1) X.A) (hm : X.mg x = some (.ref C)) (hb : Binds X.K fd ps []) (ha : PAXd X (e :: es) tx)
    (hg : Gl X x := by rfl) (hdb : (x == ("__debug__" : Str)) = false := by decide) (he : starEach (e :: es) X.env = (false, eval e X.env) :: starEach es X.env := by rfl) (hpl : (backTo pos (starEach es X.env)).any (·.1) = false := by rfl) :
    PXd X (.Call (.Name x p) (e :: es) [] pos) (tMakeX C so tx) :=
  pe_imp (pe_makeGS M F hgd hr hg hm hb wx_pass ha hdb he hpl) fun σ H Q ⟨en, Hf, F, E, Qd, Wd, S, h, k, kx⟩ => ⟨en, Hf, F, E, _, Wd, S, h, fun vs H1 Hf1 F1 E1 ds s1 S1 r1 h1 => fun a dx na nd ne => by
    have fa : Hf1 a = none := S1.sf.free na
    have fd' : Hf1 dx = none := S1.sf.free nd
    have up : ∀ b u, H1 b = some u → upd (upd H1 dx (.own a)) a (.ins C dx []) b = some u := fun b u z => by
      rw [upd_ne (ne_of_none z na), upd_ne (ne_of_none z nd)]
      exact z
    have s2 : Same Hf1 (upd (upd H1 dx (.own a)) a (.ins C dx [])) := fun b u z => up b u (S1.sf _ _ z)
    have no : ∀ b, upd (upd H1 dx (.own a)) a (.ins C dx []) b = none → H1 b = none := fun b z => by
      by_cases y1 : b = a
      · rw [y1, upd_same] at z
        cases z
      · rw [upd_ne y1] at z
        by_cases y2 : b = dx
        · rw [y2, upd_same] at z
          cases z
        · rw [upd_ne y2] at z
          exact z
    refine ⟨Hf1, .ref a, vs, .oi C [], [a, dx], ds, _, _, rfl, s2, ⟨a, dx, [], rfl, rfl, upd_same, by rw [upd_ne ne, upd_same], .nil⟩, fun b hb => ?_, r1, h1, fun v H' Hf' d o' fp' s3 s4 kp dm g nf ro rv q => ?_, fun cls x d H' Hf' o' fp' s3 s4 kp dm g nf ro rx q => ?_⟩
    · rcases List.mem_cons.mp hb with rfl | hb
      · exact fa
      · rw [List.mem_singleton.mp hb]
        exact fd'
    · obtain ⟨rfl, fs, rfl, q⟩ := q
      cases rv
      obtain ⟨a', dx', ws, ea, ef, h3, h4, rf⟩ := ro
      cases ea
      cases ef
      have nmem : ∀ b, b ≠ a → b ≠ dx → b ∉ [a, dx] := fun b y1 y2 y3 => by
        rcases List.mem_cons.mp y3 with y3 | y3
        · exact y1 y3
        · exact y2 (List.mem_singleton.mp y3)
      obtain ⟨hfa, _⟩ := nf a (by simp)
      obtain ⟨hfd, hnd⟩ := nf dx' (by simp)
      have nd' : H1 dx' = none := by
        rcases hnd with y | y
        · rcases List.mem_cons.mp y with y | y
          · rw [y]; exact na
          · rw [List.mem_singleton.mp y]; exact nd
        · exact no _ y
      have ne' : dx' ≠ a := fun z => by
        rw [z, h3] at h4
        cases h4
      have e1 : Same Hf' (upd (upd Hf' dx' (.own a)) a (.ins C dx' ws)) := fun b u z => by
        rw [upd_ne (ne_of_none z hfa), upd_ne (ne_of_none z hfd)]
        exact z
      have e2 : Same (upd (upd Hf' dx' (.own a)) a (.ins C dx' ws)) H' := fun b u z => by
        by_cases y1 : b = a
        · rw [y1, upd_same] at z
          cases z
          rw [y1]
          exact h3
        · rw [upd_ne y1] at z
          by_cases y2 : b = dx'
          · rw [y2, upd_same] at z
            cases z
            rw [y2]
            exact h4
          · rw [upd_ne y2] at z
            exact s4 _ _ z
      have e3 : Same H1 H' := fun b u z => kp b u (nmem b (ne_of_none z na) (ne_of_none z nd)) (up b u z)
      refine ⟨rfl, k (.ref a) H' _ F1 E1 (.ins C fs) ((s1.trans s3).trans e1) (S1.grow (s3.trans e1) e2 e3 fun b u z => ?_) (.ins upd_same (by rw [upd_ne ne', upd_same]) (rf.mono e1)) q⟩
      by_cases y1 : b = a
      · rw [y1]
        exact .inr na
      · rw [upd_ne y1] at z
        by_cases y2 : b = dx'
        · rw [y2]
          exact .inr nd'
        · rw [upd_ne y2] at z
          rcases g b u z with y | y
          · exact .inl y
          · exact .inr (no b y)
    · have e3 : Same H1 H' := fun b u z => kp b u (fun y => by
        rcases List.mem_cons.mp y with y | y
        · exact ne_of_none z na y
        · exact ne_of_none z nd (List.mem_singleton.mp y)) (up b u z)
      exact kx cls x H' Hf' F1 E1 d (s1.trans s3) (S1.grow s3 s4 e3 fun b u z => (g b u z).imp id (no b)) rx q, kx⟩
/-- isinstance(e, C), e an instance of C -/
def tIsC (C : Addr) (te : TEd) : TEd := fun E Q => te E fun x E1 => match x with
  | .ins C' _ => C' = C ∧ Q (.bl true) E1
  | _ => False
end
section
variable {X : Cx} {C : Addr} {x : Str} {e : Expr} {te : TEd} {p p2 pos : Pos}
theorem d_isC (c : C8.InsC X.K C) (hi : X.mg "isinstance" = none) (hm : X.mg x = some (.ref C)) (he : PEd X e te) (hg : Gl X "isinstance" := by rfl) (hg2 : Gl X x := by rfl) (hdx : (x == ("__debug__" : Str)) = false := by decide)
    (hs : starEach [e, .Name x p2] X.env = (false, eval e X.env) :: starEach [.Name x p2] X.env := by rfl) (hs2 : starEach [.Name x p2] X.env = (false, eval (.Name x p2) X.env) :: starEach [] X.env := by rfl) (hpl : (backTo pos (starEach [.Name x p2] X.env)).any (·.1) = false := by rfl) :
    PEd X (.Call (.Name "isinstance" p) [e, .Name x p2] [] pos) (tIsC C te) :=
  pe_imp (pe_callB (C8.call_isC c) hg hi PyProof.Rows.boot_isinstance (pa_cons he (pa_cons (pe_glob (v := .ref C) hg2 hm rfl hdx) pa_nil hs2) hs) (by decide) (by decide) hs hpl) fun σ H Q ⟨en, Hf, F, E, Qd, S, h, k⟩ => ⟨en, Hf, F, E, _, S, h, fun v H1 Hf1 F1 E1 d s1 S1 r1 h1 => by
    split at h1
    · rename_i C' fs
      obtain ⟨rfl, q⟩ := h1
      cases r1 with | ins h2 h3 rf =>
      exact ⟨_, _, _, rfl, S1.sf _ _ h2, k _ _ _ _ _ _ s1 S1 (.bl true) q⟩
    · exact h1.elim⟩
end
section
variable {P : Program} {w : World} {K : PySem.W.Frag} {mg : Str → Option Value} {base : Heap}
structure CalMAt (P : Program) (w : World) (K : PySem.W.Frag) (mg : Str → Option Value) (base : Heap) (C : Addr) (m : Str) (k : Nat) (ps : List Str) (sp : SpX) (f : Addr) (fd : FuncData) : Prop where
  fn : FnG P w K mg base (L2.CX P w) k f fd ps (liftPX K mg sp)
  bd : Binds K fd ps []
  cl : Cls K C
  mt : Meth K C m f
  fi : PySem.W.fnIn K f = true
def CalM (P : Program) (w : World) (K : PySem.W.Frag) (mg : Str → Option Value) (base : Heap) (C : Addr) (m : Str) (k : Nat) (ps : List Str) (sp : SpX) : Prop := ∃ f fd, CalMAt P w K mg base C m k ps sp f fd
structure CalIAt (P : Program) (w : World) (K : PySem.W.Frag) (mg : Str → Option Value) (base : Heap) (x : Str) (C : Addr) (k : Nat) (ps : List Str) (so : SoX) (f : Addr) (fd : FuncData) : Prop where
  fn : FnG P w K mg base (L2.CX P w) k f fd ps (liftOX K mg so)
  bd : Binds K fd ps []
  mkc : Mk K C f
  mg : mg x = some (.ref C)
def CalI (P : Program) (w : World) (K : PySem.W.Frag) (mg : Str → Option Value) (base : Heap) (x : Str) (C : Addr) (k : Nat) (ps : List Str) (so : SoX) : Prop := ∃ f fd, CalIAt P w K mg base x C k ps so f fd
def DfnM (K : PySem.W.Frag) (C : Addr) (m qual : Str) (st : Stmt) (ps : List Str) : Prop := ∃ f fd, Fun K m qual st f fd ∧ Binds K fd ps [] ∧ Cls K C ∧ Meth K C m f
def DfnI (K : PySem.W.Frag) (mg : Str → Option Value) (x : Str) (C : Addr) (qual : Str) (st : Stmt) (ps : List Str) : Prop := ∃ f fd, Fun K "__init__" qual st f fd ∧ Binds K fd ps [] ∧ Mk K C f ∧ mg x = some (.ref C)
theorem cal_meth {C : Addr} {m qual : Str} {st : Stmt} {N ps : List Str} {k : Nat} {sp : SpX} (d : DfnM K C m qual st ps) (S : FnScope N ps (defScope st)) (len : ∀ ds Q W, sp ds Q W → ds.length = ps.length)
    (hbody : ∃ t : TSd, (∀ (f : Addr) (cdv : Value) (A : Around) (outer : List Env) (s : Shared) (H : Hp) (E : XK), A.guards = some [] → Room k (A.deeper (PyProof.Rows.envOfC qual (defScope st) s.heap.objs.size f cdv)) →
      PBd (cxOf (L2.CX P w) P w K mg base N qual (defScope st) f cdv A outer s H E) (defBody st) t) ∧
      ∀ ds Q W, sp ds Q W → t { nx := fun _ => Q .non, rt := fun d _ => Q d, ex := fun x _ => W x } (startD N (ds.map .fz))) : CalM P w K mg base C m (k + 1) ps sp := by
  obtain ⟨f, fd, F, hb, c, hm⟩ := d
  obtain ⟨t, h1, h2⟩ := hbody
  refine ⟨f, fd, fn_pureX F S len ⟨t, h1 f, h2⟩, hb, c, hm, ?_⟩
  obtain ⟨oc, od, kV, doc, pm, an, cdv, ct, osl, z, lk, z2⟩ := F.ex
  unfold PySem.W.fnIn
  rw [lk]
theorem cal_init {x : Str} {C : Addr} {qual : Str} {st : Stmt} {N ps : List Str} {k : Nat} {so : SoX} (d : DfnI K mg x C qual st ps) (S : FnScope N ps (defScope st)) (len : ∀ o ds Q W, so o ds Q W → ds.length + 1 = ps.length)
    (hbody : ∃ t : TSd, (∀ (f : Addr) (cdv : Value) (A : Around) (outer : List Env) (s : Shared) (H : Hp) (E : XK), A.guards = some [] → Room k (A.deeper (PyProof.Rows.envOfC qual (defScope st) s.heap.objs.size f cdv)) →
      PBd (cxOf (L2.CX P w) P w K mg base N qual (defScope st) f cdv A outer s H E) (defBody st) t) ∧
      ∀ o ds Q W, so o ds Q W → t { nx := fun E => ∃ o', E[0]? = some (.ow true o') ∧ Q .non o', rt := fun d E => ∃ o', E[0]? = some (.ow true o') ∧ Q d o', ex := fun x E => ∃ o', E[0]? = some (.ow true o') ∧ W x o' } (startD N (.ow true o :: ds.map .fz))) : CalI P w K mg base x C (k + 1) ps so := by
  obtain ⟨f, fd, F, hb, hm, hg⟩ := d
  obtain ⟨t, h1, h2⟩ := hbody
  exact ⟨f, fd, fn_ownX F S len ⟨t, h1 f, h2⟩, hb, hm, hg⟩
end
def sox1 (R : Ow → D → (D → Ow → Prop) → (Xd → Ow → Prop) → Prop) : SoX := fun o ds Q W => match ds with
  | [a] => R o a Q W
  | _ => False
def sox2 (R : Ow → D → D → (D → Ow → Prop) → (Xd → Ow → Prop) → Prop) : SoX := fun o ds Q W => match ds with
  | [a, b] => R o a b Q W
  | _ => False
theorem sox2_len {R} : ∀ o ds Q W, sox2 R o ds Q W → ds.length + 1 = 3 := fun o ds Q W h => by
  unfold sox2 at h
  split at h
  · rfl
  · exact h.elim
theorem sox2_by {R} {G : Ow → List D → (D → Ow → Prop) → (Xd → Ow → Prop) → Prop} (h : ∀ o a b Q W, R o a b Q W → G o [a, b] Q W) : ∀ o ds Q W, sox2 R o ds Q W → G o ds Q W := fun o ds Q W q => by
  unfold sox2 at q
  split at q
  · exact h _ _ _ _ _ q
  · exact q.elim
end L3
namespace L3
open PySem L2
variable [Tbs]
/-- a reading where nothing is raised -/
def tNX (te : TXd) : TEd := fun E Q => te (fun _ _ => False) E Q
theorem d_nx {X : Cx} {e : Expr} {te : TXd} (h : PXd X e te) : PEd X e (tNX te) := pe_imp h fun σ H Q ⟨en, Hf, F, E, Qd, S, h, k⟩ => ⟨en, Hf, F, E, Qd, fun _ _ => False, S, h, k, fun _ _ _ _ _ _ _ _ _ _ w => w.elim⟩
def tNTX (te : TTXd) : TTd := fun E Q => te (fun _ _ => False) E Q
/-- x.f as one of several targets -/
def gFldD (K : PySem.W.Frag) (j : Nat) (f : Str) : TGd := fun y E Q => match E[j]? with
  | some (.ow b (.oi C fs)) => OFld K C f ∧ fs.length < 1000 ∧ Q (E.set j (.ow b (.oi C (putFD f y fs))))
  | _ => False
structure Spc (K : PySem.W.Frag) (C : Addr) (m : Str) (f : Addr) : Prop where
  at_ : PySem.W.findIn K (.ref C) m = some (some (.ref f))
  fn : PySem.W.isFn K (.ref f) = true
  fi : PySem.W.fnIn K f = true
  sf : PySem.W.selfFirst K C = true
  ns : PySem.W.noSeq K C = true
  nf : (["int", "bool", "str", "tuple", "list", "NoneType", "dict"].all fun n => PySem.W.notFirst K C (.type n)) = true
  ic : C8.InsC K C
structure SpcC (K : PySem.W.Frag) (C : Addr) : Prop where
  sf : PySem.W.selfFirst K C = true
  ns : PySem.W.noSeq K C = true
  nf : (["int", "bool", "str", "tuple", "list", "NoneType", "dict"].all fun n => PySem.W.notFirst K C (.type n)) = true
  ic : C8.InsC K C
theorem CalMAt.spc {P : Program} {w : World} {K : PySem.W.Frag} {mg : Str → Option Value} {base : Heap} {C : Addr} {m : Str} {k : Nat} {ps : List Str} {sp : SpX} {f : Addr} {fd : FuncData} (c : CalMAt P w K mg base C m k ps sp f fd) (p : SpcC K C) : Spc K C m f :=
  ⟨c.mt.at_, c.mt.fn, c.fi, p.sf, p.ns, p.nf, p.ic⟩
section
variable {X : Cx} {pins : List (Addr × Obj)} {σ : L2.St} {H : Hp} {s : Shared}
theorem run_GA {k : Nat} {f : Addr} {fd : FuncData} {ps : List Str} {sp : Sp} {CX : CXT} {A : Around} {E : XK} {Q : VK} {us : List Value} {vs : List V} (F : FnG X.prog X.w X.K X.mg X.base CX k f fd ps sp) (hga : A.guards = some []) (hr : Room k A) (hfr : A.frames = X.A.frames) (hb : Binds X.K fd ps []) (hx : PassesAt CX X σ E)
    (I : Inv X pins σ H s) (r : Vals vs us) (h : sp vs H Q E) : wpAny (model X.prog X.w) A (call (.ref f) us) (EP X pins σ Q) X.xe s := by
  have lu : us.length = ps.length := r.length.symm.trans (F.len _ _ _ _ h)
  have bt : BindsTo s fd ⟨us, []⟩ (ps.zip us) := by
    have z := hb s us I.kIn (by rw [List.append_nil]; exact lu)
    rw [List.append_nil] at z
    exact z
  have e0 : Env0 X.prog X.w X.K X.mg X.base A X.stack s H := by
    have e := I.env0
    exact ⟨by rw [hfr]; exact e.frames, e.mod, e.bs, e.bsz, e.funs, e.frf, e.hok, e.bare⟩
  refine wpAny_call (codeAny_mono (F.run A hga hr X.stack s H ⟨us, []⟩ us vs Q E e0 bt r h) fun res s' q => ?_)
  match res, q with
  | .error err, q => exact hx pins H s err s' I q
  | .ok (.ret u), q => exact I.after q
abbrev R2S := V → V → L2.St → Hp → VK → Prop
variable {a b : Expr} {ta tb : TE} {pos : Pos}
end
section
variable {X : Cx} {C f : Addr} {k : Nat} {fd : FuncData} {ps : List Str} {sp : Sp}
end
abbrev RDX := D → D → (Xd → En → Prop) → En → (D → En → Prop) → Prop
def tOpXS (rd : RDX) (ta tb : TXd) : TXd := fun W E Q => ta W E fun x E1 => tb W E1 fun y E2 => rd x y W E2 Q
/-- the type of data beside an instance of C -/
def D.nfOk (C : Addr) : D → Prop
  | .ins C' _ => C' = C
  | .opq _ => False
  | .pt _ => False
  | .ps _ => False
  | _ => True
section
variable {X : Cx} {C f : Addr} {k : Nat} {fd : FuncData} {ps : List Str} {sp : SpX} {a b : Expr} {te tf : TXd} {pos : Pos}
/-- what a special def of the first one tells -/
def rdS (C : Addr) (P : D → Prop) (sp : SpX) : RDX := fun x y W E Q => match x with
  | .ins C' fs => C' = C ∧ P y ∧ sp [.ins C' fs, y] (fun d => Q d E) (fun x => W x E)
  | _ => False
def D.isIns (C : Addr) : D → Prop
  | .ins C' _ => C' = C
  | _ => False
abbrev rIn (X : Cx) (C : Addr) (n : Bool) (sp : Sp) : R2S := fun y x σ H Q => ∃ a dx fs, x = .ref a ∧ H a = some (.ins C dx fs) ∧ sp [x, y] H (fun v H' => ∃ b, v = .bl b ∧ Q (.bl (b != n)) H') (wxe X σ)
def rdInO (C : Addr) (n : Bool) (sp : SpX) : RDX := fun y x W E Q => match x with
  | .ins C' fs => C' = C ∧ sp [.ins C' fs, y] (fun d => ∃ k, d = .bl k ∧ Q (.bl (k != n)) E) (fun x => W x E)
  | _ => False
end
end L3
namespace L3N
open PySem PySem.W PySem.Calls PyProof.Rows Builtin
section
variable {prog : Program} {w : World} {M : Model} {A : Around} {E : Value → Shared → Prop} {s : Shared} {K : Frag} {x C L f : Addr} {h₀ : Heap} {m : Str → Option Value} {ox : Obj} {od : Option Obj} {b tb : Value}
end
end L3N
namespace L3
open PySem L2 PySem.W
variable [Tbs]
section
variable {X : Cx} {C f : Addr} {k : Nat} {fd : FuncData} {ps : List Str} {sp : Sp}
end
section
variable {X : Cx} {C f : Addr} {k : Nat} {fd : FuncData} {ps : List Str} {sp : SpX} {a b : Expr} {te tf : TXd} {pos : Pos}
def rdNeO (C : Addr) (P : D → Prop) (sp : SpX) : RDX := fun x y W E Q => match x with
  | .ins C' fs => C' = C ∧ P y ∧ sp [.ins C' fs, y] (fun d => ∃ k, d = .bl k ∧ Q (.bl (!k)) E) (fun x => W x E)
  | _ => False
end
section
variable {X : Cx} {a : Expr} {t : TAd} {p pos : Pos}
def rbBool : RB := fun ds E Q => match ds with
  | [.int i] => Q (.bl (i != 0)) E
  | [.bl b] => Q (.bl b) E
  | _ => False
end
end L3
namespace L3N
open PySem PySem.W PySem.Calls PyProof.Rows Builtin
section
variable {prog : Program} {w : World} {M : Model} {A : Around} {E : Value → Shared → Prop} {s : Shared} {K : Frag} {x C L f : Addr} {h₀ : Heap} {m : Str → Option Value} {ox : Obj} {od : Option Obj} {b tb : Value}
end
end L3N
namespace L3
open PySem L2 PySem.W
variable [Tbs]
def D.mulOk : D → Prop
  | .int _ => True
  | .bl _ => True
  | .non => True
  | .str _ => True
  | .tup _ => True
  | .lst _ => True
  | _ => False
section
variable {X : Cx} {C f : Addr} {k : Nat} {fd : FuncData} {ps : List Str} {sp : Sp}
end
section
variable {X : Cx} {C f : Addr} {k : Nat} {fd : FuncData} {ps : List Str} {sp : SpX} {a b : Expr} {te tf : TXd} {pos : Pos}
end
def rbIsiO (C : Addr) : RB := fun ds E Q => match ds with
  | [.ins C' _, .opq (.ty n)] => C' = C ∧ n = "tuple" ∧ Q (.bl false) E
  | ds => rbIsi ds E Q
section
variable {X : Cx} {C : Addr} {a b e : Expr} {x : Str} {t : TAd} {te : TEd} {p p2 pos : Pos}
theorem d_isiO (c : C8.InsC X.K C) (hk : PySem.W.kitOne X.K (.ref C) (.type "tuple") = some false) (hm : X.mg "isinstance" = none) (ha : PAd X [a, b] t) (hg : Gl X "isinstance" := by rfl) (he : starEach [a, b] X.env = (false, eval a X.env) :: starEach [b] X.env := by rfl) (hpl : (backTo pos (starEach [b] X.env)).any (·.1) = false := by rfl) : PEd X (.Call (.Name "isinstance" p) [a, b] [] pos) (tCBd (rbIsiO C) t) :=
  d_callB (CallR.or call_isi cr_isiT) (fun en Hf H F E σ vs ds Q Qd S rx q k => by
    unfold rbIsiO at q
    split at q
    · obtain ⟨rfl, rfl, q⟩ := q
      obtain ⟨v, w, rfl, r1, r2⟩ := rx.two
      cases r2
      cases r1 with | ins s _ _ =>
      exact .inl ⟨_, _, _, _, false, rfl, .ty "tuple", .base (TyOf.ins (S.sf _ _ s) c.cl c.ha c.hn c.htk c.hm), hk, k _ _ _ _ _ _ (Same.refl _) S (.bl false) q⟩
    unfold rbIsi at q
    split at q
    · rename_i d cc hcc
      obtain ⟨v, w, rfl, r1, r2⟩ := rx.two
      split at q
      · rename_i b e
        have fin := k _ _ _ _ _ _ (Same.refl _) S (.bl b) q
        unfold isT at e
        split at e
        · rename_i n
          cases r2
          unfold kitD at e
          cases e1 : d.tyN with
          | none =>
            rw [e1] at e
            cases e
          | some m =>
            rw [e1] at e
            exact .inl ⟨_, _, _, _, b, rfl, .ty n, (r1.mono S.sf).tyX e1, kit_ty e, fin⟩
        · rename_i cs
          split at e
          · rename_i m e1
            cases r2 with | tup h l =>
            obtain ⟨us, hu, hk⟩ := isTs_ok (K := X.K) e1 l e
            exact .inr ⟨_, _, _, _, us, b, rfl, Same.sqT S.sf h, hu, (r1.mono S.sf).tyX e1, hk, fin⟩
          · cases e
        · cases e
      · exact q.elim
    · exact q.elim) hm PyProof.Rows.boot_isinstance ha hg (by decide) (by decide) he hpl
/-- isinstance(e, C), e any data -/
def tIsCO (C : Addr) (te : TEd) : TEd := fun E Q => te E fun x E1 => match x with
  | .ins C' _ => C' = C ∧ Q (.bl true) E1
  | .opq _ => False
  | .pt _ => False
  | .ps _ => False
  | _ => Q (.bl false) E1
end
/-- the slots that a lambda's body sees: n names, those at js captured -/
def mkE (n : Nat) : List Nat → List D → En
  | j :: js, d :: ds => (mkE n js ds).set j (.fz d)
  | _, _ => List.replicate n .un
theorem mkE_nil {n : Nat} {ds : List D} : mkE n [] ds = List.replicate n Sl.un := by
  unfold mkE
  rfl
theorem mkE_cons {n j : Nat} {js : List Nat} {d : D} {ds : List D} : mkE n (j :: js) (d :: ds) = (mkE n js ds).set j (Sl.fz d) := by
  conv => lhs; unfold mkE
def spG (n : Nat) (js : List Nat) (te : TXd) : SpX := fun hd Q W => te (fun x _ => W x) (mkE n js hd) (fun d _ => Q d)
section
variable {X : Cx} {A : Around} {outer : List Env} {s : Shared} {H : Hp} {E : XK} {scope : Scope} {f c' : Addr} {body : Expr} {te : TXd}
end
end L3
namespace L3
open PySem L2
variable [Tbs]
section
variable {X : Cx} {p p2 pos : Pos}
/-- xs[lo:hi], xs a variable that may be our own list: the list stays ours -/
def tSlV (j : Nat) (tl th : TOd) : TEd := fun E Q => held E j ∧ tl E fun lo E1 => th E1 fun hi E2 => match E2[j]? with
  | some (.fz x) => rdSl x lo hi E2 Q
  | some (.ow _ (.ol xs)) => rdSl (.lst xs) lo hi E2 Q
  | _ => False
/-- a constant of the module that is a text -/
theorem d_globS {x : Str} {n : Str} (hm : ∃ t, X.mg x = some (.str n t)) (hg : Gl X x := by rfl) (hd : (x == ("__debug__" : Str)) = false := by decide) : PEd X (.Name x pos) (tCD (.str n)) := by
  obtain ⟨t, hm⟩ := hm
  exact d_glob hg hm (v := .str n) ⟨t, rfl⟩ (fun _ => .str n) hd
end
end L3
namespace L3
open PySem L2
variable [Tbs]
/-- what stands behind a key -/
def getK (ks : List (Key × D)) (k : Key) : Option D := match ks with
  | [] => none
  | p :: r => if p.1 = k then some p.2 else getK r k
theorem RepK.getK {K : PySem.W.Frag} {H : Hp} : ∀ {vs : List (Key × V)} {ds : List (Key × D)}, RepK K H vs ds → ∀ {k : Key} {d : D}, L3.getK ds k = some d → ∃ v, valV vs k = some v ∧ Rep K H v d
  | _, _, .nil, _, _, h => by cases h
  | _, _, .cons (k := k0) a t, k, d, h => by
    unfold L3.getK at h
    by_cases e : k0 = k
    · rw [if_pos e] at h
      cases h
      exact ⟨_, valV_pos e, a⟩
    · rw [if_neg e] at h
      obtain ⟨v, h1, h2⟩ := RepK.getK t h
      exact ⟨v, by rw [valV_neg e, h1], h2⟩
section
variable {X : Cx} {a b e : Expr} {te ti : TEd} {p p2 pos : Pos}
def tGetV (j : Nat) (ti : TEd) : TEd := fun E Q => held E j ∧ ti E fun z E1 => match E1[j]?, z.key with
  | some (.ow _ (.od ks)), some k => (match getK ks k with | some d => Q d E1 | none => False)
  | some (.fz (.dct ks)), some k => (match getK ks k with | some d => Q d E1 | none => False)
  | _, _ => False
theorem d_getV (j : Nat) {x : Str} (hu : X.A.units + 1 < cLine) (hi : PEd X b ti) (hs : NoSl b := by exact fun _ _ => rfl) (hN : X.N[j]? = some x := by rfl) (hv : Vis X.env.scope x := by first | exact Or.inl rfl | exact Or.inr (Or.inl rfl) | exact Or.inr (Or.inr rfl))
    (hd : (x == ("__debug__" : Str)) = false := by decide) (hcd : (x == ("__classdict__" : Str)) = false := by decide) : PEd X (.Subscript (.Name x p) b pos) (tGetV j ti) :=
  pe_imp (pe_dget hu (pv j hN hv hd hcd) hi hs) fun σ H Q ⟨en, Hf, F, E, Qd, S, ⟨hh, h⟩, k⟩ => by
    obtain ⟨v, hv⟩ := hh.val S
    refine ⟨v, hv, en, Hf, F, E, _, S, h, fun v1 H1 Hf1 F1 E1 y s1 S1 r1 h1 => ?_⟩
    split at h1
    · rename_i bb ks kk e1 e2
      obtain ⟨p, vs, hv2, hp, rk, _⟩ := S1.chD e1
      rw [hv] at hv2
      cases hv2
      have ek := r1.key e2
      subst ek
      split at h1
      · rename_i d e3
        obtain ⟨w, e4, r4⟩ := rk.getK e3
        refine ⟨p, w, rfl, ?_, k _ _ _ _ _ _ s1 S1 r4 h1⟩
        rw [← e4]
        exact .k hp
      · exact h1.elim
    · rename_i ks kk e1 e2
      obtain ⟨v2, hv2, r⟩ := S1.get e1
      rw [hv] at hv2
      cases hv2
      cases r with | dct hh l =>
      have ek := r1.key e2
      subst ek
      split at h1
      · rename_i d e3
        obtain ⟨w, e4, r4⟩ := l.getK e3
        refine ⟨_, w, rfl, ?_, k _ _ _ _ _ _ s1 S1 r4 h1⟩
        rw [← e4]
        exact .k (S1.sf _ _ hh)
      · exact h1.elim
    · exact h1.elim
theorem lift_notinO {K : PySem.W.Frag} {N : List Str} {te : TEd} (j : Nat) : ∀ σ H Q, liftE K (tInO true te j) σ H Q → tDNotIn (liftE K te) (tVar j) σ H Q := fun σ H Q ⟨en, Hf, F, E, Qd, S, h, k⟩ => ⟨en, Hf, F, E, _, S, h, fun v1 H1 Hf1 F1 E1 x s1 S1 r1 h1 => by
    split at h1
    · rename_i b ks kk e1 e2
      obtain ⟨p, vs, hv, hp, rk, _⟩ := S1.chD e1
      have ek := r1.key e2
      subst ek
      refine ⟨_, hv, p, _, rfl, .k hp, ?_⟩
      rw [valV_some, rk.has]
      exact k _ _ _ _ _ _ s1 S1 (.bl _) h1
    · rename_i ks kk e1 e2
      obtain ⟨v, hv, r⟩ := S1.get e1
      cases r with | dct h l =>
      have ek := r1.key e2
      subst ek
      refine ⟨_, hv, _, _, rfl, .k (S1.sf _ _ h), ?_⟩
      rw [valV_some, l.has]
      exact k _ _ _ _ _ _ s1 S1 (.bl _) h1
    · exact h1.elim⟩
theorem t_notinDV (j : Nat) {y : Str} {py : Pos} (hu : X.A.units + 1 < cLine) (ha : PEd X a te) (hN : X.N[j]? = some y := by rfl) (hv : Vis X.env.scope y := by first | exact Or.inl rfl | exact Or.inr (Or.inl rfl) | exact Or.inr (Or.inr rfl)) (hd : (y == ("__debug__" : Str)) = false := by decide) (hcd : (y == ("__classdict__" : Str)) = false := by decide) :
    PTd X (.Compare a [.NotIn] [.Name y py] pos) (tTestD (tInO true te j)) :=
  pt_imp (pt_cmp (pc_dnotin hu ha (pv j hN hv hd hcd)) rfl) fun σ H Q ⟨en, Hf, F, E, Qd, S, h, k⟩ =>
    lift_notinO (N := X.N) j σ H _ ⟨en, Hf, F, E, _, S, h, fun v H' Hf' F' E' d s1 S1 r1 h1 => by
      split at h1
      · cases r1
        exact ⟨_, rfl, k _ _ _ _ _ s1 S1 h1⟩
      · exact h1.elim⟩
/-- x = {}, a dict that will be changed -/
def tDctV0 (i : Nat) : TSd := fun A E => canSet E i ∧ A.nx (E.set i (.ow false (.od [])))
theorem s_newDV0 {i : Nat} {x : Str} {pos' pd : Pos} (hN : X.N.Nodup) (hi : X.N[i]? = some x := by rfl) (hx : Loc X.env.scope x := by first | exact .inl rfl | exact .inr rfl)
    (hs : swapsWith (.Dict [] [] pd) (some (.Name x pos')) pos.line X.env = pure false := by rfl) (hf : X.fn x = true ∨ X.env.scope.names.lookup x = some .local := by first | exact .inl rfl | exact .inr rfl | assumption) :
    PSd X (.Assign [.Name x pos'] (.Dict [] [] pd) pos) (tDctV0 i) :=
  ps_imp (ps_set hN hi hx pe_dnewK hs hf) fun D σ H ⟨en, Hf, F, E, Dd, S, h, k1, k2, k3, k4, k5⟩ => by
    intro p np
    exact k1 _ _ _ _ _ (Same.refl _) (S.setNew (o := .od []) h.1 np ⟨p, [], rfl, rfl, upd_same, .nil⟩) h.2
end
end L3
namespace L3
open PySem L2 PySem.Spec PyProof.Rows
variable [Tbs]
theorem flat_intsV (ys : List Int) : (ys.map V.int).all flatV = true := by
  rw [List.all_map]
  exact List.all_eq_true.mpr fun _ _ => rfl
theorem vints {K : PySem.W.Frag} {H : Hp} : ∀ {ns : List Int} {vs : List V}, RepL K H vs (ns.map D.int) → vs = ns.map V.int
  | [], _, .nil => rfl
  | n :: ns, _, .cons a r => by
    cases a
    rw [vints r]
    rfl
theorem rints {K : PySem.W.Frag} {H : Hp} : ∀ ns : List Int, RepL K H (ns.map V.int) (ns.map D.int)
  | [] => .nil
  | n :: ns => .cons (.int n) (rints ns)
section
variable {X : Cx}
def tTupP0 (t : TA) : TE := fun σ H Q => t σ H fun xs H1 => xs.length ≤ sizeLine ∧ ∀ p ob, H1 p = none → ob.dict = none → Q (.ref p) (upd H1 p (.frz ob (.tup xs)))
theorem pe_tupP {es : List Expr} {t : TA} {x1 pos} (h : PA X es t) : PE X (.Tuple es x1 pos) (tTupP0 t) := by
  refine ⟨fun pins s σ H Q I hq => ?_⟩
  refine wpAny_Tuple_spliced (thn (h.run pos pins s σ H _ I hq) fun us s1 ⟨xs, H1, I1, r, z, q⟩ => ⟨by rw [← r.length]; exact z, ?_⟩)
  have hf : H1 s1.heap.objs.size = none := I1.hok.fresh (Nat.le_refl _)
  refine ⟨.ref s1.heap.objs.size, upd H1 s1.heap.objs.size (.frz { cls := .type "tuple", data := .seq us.toArray } (.tup xs)), I1.laid (t' := s1.toks) (fun b u e => Heap.get?_push_of_some _ e) (Nat.le_refl _) ?_, rfl, q _ _ hf rfl⟩
  exact ⟨Heap.get?_push_size _ rfl, z, us, r, ⟨_, Heap.get?_push_size _ rfl, rfl, _, rfl⟩⟩
def tTupP (t : TAd) : TEd := fun E Q => t E fun xs E1 => ∃ ns : List Int, xs = ns.map D.int ∧ ns.length ≤ sizeLine ∧ Q (.pt ns) E1
theorem d_tupP {es : List Expr} {t : TAd} {x1 pos} (h : PAd X es t) : PEd X (.Tuple es x1 pos) (tTupP t) :=
  pe_imp (pe_tupP h) fun σ H Q ⟨en, Hf, F, E, Qd, S, h, k⟩ =>
    ⟨en, Hf, F, E, _, S, h, fun vs H1 Hf1 F1 E1 xs s1 S1 r1 h1 => by
      obtain ⟨ns, rfl, z, q⟩ := h1
      rw [vints r1]
      exact ⟨by rw [List.length_map]; exact z, fun p ob np hd => by
        have s2 : Same Hf1 (upd Hf1 p (.frz ob (.tup (ns.map V.int)))) := same_upd (S1.sf.free np)
        exact k _ _ _ _ _ _ (s1.trans s2) (S1.new _ np) (.pt upd_same hd) q⟩⟩
def rCatP (K : PySem.W.Frag) : R2 := fun x y H Q => ∃ a b ob xs ys, x = .ref a ∧ y = .ref b ∧ SqT K H a xs ∧ H b = some (.frz ob (.tup ys)) ∧ ob.dict = none ∧ ys ≠ [] ∧ xs.length + ys.length ≤ sizeLine ∧
  (xs = [] → Q (.ref b) H) ∧ (xs ≠ [] → ∀ p o2, H p = none → o2.dict = none → Q (.ref p) (upd H p (.frz o2 (.tup (xs ++ ys)))))
theorem op_catP : OpR X (binaryOp .Add) (rCatP X.K) := by
  intro pins s σ H x y v u Q I rx ry h
  obtain ⟨a, b, ob, xs, ys, rfl, rfl, ha, hb0, hd, hy, hz, q0, q2⟩ := h
  have hb : SqT X.K H b ys := .inl (.inr ⟨ob, hb0⟩)
  cases rx
  cases ry
  obtain ⟨its, r1, p1, _⟩ := I.tuple ha
  obtain ⟨its2, r2, p2, _⟩ := I.tuple hb
  by_cases hx : xs = []
  · subst hx
    cases r1
    exact cat_tup0 p1 p2 ⟨.ref b, H, I, rfl, q0 rfl⟩
  · refine HT.cat_tup p1 p2 (fun z => hx (r1.nil_iff.mp z)) (fun z => absurd (r2.nil_iff.mp z) hy) (fun z => ?_) (by rw [← r1.length, ← r2.length]; exact hz)
    refine ⟨.ref s.heap.objs.size, _, I.laid (t' := s.toks) (o := .frz { cls := .type "tuple", data := .seq (its ++ its2).toArray } (.tup (xs ++ ys))) (fun b ob q => Heap.get?_push_of_some _ q) (Nat.le_refl _) ?_, rfl, q2 hx _ _ (I.hok.fresh (Nat.le_refl _)) rfl⟩
    exact ⟨Heap.get?_push_size _ rfl, by rw [List.length_append]; exact hz, _, r1.append r2, IsTup.new _ _⟩
def rdCatP : RD := fun x y E Q => match x, y with
  | .tup u, .pt ms => ∃ ns : List Int, u = ns.map D.int ∧ ms ≠ [] ∧ ns.length + ms.length ≤ sizeLine ∧ Q (.pt (ns ++ ms)) E
  | _, _ => False
theorem ok_catP {K : PySem.W.Frag} : OpOk K (rCatP K) rdCatP :=
  fun en Hf H F E σ vx vy x y Q Qd S rx ry q k => by
    unfold rdCatP at q
    split at q
    · obtain ⟨ns, rfl, hm, hz, q⟩ := q
      cases rx with | tup h1 l1 =>
      cases ry with | pt h2 hd =>
      rename_i ms _ _ _ _
      have e1 := vints l1
      subst e1
      refine ⟨_, _, _, _, _, rfl, rfl, Same.sqT S.sf h1, S.sf _ _ h2, hd, by simpa using hm, by rw [List.length_map, List.length_map]; exact hz, fun e => ?_, fun _ p o2 np h2 => ?_⟩
      · have e2 : ns = [] := by simpa using e
        subst e2
        exact k _ _ _ _ _ _ (Same.refl _) S (.pt (by assumption) hd) q
      · rw [← List.map_append]
        exact k.new S np (fun _ _ e => .pt e h2) q
    · exact q.elim
theorem d_addP {a b : Expr} {ta tb : TEd} {pos : Pos} (ha : PEd X a ta) (hb : PEd X b tb) : PEd X (.BinOp a .Add b pos) (tOpD rdCatP ta tb) := d_op op_catP ok_catP ha hb
def tWk (te : TEd) : TEd := fun E Q => te E fun x E1 => match x with
  | .pt ns => Q (.tup (ns.map D.int)) E1
  | _ => False
theorem d_wk {e : Expr} {te : TEd} (he : PEd X e te) : PEd X e (tWk te) :=
  pe_imp he fun σ H Q ⟨en, Hf, F, E, Qd, S, h, k⟩ => ⟨en, Hf, F, E, _, S, h, fun v H1 Hf1 F1 E1 x s1 S1 r1 h1 => by
    cases r1 with
    | pt h2 hd => exact k _ _ _ _ _ _ s1 S1 (.tup (.inl (.inr ⟨_, h2⟩)) (rints _)) h1
    | _ => exact h1.elim⟩
def rIdxI (K : PySem.W.Frag) : V → List V → Hp → VK → Prop := fun x xs H Q => ∃ p, ∃ ys : List Int, ∃ z j, x = .ref p ∧ xs = [.int z] ∧ SqT K H p (ys.map V.int) ∧ ys[j]? = some z ∧ (∀ m, m < j → ys[m]? ≠ some z) ∧ Q (.int (j : Nat)) H
theorem mt_tup_indexI : MtR X "tuple.index" (rIdxI X.K) := by
  intro pins s σ H x xs v us Q I rx rs h
  obtain ⟨p, ys, z, j, rfl, rfl, hq, hy, hno, q⟩ := h
  cases rx
  obtain ⟨u, rfl, t, rfl⟩ := vals1 rs
  obtain ⟨its, r, pl, hz⟩ := I.tuple hq
  obtain ⟨⟨cls, dd, dt, sl⟩, ho, hc, n, hd⟩ := pl
  simp only at hc hd
  subst hc
  subst hd
  have hl : its.toArray.size = ys.length := by rw [List.size_toArray, ← r.length, List.length_map]
  have hj : j < its.toArray.size := by rw [hl]; exact (List.getElem?_eq_some_iff.mp hy).1
  have at' : ∀ (m : Nat) (hm : m < its.toArray.size), ∃ y t', ys[m]? = some y ∧ its.toArray[m] = Value.int y t' := fun m hm => by
    have hm' : m < ys.length := by rw [← hl]; exact hm
    obtain ⟨w, hw, t', hw'⟩ := r.get (i := m) (x := .int ys[m]) (by simp [hm'])
    refine ⟨ys[m], t', List.getElem?_eq_getElem hm', ?_⟩
    have e := (List.getElem?_eq_some_iff.mp hw).2
    rw [← hw', ← e]
    simp
  refine call_meets PySem.F.slot_tuple_index ⟨_, ho, rfl⟩ PySem.F.entry_tuple_index (PySem.F.args_tuple_index_2 _ _) (TI.tuple_indexAt p its.toArray n dd sl (.int z t) (eqU (.int z)) j hj ?_ ?_)
    ⟨ho, fun w hw => mem_eqAt (x := .int z) ⟨t, rfl⟩ rfl r (flat_intsV ys) w (by simpa using hw), ⟨.int (j : Nat), H, I.tok _, ⟨_, rfl⟩, q⟩⟩
  · obtain ⟨y, t', h1, h2⟩ := at' j hj
    rw [hy] at h1
    cases h1
    rw [h2]
    show (z == z) = true
    exact beq_self_eq_true z
  · intro m hm hmj
    obtain ⟨y, t', h1, h2⟩ := at' m hm
    rw [h2]
    show (y == z) = false
    exact beq_eq_false_iff_ne.mpr fun e => hno m hmj (e ▸ h1)
def tBMP (r : V → List V → Hp → VK → Prop) (to : TE) (t : TA) : TE := fun σ H Q => to σ H fun x H1 => (∃ p ob ys, x = .ref p ∧ H1 p = some (.frz ob (.tup ys)) ∧ ob.dict = none) ∧ t σ H1 fun xs H2 => r x xs H2 Q
section
variable {o e : Expr} {es : List Expr} {to : TE} {t : TA} {name : Str} {apos cpos : Pos} {id : String} {r : V → List V → Hp → VK → Prop}
theorem pe_bmP (slot : Slot "tuple" name id) (hty : typeOf (.builtin id) = pure (.type "method_descriptor")) (hm : MtR X id r) (ho : PE X o to) (ha : PA X (e :: es) t)
    (hbase : attributeBase o name X.env (eval o X.env) = eval o X.env := by rfl)
    (hfew : ((backTo cpos (starEach (e :: es) X.env)).all (fun x => !x.1) && (backToKw cpos (keywordEach [] X.env)).all (fun x => x.1.isSome)
      && decide ((e :: es).length + ([] : List Keyword).length + (if ([] : List Keyword).isEmpty then 0 else 1) < 30)) = true := by rfl)
    (hline : (apos.endLine == cpos.line) = true := by rfl) (hs : starEach (e :: es) X.env = (false, eval e X.env) :: starEach es X.env := by rfl) (hplain : (backTo cpos (starEach es X.env)).any (·.1) = false := by rfl) :
    PE X (.Call (.Attribute o name apos) (e :: es) [] cpos) (tBMP r to t) := by
  refine ⟨fun pins s σ H Q I h => ?_⟩
  refine wpAny_Call_method_late hbase hfew hline rfl (thn (ho.run pins s σ H _ I h) fun v s1 ⟨x, H1, I1, r1, ⟨p, ob, ys, ex, hp, hd⟩, q1⟩ => ?_)
  subst ex
  obtain rfl : v = .ref p := r1
  obtain ⟨hg, _, its, _, pl⟩ := I1.hok p _ hp
  refine ⟨"tuple", id, PySem.F.plainAttrs_tuple, slot, hty, pl.typeIs, fun a ea => ?_, ?_⟩
  · cases ea
    exact ⟨ob, hg, hd⟩
  have hA := ha.run cpos pins s1 σ H1 _ I1 q1
  rw [hs] at hA ⊢
  refine Calls.callWith_builtin (by show (false || (backTo cpos (starEach es X.env)).any (·.1)) = false; rw [hplain] <;> rfl) (Calls.evalArgs_plain ?_)
  exact thn hA fun us s2 ⟨vs, H2, I2, r2, q2⟩ => hm pins s2 σ H2 _ vs _ us Q I2 (show RelV (.ref p) (.ref p) from rfl) r2 q2
end
section
variable {a b : Expr} {ta tb : TEd}
def tIndexP (ta tb : TEd) : TEd := fun E Q => ta E fun x E1 => match x with
  | .pt ns => tb E1 fun e E2 => ∃ (z : Int) (j : Nat), e = .int z ∧ ns[j]? = some z ∧ (∀ m, m < j → ns[m]? ≠ some z) ∧ Q (.int (j : Nat)) E2
  | _ => False
theorem d_indexP {apos cpos : Pos} (ha : PEd X a ta) (hb : PEd X b tb) (hbase : attributeBase a "index" X.env (eval a X.env) = eval a X.env := by rfl)
    (hfew : ((backTo cpos (starEach [b] X.env)).all (fun x => !x.1) && (backToKw cpos (keywordEach [] X.env)).all (fun x => x.1.isSome) && decide ([b].length + ([] : List Keyword).length + (if ([] : List Keyword).isEmpty then 0 else 1) < 30)) = true := by rfl)
    (hline : (apos.endLine == cpos.line) = true := by rfl) (hs : starEach [b] X.env = (false, eval b X.env) :: starEach [] X.env := by rfl) : PEd X (.Call (.Attribute a "index" apos) [b] [] cpos) (tIndexP ta tb) :=
  pe_imp (pe_bmP PySem.F.slot_tuple_index PySem.F.type_tuple_index mt_tup_indexI ha (pa_cons hb pa_nil hs) hbase hfew hline hs) fun σ H Q ⟨en, Hf, F, E, Qd, S, h, k⟩ => ⟨en, Hf, F, E, _, S, h, fun v H1 Hf1 F1 E1 x s1 S1 r1 h1 => by
    cases r1 with
    | pt h2 hd =>
      refine ⟨⟨_, _, _, rfl, S1.sf _ _ h2, hd⟩, en, Hf1, F1, E1, _, S1, h1, fun ws H2 Hf2 F2 E2 ds s2 S2 r2 h3 => ?_⟩
      obtain ⟨z, j, rfl, hz, hno, q⟩ := h3
      cases r2
      exact ⟨_, _, z, j, rfl, rfl, .inl (.inr ⟨_, S2.sf _ _ (s2 _ _ h2)⟩), hz, hno, k _ _ _ _ _ _ (s1.trans s2) S2 (.int _) q⟩
    | _ => exact h1.elim⟩
end
end
end L3
namespace L3
open PySem PySem.Spec L2
open PyProof.Rows (IntsAre AllBare recsOf)
variable [Tbs]
section
variable {X : Cx} {CX : CXT} {k : Nat} {f : Addr} {fd : FuncData} {ps : List Str} {sp : SpP} {E : XK} {x : Str} {p pos : Pos} {e : Expr} {es : List Expr} {t : TAd}
def tCallGh (j : Nat) (sp : SpP) (t : TAd) : TEd := fun E Q => t E fun ds E1 => isDk E1 j ∧ sp ds fun d => Q d E1
end
/-- the slots at the entry: the deck behind all names -/
def startG (N : List Str) (ds : List Sl) (o : Ow) : En := (ds ++ List.replicate (N.length - 1 - ds.length) .un) ++ [.ow true o]
section
variable {P : Program} {w : World} {K : PySem.W.Frag} {mg : Str → Option Value} {base : Heap}
end
end L3
namespace L3
open PySem PySem.Spec PyProof.Rows L2
variable [Tbs]
section
variable {X : Cx} {a b c d : Expr} {pos : Pos}
section
variable {ta tb tc td : TE}
end
section
variable {ta tb tc td : TEd}
def tChain4D (rd rd' rd'' : RD) (ta tb tc td : TEd) : TEd := fun E Q => ta E fun x E1 => tb E1 fun y E2 => rd x y E2 fun z E3 => match z with
  | .bl k => if k = true then tc E3 fun w E4 => rd' y w E4 fun z5 E5 => (match z5 with
    | .bl k5 => if k5 = true then td E5 fun w6 E6 => rd'' w w6 E6 Q else Q (.bl false) E5
    | _ => False) else Q (.bl false) E3
  | _ => False
end
end
end L3
namespace L3
open PySem PySem.Spec PySem.Calls PyProof.Rows L2
variable [Tbs]
section
variable {M : Model} {A : Around} {E : Value → Shared → Prop} {s : Shared} {pos : Pos} {x : Addr} {Q : Value → Shared → Prop}
/-- some plain instance stands at x -/
def InsSome (h : Heap) (x : Addr) : Prop := ∃ C dx od, PySem.W.InstAt h x (PySem.W.instObj C dx) C od
end
section
variable {X : Cx} {C f : Addr} {k : Nat} {fd : FuncData} {ps : List Str} {sp : Sp} {CX : CXT} {fe e : Expr} {es : List Expr} {pos : Pos} {ta : TE} {t : TA} {E : L2.St → XK}
end
section
variable {X : Cx} {C f : Addr} {k : Nat} {fd : FuncData} {ps : List Str} {sp : SpX} {fe e : Expr} {es : List Expr} {pos : Pos} {te : TXd} {tx : TAXd}
def tCallI (C : Addr) (sp : SpX) (te : TXd) (tx : TAXd) : TXd := fun W E Q => te W E fun x E1 => match x with
  | .ins C' fs => C' = C ∧ tx W E1 fun ds E2 => sp (.ins C' fs :: ds) (fun d => Q d E2) (fun x => W x E2)
  | _ => False
end
end L3
namespace L3
open PySem PySem.Spec PyProof.Rows L2
variable [Tbs]
theorem RepF.look {K : PySem.W.Frag} {H : Hp} {f : Str} : ∀ {vs : List (Str × V)} {fs : List (Str × D)} {d : D}, RepF K H vs fs → fs.lookup f = some d → ∃ w, vs.lookup f = some w ∧ Rep K H w d
  | _, _, d, .nil, e => by cases e
  | _, _, d, .cons (k := k) a t, e => by
    rw [List.lookup_cons] at e ⊢
    by_cases h : f = k
    · have z : (f == k) = true := by simpa using h
      rw [z] at e ⊢
      cases e
      exact ⟨_, rfl, a⟩
    · have z : (f == k) = false := by simpa using h
      rw [z] at e ⊢
      exact RepF.look t e
/-- another reading of one field -/
theorem RepF.re {K : PySem.W.Frag} {H : Hp} {f : Str} {w : V} {d : D} (r : Rep K H w d) : ∀ {vs : List (Str × V)} {fs : List (Str × D)} {d0 : D}, RepF K H vs fs → fs.lookup f = some d0 → vs.lookup f = some w → RepF K H vs (putFD f d fs)
  | _, _, _, .nil, e, _ => by cases e
  | _, _, _, .cons (k := k) a t, e, e2 => by
    rw [List.lookup_cons] at e e2
    unfold putFD
    by_cases h : f = k
    · have z : (f == k) = true := by simpa using h
      rw [z] at e2
      cases e2
      rw [if_pos h.symm]
      exact .cons r t
    · have z : (f == k) = false := by simpa using h
      rw [z] at e e2
      rw [if_neg (fun y => h y.symm)]
      exact .cons a (RepF.re r t e e2)
section
variable {X : Cx} {e : Expr} {te : TEd} {x f : Str} {p pos apos cpos p1 p2 pl : Pos}
/-- x.f, x our own instance -/
def tFldO (K : PySem.W.Frag) (j : Nat) (f : Str) : TEd := fun E Q => match E[j]? with
  | some (.ow _ (.oi C fs)) => OFld K C f ∧ ∃ d, fs.lookup f = some d ∧ Q d E
  | _ => False
theorem d_fldO (K : PySem.W.Frag) (j : Nat) (hK : X.K = K := by rfl) (hN : X.N[j]? = some x := by rfl) (hv : Vis X.env.scope x := by first | exact Or.inl rfl | exact Or.inr (Or.inl rfl) | exact Or.inr (Or.inr rfl)) (hd : (x == ("__debug__" : Str)) = false := by decide) (hcd : (x == ("__classdict__" : Str)) = false := by decide)
    (hb : attributeBase (.Name x p) f X.env (eval (.Name x p) X.env) = eval (.Name x p) X.env := by rfl) : PEd X (.Attribute (.Name x p) f pos) (tFldO K j f) := by
  subst hK
  exact pe_imp (pe_fld (pv (X := X) (pos := p) j hN hv hd hcd) hb) fun σ H Q ⟨en, Hf, F, E, Qd, S, h, k⟩ => by
    unfold tFldO at h
    split at h
    · rename_i b C fs e1
      obtain ⟨⟨c, n⟩, d, l, q⟩ := h
      obtain ⟨v0, hv0, ⟨a, dx, vs, rfl, hF, ha, hdx, rf⟩, _⟩ := S.own e1
      obtain ⟨w, l2, rw_⟩ := rf.look l
      exact ⟨_, hv0, a, C, dx, vs, w, rfl, ha, c, n, l2, k _ _ _ _ _ _ (Same.refl _) S rw_ q⟩
    · exact h.elim
/-- x.f = [], a list of our own (slot g, behind all names) -/
def tNewAttr (K : PySem.W.Frag) (j g : Nat) (f : Str) : TSd := fun D E => canSet E g ∧ match E[j]? with
  | some (.ow b (.oi C fs)) => OFld K C f ∧ fs.length < 1000 ∧ ∀ q, D.nx ((E.set g (.ow false (.olA q []))).set j (.ow b (.oi C (putFD f (.opq (.ref q)) fs))))
  | _ => False
/-- x.f.append(e), that list -/
def tAppAttr (K : PySem.W.Frag) (j g : Nat) (f : Str) (te : TEd) : TSd := fun D E => match E[j]?, E[g]? with
  | some (.ow _ (.oi C fs)), some (.ow b (.olA q xs)) => OFld K C f ∧ fs.lookup f = some (.opq (.ref q)) ∧ xs.length < sizeLine ∧ te E fun y E1 => E1 = E ∧ D.nx (E.set g (.ow b (.olA q (xs ++ [y]))))
  | _, _ => False
end
/-- the list in slot g becomes the field f of the instance in slot j -/
def frzE (j g : Nat) (f : Str) (P : En → Prop) : En → Prop := fun E => match E[j]?, E[g]? with
  | some (.ow b (.oi C fs)), some (.ow false (.olA q xs)) => fs.lookup f = some (.opq (.ref q)) ∧ P ((E.set g .un).set j (.ow b (.oi C (putFD f (.lst xs) fs))))
  | _, _ => False
theorem Sat.frz {K : PySem.W.Frag} {en : Et} {Hf H : Hp} {F : Nat → List Addr} {E : En} {σ : L2.St} (S : Sat K en Hf H F E σ) {j g : Nat} {f : Str} {P : En → Prop} (hjg : j ≠ g) (h : frzE j g f P E) : ∃ Hf' F' E', Same Hf Hf' ∧ Sat K en Hf' H F' E' σ ∧ P E' := by
  unfold frzE at h
  split at h
  · rename_i b C fs q xs e1 e2
    obtain ⟨l, h⟩ := h
    obtain ⟨v0, hv0, ⟨a, dx, vs, rfl, hF, ha, hdx, rf⟩, hb⟩ := S.own e1
    obtain ⟨v1, hv1, ⟨ws, rfl, hFq, hq, rl⟩, _, hfr⟩ := S.own e2
    obtain ⟨w, l2, rw_⟩ := rf.look l
    cases rw_
    have mq : q ∈ F g := by rw [hFq]; simp
    obtain ⟨nq, _, _, npr⟩ := S.fp g q mq
    have h0 : en.H0 q = none := hfr rfl q mq
    have s1 : Same Hf (upd Hf q (.lst ws)) := same_upd nq
    refine ⟨upd Hf q (.lst ws), setF F g [], _, s1, ?_, h⟩
    have sub : ∀ {i p}, p ∈ setF F g [] i → p ∈ F i ∧ i ≠ g := fun {i p} hp => by
      by_cases c : i = g
      · subst c
        rw [setF_same] at hp
        cases hp
      · rw [setF_ne c] at hp
        exact ⟨hp, c⟩
    have neq : ∀ {i p}, p ∈ setF F g [] i → p ≠ q := fun {i p} hp z => (sub hp).2 (S.dj i g q (by rw [← z]; exact (sub hp).1) mq)
    refine { sf := fun p u z => ?_, so := S.so, dom := S.dom, sp := S.sp, pf := fun p u z => ?_, gf := S.gf.trans s1, gn := fun p u z => ?_, dj := fun i k p x y => S.dj i k p (sub x).1 (sub y).1, fp := fun i p hp => ?_, len := ?_, sl := fun i s hs => ?_ }
    · by_cases c : p = q
      · subst c
        rw [upd_same] at z
        cases z
        exact hq
      · rw [upd_ne c] at z
        exact S.sf _ _ z
    · by_cases c : p = q
      · subst c
        rw [npr] at z
        cases z
      · rw [upd_ne c]
        exact S.pf p u z
    · by_cases c : p = q
      · subst c
        exact .inr h0
      · rw [upd_ne c] at z
        exact S.gn p u z
    · obtain ⟨q1, q2⟩ := S.fp i p (sub hp).1
      exact ⟨by rw [upd_ne (neq hp)]; exact q1, q2⟩
    · rw [List.length_set, List.length_set]
      exact S.len
    · by_cases cj : i = j
      · subst cj
        have lt : i < (E.set g .un).length := by
          rw [List.length_set]
          exact (List.getElem?_eq_some_iff.mp e1).1
        rw [List.getElem?_set_self lt] at hs
        cases hs
        exact ⟨_, hv0, by rw [setF_ne hjg]; exact ⟨a, dx, vs, rfl, hF, ha, hdx, RepF.re (.lst upd_same (rl.mono s1)) (rf.mono s1) l l2⟩, by rw [setF_ne hjg]; exact hb⟩
      · rw [List.getElem?_set_ne (fun z => cj z.symm)] at hs
        by_cases cg : i = g
        · subst cg
          rw [List.getElem?_set_self (List.getElem?_eq_some_iff.mp e2).1] at hs
          cases hs
          trivial
        · rw [List.getElem?_set_ne (fun z => cg z.symm)] at hs
          have z := S.sl i s hs
          cases s with
          | un => trivial
          | fz d =>
            obtain ⟨v, e, r⟩ := z
            exact ⟨v, e, r.mono s1⟩
          | xc a c d fs => exact ⟨z.1, z.2.mono s1⟩
          | cl v vs ds cc oo => exact ⟨z.1, z.2.mono s1⟩
          | ow b o =>
            obtain ⟨v, e, r, y⟩ := z
            exact ⟨v, e, by rw [setF_ne cg]; exact r.mono s1 fun p _ u hu => hu, by rw [setF_ne cg]; exact y⟩
  · exact h.elim
section
variable {X : Cx} {C fa : Addr} {k : Nat} {fd : FuncData} {ps : List Str} {so : SoX} {x m : Str} {p pos apos : Pos} {e : Expr} {es : List Expr} {tx : TAXd}
/-- x.m(..), x our own instance (slot j) -/
def tMethO (j : Nat) (C : Addr) (m : Str) (so : SoX) (tx : TAXd) : TXd := fun W E Q => (match E[j]? with
  | some (.ow _ (.oi C' fs)) => C' = C ∧ fs.lookup m = none
  | _ => False) ∧ tx W E fun ds E1 => match E1[j]? with
  | some (.ow b o) => so o ds (fun d o' => Q d (E1.set j (.ow b o'))) (fun x o' => W x (E1.set j (.ow b o')))
  | _ => False
end
section
variable {P : Program} {w : World} {K : PySem.W.Frag} {mg : Str → Option Value} {base : Heap}
end
end L3
namespace L3
open PySem PySem.Spec PyProof.Rows L2
variable [Tbs]
theorem RepL.eraseIdx {K : PySem.W.Frag} {H : Hp} : ∀ {vs : List V} {xs : List D} (j : Nat), RepL K H vs xs → RepL K H (vs.eraseIdx j) (xs.eraseIdx j)
  | _, _, _, .nil => .nil
  | _, _, 0, .cons _ t => t
  | _, _, j + 1, .cons a t => .cons a (RepL.eraseIdx j t)
section
variable {X : Cx} {e : Expr} {te : TEd} {pos : Pos}
/-- x.remove(e), x our own list, e in it -/
def tRemD (i : Nat) (te : TEd) : TSd := fun G E => ownL E i ∧ te E fun x E1 => match E1[i]? with
  | some (.ow b (.ol xs)) => ((D.lst xs).ok ∧ x.ok) ∧ ∃ (j : Nat) (z : D), xs[j]? = some z ∧ D.eqv z x = true ∧ (∀ (m : Nat) (z' : D), m < j → xs[m]? = some z' → D.eqv z' x = false) ∧ G.nx (E1.set i (.ow b (.ol (xs.eraseIdx j))))
  | _ => False
end
end L3
namespace L3
open PySem PySem.Spec PyProof.Rows L2
variable [Tbs]
section
variable {X : Cx} {a b : Expr} {ta tb : TEd} {pos : Pos}
end
end L3
namespace L3
open PySem PySem.Spec PyProof.Rows L2
variable [Tbs]
section
variable {X : Cx} {CX : CXT} {C f : Addr} {k : Nat} {fd : FuncData} {ps : List Str} {sp : Sp} {E : L2.St → XK} {o : Expr} {m : Str} {pos apos : Pos} {ta : TE}
theorem pe_methGS0 {pl : Sem Bool} (he : PE X o ta) (c : Cls X.K C) (hm : Meth X.K C m f) (F : FnG X.prog X.w X.K X.mg X.base CX k f fd ps sp) (hgd : X.A.guards = some []) (hr : Room k X.A) (hb : Binds X.K fd ps []) (hx : ∀ σ, PassesAt CX X σ (E σ))
    (ht : eval (.Call (.Attribute o m apos) [] [] pos) X.env = (do
      let ov ← eval o X.env
      standAt apos.atName
      let (f, first) ← holding [ov] (getMethod ov m pl)
      callWith pos f first (backTo pos (starEach [] X.env)) (backToKw pos (keywordEach [] X.env))) := by rfl) :
    PE X (.Call (.Attribute o m apos) [] [] pos) (fun σ H Q => ta σ H fun x H1 => ∃ a dx fs, x = .ref a ∧ H1 a = some (.ins C dx fs) ∧ fs.lookup m = none ∧ sp [x] H1 Q (E σ)) := by
  refine ⟨fun pins s σ H Q I h => ?_⟩
  refine PySem.W.methodCall_KW (pl := pl) (thn (he.run pins s σ H _ I h) fun u s1 ⟨x, H1, I1, rx, a, dx, fs, ex, ea, l, q⟩ => ?_) ht
  subst ex
  obtain rfl : u = Value.ref a := rx
  refine getmeth_ok I1 ea c hm l ?_
  exact PySem.W.callWith_K0 (first := [.ref a]) I1.kIn hm.kp (run_GS (us := [.ref a]) (vs := [.ref a]) F hgd hr hb (hx σ) I1 (.cons rfl .nil) q)
end
section
variable {X : Cx} {C f : Addr} {k : Nat} {fd : FuncData} {ps : List Str} {sp : SpX} {o : Expr} {m : Str} {pos apos : Pos} {to : TEd}
def tMethX0 (C : Addr) (m : Str) (sp : SpX) (to : TEd) : TXd := fun W E Q => to E fun x E1 => match x with
  | .ins C' fs => C' = C ∧ fs.lookup m = none ∧ sp [.ins C' fs] (fun d => Q d E1) (fun x => W x E1)
  | _ => False
theorem x_meth0 {pl : Sem Bool} (c : Cls X.K C) (hm : Meth X.K C m f) (F : FnG X.prog X.w X.K X.mg X.base (L2.CX X.prog X.w) k f fd ps (liftPX X.K X.mg sp)) (hgd : X.A.guards = some []) (hr : Room k X.A) (hb : Binds X.K fd ps []) (he : PEd X o to)
    (ht : eval (.Call (.Attribute o m apos) [] [] pos) X.env = (do
      let ov ← eval o X.env
      standAt apos.atName
      let (f, first) ← holding [ov] (getMethod ov m pl)
      callWith pos f first (backTo pos (starEach [] X.env)) (backToKw pos (keywordEach [] X.env))) := by rfl) :
    PXd X (.Call (.Attribute o m apos) [] [] pos) (tMethX0 C m sp to) :=
  pe_imp (pe_methGS0 (pl := pl) he c hm F hgd hr hb wx_pass ht) fun σ H Q ⟨en, Hf, F, E, Qd, Wd, S, h, k, kx⟩ => ⟨en, Hf, F, E, _, S, h, fun v H1 Hf1 F1 E1 d s1 S1 r1 h1 => by
    split at h1
    · rename_i C' fs
      obtain ⟨rfl, l, h1⟩ := h1
      have r1' := r1
      cases r1 with | ins h2 h3 rf =>
      refine ⟨_, _, _, rfl, S1.sf _ _ h2, rf.no l, ?_⟩
      exact ⟨Hf1, _, _, _, S1.sf, .cons r1' .nil, h1, fun v H' Hf' d s3 s4 s5 g r q => k _ _ _ _ _ _ (s1.trans s3) (S1.grow s3 s4 s5 g) r q, fun cls x d H' Hf' s3 s4 s5 g r q => kx _ _ _ _ _ _ _ (s1.trans s3) (S1.grow s3 s4 s5 g) r q⟩
    · exact h1.elim⟩
end
end L3
namespace L3
open PySem PySem.Spec PyProof.Rows L2
theorem reads_ints {h : Heap} : ∀ {us : List Value} {ks : List Int}, IntsAre us ks → ReadsAll h us (ks.map PyData.int) []
  | _, _, .nil => .nil
  | _, _, .cons n t r => .cons (as := []) (bs := []) (.int n t) (reads_ints r)
theorem each_refs {L : List (Addr × List Int)} : PySem.W.EachIs (fun v (p : Addr × List Int) => v = Value.ref p.1) (L.map fun p => Value.ref p.1) L := by
  induction L with
  | nil => exact .nil
  | cons p L ih => exact .cons rfl ih
theorem refs_each : ∀ {vs : List Value} {L : List (Addr × List Int)}, PySem.W.EachIs (fun v (p : Addr × List Int) => v = Value.ref p.1) vs L → vs = L.map fun p => Value.ref p.1
  | _, _, .nil => rfl
  | _, _, .cons e r => by rw [List.map_cons, e, refs_each r]
section
variable {P : Program} {w : World} {A : Around} {E : Value → Shared → Prop} {s : Shared}
end
section
variable {X : Cx}
end
variable [Tbs]
def tSortSetZ (te : TEd) : TEd := fun E Q => te E fun x E1 => match x with
  | .lst xs => ∃ ks : List (List Int), xs = ks.map tI ∧ ks.length < 64 ∧ (∀ k ∈ ks, k ≠ []) ∧ ∀ ks' : List (List Int), (∀ k, k ∈ ks' ↔ k ∈ ks) → ks'.Nodup → ks'.length < 64 → Q (.lst (ks'.map tI)) E1
  | _ => False
section
variable {X : Cx} {e : Expr} {te : TEd} {p p' pos pos' : Pos}
end
end L3
namespace L3
open PySem PySem.Spec PyProof.Rows L2
variable [Tbs]
section
variable {X : Cx} {a b e o : Expr} {ta tb te to : TEd} {t : TAd} {es : List Expr} {p pos cpos apos : Pos}
/-- str(int), str(text) -/
def rbStr : RB := fun ds E Q => match ds with
  | [.int i] => i.natAbs.log2 < 1920 ∧ Q (.str (toString i)) E
  | _ => False
theorem ok_str {K : PySem.W.Frag} : CallOk K (fun xs H Q => ∃ i, xs = [.int i] ∧ i.natAbs.log2 < 1920 ∧ Q (.str (toString i)) H) rbStr :=
  fun en Hf H F E σ vs ds Q Qd S rx q k => by
    unfold rbStr at q
    split at q
    · obtain ⟨v, rfl, r⟩ := rx.one
      cases r
      exact ⟨_, rfl, q.1, k _ _ _ _ _ _ (Same.refl _) S (.str _) q.2⟩
    · exact q.elim
theorem d_strc (hm : X.mg "str" = none) (ha : PAd X [a] t) (hg : Gl X "str" := by rfl) (he : starEach [a] X.env = (false, eval a X.env) :: starEach [] X.env := by rfl) : PEd X (.Call (.Name "str" p) [a] [] pos) (tCBd rbStr t) :=
  d_callT call_str_int ok_str hm PyProof.Rows.boot_str ha hg (by decide) (by decide) he
/-- o.join(e) -/
def tJoinD (to te : TEd) : TEd := fun E Q => to E fun x E1 => match x with
  | .str a => te E1 fun y E2 => ∃ ys : List Str, (y = .lst (ys.map D.str) ∨ y = .tup (ys.map D.str)) ∧ (ys.map (·.length)).sum + ys.length * a.length ≤ 16777216 ∧ Q (.str (Str.join a ys)) E2
  | _ => False
theorem RepL.strs_inv {K : PySem.W.Frag} {H : Hp} : ∀ {ns : List Str} {vs : List V}, RepL K H vs (ns.map D.str) → vs = ns.map V.str
  | [], _, .nil => rfl
  | _ :: _, _, .cons a t => by
    cases a
    rw [List.map_cons, RepL.strs_inv t]
theorem d_join (ho : PEd X o to) (he : PEd X e te) (hs : starEach [e] X.env = [(false, eval e X.env)] := by rfl) (hbase : attributeBase o "join" X.env (eval o X.env) = eval o X.env := by rfl) (hline : (apos.endLine == pos.line) = true := by rfl) :
    PEd X (.Call (.Attribute o "join" apos) [e] [] pos) (tJoinD to te) :=
  pe_imp (pe_join ho he hs hbase hline) fun σ H Q ⟨en, Hf, F, E, Qd, S, h, k⟩ => ⟨en, Hf, F, E, _, S, h, fun v H1 Hf1 F1 E1 x s1 S1 r1 h1 => by
    split at h1
    · cases r1
      rename_i s
      exact ⟨⟨_, rfl⟩, en, Hf1, F1, E1, _, S1, h1, fun w H2 Hf2 F2 E2 y s2 S2 r2 h2 => by
        obtain ⟨ys, hy, hz, q⟩ := h2
        rcases hy with rfl | rfl
        · cases r2 with | lst h0 l0 =>
          rw [l0.strs_inv] at h0
          exact ⟨s, _, ys, rfl, rfl, .inl (.inl (.inl (S2.sf _ _ h0))), hz, by rw [TL.join_eq]; exact k _ _ _ _ _ _ (s1.trans s2) S2 (.str _) q⟩
        · cases r2 with | tup h0 l0 =>
          rw [l0.strs_inv] at h0
          exact ⟨s, _, ys, rfl, rfl, .inr (Same.sqT S2.sf h0), hz, by rw [TL.join_eq]; exact k _ _ _ _ _ _ (s1.trans s2) S2 (.str _) q⟩⟩
    · exact h1.elim⟩
/-- {e} -/
def tFmtD (te : TEd) : TEd := fun E Q => te E fun x E1 => match x with
  | .str y => y.length ≤ sizeLine ∧ Q (.str y) E1
  | .int i => i.natAbs.log2 < 1920 ∧ Q (.str (toString i)) E1
  | _ => False
theorem d_fmt (he : PEd X e te) : PEd X (.FormattedValue e (-1) none pos) (tFmtD te) :=
  pe_imp (pe_fmt he) fun σ H Q ⟨en, Hf, F, E, Qd, S, h, k⟩ => ⟨en, Hf, F, E, _, S, h, fun v H1 Hf1 F1 E1 x s1 S1 r1 h1 => by
    split at h1
    · cases r1
      exact .inl ⟨_, rfl, h1.1, k _ _ _ _ _ _ s1 S1 (.str _) h1.2⟩
    · cases r1
      exact .inr ⟨_, rfl, h1.1, k _ _ _ _ _ _ s1 S1 (.str _) h1.2⟩
    · exact h1.elim⟩
def tJsD : List TEd → Str → En → (Str → En → Prop) → Prop
  | [], acc, E, Q => Q acc E
  | t :: ts, acc, E, Q => t E fun x E1 => match x with
    | .str y => (acc ++ y).length ≤ sizeLine ∧ tJsD ts (acc ++ y) E1 Q
    | _ => False
inductive PJd (X : Cx) : List Expr → List TEd → Prop where
  | nil : PJd X [] []
  | cons {e : Expr} {t : TEd} {es : List Expr} {ts : List TEd} (h : PEd X e t) (r : PJd X es ts) : PJd X (e :: es) (t :: ts)
theorem PJd.pj {es : List Expr} {ts : List TEd} (h : PJd X es ts) : PJ X es (ts.map (liftE X.K)) := by
  induction h with
  | nil => exact .nil
  | cons h r ih => exact .cons h ih
theorem tJs_of {K : PySem.W.Frag} : ∀ (ts : List TEd) (acc : Str) (σ : L2.St) (H : Hp) (Q : Str → Hp → Prop), (∃ en Hf F E Qd, Sat K en Hf H F E σ ∧ tJsD ts acc E Qd ∧ ∀ y H' Hf' F' E', Same Hf Hf' → Sat K en Hf' H' F' E' σ → Qd y E' → Q y H') → tJs (ts.map (liftE K)) acc σ H Q
  | [], acc, σ, H, Q, ⟨en, Hf, F, E, Qd, S, h, k⟩ => k _ _ _ _ _ (Same.refl _) S h
  | t :: ts, acc, σ, H, Q, ⟨en, Hf, F, E, Qd, S, h, k⟩ => ⟨en, Hf, F, E, _, S, h, fun v H1 Hf1 F1 E1 x s1 S1 r1 h1 => by
    split at h1
    · cases r1
      exact ⟨_, rfl, h1.1, tJs_of ts _ σ H1 Q ⟨en, Hf1, F1, E1, Qd, S1, h1.2, fun y H' Hf' F' E' s2 => k _ _ _ _ _ (s1.trans s2)⟩⟩
    · exact h1.elim⟩
/-- f'..' -/
def tFstD (ts : List TEd) : TEd := fun E Q => tJsD ts Str.empty E fun y E1 => Q (.str y) E1
theorem d_fst {v1 v2 : Expr} {rest : List Expr} {ts : List TEd} (h : PJd X (v1 :: v2 :: rest) ts) : PEd X (.JoinedStr (v1 :: v2 :: rest) pos) (tFstD ts) :=
  pe_imp (pe_joined h.pj) fun σ H Q ⟨en, Hf, F, E, Qd, S, h, k⟩ => tJs_of ts _ σ H _ ⟨en, Hf, F, E, _, S, h, fun y H' Hf' F' E' s1 S1 q => k _ _ _ _ _ _ s1 S1 (.str _) q⟩
end
section
variable {X : Cx} {tg iter : Expr} {te : TEd}
def chD (x : Str) : List D := x.cps.toList.map fun c => D.str ⟨#[c]⟩
end
section
variable {X : Cx} {C f : Addr} {k : Nat} {fd : FuncData} {ps : List Str} {so : SoX} {x : Str} {e : Expr} {es : List Expr} {tx : TAXd} {te : TEd} {pos cpos : Pos}
/-- x = C(..), an instance of our own -/
def tNewO (i : Nat) (C : Addr) (so : SoX) (tx : TAXd) : TSd := fun D E => tx D.ex E fun ds E1 => so (.oi C []) ds (fun d o' => d = .non ∧ canSet E1 i ∧ D.nx (E1.set i (.ow false o'))) (fun x _ => D.ex x E1)
end
end L3
namespace L3
open PySem PySem.Spec PyProof.Rows L2
variable [Tbs]
section
variable {X : Cx} {a b e o : Expr} {ta tb te to : TEd} {t : TAd} {es : List Expr} {p pos cpos apos : Pos}
end
section
variable {X : Cx} {k : Nat} {f : Addr} {fd : FuncData} {ps : List Str} {so : SoX} {x : Str} {p pos : Pos}
end
end L3
namespace L3
open PySem PySem.Spec PyProof.Rows L2
variable [Tbs]
section
variable {X : Cx} {a b : Expr} {es elts : List Expr} {t : TAd} {p p2 pos tpos cp kp : Pos} {kk j : Nat}
end
end L3
namespace L3
open PySem PySem.Spec PyProof.Rows L2
/-- how tuples of ints are ordered -/
def leZ : List Int → List Int → Bool := PySem.W.dataLe false fun k : List Int => PyData.tuple (k.map PyData.int)
def encZ (p : Addr × List Int) : PyData := .tuple (p.2.map PyData.int)
theorem each_reads2 {h : Heap} : ∀ {L : List (Addr × List Int)}, (∀ p ∈ L, TS.TupInts h (.ref p.1) p.2) → PySem.W.EachIs (fun v (p : Addr × List Int) => ∃ as, Reads h v (encZ p) as) (L.map fun p => Value.ref p.1) L
  | [], _ => .nil
  | p :: L, hL => by
    refine .cons ?_ (each_reads2 fun q hq => hL q (List.mem_cons_of_mem _ hq))
    obtain ⟨b, xs, e, ⟨o, ho, hc, n, hd⟩, i⟩ := hL p (List.mem_cons_self ..)
    cases e
    exact ⟨[], .tuple ho hc hd (reads_ints i)⟩
theorem refs_vals : ∀ {L : List (Addr × List Int)} {its : List Value}, Vals (L.map fun q => V.ref q.1) its → its = L.map fun p => Value.ref p.1
  | [], _, .nil => rfl
  | p :: L, _, .cons a t => by
    cases a
    rw [List.map_cons, refs_vals t]
section
variable {X : Cx}
def rSortedL (K : PySem.W.Frag) : List V → Hp → VK → Prop := fun vs H Q => ∃ (a : Addr) (L : List (Addr × List Int)), vs = [V.ref a] ∧ SqL K H a (L.map fun q => V.ref q.1) ∧ (∀ p ∈ L, SqT K H p.1 (p.2.map V.int)) ∧ (∀ p ∈ L, p.2 ≠ []) ∧ L.length ≤ sizeLine ∧
  ∀ p : Addr, H p = none → Q (.ref p) (upd H p (.lst ((L.mergeSort (PySem.W.dataLe false encZ)).map fun q => V.ref q.1)))
theorem cr_sortedL (hc : X.calm = true) (hu : X.A.units + 64 < cLine) : CallR X (.builtin "sorted") (rSortedL X.K) := by
  intro pins s σ H vs us Q I r h
  obtain ⟨a, L, rfl, ha, hk, hne, hz, q⟩ := h
  rw [Vals.ref1 r]
  obtain ⟨its, rv, p', hz'⟩ := I.list ha
  have eits := refs_vals rv
  subst eits
  refine PySem.W.sorted_data (R := fun v (p : Addr × List Int) => v = Value.ref p.1) (enc := encZ) p'.isList each_refs (each_reads2 fun p hp => tupInts_of (P := X.prog) (w := X.w) (I.isT (hk p hp))) (PySem.W.AllAlike.of fun b b' => ?_) (.inl fun d hd => ?_) hz (fun b hb => ?_) fun out ho eo => ?_
  · unfold encZ
    rw [PySem.W.alike]
    exact PySem.W.alike_ints _ _
  · obtain ⟨p, hp, rfl⟩ := List.mem_map.mp hd
    have n := hne p hp
    cases e : p.2 with
    | nil => exact absurd e n
    | cons x r => exact ⟨.int x, r.map PyData.int, by unfold encZ; rw [e]; rfl⟩
  · have e : (encZ b).depth = 1 := by
      unfold encZ
      rw [PyData.depth, PySem.W.depth_ints]
    rw [e]
    omega
  · have eo2 := refs_each eo
    obtain ⟨c, hg⟩ := sortedAll_at s.heap (L.map fun p => Value.ref p.1) out.toArray
    have k : ∀ b o, s.heap.get? b = some o → (sortedAll s.heap (L.map fun p => Value.ref p.1) out.toArray).get? b = some o := fun b o q => sortedAll_old q
    have hp : s.heap.objs.size ≤ s.heap.objs.size + 1 := Nat.le_succ _
    have hn : H (s.heap.objs.size + 1) = none := I.hok.fresh hp
    have hv : Vals ((L.mergeSort (PySem.W.dataLe false encZ)).map fun q => V.ref q.1) out := by rw [eo2]; exact vals_of_refs _
    have J : Inv X pins σ (upd H (s.heap.objs.size + 1) (.lst ((L.mergeSort (PySem.W.dataLe false encZ)).map fun q => V.ref q.1))) { s with heap := sortedAll s.heap (L.map fun p => Value.ref p.1) out.toArray } :=
      I.call (ch := []) (Un.laid k hp hn) (I.hok.laid k hp ⟨by rw [List.length_map, List.length_mergeSort]; exact hz, out, c, hv, hg⟩) I.bare (fun _ z => nomatch z)
    exact ⟨.ref (s.heap.objs.size + 1), _, J, rfl, q _ hn⟩
variable [Tbs]
def tSortL (te : TEd) : TEd := fun E Q => te E fun x E1 => match x with
  | .lst xs => ∃ ks : List (List Int), xs = ks.map tI ∧ ks.length ≤ sizeLine ∧ (∀ k ∈ ks, k ≠ []) ∧ Q (.lst ((ks.mergeSort leZ).map tI)) E1
  | _ => False
theorem d_sortL {e : Expr} {te : TEd} {p pos : Pos} (hc : X.calm = true) (hu : X.A.units + 64 < cLine) (hm : X.mg "sorted" = none) (he : PEd X e te) (hg : Gl X "sorted" := by rfl)
    (na : starEach [e] X.env = (false, eval e X.env) :: starEach [] X.env := by rfl) : PEd X (.Call (.Name "sorted" p) [e] [] pos) (tSortL te) :=
  pe_imp (pe_callB (cr_sortedL hc hu) hg hm PyProof.Rows.boot_sorted (pa_cons he pa_nil na) (by decide) (by decide) na) fun σ H Q ⟨en, Hf, F, E, Qd, S, h, k⟩ =>
    ⟨en, Hf, F, E, _, S, h, fun v1 H1 Hf1 F1 E1 x s1 S1 r1 h1 => by
      split at h1
      · cases r1 with | lst hl l =>
        obtain ⟨ks, rfl, hlen, hne, q⟩ := h1
        obtain ⟨L, rfl, rfl, hL⟩ := l.tups
        refine ⟨_, L, rfl, .inl (.inl (S1.sf _ _ hl)), fun p hp => Same.sqT S1.sf (hL p hp), fun p hp => hne p.2 (List.mem_map_of_mem hp), by simpa using hlen, fun a na => ?_⟩
        have kk : Fin X.K en σ Hf1 Qd Q := fun v H' Hf' F' E' d s4 S4 r4 h4 => k v H' Hf' F' E' d (s1.trans s4) S4 r4 h4
        have em : (L.map (·.2)).mergeSort leZ = (L.mergeSort (PySem.W.dataLe false encZ)).map (·.2) := (List.map_mergeSort (f := fun x : Addr × List Int => x.2) (r := PySem.W.dataLe false encZ) (s := leZ) (l := L) fun a _ b _ => rfl).symm
        rw [em] at q
        exact kk.new S1 na (fun Hf' s3 e => .lst e (RepL.ofTups fun p hp => Same.sqT s3 (hL p ((List.mergeSort_perm _ _).mem_iff.mp hp)))) q
      · exact h1.elim⟩
end
end L3
namespace L3
open PySem PySem.Spec PyProof.Rows L2
variable [Tbs]
section
variable {X : Cx} {e : Expr} {te : TXd} {pos : Pos} {es : List Expr} {t : TAXd}
end
end L3
namespace L3
open PySem L2 PySem.Spec PyProof.Rows
section
variable {P : Program} {w : World} {H : Hp} {h : Heap} {d : Addr} {xs : List (List Int × Addr)}
theorem ints_are : ∀ {ks : List Int} {us : List Value}, Vals (ks.map V.int) us → ItemsAre (intKind P w) ks us
  | [], _, r => by
    rw [List.map_nil] at r
    cases r
    exact .nil
  | k :: ks, _, r => by
    rw [List.map_cons] at r
    cases r with
    | cons h t =>
      obtain ⟨t', rfl⟩ := (show ∃ t, _ = Value.int k t from h)
      exact .cons (by show Value.isInt k (.int k t') = true; simp [Value.isInt]) (ints_are t)
end
section
variable {X : Cx} {pins : List (Addr × Obj)} {σ : L2.St} {H : Hp} {s : Shared} {d : Addr} {xs : List (List Int × Addr)}
theorem tup_key (I : Inv X pins σ H s) {b : Addr} {k : List Int} (h : SqT X.K H b (k.map V.int)) : (tupleKind (intKind X.prog X.w)).is s.heap k b := by
  obtain ⟨its, r, ⟨o, h1, h2, n, h3⟩, _⟩ := I.tuple h
  exact ⟨o, its.toArray, n, h1, h2, h3, by simpa using ints_are r⟩
end

variable [Tbs]
section
variable {K : PySem.W.Frag} {en : Et} {Hf H : Hp} {F : Nat → List Addr} {E : En} {σ : L2.St}
end
section
variable {X : Cx} {a b e v : Expr} {te tv ta tb : TEd} {t : TAd} {p pos : Pos}
end
section
variable {X : Cx} {e : Expr} {te : TEd}
end
end L3
namespace L3
open PySem L2 PySem.Spec PyProof.Rows
variable [Tbs]
section
variable {X : Cx}
variable {a e : Expr} {te ta tb : TEd} {t : TAd} {p pos : Pos}
variable {k : Nat} {f : Addr} {fd : FuncData} {ps : List Str} {so : SoX} {x : Str}
section
variable {X : Cx} {a b : Expr} {te : TXd} {tm : TMd} {pos : Pos}
end
end
end L3
namespace L3
open PySem L2
variable [Tbs]
theorem any_py {e : D} : ∀ es : List D, ((D.pyL es).any fun y => PyData.eqv y e.py) = es.any fun z => D.eqv z e
  | [] => rfl
  | z :: es => by
    show (PyData.eqv z.py e.py || (D.pyL es).any fun y => PyData.eqv y e.py) = (D.eqv z e || es.any fun z => D.eqv z e)
    rw [any_py es]
    rfl
section
variable {X : Cx} {a : Expr} {ta : TEd} {pos : Pos}
def tInW (neg : Bool) (j : Nat) (ta : TEd) : TEd := fun E Q => ta E fun x E1 => held E1 j ∧ match E1[j]? with
  | some (.ow _ (.ol ys)) => x.ok ∧ (D.lst ys).ok ∧ Q (.bl (if neg then !(ys.any fun z => D.eqv z x) else ys.any fun z => D.eqv z x)) E1
  | _ => False
theorem notinW_lift {j : Nat} {σ : L2.St} {H : Hp} {Q : VK} (h : liftE X.K (tInW true j ta) σ H Q) : tOp (rNotInD X.K) (liftE X.K ta) (tVar j) σ H Q := by
  obtain ⟨en, Hf, F, E, Qd, S, h, k⟩ := h
  refine ⟨en, Hf, F, E, _, S, h, fun v1 H1 Hf1 F1 E1 x s1 S1 r1 ⟨hh, h1⟩ => ?_⟩
  obtain ⟨v, hv⟩ := hh.val S1
  refine ⟨v, hv, ?_⟩
  split at h1
  · rename_i b ys e
    obtain ⟨v', e', ⟨p, vs, rfl, _, hp, l⟩, _⟩ := S1.own e
    rw [hv] at e'
    cases e'
    obtain ⟨ok1, ok2, q⟩ := h1
    refine ⟨x.py, D.pyL ys, (r1.mono S1.sf).dp ok1.1, (Rep.lst hp (l.mono S1.sf)).dp ok2.1, ok1.2, ok2.2, ?_⟩
    rw [any_py]
    exact k _ _ _ _ _ _ s1 S1 (.bl _) q
  · exact h1.elim
variable {x : Str} {p : Pos}
theorem lift_inWT {neg : Bool} {j : Nat} : ∀ σ H (Q : Bool → Hp → Prop), liftT X.K (tTestD (tInW neg j ta)) σ H Q → liftE X.K (tInW neg j ta) σ H fun v H' => ∃ k, v = .bl k ∧ Q k H' := fun σ H Q ⟨en, Hf, F, E, Qd, S, h, k⟩ =>
  ⟨en, Hf, F, E, _, S, h, fun v H' Hf' F' E' d s1 S1 r1 h1 => by
    split at h1
    · cases r1
      exact ⟨_, rfl, k _ _ _ _ _ s1 S1 h1⟩
    · exact h1.elim⟩
theorem t_notinW (j : Nat) (hu : X.A.units + 65 < cLine) (ha : PEd X a ta) (hN : X.N[j]? = some x := by rfl) (hv : Vis X.env.scope x := by first | exact Or.inl rfl | exact Or.inr (Or.inl rfl) | exact Or.inr (Or.inr rfl)) (hd : (x == ("__debug__" : Str)) = false := by decide) (hcd : (x == ("__classdict__" : Str)) = false := by decide) (hm : behindInMarks .NotIn (.Name x p) = false := by rfl) :
    PTd X (.Compare a [.NotIn] [.Name x p] pos) (tTestD (tInW true j ta)) := pt_imp (pt_cmpR (op_notInD hu) ha (pv j hN hv hd hcd) hm) fun σ H Q h => notinW_lift (lift_inWT σ H Q h)
end
end L3
namespace L3
open PySem PySem.Spec PyProof.Rows L2
variable [Tbs]
section
variable {P : Program} {w : World} {A : Around} {R : Result → Shared → Prop} {I : Addr} {fp wr : List Addr} {G : Array GenState → Array GenState → Prop} {n : Nat} {Pv : Nat → Value → Prop} {St : Nat → Shared → Prop}
end
section
variable {P : Program} {w : World} {A : Around} {E : Value → Shared → Prop} {s : Shared}
set_option maxHeartbeats 3200000 in
end
section
variable {X : Cx}
end
section
variable {X : Cx} {e : Expr} {te : TEd} {p p' pos pos' : Pos}
end
end L3
namespace L2
open PySem PySem.Spec PyProof.Rows
section
variable {pg : Program} {wo : World} {Ar : Around} {Er : Value → Shared → Prop} {z : Shared}
end
end L2
namespace L3
open PySem L2
variable [Tbs]
section
variable {X : Cx} {a b : Expr} {es elts : List Expr} {t : TAd} {p p2 pos tpos : Pos} {kk : Nat}
end
end L3
namespace L2
open PySem PySem.Spec PyProof.Rows
section
variable {P : Program} {w : World} {A : Around} {E : Value → Shared → Prop} {s : Shared}
end
end L2
namespace L3
open PySem L2
variable [Tbs]
section
variable {X : Cx} {a : Expr} {t : TAd} {p pos : Pos}
end
end L3
namespace L3
open PySem L2
variable [Tbs]
section
variable {X : Cx} {ve : Expr}
end
end L3
namespace L3
open PySem PySem.Spec PySem.Calls PyProof.Rows L2
variable [Tbs]
section
variable {K : PySem.W.Frag} {en : Et} {Hf H : Hp} {F : Nat → List Addr} {E : En} {σ : L2.St}
end
/-- x, y = C(..), e: x an instance of our own -/
def tParNO (i j : Nat) (C : Addr) (so : SoX) (tx : TAXd) (tm : TMd) : TSd := fun D E => tx D.ex E fun ds E1 => so (.oi C []) ds
  (fun d o' => d = .non ∧ (∃ C' fs, o' = .oi C' fs) ∧ tm E1 fun its E2 => match its with
    | [y] => canSet E2 i ∧ canSet E2 j ∧ D.nx ((E2.set i (.ow false o')).set j y.sl)
    | _ => False) (fun x _ => D.ex x E1)
section
variable {X : Cx} {C f : Addr} {k : Nat} {fd : FuncData} {ps : List Str} {so : SoX} {x0 : Str} {p cpos : Pos} {e b : Expr} {es : List Expr} {tx : TAXd} {tm : TMd} {pos : Pos}
end
section
variable {X : Cx} {a b : Expr} {ta : TEd} {tb : TXd}
end
end L3
namespace L3
open PySem PySem.Spec PySem.Calls PyProof.Rows L2 ItX
variable [Tbs]
section
variable {X : Cx} {C f : Addr} {k : Nat} {fd : FuncData} {ps : List Str} {sp : Sp}
/-- a call that raises nothing -/
theorem run_GAN {pins : List (Addr × Obj)} {σ : L2.St} {H : Hp} {s : Shared} {A : Around} {Q : VK} {us : List Value} {vs : List V} {Ex : Value → Shared → Prop} (F : FnG X.prog X.w X.K X.mg X.base (L2.CX X.prog X.w) k f fd ps sp) (hga : A.guards = some []) (hr : Room k A) (hfr : A.frames = X.A.frames) (hb : Binds X.K fd ps [])
    (I : Inv X pins σ H s) (r : Vals vs us) (h : sp vs H Q (fun _ _ _ => False)) : wpAny (model X.prog X.w) A (call (.ref f) us) (EP X pins σ Q) Ex s := by
  have lu : us.length = ps.length := r.length.symm.trans (F.len _ _ _ _ h)
  have bt : BindsTo s fd ⟨us, []⟩ (ps.zip us) := by
    have z := hb s us I.kIn (by rw [List.append_nil]; exact lu)
    rw [List.append_nil] at z
    exact z
  have e0 : Env0 X.prog X.w X.K X.mg X.base A X.stack s H := by
    have e := I.env0
    exact ⟨by rw [hfr]; exact e.frames, e.mod, e.bs, e.bsz, e.funs, e.frf, e.hok, e.bare⟩
  refine wpAny_call (codeAny_mono (F.run A hga hr X.stack s H ⟨us, []⟩ us vs Q _ e0 bt r h) fun res s' q => ?_)
  match res, q with
  | .error err, q =>
    obtain ⟨_, _, _, _, _, _, _, _, _, _, _, _, hE⟩ := q
    exact hE.elim
  | .ok (.ret u), q => exact I.after q
theorem len_at {pins : List (Addr × Obj)} {σ : L2.St} {H : Hp} {s : Shared} {a dx : Addr} {fs : List (Str × V)} {Q : VK} {A : Around} {Ex : Value → Shared → Prop} (S : Spc X.K C "__len__" f) (F : FnG X.prog X.w X.K X.mg X.base (L2.CX X.prog X.w) k f fd ps sp) (hga : A.guards = some []) (hr : Room (k + 1) A) (hfr : A.frames = X.A.frames) (hb : Binds X.K fd ps [])
    (I : Inv X pins σ H s) (ha : H a = some (.ins C dx fs)) (hs : sp [.ref a] H (fun v H' => ∃ n : Nat, v = .int (n : Nat) ∧ n ≤ sizeLine ∧ Q (.int (n : Nat)) H') (fun _ _ _ => False)) :
    wpAny (model X.prog X.w) A (call (.builtin "len") [.ref a]) (fun u s' => ∃ (n : Nat) (t : Tok) (H' : Hp), u = .int (n : Nat) t ∧ n ≤ sizeLine ∧ Inv X pins σ H' s' ∧ Q (.int (n : Nat)) H') Ex s := by
  obtain ⟨mA, J, _⟩ := ins_get I.hok ha
  obtain ⟨od, J, _⟩ := J.look
  obtain ⟨m, hF⟩ := I.fr
  refine PySem.W.len_K hF I.ok.mod.kin J S.at_ S.fn (wpAny_mono (run_GAN F (A := A.in1) hga hr.in1 hfr hb I (.cons (a := V.ref a) rfl .nil) hs) (fun v s' z => ?_) fun _ _ z => z)
  obtain ⟨x, H', I', r, n, rfl, hn, q⟩ := z
  obtain ⟨t, rfl⟩ := r
  have hl := sizeLine_eq
  exact ⟨⟨by omega, by omega⟩, n, _, H', rfl, hn, I'.tok _, q⟩
theorem call_lenS (S : Spc X.K C "__len__" f) (F : FnG X.prog X.w X.K X.mg X.base (L2.CX X.prog X.w) k f fd ps sp) (hgd : X.A.guards = some []) (hr : Room (k + 1) X.A) (hb : Binds X.K fd ps []) :
    CallR X (.builtin "len") (fun xs H Q => ∃ a dx fs, xs = [.ref a] ∧ H a = some (.ins C dx fs) ∧ sp [.ref a] H (fun v H' => ∃ n : Nat, v = .int (n : Nat) ∧ n ≤ sizeLine ∧ Q (.int (n : Nat)) H') (fun _ _ _ => False)) := by
  intro pins s σ H xs us Q I rv h
  obtain ⟨a, dx, fs, rfl, ha, hs⟩ := h
  obtain ⟨u, rfl, ru⟩ := rv.one
  cases ru
  refine wpAny_mono (len_at S F hgd hr rfl hb I ha hs) (fun u s' z => ?_) fun _ _ z => z
  obtain ⟨n, t, H', rfl, hn, I', q⟩ := z
  exact ⟨.int (n : Nat), H', I', ⟨_, rfl⟩, q⟩
theorem call_strS (S : Spc X.K C "__str__" f) (F : FnG X.prog X.w X.K X.mg X.base (L2.CX X.prog X.w) k f fd ps sp) (hgd : X.A.guards = some []) (hr : Room (k + 2) X.A) (hb : Binds X.K fd ps []) :
    CallR X (.type "str") (fun xs H Q => ∃ a dx fs, xs = [.ref a] ∧ H a = some (.ins C dx fs) ∧ sp [.ref a] H (fun v H' => ∃ y : Str, v = .str y ∧ Q (.str y) H') (fun _ _ _ => False)) := by
  intro pins s σ H xs us Q I rv h
  obtain ⟨a, dx, fs, rfl, ha, hs⟩ := h
  obtain ⟨u, rfl, ru⟩ := rv.one
  cases ru
  obtain ⟨mA, J, _⟩ := ins_get I.hok ha
  obtain ⟨od, J, _⟩ := J.look
  have hr2 : Room k X.A.in1.in1 := Room.in1 (Room.in1 hr)
  refine PySem.W.kso_call hr2.units0 I.kIn J S.at_ S.fn (wpAny_mono (run_GA F (A := X.A.in1.in1) hgd hr2 rfl hb (passAt (W := fun _ _ _ _ => False) (fun u s' ⟨_, _, _, _, _, _, _, _, _, _, _, _, _, _, _, _, w⟩ => w.elim) σ) I (.cons (a := V.ref a) rfl .nil) hs) (fun v s' z => ?_) fun _ _ z => z)
  obtain ⟨x, H', I', r, y, rfl, q⟩ := z
  obtain ⟨t, rfl⟩ := r
  exact ⟨.str y, H', I', ⟨_, rfl⟩, q⟩
end
section
variable {X : Cx}
end
section
variable {prog : Program} {w : World} {A : Around} {E : Value → Shared → Prop} {s : Shared}
end
section
variable {X : Cx} {pins : List (Addr × Obj)} {σ : L2.St} {A1 : Around} {t it q : Addr} {zs : List V} {G : Hp} {Rs : Result → Shared → Prop}
end
section
variable {X : Cx} {C fl fi : Addr} {kl ki : Nat} {fdl fdi : FuncData} {psl psi : List Str} {f : Str}
end
structure CalSAt (P : Program) (w : World) (K : PySem.W.Frag) (mg : Str → Option Value) (base : Heap) (C : Addr) (m : Str) (k : Nat) (ps : List Str) (sp : Sp) (f : Addr) (fd : FuncData) : Prop where
  fn : FnG P w K mg base (L2.CX P w) k f fd ps sp
  bd : Binds K fd ps []
  cl : Cls K C
  mt : Meth K C m f
  fi : PySem.W.fnIn K f = true
def CalS (P : Program) (w : World) (K : PySem.W.Frag) (mg : Str → Option Value) (base : Heap) (C : Addr) (m : Str) (k : Nat) (ps : List Str) (sp : Sp) : Prop := ∃ f fd, CalSAt P w K mg base C m k ps sp f fd
section
variable {P : Program} {w : World} {K : PySem.W.Frag} {mg : Str → Option Value} {base : Heap}
theorem CalSAt.spc {C : Addr} {m : Str} {k : Nat} {ps : List Str} {sp : Sp} {f : Addr} {fd : FuncData} (c : CalSAt P w K mg base C m k ps sp f fd) (p : SpcC K C) : Spc K C m f :=
  ⟨c.mt.at_, c.mt.fn, c.fi, p.sf, p.ns, p.nf, p.ic⟩
theorem cal_tab {C : Addr} {m qual : Str} {st : Stmt} {N ps : List Str} {k : Nat} {sp : Sp} (d : DfnM K C m qual st ps) (S : FnScope N ps (defScope st)) (len : ∀ vs H Q E, sp vs H Q E → vs.length = ps.length)
    (hbody : ∃ t : TS, (∀ (f : Addr) (cdv : Value) (A : Around) (outer : List Env) (s : Shared) (H : Hp) (E : XK), A.guards = some [] → Room k (A.deeper (PyProof.Rows.envOfC qual (defScope st) s.heap.objs.size f cdv)) →
      PSs (cxOf (L2.CX P w) P w K mg base N qual (defScope st) f cdv A outer s H E) (defBody st) t) ∧
      ∀ vs H Q E, sp vs H Q E → t { nx := fun _ H' => Q .non H', rt := Q } (L2.start N vs) H) : CalS P w K mg base C m (k + 1) ps sp := by
  obtain ⟨f, fd, F, hb, c, hm⟩ := d
  obtain ⟨t, h1, h2⟩ := hbody
  refine ⟨f, fd, FnG.body F S len (fun cdv A outer s H vs Q E hgd hr h => ⟨t, h1 f cdv A outer s H E hgd hr, h2 vs H Q E h⟩), hb, c, hm, ?_⟩
  obtain ⟨oc, od, kV, doc, pm, an, cdv, ct, osl, z, lk, z2⟩ := F.ex
  unfold PySem.W.fnIn
  rw [lk]
end
def tTabLen (K : PySem.W.Frag) (g : Str) : TS := tRet (tCB (fun xs H Q => ∃ p ys, xs = [.ref p] ∧ (SqL K H p ys ∨ SqT K H p ys) ∧ Q (.int ys.length) H) (tCons (tFld K (tVar 0) g) tNil))
section
variable {X : Cx} {C f fl fi : Addr} {k kl ki : Nat} {fd fdl fdi : FuncData} {ps psl psi : List Str} {sp : SpX} {g : Str} {a : Expr} {t : TAd} {p pos : Pos}
def rbLenT (C : Addr) (g : Str) : RB := fun ds E Q => match ds with
  | [.ins C' fs] => C' = C ∧ ∃ xs, fs.lookup g = some (.tup xs) ∧ xs.length ≤ sizeLine ∧ Q (.int (xs.length : Nat)) E
  | _ => False
def rbStrS (C : Addr) (sp : SpX) : RB := fun ds E Q => match ds with
  | [.ins C' fs] => C' = C ∧ sp [.ins C' fs] (fun d => ∃ y, d = .str y ∧ Q (.str y) E) (fun _ => False)
  | _ => False
theorem d_strS (SL : Spc X.K C "__str__" f) (F : FnG X.prog X.w X.K X.mg X.base (L2.CX X.prog X.w) k f fd ps (liftPX X.K X.mg sp)) (hgd : X.A.guards = some []) (hr : Room (k + 2) X.A) (hb : Binds X.K fd ps []) (hm : X.mg "str" = none) (ha : PAd X [a] t)
    (hg : Gl X "str" := by rfl) (he : starEach [a] X.env = (false, eval a X.env) :: starEach [] X.env := by rfl) : PEd X (.Call (.Name "str" p) [a] [] pos) (tCBd (rbStrS C sp) t) :=
  d_callT (call_strS SL F hgd hr hb) (fun en Hf H F E σ vs ds Q Qd S rx q k => by
    unfold rbStrS at q
    split at q
    · obtain ⟨rfl, q⟩ := q
      obtain ⟨v, rfl, r⟩ := rx.one
      have r' := r
      cases r with | ins h2 h3 rf =>
      exact ⟨_, _, _, rfl, S.sf _ _ h2, Hf, _, _, _, S.sf, .cons r' .nil, q, fun v H' Hf' d s2 s3 s4 g r ⟨y, ey, q⟩ => by
        subst ey
        cases r
        exact ⟨y, rfl, k _ _ _ _ _ _ s2 (S.grow s2 s3 s4 g) (.str y) q⟩, fun _ _ _ _ _ _ _ _ _ _ z => z.elim⟩
    · exact q.elim) hm PyProof.Rows.boot_str ha hg (by decide) (by decide) he
end
section
variable {X : Cx} {C q g f : Addr} {mc : Value} {k : Nat} {fd : FuncData} {ps : List Str} {sp : Sp} {pins : List (Addr × Obj)} {σ : L2.St} {H : Hp} {s : Shared}
end
section
variable {X : Cx} {C p0 g f : Addr} {mc : Value} {k : Nat} {fd : FuncData} {ps : List Str} {spx : SpX} {so : SoX} {x m : Str} {p pos apos : Pos} {e : Expr} {es : List Expr} {tx : TAXd} {pl : Sem Bool}
end
section
variable {P : Program} {w : World} {K : PySem.W.Frag} {mg : Str → Option Value} {base : Heap}
end
section
variable {prog : Program} {w : World} {A : Around} {E : Value → Shared → Prop} {s : Shared}
end
section
variable {X : Cx}
end
end L3
namespace L3
open PySem PySem.Spec PySem.Calls PyProof.Rows L2
variable [Tbs]
section
variable {X : Cx} {C f : Addr} {k : Nat} {fd : FuncData} {ps : List Str} {spx : SpX} {x m : Str} {p pos : Pos} {e : Expr} {es : List Expr} {tx t1 t2 : TAXd}
end
end L3
namespace L3
open PySem L2
variable [Tbs]
section
variable {X : Cx} {es : List Expr} {pos : Pos}
def gUnlD (n : Nat) (t : TGsd) : TGd := fun d E Q => match d with
  | .lst xs => xs.length = n ∧ t xs E Q
  | _ => False
end
end L3
namespace L3
open PySem L2 PySem.Spec PyProof.Rows
section
variable {P : Program} {w : World}
def vTri (x : List Int × Addr × V) (u : Value) : List Int × Addr × Value := (x.1, x.2.1, u)
abbrev tK (P : Program) (w : World) := tupleKind (intKind P w)
theorem zipW_map {α β γ δ : Type} (f : α → β → γ) (g : γ → δ) : ∀ (as : List α) (bs : List β), (List.zipWith f as bs).map g = List.zipWith (fun a b => g (f a b)) as bs
  | [], _ => by simp
  | _ :: _, [] => by simp
  | a :: as, b :: bs => by simp [zipW_map f g as bs]
theorem zipW_fst : ∀ (xs : List (List Int × Addr × V)) (us : List Value), xs.length = us.length → (List.zipWith vTri xs us).map (·.1) = xs.map (·.1)
  | [], _, _ => by simp
  | x :: xs, u :: us, h => by
    rw [List.zipWith_cons_cons, List.map_cons, List.map_cons, zipW_fst xs us (by simpa using h)]
    rfl
theorem zipW_mem : ∀ {xs : List (List Int × Addr × V)} {us : List Value} {y : List Int × Addr × Value}, y ∈ List.zipWith vTri xs us → ∃ x ∈ xs, y.1 = x.1 ∧ y.2.1 = x.2.1
  | [], _, y, h => by simp at h
  | _ :: _, [], y, h => by simp at h
  | x :: xs, u :: us, y, h => by
    rw [List.zipWith_cons_cons] at h
    rcases List.mem_cons.mp h with rfl | h
    · exact ⟨x, List.mem_cons_self .., rfl, rfl⟩
    · obtain ⟨z, hz, e⟩ := zipW_mem h
      exact ⟨z, List.mem_cons_of_mem _ hz, e⟩
end
section
variable {X : Cx} {pins : List (Addr × Obj)} {σ : L2.St} {H : Hp} {s : Shared} {d : Addr} {xs : List (List Int × Addr × V)}
theorem tup_keyV (I : Inv X pins σ H s) {b : Addr} {k : List Int} (h : SqT X.K H b (k.map V.int)) : (tK X.prog X.w).is s.heap k b := tup_key I h
theorem dtV_at (I : Inv X pins σ H s) (hd : Rd H d (dtV d xs)) (hk : ∀ x ∈ xs, SqT X.K H x.2.1 (x.1.map V.int)) : (d == sysModules) = false ∧ xs.length ≤ sizeLine ∧ (xs.map (·.1)).Nodup ∧ ∃ us, Vals (xs.map (·.2.2)) us ∧ xs.length = us.length ∧ s.heap.DictOfH (tK X.prog X.w) d (List.zipWith vTri xs us) := by
  obtain ⟨⟨a, b, c, o, es, ep, us, h1, h2, h3, hv, h4⟩, _, _⟩ := (show ObjOk X.prog X.w H s.heap d (dtV d xs) from rd_of I.hok hd)
  have l : xs.length = us.length := by have := hv.length; rwa [List.length_map] at this
  refine ⟨a, b, c, us, hv, l, o, es, ep, h1, h2, h3, ?_, ?_, ?_⟩
  · rw [h4, zipW_map]
    rfl
  · intro y hy
    obtain ⟨x, hx, e1, e2⟩ := zipW_mem hy
    rw [e1, e2]
    exact tup_keyV I (hk x hx)
  · rw [zipW_fst _ _ l]
    exact c
theorem dtV_ok {P : Program} {w : World} {H : Hp} {h : Heap} {us : List Value} (a : (d == sysModules) = false) (b : xs.length ≤ sizeLine) (hv : Vals (xs.map (·.2.2)) us) (m : h.DictOfH (tK P w) d (List.zipWith vTri xs us)) : ObjOk P w H h d (dtV d xs) := by
  obtain ⟨o, es, ep, h1, h2, h3, h4, _, h6⟩ := m
  have l : xs.length = us.length := by have := hv.length; rwa [List.length_map] at this
  refine ⟨⟨a, b, ?_, o, es, ep, us, h1, h2, h3, hv, ?_⟩, ⟨o, h1⟩, fun h h' ⟨a, b, c, o, es, ep, us, h1, h2⟩ k => ⟨a, b, c, o, es, ep, us, k _ h1, h2⟩⟩
  · rw [zipW_fst _ _ l] at h6
    exact h6
  · rw [h4, zipW_map]
    rfl
def putV (xs : List (List Int × Addr × V)) (k : List Int) (b : Addr) (v : V) : List (List Int × Addr × V) := if k ∈ xs.map (·.1) then xs.map (fun x => if x.1 = k then (x.1, x.2.1, v) else x) else xs ++ [(k, b, v)]
def findV (xs : List (List Int × Addr × V)) (k : List Int) : Option V := (xs.find? fun x => decide (x.1 = k)).map (·.2.2)
theorem atKey_V {k : List Int} : ∀ {xs : List (List Int × Addr × V)} {us : List Value}, Vals (xs.map (·.2.2)) us → match findV xs k with
    | some v => ∃ b u, atKey (List.zipWith vTri xs us) k = some (b, u) ∧ RelV v u
    | none => atKey (List.zipWith vTri xs us) k = none
  | [], _, h => by
    rw [List.map_nil] at h
    cases h
    rfl
  | x :: xs, _, h => by
    rw [List.map_cons] at h
    cases h with | cons r t =>
    rename_i u us
    have ih := atKey_V (k := k) t
    unfold findV atKey at ih ⊢
    rw [List.zipWith_cons_cons, List.find?_cons, List.find?_cons]
    by_cases c : x.1 = k
    · have c1 : decide ((vTri x u).1 = k) = true := decide_eq_true c
      rw [c1, decide_eq_true c]
      exact ⟨_, _, rfl, r⟩
    · have c1 : decide ((vTri x u).1 = k) = false := decide_eq_false c
      rw [c1, decide_eq_false c]
      exact ih
theorem findV_none {k : List Int} : ∀ {xs : List (List Int × Addr × V)}, (findV xs k).isSome = decide (k ∈ xs.map (·.1))
  | [] => rfl
  | x :: xs => by
    have ih := findV_none (k := k) (xs := xs)
    unfold findV at ih ⊢
    rw [List.find?_cons, List.map_cons]
    by_cases c : x.1 = k
    · rw [decide_eq_true c]
      exact (decide_eq_true (List.mem_cons.mpr (.inl c.symm))).symm
    · rw [decide_eq_false c]
      show ((List.find? _ xs).map (·.2.2)).isSome = _
      rw [ih]
      exact decide_eq_decide.mpr ⟨fun h => List.mem_cons_of_mem _ h, fun h => (List.mem_cons.mp h).resolve_left fun z => c z.symm⟩
theorem putAt_V {k : List Int} {v : V} {u : Value} (ru : RelV v u) : ∀ {xs : List (List Int × Addr × V)} {us : List Value}, Vals (xs.map (·.2.2)) us → ∃ us', (List.zipWith vTri xs us).map (putAt k u) = List.zipWith vTri (xs.map fun x => if x.1 = k then (x.1, x.2.1, v) else x) us' ∧ Vals ((xs.map fun x => if x.1 = k then (x.1, x.2.1, v) else x).map (·.2.2)) us'
  | [], _, h => by
    rw [List.map_nil] at h
    cases h
    exact ⟨[], rfl, .nil⟩
  | x :: xs, _, h => by
    rw [List.map_cons] at h
    cases h with | cons r t =>
    rename_i u0 us
    obtain ⟨us', e, h2⟩ := putAt_V ru t
    by_cases c : x.1 = k
    · refine ⟨u :: us', ?_, ?_⟩
      · rw [List.zipWith_cons_cons, List.map_cons, List.map_cons, List.zipWith_cons_cons, e, if_pos c]
        congr 1
        show putAt k u (vTri x u0) = _
        unfold putAt
        rw [if_pos (show (vTri x u0).1 = k from c)]
        rfl
      · rw [List.map_cons, List.map_cons, if_pos c]
        exact .cons ru h2
    · refine ⟨u0 :: us', ?_, ?_⟩
      · rw [List.zipWith_cons_cons, List.map_cons, List.map_cons, List.zipWith_cons_cons, e, if_neg c]
        congr 1
        show putAt k u (vTri x u0) = _
        unfold putAt
        rw [if_neg (show ¬ (vTri x u0).1 = k from c)]
      · rw [List.map_cons, List.map_cons, if_neg c]
        exact .cons r h2
theorem zipW_app {α β γ : Type} (f : α → β → γ) : ∀ {as as' : List α} {bs bs' : List β}, as.length = bs.length → List.zipWith f (as ++ as') (bs ++ bs') = List.zipWith f as bs ++ List.zipWith f as' bs'
  | [], _, [], _, _ => rfl
  | a :: as, _, b :: bs, _, h => by
    rw [List.cons_append, List.cons_append, List.zipWith_cons_cons, List.zipWith_cons_cons, zipW_app f (by simpa using h), List.cons_append]
theorem stored_V {k : List Int} {b : Addr} {v : V} {u : Value} (ru : RelV v u) {us : List Value} (h : Vals (xs.map (·.2.2)) us) : ∃ us', storedH (List.zipWith vTri xs us) k b u = List.zipWith vTri (putV xs k b v) us' ∧ Vals ((putV xs k b v).map (·.2.2)) us' := by
  have l : xs.length = us.length := by have := h.length; rwa [List.length_map] at this
  have ha := atKey_V (k := k) h
  have hn := findV_none (k := k) (xs := xs)
  unfold storedH putV
  by_cases c : k ∈ xs.map (·.1)
  · rw [decide_eq_true c] at hn
    obtain ⟨v0, hv0⟩ := Option.isSome_iff_exists.mp hn
    rw [hv0] at ha
    obtain ⟨b0, u0, e, _⟩ := ha
    rw [e, if_pos (show (some (b0, u0)).isSome = true from rfl), if_pos c]
    exact putAt_V ru h
  · rw [decide_eq_false c] at hn
    have hv0 : findV xs k = none := by simpa using hn
    rw [hv0] at ha
    rw [show atKey (List.zipWith vTri xs us) k = none from ha, if_neg (by decide), if_neg c]
    refine ⟨us ++ [u], by rw [zipW_app _ l]; rfl, ?_⟩
    rw [List.map_append]
    exact h.append (.cons ru .nil)
/-- d[k] = v -/
theorem dtV_put {A : Around} {E : Value → Shared → Prop} {Q : Unit → Shared → Prop} (hu : A.units + 1 < cLine) (I : Inv X pins σ H s) (hd : H d = some (dtV d xs)) (hk : ∀ x ∈ xs, SqT X.K H x.2.1 (x.1.map V.int)) {b : Addr} {k : List Int} (hb : SqT X.K H b (k.map V.int)) {v : V} {u : Value} (ru : RelV v u)
    (hl : xs.length < sizeLine) (h : ∀ s', Inv X pins σ (upd H d (dtV d (putV xs k b v))) s' → Q () s') : wpAny (model X.prog X.w) A (setItem (.ref d) (.ref b) u) Q E s := by
  obtain ⟨a, z, nd, us, hv, l, dd⟩ := dtV_at I (.inl hd) hk
  refine wpAny_setItem_heap (hsz := by rw [List.length_zipWith]; omega) (tupleKind_room_in1 hu) (tup_keyV I hb) dd fun h' dd' hs => h _ ?_
  obtain ⟨us', e, hv'⟩ := stored_V (k := k) (b := b) ru hv
  rw [e] at dd'
  have he : ∃ q, h'.get? d = some q := let ⟨q, _, _, hq, _⟩ := dd'; ⟨q, hq⟩
  refine d_write I (by rw [hd]; exact True.intro) hs he (dtV_ok a ?_ hv' dd')
  unfold putV
  split
  · rw [List.length_map]
    exact z
  · rw [List.length_append, List.length_singleton]
    omega
theorem pe_vnewE {pos : Pos} : PE X (.Dict [] [] pos) (fun _ H Q => ∀ p, H p = none → Q (.ref p) (upd H p (dtV p []))) := ⟨fun pins s σ H Q I h =>
  wpAny_Dict_empty ⟨.ref s.heap.objs.size, _, I.laid (a := s.heap.objs.size) (o := dtV s.heap.objs.size []) (t' := s.toks) (fun _ _ q => Heap.get?_push_of_some _ q) (Nat.le_refl _)
    (dtV_ok (us := []) (beq_eq_false_iff_ne.mpr (Ne.symm (Nat.ne_of_lt I.big))) (Nat.zero_le _) .nil (Heap.DictOfH.new s.heap)), rfl, h _ (I.hok.fresh (Nat.le_refl _))⟩⟩
theorem ps_vput {o i value : Expr} {pos pos' : Pos} {td ty tv : TE} (hu : X.A.units + 1 < cLine) (ho : PE X o td) (hi : PE X i ty) (hv : PE X value tv) (hs : swapsWith value (some (.Subscript o i pos')) pos.line X.env = pure false) :
    PS X (.Assign [.Subscript o i pos'] value pos) (fun D σ H => tv σ H fun v H1 => td σ H1 fun x H2 => ty σ H2 fun y H3 => ∃ a b xs k, x = .ref a ∧ y = .ref b ∧ H3 a = some (dtV a xs) ∧ (∀ x ∈ xs, SqT X.K H3 x.2.1 (x.1.map V.int)) ∧ SqT X.K H3 b (k.map V.int) ∧ xs.length < sizeLine ∧ D.nx σ (upd H3 a (dtV a (putV xs k b v)))) := by
  refine ⟨fun pins s σ H D I h => ?_⟩
  refine wpAny_Assign_Subscript (thn (hv.run pins s σ H _ I h) fun r s1 ⟨v, H1, I1, rv, q1⟩ => thn (ho.run pins s1 σ H1 _ I1 q1) fun u s2 ⟨x, H2, I2, rx, q2⟩ => thn (hi.run pins s2 σ H2 _ I2 q2) fun iv s3 ⟨y, H3, I3, ry, a, b, xs, k, ex, ey, hd, hk, hb, hl, q3⟩ => ?_) hs
  subst ex ey
  obtain rfl : u = Value.ref a := rx
  obtain rfl : iv = Value.ref b := ry
  exact dtV_put hu I3 hd hk hb rv hl fun s4 I4 => ⟨σ, _, I4, q3⟩
/-- d[k] -/
theorem pe_vget {o i : Expr} {pos : Pos} {td ty : TE} (hu : X.A.units + 1 < cLine) (ho : PE X o td) (hi : PE X i ty) (hs : NoSl i) :
    PE X (.Subscript o i pos) (fun σ H Q => td σ H fun x H1 => ty σ H1 fun y H2 => ∃ a b xs k v, x = .ref a ∧ y = .ref b ∧ Rd H2 a (dtV a xs) ∧ (∀ x ∈ xs, SqT X.K H2 x.2.1 (x.1.map V.int)) ∧ SqT X.K H2 b (k.map V.int) ∧ findV xs k = some v ∧ Q v H2) := by
  refine ⟨fun pins s σ H Q I h => ?_⟩
  refine subD_of PySem.F.slot_dict_getitem.lookup hs (thn (ho.run pins s σ H _ I h) fun u s1 ⟨x, H1, I1, rx, q1⟩ => thn (hi.run pins s1 σ H1 _ I1 q1) fun iv s2 ⟨y, H2, I2, ry, a, b, xs, k, v, ex, ey, hd, hk, hb, hv, q2⟩ => ?_)
  subst ex ey
  obtain rfl : u = Value.ref a := rx
  obtain rfl : iv = Value.ref b := ry
  obtain ⟨_, z, nd, us, vs, l, dd⟩ := dtV_at I2 hd hk
  have ha := atKey_V (k := k) vs
  rw [hv] at ha
  obtain ⟨b0, u0, e, r0⟩ := ha
  refine ⟨dd.typeIs, wpAny_getItem_heap (tupleKind_room_in1 hu) (tup_keyV I2 hb) dd e ?_⟩
  exact ⟨v, H2, I2.tok _, r0, q2⟩
/-- d.get(k, x) -/
theorem pe_vget2 {o e f : Expr} {apos cpos : Pos} {td ty tx : TE} (hu : X.A.units + 1 < cLine) (ho : PE X o td) (he : PE X e ty) (hf : PE X f tx) (m : M2 X o "get" apos e f cpos) :
    PE X (.Call (.Attribute o "get" apos) [e, f] [] cpos) (fun σ H Q => td σ H fun x H1 => ∃ a xs1, x = .ref a ∧ Rd H1 a (dtV a xs1) ∧ (∀ x ∈ xs1, SqT X.K H1 x.2.1 (x.1.map V.int)) ∧ ty σ H1 fun y H2 => tx σ H2 fun z H3 => ∃ xs b k, y = .ref b ∧ Rd H3 a (dtV a xs) ∧ (∀ x ∈ xs, SqT X.K H3 x.2.1 (x.1.map V.int)) ∧ SqT X.K H3 b (k.map V.int) ∧ Q ((findV xs k).getD z) H3) := by
  refine ⟨fun pins s σ H Q I h => ?_⟩
  refine wpAny_Call_method m.base m.few m.line PySem.F.plainAttrs_dict PySem.F.slot_dict_get PySem.F.type_dict_get (thn (ho.run pins s σ H _ I h) fun u s1 ⟨x, H1, I1, rx, a, xs1, ex, hd1, hk1, q1⟩ => ?_)
  subst ex
  obtain rfl : u = Value.ref a := rx
  obtain ⟨hs1, _, _, us1, _, _, dd1⟩ := dtV_at I1 hd1 hk1
  refine ⟨dd1.typeIs, fun b q => ?_, ?_⟩
  · cases q
    obtain ⟨ob, _, _, h1, h2, _⟩ := dd1
    exact ⟨ob, h1, h2.2.1⟩
  rw [m.trees]
  refine Calls.callWith_builtin rfl (Calls.evalArgs_plain (Calls.spliced_cons (thn (he.run pins s1 σ H1 _ I1 q1) fun iv s2 ⟨y, H2, I2, ry, q2⟩ =>
    Calls.spliced_cons (thn (hf.run pins s2 σ H2 _ I2 q2) fun fv s3 ⟨z, H3, I3, rz, xs, b, k, ey, hd, hk, hb, q3⟩ => Calls.spliced_nil ?_))))
  subst ey
  obtain rfl : iv = Value.ref b := ry
  obtain ⟨hs, _, nd, us, vs, l, dd⟩ := dtV_at I3 hd hk
  have ha := atKey_V (k := k) vs
  refine call_meetsIn PySem.F.slot_dict_get dd.typeIs PySem.F.entry_dict_get (PySem.F.args_dict_get_3 _ _ _) (meetsH_dict_get_default (tK X.prog X.w) a b hs fv) ⟨tupleKind_room_in1 hu, k, _, tup_keyV I3 hb, dd, ?_⟩
  cases hf : findV xs k with
  | none =>
    rw [hf] at ha q3
    rw [show atKey _ k = none from ha]
    exact ⟨z, H3, I3.tok _, rz, q3⟩
  | some v =>
    rw [hf] at ha q3
    obtain ⟨b0, u0, e, r0⟩ := ha
    rw [e]
    exact ⟨v, H3, I3.tok _, r0, q3⟩
/-- list(x): its keys -/
theorem call_list_dtV (hc : X.calm = true) : CallR X (.type "list") (fun vs H Q => ∃ d xs, vs = [V.ref d] ∧ Rd H d (dtV d xs) ∧ ∀ p, H p = none → Q (.ref p) (upd H p (.lst (xs.map fun x => V.ref x.2.1)))) := by
  intro pins s σ H vs us Q I r h
  obtain ⟨d, xs, rfl, hd, q⟩ := h
  obtain ⟨u, rfl, rx⟩ := r.one
  cases rx
  obtain ⟨⟨hs, z, nd, o, es, ep, ts, ho, hx, hdt, hv, he⟩, _, _⟩ := (show ObjOk X.prog X.w H s.heap d (dtV d xs) from rd_of I.hok hd)
  have l : xs.length = ts.length := by have := hv.length; rwa [List.length_map] at this
  have l1 : es.size = xs.length := by rw [← Array.length_toList, he, List.length_zipWith]; omega
  refine PySem.W.kdl_call (kdl_raw hs hx hdt) (I.ok.hd hc) ho (by omega) fun h' tk acc' c' kp e it => ?_
  have ea : acc'.toList = xs.map fun x => Value.ref x.2.1 := by
    have hl : acc'.toList.length = xs.length := by rw [Array.length_toList, it.1]; exact l1
    apply List.ext_getElem?
    intro j
    rw [List.getElem?_map]
    cases hj : acc'.toList[j]? with
    | none =>
      have h1 := List.getElem?_eq_none_iff.mp hj
      rw [List.getElem?_eq_none (by omega)]
      all_goals rfl
    | some v =>
      obtain ⟨en, hen, hv2⟩ := it.2 j v (by rw [← Array.getElem?_toList]; exact hj)
      rw [← Array.getElem?_toList, he, List.getElem?_zipWith] at hen
      cases hb : xs[j]? with
      | none =>
        rw [hb] at hen
        cases hen
      | some b =>
        cases ht : ts[j]? with
        | none =>
          rw [hb, ht] at hen
          cases hen
        | some t =>
          rw [hb, ht] at hen
          have e2 : vEnt b t = en := Option.some.inj hen
          rw [hv2, ← e2]
          all_goals rfl
  have rv : Vals (xs.map fun x => V.ref x.2.1) acc'.toList := by
    rw [ea, show (xs.map fun x => V.ref x.2.1) = (xs.map (·.2.1)).map V.ref by rw [List.map_map]; rfl, show (xs.map fun x => Value.ref x.2.1) = (xs.map (·.2.1)).map Value.ref by rw [List.map_map]; rfl]
    exact vals_refs _
  refine ⟨.ref s.heap.objs.size, _, I.laid (t' := tk) (o := .lst (xs.map fun x => V.ref x.2.1)) kp (Nat.le_refl _) ?_, rfl, q _ (I.hok.fresh (Nat.le_refl _))⟩
  exact ⟨by rw [List.length_map]; exact z, acc'.toList, c', rv, by rw [Array.toArray_toList]; exact e⟩
theorem Inv.frzV {o : Obj} (I : Inv X pins σ H s) (h : H d = some (.frz o (dtV d xs))) :
    (d == sysModules) = false ∧ s.heap.get? d = some o ∧ o.ExactDict ∧ ∃ (es : Array DictEntry) (ep : Nat), o.data = .dict es ep ∧ es.size = xs.length ∧
      ∀ (i : Nat) (y : List Int × Addr × V), xs[i]? = some y → ∃ (en : DictEntry), es[i]? = some en ∧ en.key = .ref y.2.1 := by
  obtain ⟨hd, ⟨hs, z, nd, o', es, ep, ts, ho, hx, hdt, hv, he⟩, _, _⟩ := (show ObjOk X.prog X.w H s.heap d (.frz o (dtV d xs)) from I.hok d _ h)
  rw [hd] at ho
  cases ho
  have l : xs.length = ts.length := by have := hv.length; rwa [List.length_map] at this
  refine ⟨hs, hd, hx, es, ep, hdt, by rw [← Array.length_toList, he, List.length_zipWith]; omega, fun i y e => ?_⟩
  have lt := (List.getElem?_eq_some_iff.mp e).1
  have ht : ts[i]? = some ts[i] := List.getElem?_eq_getElem (by omega)
  refine ⟨vEnt y ts[i], ?_, rfl⟩
  rw [← Array.getElem?_toList, he, List.getElem?_zipWith, e, ht]
def ItV (d : Addr) (o : Obj) (xs : List (List Int × Addr × V)) : L2.It :=
  ⟨fun i H => H d = some (.frz o (dtV d xs)) ∧ i < xs.length, fun i H x H' => H' = H ∧ ∃ y, xs[i]? = some y ∧ x = .ref y.2.1, fun i H => H d = some (.frz o (dtV d xs)) ∧ xs.length ≤ i⟩
theorem turn_V {P : Program} {w : World} {K : PySem.W.Frag} {tg : Expr} {o : Obj} {es : Array DictEntry} {ep : Nat} (it : Addr) (hod : o.data = .dict es ep) : Turn P w K tg (ItV d o xs) [it] it (fun i h => h.IsKeyIter it d i xs.length ep) where
  mem := by simp
  obj := fun i h st b hb => by
    have e : b = it := by simpa using hb
    subst e
    obtain ⟨oi, e, c, dd⟩ := st
    exact ⟨oi, e, fun v z => by rw [dd] at z; cases z⟩
  keep := fun i h h' st k => st.at fun oi e => k it (by simp) oi e
  item := by
    intro X hP hw hK hc i pins s σ H E I hf st hg
    subst hP hw hK
    obtain ⟨hd, hi⟩ := hg
    obtain ⟨f0, f1, f2, f3, f4, f5⟩ := hf it (by simp)
    obtain ⟨hs, hgd, hx, es', ep', hdt, hsz, ent⟩ := Inv.frzV I hd
    obtain ⟨rfl, rfl⟩ := dict_ep hod hdt
    obtain ⟨y, hy⟩ : ∃ p, xs[i]? = some p := ⟨xs[i], List.getElem?_eq_getElem hi⟩
    obtain ⟨en, hen, hkey⟩ := ent i y hy
    refine next_key_item st hgd hdt hsz hen fun h' st' sb => ?_
    have I1 : Inv X pins σ H { s with heap := h' } := I.turned (t' := s.toks) (fun b ob hb e => (sb.2 b hb).trans e) f0 f1 f3 f4 f5
    obtain ⟨oi, e, c, dd⟩ := id st'
    exact ⟨en.key, rfl, go_of (s := { s with heap := h' }) e c dd (by decide) ⟨.ref y.2.1, H, I1, hkey, ⟨rfl, y, hy, rfl⟩, st', fun b hb => (hf b hb).1⟩⟩
  done := by
    intro X hP hw hK hc i pins s σ H E I hf st hg
    subst hP hw hK
    obtain ⟨hd, hi⟩ := hg
    obtain ⟨f0, f1, f2, f3, f4, f5⟩ := hf it (by simp)
    obtain ⟨hs, hgd, hx, es', ep', hdt, hsz, ent⟩ := Inv.frzV I hd
    obtain ⟨rfl, rfl⟩ := dict_ep hod hdt
    exact next_key_end (I.ok.hd hc) st hgd hdt hsz hi fun h' eb => ⟨rfl, I.turned (t' := s.toks) (fun b ob hb e => eb b ob hb e) f0 f1 f3 f4 f5⟩
  self := fun A i s Q E st h => by
    refine wpAny_pyIter_slot st.typeIs F.slot_dict_keyiterator_iter (wpAny_call_entry F.slot_dict_keyiterator_iter st.typeIs F.entry_dict_keyiterator_iter ?_ (F.args_dict_keyiterator_iter_1 _))
    show wpAny _ _ (ret (.ref it)) _ _ s
    exact wpAny_pure ⟨_, rfl, "dict_keyiterator", _, st.typeIs, F.slot_dict_keyiterator_next.lookup, h⟩
def iKeysV (td : TE) : TI := fun σ H R => td σ H fun x H1 => ∃ d o xs, x = .ref d ∧ H1 d = some (.frz o (dtV d xs)) ∧ R (ItV d o xs) H1
theorem pi_keysV {tg e : Expr} {td : TE} (he : PE X e td) : PI X tg e (iKeysV td) := by
  refine ⟨fun pins s σ H R I h => ?_⟩
  refine thn (he.run pins s σ H _ I h) fun u s1 ⟨x, H1, I1, rx, d, o, xs, ex, hd, q⟩ => ?_
  subst ex
  obtain rfl : u = Value.ref d := rx
  obtain ⟨hs, hgd, hx, es, ep, hdt, hsz, ent⟩ := Inv.frzV I1 hd
  refine iter_keys hs hgd hx hdt (pi_one (tk := s1.toks) I1 _ (turn_V _ hdt) ⟨_, Heap.get?_push_size _ rfl, rfl, ?_⟩ q)
  rw [hsz] <;> rfl
end
section
variable {prog : Program} {w : World} {K : Type} [DecidableEq K] {knd : HeapKind prog w K} {A : Around} {E : Value → Shared → Prop} {s : Shared}
theorem call_dict_H {o : Addr} {more : List (K × Addr × Value)} {Q : Value → Shared → Prop} (hu : ∀ A' : Around, A'.units ≤ A.units + 8 → knd.room A') (st : knd.Stays) (hoS : (o == sysModules) = false) (ho : s.heap.DictOfH knd o more) (hsz : more.length ≤ sizeLine) (hap : (more.map fun x => knd.hash x.1).Nodup)
    (h : ∀ h', h'.DictOfH knd s.heap.objs.size more → Heap.SameBut s.heap.objs.size (s.heap.push { cls := .type "dict", data := .dict #[] }) h' → Q (.ref s.heap.objs.size) { s with heap := h' }) :
    wpAny (model prog w) A (call (.type "dict") [.ref o]) Q E s := by
  refine callType_codes (Q₁ := fun obj s₁ => obj = .ref s.heap.objs.size ∧ s₁ = { s with heap := s.heap.push { cls := .type "dict", data := .dict #[] } }) F.kt_called_dict (F.kt_typeCall_dict_1 _) F.entry_dict_init (kt_code_dict_new _ ⟨rfl, rfl⟩) ?_
  rintro obj s₁ ⟨rfl, rfl⟩
  have hnew : (s.heap.push { cls := .type "dict", data := .dict #[] }).DictOfH knd s.heap.objs.size [] := Heap.DictOfH.new s.heap
  have his : ∀ y ∈ more, knd.is s.heap y.1 y.2.1 := let ⟨_, _, _, _, _, _, _, his, _⟩ := ho; his
  have ho' : (s.heap.push { cls := .type "dict", data := .dict #[] }).DictOfH knd o more := ho.at' (fun _ e => Heap.get?_push_of_some _ e) fun y hy => st.stays (fun b o vs n e _ => Heap.get?_push_of_some _ e) (his y hy)
  have hn : (more.map (·.1)).Nodup := ho.nodup
  have hdo : s.heap.objs.size ≠ o := fun e => absurd ho.lt_size (by rw [e]; exact Nat.lt_irrefl _)
  refine ⟨hnew.typeIs, F.args_dict_init_2 _ _, ?_⟩
  unfold Builtin.«dict.__init__»
  refine wpAny_bind ?_
  unfold Builtin.Dict.selfAndRest
  refine wpAny_bind (wpAny_notOrdered_dict hnew.typeIs ?_)
  show wpAny _ _ (pure (s.heap.objs.size, [Value.ref o])) _ _ _
  refine wpAny_pure ?_
  show wpAny _ _ (Builtin.Dict.updateFrom "dict.__init__" s.heap.objs.size (.ref o) [] .none) _ _ _
  unfold Builtin.Dict.updateFrom
  refine wpAny_bind (wpAny_typeOf ho'.typeIs ?_)
  rw [if_neg (by decide)]
  refine wpAny_bind ?_
  unfold Builtin.Dict.merge
  refine wpAny_bind ?_
  unfold Builtin.Dict.readDirectly
  refine wpAny_bind (wpAny_isInstance ho'.typeIs isSubtype_dict_dict ?_)
  simp only [Bool.not_true, Bool.false_eq_true, if_false]
  refine wpAny_bind (wpAny_specialOf ho'.typeIs F.slot_dict_iter.lookup (wpAny_pure ?_))
  simp only [beq_self_eq_true, if_true]
  refine wpAny_bind (wpAny_pure ?_)
  refine wpAny_mergeDict_heap (hsz := by simpa using hsz) (hu _ (by show A.units + 1 + 1 ≤ A.units + 8; omega)) hdo hoS hnew ho' (.inr ⟨fun x hx => st.tuple (s := { s with heap := _ }) (st.stays (fun b o vs n e _ => Heap.get?_push_of_some _ e) (his x hx)), hap⟩) fun h' hd' _ hs' => ?_
  show wpAny _ _ (Builtin.Dict.addKeywords s.heap.objs.size [] >>= _) _ _ _
  rw [storedAllH_nil_of_nodup more hn] at hd'
  exact wpAny_bind (wpAny_pure (wpAny_pure ⟨rfl, h h' hd' hs'⟩))
end
end L3
namespace L3
open PySem L2 PySem.Spec PyProof.Rows
variable [Tbs]
def putTD (ks : List (List Int × D)) (k : List Int) (d : D) : List (List Int × D) := if k ∈ ks.map (·.1) then ks.map (fun x => if x.1 = k then (x.1, d) else x) else ks ++ [(k, d)]
def lkT (ks : List (List Int × D)) (k : List Int) : Option D := (ks.find? fun x => decide (x.1 = k)).map (·.2)
section
variable {K : PySem.W.Frag} {H : Hp}
theorem RepT.cons_inv {x : List Int × Addr × V} {xs : List (List Int × Addr × V)} {y : List Int × D} {ys : List (List Int × D)} (h : RepT K H (x :: xs) (y :: ys)) : x.1 = y.1 ∧ SqT K H x.2.1 (x.1.map V.int) ∧ Rep K H x.2.2 y.2 ∧ RepT K H xs ys := by
  obtain ⟨a, b, c⟩ := h
  rw [List.map_cons, List.map_cons] at a c
  obtain ⟨a1, a2⟩ := List.cons.inj a
  cases c with | cons c1 c2 =>
  exact ⟨a1, b x (List.mem_cons_self ..), c1, a2, fun z hz => b z (List.mem_cons_of_mem _ hz), c2⟩
theorem RepT.cons {x : List Int × Addr × V} {xs : List (List Int × Addr × V)} {y : List Int × D} {ys : List (List Int × D)} (a : x.1 = y.1) (b : SqT K H x.2.1 (x.1.map V.int)) (c : Rep K H x.2.2 y.2) (h : RepT K H xs ys) : RepT K H (x :: xs) (y :: ys) :=
  ⟨by rw [List.map_cons, List.map_cons, a, h.1], fun z hz => (List.mem_cons.mp hz).elim (fun e => e ▸ b) (h.2.1 z), by rw [List.map_cons, List.map_cons]; exact .cons c h.2.2⟩
theorem RepT.len {xs : List (List Int × Addr × V)} {ks : List (List Int × D)} (h : RepT K H xs ks) : xs.length = ks.length := by
  have := congrArg List.length h.1
  rwa [List.length_map, List.length_map] at this
theorem RepT.shape : ∀ {xs : List (List Int × Addr × V)} {ks : List (List Int × D)}, RepT K H xs ks → (xs = [] ∧ ks = []) ∨ ∃ x xs' y ys', xs = x :: xs' ∧ ks = y :: ys'
  | [], [], _ => .inl ⟨rfl, rfl⟩
  | [], _ :: _, h => by have := h.len; cases this
  | _ :: _, [], h => by have := h.len; cases this
  | x :: xs, y :: ys, _ => .inr ⟨x, xs, y, ys, rfl, rfl⟩
theorem RepT.find {k : List Int} : ∀ {xs : List (List Int × Addr × V)} {ks : List (List Int × D)}, RepT K H xs ks → match lkT ks k with
    | some d => ∃ v, findV xs k = some v ∧ Rep K H v d
    | none => findV xs k = none
  | [], ks, h => by
    rcases h.shape with ⟨_, rfl⟩ | ⟨_, _, _, _, e, _⟩
    · rfl
    · cases e
  | x :: xs, ks, h => by
    rcases h.shape with ⟨e, _⟩ | ⟨x', xs', y, ys, e, rfl⟩
    · cases e
    cases e
    obtain ⟨a, b, c, t⟩ := h.cons_inv
    have ih := RepT.find (k := k) t
    unfold lkT findV at ih ⊢
    rw [List.find?_cons, List.find?_cons]
    by_cases z : x.1 = k
    · rw [decide_eq_true z, decide_eq_true (show y.1 = k from a ▸ z)]
      exact ⟨_, rfl, c⟩
    · rw [decide_eq_false z, decide_eq_false (show ¬ y.1 = k from a ▸ z)]
      exact ih
theorem RepT.map_put {k : List Int} {v : V} {d : D} (r : Rep K H v d) : ∀ {xs : List (List Int × Addr × V)} {ks : List (List Int × D)}, RepT K H xs ks → RepT K H (xs.map fun x => if x.1 = k then (x.1, x.2.1, v) else x) (ks.map fun x => if x.1 = k then (x.1, d) else x)
  | [], ks, h => by
    rcases h.shape with ⟨_, rfl⟩ | ⟨_, _, _, _, e, _⟩
    · exact h
    · cases e
  | x :: xs, ks, h => by
    rcases h.shape with ⟨e, _⟩ | ⟨x', xs', y, ys, e, rfl⟩
    · cases e
    cases e
    obtain ⟨a, b, c, t⟩ := h.cons_inv
    have ih := RepT.map_put (k := k) r t
    rw [List.map_cons, List.map_cons]
    by_cases z : x.1 = k
    · rw [if_pos z, if_pos (show y.1 = k from a ▸ z)]
      exact RepT.cons a b r ih
    · rw [if_neg z, if_neg (show ¬ y.1 = k from a ▸ z)]
      exact RepT.cons a b c ih
theorem RepT.put {k : List Int} {b : Addr} {v : V} {d : D} {xs : List (List Int × Addr × V)} {ks : List (List Int × D)} (h : RepT K H xs ks) (hb : SqT K H b (k.map V.int)) (r : Rep K H v d) : RepT K H (putV xs k b v) (putTD ks k d) := by
  unfold putV putTD
  rw [h.1]
  by_cases c : k ∈ ks.map (·.1)
  · rw [if_pos c, if_pos c]
    exact RepT.map_put r h
  · rw [if_neg c, if_neg c]
    refine ⟨by rw [List.map_append, List.map_append, h.1]; rfl, fun x hx => ?_, by rw [List.map_append, List.map_append]; exact h.2.2.append (.cons r .nil)⟩
    rcases List.mem_append.mp hx with m | m
    · exact h.2.1 x m
    · rw [List.mem_singleton.mp m]
      exact hb
theorem RepT.keys : ∀ {xs : List (List Int × Addr × V)} {ks : List (List Int × D)}, RepT K H xs ks → RepL K H (xs.map fun x => V.ref x.2.1) (ks.map fun x => tI x.1)
  | [], ks, h => by
    rcases h.shape with ⟨_, rfl⟩ | ⟨_, _, _, _, e, _⟩
    · exact .nil
    · cases e
  | x :: xs, ks, h => by
    rcases h.shape with ⟨e, _⟩ | ⟨x', xs', y, ys, e, rfl⟩
    · cases e
    cases e
    obtain ⟨a, b, c, t⟩ := h.cons_inv
    rw [List.map_cons, List.map_cons, ← a]
    exact .cons (.tup b (RepL.ints _)) (RepT.keys t)
variable {en : Et} {Hf : Hp} {F : Nat → List Addr} {E : En} {σ : L2.St}
theorem lkV.rd {p : Addr} {xs : List (List Int × Addr × V)} : ∀ {lk : Option (Addr × Obj × List (List Int × Addr × V))}, lkV H p xs lk → Rd H p (dtV p xs)
  | none, h => .inl h
  | some _, ⟨_, _, h⟩ => .inr ⟨_, h⟩
theorem Sat.chV (S : Sat K en Hf H F E σ) {i : Nat} {b : Bool} {lk : Option (Addr × Obj × List (List Int × Addr × V))} {ks : List (List Int × D)} (e : E[i]? = some (.ow b (.oT lk ks))) :
    ∃ p xs, σ[i]? = some (some (.ref p)) ∧ lkV H p xs lk ∧ RepT K Hf xs ks ∧ ∀ u lk' xs' ks', lkV (upd H p u) p xs' lk' → RepT K Hf xs' ks' → Sat K en Hf (upd H p u) F (E.set i (.ow b (.oT lk' ks'))) σ := by
  obtain ⟨v, hv, ⟨p, xs, rfl, hF, hp, r⟩, _⟩ := S.own e
  have hm : p ∈ F i := by rw [hF]; simp
  obtain ⟨n1, _, _⟩ := S.fp i p hm
  refine ⟨p, xs, hv, hp, r, fun u lk' xs' ks' hl r' => S.change e hv (Same.refl _) (fun b u z => ?_) (fun q u nq z => ?_) (fun q u z => ?_) (fun _ _ z => .inl z) ⟨p, xs', rfl, hF, hl, r'⟩⟩
  · have nb : b ≠ p := fun q => by
      rw [q, n1] at z
      cases z
    rw [upd_ne nb]
    exact S.sf _ _ z
  · have nb : q ≠ p := fun y => nq (by rw [y]; exact hm)
    rw [upd_ne nb]
    exact z
  · by_cases y : q = p
    · subst y
      exact ⟨_, upd_same⟩
    · rw [upd_ne y]
      exact ⟨_, z⟩
end
section
variable {X : Cx} {a b e v : Expr} {te tv ta tb ti tx : TEd} {t : TAd} {p pos : Pos}
/-- x = {}, its keys will be tuples of ints -/
def tDctTV (i : Nat) : TSd := fun A E => canSet E i ∧ A.nx (E.set i (.ow false (.oT none [])))
theorem s_newTV {i : Nat} {x : Str} {pos' pd : Pos} (hN : X.N.Nodup) (hi : X.N[i]? = some x := by rfl) (hx : Loc X.env.scope x := by first | exact .inl rfl | exact .inr rfl)
    (hs : swapsWith (.Dict [] [] pd) (some (.Name x pos')) pos.line X.env = pure false := by rfl) (hf : X.fn x = true ∨ X.env.scope.names.lookup x = some .local := by first | exact .inl rfl | exact .inr rfl | assumption) :
    PSd X (.Assign [.Name x pos'] (.Dict [] [] pd) pos) (tDctTV i) :=
  ps_imp (ps_set hN hi hx pe_vnewE hs hf) fun D σ H ⟨en, Hf, F, E, Dd, S, h, k1, k2, k3, k4, k5⟩ => by
    intro p np
    exact k1 _ _ _ _ _ (Same.refl _) (S.setNew (o := .oT none []) h.1 np ⟨p, [], rfl, rfl, upd_same, rfl, (fun x hx => nomatch hx), .nil⟩) h.2
/-- x[e] = v, x our own dict of tuples -/
def tPutTV (j : Nat) (ti tv : TEd) : TSd := fun A E => tv E fun d E1 => (match E1[j]? with | some (.ow _ (.oT _ _)) => True | _ => False) ∧ ti E1 fun z E2 => match E2[j]? with
  | some (.ow b (.oT none ks)) => ∃ k : List Int, z = tI k ∧ ks.length < sizeLine ∧ A.nx (E2.set j (.ow b (.oT none (putTD ks k d))))
  | _ => False
theorem s_putTV (j : Nat) {x : Str} {i : Expr} {p tpos : Pos} (hu : X.A.units + 1 < cLine) (hv0 : PEd X v tv) (hi : PEd X i ti) (hN : X.N[j]? = some x := by rfl) (hv : Vis X.env.scope x := by first | exact Or.inl rfl | exact Or.inr (Or.inl rfl) | exact Or.inr (Or.inr rfl))
    (hd : (x == ("__debug__" : Str)) = false := by decide) (hcd : (x == ("__classdict__" : Str)) = false := by decide) (hs : swapsWith v (some (.Subscript (.Name x p) i tpos)) pos.line X.env = pure false := by rfl) :
    PSd X (.Assign [.Subscript (.Name x p) i tpos] v pos) (tPutTV j ti tv) :=
  ps_imp (ps_vput hu (pv j hN hv hd hcd) hi hv0 hs) fun D σ H ⟨en, Hf, F, E, Dd, S, h, k1, k2, k3, k4, k5⟩ => ⟨en, Hf, F, E, _, S, h, fun v1 H1 Hf1 F1 E1 d s1 S1 r1 ⟨h0, h1⟩ => by
    split at h0
    · rename_i b0 lk0 ks0 e0
      obtain ⟨p0, xs0, hv0, hp0, _⟩ := S1.chV e0
      refine ⟨_, hv0, en, Hf1, F1, E1, _, S1, h1, fun v2 H2 Hf2 F2 E2 z s2 S2 r2 h2 => ?_⟩
      split at h2
      · rename_i b1 ks1 e1
        obtain ⟨k, rfl, hl, h3⟩ := h2
        obtain ⟨p1, xs1, hv1, hp1, rt, ch⟩ := S2.chV e1
        rw [hv0] at hv1
        cases hv1
        cases r2 with | tup hT l =>
        have ev := RepL.ints_inv l
        subst ev
        rename_i b2
        refine ⟨_, b2, xs1, k, rfl, rfl, hp1, fun x hx => Same.sqT S2.sf (rt.2.1 x hx), Same.sqT S2.sf hT, by rw [rt.len]; exact hl, k1 _ _ _ _ _ (s1.trans s2) (ch _ none _ _ upd_same (rt.put hT (r1.mono s2))) h3⟩
      · exact h2.elim
    · exact h0.elim⟩
/-- x[e], x our own dict of tuples -/
def tGetTV (j : Nat) (ti : TEd) : TEd := fun E Q => (match E[j]? with | some (.ow _ (.oT _ _)) => True | _ => False) ∧ ti E fun z E1 => match E1[j]? with
  | some (.ow _ (.oT _ ks)) => ∃ k d, z = tI k ∧ lkT ks k = some d ∧ Q d E1
  | _ => False
theorem d_getTV (j : Nat) {x : Str} (hu : X.A.units + 1 < cLine) (hi : PEd X b ti) (hs : NoSl b := by exact fun _ _ => rfl) (hN : X.N[j]? = some x := by rfl) (hv : Vis X.env.scope x := by first | exact Or.inl rfl | exact Or.inr (Or.inl rfl) | exact Or.inr (Or.inr rfl))
    (hd : (x == ("__debug__" : Str)) = false := by decide) (hcd : (x == ("__classdict__" : Str)) = false := by decide) : PEd X (.Subscript (.Name x p) b pos) (tGetTV j ti) :=
  pe_imp (pe_vget hu (pv j hN hv hd hcd) hi hs) fun σ H Q ⟨en, Hf, F, E, Qd, S, ⟨h0, h⟩, k⟩ => by
    split at h0
    · rename_i b0 lk0 ks0 e0
      obtain ⟨p0, xs0, hv0, hp0, _⟩ := S.chV e0
      refine ⟨_, hv0, en, Hf, F, E, _, S, h, fun v1 H1 Hf1 F1 E1 z s1 S1 r1 h1 => ?_⟩
      split at h1
      · rename_i b1 lk1 ks1 e1
        obtain ⟨kk, d, rfl, hl, q⟩ := h1
        obtain ⟨p1, xs1, hv1, hp1, rt, _⟩ := S1.chV e1
        rw [hv0] at hv1
        cases hv1
        cases r1 with | tup hT l =>
        have ev := RepL.ints_inv l
        subst ev
        have fd := rt.find (k := kk)
        rw [hl] at fd
        obtain ⟨w, hw, rw_⟩ := fd
        exact ⟨_, _, xs1, kk, w, rfl, rfl, lkV.rd hp1, fun x hx => Same.sqT S1.sf (rt.2.1 x hx), Same.sqT S1.sf hT, hw, k _ _ _ _ _ _ s1 S1 rw_ q⟩
      · exact h1.elim
    · exact h0.elim
/-- x.get(e, f), x our own dict of tuples -/
def tGet2TV (j : Nat) (ti tx : TEd) : TEd := fun E Q => (match E[j]? with | some (.ow _ (.oT _ _)) => True | _ => False) ∧ ti E fun z E1 => tx E1 fun d E2 => match E2[j]? with
  | some (.ow _ (.oT _ ks)) => ∃ k, z = tI k ∧ Q ((lkT ks k).getD d) E2
  | _ => False
theorem d_get2TV (j : Nat) {x : Str} {e f : Expr} {apos cpos : Pos} (hu : X.A.units + 1 < cLine) (hi : PEd X e ti) (hf : PEd X f tx) (hN : X.N[j]? = some x := by rfl) (hv : Vis X.env.scope x := by first | exact Or.inl rfl | exact Or.inr (Or.inl rfl) | exact Or.inr (Or.inr rfl))
    (hd : (x == ("__debug__" : Str)) = false := by decide) (hcd : (x == ("__classdict__" : Str)) = false := by decide) (m : M2 X (.Name x p) "get" apos e f cpos := by exact ⟨rfl, rfl, rfl, rfl⟩) :
    PEd X (.Call (.Attribute (.Name x p) "get" apos) [e, f] [] cpos) (tGet2TV j ti tx) :=
  pe_imp (pe_vget2 hu (pv j hN hv hd hcd) hi hf m) fun σ H Q ⟨en, Hf, F, E, Qd, S, ⟨h0, h⟩, k⟩ => by
    split at h0
    · rename_i b0 lk0 ks0 e0
      obtain ⟨p0, xs0, hv0, hp0, rt0, _⟩ := S.chV e0
      refine ⟨_, hv0, p0, xs0, rfl, lkV.rd hp0, fun x hx => Same.sqT S.sf (rt0.2.1 x hx), en, Hf, F, E, _, S, h, fun v1 H1 Hf1 F1 E1 z s1 S1 r1 h1 => ⟨en, Hf1, F1, E1, _, S1, h1, fun v2 H2 Hf2 F2 E2 d s2 S2 r2 h2 => ?_⟩⟩
      split at h2
      · rename_i b1 lk1 ks1 e1
        obtain ⟨kk, rfl, q⟩ := h2
        obtain ⟨p1, xs1, hv1, hp1, rt, _⟩ := S2.chV e1
        rw [hv0] at hv1
        cases hv1
        cases r1 with | tup hT l =>
        have ev := RepL.ints_inv l
        subst ev
        refine ⟨xs1, _, kk, rfl, lkV.rd hp1, fun x hx => Same.sqT S2.sf (rt.2.1 x hx), Same.sqT S2.sf (Same.sqT s2 hT), ?_⟩
        have fd := rt.find (k := kk)
        cases hl : lkT ks1 kk with
        | none =>
          rw [hl] at fd q
          rw [show findV xs1 kk = none from fd]
          exact k _ _ _ _ _ _ (s1.trans s2) S2 r2 q
        | some d =>
          rw [hl] at fd q
          obtain ⟨w, hw, rw_⟩ := fd
          rw [hw]
          exact k _ _ _ _ _ _ (s1.trans s2) S2 rw_ q
      · exact h2.elim
    · exact h0.elim
/-- e in x, e not in x -/
def tInTV (neg : Bool) (j : Nat) (te : TEd) : TEd := fun E Q => te E fun z E1 => match E1[j]? with
  | some (.ow _ (.oT _ ks)) => ∃ k, z = tI k ∧ Q (.bl (decide (k ∈ ks.map (·.1)) != neg)) E1
  | _ => False
/-- list(x), x our own dict of tuples -/
def tListTV (j : Nat) : TEd := fun E Q => match E[j]? with
  | some (.ow _ (.oT _ ks)) => Q (.lst (ks.map fun x => tI x.1)) E
  | _ => False
theorem d_listTV (j : Nat) {y : Str} {py : Pos} (hc : X.calm = true) (hm : X.mg "list" = none) (hN : X.N[j]? = some y := by rfl) (hv : Vis X.env.scope y := by first | exact Or.inl rfl | exact Or.inr (Or.inl rfl) | exact Or.inr (Or.inr rfl))
    (hyd : (y == ("__debug__" : Str)) = false := by decide) (hyc : (y == ("__classdict__" : Str)) = false := by decide) (hg : Gl X "list" := by rfl) (he : starEach [.Name y py] X.env = (false, eval (.Name y py) X.env) :: starEach [] X.env := by rfl) :
    PEd X (.Call (.Name "list" p) [.Name y py] [] pos) (tListTV j) :=
  pe_imp (pe_callTy (call_list_dtV hc) hg hm PyProof.Rows.boot_list (pa_cons (pv j hN hv hyd hyc) pa_nil he) (by decide) (by decide) he) fun σ H Q ⟨en, Hf, F, E, Qd, S, h, k⟩ => by
    unfold tListTV at h
    split at h
    · rename_i b lk ks e
      obtain ⟨p1, xs, hv1, hp1, rt, _⟩ := S.chV e
      have kk : Fin X.K en σ Hf Qd Q := fun v H' Hf' F' E' d s4 S4 r4 h4 => k v H' Hf' F' E' d s4 S4 r4 h4
      exact ⟨_, hv1, p1, xs, rfl, lkV.rd hp1, fun q nq => kk.new S nq (fun _ s2 e => .lst e ((rt.mono s2).keys)) h⟩
    · exact h.elim
/-- len(x), x our own dict of tuples -/
def tLenTV (j : Nat) : TEd := fun E Q => match E[j]? with
  | some (.ow _ (.oT _ ks)) => Q (.int ((ks.length : Nat) : Int)) E
  | _ => False
end
section
variable {X : Cx} {elt tg : Expr} {ifs : List Expr} {te : TEd} {tt : TTd} {g : TGd} {pos p : Pos} {vs : List Nat}
def tLcT (j : Nat) (g : TGd) (tt : TTd) (te : TEd) (vs : List Nat) : TEd := fun E Q => match E[j]? with
  | some (.ow b (.oT none ks)) => ∀ L, ∃ P : Nat → List D → En → Prop, P 0 [] (wipeD (E.set j (.ow b (.oT (some L) ks))) vs) ∧ (∀ i acc E, P i acc E → E[j]? = some (.ow b (.oT (some L) ks))) ∧
      (∀ i x acc E, (ks.map fun x => tI x.1)[i]? = some x → P i acc E → g x (wipeD E vs) fun E2 => tt E2 fun b E3 => if b = true then te E3 fun y E4 => acc.length < sizeLine ∧ P (i + 1) (acc ++ [y]) (wipeD E4 vs) else P (i + 1) acc (wipeD E3 vs)) ∧
      ∀ acc E, P ks.length acc E → Q (.lst acc) (E.set j (.ow b (.oT none ks)))
  | _ => False
theorem lift_lcT {K : PySem.W.Frag} {j : Nat} : ∀ σ H Q, liftE K (tLcT j g tt te vs) σ H Q → tLockE (tLc (iKeysV (tVar j)) (liftC K vs g) (liftT K tt) (liftE K te) vs) σ H Q := fun σ H Q ⟨en, Hf, F, E, Qd, S, h, k⟩ => by
  unfold tLcT at h
  split at h
  · rename_i b ks e
    obtain ⟨p, xs, hv, hp, rt, ch⟩ := S.chV e
    refine ⟨p, dtV p xs, hp, True.intro, fun od => ?_⟩
    have S1 := ch (.frz od (dtV p xs)) (some (p, od, xs)) xs ks ⟨rfl, rfl, upd_same⟩ rt
    obtain ⟨P, p0, pj, ps, pd⟩ := h (p, od, xs)
    refine ⟨_, hv, p, od, xs, rfl, upd_same, fun D nD => ?_⟩
    obtain ⟨d1, d2⟩ := S1.fresh nD
    have lx := rt.len
    have at_ : ∀ {ens Hf2 H2 F2 E2 i acc}, P i acc E2 → Sat K ens Hf2 H2 F2 E2 σ → H2 p = some (.frz od (dtV p xs)) ∧ RepT K Hf2 xs ks := fun {ens Hf2 H2 F2 E2 i acc} p2 S2 => by
      obtain ⟨p', xs', hv', hp', rt', _⟩ := S2.chV (pj i acc E2 p2)
      obtain ⟨rfl, rfl, h3⟩ := hp'
      exact ⟨h3, rt'⟩
    refine ⟨fun i m H => m = xs.length - i ∧ i ≤ xs.length ∧ ∃ Hf' F' E' acc ws, Same Hf Hf' ∧ Sat K (en.prot D (.lst ws)) Hf' H F' E' σ ∧ RepL K Hf' ws acc ∧ P i acc E',
      ⟨xs.length, by simp, Nat.zero_le _, Hf, F, _, [], [], Same.refl _, (S1.unwipe vs rfl).protect nD, .nil, p0⟩, ?_⟩
    rintro i m H2 ⟨rfl, hi, Hf2, F2, E2, acc, ws, s2, S2, r2, p2⟩
    obtain ⟨hp2, rt2⟩ := at_ p2 S2
    by_cases hlt : i < xs.length
    · refine .inr ⟨⟨hp2, hlt⟩, fun H' => ∃ Hf' F' E' acc ws, Same Hf Hf' ∧ Sat K (en.prot D (.lst ws)) Hf' H' F' E' σ ∧ RepL K Hf' ws acc ∧ P (i + 1) acc E', fun H' q => ⟨xs.length - (i + 1), by omega, rfl, hlt, q⟩, fun x H' y => ?_⟩
      obtain ⟨rfl, y1, hy1, rfl⟩ := y
      have ex : (xs.map fun x => V.ref x.2.1)[i]? = some (.ref y1.2.1) := by rw [List.getElem?_map, hy1]; rfl
      obtain ⟨d, ed, rx⟩ := rt2.keys.getV ex
      refine ⟨_, Hf2, F2, _, d, _, S2.wipe vs, rx, ps i d acc E2 ed p2, fun σ3 H3 Hf3 F3 E3 s3 S3 w3 q3 => ⟨w3.trans (wipe_wipe vs), ?_⟩⟩
      have w3' : wipe σ3 vs = wipe σ vs := w3.trans (wipe_wipe vs)
      refine ⟨_, Hf3, F3, E3, _, S3, q3, fun b H4 Hf4 F4 E4 s4 S4 q4 => ?_⟩
      cases b with
      | false =>
        exact ⟨Hf4, F4, wipeD E4 vs, acc, ws, ((s2.trans s3).trans s4), S4.unwipe vs w3', r2.mono (s3.trans s4), q4⟩
      | true =>
        refine ⟨_, Hf4, F4, E4, _, S4, q4, fun v H5 Hf5 F5 E5 y5 s5 S5 r5 q5 => ?_⟩
        have hD : H5 D = some (.lst ws) := S5.sp D _ (show upd en.Pr D (.lst ws) D = some (.lst ws) from upd_same)
        have rr := (r2.mono ((s3.trans s4).trans s5))
        refine ⟨ws, hD, by rw [rr.length]; exact q5.1, Hf5, F5, wipeD E5 vs, acc ++ [y5], ws ++ [v], (((s2.trans s3).trans s4).trans s5), ?_, rr.append (.cons r5 .nil), q5.2⟩
        exact (S5.unwipe vs w3').chProt d1 d2 _
    · obtain rfl : i = xs.length := by omega
      have ej := pj _ acc E2 p2
      have fin := pd acc E2 (lx ▸ p2)
      obtain ⟨S3, s3⟩ := S2.unprot d1 d2
      obtain ⟨p', xs', hv', hp', rt', ch'⟩ := S3.chV ej
      obtain ⟨rfl, rfl, h3⟩ := hp'
      have S4 := ch' (dtV _ _) none _ ks upd_same rt'
      exact .inl ⟨⟨hp2, Nat.le_refl _⟩, h3, k _ _ _ _ _ _ (s2.trans s3) S4 (.lst upd_same (r2.mono s3)) fin⟩
  · exact h.elim
theorem d_lcT (j : Nat) {x : Str} {scope : Scope} {own : List (Str × Nat)} (hc : X.calm = true) (hN : X.N.Nodup) (ok : BlkOk X.N X.env.scope scope own)
    (hg : ∀ (s : Shared) (H : Hp) (C : Addr) (cl : List (Str × Addr)) (fp : List Addr), PCd (X.blk s H scope (compEnvC scope cl C X.env) fp) (own.map (·.2)) tg g) (ht : ∀ (s : Shared) (H : Hp) (C : Addr) (cl : List (Str × Addr)) (fp : List Addr), PTsd (X.blk s H scope (compEnvC scope cl C X.env) fp) ifs tt)
    (he : ∀ (s : Shared) (H : Hp) (C : Addr) (cl : List (Str × Addr)) (fp : List Addr), PEd (X.blk s H scope (compEnvC scope cl C X.env) fp) elt te) (hi : X.N[j]? = some x := by rfl) (hv : Vis X.env.scope x := by first | exact Or.inl rfl | exact Or.inr (Or.inl rfl) | exact Or.inr (Or.inr rfl))
    (hd : (x == ("__debug__" : Str)) = false := by decide) (hcd : (x == ("__classdict__" : Str)) = false := by decide) (hs : ∀ y, foldedSetIterable (.Name x p) X.env y = pure y := by intro _; rfl) :
    PEd X (.ListComp elt [⟨tg, .Name x p, ifs, 0⟩] scope pos) (tLcT j g tt te (own.map (·.2))) :=
  pe_imp (pe_lock (pe_lc hc hN (pi_keysV (pv j hi hv hd hcd)) ok hg ht he hs)) lift_lcT
end
def tHash (k : List Int) : Int := reduceHash (Builtin.Tuple.tupleHashOf (k.map hashInt))
section
variable {X : Cx} {p pos : Pos}
theorem call_dict_dtV (hu : X.A.units + 65 < cLine) : CallR X (.type "dict") (fun vs H Q => ∃ d xs, vs = [V.ref d] ∧ Rd H d (dtV d xs) ∧ (∀ x ∈ xs, SqT X.K H x.2.1 (x.1.map V.int)) ∧ (xs.map fun x => tHash x.1).Nodup ∧ ∀ p, H p = none → Q (.ref p) (upd H p (dtV p xs))) := by
  intro pins s σ H vs us Q I r h
  obtain ⟨d, xs, rfl, hd, hk, hh, q⟩ := h
  obtain ⟨u, rfl, rx⟩ := r.one
  cases rx
  obtain ⟨hs, z, nd, us, hv, l, dd⟩ := dtV_at I hd hk
  refine call_dict_H (fun A' h => show A'.units < cLine by omega) tupleKind_stays hs dd (by rw [List.length_zipWith]; omega) ?_ fun h' dd' sb => ?_
  · rw [show (List.zipWith vTri xs us).map (fun x => (tK X.prog X.w).hash x.1) = ((List.zipWith vTri xs us).map (·.1)).map tHash by rw [List.map_map]; rfl, zipW_fst _ _ l, List.map_map]
    exact hh
  · refine ⟨.ref s.heap.objs.size, _, I.laid (a := s.heap.objs.size) (o := dtV s.heap.objs.size xs) (t' := s.toks) (fun b q hq => (sb.2 b (Nat.ne_of_lt (Heap.lt_size hq))).trans (Heap.get?_push_of_some _ hq)) (Nat.le_refl _)
      (dtV_ok (us := us) (beq_eq_false_iff_ne.mpr (Ne.symm (Nat.ne_of_lt I.big))) z hv dd'), rfl, q _ (I.hok.fresh (Nat.le_refl _))⟩
def tCopyTV (i j : Nat) : TSd := fun A E => match E[j]? with
  | some (.ow _ (.oT _ ks)) => (ks.map fun x => tHash x.1).Nodup ∧ canSet E i ∧ A.nx (E.set i (.ow false (.oT none ks)))
  | _ => False
theorem s_copyTV {i : Nat} (j : Nat) {x y : Str} {pos' py cpos : Pos} (hN : X.N.Nodup) (hc : X.calm = true) (hu : X.A.units + 65 < cLine) (hm : X.mg "dict" = none) (hi : X.N[i]? = some x := by rfl) (hj : X.N[j]? = some y := by rfl) (hv : Vis X.env.scope y := by first | exact Or.inl rfl | exact Or.inr (Or.inl rfl) | exact Or.inr (Or.inr rfl))
    (hyd : (y == ("__debug__" : Str)) = false := by decide) (hyc : (y == ("__classdict__" : Str)) = false := by decide) (hx : Loc X.env.scope x := by first | exact .inl rfl | exact .inr rfl) (hg : Gl X "dict" := by rfl)
    (he : starEach [.Name y py] X.env = (false, eval (.Name y py) X.env) :: starEach [] X.env := by rfl)
    (hs : swapsWith (.Call (.Name "dict" p) [.Name y py] [] cpos) (some (.Name x pos')) pos.line X.env = pure false := by rfl) (hf : X.fn x = true ∨ X.env.scope.names.lookup x = some .local := by first | exact .inl rfl | exact .inr rfl | assumption) :
    PSd X (.Assign [.Name x pos'] (.Call (.Name "dict" p) [.Name y py] [] cpos) pos) (tCopyTV i j) :=
  ps_imp (ps_set hN hi hx (pe_callTy (call_dict_dtV hu) hg hm PyProof.Rows.boot_dict (pa_cons (pv j hj hv hyd hyc) pa_nil he) (by decide) (by decide) he) hs hf) fun D σ H ⟨en, Hf, F, E, Dd, S, h, k1, k2, k3, k4, k5⟩ => by
    unfold tCopyTV at h
    split at h
    · rename_i b lk ks e
      obtain ⟨hh, hcs, h⟩ := h
      obtain ⟨p1, xs, hv1, hp1, rt, _⟩ := S.chV e
      refine ⟨_, hv1, p1, xs, rfl, lkV.rd hp1, fun x hx => Same.sqT S.sf (rt.2.1 x hx), ?_, fun q nq => ?_⟩
      · rw [show xs.map (fun x => tHash x.1) = (xs.map (·.1)).map tHash by rw [List.map_map]; rfl, rt.1, List.map_map]
        exact hh
      · exact k1 _ _ _ _ _ (Same.refl _) (S.setNew (o := .oT none ks) hcs nq ⟨q, xs, rfl, rfl, upd_same, rt⟩) h
    · exact h.elim
end
end L3
namespace L3
open PySem L2 PySem.Spec PyProof.Rows
variable [Tbs]
/-- two tuples of ints compared -/
def lexI (r : Int → Int → Bool) (z : Nat → Nat → Bool) (ns ms : List Int) : Bool := Ob.lexAt (fun j => decide (ns.getD j 0 = ms.getD j 0)) (fun j => r (ns.getD j 0) (ms.getD j 0)) (z ns.length ms.length) 0 (min ns.length ms.length)
theorem lexAt_not (e r : Nat → Bool) (z : Bool) : ∀ k i, Ob.lexAt e (fun j => !r j) (!z) i k = !Ob.lexAt e r z i k
  | 0, i => rfl
  | k + 1, i => by
    rw [Ob.lexAt_succ, Ob.lexAt_succ]
    by_cases h : e i = true
    · rw [if_pos h, if_pos h]
      exact lexAt_not e r z k (i + 1)
    · rw [if_neg h, if_neg h]
def leI (ns ms : List Int) : Bool := lexI (fun a b => decide (a ≤ b)) (fun a b => decide (a ≤ b)) ns ms
def gtI (ns ms : List Int) : Bool := lexI (fun a b => decide (b < a)) (fun a b => decide (b < a)) ns ms
theorem le_gt (ns ms : List Int) : leI ns ms = !gtI ns ms := by
  unfold leI gtI lexI
  rw [← lexAt_not]
  congr 1
  · funext j
    show decide (ns.getD j 0 ≤ ms.getD j 0) = !decide (ms.getD j 0 < ns.getD j 0)
    by_cases h : ns.getD j 0 ≤ ms.getD j 0
    · rw [decide_eq_true h, decide_eq_false (by omega)]
      rfl
    · rw [decide_eq_false h, decide_eq_true (by omega)]
      rfl
  · show decide (ns.length ≤ ms.length) = !decide (ms.length < ns.length)
    by_cases h : ns.length ≤ ms.length
    · rw [decide_eq_true h, decide_eq_false (by omega)]
      rfl
    · rw [decide_eq_false h, decide_eq_true (by omega)]
      rfl
def rGtT (K : PySem.W.Frag) : R2 := fun x y H Q => ∃ (a b : Addr) (ns ms : List Int), x = .ref a ∧ y = .ref b ∧ SqT K H a (ns.map V.int) ∧ SqT K H b (ms.map V.int) ∧
  Q (.bl (Ob.lexAt (fun j => decide (ns.getD j 0 = ms.getD j 0)) (fun j => decide (ms.getD j 0 < ns.getD j 0)) (decide (ns.length > ms.length)) 0 (min ns.length ms.length))) H
section
variable {X : Cx} {a b : Expr} {ta tb : TEd} {pos : Pos}
theorem op_gtT (hu : X.A.units < cLine) : OpR X (compareOp .Gt) (rGtT X.K) := by
  intro pins s σ H x y v u Q I rx ry h
  obtain ⟨a, b, ns, ms, rfl, rfl, ha, hb, q⟩ := h
  cases rx
  cases ry
  obtain ⟨its, r1, p1, _⟩ := I.tuple ha
  obtain ⟨its2, r2, p2, _⟩ := I.tuple hb
  have i1 : IntsAre its ns := Vals.ints r1
  have i2 : IntsAre its2 ms := Vals.ints r2
  have e1 : its.toArray.size = ns.length := by rw [List.size_toArray]; exact i1.length
  have e2 : its2.toArray.size = ms.length := by rw [List.size_toArray]; exact i2.length
  have at1 : ∀ j (h1 : j < its.toArray.size), ∃ t, its.toArray[j] = .int (ns.getD j 0) t := fun j h1 => PyProof.Rows.IntsAre.int_at i1 _ _ (by simp at h1; simp [h1])
  have at2 : ∀ j (h1 : j < its2.toArray.size), ∃ t, its2.toArray[j] = .int (ms.getD j 0) t := fun j h1 => PyProof.Rows.IntsAre.int_at i2 _ _ (by simp at h1; simp [h1])
  have R := Ob.RcOp.tuples_gt (A := X.A) (s := s) (e := fun j => decide (ns.getD j 0 = ms.getD j 0)) (r := fun j => decide (ms.getD j 0 < ns.getD j 0)) p1 p2 hu (fun j h1 h2 => by
    obtain ⟨t, et⟩ := at1 j h1
    obtain ⟨t', et'⟩ := at2 j h2
    rw [et, et']
    have z : (ns.getD j 0 == ms.getD j 0) = decide (ns.getD j 0 = ms.getD j 0) := by
      by_cases q : ns.getD j 0 = ms.getD j 0
      · rw [decide_eq_true q]; exact beq_iff_eq.mpr q
      · rw [decide_eq_false q]; exact beq_eq_false_iff_ne.mpr q
    rw [← z]
    exact SeqAt.EqAt.int_int _ _ _ _) (fun j h1 h2 _ => by
    obtain ⟨t, et⟩ := at1 j h1
    obtain ⟨t', et'⟩ := at2 j h2
    rw [et, et']
    exact Ob.RcOp.gt_int _ _ _ _)
  rw [e1, e2] at R
  have z : wpAny (model X.prog X.w) X.A (compareOp .Gt (.ref a) (.ref b)) (EP X pins σ Q) X.xe s := R X.prog X.w X.xe (EP X pins σ Q) ⟨.bl _, H, I, rfl, q⟩
  exact z
def rdLeT : RD := fun x y E Q => ∃ ns ms, x = tI ns ∧ y = tI ms ∧ Q (.bl (leI ns ms)) E
def rdGtT : RD := fun x y E Q => ∃ ns ms, x = tI ns ∧ y = tI ms ∧ Q (.bl (gtI ns ms)) E
theorem ok_leT {K : PySem.W.Frag} : OpOk K (rLeT K) rdLeT :=
  fun en Hf H F E σ vx vy x y Q Qd S rx ry ⟨ns, ms, ex, ey, q⟩ k => by
    subst ex ey
    cases rx with | tup h1 l1 =>
    cases ry with | tup h2 l2 =>
    have e1 := RepL.ints_inv l1
    have e2 := RepL.ints_inv l2
    subst e1 e2
    exact ⟨_, _, ns, ms, rfl, rfl, Same.sqT S.sf h1, Same.sqT S.sf h2, k _ _ _ _ _ _ (Same.refl _) S (.bl _) q⟩
theorem ok_gtT {K : PySem.W.Frag} : OpOk K (rGtT K) rdGtT :=
  fun en Hf H F E σ vx vy x y Q Qd S rx ry ⟨ns, ms, ex, ey, q⟩ k => by
    subst ex ey
    cases rx with | tup h1 l1 =>
    cases ry with | tup h2 l2 =>
    have e1 := RepL.ints_inv l1
    have e2 := RepL.ints_inv l2
    subst e1 e2
    exact ⟨_, _, ns, ms, rfl, rfl, Same.sqT S.sf h1, Same.sqT S.sf h2, k _ _ _ _ _ _ (Same.refl _) S (.bl _) q⟩
end
end L3
namespace L3
open PySem L2 PySem.Spec PyProof.Rows
variable [Tbs]
section
variable {P : Program} {w : World} {K : PySem.W.Frag} {mg : Str → Option Value} {base : Heap}
structure KwN (K : PySem.W.Frag) (fd : FuncData) (ps : List Str) (n : Nat) (kn : Str) : Prop where
  k0 : ∃ g, KBn K fd ps n [] g (fun vs _ => vs ++ [V.non])
  k1 : ∃ g, KBn K fd ps n [kn] g (fun vs zs => vs ++ zs)
  ln : ps.length = n + 1
structure CalMKAt (P : Program) (w : World) (K : PySem.W.Frag) (mg : Str → Option Value) (base : Heap) (C : Addr) (m : Str) (n : Nat) (kn : Str) (k : Nat) (ps : List Str) (sp : SpX) (f : Addr) (fd : FuncData) : Prop where
  fn : FnG P w K mg base (L2.CX P w) k f fd ps (liftPX K mg sp)
  kw : KwN K fd ps n kn
  cl : Cls K C
  mt : Meth K C m f
def CalMK (P : Program) (w : World) (K : PySem.W.Frag) (mg : Str → Option Value) (base : Heap) (C : Addr) (m : Str) (n : Nat) (kn : Str) (k : Nat) (ps : List Str) (sp : SpX) : Prop := ∃ f fd, CalMKAt P w K mg base C m n kn k ps sp f fd
def DfnMK (K : PySem.W.Frag) (C : Addr) (m qual : Str) (st : Stmt) (ps : List Str) (n : Nat) (kn : Str) : Prop := ∃ f fd, Fun K m qual st f fd ∧ KwN K fd ps n kn ∧ Cls K C ∧ Meth K C m f
theorem cal_methK {C : Addr} {m qual : Str} {st : Stmt} {N ps : List Str} {n k : Nat} {kn : Str} {sp : SpX} (d : DfnMK K C m qual st ps n kn) (S : FnScope N ps (defScope st)) (len : ∀ ds Q W, sp ds Q W → ds.length = ps.length)
    (hbody : ∃ t : TSd, (∀ (f : Addr) (cdv : Value) (A : Around) (outer : List Env) (s : Shared) (H : Hp) (E : XK), A.guards = some [] → Room k (A.deeper (PyProof.Rows.envOfC qual (defScope st) s.heap.objs.size f cdv)) →
      PBd (cxOf (L2.CX P w) P w K mg base N qual (defScope st) f cdv A outer s H E) (defBody st) t) ∧
      ∀ ds Q W, sp ds Q W → t { nx := fun _ => Q .non, rt := fun d _ => Q d, ex := fun x _ => W x } (startD N (ds.map .fz))) : CalMK P w K mg base C m n kn (k + 1) ps sp := by
  obtain ⟨f, fd, F, hb, c, hm⟩ := d
  obtain ⟨t, h1, h2⟩ := hbody
  exact ⟨f, fd, fn_pureX F S len ⟨t, h1 f, h2⟩, hb, c, hm⟩
/-- a def with one keyword-only parameter, default None, as it lies in K -/
theorem kwn_by {x qual : Str} {params : Arguments} {body : List Stmt} {scope : Scope} {f D : Addr} {oc doc pm cdv ct : Value} {od an : Option Addr} {osl : Array (Option Value)} {ps : List Str} (n : Nat) {kn : Str}
    (l : K.lookup f = some ⟨oc, od, .func (PySem.W.fnOf x qual params body scope .none (.ref D) doc pm an cdv ct), osl⟩) (c : PySem.W.codeIn K cdv qual = true) (kp : PySem.W.keepIn K (.ref f) = true) (hn : PySem.W.nsIn K D kn = some (some .none))
    (hl : ps.length = n + 1)
    (h0 : ∀ (D : Addr) (doc pm : Value) (an : Option Addr) (cdv ct : Value) (us mv ws : List Value), us.length = n → mv.length = 1 → ws.length = 0 →
      KwChain D ([kn].zip mv) (bindArgs (PySem.W.fnOf x qual params body scope .none (.ref D) doc pm an cdv ct) ⟨us, ([] : List Str).zip ws⟩) (ps.zip (us ++ mv)))
    (h1 : ∀ (D : Addr) (doc pm : Value) (an : Option Addr) (cdv ct : Value) (us mv ws : List Value), us.length = n → mv.length = 0 → ws.length = 1 →
      KwChain D (([] : List Str).zip mv) (bindArgs (PySem.W.fnOf x qual params body scope .none (.ref D) doc pm an cdv ct) ⟨us, [kn].zip ws⟩) (ps.zip (us ++ ws))) :
    KwN K (PySem.W.fnOf x qual params body scope .none (.ref D) doc pm an cdv ct) ps n kn := by
  have F : FunD K x qual params body scope [] [(kn, .non)] f (PySem.W.fnOf x qual params body scope .none (.ref D) doc pm an cdv ct) :=
    ⟨⟨oc, od, .none, .ref D, doc, pm, an, cdv, ct, osl, rfl, l, c, .inl ⟨rfl, rfl⟩, .inr ⟨D, rfl, fun q hq => by
      rw [List.mem_singleton.mp hq]
      exact ⟨.none, hn, rfl⟩⟩⟩, kp⟩
  obtain ⟨m0, b0⟩ := F.kbinds0 n [] [(kn, .non)] (fun us mv _ => us ++ mv) (by simp) (fun q hq => hq) (fun r1 r2 _ => r1.append r2) (ps := ps) h0
  obtain ⟨m1, b1⟩ := F.kbinds0 n [kn] [] (fun us _ ws => us ++ ws) (by simp) (fun q hq => nomatch hq) (fun r1 _ r3 => r1.append r3) (ps := ps) h1
  exact ⟨⟨_, b0⟩, ⟨_, b1⟩, hl⟩
end
section
variable {X : Cx} {CX : CXT} {C f : Addr} {k n : Nat} {fd : FuncData} {ps ks : List Str} {sp : Sp} {E : L2.St → XK} {o e : Expr} {m kn : Str} {pos apos kp : Pos} {ta te : TE} {g : List Value → List Value → List Value} {gV : List V → List V → List V}
theorem run_GK {pins : List (Addr × Obj)} {σ : L2.St} {H : Hp} {s : Shared} {Q : VK} {us ws : List Value} {vs zs : List V} (F : FnG X.prog X.w X.K X.mg X.base CX k f fd ps sp) (hgd : X.A.guards = some []) (hr : Room k X.A) (hb : KBn X.K fd ps n ks g gV) (hx : PassesAt CX X σ (E σ))
    (I : Inv X pins σ H s) (r : Vals vs us) (rz : Vals zs ws) (l1 : vs.length = n) (l2 : zs.length = ks.length) (h : sp (gV vs zs) H Q (E σ)) : wpAny (model X.prog X.w) X.A (call (.ref f) us (ks.zip ws)) (EP X pins σ Q) X.xe s := by
  refine wpAny_call (codeAny_mono (F.run X.A hgd hr X.stack s H ⟨us, ks.zip ws⟩ (g us ws) (gV vs zs) Q (E σ) I.env0 (hb.to s us ws I.kIn (r.length.symm.trans l1) (rz.length.symm.trans l2)) (hb.rel r rz) h) fun res s' q => ?_)
  match res, q with
  | .error err, q => exact hx pins H s err s' I q
  | .ok (.ret u), q => exact I.after q
theorem pe_methK0 {pl : Sem Bool} (he : PE X o ta) (c : Cls X.K C) (hm : Meth X.K C m f) (F : FnG X.prog X.w X.K X.mg X.base CX k f fd ps sp) (hgd : X.A.guards = some []) (hr : Room k X.A) (hb : KwN X.K fd ps 1 kn) (hx : ∀ σ, PassesAt CX X σ (E σ))
    (ht : eval (.Call (.Attribute o m apos) [] [] pos) X.env = (do
      let ov ← eval o X.env
      standAt apos.atName
      let (f, first) ← holding [ov] (getMethod ov m pl)
      callWith pos f first (backTo pos (starEach [] X.env)) (backToKw pos (keywordEach [] X.env))) := by rfl) :
    PE X (.Call (.Attribute o m apos) [] [] pos) (fun σ H Q => ta σ H fun x H1 => ∃ a dx fs, x = .ref a ∧ H1 a = some (.ins C dx fs) ∧ fs.lookup m = none ∧ sp [x, .non] H1 Q (E σ)) := by
  refine ⟨fun pins s σ H Q I h => ?_⟩
  refine PySem.W.methodCall_KW (pl := pl) (thn (he.run pins s σ H _ I h) fun u s1 ⟨x, H1, I1, rx, a, dx, fs, ex, ea, l, q⟩ => ?_) ht
  subst ex
  obtain rfl : u = Value.ref a := rx
  refine getmeth_ok I1 ea c hm l ?_
  obtain ⟨g, hb⟩ := hb.k0
  exact PySem.W.callWith_K0 (first := [.ref a]) I1.kIn hm.kp (run_GK (us := [.ref a]) (vs := [.ref a]) (ws := []) (zs := []) F hgd hr hb (hx σ) I1 (.cons rfl .nil) .nil rfl rfl q)
theorem pe_methK1 {pl : Sem Bool} (he : PE X o ta) (c : Cls X.K C) (hm : Meth X.K C m f) (F : FnG X.prog X.w X.K X.mg X.base CX k f fd ps sp) (hgd : X.A.guards = some []) (hr : Room k X.A) (hb : KwN X.K fd ps 1 kn) (hx : ∀ σ, PassesAt CX X σ (E σ)) (hv : PE X e te)
    (hall : (backToKw pos (keywordEach [⟨some kn, e, kp⟩] X.env)).all (·.1.isSome) = true := by rfl) (hks : (backToKw pos (keywordEach [⟨some kn, e, kp⟩] X.env)).filterMap (·.1) = [kn] := by rfl)
    (hpl : ((backTo pos (starEach [] X.env)).any (·.1) || (backToKw pos (keywordEach [⟨some kn, e, kp⟩] X.env)).any (·.1.isNone)) = false := by rfl)
    (ht : eval (.Call (.Attribute o m apos) [] [⟨some kn, e, kp⟩] pos) X.env = (do
      let ov ← eval o X.env
      standAt apos.atName
      let (f, first) ← holding [ov] (getMethod ov m pl)
      callWith pos f first (backTo pos (starEach [] X.env)) (backToKw pos (keywordEach [⟨some kn, e, kp⟩] X.env))) := by rfl) :
    PE X (.Call (.Attribute o m apos) [] [⟨some kn, e, kp⟩] pos) (fun σ H Q => ta σ H fun x H1 => ∃ a dx fs, x = .ref a ∧ H1 a = some (.ins C dx fs) ∧ fs.lookup m = none ∧ te σ H1 fun y H2 => sp [x, y] H2 Q (E σ)) := by
  refine ⟨fun pins s σ H Q I h => ?_⟩
  refine PySem.W.methodCall_KW (pl := pl) (thn (he.run pins s σ H _ I h) fun u s1 ⟨x, H1, I1, rx, a, dx, fs, ex, ea, l, q⟩ => ?_) ht
  subst ex
  obtain rfl : u = Value.ref a := rx
  refine getmeth_ok I1 ea c hm l ?_
  have ln := hb.ln
  obtain ⟨g, hb⟩ := hb.k1
  refine PySem.W.callWith_KW0 (h₀ := X.base) (first := [.ref a]) I.ok.mod.kin hm.kp hall (thn ((pk_cons (nm := some kn) (kpos := kp) hv pk_nil).run pos pins s1 σ H1 (fun ys H2 => sp (.ref a :: ys) H2 Q (E σ)) I1 q) fun ws s2 ⟨ys, H2, I2, r, q2⟩ => ⟨I2.kIn, ?_⟩) hpl
  rw [hks]
  exact run_GK (us := [.ref a]) (vs := [.ref a]) (zs := ys) F hgd hr hb (hx σ) I2 (.cons rfl .nil) r rfl (Nat.succ.inj ((F.len _ _ _ _ q2).trans ln)) q2
end
section
variable {X : Cx} {C f : Addr} {k : Nat} {fd : FuncData} {ps : List Str} {sp : SpX} {o e : Expr} {m kn : Str} {pos apos kp : Pos} {to : TEd} {te : TXd}
def tMethK0 (C : Addr) (m : Str) (sp : SpX) (to : TEd) : TXd := fun W E Q => to E fun x E1 => match x with
  | .ins C' fs => C' = C ∧ fs.lookup m = none ∧ sp [.ins C' fs, .non] (fun d => Q d E1) (fun x => W x E1)
  | _ => False
theorem x_methK0 {pl : Sem Bool} (c : Cls X.K C) (hm : Meth X.K C m f) (F : FnG X.prog X.w X.K X.mg X.base (L2.CX X.prog X.w) k f fd ps (liftPX X.K X.mg sp)) (hgd : X.A.guards = some []) (hr : Room k X.A) (hb : KwN X.K fd ps 1 kn) (he : PEd X o to)
    (ht : eval (.Call (.Attribute o m apos) [] [] pos) X.env = (do
      let ov ← eval o X.env
      standAt apos.atName
      let (f, first) ← holding [ov] (getMethod ov m pl)
      callWith pos f first (backTo pos (starEach [] X.env)) (backToKw pos (keywordEach [] X.env))) := by rfl) :
    PXd X (.Call (.Attribute o m apos) [] [] pos) (tMethK0 C m sp to) :=
  pe_imp (pe_methK0 (pl := pl) he c hm F hgd hr hb wx_pass ht) fun σ H Q ⟨en, Hf, F, E, Qd, Wd, S, h, k, kx⟩ => ⟨en, Hf, F, E, _, S, h, fun v H1 Hf1 F1 E1 d s1 S1 r1 h1 => by
    split at h1
    · rename_i C' fs
      obtain ⟨rfl, l, h1⟩ := h1
      have r1' := r1
      cases r1 with | ins h2 h3 rf =>
      refine ⟨_, _, _, rfl, S1.sf _ _ h2, rf.no l, ?_⟩
      exact ⟨Hf1, _, _, _, S1.sf, .cons r1' (.cons .non .nil), h1, fun v H' Hf' d s3 s4 s5 g r q => k _ _ _ _ _ _ (s1.trans s3) (S1.grow s3 s4 s5 g) r q, fun cls x d H' Hf' s3 s4 s5 g r q => kx _ _ _ _ _ _ _ (s1.trans s3) (S1.grow s3 s4 s5 g) r q⟩
    · exact h1.elim⟩
def tMethK1 (C : Addr) (m : Str) (sp : SpX) (to : TEd) (te : TXd) : TXd := fun W E Q => to E fun x E1 => match x with
  | .ins C' fs => C' = C ∧ fs.lookup m = none ∧ te W E1 fun y E2 => sp [.ins C' fs, y] (fun d => Q d E2) (fun x => W x E2)
  | _ => False
theorem x_methK1 {pl : Sem Bool} (c : Cls X.K C) (hm : Meth X.K C m f) (F : FnG X.prog X.w X.K X.mg X.base (L2.CX X.prog X.w) k f fd ps (liftPX X.K X.mg sp)) (hgd : X.A.guards = some []) (hr : Room k X.A) (hb : KwN X.K fd ps 1 kn) (he : PEd X o to) (hv : PXd X e te)
    (hall : (backToKw pos (keywordEach [⟨some kn, e, kp⟩] X.env)).all (·.1.isSome) = true := by rfl) (hks : (backToKw pos (keywordEach [⟨some kn, e, kp⟩] X.env)).filterMap (·.1) = [kn] := by rfl)
    (hpl : ((backTo pos (starEach [] X.env)).any (·.1) || (backToKw pos (keywordEach [⟨some kn, e, kp⟩] X.env)).any (·.1.isNone)) = false := by rfl)
    (ht : eval (.Call (.Attribute o m apos) [] [⟨some kn, e, kp⟩] pos) X.env = (do
      let ov ← eval o X.env
      standAt apos.atName
      let (f, first) ← holding [ov] (getMethod ov m pl)
      callWith pos f first (backTo pos (starEach [] X.env)) (backToKw pos (keywordEach [⟨some kn, e, kp⟩] X.env))) := by rfl) :
    PXd X (.Call (.Attribute o m apos) [] [⟨some kn, e, kp⟩] pos) (tMethK1 C m sp to te) :=
  pe_imp (pe_methK1 (pl := pl) he c hm F hgd hr hb wx_pass hv hall hks hpl ht) fun σ H Q ⟨en, Hf, F, E, Qd, Wd, S, h, k, kx⟩ => ⟨en, Hf, F, E, _, S, h, fun v H1 Hf1 F1 E1 d s1 S1 r1 h1 => by
    split at h1
    · rename_i C' fs
      obtain ⟨rfl, l, h1⟩ := h1
      have r1' := r1
      cases r1 with | ins h2 h3 rf =>
      refine ⟨_, _, _, rfl, S1.sf _ _ h2, rf.no l, en, Hf1, F1, E1, _, Wd, S1, h1, fun v2 H2 Hf2 F2 E2 d2 s2 S2 r2 h4 => ?_, fun cls x H' Hf' F' E' d s2 S2 r q => kx _ _ _ _ _ _ _ (s1.trans s2) S2 r q⟩
      exact ⟨Hf2, _, _, _, S2.sf, .cons (r1'.mono s2) (.cons r2 .nil), h4, fun v H' Hf' d s3 s4 s5 g r q => k _ _ _ _ _ _ ((s1.trans s2).trans s3) (S2.grow s3 s4 s5 g) r q, fun cls x d H' Hf' s3 s4 s5 g r q => kx _ _ _ _ _ _ _ ((s1.trans s2).trans s3) (S2.grow s3 s4 s5 g) r q⟩
    · exact h1.elim⟩
end
section
variable {X : Cx} {C : Addr} {f x : Str} {v : V} {u mc : Value} {d : D} {o : Expr} {te : TEd} {p pos : Pos}
/-- C.f -/
theorem d_cval (hm : X.mg x = some (.ref C)) (r : ClX.CRead X.K C mc) (k : ∃ u, ClX.CVal X.K C mc f v u) (rp : ∀ Hf, Rep X.K Hf v d) (hg : Gl X x := by rfl) (hdb : (x == ("__debug__" : Str)) = false := by decide)
    (hb : attributeBase (.Name x p) f X.env (eval (.Name x p) X.env) = eval (.Name x p) X.env := by rfl) : PEd X (.Attribute (.Name x p) f pos) (tCD d) := by
  obtain ⟨u, k⟩ := k
  exact d_const (pe_imp (ClX.pe_cval (pe_glob (v := .ref C) hg hm rfl hdb) hb) fun σ H Q h => ⟨C, mc, v, u, rfl, r, k, h⟩) rp
/-- o.f, o an instance without its own f -/
def tConD (C : Addr) (f : Str) (d : D) (te : TEd) : TEd := fun E Q => te E fun x E1 => match x with
  | .ins C' fs => C' = C ∧ fs.lookup f = none ∧ Q d E1
  | _ => False
theorem d_con (c : Cls X.K C) (k : ∃ u, Con X.K C f v u) (rp : ∀ Hf, Rep X.K Hf v d) (he : PEd X o te) (hb : attributeBase o f X.env (eval o X.env) = eval o X.env := by rfl) : PEd X (.Attribute o f pos) (tConD C f d te) := by
  obtain ⟨u, k⟩ := k
  exact pe_imp (pe_con he hb) fun σ H Q ⟨en, Hf, F, E, Qd, S, h, k0⟩ => ⟨en, Hf, F, E, _, S, h, fun v1 H1 Hf1 F1 E1 d1 s1 S1 r1 h1 => by
    split at h1
    · rename_i C' fs
      obtain ⟨rfl, l, q⟩ := h1
      cases r1 with | ins h2 h3 rf =>
      exact ⟨_, _, _, _, _, _, rfl, S1.sf _ _ h2, c, k, rf.no l, k0 _ _ _ _ _ _ s1 S1 (rp _) q⟩
    · exact h1.elim⟩
end
section
variable {X : Cx} {a b : Expr} {ta tb : TEd} {pos : Pos}
theorem t_leT (hu : X.A.units < cLine) (ha : PEd X a ta) (hb : PEd X b tb) : PTd X (.Compare a [.LtE] [b] pos) (tTestD (tOpD rdLeT ta tb)) := t_cmp (op_leT hu) ok_leT ha hb (nomark _)
theorem t_gtT (hu : X.A.units < cLine) (ha : PEd X a ta) (hb : PEd X b tb) : PTd X (.Compare a [.Gt] [b] pos) (tTestD (tOpD rdGtT ta tb)) := t_cmp (op_gtT hu) ok_gtT ha hb (nomark _)
end
def spTabLenL (K : PySem.W.Frag) (C : Addr) (f : Str) : Sp := fun vs H Q _ => ∃ a dx fs t zs, vs = [.ref a] ∧ H a = some (.ins C dx fs) ∧ fs.lookup f = some (.ref t) ∧ SqL K H t zs ∧ Q (.int (zs.length : Nat)) H
section
variable {X : Cx} {C fl : Addr} {kl : Nat} {fdl : FuncData} {psl : List Str} {g : Str} {a : Expr} {t : TAd} {p pos : Pos}
def rbLenL (C : Addr) (g : Str) : RB := fun ds E Q => match ds with
  | [.ins C' fs] => C' = C ∧ ∃ xs, fs.lookup g = some (.lst xs) ∧ xs.length ≤ sizeLine ∧ Q (.int (xs.length : Nat)) E
  | _ => False
theorem d_lenL (SL : Spc X.K C "__len__" fl) (F : FnG X.prog X.w X.K X.mg X.base (L2.CX X.prog X.w) kl fl fdl psl (spTabLenL X.K C g)) (hgd : X.A.guards = some []) (hr : Room (kl + 1) X.A) (hb : Binds X.K fdl psl []) (hm : X.mg "len" = none) (ha : PAd X [a] t)
    (hg : Gl X "len" := by rfl) (he : starEach [a] X.env = (false, eval a X.env) :: starEach [] X.env := by rfl) : PEd X (.Call (.Name "len" p) [a] [] pos) (tCBd (rbLenL C g) t) :=
  d_callB (call_lenS SL F hgd hr hb) (fun en Hf H F E σ vs ds Q Qd S rx q k => by
    unfold rbLenL at q
    split at q
    · obtain ⟨rfl, xs, hx, hl, q⟩ := q
      obtain ⟨v, rfl, r⟩ := rx.one
      cases r with | ins h2 h3 rf =>
      obtain ⟨w, hw, rw_⟩ := rf.get hx
      cases rw_ with | lst h4 l4 =>
      exact ⟨_, _, _, rfl, S.sf _ _ h2, _, _, _, _, _, rfl, S.sf _ _ h2, hw, .of (S.sf _ _ h4), _, rfl, by rw [l4.length]; exact hl, k _ _ _ _ _ _ (Same.refl _) S (by rw [l4.length]; exact .int _) q⟩
    · exact q.elim) hm PySem.boot_len ha hg (by decide) (by decide) he
end
def sox3 (R : Ow → D → D → D → (D → Ow → Prop) → (Xd → Ow → Prop) → Prop) : SoX := fun o ds Q W => match ds with
  | [a, b, c] => R o a b c Q W
  | _ => False
theorem sox3_len {R} : ∀ o ds Q W, sox3 R o ds Q W → ds.length + 1 = 4 := fun o ds Q W h => by
  unfold sox3 at h
  split at h
  · rfl
  · exact h.elim
theorem sox3_by {R} {G : Ow → List D → (D → Ow → Prop) → (Xd → Ow → Prop) → Prop} (h : ∀ o a b c Q W, R o a b c Q W → G o [a, b, c] Q W) : ∀ o ds Q W, sox3 R o ds Q W → G o ds Q W := fun o ds Q W q => by
  unfold sox3 at q
  split at q
  · exact h _ _ _ _ _ _ q
  · exact q.elim
end L3
namespace L3
open PySem PySem.Spec PyProof.Rows L2
variable [Tbs]
def putFB (f : Str) (d : Fv) : List (Str × Fv) → List (Str × Fv)
  | [] => [(f, d)]
  | (g, x) :: r => if g = f then (g, d) :: r else (g, x) :: putFB f d r
section
variable {K : PySem.W.Frag} {Hf H : Hp} {f : Str}
theorem lk_yes {α : Type} {f g : Str} {x : α} {r : List (Str × α)} (h : f = g) : List.lookup f ((g, x) :: r) = some x := by
  rw [List.lookup_cons]
  have z : (f == g) = true := by simpa using h
  rw [z]
theorem lk_no {α : Type} {f g : Str} {x : α} {r : List (Str × α)} (h : ¬ f = g) : List.lookup f ((g, x) :: r) = List.lookup f r := by
  rw [List.lookup_cons]
  have z : (f == g) = false := by simpa using h
  rw [z]
theorem ro_no : ∀ {vs : List (Str × V)} {fs : List (Str × Fv)} {qs : List Addr}, RepO K Hf H vs fs qs → fs.lookup f = none → vs.lookup f = none
  | _, _, _, .nil, _ => rfl
  | _, _, _, .d (f := k) a t, e => by
    by_cases h : f = k
    · rw [lk_yes h] at e
      cases e
    · rw [lk_no h] at e ⊢
      exact ro_no t e
  | _, _, _, .l (f := k) a b t, e => by
    by_cases h : f = k
    · rw [lk_yes h] at e
      cases e
    · rw [lk_no h] at e ⊢
      exact ro_no t e
theorem ro_getL : ∀ {vs : List (Str × V)} {fs : List (Str × Fv)} {qs : List Addr} {xs : List D}, RepO K Hf H vs fs qs → fs.lookup f = some (.l xs) → ∃ q ws, vs.lookup f = some (.ref q) ∧ q ∈ qs ∧ H q = some (.lst ws) ∧ RepL K Hf ws xs
  | _, _, _, _, .nil, e => by cases e
  | _, _, _, _, .d (f := k) a t, e => by
    by_cases h : f = k
    · rw [lk_yes h] at e
      cases e
    · rw [lk_no h] at e ⊢
      exact ro_getL t e
  | _, _, _, _, .l (f := k) (q := q) a b t, e => by
    by_cases h : f = k
    · rw [lk_yes h] at e ⊢
      cases e
      exact ⟨_, _, rfl, List.mem_cons_self .., a, b⟩
    · rw [lk_no h] at e ⊢
      obtain ⟨q2, ws, h1, h2, h3⟩ := ro_getL t e
      exact ⟨q2, ws, h1, List.mem_cons_of_mem _ h2, h3⟩
theorem ro_put {v : V} {x : D} (r : Rep K Hf v x) : ∀ {vs : List (Str × V)} {fs : List (Str × Fv)} {qs : List Addr}, RepO K Hf H vs fs qs → qs.Nodup → ∃ qs', (∀ q ∈ qs', q ∈ qs) ∧ qs'.Nodup ∧ RepO K Hf H (putF f v vs) (putFB f (.d x) fs) qs'
  | _, _, _, .nil, nd => ⟨[], fun _ h => h, nd, .d r .nil⟩
  | _, _, _, .d (f := k) a t, nd => by
    unfold putF putFB
    by_cases h : k = f
    · rw [if_pos h, if_pos h]
      exact ⟨_, fun _ h => h, nd, .d r t⟩
    · rw [if_neg h, if_neg h]
      obtain ⟨qs', s, n, t'⟩ := ro_put r t nd
      exact ⟨qs', s, n, .d a t'⟩
  | _, _, _, .l (f := k) a b t, nd => by
    unfold putF putFB
    have n2 := List.nodup_cons.mp nd
    by_cases h : k = f
    · rw [if_pos h, if_pos h]
      exact ⟨_, fun _ h => List.mem_cons_of_mem _ h, n2.2, .d r t⟩
    · rw [if_neg h, if_neg h]
      obtain ⟨qs', s, n, t'⟩ := ro_put r t n2.2
      refine ⟨_ :: qs', fun q hq => ?_, List.nodup_cons.mpr ⟨fun m => n2.1 (s _ m), n⟩, .l a b t'⟩
      rcases List.mem_cons.mp hq with rfl | hq
      · exact List.mem_cons_self ..
      · exact List.mem_cons_of_mem _ (s _ hq)
theorem ro_putL {p : Addr} {ws : List V} {xs : List D} (hp : H p = some (.lst ws)) (r : RepL K Hf ws xs) : ∀ {vs : List (Str × V)} {fs : List (Str × Fv)} {qs : List Addr}, RepO K Hf H vs fs qs → qs.Nodup → p ∉ qs → ∃ qs', (∀ q ∈ qs', q = p ∨ q ∈ qs) ∧ qs'.Nodup ∧ RepO K Hf H (putF f (.ref p) vs) (putFB f (.l xs) fs) qs'
  | _, _, _, .nil, nd, _ => ⟨[p], fun q h => .inl (List.mem_singleton.mp h), by simp, .l hp r .nil⟩
  | _, _, _, .d (f := k) a t, nd, np => by
    unfold putF putFB
    by_cases h : k = f
    · rw [if_pos h, if_pos h]
      exact ⟨_, fun q h => (List.mem_cons.mp h), List.nodup_cons.mpr ⟨np, nd⟩, .l hp r t⟩
    · rw [if_neg h, if_neg h]
      obtain ⟨qs', s, n, t'⟩ := ro_putL hp r t nd np
      exact ⟨qs', s, n, .d a t'⟩
  | _, _, _, .l (f := k) a b t, nd, np => by
    unfold putF putFB
    have n2 := List.nodup_cons.mp nd
    have np2 := fun m => np (List.mem_cons_of_mem _ m)
    by_cases h : k = f
    · rw [if_pos h, if_pos h]
      exact ⟨_, fun q h => (List.mem_cons.mp h).imp id (List.mem_cons_of_mem _), List.nodup_cons.mpr ⟨np2, n2.2⟩, .l hp r t⟩
    · rw [if_neg h, if_neg h]
      obtain ⟨qs', s, n, t'⟩ := ro_putL hp r t n2.2 np2
      refine ⟨_ :: qs', fun q hq => ?_, List.nodup_cons.mpr ⟨fun m => ?_, n⟩, .l a b t'⟩
      · rcases List.mem_cons.mp hq with rfl | hq
        · exact .inr (List.mem_cons_self ..)
        · exact (s _ hq).imp id (List.mem_cons_of_mem _)
      · rcases s _ m with z | z
        · exact np (z ▸ List.mem_cons_self ..)
        · exact n2.1 z
theorem ro_upd {p : Addr} {u : HO} {vs : List (Str × V)} {fs : List (Str × Fv)} {qs : List Addr} (r : RepO K Hf H vs fs qs) (np : p ∉ qs) : RepO K Hf (upd H p u) vs fs qs :=
  r.mono (Same.refl _) fun q hq w hw => by rw [upd_ne (fun (z : q = p) => np (by rw [← z]; exact hq))]; exact hw
theorem ro_setL {p : Addr} {ws : List V} {xs : List D} (r : RepL K Hf ws xs) : ∀ {vs : List (Str × V)} {fs : List (Str × Fv)} {qs : List Addr} {ys : List D}, RepO K Hf H vs fs qs → qs.Nodup → fs.lookup f = some (.l ys) → vs.lookup f = some (.ref p) → RepO K Hf (upd H p (.lst ws)) vs (putFB f (.l xs) fs) qs
  | _, _, _, _, .nil, _, e, _ => by cases e
  | _, _, _, _, .d (f := k) a t, nd, e, e2 => by
    unfold putFB
    by_cases h : f = k
    · rw [lk_yes h] at e
      cases e
    · rw [lk_no h] at e e2
      rw [if_neg (Ne.symm h)]
      exact .d a (ro_setL r t nd e e2)
  | _, _, _, _, .l (f := k) (q := q) a b t, nd, e, e2 => by
    unfold putFB
    have n2 := List.nodup_cons.mp nd
    by_cases h : f = k
    · rw [lk_yes h] at e2
      cases e2
      rw [if_pos h.symm]
      exact .l upd_same r (ro_upd t n2.1)
    · rw [lk_no h] at e e2
      rw [if_neg (Ne.symm h)]
      obtain ⟨q2, ws2, h1, h2, _⟩ := ro_getL t e
      rw [e2] at h1
      cases h1
      exact .l (by rw [upd_ne (fun (z : q = p) => n2.1 (by rw [z]; exact h2))]; exact a) b (ro_setL r t n2.2 e e2)
end
section
variable {K : PySem.W.Frag} {en : Et} {Hf H : Hp} {F : Nat → List Addr} {E : En} {σ : L2.St}
/-- our own instance and what may be done with it -/
structure ObAt (K : PySem.W.Frag) (en : Et) (Hf H : Hp) (F : Nat → List Addr) (E : En) (σ : L2.St) (j : Nat) (b : Bool) (C : Addr) (fs : List (Str × Fv)) (a dx : Addr) (vs : List (Str × V)) (qs : List Addr) : Prop where
  hv : σ[j]? = some (some (.ref a))
  ha : H a = some (.ins C dx vs)
  ro : RepO K Hf H vs fs qs
  setD : ∀ (f : Str) (w : V) (x : D), Rep K Hf w x → ∃ F', Sat K en Hf (upd H a (.ins C dx (putF f w vs))) F' (E.set j (.ow b (.ob C (putFB f (.d x) fs)))) σ
  setL : ∀ (f : Str) (q : Addr) (ys xs : List D) (ws : List V), fs.lookup f = some (.l ys) → vs.lookup f = some (.ref q) → RepL K Hf ws xs → ∃ F', Sat K en Hf (upd H q (.lst ws)) F' (E.set j (.ow b (.ob C (putFB f (.l xs) fs)))) σ
  newL : ∀ (f : Str) (p : Addr) (ws : List V) (xs : List D), H p = none → RepL K Hf ws xs → ∃ F', Sat K en Hf (upd (upd H p (.lst ws)) a (.ins C dx (putF f (.ref p) vs))) F' (E.set j (.ow b (.ob C (putFB f (.l xs) fs)))) σ
theorem Sat.ob (S : Sat K en Hf H F E σ) {j : Nat} {b : Bool} {C : Addr} {fs : List (Str × Fv)} (e : E[j]? = some (.ow b (.ob C fs))) : ∃ a dx vs qs, ObAt K en Hf H F E σ j b C fs a dx vs qs := by
  obtain ⟨v, hv, ⟨a, dx, vs, qs, rfl, hF, nd, ha, hdx, ro⟩, _⟩ := S.own e
  have n2 := List.nodup_cons.mp nd
  have n3 := List.nodup_cons.mp n2.2
  have ma : a ∈ F j := by rw [hF]; simp
  have md : dx ∈ F j := by rw [hF]; simp
  have mq : ∀ q ∈ qs, q ∈ F j := fun q hq => by rw [hF]; simp [hq]
  have ne : dx ≠ a := fun z => by rw [z, ha] at hdx; cases hdx
  have naq : a ∉ qs := fun m => n2.1 (List.mem_cons_of_mem _ m)
  have ndq : dx ∉ qs := n3.1
  have go : ∀ (H' : Hp) (vs' : List (Str × V)) (fs' : List (Str × Fv)) (qs' : List Addr), (∀ p u, p ∉ F j → H p = some u → H' p = some u) → (∀ p u, H p = some u → ∃ u', H' p = some u') → H' a = some (.ins C dx vs') → H' dx = some (.own a) → (∀ q ∈ qs', q ∈ qs ∨ H q = none) → qs'.Nodup → RepO K Hf H' vs' fs' qs' → ∃ F', Sat K en Hf H' F' (E.set j (.ow b (.ob C fs'))) σ := fun H' vs' fs' qs' h3 hd ha' hdx' hq nq ro' => by
    have no : ∀ {c}, c ∈ F j → c ∉ qs → c ∉ qs' := fun {c} hc hn m => by
      rcases hq c m with z | z
      · exact hn z
      · obtain ⟨_, ⟨u, hu⟩, _⟩ := S.fp j c hc
        rw [z] at hu
        cases hu
    refine ⟨_, S.changeF (l := a :: dx :: qs') e hv (Same.refl _) (fun c u z => ?_) h3 hd (fun _ _ z => .inl z) (fun c hc => ?_) ⟨a, dx, vs', qs', rfl, rfl, ?_, ha', hdx', ro'⟩⟩
    · refine h3 c u (fun m => ?_) (S.sf _ _ z)
      rw [(S.fp j c m).1] at z
      cases z
    · have old : ∀ {c}, c ∈ F j → Hf c = none ∧ (c ∈ F j ∨ H c = none) := fun hc => ⟨(S.fp j _ hc).1, .inl hc⟩
      rcases List.mem_cons.mp hc with rfl | hc
      · exact old ma
      · rcases List.mem_cons.mp hc with rfl | hc
        · exact old md
        · rcases hq c hc with z | z
          · exact old (mq c z)
          · exact ⟨S.sf.free z, .inr z⟩
    · exact List.nodup_cons.mpr ⟨fun m => (List.mem_cons.mp m).elim (fun z => ne z.symm) (no ma naq), List.nodup_cons.mpr ⟨no md ndq, nq⟩⟩
  refine ⟨a, dx, vs, qs, hv, ha, ro, fun f w x r => ?_, fun f q ys xs ws e1 e2 r => ?_, fun f p ws xs hp r => ?_⟩
  · obtain ⟨qs', s, n, ro'⟩ := ro_put (f := f) r (ro_upd (u := .ins C dx (putF f w vs)) ro naq) n3.2
    refine go _ _ _ qs' (fun c u nc z => by rw [upd_ne (fun y => nc (by rw [y]; exact ma))]; exact z) (fun c u z => ?_) upd_same (by rw [upd_ne ne]; exact hdx) (fun q hq => .inl (s q hq)) n ro'
    by_cases y : c = a
    · rw [y]
      exact ⟨_, upd_same⟩
    · rw [upd_ne y]
      exact ⟨u, z⟩
  · obtain ⟨q2, ws2, h1, h2, _⟩ := ro_getL ro e1
    rw [e2] at h1
    cases h1
    refine go _ vs _ qs (fun c u nc z => by rw [upd_ne (fun y => nc (by rw [y]; exact mq q h2))]; exact z) (fun c u z => ?_) (by rw [upd_ne (fun (y : a = q) => naq (by rw [y]; exact h2))]; exact ha) (by rw [upd_ne (fun (y : dx = q) => ndq (by rw [y]; exact h2))]; exact hdx) (fun q hq => .inl hq) n3.2 (ro_setL r ro n3.2 e1 e2)
    by_cases y : c = q
    · rw [y]
      exact ⟨_, upd_same⟩
    · rw [upd_ne y]
      exact ⟨u, z⟩
  · have npq : p ∉ qs := fun m => by
      obtain ⟨_, ⟨u, hu⟩, _⟩ := S.fp j p (mq p m)
      rw [hp] at hu
      cases hu
    have npa : p ≠ a := fun z => by rw [z, ha] at hp; cases hp
    have npd : p ≠ dx := fun z => by rw [z, hdx] at hp; cases hp
    have r1 := ro_upd (p := a) (u := .ins C dx (putF f (.ref p) vs)) (ro_upd (p := p) (u := .lst ws) ro npq) naq
    obtain ⟨qs', s, n, ro'⟩ := ro_putL (f := f) (p := p) (ws := ws) (xs := xs) (by rw [upd_ne npa, upd_same]) r r1 n3.2 npq
    refine go _ _ _ qs' (fun c u nc z => ?_) (fun c u z => ?_) upd_same (by rw [upd_ne ne, upd_ne (Ne.symm npd)]; exact hdx) (fun q hq => (s q hq).elim (fun z => .inr (z ▸ hp)) .inl) n ro'
    · rw [upd_ne (fun y => nc (by rw [y]; exact ma)), upd_ne (fun y => by rw [y, hp] at z; cases z)]
      exact z
    · by_cases y : c = a
      · rw [y]
        exact ⟨_, upd_same⟩
      · rw [upd_ne y, upd_ne (fun y => by rw [y, hp] at z; cases z)]
        exact ⟨u, z⟩
end
end L3
namespace L3
open PySem PySem.Spec PyProof.Rows L2
variable [Tbs]
section
variable {X : Cx} {e : Expr} {es : List Expr} {te : TEd} {t : TAd} {x f m : Str} {p pos apos cpos p1 p2 pl : Pos}
end
end L3
namespace L3
open PySem PySem.Spec PyProof.Rows L2
variable [Tbs]
section
variable {X : Cx} {C fa : Addr} {k : Nat} {fd : FuncData} {ps : List Str} {so : SoX} {x m kn : Str} {p pos apos kp : Pos} {e : Expr} {es : List Expr} {tx : TAXd} {te : TXd}
/-- x.m(..), x our own instance (slot j) -/
def isOb (C : Addr) (m : Str) (E : En) (j : Nat) : Prop := match E[j]? with
  | some (.ow _ (.ob C' fs)) => C' = C ∧ fs.lookup m = none
  | _ => False
theorem isOb.ex {K : PySem.W.Frag} {en : Et} {Hf H : Hp} {F : Nat → List Addr} {E : En} {σ : L2.St} {j : Nat} (S : Sat K en Hf H F E σ) (h : isOb C m E j) : ∃ b o a dx vs, E[j]? = some (.ow b o) ∧ σ[j]? = some (some (.ref a)) ∧ H a = some (.ins C dx vs) ∧ vs.lookup m = none := by
  unfold isOb at h
  split at h
  · rename_i b C' fs e0
    obtain ⟨rfl, lm⟩ := h
    obtain ⟨a, dx, vs, qs, B⟩ := S.ob e0
    exact ⟨b, _, a, dx, vs, e0, B.hv, B.ha, ro_no B.ro lm⟩
  · exact h.elim
end
section
variable {P : Program} {w : World} {K : PySem.W.Frag} {mg : Str → Option Value} {base : Heap}
/-- a method whose address is known, as a special one too -/
structure CalMSAt (P : Program) (w : World) (K : PySem.W.Frag) (mg : Str → Option Value) (base : Heap) (C : Addr) (m : Str) (k : Nat) (ps : List Str) (so : SoX) (f : Addr) (fd : FuncData) : Prop where
  fn : FnG P w K mg base (L2.CX P w) k f fd ps (liftOX K mg so)
  bd : Binds K fd ps []
  cl : Cls K C
  mt : Meth K C m f
  fi : PySem.W.fnIn K f = true
theorem CalMSAt.spc {C : Addr} {m : Str} {k : Nat} {ps : List Str} {so : SoX} {f : Addr} {fd : FuncData} (c : CalMSAt P w K mg base C m k ps so f fd) (p : SpcC K C) : Spc K C m f :=
  ⟨c.mt.at_, c.mt.fn, c.fi, p.sf, p.ns, p.nf, p.ic⟩
end
end L3
namespace L3
open PySem PySem.Spec PyProof.Rows L2
variable [Tbs]
section
variable {X : Cx} {C f : Addr} {k : Nat} {fd : FuncData} {ps : List Str} {so : SoX} {x : Str} {e : Expr} {es : List Expr} {tx : TAXd} {te : TEd} {pos cpos p : Pos}
/-- x = C(..), an instance of our own with lists -/
def tNewB (i : Nat) (C : Addr) (so : SoX) (tx : TAXd) : TSd := fun D E => tx D.ex E fun ds E1 => so (.ob C []) ds (fun d o' => d = .non ∧ canSet E1 i ∧ D.nx (E1.set i (.ow false o'))) (fun x _ => D.ex x E1)
def Fv.D : Fv → D
  | .d x => x
  | .l xs => .lst xs
end
section
variable {X : Cx} {C fl : Addr} {kl : Nat} {fdl : FuncData} {psl : List Str} {so : SoX} {g x : Str} {p pos p1 : Pos}
/-- len(x) by a def that returns len(self.g) -/
def tLenOB (j : Nat) (C : Addr) (g : Str) : TEd := fun E Q => match E[j]? with
  | some (.ow _ (.ob C' fs)) => C' = C ∧ ∃ xs, fs.lookup g = some (.l xs) ∧ xs.length ≤ sizeLine ∧ Q (.int (xs.length : Nat)) E
  | _ => False
end
end L3
namespace L3
open PySem PySem.Spec PySem.Calls PyProof.Rows L2
variable [Tbs]
section
variable {prog : Program} {w : World} {A : Around} {E : Value → Shared → Prop} {s : Shared} {K : PySem.W.Frag} {x C L f : Addr} {h₀ : Heap} {m : Str → Option Value} {ox : Obj} {od : Option Obj}
end
section
variable {X : Cx} {C f : Addr} {k : Nat} {fd : FuncData} {ps : List Str} {sp : Sp}
end
section
variable {X : Cx} {C fl : Addr} {kl : Nat} {fdl : FuncData} {psl : List Str} {g x : Str} {p pos p1 : Pos} {a : Expr} {t : TAd}
/-- bool(e), e an instance that is data -/
def rbBoolS (C : Addr) (g : Str) : RB := fun ds E Q => match ds with
  | [.ins C' fs] => C' = C ∧ ∃ xs, fs.lookup g = some (.lst xs) ∧ xs.length ≤ sizeLine ∧ Q (.bl (decide (xs.length ≠ 0))) E
  | _ => False
end
end L3
namespace L3
open PySem PySem.Spec PySem.Calls PyProof.Rows L2
variable [Tbs]
section
variable {X : Cx} {body : List Stmt} {cs : List MatchCase} {u : TS} {t : Str → TS} {w : Str} {pos p : Pos} {i : Nat}
end
section
variable {X : Cx} {body : List Stmt} {cs : List MatchCase} {u : TSd} {t : Str → TSd} {w : Str} {e : Expr} {te : TEd} {pos p : Pos} {i : Nat}
end
end L3
namespace L3
open PySem PySem.Spec PyProof.Rows L2
variable [Tbs]
section
variable {X : Cx}
variable {a b : Expr} {ta tb : TEd} {pos : Pos}
end
end L3
namespace L3
open PySem PySem.Spec PyProof.Rows L2
variable [Tbs]
section
variable {X : Cx} {a b : Expr} {pos : Pos} {tm : TMd} {g : TGd}
end
end L3
namespace L3
open PySem PySem.Spec PyProof.Rows L2 PySem.W
section
variable {prog : Program} {w : World} {A : Around} {E : Value → Shared → Prop} {s : Shared}
end
section
variable {X : Cx}
variable [Tbs]
end
end L3
namespace Zk90
open PySem L2 L3
variable [TBi : Tbs]
def top (i : Nat) : Stmt := PySem.Challenge.pw_smallchange_k90_tills_made.main.body.getD i (.Pass ⟨0, 0, 0, 0⟩)
section
variable {P : Program} {w : World} {K : PySem.W.Frag} {mg : Str → Option Value} {base : Heap}
local macro_rules | `(tactic| walk_at "rd") => `(tactic| (try simp only [tFldO, tNewAttr, tAppAttr, frzE, tMethO, tRemD, tCallI, tChain4D, tGetV, tDctV0, tSlV, D.mulOk, rbIsiO, tIsCO, spG, mkE_nil, mkE_cons, rdNeO, rbBool, tNX, tNTX, gFldD, tOpXS, rdS, rdInO, tTestX, tTruX, tNotX, D.nfOk, D.isIns, tFldD, tFldSet, tMethX, tMethX0, tMakeX, tIsC, sox1, sox2, tInV, tLamD, capD, tActX, tQcons, tQn, tQc, tQnil, tQtup, iZipYD, rdEqE, tIndexD, tIndexP, tTupP, tWk, rdCatP, tLenSetD, tLcN, tLcON, tSetN, tNAdd, rdEqS, rbMaxX, rbMinX, rbSumX, iZip3D, iZipXD, iZip2D, iZipSD, tExtD, gSubD, tSortSetI, tDct0, tDct1, tNListc, tNMul, rbReprK, tLcO, iRng3D, tStarC, tCntD, tTryD, tRetX, tAsgX, tDropX, tIfX, tCallX, L3.tCallN, tOfX, tOfAX, tConsAX, tBindX, tOpX, tRaise0, tRaise1, tRaise2, spx0, spx1, spx2, spx3, spx4, tXfD, tIsX, tStarD, tParM, tPar3M, tMNil, tMDat, tMNew, tNLst, tSetN, It.sl, tSeqD, tNextD, tNevD, tAsgD, tVarD, gTupD, gUnlD, gConsD, gNilD, gNameD, tRetD, tRetND, tDropD, tIfSD, tParD, tPar3D, tAugD, tLstO, tAppD, tPutD, tAndD, tOrD, tNotD, tTruD, tAndW, tOrW, tNotW, tIfD, tChainD, tTestD, tOpD, tNegD, tNilD, tConsD, tTupD, tLstD, tCBd, tCallD, tCallO, tIxV, tSlD, tPartD, tNoPartD, tLenV, tDkN, tDkLen, tDkPad, tDkAt, tDkSet, tDkPut, tForD, iSeqD, iRng1D, iRng2D, iRng2W, rbSumA, rbDivmod, rbIsi, isT, isTs, D.tyN, tRevD, tLRgD, tSortSet, tSortSetZ, tSortSetT, rbSortK, tInO, rdInK, tVarO, tDctV, tPutO, D.key, kit_non_int, kit_non_bool, kit_non_str, kit_non_tuple, kit_non_list, kit_non_dict, kit_bl_int, kit_bl_bool, kit_bl_str, kit_bl_tuple, kit_bl_list, kit_bl_dict, kit_int_int, kit_int_bool, kit_int_str, kit_int_tuple, kit_int_list, kit_int_dict, kit_str_int, kit_str_bool, kit_str_str, kit_str_tuple, kit_str_list, kit_str_dict, kit_tup_int, kit_tup_bool, kit_tup_str, kit_tup_tuple, kit_tup_list, kit_tup_dict, kit_lst_int, kit_lst_bool, kit_lst_str, kit_lst_tuple, kit_lst_list, kit_lst_dict, kit_dct_int, kit_dct_bool, kit_dct_str, kit_dct_tuple, kit_dct_list, kit_dct_dict, tLcD, tYesD, rdAdd, rdMul, rdMulT, rdMany, iEnumD, iEnumTD, iZipD, rdEq, rdNe, rdI, rdI0, rdIsN, rdNotN, rdIsB, rdNotB, rdIx, rdSl, rdIn, rdCmp, rbLen, rbAbs, rbInt, rbMax2, rbMin2, rbMinL, rbMaxL, rbTuple, rbList, rbSum, rbAll, rbAny, rbRepr, D.isNon, D.items, tCD, truD, startD, startG, tCallGh, held, canSet, ownL, isDk, sp0, sp1, sp2, sp3, sp4, rdLeT, rdGtT, tDctTV, tPutTV, tGetTV, tGet2TV, tInTV, tListTV, tLenTV, tCopyTV, rbStr, tJoinD, tFmtD, tJsD, tFstD, rbLenT, rbStrS, tMethK0, tMethK1, tConD, tCallOX, sox2, sox3, rbLenL, tInW, so0, so1, so2, so3, wipeD, free_un, free_fz, free_ow, atI0, atI1, atI2, atI3, atI4, atI5, atI6, atI7, atI8, atI9, atI10, atI11, atI12, atIm1, atIm2, atIm3, atIm4, atIm5, L2.atI_last, Int.reduceLE, Int.reduceLT, Int.reduceNeg, Int.reduceToNat, Int.reduceAdd, List.map_cons, List.map_nil, List.cons_append, List.nil_append, List.append_nil, List.getElem?_cons_zero, List.getElem?_cons_succ, List.getElem?_nil, List.set_cons_zero, List.set_cons_succ, List.length_cons, List.length_nil, List.replicate_succ, List.replicate_zero, Nat.reduceAdd, Nat.reduceSub, Nat.zero_add, Bool.not_true, Bool.not_false, eqv_nil, eqv_cons, eqv_nil', true_and, and_true, if_true, if_false, reduceIte, Bool.false_eq_true, eq_self]))

local macro_rules | `(tactic| walk_at "s1") => `(tactic| first | exact True.intro | assumption | (exact (by decide)) | omega | exact cpow (by decide) (by decide) (by decide) (by decide) | exact small_le (by omega) | exact small_lt (by omega) | exact cmulL (by omega) (by omega) | exact cmulR (by omega) (by omega) | (refine ⟨?_, ?_⟩ <;> omega) | exact small_le (by simp only [List.length_map, List.length_append, List.length_cons, List.length_nil]; omega) | exact small_lt (by simp only [List.length_map, List.length_append, List.length_cons, List.length_nil]; omega))
local macro_rules | `(tactic| walk_at "sd") => `(tactic| repeat (refine And.intro (by walk_at "s1") ?_))

abbrev s__law_deck : Stmt := top 87
abbrev N__law_deck : List Str := ["_law_script", "_law_cell"]
theorem sc__law_deck : FnScope N__law_deck ["_law_script"] (defScope s__law_deck) := ⟨rfl, rfl, rfl, by decide +kernel, rfl, by decide +kernel, by decide +kernel⟩
theorem ok__law_deck (h__law_deck : Dfn K mg "_law_deck" s__law_deck ["_law_script"]) (B : Bl mg) : Cal P w K mg base CX0 "_law_deck" 1 ["_law_script"] (spDeck K) :=
  cal_deck h__law_deck sc__law_deck fun f cdv A outer s H E => pss_one (ps_ret (pe_lst (pa_cons (pe_lc (own := [("_law_cell", 1)]) (g := gName 1) (tt := tYes) rfl sc__law_deck.nd (pi_list (pe_slice sl_list (pv 0) po_none (po_some pe_int)))
    (blkOk_by (N := N__law_deck) (sc := defScope s__law_deck) (by decide +kernel)) (fun _ _ _ _ _ => pg_name (i := 1) sc__law_deck.nd rfl (Or.inl rfl)) (fun _ _ _ _ _ => pts_nil) (fun _ _ _ _ _ => pe_callB call_abs (by rfl) B.abs PyProof.Rows.boot_abs (pa_cons (pv 1) pa_nil))) (pa_cons pe_int pa_nil))))
abbrev s__law_draw : Stmt := top 88
abbrev N__law_draw : List Str := ["_law_deck_here", "_law_many", "_law_cell", "_law_place", "_law_mixed"]
theorem sc__law_draw : FnScope N__law_draw ["_law_deck_here", "_law_many"] (defScope s__law_draw) := ⟨rfl, rfl, rfl, by decide +kernel, rfl, by decide +kernel, by decide +kernel⟩
theorem ok__law_draw (h__law_draw : Dfn K mg "_law_draw" s__law_draw ["_law_deck_here", "_law_many"]) (B : Bl mg) : Cal P w K mg base CX0 "_law_draw" 1 ["_law_deck_here", "_law_many"] (liftOw K (so1 R_draw)) := by
  refine cal_own h__law_draw sc__law_draw so1_len ⟨_, fun f cdv A outer s H E hgd hr => (b_cons (s_dkSet 0 (d_add (d_dkN 0) d_int))
    (b_cons (s_asg (d_tup (dc d_int (dc (d_neg d_int) dn))) (g_tup (n := 2) rfl (gs_cons (g_name (i := 2) sc__law_draw.nd) (gs_cons (g_name (i := 3) sc__law_draw.nd) gs_nil))))
    (b_cons (s_if (t_gt (d_dkLen 0 B.len) d_int) (b_cons (s_set (i := 3) sc__law_draw.nd (d_mod (d_intc B.int (dc (d_dkN 0) dn)) (d_dkLen 0 B.len)))
    (b_one (s_set (i := 2) sc__law_draw.nd (d_dkAt 0 3)))) b_nil)
    (b_cons (s_if (t_ge (dv 2) (d_pow d_int d_int)) (b_cons (s_dkPut 0 3 (d_fdiv (d_intc B.int (dc (dv 2) dn)) (dv 1)))
    (b_one (s_ret (d_mod (d_intc B.int (dc (dv 2) dn)) (dv 1))))) b_nil)
    (b_cons (s_set (i := 4) sc__law_draw.nd (d_add (d_add (d_mod (d_intc B.int (dc (dv 2) dn)) d_int) (d_mul d_int (d_dkN 0))) d_int))
    (b_one (s_ret (d_mod (d_intc B.int (dc (d_mod (d_intc B.int (dc (d_pow (dv 4) d_int) dn)) d_int) dn)) (dv 1))))))))), so1_by ?_⟩
  rintro _ cs n Q ⟨k, rfl, ⟨hl, hn⟩, hn2, hk, hk9, q⟩
  walk_at "rd"
  have e40 : (2 : Int) ^ 40 = 1099511627776 := by decide
  refine ⟨by decide, ite_by (fun h => ?_) fun h => ?_⟩
  · have p0 := Int.emod_nonneg (n + 1) (show (cs.length : Int) ≠ 0 by omega)
    have p1 := Int.emod_lt_of_pos (n + 1) h
    obtain ⟨m, hm, _⟩ := atI_ex (xs := cs) (i := (n + 1) % cs.length) p0 p1
    refine ⟨h, m, hm, cpow (by decide) (by decide) (by decide) (by decide), ite_by (fun hc => ?_) fun hc => ?_⟩
    · obtain ⟨l, hl1, hl2⟩ := ixN_ex p0 p1
      exact ⟨⟨hk, hk9⟩, l, hl1, hk, _, rfl, q _ _ (by rw [List.length_set]; exact hl) (Int.emod_nonneg _ (by omega)) (Int.emod_lt_of_pos _ hk)⟩
    · exact ⟨cmulL (by decide) (by decide), cpow (by decide) (by decide) (by omega) (by omega), hk, _, rfl, q _ _ hl (Int.emod_nonneg _ (by omega)) (Int.emod_lt_of_pos _ hk)⟩
  · refine ⟨cpow (by decide) (by decide) (by decide) (by decide), ite_by (fun hc => absurd hc (by decide)) fun hc => ?_⟩
    exact ⟨cmulL (by decide) (by decide), cpow (by decide) (by decide) (by omega) (by omega), hk, _, rfl, q _ _ hl (Int.emod_nonneg _ (by omega)) (Int.emod_lt_of_pos _ hk)⟩
abbrev s__law_one : Stmt := top 89
abbrev N__law_one : List Str := ["_law_deck_here", "_law_items"]
theorem sc__law_one : FnScope N__law_one ["_law_deck_here", "_law_items"] (defScope s__law_one) := ⟨rfl, rfl, rfl, by decide +kernel, rfl, by decide +kernel, by decide +kernel⟩
theorem ok__law_one (h__law_one : Dfn K mg "_law_one" s__law_one ["_law_deck_here", "_law_items"]) (B : Bl mg) (c__law_draw : Cal P w K mg base CX0 "_law_draw" 1 ["_law_deck_here", "_law_many"] (liftOw K (so1 R_draw))) : Cal P w K mg base CX0 "_law_one" 2 ["_law_deck_here", "_law_items"] (liftOw K (so1 R_one)) := by
  obtain ⟨f__law_draw, fd__law_draw, C__law_draw⟩ := c__law_draw
  refine cal_own h__law_one sc__law_one so1_len ⟨_, fun f cdv A outer s H E hgd hr => (b_one (s_ret (d_ixV 1 (d_callO 0 C__law_draw.fn hgd hr C__law_draw.mg C__law_draw.kp C__law_draw.bd pass0 (dc (d_lenV 1 B.len) dn))))), so1_by ?_⟩
  rintro _ cs n Q ⟨xs, e, ⟨hd1, hd2⟩, hn2, h0, h1, q⟩
  have l1 : (xs.length : Int) < 1152921504606846976 := by
    have e := sizeLine_eq
    omega
  rcases e with rfl | rfl
  all_goals
    walk_at "rd"
    refine ⟨_, rfl, ⟨hd1, hd2⟩, hn2, by omega, log60 (by omega) l1, fun r cs' hcs hr0 hr1 => ?_⟩
    walk_at "rd"
    obtain ⟨x, hx, hm⟩ := atI_ex hr0 hr1
    rw [hx]
    exact ⟨_, rfl, q x cs' hcs hm⟩
def rg (n : Int) : List Int := (List.range n.toNat).map fun (i : Nat) => (i : Int)
theorem mem_rg {n v : Int} : v ∈ rg n ↔ 0 ≤ v ∧ v < n := by
  unfold rg
  rw [List.mem_map]
  constructor
  · rintro ⟨i, hi, rfl⟩
    rw [List.mem_range] at hi
    omega
  · rintro ⟨a, b⟩
    exact ⟨v.toNat, List.mem_range.mpr (by omega), by omega⟩
theorem rg_len (n : Int) : (rg n).length = n.toNat := by
  unfold rg
  rw [List.length_map, List.length_range]
theorem rg_get {n : Int} {i : Nat} (h : i < n.toNat) : (rg n)[i]? = some (i : Int) := by
  unfold rg
  rw [List.getElem?_map, List.getElem?_range h]
  rfl
theorem rngD_rg (n : Int) : rngD 0 n.toNat = (rg n).map D.int := by
  rw [rngD_ints]
  unfold rg
  congr 1
  apply List.map_congr_left
  intro i _
  omega

/-- what a list of changes asks for at least -/
def ndF : List Int → Int
  | [] => 0
  | d :: r => max 0 (ndF r - d)
theorem ndF_0 : ∀ l, 0 ≤ ndF l
  | [] => Int.le_refl 0
  | _ :: _ => Int.le_max_left _ _
theorem ndF_app : ∀ u v : List Int, ndF (u ++ v) = max (ndF u) (ndF v - u.sum)
  | [], v => by
    have := ndF_0 v
    show ndF v = max 0 (ndF v - 0)
    omega
  | d :: u, v => by
    show max 0 (ndF (u ++ v) - d) = max (max 0 (ndF u - d)) (ndF v - (d + u.sum))
    rw [ndF_app u v]
    omega
theorem ndF_rep (u : List Int) : ∀ t : Nat, ndF (List.replicate (t + 1) u).flatten = max (ndF u) (ndF u - t * u.sum) ∧ (List.replicate (t + 1) u).flatten.sum = (t + 1) * u.sum
  | 0 => by
    rw [show (List.replicate (0 + 1) u).flatten = u by simp]
    exact ⟨by rw [show ((0 : Nat) : Int) * u.sum = 0 from Int.zero_mul _]; omega, by rw [show ((0 : Nat) : Int) + 1 = 1 from rfl, Int.one_mul]⟩
  | t + 1 => by
    obtain ⟨h1, h2⟩ := ndF_rep u t
    rw [List.replicate_succ, List.flatten_cons, ndF_app, List.sum_append, h1, h2]
    have e : ((t + 1 : Nat) : Int) * u.sum = t * u.sum + u.sum := by rw [show ((t + 1 : Nat) : Int) = t + 1 from rfl, Int.add_mul, Int.one_mul]
    have e2 : (((t + 1 : Nat) : Int) + 1) * u.sum = t * u.sum + u.sum + u.sum := by rw [Int.add_mul, Int.one_mul, e]
    have e3 : ((t : Int) + 1) * u.sum = t * u.sum + u.sum := by rw [Int.add_mul, Int.one_mul]
    rw [e, e2, e3]
    refine ⟨?_, by omega⟩
    have n0 := ndF_0 u
    generalize hS : u.sum = S at *
    generalize hN : ndF u = N at *
    by_cases c : 0 ≤ S
    · have := Int.mul_nonneg (show (0 : Int) ≤ t by omega) c
      omega
    · have := Int.mul_nonneg (show (0 : Int) ≤ t by omega) (show 0 ≤ -S by omega)
      rw [Int.mul_neg] at this
      omega
theorem ndF_all (d : Int) (t : Nat) : ndF (List.replicate t d) = max 0 (-(t * d)) ∧ (List.replicate t d).sum = t * d := by
  cases t with
  | zero => exact ⟨by simp [ndF], by simp⟩
  | succ t =>
    obtain ⟨h1, h2⟩ := ndF_rep [d] t
    rw [List.flatten_replicate_singleton] at h1 h2
    have e : ((t + 1 : Nat) : Int) * d = t * d + d := by rw [show ((t + 1 : Nat) : Int) = t + 1 from rfl, Int.add_mul, Int.one_mul]
    have s1 : [d].sum = d := by simp
    have e3 : ((t : Int) + 1) * d = t * d + d := by rw [Int.add_mul, Int.one_mul]
    rw [h1, h2, s1, e, e3]
    refine ⟨?_, rfl⟩
    show max (max 0 (0 - d)) (max 0 (0 - d) - t * d) = _
    by_cases c : 0 ≤ d
    · have := Int.mul_nonneg (show (0 : Int) ≤ t by omega) c
      omega
    · have := Int.mul_nonneg (show (0 : Int) ≤ t by omega) (show 0 ≤ -d by omega)
      rw [Int.mul_neg] at this
      omega
structure Of where
  a : Int
  x : Int
  b : Int
  y : Int
def Of.d (o : Of) : D := .tup [.int o.a, .int o.x, .int o.b, .int o.y]
def bd (nk : Int) (os : List Of) : D := .tup [.int nk, .tup (os.map Of.d)]
structure BO (nk : Int) (os : List Of) : Prop where
  k1 : 1 ≤ nk
  k4 : nk ≤ 4
  len : os.length ≤ 40
  ok : ∀ o ∈ os, (0 ≤ o.a ∧ o.a < nk) ∧ (0 ≤ o.b ∧ o.b < nk) ∧ o.a ≠ o.b ∧ (1 ≤ o.x ∧ o.x ≤ 30) ∧ (0 ≤ o.y ∧ o.y ≤ 30)
def gO (os : List Of) (i : Int) : Of := os.getD i.toNat ⟨0, 0, 0, 0⟩
theorem gO_at {os : List Of} {i : Int} (h0 : 0 ≤ i) (h1 : i < os.length) : atI (os.map Of.d) i = some (gO os i).d ∧ gO os i ∈ os := by
  have e : os[i.toNat]? = some (gO os i) := by
    unfold gO
    rw [List.getD_eq_getElem?_getD, List.getElem?_eq_getElem (by omega)]
    rfl
  refine ⟨?_, List.mem_of_getElem? e⟩
  have z : atI (os.map Of.d) ((i.toNat : Nat) : Int) = some (gO os i).d := atI_nat (by rw [List.getElem?_map, e]; rfl)
  rwa [show ((i.toNat : Nat) : Int) = i by omega] at z
structure Rn where
  i : Int
  t : Int
def Rn.d (r : Rn) : D := .tup [.int r.i, .int r.t]
structure Ef where
  n : Int → Int
  c : Int → Int
def lsF (nk : Int) (f : Int → Int) : D := .lst (((rg nk).map f).map D.int)
def Ef.d (nk : Int) (e : Ef) : D := .tup [lsF nk e.n, lsF nk e.c]
def runE (o : Of) (t : Int) : Ef := ⟨fun k => if k = o.a then o.x * t else 0, fun k => if k = o.b then o.y * t else if k = o.a then 0 - o.x * t else 0⟩
def togE (e f : Ef) : Ef := ⟨fun k => max (e.n k) (f.n k - e.c k), fun k => e.c k + f.c k⟩
def repE (e : Ef) (t : Int) : Ef := ⟨fun k => max (e.n k) (e.n k - (t - 1) * e.c k), fun k => e.c k * t⟩
def nilE : Ef := ⟨fun _ => 0, fun _ => 0⟩
/-- runs, one after another -/
def runsE (os : List Of) : List Rn → Ef := fun rr => rr.foldl (fun e r => togE e (runE (gO os r.i) r.t)) nilE
/-- a step of a way: a run, or runs again and again -/
inductive St where
  | one (r : Rn)
  | rnd (rs : List Rn) (t : Int)
def St.d : St → D
  | .one r => r.d
  | .rnd rs t => .tup [.tup (rs.map Rn.d), .int t]
def stE (os : List Of) : St → Ef
  | .one r => runE (gO os r.i) r.t
  | .rnd rs t => repE (runsE os rs) t
def St.ok (nk : Int) (os : List Of) : St → Prop
  | .one r => 0 ≤ r.i ∧ r.i < os.length
  | .rnd rs _ => (∀ r ∈ rs, 0 ≤ r.i ∧ r.i < os.length) ∧ ∀ k, 0 ≤ k → k < nk → -18446744073709551616 < (runsE os rs).c k ∧ (runsE os rs).c k < 18446744073709551616
def wayE (os : List Of) (ws : List St) : Ef := ws.foldl (fun e s => togE e (stE os s)) nilE
def Of.l (o : Of) : List Int := [o.a, o.x, o.b, o.y]
theorem Of.dl (o : Of) : o.d = tI o.l := rfl
def of4 : List Int → Of
  | [a, x, b, y] => ⟨a, x, b, y⟩
  | _ => ⟨0, 0, 0, 0⟩
theorem os_lists (os : List Of) : os.map Of.d = (os.map Of.l).map tI := by rw [List.map_map]; rfl
/-- what a sorted set of offers is -/
theorem os_back {os : List Of} {ks : List (List Int)} (h : ∀ k, k ∈ ks ↔ k ∈ os.map Of.l) : ks.map tI = (ks.map of4).map Of.d ∧ ∀ o, o ∈ ks.map of4 ↔ o ∈ os := by
  constructor
  · rw [List.map_map]
    apply List.map_congr_left
    intro k hk
    obtain ⟨o, ho, rfl⟩ := List.mem_map.mp ((h k).mp hk)
    rfl
  · intro o
    constructor
    · intro ho
      obtain ⟨k, hk, rfl⟩ := List.mem_map.mp ho
      obtain ⟨o', ho', rfl⟩ := List.mem_map.mp ((h k).mp hk)
      exact ho'
    · intro ho
      exact List.mem_map.mpr ⟨o.l, (h _).mpr (List.mem_map_of_mem ho), rfl⟩

def Rn.ok (os : List Of) (r : Rn) : Prop := (0 ≤ r.i ∧ r.i < os.length) ∧ 1 ≤ r.t ∧ r.t ≤ 6
def St.sm (os : List Of) : St → Prop
  | .one r => r.ok os
  | .rnd rs t => rs.length ≤ 3 ∧ (∀ r ∈ rs, r.ok os) ∧ 1 ≤ t ∧ t ≤ 6
/-- the offers used, one after another -/
def usR (r : Rn) : List Int := List.replicate r.t.toNat r.i
def usS : St → List Int
  | .one r => usR r
  | .rnd rs t => (List.replicate t.toNat (rs.flatMap usR)).flatten
/-- what the offer i changes of the kind k -/
def dl (os : List Of) (k i : Int) : Int := if k = (gO os i).b then (gO os i).y else if k = (gO os i).a then 0 - (gO os i).x else 0
def needF (os : List Of) (us : List Int) (k : Int) : Int := ndF (us.map (dl os k))
def chgF (os : List Of) (us : List Int) (k : Int) : Int := (us.map (dl os k)).sum

def EqE (os : List Of) (e : Ef) (us : List Int) : Prop := ∀ k, e.n k = needF os us k ∧ e.c k = chgF os us k
theorem EqE.nil {os : List Of} : EqE os nilE [] := fun k => ⟨rfl, rfl⟩
theorem EqE.app {os : List Of} {e f : Ef} {u v : List Int} (h : EqE os e u) (h' : EqE os f v) : EqE os (togE e f) (u ++ v) := fun k => by
  obtain ⟨a, b⟩ := h k
  obtain ⟨c, d⟩ := h' k
  unfold needF chgF at *
  refine ⟨?_, ?_⟩
  · show max (e.n k) (f.n k - e.c k) = _
    rw [List.map_append, ndF_app, a, b, c]
  · show e.c k + f.c k = _
    rw [List.map_append, List.sum_append, b, d]
theorem EqE.rep {os : List Of} {e : Ef} {u : List Int} (h : EqE os e u) {t : Int} (t1 : 1 ≤ t) : EqE os (repE e t) (List.replicate t.toNat u).flatten := fun k => by
  obtain ⟨a, b⟩ := h k
  obtain ⟨n, hn⟩ : ∃ n : Nat, t = n + 1 := ⟨(t - 1).toNat, by omega⟩
  subst hn
  unfold needF chgF at *
  obtain ⟨h1, h2⟩ := ndF_rep (u.map (dl os k)) n
  rw [show ((n : Int) + 1).toNat = n + 1 by omega, List.map_flatten, List.map_replicate]
  refine ⟨?_, ?_⟩
  · show max (e.n k) (e.n k - ((n : Int) + 1 - 1) * e.c k) = _
    rw [h1, a, b, show (n : Int) + 1 - 1 = n by omega]
  · show e.c k * ((n : Int) + 1) = _
    rw [h2, b, Int.mul_comm]
theorem EqE.run {os : List Of} {r : Rn} (ab : (gO os r.i).a ≠ (gO os r.i).b) (x0 : 0 ≤ (gO os r.i).x) (y0 : 0 ≤ (gO os r.i).y) (t1 : 0 ≤ r.t) : EqE os (runE (gO os r.i) r.t) (usR r) := fun k => by
  unfold needF chgF usR
  obtain ⟨h1, h2⟩ := ndF_all (dl os k r.i) r.t.toNat
  rw [List.map_replicate, h1, h2, Int.toNat_of_nonneg t1]
  unfold dl runE
  dsimp only
  have tx := Int.mul_nonneg t1 x0
  have ty := Int.mul_nonneg t1 y0
  have c1 := Int.mul_comm r.t (gO os r.i).x
  have c2 := Int.mul_comm r.t (gO os r.i).y
  by_cases c : k = (gO os r.i).b
  · rw [if_pos c, if_pos c, if_neg (by omega)]
    refine ⟨by omega, by omega⟩
  · rw [if_neg c, if_neg c]
    by_cases c3 : k = (gO os r.i).a
    · rw [if_pos c3, if_pos c3, if_pos c3, Int.mul_sub, Int.mul_zero]
      refine ⟨by omega, by omega⟩
    · rw [if_neg c3, if_neg c3, if_neg c3, Int.mul_zero]
      exact ⟨by omega, rfl⟩
theorem EqE.runs {os : List Of} {nk : Int} (h : BO nk os) : ∀ {rs : List Rn}, (∀ r ∈ rs, (0 ≤ r.i ∧ r.i < os.length) ∧ 0 ≤ r.t) → ∀ {e : Ef} {u : List Int}, EqE os e u → EqE os (rs.foldl (fun e r => togE e (runE (gO os r.i) r.t)) e) (u ++ rs.flatMap usR)
  | [], _, e, u, hu => by simpa using hu
  | r :: rs, hr, e, u, hu => by
    have r0 := hr r List.mem_cons_self
    obtain ⟨_, om⟩ := gO_at r0.1.1 r0.1.2
    obtain ⟨_, _, ab, ⟨x0, _⟩, y0, _⟩ := h.ok _ om
    have e1 := hu.app (EqE.run (os := os) (r := r) ab (by omega) y0 r0.2)
    have e2 := EqE.runs h (rs := rs) (fun x hx => hr x (List.mem_cons_of_mem _ hx)) e1
    rw [List.flatMap_cons, ← List.append_assoc]
    exact e2
theorem EqE.step {os : List Of} {nk : Int} (h : BO nk os) {s : St} (hs : s.sm os) : EqE os (stE os s) (usS s) := by
  cases s with
  | one r =>
    have r0 := hs.1
    obtain ⟨_, om⟩ := gO_at r0.1 r0.2
    obtain ⟨_, _, ab, ⟨x0, _⟩, y0, _⟩ := h.ok _ om
    exact EqE.run ab (by omega) y0 (by have := hs.2; omega)
  | rnd rs t =>
    obtain ⟨_, hr, t1, _⟩ := hs
    have e := EqE.runs h (rs := rs) (fun r hx => ⟨(hr r hx).1, by have := (hr r hx).2; omega⟩) EqE.nil
    rw [List.nil_append] at e
    exact e.rep t1
def gos (x y z : Int) : List Of := [⟨0, x, 1, y⟩, ⟨1, z, 0, x⟩]
theorem prod_le {a b : Int} (ha : 0 ≤ a) (hb : 0 ≤ b) : 0 ≤ a * b := Int.mul_nonneg ha hb
theorem g1 {x y z m : Int} (x0 : 1 ≤ x) (m1 : 1 ≤ m) (y0 : 0 ≤ y) (z0 : 1 ≤ z) : (wayE (gos x y z) [.rnd [⟨0, 1⟩, ⟨1, 1⟩] m]).n 0 = x ∧ (wayE (gos x y z) [.rnd [⟨0, 1⟩, ⟨1, 1⟩] m]).n 1 = max 0 (z - y) + (m - 1) * max 0 (z - y) ∧ (wayE (gos x y z) [.rnd [⟨0, 1⟩, ⟨1, 1⟩] m]).c 0 = 0 ∧ (wayE (gos x y z) [.rnd [⟨0, 1⟩, ⟨1, 1⟩] m]).c 1 = m * (y - z) := by
  have e0 : (wayE (gos x y z) [.rnd [⟨0, 1⟩, ⟨1, 1⟩] m]).n 0 = max 0 (max (max (max 0 (x * 1 - 0)) (0 - (0 + (0 - x * 1)))) (max (max 0 (x * 1 - 0)) (0 - (0 + (0 - x * 1))) - (m - 1) * (0 + (0 - x * 1) + x * 1)) - 0) := rfl
  have e1 : (wayE (gos x y z) [.rnd [⟨0, 1⟩, ⟨1, 1⟩] m]).n 1 = max 0 (max (max (max 0 (0 - 0)) (z * 1 - (0 + y * 1))) (max (max 0 (0 - 0)) (z * 1 - (0 + y * 1)) - (m - 1) * (0 + y * 1 + (0 - z * 1))) - 0) := rfl
  have e2 : (wayE (gos x y z) [.rnd [⟨0, 1⟩, ⟨1, 1⟩] m]).c 0 = 0 + (0 + (0 - x * 1) + x * 1) * m := rfl
  have e3 : (wayE (gos x y z) [.rnd [⟨0, 1⟩, ⟨1, 1⟩] m]).c 1 = 0 + (0 + y * 1 + (0 - z * 1)) * m := rfl
  rw [e0, e1, e2, e3]
  clear e0 e1 e2 e3
  rw [Int.mul_one, Int.mul_one, Int.mul_one, show (0 : Int) + (0 - x) + x = 0 by omega, Int.mul_zero, Int.zero_mul, show (0 : Int) + y + (0 - z) = y - z by omega, Int.mul_comm (y - z) m]
  refine ⟨by omega, ?_, rfl, by omega⟩
  by_cases c : y ≤ z
  · rw [show max (0 : Int) (z - y) = z - y by omega, show (y - z : Int) = -(z - y) by omega, Int.mul_neg]
    have := prod_le (show 0 ≤ m - 1 by omega) (show 0 ≤ z - y by omega)
    omega
  · rw [show max (0 : Int) (z - y) = 0 by omega, Int.mul_zero]
    have := prod_le (show 0 ≤ m - 1 by omega) (show 0 ≤ y - z by omega)
    omega
theorem g2 {x y z m : Int} (x0 : 1 ≤ x) (m1 : 1 ≤ m) (y0 : 0 ≤ y) (z0 : 1 ≤ z) : (wayE (gos x y z) [.rnd [⟨1, 1⟩, ⟨0, 1⟩] m]).n 0 = 0 ∧ (wayE (gos x y z) [.rnd [⟨1, 1⟩, ⟨0, 1⟩] m]).n 1 = max z (z + (m - 1) * (z - y)) ∧ (wayE (gos x y z) [.rnd [⟨1, 1⟩, ⟨0, 1⟩] m]).c 0 = 0 ∧ (wayE (gos x y z) [.rnd [⟨1, 1⟩, ⟨0, 1⟩] m]).c 1 = m * (y - z) := by
  have e0 : (wayE (gos x y z) [.rnd [⟨1, 1⟩, ⟨0, 1⟩] m]).n 0 = max 0 (max (max (max 0 (0 - 0)) (x * 1 - (0 + x * 1))) (max (max 0 (0 - 0)) (x * 1 - (0 + x * 1)) - (m - 1) * (0 + x * 1 + (0 - x * 1))) - 0) := rfl
  have e1 : (wayE (gos x y z) [.rnd [⟨1, 1⟩, ⟨0, 1⟩] m]).n 1 = max 0 (max (max (max 0 (z * 1 - 0)) (0 - (0 + (0 - z * 1)))) (max (max 0 (z * 1 - 0)) (0 - (0 + (0 - z * 1))) - (m - 1) * (0 + (0 - z * 1) + y * 1)) - 0) := rfl
  have e2 : (wayE (gos x y z) [.rnd [⟨1, 1⟩, ⟨0, 1⟩] m]).c 0 = 0 + (0 + x * 1 + (0 - x * 1)) * m := rfl
  have e3 : (wayE (gos x y z) [.rnd [⟨1, 1⟩, ⟨0, 1⟩] m]).c 1 = 0 + (0 + (0 - z * 1) + y * 1) * m := rfl
  rw [e0, e1, e2, e3]
  clear e0 e1 e2 e3
  rw [Int.mul_one, Int.mul_one, Int.mul_one, show (0 : Int) + x + (0 - x) = 0 by omega, Int.mul_zero, Int.zero_mul, show (0 : Int) + (0 - z) + y = y - z by omega, Int.mul_comm (y - z) m]
  refine ⟨by omega, ?_, rfl, by omega⟩
  rw [show (z - y : Int) = -(y - z) by omega, Int.mul_neg]
  omega
theorem g3 {x y z m : Int} (x0 : 1 ≤ x) (m1 : 1 ≤ m) (y0 : 0 ≤ y) (z0 : 1 ≤ z) : (wayE (gos x y z) [.one ⟨0, m⟩]).n 0 = m * x ∧ (wayE (gos x y z) [.one ⟨0, m⟩]).n 1 = 0 ∧ (wayE (gos x y z) [.one ⟨0, m⟩]).c 0 = 0 - m * x ∧ (wayE (gos x y z) [.one ⟨0, m⟩]).c 1 = m * y := by
  have e0 : (wayE (gos x y z) [.one ⟨0, m⟩]).n 0 = max 0 (x * m - 0) := rfl
  have e1 : (wayE (gos x y z) [.one ⟨0, m⟩]).n 1 = max 0 (0 - 0) := rfl
  have e2 : (wayE (gos x y z) [.one ⟨0, m⟩]).c 0 = 0 + (0 - x * m) := rfl
  have e3 : (wayE (gos x y z) [.one ⟨0, m⟩]).c 1 = 0 + y * m := rfl
  rw [e0, e1, e2, e3, Int.mul_comm x m, Int.mul_comm y m]
  have := prod_le (show 0 ≤ m by omega) (show 0 ≤ x by omega)
  refine ⟨by omega, by omega, by omega, by omega⟩
def SOk (x : Str) : Prop := ∀ c ∈ x.cps.toList, c < 0x110000
theorem SOk.of (s : String) : SOk (Str.ofString s) := fun c hc => by
  rw [Str.ofString_eq_toList] at hc
  obtain ⟨d, _, rfl⟩ := List.mem_map.mp (by simpa using hc)
  have h : d.toNat < 0x110000 := by
    rcases d.valid with h | h
    · exact Nat.lt_trans h (by decide)
    · exact h.2
  exact h
theorem SOk.app {x y : Str} (h : SOk x) (h' : SOk y) : SOk (x ++ y) := fun c hc => by
  rw [show (x ++ y).cps = x.cps ++ y.cps from rfl, Array.toList_append] at hc
  rcases List.mem_append.mp hc with hc | hc
  · exact h c hc
  · exact h' c hc
theorem SOk.ok {x : Str} (h : SOk x) : PyData.strOk x = true := by
  unfold PyData.strOk
  rw [Array.all_eq_true']
  intro c hc
  exact decide_eq_true (h c (by simpa using hc))
theorem SOk.text : ∀ (ts : List Str) (k : Nat) (acc : Str), SOk acc → (∀ t ∈ ts, SOk t) → SOk (textFrom k acc ts)
  | [], _, _, h, _ => h
  | t :: ts, k, acc, h, ht => by
    unfold textFrom
    exact SOk.text ts (k + 1) _ ((h.app (SOk.of _)).app (ht t List.mem_cons_self)) fun x hx => ht x (List.mem_cons_of_mem _ hx)
theorem SOk.join : ∀ ts : List Str, (∀ t ∈ ts, SOk t) → SOk (Str.join ", " ts)
  | [], _ => fun c hc => by
    have : c ∈ ([] : List Nat) := hc
    cases this
  | [x], h => h x List.mem_cons_self
  | x :: y :: r, h => by
    have ih := SOk.join (y :: r) fun t ht => h t (List.mem_cons_of_mem _ ht)
    show SOk (x ++ ", " ++ Str.join ", " (y :: r))
    exact ((h x List.mem_cons_self).app (SOk.of _)).app ih
theorem SOk.list {ts : List Str} (h : ∀ t ∈ ts, SOk t) : SOk (listText ts) := (SOk.text ts 0 _ (SOk.of _) h).app (SOk.of _)
theorem SOk.tuple {ts : List Str} (h : ∀ t ∈ ts, SOk t) : SOk (tupleText ts) := ((SOk.of _).app (SOk.join ts h)).app (by split <;> exact SOk.of _)
theorem SOk.int (i : Int) : SOk (PyData.shown (D.int i).py) := SOk.of _
theorem SOk.ints (l : List Int) : SOk (PyData.shown (D.tup (l.map D.int)).py) := by
  show SOk (tupleText (PyData.shownAll (D.pyL (l.map D.int))))
  refine SOk.tuple fun t ht => ?_
  induction l with
  | nil => exact nomatch ht
  | cons i l ih =>
    rcases List.mem_cons.mp (show t ∈ PyData.shown (D.int i).py :: PyData.shownAll (D.pyL (l.map D.int)) from ht) with e | e
    · rw [e]
      exact SOk.int i
    · exact ih e
theorem SOk.two {a b : D} (h : SOk (PyData.shown a.py)) (h' : SOk (PyData.shown b.py)) : SOk (PyData.shown (D.lst [a, b]).py) := by
  show SOk (listText [PyData.shown a.py, PyData.shown b.py])
  refine SOk.list fun t ht => ?_
  simp only [List.mem_cons, List.not_mem_nil, or_false] at ht
  rcases ht with rfl | rfl
  · exact h
  · exact h'
theorem bd_sh {nk : Int} {os : List Of} (h : BO nk os) : Sh 3 20000 (bd nk os) := by
  have k1 := h.k1
  have k4 := h.k4
  have a1 : Sh 2 10283 (D.tup (os.map Of.d)) := Sh.tup (ShL.most (k := 1) (m := 255) (n := 40) (fun o ho => by
    obtain ⟨⟨a0, a1⟩, ⟨b0, b1⟩, _, ⟨x0, x1⟩, y0, y1⟩ := h.ok o ho
    exact Sh.tup (ShL.small (l := [o.a, o.x, o.b, o.y]) (n := 4) (fun v hv => by
      simp only [List.mem_cons, List.not_mem_nil, or_false] at hv
      rcases hv with rfl | rfl | rfl | rfl <;> omega) (by simp))) h.len)
  exact (Sh.tup (ShL.cons (Sh.int60 (by omega) (by omega)) (ShL.cons a1 (ShL.nil (k := 0))))).mono (by decide) (by decide)
inductive Wk where
  | to (p : Int → Int)
  | no (i : Nat)
def puD (nk : Int) (p : Int → Int) : D := .tup (((rg nk).map p).map D.int)
def Wk.d (nk : Int) : Wk → D
  | .to p => puD nk p
  | .no i => .lst [.int i]
theorem enum_get {xs : List D} {i : Nat} {y : D} (h : (enumL 0 xs)[i]? = some y) : ∃ d, xs[i]? = some d ∧ y = .tup [.int i, d] := by
  rw [enumL_get] at h
  cases e : xs[i]? with
  | none =>
    rw [e] at h
    cases h
  | some d =>
    rw [e] at h
    have h := (Option.some.inj h).symm
    rw [Nat.zero_add] at h
    exact ⟨d, rfl, h⟩
theorem map_get {α : Type} {f : α → D} {xs : List α} {i : Nat} {y : D} (h : (xs.map f)[i]? = some y) : ∃ x, xs[i]? = some x ∧ y = f x := by
  rw [List.getElem?_map] at h
  cases e : xs[i]? with
  | none =>
    rw [e] at h
    cases h
  | some x =>
    rw [e] at h
    exact ⟨x, rfl, (Option.some.inj h).symm⟩
theorem ofd (o : Of) : o.d = D.tup [.int o.a, .int o.x, .int o.b, .int o.y] := rfl
def btw (lo hi : Int) : D → Bool
  | .int i => decide (lo ≤ i) && decide (i ≤ hi)
  | _ => false
theorem btw_true {lo hi : Int} {d : D} (h : btw lo hi d = true) : ∃ i, d = .int i ∧ lo ≤ i ∧ i ≤ hi := by
  cases d with
  | int i =>
    have p := Bool.and_eq_true_iff.mp h
    exact ⟨i, rfl, of_decide_eq_true p.1, of_decide_eq_true p.2⟩
  | _ => cases h
def idxOk (os : List Of) (d : D) : Bool := btw 0 (os.length - 1) d
def ixOf : D → Int
  | .int i => i
  | _ => 0
theorem ixOf_map (is : List Int) : (is.map D.int).map ixOf = is := by
  rw [List.map_map]
  exact List.map_id is
/-- the one ahead, round about -/
def pvI (n : Nat) (k : Int) : Nat := if k = 0 then n - 1 else (k - 1).toNat
theorem at_pv {α : Type} {l : List α} {f : α → D} (d0 : α) {k : Int} (k0 : 0 ≤ k) (k1 : k < l.length) : atI (l.map f) (k - 1) = some (f (l.getD (pvI l.length k) d0)) := by
  unfold pvI
  by_cases c : k = 0
  · subst c
    rw [if_pos rfl]
    have hl : l.length - 1 < l.length := by omega
    rw [List.getD_eq_getElem?_getD, List.getElem?_eq_getElem hl]
    have e : ixN (l.map f).length (0 - 1) = some (l.length - 1) := by
      unfold ixN
      rw [List.length_map, if_neg (by omega), if_pos (by omega)]
      congr 1
      omega
    unfold atI
    rw [e, Option.bind_some, List.getElem?_map, List.getElem?_eq_getElem hl]
    rfl
  · rw [if_neg c]
    have hl : (k - 1).toNat < l.length := by omega
    rw [List.getD_eq_getElem?_getD, List.getElem?_eq_getElem hl]
    have z : atI (l.map f) (((k - 1).toNat : Nat) : Int) = some (f l[(k - 1).toNat]) := atI_nat (by rw [List.getElem?_map, List.getElem?_eq_getElem hl]; rfl)
    rwa [show (((k - 1).toNat : Nat) : Int) = k - 1 by omega] at z
theorem getD_in {α : Type} {l : List α} (d0 : α) {i : Nat} (h : i < l.length) : l.getD i d0 ∈ l := by
  rw [List.getD_eq_getElem?_getD, List.getElem?_eq_getElem h]
  exact List.getElem_mem h
def chB (os : List Of) (is : List Int) (k : Int) : Bool := decide ((gO os (is.getD (pvI is.length k) 0)).b = (gO os (is.getD k.toNat 0)).a)
def lpB (os : List Of) (is : List Int) : Bool := (is.all fun i => decide ((gO os i).y ≠ 0)) && (rg is.length).all (chB os is)
def isLp (os : List Of) : D → Bool
  | .tup xs => !xs.isEmpty && (xs.all (idxOk os) && lpB os (xs.map ixOf))
  | _ => false
theorem lcD_self (as : List D) (f : D → D) {g : TGd} {te : TEd} {vs : List Nat} {E : En} (E0 : En) {Q : List D → En → Prop} (hw : wipeD E vs = E0) (hw2 : wipeD E0 vs = E0) (hs : as.length ≤ sizeLine)
    (step : ∀ a ∈ as, ∀ (R : D → En → Prop), (∀ E4, wipeD E4 vs = E0 → R (f a) E4) → g a E0 fun E2 => te E2 R) (q : Q (as.map f) E0) : lcD as g tYesD te vs E Q := by
  have z := lcD_all as (fun d => d) f (g := g) (te := te) (vs := vs) (E := E) (Q := Q) E0 hw hw2 hs step q
  rwa [List.map_id'] at z
def prX (os : List Of) (is : List Int) : Int := is.foldl (fun p i => p * (gO os i).x) 1
def prY (os : List Of) (is : List Int) : Int := is.foldl (fun p i => p * (gO os i).y) 1
theorem prod_bd {f : Int → Int} : ∀ (is : List Int) (p : Int) (n : Nat), (∀ i ∈ is, 1 ≤ f i ∧ f i ≤ 30) → 1 ≤ p → p ≤ 30 ^ n → 1 ≤ is.foldl (fun p i => p * f i) p ∧ is.foldl (fun p i => p * f i) p ≤ 30 ^ (n + is.length)
  | [], p, n, _, p1, p2 => ⟨p1, p2⟩
  | i :: is, p, n, h, p1, p2 => by
    have hi := h i List.mem_cons_self
    have a : 1 * 1 ≤ p * f i := Int.mul_le_mul p1 hi.1 (by omega) (by omega)
    have b : p * f i ≤ 30 ^ n * 30 := Int.mul_le_mul p2 hi.2 (by omega) (by omega)
    have r := prod_bd is (p * f i) (n + 1) (fun j hj => h j (List.mem_cons_of_mem _ hj)) (by omega) (by rw [Int.pow_succ]; exact b)
    rw [List.length_cons, show n + (is.length + 1) = n + 1 + is.length by omega]
    exact r
theorem pow_le12 {n : Nat} (h : n ≤ 12) : (30 : Int) ^ n ≤ 531441000000000000 := by
  have c : n = 0 ∨ n = 1 ∨ n = 2 ∨ n = 3 ∨ n = 4 ∨ n = 5 ∨ n = 6 ∨ n = 7 ∨ n = 8 ∨ n = 9 ∨ n = 10 ∨ n = 11 ∨ n = 12 := by omega
  rcases c with rfl | rfl | rfl | rfl | rfl | rfl | rfl | rfl | rfl | rfl | rfl | rfl | rfl <;> decide
theorem prX_bd {nk : Int} {os : List Of} (h : BO nk os) {is : List Int} (his : ∀ i ∈ is, 0 ≤ i ∧ i < os.length) (hl : is.length ≤ 12) : 1 ≤ prX os is ∧ prX os is ≤ 531441000000000000 := by
  have r := prod_bd (f := fun i => (gO os i).x) is 1 0 (fun i hi => by
    obtain ⟨_, om⟩ := gO_at (his i hi).1 (his i hi).2
    exact (h.ok _ om).2.2.2.1) (by decide) (by decide)
  rw [Nat.zero_add] at r
  exact ⟨r.1, Int.le_trans r.2 (pow_le12 hl)⟩
theorem prY_bd {nk : Int} {os : List Of} (h : BO nk os) {is : List Int} (his : ∀ i ∈ is, 0 ≤ i ∧ i < os.length) (hy : is.all (fun i => decide ((gO os i).y ≠ 0)) = true) (hl : is.length ≤ 12) : 1 ≤ prY os is ∧ prY os is ≤ 531441000000000000 := by
  have r := prod_bd (f := fun i => (gO os i).y) is 1 0 (fun i hi => by
    obtain ⟨_, om⟩ := gO_at (his i hi).1 (his i hi).2
    have a := (h.ok _ om).2.2.2.2
    have b := of_decide_eq_true (List.all_eq_true.mp hy i hi)
    exact ⟨by omega, a.2⟩) (by decide) (by decide)
  rw [Nat.zero_add] at r
  exact ⟨r.1, Int.le_trans r.2 (pow_le12 hl)⟩
def gI (a b : Int) : Int := (Int.gcd a b : Int)
theorem gI_step {x y : Int} (x0 : 0 ≤ x) (y0 : 0 < y) : gI y (x % y) = gI x y := by
  obtain ⟨m, rfl⟩ := Int.eq_ofNat_of_zero_le x0
  obtain ⟨n, rfl⟩ := Int.eq_ofNat_of_zero_le (show 0 ≤ y by omega)
  show ((Nat.gcd n (((m : Int) % (n : Int)).natAbs) : Nat) : Int) = ((Nat.gcd m n : Nat) : Int)
  rw [show ((m : Int) % (n : Int)).natAbs = m % n from rfl, Nat.gcd_comm m n, Nat.gcd_rec n m, Nat.gcd_comm (m % n) n]
theorem gI_zero {x : Int} (x0 : 0 ≤ x) : gI x 0 = x := by
  show ((Int.gcd x 0 : Nat) : Int) = x
  rw [Int.gcd_zero_right]
  omega
theorem gI_nn (a b : Int) : 0 ≤ gI a b := Int.natCast_nonneg _
theorem gI_l (a b : Int) : gI a b ∣ a := Int.gcd_dvd_left ..
theorem gI_r (a b : Int) : gI a b ∣ b := Int.gcd_dvd_right ..
theorem gI_pos {a b : Int} (h : 0 < a ∨ 0 < b) : 1 ≤ gI a b := by
  have n := gI_nn a b
  by_cases c : gI a b = 0
  · have l := gI_l a b
    have r := gI_r a b
    rw [c] at l r
    have := Int.zero_dvd.mp l
    have := Int.zero_dvd.mp r
    omega
  · omega
theorem gI_mul (a b c : Int) (h : 0 ≤ c) : gI (a * c) (b * c) = gI a b * c := by
  show ((Int.gcd (a * c) (b * c) : Nat) : Int) = _
  rw [Int.gcd_mul_right, Int.natCast_mul]
  unfold gI
  rw [show ((c.natAbs : Nat) : Int) = c by omega]
theorem quot_gt {a b : Int} (a1 : 1 ≤ a) (b1 : 1 ≤ b) : decide (a / gI a b > b / gI a b) = decide (a > b) := by
  have g1 := gI_pos (a := a) (b := b) (.inl (by omega))
  obtain ⟨p, hp⟩ := gI_l a b
  obtain ⟨r, hr⟩ := gI_r a b
  generalize gI a b = g at *
  subst hp hr
  rw [Int.mul_ediv_cancel_left p (by omega), Int.mul_ediv_cancel_left r (by omega)]
  congr 1
  refine propext ⟨fun z => Int.mul_lt_mul_of_pos_left z (by omega), fun z => ?_⟩
  exact Int.lt_of_mul_lt_mul_left z (by omega)

def stp (os : List Of) (a b : Int) : Prop := ∃ o ∈ os, o.a = a ∧ o.b = b ∧ 0 < o.y
inductive Rch (os : List Of) (a : Int) : Int → Prop
  | refl : Rch os a a
  | step {b c : Int} : Rch os a b → stp os b c → Rch os a c
def Closed (os : List Of) (m l : List Int) : Prop := ∀ o ∈ os, o.a ∈ m → 0 < o.y → o.b ∈ l
/-- a list of kinds that a leads to, a among them -/
structure FL (nk : Int) (os : List Of) (a : Int) (l : List Int) : Prop where
  mem : a ∈ l
  nd : l.Nodup
  rng : ∀ x ∈ l, 0 ≤ x ∧ x < nk
  rch : ∀ x ∈ l, Rch os a x
theorem FL.one {nk : Int} {os : List Of} {a : Int} (a0 : 0 ≤ a) (a1 : a < nk) : FL nk os a [a] :=
  ⟨List.mem_singleton.mpr rfl, List.nodup_cons.mpr ⟨List.not_mem_nil, List.nodup_nil⟩, fun x hx => by rw [List.mem_singleton.mp hx]; exact ⟨a0, a1⟩, fun x hx => by rw [List.mem_singleton.mp hx]; exact .refl⟩
theorem FL.push {nk : Int} {os : List Of} {a : Int} {l : List Int} (h : FL nk os a l) (hb : BO nk os) {o : Of} (ho : o ∈ os) (ha : o.a ∈ l) (hy : 0 < o.y) (hn : o.b ∉ l) : FL nk os a (l ++ [o.b]) where
  mem := List.mem_append_left _ h.mem
  nd := List.nodup_append.mpr ⟨h.nd, List.nodup_cons.mpr ⟨List.not_mem_nil, List.nodup_nil⟩, fun x hx y hy e => hn (by rw [← List.mem_singleton.mp hy, ← e]; exact hx)⟩
  rng := fun x hx => by
    rcases List.mem_append.mp hx with z | z
    · exact h.rng x z
    · rw [List.mem_singleton.mp z]
      exact (hb.ok o ho).2.1
  rch := fun x hx => by
    rcases List.mem_append.mp hx with z | z
    · exact h.rch x z
    · rw [List.mem_singleton.mp z]
      exact .step (h.rch _ ha) ⟨o, ho, rfl, rfl, hy⟩
theorem nodup_leI : ∀ {l m : List Int}, l.Nodup → (∀ x ∈ l, x ∈ m) → l.length ≤ m.length
  | [], _, _, _ => Nat.zero_le _
  | x :: l, m, nd, h => by
    have h1 := List.nodup_cons.mp nd
    have hx := h x List.mem_cons_self
    have := nodup_leI (m := m.erase x) h1.2 fun y hy => (List.mem_erase_of_ne fun (e : y = x) => h1.1 (by rw [← e]; exact hy)).mpr (h y (List.mem_cons_of_mem _ hy))
    rw [List.length_erase_of_mem hx] at this
    have p := List.length_pos_of_mem hx
    rw [List.length_cons]
    omega
theorem FL.len {nk : Int} {os : List Of} {a : Int} {l : List Int} (h : FL nk os a l) : l.length ≤ nk.toNat := by
  have := nodup_leI (m := rg nk) h.nd fun x hx => mem_rg.mpr (h.rng x hx)
  rwa [rg_len] at this
theorem FL.pos {nk : Int} {os : List Of} {a : Int} {l : List Int} (h : FL nk os a l) : 0 < l.length := List.length_pos_of_mem h.mem
theorem FL.all {nk : Int} {os : List Of} {a : Int} {l : List Int} (h : FL nk os a l) (hc : Closed os l l) (c : Int) : c ∈ l ↔ Rch os a c := by
  refine ⟨h.rch c, fun r => ?_⟩
  induction r with
  | refl => exact h.mem
  | step _ s ih =>
    obtain ⟨o, ho, rfl, rfl, hy⟩ := s
    exact hc o ho ih hy
theorem Closed.mono {os : List Of} {m l : List Int} (h : Closed os m l) (t : List Int) : Closed os m (l ++ t) := fun o ho ha hy => List.mem_append_left _ (h o ho ha hy)
def inI (k : Int) (l : List Int) : Bool := decide (k ∈ l)
theorem inD_inI (k : Int) (l : List Int) : inD (.int k) (l.map D.int) = inI k l := by
  unfold inI
  by_cases h : k ∈ l
  · rw [decide_eq_true h]
    exact inD_ints.mpr h
  · rw [decide_eq_false h]
    cases e : inD (.int k) (l.map D.int) with
    | true => exact absurd (inD_ints.mp e) h
    | false => rfl
/-- the indexes of a kind's offers that give something -/
structure Gv (os : List Of) (k : Int) (is : List Int) : Prop where
  rng : ∀ i ∈ is, (0 ≤ i ∧ i < os.length) ∧ (gO os i).a = k ∧ 0 < (gO os i).y
  all : ∀ o ∈ os, o.a = k → 0 < o.y → ∃ i ∈ is, gO os i = o
  len : is.length ≤ os.length
theorem rg_asc (n : Int) : (rg n).Pairwise (· < ·) := by
  unfold rg
  rw [List.pairwise_map]
  exact List.pairwise_lt_range.imp fun z => by omega

theorem ok_tints (l : List Int) : (D.tup (l.map D.int)).ok := nb_ok (show D.nbL _ = true from nb_ints l) (by
  show PyData.depthAll (D.pyL (l.map D.int)) + 1 ≤ 64
  rw [depth_ints]
  decide)

structure Ed (os : List Of) (i : Int) : Prop where
  i0 : 0 ≤ i
  i1 : i < os.length
  y1 : 1 ≤ (gO os i).y
def Wlk (os : List Of) : Int → List Int → Int → Prop
  | u, [], v => u = v
  | u, i :: is, v => Ed os i ∧ (gO os i).a = u ∧ Wlk os (gO os i).b is v
/-- the kinds behind each offer -/
def bsK (os : List Of) (is : List Int) : List Int := is.map fun i => (gO os i).b
theorem wlk_app {os : List Of} : ∀ {is js : List Int} {u v w : Int}, Wlk os u is v → Wlk os v js w → Wlk os u (is ++ js) w
  | [], js, u, v, w, h1, h2 => by
    obtain rfl : u = v := h1
    exact h2
  | i :: is, js, u, v, w, ⟨e, a, h1⟩, h2 => ⟨e, a, wlk_app h1 h2⟩
theorem wlk_split {os : List Of} : ∀ {is : List Int} {u v a : Int}, Wlk os u is v → a ∈ bsK os is → ∃ js ks, is = js ++ ks ∧ js ≠ [] ∧ Wlk os u js a ∧ Wlk os a ks v
  | [], u, v, a, h, hm => nomatch hm
  | i :: is, u, v, a, ⟨e, hu, h⟩, hm => by
    by_cases c : a = (gO os i).b
    · exact ⟨[i], is, rfl, by simp, ⟨e, hu, c.symm⟩, by rw [c]; exact h⟩
    · have hm2 : a ∈ bsK os is := by
        unfold bsK at hm ⊢
        rw [List.map_cons, List.mem_cons] at hm
        exact hm.resolve_left c
      obtain ⟨js, ks, rfl, _, h1, h2⟩ := wlk_split h hm2
      exact ⟨i :: js, ks, rfl, by simp, ⟨e, hu, h1⟩, h2⟩
theorem wlk_end {os : List Of} : ∀ {is : List Int} {u v : Int}, Wlk os u is v → is ≠ [] → v ∈ bsK os is
  | [i], u, v, ⟨e, hu, h⟩, _ => by
    obtain rfl : (gO os i).b = v := h
    exact List.mem_singleton.mpr rfl
  | i :: j :: is, u, v, ⟨e, hu, h⟩, _ => List.mem_cons_of_mem _ (wlk_end (is := j :: is) h (by simp))
theorem fold_mul {f : Int → Int} : ∀ (is : List Int) (p : Int), is.foldl (fun p i => p * f i) p = p * is.foldl (fun p i => p * f i) 1
  | [], p => by
    show p = p * 1
    rw [Int.mul_one]
  | i :: is, p => by
    rw [List.foldl_cons, List.foldl_cons, fold_mul is (p * f i), fold_mul is (1 * f i), Int.one_mul, Int.mul_assoc]
theorem prX_cons {os : List Of} {i : Int} {is : List Int} : prX os (i :: is) = (gO os i).x * prX os is := by
  unfold prX
  rw [List.foldl_cons, fold_mul is (1 * (gO os i).x), Int.one_mul]
theorem prY_cons {os : List Of} {i : Int} {is : List Int} : prY os (i :: is) = (gO os i).y * prY os is := by
  unfold prY
  rw [List.foldl_cons, fold_mul is (1 * (gO os i).y), Int.one_mul]
theorem prX_app {os : List Of} : ∀ {is js : List Int}, prX os (is ++ js) = prX os is * prX os js
  | [], js => by
    show _ = 1 * _
    rw [Int.one_mul]
    rfl
  | i :: is, js => by rw [List.cons_append, prX_cons, prX_cons, prX_app, Int.mul_assoc]
theorem prY_app {os : List Of} : ∀ {is js : List Int}, prY os (is ++ js) = prY os is * prY os js
  | [], js => by
    show _ = 1 * _
    rw [Int.one_mul]
    rfl
  | i :: is, js => by rw [List.cons_append, prY_cons, prY_cons, prY_app, Int.mul_assoc]
theorem ed_x {nk : Int} {os : List Of} (h : BO nk os) {i : Int} (e : Ed os i) : 1 ≤ (gO os i).x ∧ (gO os i).x ≤ 30 ∧ (gO os i).y ≤ 30 ∧ (0 ≤ (gO os i).a ∧ (gO os i).a < nk) ∧ (0 ≤ (gO os i).b ∧ (gO os i).b < nk) ∧ (gO os i).a ≠ (gO os i).b := by
  obtain ⟨_, om⟩ := gO_at e.i0 e.i1
  obtain ⟨a, b, c, d, f⟩ := h.ok _ om
  exact ⟨d.1, d.2, f.2, a, b, c⟩
theorem pr_pos {nk : Int} {os : List Of} (h : BO nk os) : ∀ {is : List Int} {u v : Int}, Wlk os u is v → 1 ≤ prX os is ∧ 1 ≤ prY os is
  | [], _, _, _ => ⟨Int.le_refl _, Int.le_refl _⟩
  | i :: is, u, v, ⟨e, _, w⟩ => by
    obtain ⟨a, b⟩ := pr_pos h w
    rw [prX_cons, prY_cons]
    have x1 := (ed_x h e).1
    have y1 := e.y1
    have p1 : 1 * 1 ≤ (gO os i).x * prX os is := Int.mul_le_mul x1 a (by omega) (by omega)
    have p2 : 1 * 1 ≤ (gO os i).y * prY os is := Int.mul_le_mul y1 b (by omega) (by omega)
    exact ⟨by omega, by omega⟩
/-- the ratio of the one is at most that of the other -/
def rLe (os : List Of) (is js : List Int) : Prop := prY os is * prX os js ≤ prY os js * prX os is
theorem rLe_refl {os : List Of} {is : List Int} : rLe os is is := Int.le_refl _
theorem frac_trans {a b c d e f : Int} (b1 : 1 ≤ b) (d1 : 1 ≤ d) (f1 : 1 ≤ f) (h1 : a * d ≤ c * b) (h2 : c * f ≤ e * d) : a * f ≤ e * b := by
  have p1 : a * d * f ≤ c * b * f := Int.mul_le_mul_of_nonneg_right h1 (by omega)
  have p2 : c * f * b ≤ e * d * b := Int.mul_le_mul_of_nonneg_right h2 (by omega)
  have p3 : d * (a * f) ≤ d * (e * b) := by
    have e1 : d * (a * f) = a * d * f := by rw [Int.mul_comm d, Int.mul_assoc, Int.mul_comm f d, ← Int.mul_assoc]
    have e2 : d * (e * b) = e * d * b := by rw [Int.mul_comm d, Int.mul_assoc, Int.mul_comm b d, ← Int.mul_assoc]
    have e3 : c * b * f = c * f * b := by rw [Int.mul_assoc, Int.mul_comm b f, ← Int.mul_assoc]
    omega
  exact Int.le_of_mul_le_mul_left p3 (by omega)
theorem frac_lt {a b c d e f : Int} (b1 : 1 ≤ b) (d1 : 1 ≤ d) (f1 : 1 ≤ f) (h1 : a * d ≤ c * b) (h2 : c * f < e * d) : a * f < e * b := by
  have p1 : a * d * f ≤ c * b * f := Int.mul_le_mul_of_nonneg_right h1 (by omega)
  have p2 : c * f * b < e * d * b := Int.mul_lt_mul_of_pos_right h2 (by omega)
  have p3 : d * (a * f) < d * (e * b) := by
    have e1 : d * (a * f) = a * d * f := by rw [Int.mul_comm d, Int.mul_assoc, Int.mul_comm f d, ← Int.mul_assoc]
    have e2 : d * (e * b) = e * d * b := by rw [Int.mul_comm d, Int.mul_assoc, Int.mul_comm b d, ← Int.mul_assoc]
    have e3 : c * b * f = c * f * b := by rw [Int.mul_assoc, Int.mul_comm b f, ← Int.mul_assoc]
    omega
  exact Int.lt_of_mul_lt_mul_left p3 (by omega)
theorem frac_mul {a b c d e f g k : Int} (h1 : a * d ≤ c * b) (h2 : e * k ≤ g * f) (x1 : 0 ≤ a * d) (x2 : 0 ≤ e * k) : a * e * (d * k) ≤ c * g * (b * f) := by
  have p : a * d * (e * k) ≤ c * b * (g * f) := Int.mul_le_mul h1 h2 x2 (by omega)
  have e1 : a * e * (d * k) = a * d * (e * k) := by rw [Int.mul_assoc, Int.mul_assoc, ← Int.mul_assoc e, Int.mul_comm e d, Int.mul_assoc d]
  have e2 : c * g * (b * f) = c * b * (g * f) := by rw [Int.mul_assoc, Int.mul_assoc, ← Int.mul_assoc g, Int.mul_comm g b, Int.mul_assoc b]
  omega
theorem rLe_trans {nk : Int} {os : List Of} (h : BO nk os) {is js ks : List Int} {u v u' v' u'' v'' : Int} (w1 : Wlk os u is v) (w2 : Wlk os u' js v') (w3 : Wlk os u'' ks v'') (a : rLe os is js) (b : rLe os js ks) : rLe os is ks :=
  frac_trans (pr_pos h w1).1 (pr_pos h w2).1 (pr_pos h w3).1 a b
theorem rLe_app {nk : Int} {os : List Of} (h : BO nk os) {is js ks ls : List Int} {u v u' v' : Int} (w1 : Wlk os u is v) (w2 : Wlk os u' js v') {p q p' q' : Int} (w3 : Wlk os p ks q) (w4 : Wlk os p' ls q') (a : rLe os is js) (b : rLe os ks ls) : rLe os (is ++ ks) (js ++ ls) := by
  unfold rLe
  rw [prX_app, prX_app, prY_app, prY_app]
  have x1 := (pr_pos h w1)
  have x2 := (pr_pos h w2)
  have x3 := (pr_pos h w3)
  have x4 := (pr_pos h w4)
  exact frac_mul a b (Int.mul_nonneg (by omega) (by omega)) (Int.mul_nonneg (by omega) (by omega))
/-- the first offer with the best ratio among those with its kinds -/
structure BsIx (os : List Of) (i : Int) : Prop where
  ed : Ed os i
  best : ∀ j, Ed os j → (gO os j).a = (gO os i).a → (gO os j).b = (gO os i).b → (gO os j).y * (gO os i).x ≤ (gO os i).y * (gO os j).x
  first : ∀ j, Ed os j → (gO os j).a = (gO os i).a → (gO os j).b = (gO os i).b → j < i → (gO os j).y * (gO os i).x < (gO os i).y * (gO os j).x
theorem BsIx.uniq {os : List Of} {i j : Int} (h : BsIx os i) (g : BsIx os j) (ea : (gO os j).a = (gO os i).a) (eb : (gO os j).b = (gO os i).b) : i = j := by
  have h1 := h.best j g.ed ea eb
  have g1 := g.best i h.ed ea.symm eb.symm
  by_cases c : i < j
  · have := g.first i h.ed ea.symm eb.symm c
    omega
  · by_cases c2 : j < i
    · have := h.first j g.ed ea eb c2
      omega
    · omega
/-- the best steps from a kind, by ascending goals -/
structure BsOk (os : List Of) (k : Int) (bs : List Int) : Prop where
  ix : ∀ i ∈ bs, BsIx os i ∧ (gO os i).a = k
  all : ∀ j, Ed os j → (gO os j).a = k → ∃ i ∈ bs, (gO os i).b = (gO os j).b
  asc : (bsK os bs).Pairwise (· < ·)
theorem asc_ext : ∀ {l m : List Int}, l.Pairwise (· < ·) → m.Pairwise (· < ·) → (∀ x, x ∈ l ↔ x ∈ m) → l = m
  | [], [], _, _, _ => rfl
  | [], y :: m, _, _, h => absurd ((h y).mpr List.mem_cons_self) (by simp)
  | x :: l, [], _, _, h => absurd ((h x).mp List.mem_cons_self) (by simp)
  | x :: l, y :: m, p1, p2, h => by
    obtain ⟨a1, b1⟩ := List.pairwise_cons.mp p1
    obtain ⟨a2, b2⟩ := List.pairwise_cons.mp p2
    have e : x = y := by
      rcases List.mem_cons.mp ((h x).mp List.mem_cons_self) with e | e
      · exact e
      · rcases List.mem_cons.mp ((h y).mpr List.mem_cons_self) with e2 | e2
        · exact e2.symm
        · have := a2 x e
          have := a1 y e2
          omega
    subst e
    rw [asc_ext b1 b2 fun z => ?_]
    constructor
    · intro hz
      rcases List.mem_cons.mp ((h z).mp (List.mem_cons_of_mem _ hz)) with e | e
      · have := a1 z hz
        omega
      · exact e
    · intro hz
      rcases List.mem_cons.mp ((h z).mpr (List.mem_cons_of_mem _ hz)) with e | e
      · have := a2 z hz
        omega
      · exact e
theorem map_inj_list {f : Int → Int} : ∀ {l m : List Int}, l.map f = m.map f → (∀ i ∈ l, ∀ j ∈ m, f i = f j → i = j) → l = m
  | [], [], _, _ => rfl
  | [], _ :: _, h, _ => by cases h
  | _ :: _, [], h, _ => by cases h
  | x :: l, y :: m, h, hi => by
    rw [List.map_cons, List.map_cons] at h
    injection h with h1 h2
    rw [hi x List.mem_cons_self y List.mem_cons_self h1, map_inj_list h2 fun i a j b => hi i (List.mem_cons_of_mem _ a) j (List.mem_cons_of_mem _ b)]
theorem BsOk.uniq {os : List Of} {k : Int} {bs cs : List Int} (h : BsOk os k bs) (g : BsOk os k cs) : bs = cs := by
  have e : bsK os bs = bsK os cs := asc_ext h.asc g.asc fun x => by
    unfold bsK
    rw [List.mem_map, List.mem_map]
    constructor
    · rintro ⟨i, hi, rfl⟩
      obtain ⟨j, hj, e⟩ := g.all i (h.ix i hi).1.ed (h.ix i hi).2
      exact ⟨j, hj, e⟩
    · rintro ⟨i, hi, rfl⟩
      obtain ⟨j, hj, e⟩ := h.all i (g.ix i hi).1.ed (g.ix i hi).2
      exact ⟨j, hj, e⟩
  exact map_inj_list e fun i hi j hj e => (h.ix i hi).1.uniq (g.ix j hj).1 (by rw [(h.ix i hi).2, (g.ix j hj).2]) e.symm
/-- a trail: a walk along best steps that comes to no kind twice -/
def Trl (os : List Of) (u : Int) (is : List Int) (v : Int) : Prop := Wlk os u is v ∧ (∀ i ∈ is, BsIx os i) ∧ (u :: bsK os is).Nodup
/-- no loop along best steps through some kinds gains -/
def NoGain (os : List Of) (K : Int → Prop) : Prop := ∀ u is, K u → Wlk os u is u → (∀ i ∈ is, BsIx os i) → (bsK os is).Nodup → is ≠ [] → prY os is ≤ prX os is
theorem bst_ex {os : List Of} {j : Int} (hj : Ed os j) (H : ∀ k, ∃ bs, BsOk os k bs) : ∃ i, BsIx os i ∧ (gO os i).a = (gO os j).a ∧ (gO os i).b = (gO os j).b := by
  obtain ⟨bs, hb⟩ := H (gO os j).a
  obtain ⟨i, hi, e⟩ := hb.all j hj rfl
  exact ⟨i, (hb.ix i hi).1, (hb.ix i hi).2, e⟩
/-- each walk among kinds of which no loop gains is no better than a trail with no more offers -/
theorem dom {nk : Int} {os : List Of} (h : BO nk os) (H : ∀ k, ∃ bs, BsOk os k bs) {K : Int → Prop} (ng : NoGain os K) :
    ∀ (is : List Int) (u v : Int), Wlk os u is v → (∀ k ∈ u :: bsK os is, K k) → ∃ js, Trl os u js v ∧ js.length ≤ is.length ∧ rLe os is js
  | [], u, v, w, _ => ⟨[], ⟨w, (fun i hi => nomatch hi), by simp [bsK]⟩, Nat.le_refl _, rLe_refl⟩
  | i :: is, u, v, ⟨e, hu, w⟩, hk => by
    have hk2 : ∀ k ∈ (gO os i).b :: bsK os is, K k := fun k m => hk k (List.mem_cons_of_mem _ m)
    obtain ⟨ts, ⟨w2, hb, nd⟩, hl, hr⟩ := dom h H ng is (gO os i).b v w hk2
    obtain ⟨b, bb, ba, be⟩ := bst_ex e H
    have wb : Wlk os u [b] (gO os i).b := ⟨bb.ed, by rw [ba, hu], by show (gO os b).b = _; rw [be]⟩
    have wi : Wlk os u [i] (gO os i).b := ⟨e, hu, rfl⟩
    have r1 : rLe os [i] [b] := by
      unfold rLe
      rw [prX_cons, prX_cons, prY_cons, prY_cons]
      show (gO os i).y * 1 * ((gO os b).x * 1) ≤ (gO os b).y * 1 * ((gO os i).x * 1)
      rw [Int.mul_one, Int.mul_one, Int.mul_one, Int.mul_one]
      exact bb.best i e ba.symm be.symm
    have r2 : rLe os (i :: is) (b :: ts) := rLe_app (is := [i]) (js := [b]) h wi wb w w2 r1 hr
    have w3 : Wlk os u (b :: ts) v := wlk_app (is := [b]) wb w2
    by_cases c : u ∈ (gO os i).b :: bsK os ts
    · -- the trail comes back to u
      have ub : u ≠ (gO os i).b := by
        have := (ed_x h e).2.2.2.2.2
        rw [hu] at this
        exact this
      have c2 : u ∈ bsK os ts := (List.mem_cons.mp c).resolve_left ub
      obtain ⟨p, q, rfl, pne, wp, wq⟩ := wlk_split w2 c2
      have ndq : (bsK os p ++ bsK os q).Nodup ∧ (gO os i).b ∉ bsK os p ++ bsK os q := by
        have z := List.nodup_cons.mp nd
        unfold bsK at z ⊢
        rw [List.map_append] at z
        exact ⟨z.2, z.1⟩
      obtain ⟨np, nq, disj⟩ := List.nodup_append.mp ndq.1
      have lw : Wlk os u (b :: p) u := wlk_app (is := [b]) wb wp
      have g := ng u (b :: p) (hk u List.mem_cons_self) lw (fun j hj => by
        rcases List.mem_cons.mp hj with rfl | hj
        · exact bb
        · exact hb j (List.mem_append_left _ hj)) (by
        show ((gO os b).b :: bsK os p).Nodup
        rw [be]
        exact List.nodup_cons.mpr ⟨fun z => ndq.2 (List.mem_append_left _ z), np⟩) (by simp)
      have uq : u ∉ bsK os q := fun z => disj u (wlk_end wp pne) u z rfl
      refine ⟨q, ⟨wq, fun j hj => hb j (List.mem_append_right _ hj), List.nodup_cons.mpr ⟨uq, nq⟩⟩, ?_, ?_⟩
      · rw [List.length_append] at hl
        rw [List.length_cons]
        omega
      · have r3 : rLe os (b :: p) [] := by
          unfold rLe
          show prY os (b :: p) * 1 ≤ 1 * prX os (b :: p)
          omega
        have w0 : Wlk os u [] u := rfl
        have r4 : rLe os ((b :: p) ++ q) ([] ++ q) := rLe_app h lw w0 wq wq r3 rLe_refl
        exact rLe_trans h (⟨e, hu, w⟩ : Wlk os u (i :: is) v) (wlk_app lw wq) wq r2 r4
    · refine ⟨b :: ts, ⟨w3, fun j hj => ?_, ?_⟩, by rw [List.length_cons, List.length_cons]; omega, r2⟩
      · rcases List.mem_cons.mp hj with rfl | hj
        · exact bb
        · exact hb j hj
      · show (u :: (gO os b).b :: bsK os ts).Nodup
        rw [be]
        exact List.nodup_cons.mpr ⟨c, nd⟩
def gvB (os : List Of) (k i : Int) : Bool := decide ((gO os i).a = k) && decide (0 < (gO os i).y)
def givL (os : List Of) (k : Int) : List Int := (rg os.length).filter (gvB os k)
theorem giv_mem {os : List Of} {k i : Int} : i ∈ givL os k ↔ Ed os i ∧ (gO os i).a = k := by
  unfold givL gvB
  rw [List.mem_filter, Bool.and_eq_true, decide_eq_true_iff, decide_eq_true_iff, mem_rg]
  exact ⟨fun ⟨a, b, c⟩ => ⟨⟨a.1, a.2, by omega⟩, b⟩, fun ⟨e, b⟩ => ⟨⟨e.i0, e.i1⟩, b, by have := e.y1; omega⟩⟩
theorem giv_gv (os : List Of) (k : Int) : Gv os k (givL os k) where
  rng := fun i hi => by
    obtain ⟨e, a⟩ := giv_mem.mp hi
    exact ⟨⟨e.i0, e.i1⟩, a, by have := e.y1; omega⟩
  all := fun o ho ha hy => by
    obtain ⟨n, hn, e⟩ := List.getElem_of_mem ho
    have g : gO os (n : Int) = o := by
      unfold gO
      rw [Int.toNat_natCast, List.getD_eq_getElem?_getD, List.getElem?_eq_getElem hn, Option.getD_some, e]
    exact ⟨n, giv_mem.mpr ⟨⟨by omega, by omega, by rw [g]; omega⟩, by rw [g]; exact ha⟩, g⟩
  len := by
    have := List.length_filter_le (gvB os k) (rg os.length)
    rw [rg_len] at this
    exact this
theorem enum_rg {os : List Of} : enumL 0 (os.map Of.d) = (rg os.length).map fun i => D.tup [.int i, (gO os i).d] := by
  refine List.ext_getElem? fun i => ?_
  rw [enumL_get, List.getElem?_map, List.getElem?_map]
  by_cases h : i < os.length
  · rw [List.getElem?_eq_getElem h, rg_get (by omega)]
    have g : gO os (i : Int) = os[i] := by
      unfold gO
      rw [Int.toNat_natCast, List.getD_eq_getElem?_getD, List.getElem?_eq_getElem h]
      rfl
    show some (D.tup [.int ((0 + i : Nat) : Int), os[i].d]) = some (D.tup [.int (i : Int), (gO os (i : Int)).d])
    rw [g, Nat.zero_add]
  · rw [List.getElem?_eq_none (by omega), List.getElem?_eq_none (by rw [rg_len]; omega)]
    rfl
theorem giv_asc (os : List Of) (k : Int) : (givL os k).Pairwise (· < ·) := List.Pairwise.filter _ (rg_asc _)
def pkD (ps : List (Int × Int)) : List (Key × D) := ps.map fun p => (Sum.inl p.1, D.int p.2)
def hasP (ps : List (Int × Int)) (g : Int) : Bool := decide (g ∈ ps.map (·.1))
theorem pk_has (ps : List (Int × Int)) (g : Int) : hasK (pkD ps) (.inl g) = hasP ps g := by
  unfold hasK pkD hasP
  rw [List.any_map, Bool.eq_iff_iff, List.any_eq_true, decide_eq_true_iff, List.mem_map]
  constructor
  · rintro ⟨p, hp, e⟩
    have e := of_decide_eq_true e
    exact ⟨p, hp, by cases e; rfl⟩
  · rintro ⟨p, hp, rfl⟩
    exact ⟨p, hp, decide_eq_true rfl⟩
theorem pk_get : ∀ {ps : List (Int × Int)} {g i : Int}, (g, i) ∈ ps → (ps.map (·.1)).Nodup → getK (pkD ps) (.inl g) = some (.int i)
  | p :: ps, g, i, hm, nd => by
    obtain ⟨n1, n2⟩ := List.nodup_cons.mp (List.map_cons ▸ nd : (p.1 :: ps.map (·.1)).Nodup)
    unfold pkD
    rw [List.map_cons]
    unfold getK
    by_cases e : p.1 = g
    · have hp : p = (g, i) := by
        rcases List.mem_cons.mp hm with z | z
        · exact z.symm
        · exact absurd (List.mem_map.mpr ⟨_, z, rfl⟩) (by rw [e] at n1; exact n1)
      rw [if_pos (by rw [e]), hp]
    · rw [if_neg (fun z => e (by cases z; rfl))]
      refine pk_get ((List.mem_cons.mp hm).resolve_left fun z => e (by rw [← z])) n2
/-- an index for a goal, put in -/
def putP (ps : List (Int × Int)) (g i : Int) : List (Int × Int) := if hasP ps g = true then ps.map (fun p => if p.1 = g then (p.1, i) else p) else ps ++ [(g, i)]
theorem pk_put (ps : List (Int × Int)) (g i : Int) : putD (pkD ps) (.inl g) (.int i) = pkD (putP ps g i) := by
  unfold putD putP
  rw [pk_has]
  by_cases c : hasP ps g = true
  · rw [if_pos c, if_pos c]
    unfold pkD
    rw [List.map_map, List.map_map]
    refine List.map_congr_left fun p hp => ?_
    show (if (Sum.inl p.1 : Key) = Sum.inl g then (Sum.inl p.1, D.int i) else (Sum.inl p.1, D.int p.2)) = _
    by_cases e : p.1 = g
    · rw [if_pos (by rw [e])]
      show _ = (fun q : Int × Int => ((Sum.inl q.1 : Key), D.int q.2)) (if p.1 = g then (p.1, i) else p)
      rw [if_pos e]
    · rw [if_neg (fun z => e (by cases z; rfl))]
      show _ = (fun q : Int × Int => ((Sum.inl q.1 : Key), D.int q.2)) (if p.1 = g then (p.1, i) else p)
      rw [if_neg e]
  · rw [if_neg c, if_neg c]
    unfold pkD
    rw [List.map_append]
    rfl
/-- the best ones among the first of a kind's offers -/
structure Bp (os : List Of) (P : List Int) (ps : List (Int × Int)) : Prop where
  mem : ∀ p ∈ ps, p.2 ∈ P ∧ (gO os p.2).b = p.1
  nd : (ps.map (·.1)).Nodup
  best : ∀ i ∈ P, ∃ p ∈ ps, p.1 = (gO os i).b ∧ (gO os i).y * (gO os p.2).x ≤ (gO os p.2).y * (gO os i).x ∧ (i < p.2 → (gO os i).y * (gO os p.2).x < (gO os p.2).y * (gO os i).x)
theorem Bp.nil (os : List Of) : Bp os [] [] := ⟨(fun p hp => nomatch hp), List.nodup_nil, (fun i hi => nomatch hi)⟩
theorem Bp.new {os : List Of} {P : List Int} {ps : List (Int × Int)} (h : Bp os P ps) {i : Int} (n : hasP ps (gO os i).b = false) : Bp os (P ++ [i]) (putP ps (gO os i).b i) := by
  have n2 : (gO os i).b ∉ ps.map (·.1) := of_decide_eq_false n
  unfold putP
  rw [n, if_neg (by decide)]
  refine ⟨fun p hp => ?_, ?_, fun j hj => ?_⟩
  · rcases List.mem_append.mp hp with z | z
    · exact ⟨List.mem_append_left _ (h.mem p z).1, (h.mem p z).2⟩
    · rw [List.mem_singleton.mp z]
      exact ⟨List.mem_append_right _ (List.mem_singleton.mpr rfl), rfl⟩
  · rw [List.map_append]
    exact List.nodup_append.mpr ⟨h.nd, List.nodup_cons.mpr ⟨List.not_mem_nil, List.nodup_nil⟩, fun x hx y hy e => n2 (by rw [← show y = (gO os i).b from List.mem_singleton.mp hy, ← e]; exact hx)⟩
  · rcases List.mem_append.mp hj with z | z
    · obtain ⟨p, hp, a⟩ := h.best j z
      exact ⟨p, List.mem_append_left _ hp, a⟩
    · rw [List.mem_singleton.mp z]
      exact ⟨(_, i), List.mem_append_right _ (List.mem_singleton.mpr rfl), rfl, Int.le_refl _, fun z => absurd z (Int.lt_irrefl _)⟩
theorem Bp.keep {os : List Of} {P : List Int} {ps : List (Int × Int)} (h : Bp os P ps) {i f : Int} (hf : ((gO os i).b, f) ∈ ps) (lt : ∀ j ∈ P, j < i) (c : (gO os i).y * (gO os f).x ≤ (gO os f).y * (gO os i).x) : Bp os (P ++ [i]) ps :=
  ⟨fun p hp => ⟨List.mem_append_left _ (h.mem p hp).1, (h.mem p hp).2⟩, h.nd, fun j hj => by
    rcases List.mem_append.mp hj with z | z
    · exact h.best j z
    · rw [List.mem_singleton.mp z]
      have := lt f (h.mem _ hf).1
      exact ⟨_, hf, rfl, c, fun z => absurd (show i < f from z) (by omega)⟩⟩
theorem Bp.take {nk : Int} {os : List Of} (hb : BO nk os) {P : List Int} {ps : List (Int × Int)} (h : Bp os P ps) {i f : Int} (hP : ∀ j ∈ P, Ed os j) (hi : Ed os i) (hf : ((gO os i).b, f) ∈ ps) (c : (gO os f).y * (gO os i).x < (gO os i).y * (gO os f).x) : Bp os (P ++ [i]) (putP ps (gO os i).b i) := by
  have hs : hasP ps (gO os i).b = true := decide_eq_true (List.mem_map.mpr ⟨_, hf, rfl⟩)
  unfold putP
  rw [hs, if_pos rfl]
  have e1 : (ps.map (fun p : Int × Int => if p.1 = (gO os i).b then (p.1, i) else p)).map (·.1) = ps.map (·.1) := by
    rw [List.map_map]
    refine List.map_congr_left fun p _ => ?_
    show (if p.1 = (gO os i).b then (p.1, i) else p).1 = p.1
    split <;> rfl
  refine ⟨fun p hp => ?_, by rw [e1]; exact h.nd, fun j hj => ?_⟩
  · obtain ⟨q, hq, rfl⟩ := List.mem_map.mp hp
    by_cases e : q.1 = (gO os i).b
    · rw [if_pos e]
      exact ⟨List.mem_append_right _ (List.mem_singleton.mpr rfl), e.symm⟩
    · rw [if_neg e]
      exact ⟨List.mem_append_left _ (h.mem q hq).1, (h.mem q hq).2⟩
  · have xi := (ed_x hb hi).1
    have xf := (ed_x hb (hP f (h.mem _ hf).1)).1
    rcases List.mem_append.mp hj with z | z
    · obtain ⟨p, hp, a1, a2, a3⟩ := h.best j z
      have xj := (ed_x hb (hP j z)).1
      by_cases e : p.1 = (gO os i).b
      · have pf : p.2 = f := by
          have g1 := pk_get (ps := ps) (g := p.1) (i := p.2) hp h.nd
          have g2 := pk_get hf h.nd
          rw [e] at g1
          rw [g1] at g2
          cases g2
          rfl
        rw [pf] at a2
        refine ⟨(p.1, i), List.mem_map.mpr ⟨p, hp, by rw [if_pos e]⟩, a1, ?_, fun _ => ?_⟩
        · exact Int.le_of_lt (frac_lt xj xf xi a2 c)
        · exact frac_lt xj xf xi a2 c
      · exact ⟨p, List.mem_map.mpr ⟨p, hp, by rw [if_neg e]⟩, a1, a2, a3⟩
    · rw [List.mem_singleton.mp z]
      exact ⟨(_, i), List.mem_map.mpr ⟨_, hf, by rw [if_pos rfl]⟩, rfl, Int.le_refl _, fun z => absurd z (Int.lt_irrefl _)⟩
/-- the list of the best ones, goals ascending -/
theorem Bp.ok {os : List Of} {k : Int} {ps : List (Int × Int)} (h : Bp os (givL os k) ps) {ys bs : List Int} (hp : ys.Perm (ps.map (·.1))) (ha : ys.Pairwise (· ≤ ·)) (hb : bsK os bs = ys) (hm : ∀ i ∈ bs, ((gO os i).b, i) ∈ ps) : BsOk os k bs := by
  have ndy : ys.Nodup := hp.nodup_iff.mpr h.nd
  have asc : ys.Pairwise (· < ·) := by
    refine (ha.and ndy).imp ?_
    rintro a b ⟨h1, h2⟩
    omega
  have uq : ∀ p ∈ ps, ∀ q ∈ ps, p.1 = q.1 → p.2 = q.2 := fun p h1 q h2 e => by
    have g1 := pk_get (ps := ps) (g := p.1) (i := p.2) h1 h.nd
    have g2 := pk_get (ps := ps) (g := q.1) (i := q.2) h2 h.nd
    rw [e, g2] at g1
    injection g1 with g1
    injection g1 with g1
    exact g1.symm
  have top : ∀ i ∈ bs, ∀ j, Ed os j → (gO os j).a = k → (gO os j).b = (gO os i).b → (gO os j).y * (gO os i).x ≤ (gO os i).y * (gO os j).x ∧ (j < i → (gO os j).y * (gO os i).x < (gO os i).y * (gO os j).x) := fun i hi j ej aj bj => by
    obtain ⟨p, hp, e1, e2, e3⟩ := h.best j (giv_mem.mpr ⟨ej, aj⟩)
    have pi : p.2 = i := uq p hp _ (hm i hi) (by rw [e1, bj])
    rw [pi] at e2 e3
    exact ⟨e2, e3⟩
  refine ⟨fun i hi => ?_, fun j ej aj => ?_, by rw [hb]; exact asc⟩
  · obtain ⟨ei, ai⟩ := giv_mem.mp (h.mem _ (hm i hi)).1
    exact ⟨⟨ei, fun j ej aj bj => (top i hi j ej (by rw [aj, ai]) bj).1, fun j ej aj bj => (top i hi j ej (by rw [aj, ai]) bj).2⟩, ai⟩
  · obtain ⟨p, hp2, e1, _⟩ := h.best j (giv_mem.mpr ⟨ej, aj⟩)
    have my : (gO os j).b ∈ ys := hp.mem_iff.mpr (List.mem_map.mpr ⟨p, hp2, e1⟩)
    rw [← hb] at my
    obtain ⟨i, hi, e⟩ := List.mem_map.mp my
    exact ⟨i, hi, e⟩
/-- fractions in lowest terms, compared -/
theorem red_cmp {a b c d : Int} (a1 : 1 ≤ a) (b1 : 1 ≤ b) (c1 : 1 ≤ c) (d1 : 1 ≤ d) : decide (a / gI a b * (d / gI c d) > c / gI c d * (b / gI a b)) = decide (a * d > c * b) := by
  have g1 := gI_pos (a := a) (b := b) (.inl (by omega))
  have h1 := gI_pos (a := c) (b := d) (.inl (by omega))
  obtain ⟨p, hp⟩ := gI_l a b
  obtain ⟨r, hr⟩ := gI_r a b
  obtain ⟨s, hs⟩ := gI_l c d
  obtain ⟨t, ht⟩ := gI_r c d
  generalize gI a b = g at *
  generalize gI c d = e at *
  subst hp hr hs ht
  rw [Int.mul_ediv_cancel_left p (by omega), Int.mul_ediv_cancel_left r (by omega), Int.mul_ediv_cancel_left s (by omega), Int.mul_ediv_cancel_left t (by omega)]
  congr 1
  have e1 : g * p * (e * t) = g * e * (p * t) := by rw [Int.mul_assoc, Int.mul_assoc, ← Int.mul_assoc p, Int.mul_comm p e, Int.mul_assoc e]
  have e2 : e * s * (g * r) = g * e * (s * r) := by rw [Int.mul_assoc, ← Int.mul_assoc s, Int.mul_comm s g, Int.mul_assoc g, ← Int.mul_assoc, Int.mul_comm e g, Int.mul_assoc]
  have ge : 0 < g * e := Int.mul_pos (by omega) (by omega)
  rw [e1, e2]
  exact propext ⟨fun z => Int.mul_lt_mul_of_pos_left z ge, fun z => Int.lt_of_mul_lt_mul_left z (by omega)⟩
theorem prX_one {os : List Of} {i : Int} : prX os [i] = (gO os i).x := by
  show 1 * _ = _
  rw [Int.one_mul]
theorem prY_one {os : List Of} {i : Int} : prY os [i] = (gO os i).y := by
  show 1 * _ = _
  rw [Int.one_mul]
theorem wlk_last {os : List Of} : ∀ {is : List Int} {u v i : Int}, Wlk os u (is ++ [i]) v → Ed os i ∧ Wlk os u is (gO os i).a ∧ (gO os i).b = v
  | [], u, v, i, ⟨e, a, h⟩ => ⟨e, a.symm, h⟩
  | j :: is, u, v, i, ⟨e, a, h⟩ => by
    obtain ⟨e2, w, hb⟩ := wlk_last (is := is) h
    exact ⟨e2, ⟨e, a, w⟩, hb⟩
theorem bsK_app {os : List Of} {is js : List Int} : bsK os (is ++ js) = bsK os is ++ bsK os js := List.map_append
theorem wlk_at_last {os : List Of} {u v : Int} {is : List Int} (w : Wlk os u is v) : atI ((u :: bsK os is).map D.int) (-1) = some (.int v) := by
  have e : (u :: bsK os is).getD is.length 0 = v := by
    rcases List.eq_nil_or_concat is with rfl | ⟨js, i, rfl⟩
    · exact w
    · rw [List.concat_eq_append] at w ⊢
      obtain ⟨_, _, hb⟩ := wlk_last w
      rw [bsK_app, ← List.cons_append, List.getD_eq_getElem?_getD, List.getElem?_append_right (by simp [bsK])]
      simp [bsK, hb]
  have z := at_pv (l := u :: bsK os is) (f := D.int) 0 (k := 0) (Int.le_refl _) (by simp [bsK])
  rw [show (0 : Int) - 1 = -1 from rfl, show pvI (u :: bsK os is).length 0 = is.length by unfold pvI; rw [if_pos rfl]; simp [bsK], e] at z
  exact z
/-- the steps that lead to a new kind -/
def chl (os : List Of) (k : Int) (is bs : List Int) : List Int := bs.filter fun i => decide ((gO os i).b ∉ k :: bsK os is)
/-- what waits after so many turns -/
inductive BfsR (os : List Of) (k : Int) : List (List Int) → Nat → Prop
  | init : BfsR os k [[]] 0
  | step {L : List (List Int)} {a : Nat} {is bs : List Int} {v : Int} : BfsR os k L a → L[a]? = some is → Wlk os k is v → BsOk os v bs → BfsR os k (L ++ (chl os k is bs).map fun i => is ++ [i]) (a + 1)
theorem wlk_uniq {os : List Of} {u v w : Int} {is : List Int} (h : Wlk os u is v) (g : Wlk os u is w) : v = w := by
  have u1 := wlk_at_last h
  rw [wlk_at_last g] at u1
  cases u1
  rfl
theorem BfsR.uniq {os : List Of} {k : Int} {L : List (List Int)} {a : Nat} (h : BfsR os k L a) : ∀ {M : List (List Int)}, BfsR os k M a → L = M := by
  induction h with
  | init =>
    intro M g
    cases g
    rfl
  | step _ e w b ih =>
    intro M g
    cases g with
    | step g' e' w' b' =>
      obtain rfl := ih g'
      rw [e] at e'
      cases e'
      obtain rfl := wlk_uniq w w'
      rw [b.uniq b']
theorem BfsR.past {os : List Of} {k : Int} {L : List (List Int)} {a : Nat} (h : BfsR os k L a) : ∀ b, b < a → ∃ M, BfsR os k M b ∧ b < M.length := by
  induction h with
  | init =>
    intro b hb
    cases hb
  | @step L a is bs v h' e _ _ ih =>
    intro b hb
    by_cases c : b < a
    · exact ih b c
    · obtain rfl : b = a := by omega
      exact ⟨L, h', (List.getElem?_eq_some_iff.mp e).1⟩
theorem BfsR.full {os : List Of} {k : Int} {L M : List (List Int)} (h : BfsR os k L L.length) (g : BfsR os k M M.length) : L = M := by
  have lt : ∀ {L M : List (List Int)}, BfsR os k L L.length → BfsR os k M M.length → ¬ L.length < M.length := fun {L M} h g c => by
    obtain ⟨N, hn, hl⟩ := g.past _ c
    rw [← h.uniq hn] at hl
    exact Nat.lt_irrefl _ hl
  have e : L.length = M.length := by
    have := lt h g
    have := lt g h
    omega
  rw [← e] at g
  exact h.uniq g
structure TrOk (os : List Of) (k : Int) (ts : List (List Int)) : Prop where
  fn : BfsR os k ts ts.length
  mem : ∀ is, is ∈ ts ↔ ∃ v, Trl os k is v
  asc : ts.Pairwise fun a b => a.length ≤ b.length
structure Bfs (os : List Of) (k : Int) (L : List (List Int)) (a : Nat) : Prop where
  fn : BfsR os k L a
  tr : ∀ is ∈ L, ∃ v, Trl os k is v
  nil : [] ∈ L
  cl : ∀ p is, p < a → L[p]? = some is → ∀ i, (∃ v, Trl os k (is ++ [i]) v) → is ++ [i] ∈ L
  le : a ≤ L.length
  asc : L.Pairwise fun a b => a.length ≤ b.length
  near : ∀ is, L[a]? = some is → ∀ js ∈ L, js.length ≤ is.length + 1
theorem Bfs.init (os : List Of) (k : Int) : Bfs os k [[]] 0 where
  fn := .init
  tr := fun is h => by
    rw [List.mem_singleton.mp h]
    exact ⟨k, rfl, (fun i hi => nomatch hi), by simp [bsK]⟩
  nil := List.mem_singleton.mpr rfl
  cl := fun p is hp => absurd hp (Nat.not_lt_zero _)
  le := Nat.zero_le _
  asc := List.pairwise_singleton _ _
  near := fun is _ js hj => by
    rw [List.mem_singleton.mp hj]
    exact Nat.zero_le _
theorem trl_pre {os : List Of} {k v : Int} {is : List Int} {i : Int} (h : Trl os k (is ++ [i]) v) : Trl os k is (gO os i).a ∧ BsIx os i ∧ (gO os i).b = v ∧ (gO os i).b ∉ k :: bsK os is := by
  obtain ⟨w, hb, nd⟩ := h
  obtain ⟨e, w2, eb⟩ := wlk_last w
  rw [bsK_app, ← List.cons_append] at nd
  obtain ⟨n1, _, dj⟩ := List.nodup_append.mp nd
  exact ⟨⟨w2, fun j hj => hb j (List.mem_append_left _ hj), n1⟩, hb i (List.mem_append_right _ (List.mem_singleton.mpr rfl)), eb, fun z => dj _ z _ (List.mem_singleton.mpr rfl) rfl⟩
theorem trl_ext {os : List Of} {k v : Int} {is : List Int} {i : Int} (h : Trl os k is v) (b : BsIx os i) (ha : (gO os i).a = v) (hn : (gO os i).b ∉ k :: bsK os is) : Trl os k (is ++ [i]) (gO os i).b := by
  obtain ⟨w, hb, nd⟩ := h
  refine ⟨wlk_app w ⟨b.ed, ha, rfl⟩, fun j hj => ?_, ?_⟩
  · rcases List.mem_append.mp hj with z | z
    · exact hb j z
    · rw [List.mem_singleton.mp z]
      exact b
  · rw [bsK_app, ← List.cons_append]
    exact List.nodup_append.mpr ⟨nd, List.nodup_cons.mpr ⟨List.not_mem_nil, List.nodup_nil⟩, fun x hx y hy e => hn (by rw [← show y = (gO os i).b from List.mem_singleton.mp hy, ← e]; exact hx)⟩
theorem Bfs.step {os : List Of} {k v : Int} {L : List (List Int)} {a : Nat} (h : Bfs os k L a) {is bs : List Int} (hi : L[a]? = some is) (ht : Trl os k is v) (hb : BsOk os v bs) : Bfs os k (L ++ (chl os k is bs).map fun i => is ++ [i]) (a + 1) where
  fn := h.fn.step hi ht.1 hb
  tr := fun js hj => by
    rcases List.mem_append.mp hj with z | z
    · exact h.tr js z
    · obtain ⟨i, im, rfl⟩ := List.mem_map.mp z
      obtain ⟨ib, ic⟩ := List.mem_filter.mp im
      exact ⟨_, trl_ext ht (hb.ix i ib).1 (hb.ix i ib).2 (of_decide_eq_true ic)⟩
  nil := List.mem_append_left _ h.nil
  cl := fun p js hp hj i ⟨w, hw⟩ => by
    have al := (List.getElem?_eq_some_iff.mp hi).1
    rw [List.getElem?_append_left (by omega)] at hj
    by_cases c : p < a
    · exact List.mem_append_left _ (h.cl p js c hj i ⟨w, hw⟩)
    · obtain rfl : p = a := by omega
      rw [hi] at hj
      cases hj
      obtain ⟨t1, b1, e1, n1⟩ := trl_pre hw
      have ev : (gO os i).a = v := by
        have u1 := wlk_at_last t1.1
        rw [wlk_at_last ht.1] at u1
        cases u1
        rfl
      obtain ⟨i', hi', e'⟩ := hb.all i b1.ed ev
      have ii := b1.uniq (hb.ix i' hi').1 (by rw [(hb.ix i' hi').2, ev]) e'
      refine List.mem_append_right _ (List.mem_map.mpr ⟨i, List.mem_filter.mpr ⟨by rw [ii]; exact hi', decide_eq_true n1⟩, rfl⟩)
  le := by
    have := (List.getElem?_eq_some_iff.mp hi).1
    rw [List.length_append]
    omega
  asc := by
    refine List.pairwise_append.mpr ⟨h.asc, ?_, fun x hx y hy => ?_⟩
    · rw [List.pairwise_map]
      exact List.Pairwise.imp (R := fun _ _ => True) (fun _ => by rw [List.length_append, List.length_append]; exact Nat.le_refl _) (List.pairwise_of_forall fun _ _ => True.intro)
    · obtain ⟨i, _, rfl⟩ := List.mem_map.mp hy
      rw [List.length_append]
      exact h.near is hi x hx
  near := fun js hj ls hl => by
    have al := (List.getElem?_eq_some_iff.mp hi).1
    have lo : is.length ≤ js.length := by
      by_cases c : a + 1 < L.length
      · rw [List.getElem?_append_left c] at hj
        obtain ⟨_, e1⟩ := List.getElem?_eq_some_iff.mp hi
        obtain ⟨_, e2⟩ := List.getElem?_eq_some_iff.mp hj
        rw [← e1, ← e2]
        exact (List.pairwise_iff_getElem.mp h.asc) a (a + 1) al c (Nat.lt_succ_self a)
      · have hm : js ∈ (chl os k is bs).map fun i => is ++ [i] := by
          rw [List.getElem?_append_right (by omega)] at hj
          exact List.mem_of_getElem? hj
        obtain ⟨i, _, rfl⟩ := List.mem_map.mp hm
        rw [List.length_append]
        omega
    rcases List.mem_append.mp hl with z | z
    · have := h.near is hi ls z
      omega
    · obtain ⟨i, _, rfl⟩ := List.mem_map.mp z
      rw [List.length_append]
      show is.length + 1 ≤ _
      omega
theorem Bfs.done {os : List Of} {k : Int} {L : List (List Int)} (h : Bfs os k L L.length) : TrOk os k L := by
  refine ⟨h.fn, fun is => ⟨h.tr is, ?_⟩, h.asc⟩
  suffices H : ∀ n (is : List Int), is.length = n → (∃ v, Trl os k is v) → is ∈ L from H _ is rfl
  intro n
  induction n with
  | zero =>
    intro is e _
    rw [List.length_eq_zero_iff.mp e]
    exact h.nil
  | succ n ih =>
    rintro is e ⟨v, hv⟩
    rcases List.eq_nil_or_concat is with rfl | ⟨js, i, rfl⟩
    · cases e
    · rw [List.concat_eq_append] at *
      have hm := ih js (by rw [List.length_append] at e; exact Nat.succ.inj e) ⟨_, (trl_pre hv).1⟩
      obtain ⟨p, hp, e2⟩ := List.getElem_of_mem hm
      exact h.cl p js hp (by rw [List.getElem?_eq_getElem hp, e2]) i ⟨v, hv⟩
def Wt : Nat → Nat
  | 0 => 1
  | m + 1 => 1 + (m + 1) * Wt m
theorem Wt_pos : ∀ m, 1 ≤ Wt m
  | 0 => Nat.le_refl _
  | m + 1 => Nat.le_add_right _ _
def wtL (n : Nat) (L : List (List Int)) : Nat := (L.map fun is => Wt (n - is.length)).sum
theorem wtL_app {n : Nat} {L M : List (List Int)} : wtL n (L ++ M) = wtL n L + wtL n M := by
  unfold wtL
  rw [List.map_append, List.sum_append]
theorem wtL_len {n : Nat} : ∀ L : List (List Int), L.length ≤ wtL n L
  | [] => Nat.zero_le _
  | x :: L => by
    have := wtL_len (n := n) L
    have := Wt_pos (n - x.length)
    unfold wtL at *
    rw [List.map_cons, List.sum_cons, List.length_cons]
    omega
theorem chl_len {nk : Int} {os : List Of} (hb : BO nk os) {k v : Int} (k0 : 0 ≤ k) (k1 : k < nk) {is bs : List Int} (ht : Trl os k is v) (hbs : BsOk os v bs) : (chl os k is bs).length + is.length + 1 ≤ nk.toNat := by
  have rng : ∀ i, Ed os i → 0 ≤ (gO os i).b ∧ (gO os i).b < nk := fun i e => (ed_x hb e).2.2.2.2.1
  have nd : ((k :: bsK os is) ++ bsK os (chl os k is bs)).Nodup := by
    refine List.nodup_append.mpr ⟨ht.2.2, ?_, fun x hx y hy e => ?_⟩
    · have z : (bsK os (chl os k is bs)).Pairwise (· < ·) := by
        unfold bsK chl
        exact hbs.asc.sublist (List.Sublist.map _ List.filter_sublist)
      exact z.imp fun h => Int.ne_of_lt h
    · obtain ⟨i, im, rfl⟩ := List.mem_map.mp hy
      exact of_decide_eq_true (List.mem_filter.mp im).2 (by rw [← e]; exact hx)
  have le := nodup_leI (m := rg nk) nd fun x hx => by
    rcases List.mem_append.mp hx with z | z
    · rcases List.mem_cons.mp z with rfl | z
      · exact mem_rg.mpr ⟨k0, k1⟩
      · obtain ⟨i, im, rfl⟩ := List.mem_map.mp z
        exact mem_rg.mpr (rng i (ht.2.1 i im).ed)
    · obtain ⟨i, im, rfl⟩ := List.mem_map.mp z
      exact mem_rg.mpr (rng i (hbs.ix i (List.mem_filter.mp im).1).1.ed)
  rw [rg_len, List.length_append, List.length_cons] at le
  unfold bsK at le
  rw [List.length_map, List.length_map] at le
  omega
theorem wt_step {n : Nat} {is cs : List Int} (h : cs.length + is.length ≤ n) : wtL n (cs.map fun i => is ++ [i]) + 1 ≤ Wt (n - is.length) := by
  have e : wtL n (cs.map fun i => is ++ [i]) = cs.length * Wt (n - (is.length + 1)) := by
    clear h
    induction cs with
    | nil => simp [wtL]
    | cons c cs ih =>
      unfold wtL at ih ⊢
      rw [List.map_cons, List.map_cons, List.sum_cons, ih, List.length_append, List.length_cons]
      show Wt (n - (is.length + 1)) + _ = (cs.length + 1) * _
      rw [Nat.add_mul, Nat.one_mul, Nat.add_comm]
  rw [e]
  cases hm : n - is.length with
  | zero =>
    have : cs.length = 0 := by omega
    rw [this]
    show 0 * _ + 1 ≤ 1
    omega
  | succ m =>
    rw [show n - (is.length + 1) = m by omega]
    have : cs.length * Wt m ≤ (m + 1) * Wt m := Nat.mul_le_mul_right _ (by omega)
    show _ + 1 ≤ 1 + (m + 1) * Wt m
    omega
theorem at_lastC {js : List Int} {i : Int} : atI ((js ++ [i]).map D.int) (-1) = some (.int i) := by
  have z := at_pv (l := js ++ [i]) (f := D.int) 0 (k := 0) (Int.le_refl _) (by simp)
  rw [show (0 : Int) - 1 = -1 from rfl, show pvI (js ++ [i]).length 0 = js.length by unfold pvI; rw [if_pos rfl]; simp] at z
  rw [z, List.getD_eq_getElem?_getD, List.getElem?_append_right (Nat.le_refl _), Nat.sub_self]
  rfl
def isP (is : List Int) : D := .pt is
structure Lp (os : List Of) (k : Int) (is : List Int) : Prop where
  w : Wlk os k is k
  bs : ∀ i ∈ is, BsIx os i
  nd : (bsK os is).Nodup
  ne : is ≠ []
/-- one offer closes a trail -/
def Cls (os : List Of) (k : Int) (js : List Int) (i : Int) : Prop := Trl os k js (gO os i).a ∧ BsIx os i ∧ (gO os i).b = k
theorem lp_cls {os : List Of} {k : Int} {js : List Int} {i : Int} : Lp os k (js ++ [i]) ↔ Cls os k js i := by
  constructor
  · rintro ⟨w, hb, nd, _⟩
    obtain ⟨e, w2, eb⟩ := wlk_last w
    refine ⟨⟨w2, fun j hj => hb j (List.mem_append_left _ hj), ?_⟩, hb i (List.mem_append_right _ (List.mem_singleton.mpr rfl)), eb⟩
    rw [bsK_app, show bsK os [i] = [k] by rw [← eb]; rfl] at nd
    obtain ⟨n1, _, dj⟩ := List.nodup_append.mp nd
    exact List.nodup_cons.mpr ⟨fun z => dj k z k (List.mem_singleton.mpr rfl) rfl, n1⟩
  · rintro ⟨⟨w, hb, nd⟩, b, eb⟩
    refine ⟨wlk_app w ⟨b.ed, rfl, eb⟩, fun j hj => ?_, ?_, by simp⟩
    · rcases List.mem_append.mp hj with z | z
      · exact hb j z
      · rw [List.mem_singleton.mp z]
        exact b
    · rw [bsK_app, show bsK os [i] = [k] by rw [← eb]; rfl]
      obtain ⟨h1, h2⟩ := List.nodup_cons.mp nd
      exact List.nodup_append.mpr ⟨h2, List.nodup_cons.mpr ⟨List.not_mem_nil, List.nodup_nil⟩, fun x hx y hy e => h1 (by rw [← show y = k from List.mem_singleton.mp hy, ← e]; exact hx)⟩
theorem wlk_kinds {nk : Int} {os : List Of} (h : BO nk os) : ∀ {is : List Int} {u v : Int}, Wlk os u is v → ∀ c ∈ bsK os is, 0 ≤ c ∧ c < nk
  | [], _, _, _, _, hc => nomatch hc
  | i :: is, u, v, ⟨e, _, w⟩, c, hc => by
    rcases List.mem_cons.mp hc with rfl | hc
    · exact (ed_x h e).2.2.2.2.1
    · exact wlk_kinds h w c hc
theorem wlk_ix {os : List Of} : ∀ {is : List Int} {u v : Int}, Wlk os u is v → ∀ i ∈ is, Ed os i
  | [], _, _, _, _, hc => nomatch hc
  | i :: is, u, v, ⟨e, _, w⟩, c, hc => by
    rcases List.mem_cons.mp hc with rfl | hc
    · exact e
    · exact wlk_ix w c hc
theorem bs_len {nk : Int} {os : List Of} (h : BO nk os) {v : Int} {bs : List Int} (hb : BsOk os v bs) : bs.length ≤ nk.toNat := by
  have le := nodup_leI (l := bsK os bs) (m := rg nk) (hb.asc.imp fun h => Int.ne_of_lt h) fun x hx => by
    obtain ⟨i, im, rfl⟩ := List.mem_map.mp hx
    exact mem_rg.mpr (ed_x h (hb.ix i im).1.ed).2.2.2.2.1
  rw [rg_len] at le
  unfold bsK at le
  rw [List.length_map] at le
  exact le
theorem lp_len {nk : Int} {os : List Of} (h : BO nk os) {k : Int} {is : List Int} (l : Lp os k is) : is.length ≤ nk.toNat := by
  have le := nodup_leI (l := bsK os is) (m := rg nk) l.nd fun x hx => mem_rg.mpr (wlk_kinds h l.w x hx)
  rw [rg_len] at le
  unfold bsK at le
  rw [List.length_map] at le
  exact le
theorem trl_len {nk : Int} {os : List Of} (h : BO nk os) {k v : Int} {is : List Int} (k0 : 0 ≤ k) (k1 : k < nk) (l : Trl os k is v) : is.length + 1 ≤ nk.toNat := by
  have le := nodup_leI (l := k :: bsK os is) (m := rg nk) l.2.2 fun x hx => mem_rg.mpr (by
    rcases List.mem_cons.mp hx with rfl | hx
    · exact ⟨k0, k1⟩
    · exact wlk_kinds h l.1 x hx)
  rw [rg_len, List.length_cons] at le
  unfold bsK at le
  rw [List.length_map] at le
  exact le
def clz (os : List Of) (k : Int) (js bs : List Int) : List (List Int) := (bs.filter fun i => decide ((gO os i).b = k)).map fun i => js ++ [i]
/-- the loops in their order -/
inductive LpR (os : List Of) (k : Int) : List (List Int) → List (List Int) → Prop
  | nil : LpR os k [] []
  | snoc {ts ls : List (List Int)} {js bs : List Int} {v : Int} : LpR os k ts ls → Wlk os k js v → BsOk os v bs → LpR os k (ts ++ [js]) (ls ++ clz os k js bs)
theorem LpR.uniq {os : List Of} {k : Int} {ts ls : List (List Int)} (h : LpR os k ts ls) : ∀ {us ms : List (List Int)}, LpR os k us ms → ts = us → ls = ms := by
  induction h with
  | nil =>
    intro us ms g e
    cases g with
    | nil => rfl
    | snoc _ _ _ => simp at e
  | snoc _ w b ih =>
    intro us ms g e
    cases g with
    | nil => simp at e
    | snoc g' w' b' =>
      obtain ⟨e1, e2⟩ := List.append_inj' e rfl
      cases e2
      obtain rfl := wlk_uniq w w'
      rw [ih g' e1, b.uniq b']
def LsF (os : List Of) (k : Int) (ls : List (List Int)) : Prop := ∃ ts, BfsR os k ts ts.length ∧ LpR os k ts ls
theorem LsF.uniq {os : List Of} {k : Int} {ls ms : List (List Int)} (h : LsF os k ls) (g : LsF os k ms) : ls = ms := by
  obtain ⟨ts, a, b⟩ := h
  obtain ⟨us, c, d⟩ := g
  exact b.uniq d (a.full c)
/-- what is found behind some trails -/
structure LpA (os : List Of) (k : Int) (ts ls : List (List Int)) : Prop where
  fn : LpR os k ts ls
  mem : ∀ is, is ∈ ls ↔ ∃ js ∈ ts, ∃ i, is = js ++ [i] ∧ Cls os k js i
  len : ls.length ≤ 4 * ts.length
theorem LpA.step {nk : Int} {os : List Of} (hb : BO nk os) {k v : Int} {ts ls : List (List Int)} (h : LpA os k ts ls) {js bs : List Int} (ht : Trl os k js v) (b : BsOk os v bs) : LpA os k (ts ++ [js]) (ls ++ clz os k js bs) := by
  refine ⟨h.fn.snoc ht.1 b, fun is => ?_, ?_⟩
  · rw [List.mem_append, h.mem]
    constructor
    · rintro (⟨qs, hq, i, e, c⟩ | z)
      · exact ⟨qs, List.mem_append_left _ hq, i, e, c⟩
      · obtain ⟨i, hi, rfl⟩ := List.mem_map.mp z
        obtain ⟨i1, i2⟩ := List.mem_filter.mp hi
        refine ⟨js, List.mem_append_right _ (List.mem_singleton.mpr rfl), i, rfl, ?_, (b.ix i i1).1, of_decide_eq_true i2⟩
        rw [(b.ix i i1).2]
        exact ht
    · rintro ⟨qs, hq, i, rfl, c1, c2, c3⟩
      rcases List.mem_append.mp hq with z | z
      · exact .inl ⟨qs, z, i, rfl, c1, c2, c3⟩
      · obtain rfl := List.mem_singleton.mp z
        refine .inr (List.mem_map.mpr ⟨i, List.mem_filter.mpr ⟨?_, decide_eq_true c3⟩, rfl⟩)
        have ev : (gO os i).a = v := by
          have u1 := wlk_at_last c1.1
          rw [wlk_at_last ht.1] at u1
          cases u1
          rfl
        obtain ⟨i', hi', e'⟩ := b.all i c2.ed ev
        rw [c2.uniq (b.ix i' hi').1 (by rw [(b.ix i' hi').2, ev]) e']
        exact hi'
  · have l1 := bs_len hb b
    have l2 := hb.k4
    have l3 : (clz os k js bs).length ≤ bs.length := by
      unfold clz
      rw [List.length_map]
      exact List.length_filter_le _ _
    have := h.len
    rw [List.length_append, List.length_append, List.length_singleton]
    omega
theorem LpA.all {os : List Of} {k : Int} {ts ls : List (List Int)} (h : LpA os k ts ls) (t : TrOk os k ts) (is : List Int) : is ∈ ls ↔ Lp os k is := by
  rw [h.mem]
  constructor
  · rintro ⟨js, _, i, rfl, c⟩
    exact lp_cls.mpr c
  · intro l
    rcases List.eq_nil_or_concat is with rfl | ⟨js, i, rfl⟩
    · exact absurd rfl l.ne
    · rw [List.concat_eq_append] at *
      have c := lp_cls.mp l
      exact ⟨js, (t.mem js).mpr ⟨_, c.1⟩, i, rfl, c⟩

/-- a loop that gains, the first one of some kinds, turned -/
def GlR (os : List Of) (ks : List Int) (r : List Int) : Prop := ∃ (i j : Nat) (k m : Int) (is : List Int) (ls : List (List Int)), ks[i]? = some k ∧ (∀ i', i' < i → ∀ k', ks[i']? = some k' → ∀ is, Lp os k' is → prY os is ≤ prX os is) ∧ LsF os k ls ∧ ls[j]? = some is ∧ (∀ j', j' < j → ∀ is', ls[j']? = some is' → prY os is' ≤ prX os is') ∧ Lp os k is ∧ prX os is < prY os is ∧ m ∈ is ∧ (∀ x ∈ is, m ≤ x) ∧ r = is.drop (is.idxOf m) ++ is.take (is.idxOf m)
theorem GlR.uniq {os : List Of} {ks r s : List Int} (h : GlR os ks r) (g : GlR os ks s) : r = s := by
  obtain ⟨i, j, k, m, is, ls, h1, h2, h3, h4, h5, h6, h7, h8, h9, rfl⟩ := h
  obtain ⟨i', j', k', m', is', ls', g1, g2, g3, g4, g5, g6, g7, g8, g9, rfl⟩ := g
  have ei : i = i' := by
    refine Nat.le_antisymm (Nat.le_of_not_lt fun c => ?_) (Nat.le_of_not_lt fun c => ?_)
    · have := h2 i' c k' g1 is' g6
      omega
    · have := g2 i c k h1 is h6
      omega
  subst ei
  rw [h1] at g1
  cases g1
  obtain rfl := h3.uniq g3
  have ej : j = j' := by
    refine Nat.le_antisymm (Nat.le_of_not_lt fun c => ?_) (Nat.le_of_not_lt fun c => ?_)
    · have := h5 j' c is' g4
      omega
    · have := g5 j c is h4
      omega
  subst ej
  rw [h4] at g4
  cases g4
  obtain rfl : m = m' := Int.le_antisymm (h9 m' g8) (g9 m h8)
  rfl
theorem GlR.lp {os : List Of} {ks r : List Int} (h : GlR os ks r) : ∃ (k m : Int) (is : List Int) (n : Nat), k ∈ ks ∧ Lp os k is ∧ prX os is < prY os is ∧ m ∈ is ∧ (∀ x ∈ is, m ≤ x) ∧ is[n]? = some m ∧ r = is.drop n ++ is.take n := by
  obtain ⟨i, j, k, m, is, ls, h1, h2, h3, h4, h5, h6, h7, h8, h9, rfl⟩ := h
  have il := List.idxOf_lt_length_of_mem h8
  exact ⟨k, m, is, is.idxOf m, List.mem_of_getElem? h1, h6, h7, h8, h9, by rw [List.getElem?_eq_getElem il, List.getElem_idxOf], rfl⟩
/-- a fraction in lowest terms -/
def frD (a b : Int) : D := .tup [.int (a / gI a b), .int (b / gI a b)]
theorem rch_step {os : List Of} {a c i : Int} (r : Rch os a c) (e : Ed os i) (h : (gO os i).a = c) : Rch os a (gO os i).b :=
  r.step ⟨gO os i, (gO_at e.i0 e.i1).2, h, rfl, by have := e.y1; omega⟩
theorem rch_walk {os : List Of} {a : Int} : ∀ {is : List Int} {u v : Int}, Wlk os u is v → Rch os a u → Rch os a v
  | [], u, v, w, r => by
    obtain rfl : u = v := w
    exact r
  | i :: is, u, v, ⟨e, hu, w⟩, r => rch_walk w (rch_step r e hu)
theorem rch_wlk {os : List Of} {a c : Int} : Rch os a c ↔ ∃ is, Wlk os a is c := by
  constructor
  · intro r
    induction r with
    | refl => exact ⟨[], rfl⟩
    | step _ s ih =>
      obtain ⟨is, w⟩ := ih
      obtain ⟨o, ho, ha, hb, hy⟩ := s
      obtain ⟨n, hn, e⟩ := List.getElem_of_mem ho
      have g : gO os (n : Int) = o := by
        unfold gO
        rw [Int.toNat_natCast, List.getD_eq_getElem?_getD, List.getElem?_eq_getElem hn, Option.getD_some, e]
      exact ⟨is ++ [(n : Int)], wlk_app w ⟨⟨by omega, by omega, by rw [g]; omega⟩, by rw [g]; exact ha, by rw [g]; exact hb⟩⟩
  · rintro ⟨is, w⟩
    exact rch_walk w .refl
theorem rch_trans {os : List Of} {a b c : Int} (r : Rch os a b) (s : Rch os b c) : Rch os a c := by
  obtain ⟨is, w⟩ := rch_wlk.mp r
  obtain ⟨js, w2⟩ := rch_wlk.mp s
  exact rch_wlk.mpr ⟨_, wlk_app w w2⟩
def endK (os : List Of) : Int → List Int → Int
  | u, [] => u
  | _, i :: is => endK os (gO os i).b is
theorem endK_eq {os : List Of} : ∀ {is : List Int} {u v : Int}, Wlk os u is v → endK os u is = v
  | [], _, _, w => w
  | i :: is, u, v, ⟨_, _, w⟩ => endK_eq (is := is) (u := (gO os i).b) w
/-- the kinds between two -/
def Btwn (os : List Of) (a c : Int) (k : Int) : Prop := Rch os a k ∧ Rch os k c
theorem btwn_wlk {os : List Of} : ∀ {is : List Int} {a u c : Int}, Wlk os u is c → Rch os a u → ∀ k ∈ u :: bsK os is, Btwn os a c k
  | [], a, u, c, w, r, k, hk => by
    obtain rfl : u = c := w
    rw [List.mem_singleton.mp hk]
    exact ⟨r, .refl⟩
  | i :: is, a, u, c, ⟨e, hu, w⟩, r, k, hk => by
    rcases List.mem_cons.mp hk with rfl | hk
    · exact ⟨r, rch_wlk.mpr ⟨i :: is, e, hu, w⟩⟩
    · exact btwn_wlk w (rch_step r e hu) k hk
structure BestT (os : List Of) (a c : Int) (is : List Int) : Prop where
  t : Trl os a is c
  le : ∀ js, Trl os a js c → rLe os js is
  few : ∀ js, Trl os a js c → rLe os is js → is.length ≤ js.length
/-- the best of some trails, the first of those -/
def BstL (os : List Of) (ls : List (List Int)) (b : List Int) : Prop := b ∈ ls ∧ ∀ js ∈ ls, rLe os js b ∧ (rLe os b js → b.length ≤ js.length)
theorem BstL.one (os : List Of) (js : List Int) : BstL os [js] js := ⟨List.mem_singleton.mpr rfl, fun ls h => by rw [List.mem_singleton.mp h]; exact ⟨rLe_refl, fun _ => Nat.le_refl _⟩⟩
theorem BstL.keep {os : List Of} {ls : List (List Int)} {b js : List Int} (h : BstL os ls b) (asc : (ls ++ [js]).Pairwise fun x y => x.length ≤ y.length) (c : rLe os js b) : BstL os (ls ++ [js]) b :=
  ⟨List.mem_append_left _ h.1, fun qs hq => by
    rcases List.mem_append.mp hq with z | z
    · exact h.2 qs z
    · rw [List.mem_singleton.mp z]
      exact ⟨c, fun _ => (List.pairwise_append.mp asc).2.2 b h.1 js (List.mem_singleton.mpr rfl)⟩⟩
theorem BstL.take {nk : Int} {os : List Of} (hb : BO nk os) {a : Int} {ls : List (List Int)} {b js : List Int} (h : BstL os ls b) (hw : ∀ qs ∈ ls ++ [js], ∃ v, Wlk os a qs v) (c : ¬ rLe os js b) : BstL os (ls ++ [js]) js :=
  ⟨List.mem_append_right _ (List.mem_singleton.mpr rfl), fun qs hq => by
    rcases List.mem_append.mp hq with z | z
    · obtain ⟨v1, w1⟩ := hw qs hq
      obtain ⟨v2, w2⟩ := hw b (List.mem_append_left _ h.1)
      obtain ⟨v3, w3⟩ := hw js (List.mem_append_right _ (List.mem_singleton.mpr rfl))
      have p1 := (pr_pos hb w1).1
      have p2 := (pr_pos hb w2).1
      have p3 := (pr_pos hb w3).1
      have l := frac_lt p1 p2 p3 (h.2 qs z).1 (show prY os b * prX os js < prY os js * prX os b from by unfold rLe at c; omega)
      exact ⟨Int.le_of_lt l, fun r => by unfold rLe at r; omega⟩
    · rw [List.mem_singleton.mp z]
      exact ⟨rLe_refl, fun _ => Nat.le_refl _⟩⟩
/-- the trails that end with a kind, of all of them -/
theorem BstL.best {os : List Of} {a c : Int} {ts : List (List Int)} (t : TrOk os a ts) {b : List Int} (h : BstL os (ts.filter fun is => decide (endK os a is = c)) b) : BestT os a c b := by
  have mem : ∀ is, is ∈ ts.filter (fun is => decide (endK os a is = c)) ↔ Trl os a is c := fun is => by
    rw [List.mem_filter, t.mem, decide_eq_true_iff]
    constructor
    · rintro ⟨⟨v, hv⟩, e⟩
      rw [endK_eq hv.1] at e
      rw [← e]
      exact hv
    · intro h
      exact ⟨⟨_, h⟩, endK_eq h.1⟩
  exact ⟨(mem b).mp h.1, fun js hj => (h.2 js ((mem js).mpr hj)).1, fun js hj => (h.2 js ((mem js).mpr hj)).2⟩
theorem bp_ex {nk : Int} {os : List Of} (hb : BO nk os) : ∀ (Q P : List Int), P ++ Q.reverse = P ++ Q.reverse → (∀ q ∈ Q.reverse, Ed os q) → Q.reverse.Pairwise (· < ·) → ∃ ps, Bp os Q.reverse ps
  | [], _, _, _, _ => ⟨[], Bp.nil os⟩
  | i :: Q, P, _, he, ha => by
    rw [List.reverse_cons] at he ha ⊢
    obtain ⟨p1, _, p3⟩ := List.pairwise_append.mp ha
    obtain ⟨ps, bp⟩ := bp_ex hb Q P rfl (fun q hq => he q (List.mem_append_left _ hq)) p1
    have lt : ∀ q ∈ Q.reverse, q < i := fun q hq => p3 q hq i (List.mem_singleton.mpr rfl)
    have ed := he i (List.mem_append_right _ (List.mem_singleton.mpr rfl))
    cases hs : hasP ps (gO os i).b with
    | false => exact ⟨_, bp.new hs⟩
    | true =>
      obtain ⟨⟨g, f⟩, hp, e⟩ := List.mem_map.mp (of_decide_eq_true hs)
      have hf : ((gO os i).b, f) ∈ ps := by rw [← e]; exact hp
      by_cases c : (gO os i).y * (gO os f).x > (gO os f).y * (gO os i).x
      · exact ⟨_, bp.take hb (fun q hq => he q (List.mem_append_left _ hq)) ed hf c⟩
      · exact ⟨ps, bp.keep hf lt (by omega)⟩
theorem bs_all {nk : Int} {os : List Of} (hb : BO nk os) (k : Int) : ∃ bs, BsOk os k bs := by
  obtain ⟨ps, bp⟩ := bp_ex hb (givL os k).reverse [] rfl (fun q hq => (giv_mem.mp (by simpa using hq)).1) (by rw [List.reverse_reverse]; exact giv_asc os k)
  rw [List.reverse_reverse] at bp
  have hp := List.mergeSort_perm (ps.map (·.1)) (fun a b => decide (a ≤ b))
  have ha := List.pairwise_mergeSort (le := fun a b : Int => decide (a ≤ b)) (fun a b c h1 h2 => decide_eq_true (Int.le_trans (of_decide_eq_true h1) (of_decide_eq_true h2))) (fun a b => by
    rcases Int.le_total a b with z | z
    · rw [decide_eq_true z, Bool.true_or]
    · rw [decide_eq_true z, Bool.or_true]) (ps.map (·.1))
  generalize (ps.map (·.1)).mergeSort (fun a b => decide (a ≤ b)) = ys at hp ha
  have hx : ∀ g : Int, ∃ f : Int, g ∈ ys → (g, f) ∈ ps := fun g => by
    by_cases c : g ∈ ys
    · obtain ⟨⟨g', f⟩, hp2, e⟩ := List.mem_map.mp (hp.mem_iff.mp c)
      exact ⟨f, fun _ => by rw [← show g' = g from e]; exact hp2⟩
    · exact ⟨0, fun z => absurd z c⟩
  obtain ⟨F, hF⟩ := Classical.skolem.mp hx
  refine ⟨ys.map F, bp.ok hp (ha.imp fun z => of_decide_eq_true z) ?_ fun i hi => ?_⟩
  · unfold bsK
    rw [List.map_map]
    refine (List.map_congr_left fun g hg => ?_).trans (List.map_id ys)
    exact (bp.mem _ (hF g hg)).2
  · obtain ⟨g, hg, rfl⟩ := List.mem_map.mp hi
    rw [(bp.mem _ (hF g hg)).2]
    exact hF g hg

abbrev s_is_whole : Stmt := top 11
abbrev N_is_whole : List Str := ["value"]
theorem sc_is_whole : FnScope N_is_whole ["value"] (defScope s_is_whole) := ⟨rfl, rfl, rfl, by decide +kernel, rfl, by decide +kernel, by decide +kernel⟩
def R_is_whole : D → (D → Prop) → Prop := fun d Q => d.plainK = true ∧ Q (.bl (match d with | .int _ => true | _ => false))
theorem ok_is_whole (h_is_whole : Dfn K mg "is_whole" s_is_whole ["value"]) (B : Bl mg) : Cal P w K mg base CX0 "is_whole" 1 ["value"] (liftP K (sp1 R_is_whole)) := by
  refine cal_pure h_is_whole sc_is_whole (by decide) sp1_len ⟨_, fun f cdv A outer s H E hgd hr => (b_one (s_ret (d_and (d_isi B.isinstance (dc (dv 0) (dc (d_ty B.int PyProof.Rows.boot_int) dn))) (d_one (d_not (d_isi B.isinstance (dc (dv 0) (dc (d_ty B.bool PyProof.Rows.boot_bool) dn)))))))), sp1_by ?_⟩
  rintro d Q ⟨h, q⟩
  cases d with
  | opq _ => cases h
  | pt _ => cases h
  | ps _ => cases h
  | ins _ _ => cases h
  | _ =>
    walk_at "rd"
    exact q
abbrev s_is_between : Stmt := top 12
abbrev N_is_between : List Str := ["value", "low", "high"]
theorem sc_is_between : FnScope N_is_between ["value", "low", "high"] (defScope s_is_between) := ⟨rfl, rfl, rfl, by decide +kernel, rfl, by decide +kernel, by decide +kernel⟩
def R_is_between : D → D → D → (D → Prop) → Prop := fun v x y Q => ∃ (lo hi : Int), x = .int lo ∧ y = .int hi ∧ v.plainK = true ∧ Q (.bl (btw lo hi v))
theorem ok_is_between (h_is_between : Dfn K mg "is_between" s_is_between ["value", "low", "high"]) (B : Bl mg) (c_is_whole : Cal P w K mg base CX0 "is_whole" 1 ["value"] (liftP K (sp1 R_is_whole))) : Cal P w K mg base CX0 "is_between" 2 ["value", "low", "high"] (liftP K (sp3 R_is_between)) := by
  obtain ⟨f_is_whole, fd_is_whole, C_is_whole⟩ := c_is_whole
  refine cal_pure h_is_between sc_is_between (by decide) sp3_len ⟨_, fun f cdv A outer s H E hgd hr => (b_one (s_ret (d_and (d_call C_is_whole.fn hgd hr C_is_whole.mg C_is_whole.kp C_is_whole.bd pass0 (dc (dv 0) dn)) (d_one (d_chain op_le ok_cmp op_le ok_cmp (dv 1) (dv 0) (dv 2)))))), sp3_by ?_⟩
  rintro v _ _ Q ⟨lo, hi, rfl, rfl, h, q⟩
  walk_at "rd"
  refine ⟨h, ?_⟩
  cases v with
  | int i =>
    walk_at "rd"
    have q : Q (.bl (decide (lo ≤ i) && decide (i ≤ hi))) := q
    by_cases c : lo ≤ i
    · rw [decide_eq_true c, Bool.true_and] at q
      rw [if_pos (decide_eq_true c)]
      exact q
    · rw [decide_eq_false c, Bool.false_and] at q
      rw [if_neg fun z => c (of_decide_eq_true z)]
      exact q
  | _ =>
    walk_at "rd"
    exact q
abbrev s_divisor : Stmt := top 67
abbrev N_divisor : List Str := ["one", "other"]
theorem sc_divisor : FnScope N_divisor ["one", "other"] (defScope s_divisor) := ⟨rfl, rfl, rfl, by decide +kernel, rfl, by decide +kernel, by decide +kernel⟩
def R_divisor : D → D → (D → Prop) → Prop := fun u v Q => ∃ a b : Int, u = .int a ∧ v = .int b ∧ 0 ≤ a ∧ 0 ≤ b ∧ b < 1267650600228229401496703205376 ∧ Q (.int (gI a b))
theorem ok_divisor (h_divisor : Dfn K mg "divisor" s_divisor ["one", "other"]) (B : Bl mg) : Cal P w K mg base CX0 "divisor" 1 ["one", "other"] (liftP K (sp2 R_divisor)) := by
  refine cal_pure h_divisor sc_divisor (by decide) sp2_len ⟨_, fun f cdv A outer s H E hgd hr => (b_cons (s_while PassesOwn.never (t_ne hr.units (dv 1) d_int) (b_one (s_par (i := 0) (j := 1) rfl sc_divisor.nd (dc (dv 1) (dc (d_mod (dv 0) (dv 1)) dn)))))
    (b_one (s_ret (dv 0)))), sp2_by ?_⟩
  rintro _ _ Q ⟨a, b, rfl, rfl, a0, b0, b2, q⟩
  refine seq_intro fun k hk => ?_
  walk_at "rd"
  refine ⟨fun m E => ∃ x y : Int, 0 ≤ x ∧ 0 ≤ y ∧ y < 1267650600228229401496703205376 ∧ y.toNat = m ∧ gI x y = gI a b ∧ E = [.fz (.int x), .fz (.int y)], ⟨_, a, b, a0, b0, b2, rfl, rfl, rfl⟩, ?_⟩
  rintro m _ ⟨x, y, x0, y0, y1, rfl, hg, rfl⟩
  walk_at "rd"
  refine ite_nby (fun c => ?_) fun c => ?_
  · have j0 := Int.emod_nonneg x (show y ≠ 0 by omega)
    have j1 := Int.emod_lt_of_pos x (show 0 < y by omega)
    refine ⟨by omega, _, ?_, y, x % y, by omega, j0, by omega, rfl, ?_, rfl⟩
    · omega
    · rw [gI_step x0 (by omega)]
      exact hg
  · subst hk
    walk_at "rd"
    subst c
    rw [← hg, gI_zero x0] at q
    exact q
abbrev s_lowest : Stmt := top 68
abbrev N_lowest : List Str := ["num", "den", "by"]
theorem sc_lowest : FnScope N_lowest ["num", "den"] (defScope s_lowest) := ⟨rfl, rfl, rfl, by decide +kernel, rfl, by decide +kernel, by decide +kernel⟩
def R_lowest : D → D → (D → Prop) → Prop := fun u v Q => ∃ a b : Int, u = .int a ∧ v = .int b ∧ 1 ≤ a ∧ 1 ≤ b ∧ a < 1152921504606846976 ∧ b < 1152921504606846976 ∧ Q (.tup [.int (a / gI a b), .int (b / gI a b)])
theorem ok_lowest (h_lowest : Dfn K mg "lowest" s_lowest ["num", "den"]) (B : Bl mg) (c_divisor : Cal P w K mg base CX0 "divisor" 1 ["one", "other"] (liftP K (sp2 R_divisor))) : Cal P w K mg base CX0 "lowest" 2 ["num", "den"] (liftP K (sp2 R_lowest)) := by
  obtain ⟨f_divisor, fd_divisor, C_divisor⟩ := c_divisor
  refine cal_pure h_lowest sc_lowest (by decide) sp2_len ⟨_, fun f cdv A outer s H E hgd hr => (b_cons (s_set (i := 2) sc_lowest.nd (d_call C_divisor.fn hgd hr C_divisor.mg C_divisor.kp C_divisor.bd pass0 (dc (dv 0) (dc (dv 1) dn))))
    (b_one (s_ret (d_tup (dc (d_fdiv (dv 0) (dv 2)) (dc (d_fdiv (dv 1) (dv 2)) dn)))))), sp2_by ?_⟩
  rintro _ _ Q ⟨a, b, rfl, rfl, a1, b1, a2, b2, q⟩
  have g1 := gI_pos (a := a) (b := b) (.inl (by omega))
  have gb := Int.le_of_dvd (by omega) (gI_r a b)
  refine seq_intro fun k hk => ?_
  walk_at "rd"
  refine ⟨a, b, rfl, rfl, by omega, by omega, by omega, ?_⟩
  subst hk
  walk_at "rd"
  exact ⟨cdiv60 (by omega) (by omega), cdiv60 (by omega) (by omega), by decide, q⟩
abbrev s_ratio_of : Stmt := top 70
abbrev N_ratio_of : List Str := ["board", "indexes", "num", "den", "index"]
theorem sc_ratio_of : FnScope N_ratio_of ["board", "indexes"] (defScope s_ratio_of) := ⟨rfl, rfl, rfl, by decide +kernel, rfl, by decide +kernel, by decide +kernel⟩
def R_ratio_of : D → D → (D → Prop) → Prop := fun b v Q => ∃ (nk : Int) (os : List Of) (is : List Int), b = bd nk os ∧ v = .tup (is.map D.int) ∧ BO nk os ∧ (∀ i ∈ is, 0 ≤ i ∧ i < os.length) ∧ is.length ≤ 12 ∧ is.all (fun i => decide ((gO os i).y ≠ 0)) = true ∧ Q (.tup [.int (prY os is / gI (prY os is) (prX os is)), .int (prX os is / gI (prY os is) (prX os is))])
theorem ok_ratio_of (h_ratio_of : Dfn K mg "ratio_of" s_ratio_of ["board", "indexes"]) (B : Bl mg) (c_lowest : Cal P w K mg base CX0 "lowest" 2 ["num", "den"] (liftP K (sp2 R_lowest))) : Cal P w K mg base CX0 "ratio_of" 3 ["board", "indexes"] (liftP K (sp2 R_ratio_of)) := by
  obtain ⟨f_lowest, fd_lowest, C_lowest⟩ := c_lowest
  refine cal_pure h_ratio_of sc_ratio_of (by decide) sp2_len ⟨_, fun f cdv A outer s H E hgd hr => (b_cons (s_asg (d_tup (dc d_int (dc d_int dn))) (g_tup (n := 2) rfl (gs_cons (g_name (i := 2) sc_ratio_of.nd) (gs_cons (g_name (i := 3) sc_ratio_of.nd) gs_nil))))
    (b_cons (s_for PassesOwn.never rfl (i_seq (dv 1)) (g_name (i := 4) sc_ratio_of.nd) (b_cons (s_set (i := 2) sc_ratio_of.nd (d_mul (dv 2) (d_ix (d_ix (d_ixV 0 d_int) (dv 4)) d_int)))
    (b_one (s_set (i := 3) sc_ratio_of.nd (d_mul (dv 3) (d_ix (d_ix (d_ixV 0 d_int) (dv 4)) d_int))))))
    (b_one (s_ret (d_call C_lowest.fn hgd hr C_lowest.mg C_lowest.kp C_lowest.bd pass0 (dc (dv 2) (dc (dv 3) dn))))))), sp2_by ?_⟩
  rintro _ _ Q ⟨nk, os, is, rfl, rfl, h, his, hl, hy, q⟩
  have bx := prX_bd h his hl
  have by_ := prY_bd h his hy hl
  refine seq_intro fun k hk => ?_
  walk_at "rd"
  refine ⟨by decide, ?_⟩
  subst hk
  refine seq_intro fun k hk => ?_
  walk_at "rd"
  refine ⟨fun j E => ∃ s4 : Sl, s4.free ∧ E = [.fz (bd nk os), .fz (.tup (is.map D.int)), .fz (.int (prY os (is.take j))), .fz (.int (prX os (is.take j))), s4], ⟨.un, True.intro, rfl⟩, ?_, ?_⟩
  · rintro j y _ hj ⟨s4, f4, rfl⟩
    obtain ⟨i, ei, rfl⟩ := map_get hj
    have hi := his i (List.mem_of_getElem? ei)
    obtain ⟨ao, om⟩ := gO_at hi.1 hi.2
    obtain ⟨_, _, _, ⟨x0, x1⟩, y0, y1⟩ := h.ok _ om
    have eX : prX os (is.take (j + 1)) = prX os (is.take j) * (gO os i).x := by
      unfold prX
      rw [List.take_add_one, ei, Option.toList_some, List.foldl_append]
      rfl
    have eY : prY os (is.take (j + 1)) = prY os (is.take j) * (gO os i).y := by
      unfold prY
      rw [List.take_add_one, ei, Option.toList_some, List.foldl_append]
      rfl
    clear hk
    refine ⟨f4, ?_⟩
    refine seq_intro fun k hk => ?_
    unfold bd
    walk_at "rd"
    rw [ao, ofd]
    walk_at "rd"
    refine ⟨cmulR (by omega) (by omega), ?_⟩
    subst hk
    walk_at "rd"
    rw [ao, ofd]
    walk_at "rd"
    refine ⟨cmulR (by omega) (by omega), .fz (.int i), True.intro, ?_⟩
    rw [eX, eY]
    rfl
  · rw [List.length_map]
    rintro _ ⟨s4, f4, rfl⟩
    rw [List.take_length]
    subst hk
    walk_at "rd"
    exact ⟨_, _, rfl, rfl, by_.1, bx.1, by omega, by omega, q⟩
abbrev s_gains : Stmt := top 76
abbrev N_gains : List Str := ["board", "indexes", "num", "den"]
theorem sc_gains : FnScope N_gains ["board", "indexes"] (defScope s_gains) := ⟨rfl, rfl, rfl, by decide +kernel, rfl, by decide +kernel, by decide +kernel⟩
def R_gains : D → D → (D → Prop) → Prop := fun b v Q => ∃ (nk : Int) (os : List Of) (is : List Int), b = bd nk os ∧ v = .tup (is.map D.int) ∧ BO nk os ∧ (∀ i ∈ is, 0 ≤ i ∧ i < os.length) ∧ is.length ≤ 12 ∧ is.all (fun i => decide ((gO os i).y ≠ 0)) = true ∧ Q (.bl (decide (prY os is > prX os is)))
theorem ok_gains (h_gains : Dfn K mg "gains" s_gains ["board", "indexes"]) (B : Bl mg) (c_ratio_of : Cal P w K mg base CX0 "ratio_of" 3 ["board", "indexes"] (liftP K (sp2 R_ratio_of))) : Cal P w K mg base CX0 "gains" 4 ["board", "indexes"] (liftP K (sp2 R_gains)) := by
  obtain ⟨f_ratio_of, fd_ratio_of, C_ratio_of⟩ := c_ratio_of
  refine cal_pure h_gains sc_gains (by decide) sp2_len ⟨_, fun f cdv A outer s H E hgd hr => (b_cons (s_asg (d_call C_ratio_of.fn hgd hr C_ratio_of.mg C_ratio_of.kp C_ratio_of.bd pass0 (dc (dv 0) (dc (dv 1) dn))) (g_tup (n := 2) rfl (gs_cons (g_name (i := 2) sc_gains.nd) (gs_cons (g_name (i := 3) sc_gains.nd) gs_nil))))
    (b_one (s_ret (d_gt (dv 2) (dv 3))))), sp2_by ?_⟩
  rintro _ _ Q ⟨nk, os, is, rfl, rfl, h, his, hl, hy, q⟩
  have bx := prX_bd h his hl
  have by_ := prY_bd h his hy hl
  refine seq_intro fun k hk => ?_
  walk_at "rd"
  refine ⟨nk, os, is, rfl, rfl, h, his, hl, hy, ?_⟩
  walk_at "rd"
  subst hk
  walk_at "rd"
  rw [quot_gt (by omega) (by omega)]
  exact q
theorem btf {b : Bool} (h : ¬ b = false) : b = true := by
  cases b with
  | false => exact absurd rfl h
  | true => rfl
def offB (nk : Int) : D → Bool
  | .tup [a, x, b, y] => btw 0 (nk - 1) a && (btw 0 (nk - 1) b && (!decide (ixOf a = ixOf b) && (btw 1 30 x && btw 0 30 y)))
  | _ => false
def iv : D → List Int
  | .tup xs => xs.map ixOf
  | _ => []
theorem four {xs : List D} (h : xs.length = 4) : ∃ a x b y, xs = [a, x, b, y] := by
  match xs, h with
  | [a, x, b, y], _ => exact ⟨a, x, b, y, rfl⟩
theorem two_ {xs : List D} (h : xs.length = 2) : ∃ a b, xs = [a, b] := by
  match xs, h with
  | [a, b], _ => exact ⟨a, b, rfl⟩
theorem offB_ex {nk : Int} {d : D} (h : offB nk d = true) : ∃ o : Of, d = o.d ∧ (0 ≤ o.a ∧ o.a < nk) ∧ (0 ≤ o.b ∧ o.b < nk) ∧ o.a ≠ o.b ∧ (1 ≤ o.x ∧ o.x ≤ 30) ∧ (0 ≤ o.y ∧ o.y ≤ 30) := by
  unfold offB at h
  split at h
  · simp only [Bool.and_eq_true, Bool.not_eq_true', decide_eq_false_iff_not] at h
    obtain ⟨h1, h2, h3, h4, h5⟩ := h
    obtain ⟨a, rfl, a0, a1⟩ := btw_true h1
    obtain ⟨b, rfl, b0, b1⟩ := btw_true h2
    obtain ⟨x, rfl, x0, x1⟩ := btw_true h4
    obtain ⟨y, rfl, y0, y1⟩ := btw_true h5
    exact ⟨⟨a, x, b, y⟩, rfl, ⟨a0, by show a < nk; omega⟩, ⟨b0, by show b < nk; omega⟩, h3, ⟨x0, x1⟩, y0, y1⟩
  · cases h
theorem iv_of (o : Of) : iv o.d = [o.a, o.x, o.b, o.y] := rfl
theorem d_of (o : Of) : o.d = .tup ([o.a, o.x, o.b, o.y].map D.int) := rfl
/-- what is wrong with the offers from the i-th one on -/
def beF (nk : Int) (ds : List D) : Nat → Nat → D
  | 0, _ => .non
  | n + 1, i => if offB nk (ds.getD i .non) = false then .tup [.int i, .str "offer"] else if (decide (0 < i) && leI (iv (ds.getD i .non)) (iv (ds.getD (i - 1) .non))) = true then .tup [.int i, .str "order"] else beF nk ds n (i + 1)
def beO (nk : Int) : D → D
  | .tup ds => if 40 < ds.length then .tup [.non, .str "offers"] else beF nk ds ds.length 0
  | _ => .tup [.non, .str "offers"]
def beD : D → D
  | .tup [m, os] => if btw 1 4 m = false then .tup [.non, .str "kinds"] else beO (ixOf m) os
  | _ => .tup [.non, .str "board"]
theorem beD_tup {xs : List D} (h : xs.length ≠ 2) : beD (.tup xs) = .tup [.non, .str "board"] := by
  match xs, h with
  | [], _ => rfl
  | [_], _ => rfl
  | [_, _], h => exact absurd rfl h
  | _ :: _ :: _ :: _, _ => rfl
theorem offB_len {nk : Int} {xs : List D} (h : xs.length ≠ 4) : offB nk (.tup xs) = false := by
  match xs, h with
  | [], _ => rfl
  | [_], _ => rfl
  | [_, _], _ => rfl
  | [_, _, _], _ => rfl
  | [_, _, _, _], h => exact absurd rfl h
  | _ :: _ :: _ :: _ :: _ :: _, _ => rfl
theorem beF_non {nk : Int} {ds : List D} : ∀ {n i : Nat}, beF nk ds n i = .non → ∀ j, i ≤ j → j < i + n → offB nk (ds.getD j .non) = true
  | 0, i, _, j, h1, h2 => by omega
  | n + 1, i, h, j, h1, h2 => by
    unfold beF at h
    split at h
    · cases h
    · rename_i c
      split at h
      · cases h
      · by_cases e : j = i
        · rw [e]
          exact btf c
        · exact beF_non h j (by omega) (by omega)
theorem beD_non {v : D} (h : beD v = .non) : ∃ nk os, v = bd nk os ∧ BO nk os := by
  unfold beD at h
  split at h
  · rename_i m os
    split at h
    · cases h
    · rename_i c
      obtain ⟨nk, rfl, k1, k4⟩ := btw_true (btf c)
      unfold beO at h
      split at h
      · rename_i ds
        split at h
        · cases h
        · rename_i c2
          have ok := beF_non (nk := nk) h
          have ex : ∀ d ∈ ds, ∃ o : Of, d = o.d ∧ (0 ≤ o.a ∧ o.a < nk) ∧ (0 ≤ o.b ∧ o.b < nk) ∧ o.a ≠ o.b ∧ (1 ≤ o.x ∧ o.x ≤ 30) ∧ (0 ≤ o.y ∧ o.y ≤ 30) := fun d hd => by
            obtain ⟨j, hj, e⟩ := List.mem_iff_getElem.mp hd
            have z := ok j (Nat.zero_le _) (by omega)
            rw [List.getD_eq_getElem?_getD, List.getElem?_eq_getElem hj, Option.getD_some, e] at z
            exact offB_ex z
          have all : ∀ l : List D, (∀ d ∈ l, ∃ o : Of, d = o.d ∧ (0 ≤ o.a ∧ o.a < nk) ∧ (0 ≤ o.b ∧ o.b < nk) ∧ o.a ≠ o.b ∧ (1 ≤ o.x ∧ o.x ≤ 30) ∧ (0 ≤ o.y ∧ o.y ≤ 30)) → ∃ os : List Of, l = os.map Of.d ∧ ∀ o ∈ os, (0 ≤ o.a ∧ o.a < nk) ∧ (0 ≤ o.b ∧ o.b < nk) ∧ o.a ≠ o.b ∧ (1 ≤ o.x ∧ o.x ≤ 30) ∧ (0 ≤ o.y ∧ o.y ≤ 30) := by
            intro l
            induction l with
            | nil => exact fun _ => ⟨[], rfl, fun o ho => nomatch ho⟩
            | cons d l ih =>
              intro h
              obtain ⟨o, e, ho⟩ := h d List.mem_cons_self
              obtain ⟨os, e2, hos⟩ := ih fun d hd => h d (List.mem_cons_of_mem _ hd)
              refine ⟨o :: os, by rw [e, e2]; rfl, fun p hp => ?_⟩
              rcases List.mem_cons.mp hp with rfl | hp
              · exact ho
              · exact hos p hp
          obtain ⟨os, rfl, hos⟩ := all ds ex
          rw [List.length_map] at c2
          exact ⟨nk, os, rfl, k1, k4, by omega, hos⟩
      · cases h
  · cases h
/-- a purse of so many kinds -/
def purB (nk : Int) : D → Bool
  | .tup xs => decide ((xs.length : Int) = nk) && xs.all (btw 0 1000000)
  | _ => false
theorem btw_row : ∀ {xs : List D} {lo hi : Int}, xs.all (btw lo hi) = true → ∃ ns : List Int, xs = ns.map D.int ∧ ∀ n ∈ ns, lo ≤ n ∧ n ≤ hi
  | [], _, _, _ => ⟨[], rfl, fun n hn => nomatch hn⟩
  | d :: xs, lo, hi, h => by
    rw [List.all_cons, Bool.and_eq_true] at h
    obtain ⟨n, rfl, n0, n1⟩ := btw_true h.1
    obtain ⟨ns, rfl, hn⟩ := btw_row h.2
    refine ⟨n :: ns, rfl, fun m hm => ?_⟩
    rcases List.mem_cons.mp hm with rfl | hm
    · exact ⟨n0, n1⟩
    · exact hn m hm
theorem purB_ex {nk : Int} {p : D} (h : purB nk p = true) : ∃ ns : List Int, p = .tup (ns.map D.int) ∧ (ns.length : Int) = nk ∧ ∀ n ∈ ns, 0 ≤ n ∧ n ≤ 1000000 := by
  unfold purB at h
  split at h
  · rw [Bool.and_eq_true] at h
    obtain ⟨ns, rfl, hn⟩ := btw_row h.2
    have := of_decide_eq_true h.1
    rw [List.length_map] at this
    exact ⟨ns, rfl, this, hn⟩
  · cases h
theorem lcD_fself (as : List D) (p : D → Bool) (f : D → D) {g : TGd} {tt : TTd} {te : TEd} {vs : List Nat} {E : En} (E0 : En) {Q : List D → En → Prop} (hw : wipeD E vs = E0) (hw2 : wipeD E0 vs = E0) (hs : as.length ≤ sizeLine)
    (step : ∀ a ∈ as, ∀ (R : D → En → Prop) (R' : En → Prop), (p a = true → ∀ E4, wipeD E4 vs = E0 → R (f a) E4) → (p a = false → ∀ E4, wipeD E4 vs = E0 → R' E4) → g a E0 fun E2 => tt E2 fun b E3 => if b = true then te E3 R else R' E3)
    (q : Q ((as.filter p).map f) E0) : lcD as g tt te vs E Q := by
  have z := lcD_flt as (fun d => d) p f (g := g) (tt := tt) (te := te) (vs := vs) (E := E) (Q := Q) E0 hw hw2 hs step q
  rwa [List.map_id'] at z
theorem eqv_nil : ∀ xs : List D, (D.lst xs).eqv (D.lst []) = xs.isEmpty
  | [] => rfl
  | _ :: _ => rfl
def purOk (v : D) : Prop := ∀ xs, v = .tup xs → (D.lst (xs.filter fun d => !btw 0 1000000 d)).ok
theorem flt_emp {p : D → Bool} : ∀ xs : List D, (xs.filter fun d => !p d).isEmpty = xs.all p
  | [] => rfl
  | x :: xs => by
    rw [List.filter_cons, List.all_cons]
    cases h : p x with
    | true => rw [if_neg (by decide), flt_emp xs, Bool.true_and]
    | false => rw [if_pos (by decide), Bool.false_and]; rfl
theorem beF_cases (nk : Int) (ds : List D) : ∀ n i, beF nk ds n i = .non ∨ ∃ a w, beF nk ds n i = .tup [.int a, .str w] ∧ 0 ≤ a ∧ a < i + n ∧ (w = "offer" ∨ w = "order")
  | 0, i => .inl rfl
  | n + 1, i => by
    unfold beF
    split
    · exact .inr ⟨_, _, rfl, by omega, by omega, .inl rfl⟩
    · split
      · exact .inr ⟨_, _, rfl, by omega, by omega, .inr rfl⟩
      · rcases beF_cases nk ds n (i + 1) with h | ⟨a, w, h, a0, a1, hw⟩
        · exact .inl h
        · exact .inr ⟨a, w, h, a0, by omega, hw⟩
theorem beD_cases (v : D) : beD v = .non ∨ (∃ w, beD v = .tup [.non, .str w] ∧ (w = "board" ∨ w = "kinds" ∨ w = "offers")) ∨ ∃ a w, beD v = .tup [.int a, .str w] ∧ 0 ≤ a ∧ a < 40 ∧ (w = "offer" ∨ w = "order") := by
  unfold beD
  split
  · split
    · exact .inr (.inl ⟨_, rfl, .inr (.inl rfl)⟩)
    · unfold beO
      split
      · rename_i ds
        split
        · exact .inr (.inl ⟨_, rfl, .inr (.inr rfl)⟩)
        · rcases beF_cases (ixOf _) ds ds.length 0 with h | ⟨a, w, h, a0, a1, hw⟩
          · exact .inl h
          · exact .inr (.inr ⟨a, w, h, a0, by omega, hw⟩)
      · exact .inr (.inl ⟨_, rfl, .inr (.inr rfl)⟩)
  · exact .inr (.inl ⟨_, rfl, .inl rfl⟩)
theorem beD_tp (v : D) : beD v = .non ∨ ∃ xs, beD v = .tup xs := by
  rcases beD_cases v with h | ⟨w, h, _⟩ | ⟨a, w, h, _⟩
  · exact .inl h
  · exact .inr ⟨_, h⟩
  · exact .inr ⟨_, h⟩

abbrev s__law_is_between : Stmt := top 90
abbrev N__law_is_between : List Str := ["_law_value", "_law_low", "_law_high"]
theorem sc__law_is_between : FnScope N__law_is_between ["_law_value", "_law_low", "_law_high"] (defScope s__law_is_between) := ⟨rfl, rfl, rfl, by decide +kernel, rfl, by decide +kernel, by decide +kernel⟩
def R__law_is_between : D → D → D → (D → Prop) → Prop := fun v x y Q => ∃ (lo hi : Int), x = .int lo ∧ y = .int hi ∧ v.plainK = true ∧ Q (.bl (btw lo hi v))
theorem ok__law_is_between (h__law_is_between : Dfn K mg "_law_is_between" s__law_is_between ["_law_value", "_law_low", "_law_high"]) (B : Bl mg) : Cal P w K mg base CX0 "_law_is_between" 1 ["_law_value", "_law_low", "_law_high"] (liftP K (sp3 R__law_is_between)) := by
  refine cal_pure h__law_is_between sc__law_is_between (by decide) sp3_len ⟨_, fun f cdv A outer s H E hgd hr => (b_one (s_ret (d_and (d_isi B.isinstance (dc (dv 0) (dc (d_ty B.int PyProof.Rows.boot_int) dn))) (d_and (d_not (d_isi B.isinstance (dc (dv 0) (dc (d_ty B.bool PyProof.Rows.boot_bool) dn)))) (d_one (d_chain op_le ok_cmp op_le ok_cmp (dv 1) (dv 0) (dv 2))))))), sp3_by ?_⟩
  rintro v _ _ Q ⟨lo, hi, rfl, rfl, h, q⟩
  cases v with
  | opq _ => cases h
  | pt _ => cases h
  | ps _ => cases h
  | ins _ _ => cases h
  | int i =>
    walk_at "rd"
    have q : Q (.bl (decide (lo ≤ i) && decide (i ≤ hi))) := q
    by_cases c : lo ≤ i
    · rw [decide_eq_true c, Bool.true_and] at q
      rw [if_pos (decide_eq_true c)]
      exact q
    · rw [decide_eq_false c, Bool.false_and] at q
      rw [if_neg fun z => c (of_decide_eq_true z)]
      exact q
  | _ =>
    walk_at "rd"
    exact q
abbrev s_is_offer : Stmt := top 14
abbrev N_is_offer : List Str := ["value", "many", "a", "x", "b", "y"]
theorem sc_is_offer : FnScope N_is_offer ["value", "many"] (defScope s_is_offer) := ⟨rfl, rfl, rfl, by decide +kernel, rfl, by decide +kernel, by decide +kernel⟩
def R_is_offer : D → D → (D → Prop) → Prop := fun v m Q => ∃ nk : Int, m = .int nk ∧ v.plainK = true ∧ Q (.bl (offB nk v))
theorem ok_is_offer (h_is_offer : Dfn K mg "is_offer" s_is_offer ["value", "many"]) (B : Bl mg) (v_MAX_AMOUNT : ∃ t, mg "MAX_AMOUNT" = some (.int 30 t)) (c_is_between : Cal P w K mg base CX0 "is_between" 2 ["value", "low", "high"] (liftP K (sp3 R_is_between))) : Cal P w K mg base CX0 "is_offer" 3 ["value", "many"] (liftP K (sp2 R_is_offer)) := by
  obtain ⟨f_is_between, fd_is_between, C_is_between⟩ := c_is_between
  refine cal_pure h_is_offer sc_is_offer (by decide) sp2_len ⟨_, fun f cdv A outer s H E hgd hr => (b_cons (s_if (t_w (w_or (t_not (t_val (d_isi B.isinstance (dc (dv 0) (dc (d_ty B.tuple PyProof.Rows.boot_tuple) dn))))) (w_or1 (t_ne hr.units (d_lenV 0 B.len) d_int)))) (b_one (s_ret d_bl)) b_nil)
    (b_cons (s_asg (dv 0) (g_tup (n := 4) rfl (gs_cons (g_name (i := 2) sc_is_offer.nd) (gs_cons (g_name (i := 3) sc_is_offer.nd) (gs_cons (g_name (i := 4) sc_is_offer.nd) (gs_cons (g_name (i := 5) sc_is_offer.nd) gs_nil))))))
    (b_cons (s_if (t_w (w_or (t_not (t_val (d_call C_is_between.fn hgd hr C_is_between.mg C_is_between.kp C_is_between.bd pass0 (dc (dv 2) (dc d_int (dc (d_sub (dv 1) d_int) dn)))))) (w_or (t_not (t_val (d_call C_is_between.fn hgd hr C_is_between.mg C_is_between.kp C_is_between.bd pass0 (dc (dv 4) (dc d_int (dc (d_sub (dv 1) d_int) dn)))))) (w_or1 (t_eq hr.units (dv 2) (dv 4)))))) (b_one (s_ret d_bl)) b_nil)
    (b_one (s_ret (d_and (d_call C_is_between.fn hgd hr C_is_between.mg C_is_between.kp C_is_between.bd pass0 (dc (dv 3) (dc d_int (dc (d_globI v_MAX_AMOUNT) dn)))) (d_one (d_call C_is_between.fn hgd hr C_is_between.mg C_is_between.kp C_is_between.bd pass0 (dc (dv 5) (dc d_int (dc (d_globI v_MAX_AMOUNT) dn))))))))))), sp2_by ?_⟩
  rintro v _ Q ⟨nk, rfl, h, q⟩
  cases v with
  | opq _ => cases h
  | pt _ => cases h
  | ps _ => cases h
  | ins _ _ => cases h
  | tup xs =>
    have pl := plainKL_all (show D.plainKL xs = true from h)
    by_cases c : xs.length = 4
    · obtain ⟨a, x, b, y, rfl⟩ := four c
      have q : Q (.bl (btw 0 (nk - 1) a && (btw 0 (nk - 1) b && (!decide (ixOf a = ixOf b) && (btw 1 30 x && btw 0 30 y))))) := q
      clear c
      refine seq_intro fun k hk => ?_
      walk_at "rd"
      refine ite_nby (fun z => absurd rfl z) fun _ => ?_
      subst hk
      refine seq_intro fun k hk => ?_
      walk_at "rd"
      subst hk
      refine seq_intro fun k hk => ?_
      walk_at "rd"
      refine ⟨0, nk - 1, rfl, rfl, pl _ (by simp), ?_⟩
      walk_at "rd"
      cases c1 : btw 0 (nk - 1) a with
      | false =>
        rw [c1] at q
        exact q
      | true =>
        rw [c1] at q
        walk_at "rd"
        refine ⟨0, nk - 1, rfl, rfl, pl _ (by simp), ?_⟩
        walk_at "rd"
        cases c2 : btw 0 (nk - 1) b with
        | false =>
          rw [c2] at q
          exact q
        | true =>
          rw [c2] at q
          obtain ⟨av, rfl, _, _⟩ := btw_true c1
          obtain ⟨bv, rfl, _, _⟩ := btw_true c2
          have q : Q (.bl (!decide (av = bv) && (btw 1 30 x && btw 0 30 y))) := q
          walk_at "rd"
          refine ite_by (fun c => ?_) fun c => ?_
          · rw [decide_eq_true c] at q
            exact q
          · rw [decide_eq_false c] at q
            subst hk
            walk_at "rd"
            refine ⟨1, 30, rfl, rfl, pl _ (by simp), ?_⟩
            cases c3 : btw 1 30 x with
            | false =>
              rw [c3] at q
              walk_at "rd"
              exact q
            | true =>
              rw [c3] at q
              walk_at "rd"
              refine ⟨0, 30, rfl, rfl, pl _ (by simp), ?_⟩
              exact q
    · rw [offB_len c] at q
      refine seq_intro fun k hk => ?_
      walk_at "rd"
      exact ite_nby (fun _ => q) fun z => absurd (Int.ofNat_inj.mp z) c
  | _ =>
    refine seq_intro fun k hk => ?_
    walk_at "rd"
    exact q
abbrev s_board_error : Stmt := top 15
abbrev N_board_error : List Str := ["value", "many", "offers", "index", "offer"]
theorem sc_board_error : FnScope N_board_error ["value"] (defScope s_board_error) := ⟨rfl, rfl, rfl, by decide +kernel, rfl, by decide +kernel, by decide +kernel⟩
def R_board_error : D → (D → Prop) → Prop := fun v Q => v.plainK = true ∧ Q (beD v)
theorem ok_board_error (h_board_error : Dfn K mg "board_error" s_board_error ["value"]) (B : Bl mg) (v_MAX_KINDS : ∃ t, mg "MAX_KINDS" = some (.int 4 t)) (v_MAX_OFFERS : ∃ t, mg "MAX_OFFERS" = some (.int 40 t)) (c_is_between : Cal P w K mg base CX0 "is_between" 2 ["value", "low", "high"] (liftP K (sp3 R_is_between))) (c_is_offer : Cal P w K mg base CX0 "is_offer" 3 ["value", "many"] (liftP K (sp2 R_is_offer))) : Cal P w K mg base CX0 "board_error" 4 ["value"] (liftP K (sp1 R_board_error)) := by
  obtain ⟨f_is_between, fd_is_between, C_is_between⟩ := c_is_between
  obtain ⟨f_is_offer, fd_is_offer, C_is_offer⟩ := c_is_offer
  refine cal_pure h_board_error sc_board_error (by decide) sp1_len ⟨_, fun f cdv A outer s H E hgd hr => (b_cons (s_if (t_w (w_or (t_not (t_val (d_isi B.isinstance (dc (dv 0) (dc (d_ty B.tuple PyProof.Rows.boot_tuple) dn))))) (w_or1 (t_ne hr.units (d_lenV 0 B.len) d_int)))) (b_one (s_ret (d_tup (dc d_non (dc d_str dn))))) b_nil)
    (b_cons (s_asg (dv 0) (g_tup (n := 2) rfl (gs_cons (g_name (i := 1) sc_board_error.nd) (gs_cons (g_name (i := 2) sc_board_error.nd) gs_nil))))
    (b_cons (s_if (t_not (t_val (d_call C_is_between.fn hgd (hr.mono (by decide)) C_is_between.mg C_is_between.kp C_is_between.bd pass0 (dc (dv 1) (dc d_int (dc (d_globI v_MAX_KINDS) dn)))))) (b_one (s_ret (d_tup (dc d_non (dc d_str dn))))) b_nil)
    (b_cons (s_if (t_w (w_or (t_not (t_val (d_isi B.isinstance (dc (dv 2) (dc (d_ty B.tuple PyProof.Rows.boot_tuple) dn))))) (w_or1 (t_gt (d_lenV 2 B.len) (d_globI v_MAX_OFFERS))))) (b_one (s_ret (d_tup (dc d_non (dc d_str dn))))) b_nil)
    (b_cons (s_for PassesOwn.never rfl (i_enumT B.enumerate (dc (dv 2) dn)) (g_tup (n := 2) rfl (gs_cons (g_name (i := 3) sc_board_error.nd) (gs_cons (g_name (i := 4) sc_board_error.nd) gs_nil))) (b_cons (s_if (t_not (t_val (d_call C_is_offer.fn hgd hr C_is_offer.mg C_is_offer.kp C_is_offer.bd pass0 (dc (dv 4) (dc (dv 1) dn))))) (b_one (s_ret (d_tup (dc (dv 3) (dc d_str dn))))) b_nil)
    (b_one (s_if (t_w (w_and (t_gt (dv 3) d_int) (w_and1 (t_leT (Nat.lt_of_succ_lt hr.units1) (dv 4) (d_ixV 2 (d_sub (dv 3) d_int)))))) (b_one (s_ret (d_tup (dc (dv 3) (dc d_str dn))))) b_nil))))
    (b_one (s_ret d_non))))))), sp1_by ?_⟩
  rintro v Q ⟨h, q⟩
  cases v with
  | opq _ => cases h
  | pt _ => cases h
  | ps _ => cases h
  | ins _ _ => cases h
  | tup xs =>
    have pl := plainKL_all (show D.plainKL xs = true from h)
    by_cases c : xs.length = 2
    · obtain ⟨m, os, rfl⟩ := two_ c
      have q : Q (if btw 1 4 m = false then .tup [.non, .str "kinds"] else beO (ixOf m) os) := q
      clear c
      refine seq_intro fun k hk => ?_
      walk_at "rd"
      refine ite_nby (fun z => absurd rfl z) fun _ => ?_
      subst hk
      refine seq_intro fun k hk => ?_
      walk_at "rd"
      subst hk
      refine seq_intro fun k hk => ?_
      walk_at "rd"
      refine ⟨1, 4, rfl, rfl, pl _ (by simp), ?_⟩
      walk_at "rd"
      cases c1 : btw 1 4 m with
      | false =>
        rw [c1, if_pos rfl] at q
        walk_at "rd"
        exact ⟨by decide, q⟩
      | true =>
        rw [c1, if_neg (by decide)] at q
        walk_at "rd"
        obtain ⟨nk, rfl, k1, k4⟩ := btw_true c1
        have q : Q (beO nk os) := q
        have po := pl os (by simp)
        subst hk
        refine seq_intro fun k hk => ?_
        cases os with
        | opq _ => cases po
        | pt _ => cases po
        | ps _ => cases po
        | ins _ _ => cases po
        | tup ds =>
          have po := plainKL_all (show D.plainKL ds = true from po)
          have q : Q (if 40 < ds.length then .tup [.non, .str "offers"] else beF nk ds ds.length 0) := q
          walk_at "rd"
          refine ite_by (fun c => ?_) fun c => ?_
          · rw [if_pos (by omega)] at q
            exact ⟨by decide, q⟩
          rw [if_neg (by omega)] at q
          subst hk
          refine seq_intro fun k hk => ?_
          walk_at "rd"
          refine ⟨fun j E => ∃ s3 s4 : Sl, (s3.free ∧ s4.free) ∧ (∀ i, i < j → offB nk (ds.getD i .non) = true) ∧ j ≤ ds.length ∧ Q (beF nk ds (ds.length - j) j) ∧ E = [.fz (.tup [.int nk, .tup ds]), .fz (.int nk), .fz (.tup ds), s3, s4], ⟨.un, .un, ⟨True.intro, True.intro⟩, fun i hi => absurd hi (Nat.not_lt_zero _), Nat.zero_le _, by rw [Nat.sub_zero]; exact q, rfl⟩, ?_, ?_⟩
          · rintro j y _ hj ⟨s3, s4, ⟨f3, f4⟩, ho, _, q, rfl⟩
            obtain ⟨d, ed, rfl⟩ := enum_get hj
            have jl := (List.getElem?_eq_some_iff.mp ed).1
            have gd : ds.getD j .non = d := by
              rw [List.getD_eq_getElem?_getD, ed]
              rfl
            have dm := List.mem_of_getElem? ed
            rw [show ds.length - j = (ds.length - (j + 1)) + 1 by omega] at q
            unfold beF at q
            rw [gd] at q
            clear hk
            walk_at "rd"
            refine ⟨f3, f4, ?_⟩
            refine ⟨nk, rfl, po d dm, ?_⟩
            cases c1 : offB nk d with
            | false =>
              rw [c1, if_pos rfl] at q
              walk_at "rd"
              exact ⟨by decide, q⟩
            | true =>
              rw [c1, if_neg (by decide)] at q
              walk_at "rd"
              have nx : ∀ _ : Q (beF nk ds (ds.length - (j + 1)) (j + 1)), ∃ s3 s4 : Sl, (s3.free ∧ s4.free) ∧ (∀ i, i < j + 1 → offB nk (ds.getD i .non) = true) ∧ j + 1 ≤ ds.length ∧ Q (beF nk ds (ds.length - (j + 1)) (j + 1)) ∧ [Sl.fz (D.tup [D.int nk, D.tup ds]), Sl.fz (D.int nk), Sl.fz (D.tup ds), Sl.fz (D.int j), Sl.fz d] = [Sl.fz (D.tup [D.int nk, D.tup ds]), Sl.fz (D.int nk), Sl.fz (D.tup ds), s3, s4] := fun q' => ⟨.fz (.int j), .fz d, ⟨True.intro, True.intro⟩, fun i hi => by
                by_cases e : i = j
                · rw [e, gd]
                  exact c1
                · exact ho i (by omega), by omega, q', rfl⟩
              refine ite_by (fun c => ?_) fun c => ?_
              · have j0 : 0 < j := by omega
                have hp := ho (j - 1) (by omega)
                obtain ⟨o, eo, _⟩ := offB_ex c1
                obtain ⟨p, ep, _⟩ := offB_ex hp
                have ea : atI ds ((j : Int) - 1) = some p.d := by
                  rw [show (j : Int) - 1 = ((j - 1 : Nat) : Int) by omega]
                  rw [List.getD_eq_getElem?_getD, List.getElem?_eq_getElem (by omega)] at ep
                  exact atI_nat (by rw [List.getElem?_eq_getElem (by omega)]; exact congrArg some ep)
                rw [ea]
                dsimp only
                refine ⟨_, _, eo.trans (d_of o), d_of p, ?_⟩
                rw [decide_eq_true j0, Bool.true_and, ep, eo, iv_of, iv_of] at q
                by_cases e : leI [o.a, o.x, o.b, o.y] [p.a, p.x, p.b, p.y] = true
                · rw [if_pos e] at q
                  rw [if_pos e]
                  exact ⟨by decide, q⟩
                · rw [if_neg e] at q
                  rw [if_neg e]
                  exact nx q
              · have j0 : ¬ 0 < j := by omega
                rw [decide_eq_false j0, Bool.false_and, if_neg (by decide)] at q
                exact nx q
          · rintro _ ⟨s3, s4, _, _, _, q, rfl⟩
            rw [enumL_len, Nat.sub_self] at q
            subst hk
            walk_at "rd"
            exact q
        | _ =>
          walk_at "rd"
          exact ⟨by decide, q⟩
    · rw [beD_tup c] at q
      refine seq_intro fun k hk => ?_
      walk_at "rd"
      exact ite_nby (fun _ => ⟨by decide, q⟩) fun z => absurd (Int.ofNat_inj.mp z) c
  | _ =>
    refine seq_intro fun k hk => ?_
    walk_at "rd"
    exact ⟨by decide, q⟩
abbrev s_is_purse : Stmt := top 16
abbrev N_is_purse : List Str := ["value", "many", "amount"]
theorem sc_is_purse : FnScope N_is_purse ["value", "many"] (defScope s_is_purse) := ⟨rfl, rfl, rfl, by decide +kernel, rfl, by decide +kernel, by decide +kernel⟩
def R_is_purse : D → D → (D → Prop) → Prop := fun v m Q => ∃ nk : Int, m = .int nk ∧ nk ≤ 4 ∧ v.plainK = true ∧ Q (.bl (purB nk v))
theorem ok_is_purse (h_is_purse : Dfn K mg "is_purse" s_is_purse ["value", "many"]) (B : Bl mg) (v_MAX_PURSE : ∃ t, mg "MAX_PURSE" = some (.int 1000000 t)) (c_is_between : Cal P w K mg base CX0 "is_between" 2 ["value", "low", "high"] (liftP K (sp3 R_is_between))) : Cal P w K mg base CX0 "is_purse" 3 ["value", "many"] (liftP K (sp2 R_is_purse)) := by
  obtain ⟨f_is_between, fd_is_between, C_is_between⟩ := c_is_between
  refine cal_pure h_is_purse sc_is_purse (by decide) sp2_len ⟨_, fun f cdv A outer s H E hgd hr => (b_cons (s_if (t_w (w_or (t_not (t_val (d_isi B.isinstance (dc (dv 0) (dc (d_ty B.tuple PyProof.Rows.boot_tuple) dn))))) (w_or1 (t_ne hr.units (d_lenV 0 B.len) (dv 1))))) (b_one (s_ret d_bl)) b_nil)
    (b_one (s_ret (d_all rfl B.all (dc (d_lc (own := [("amount", 2)]) rfl sc_is_purse.nd (i_seq (dv 0)) (blkOk_by (N := N_is_purse) (sc := defScope s_is_purse) (by decide +kernel)) (fun _ _ _ _ _ => (c_name (i := 2) sc_is_purse.nd)) (fun _ _ _ _ _ => ts_nil) (fun _ _ _ _ _ => (d_call C_is_between.fn hgd hr C_is_between.mg C_is_between.kp C_is_between.bd pass0 (dc (dv 2) (dc d_int (dc (d_globI v_MAX_PURSE) dn)))))) dn))))), sp2_by ?_⟩
  rintro v _ Q ⟨nk, rfl, k4, h, q⟩
  cases v with
  | opq _ => cases h
  | pt _ => cases h
  | ps _ => cases h
  | ins _ _ => cases h
  | tup xs =>
    have pl := plainKL_all (show D.plainKL xs = true from h)
    have q : Q (.bl (decide ((xs.length : Int) = nk) && xs.all (btw 0 1000000))) := q
    refine seq_intro fun k hk => ?_
    walk_at "rd"
    refine ite_nby (fun c => ?_) fun c => ?_
    · rw [decide_eq_false c] at q
      exact q
    · rw [decide_eq_true c, Bool.true_and] at q
      subst hk
      walk_at "rd"
      refine lcD_self xs (fun d => .bl (btw 0 1000000 d)) _ rfl rfl (small_le (by omega)) (fun d hd R hR => ?_) ?_
      · walk_at "rd"
        exact ⟨0, 1000000, rfl, rfl, pl d hd, hR _ rfl⟩
      walk_at "rd"
      refine ⟨xs.map (btw 0 1000000), by rw [List.map_map]; rfl, ?_⟩
      rw [List.all_map, show (id ∘ btw 0 1000000) = btw 0 1000000 from rfl]
      exact q
  | _ =>
    refine seq_intro fun k hk => ?_
    walk_at "rd"
    exact q
abbrev s__law_is_offer : Stmt := top 91
abbrev N__law_is_offer : List Str := ["_law_value", "_law_many"]
theorem sc__law_is_offer : FnScope N__law_is_offer ["_law_value", "_law_many"] (defScope s__law_is_offer) := ⟨rfl, rfl, rfl, by decide +kernel, rfl, by decide +kernel, by decide +kernel⟩
def R__law_is_offer : D → D → (D → Prop) → Prop := fun v m Q => ∃ nk : Int, m = .int nk ∧ v.plainK = true ∧ Q (.bl (offB nk v))
theorem ok__law_is_offer (h__law_is_offer : Dfn K mg "_law_is_offer" s__law_is_offer ["_law_value", "_law_many"]) (B : Bl mg) (c__law_is_between : Cal P w K mg base CX0 "_law_is_between" 1 ["_law_value", "_law_low", "_law_high"] (liftP K (sp3 R__law_is_between))) : Cal P w K mg base CX0 "_law_is_offer" 2 ["_law_value", "_law_many"] (liftP K (sp2 R__law_is_offer)) := by
  obtain ⟨f__law_is_between, fd__law_is_between, C__law_is_between⟩ := c__law_is_between
  refine cal_pure h__law_is_offer sc__law_is_offer (by decide) sp2_len ⟨_, fun f cdv A outer s H E hgd hr => (b_cons (s_if (t_w (w_or (t_not (t_val (d_isi B.isinstance (dc (dv 0) (dc (d_ty B.tuple PyProof.Rows.boot_tuple) dn))))) (w_or1 (t_ne hr.units (d_lenV 0 B.len) d_int)))) (b_one (s_ret d_bl)) b_nil)
    (b_cons (s_if (t_w (w_or (t_not (t_val (d_call C__law_is_between.fn hgd hr C__law_is_between.mg C__law_is_between.kp C__law_is_between.bd pass0 (dc (d_ixV 0 d_int) (dc d_int (dc (d_sub (dv 1) d_int) dn)))))) (w_or1 (t_not (t_val (d_call C__law_is_between.fn hgd hr C__law_is_between.mg C__law_is_between.kp C__law_is_between.bd pass0 (dc (d_ixV 0 d_int) (dc d_int (dc (d_sub (dv 1) d_int) dn))))))))) (b_one (s_ret d_bl)) b_nil)
    (b_one (s_ret (d_and (d_ne hr.units (d_ixV 0 d_int) (d_ixV 0 d_int)) (d_and (d_call C__law_is_between.fn hgd hr C__law_is_between.mg C__law_is_between.kp C__law_is_between.bd pass0 (dc (d_ixV 0 d_int) (dc d_int (dc d_int dn)))) (d_one (d_call C__law_is_between.fn hgd hr C__law_is_between.mg C__law_is_between.kp C__law_is_between.bd pass0 (dc (d_ixV 0 d_int) (dc d_int (dc d_int dn))))))))))), sp2_by ?_⟩
  rintro v _ Q ⟨nk, rfl, h, q⟩
  cases v with
  | opq _ => cases h
  | pt _ => cases h
  | ps _ => cases h
  | ins _ _ => cases h
  | tup xs =>
    have pl := plainKL_all (show D.plainKL xs = true from h)
    by_cases c : xs.length = 4
    · obtain ⟨a, x, b, y, rfl⟩ := four c
      have q : Q (.bl (btw 0 (nk - 1) a && (btw 0 (nk - 1) b && (!decide (ixOf a = ixOf b) && (btw 1 30 x && btw 0 30 y))))) := q
      clear c
      refine seq_intro fun k hk => ?_
      walk_at "rd"
      refine ite_nby (fun z => absurd rfl z) fun _ => ?_
      subst hk
      refine seq_intro fun k hk => ?_
      walk_at "rd"
      refine ⟨0, nk - 1, rfl, rfl, pl _ (by simp), ?_⟩
      walk_at "rd"
      cases c1 : btw 0 (nk - 1) a with
      | false =>
        rw [c1] at q
        exact q
      | true =>
        rw [c1] at q
        walk_at "rd"
        refine ⟨0, nk - 1, rfl, rfl, pl _ (by simp), ?_⟩
        walk_at "rd"
        cases c2 : btw 0 (nk - 1) b with
        | false =>
          rw [c2] at q
          exact q
        | true =>
          rw [c2] at q
          obtain ⟨av, rfl, _, _⟩ := btw_true c1
          obtain ⟨bv, rfl, _, _⟩ := btw_true c2
          have q : Q (.bl (!decide (av = bv) && (btw 1 30 x && btw 0 30 y))) := q
          walk_at "rd"
          subst hk
          walk_at "rd"
          by_cases c : av = bv
          · rw [decide_eq_true c] at q
            rw [decide_eq_true c, if_neg (by decide)]
            exact q
          · rw [decide_eq_false c] at q
            rw [decide_eq_false c, if_pos (by decide)]
            refine ⟨1, 30, rfl, rfl, pl _ (by simp), ?_⟩
            cases c3 : btw 1 30 x with
            | false =>
              rw [c3] at q
              walk_at "rd"
              exact q
            | true =>
              rw [c3] at q
              walk_at "rd"
              refine ⟨0, 30, rfl, rfl, pl _ (by simp), ?_⟩
              exact q
    · rw [offB_len c] at q
      refine seq_intro fun k hk => ?_
      walk_at "rd"
      exact ite_nby (fun _ => q) fun z => absurd (Int.ofNat_inj.mp z) c
  | _ =>
    refine seq_intro fun k hk => ?_
    walk_at "rd"
    exact q
abbrev s__law_board_error : Stmt := top 92
abbrev N__law_board_error : List Str := ["_law_value", "_law_k"]
theorem sc__law_board_error : FnScope N__law_board_error ["_law_value"] (defScope s__law_board_error) := ⟨rfl, rfl, rfl, by decide +kernel, rfl, by decide +kernel, by decide +kernel⟩
def R__law_board_error : D → (D → Prop) → Prop := fun v Q => v.plainK = true ∧ Q (beD v)
theorem ok__law_board_error (h__law_board_error : Dfn K mg "_law_board_error" s__law_board_error ["_law_value"]) (B : Bl mg) (c__law_is_between : Cal P w K mg base CX0 "_law_is_between" 1 ["_law_value", "_law_low", "_law_high"] (liftP K (sp3 R__law_is_between))) (c__law_is_offer : Cal P w K mg base CX0 "_law_is_offer" 2 ["_law_value", "_law_many"] (liftP K (sp2 R__law_is_offer))) : Cal P w K mg base CX0 "_law_board_error" 3 ["_law_value"] (liftP K (sp1 R__law_board_error)) := by
  obtain ⟨f__law_is_between, fd__law_is_between, C__law_is_between⟩ := c__law_is_between
  obtain ⟨f__law_is_offer, fd__law_is_offer, C__law_is_offer⟩ := c__law_is_offer
  refine cal_pure h__law_board_error sc__law_board_error (by decide) sp1_len ⟨_, fun f cdv A outer s H E hgd hr => (b_cons (s_if (t_w (w_or (t_not (t_val (d_isi B.isinstance (dc (dv 0) (dc (d_ty B.tuple PyProof.Rows.boot_tuple) dn))))) (w_or1 (t_ne hr.units (d_lenV 0 B.len) d_int)))) (b_one (s_ret (d_tup (dc d_non (dc d_str dn))))) b_nil)
    (b_cons (s_if (t_not (t_val (d_call C__law_is_between.fn hgd (hr.mono (by decide)) C__law_is_between.mg C__law_is_between.kp C__law_is_between.bd pass0 (dc (d_ixV 0 d_int) (dc d_int (dc d_int dn)))))) (b_one (s_ret (d_tup (dc d_non (dc d_str dn))))) b_nil)
    (b_cons (s_if (t_w (w_or (t_not (t_val (d_isi B.isinstance (dc (d_ixV 0 d_int) (dc (d_ty B.tuple PyProof.Rows.boot_tuple) dn))))) (w_or1 (t_gt (d_len B.len (dc (d_ixV 0 d_int) dn)) d_int)))) (b_one (s_ret (d_tup (dc d_non (dc d_str dn))))) b_nil)
    (b_cons (s_for PassesOwn.never rfl (i_range1 B.range (dc (d_len B.len (dc (d_ixV 0 d_int) dn)) dn)) (g_name (i := 1) sc__law_board_error.nd) (b_cons (s_if (t_not (t_val (d_call C__law_is_offer.fn hgd hr C__law_is_offer.mg C__law_is_offer.kp C__law_is_offer.bd pass0 (dc (d_ix (d_ixV 0 d_int) (dv 1)) (dc (d_ixV 0 d_int) dn))))) (b_one (s_ret (d_tup (dc (dv 1) (dc d_str dn))))) b_nil)
    (b_one (s_if (t_w (w_and (t_gt (dv 1) d_int) (w_and1 (t_not (t_gtT (Nat.lt_of_succ_lt hr.units1) (d_ix (d_ixV 0 d_int) (dv 1)) (d_ix (d_ixV 0 d_int) (d_sub (dv 1) d_int))))))) (b_one (s_ret (d_tup (dc (dv 1) (dc d_str dn))))) b_nil))))
    (b_one (s_ret d_non)))))), sp1_by ?_⟩
  rintro v Q ⟨h, q⟩
  cases v with
  | opq _ => cases h
  | pt _ => cases h
  | ps _ => cases h
  | ins _ _ => cases h
  | tup xs =>
    have pl := plainKL_all (show D.plainKL xs = true from h)
    by_cases c : xs.length = 2
    · obtain ⟨m, os, rfl⟩ := two_ c
      have q : Q (if btw 1 4 m = false then .tup [.non, .str "kinds"] else beO (ixOf m) os) := q
      clear c
      refine seq_intro fun k hk => ?_
      walk_at "rd"
      refine ite_nby (fun z => absurd rfl z) fun _ => ?_
      subst hk
      refine seq_intro fun k hk => ?_
      walk_at "rd"
      refine ⟨1, 4, rfl, rfl, pl _ (by simp), ?_⟩
      walk_at "rd"
      cases c1 : btw 1 4 m with
      | false =>
        rw [c1, if_pos rfl] at q
        walk_at "rd"
        exact ⟨by decide, q⟩
      | true =>
        rw [c1, if_neg (by decide)] at q
        walk_at "rd"
        obtain ⟨nk, rfl, k1, k4⟩ := btw_true c1
        have q : Q (beO nk os) := q
        have po := pl os (by simp)
        subst hk
        refine seq_intro fun k hk => ?_
        cases os with
        | opq _ => cases po
        | pt _ => cases po
        | ps _ => cases po
        | ins _ _ => cases po
        | tup ds =>
          have po := plainKL_all (show D.plainKL ds = true from po)
          have q : Q (if 40 < ds.length then .tup [.non, .str "offers"] else beF nk ds ds.length 0) := q
          walk_at "rd"
          refine ite_by (fun c => ?_) fun c => ?_
          · rw [if_pos (by omega)] at q
            exact ⟨by decide, q⟩
          rw [if_neg (by omega)] at q
          subst hk
          refine seq_intro fun k hk => ?_
          walk_at "rd"
          have e62 : (2 : Int) ^ 62 = 4611686018427387904 := by decide
          refine ⟨⟨by omega, by omega⟩, ?_⟩
          rw [Int.toNat_natCast]
          refine ⟨fun j E => ∃ s3 : Sl, s3.free ∧ (∀ i, i < j → offB nk (ds.getD i .non) = true) ∧ j ≤ ds.length ∧ Q (beF nk ds (ds.length - j) j) ∧ E = [.fz (.tup [.int nk, .tup ds]), s3], ⟨.un, True.intro, fun i hi => absurd hi (Nat.not_lt_zero _), Nat.zero_le _, by rw [Nat.sub_zero]; exact q, rfl⟩, ?_, ?_⟩
          · rintro j y _ hj ⟨s3, f3, ho, _, q, rfl⟩
            obtain ⟨jl, rfl⟩ := rngD_inv hj
            obtain ⟨d, ed⟩ : ∃ d, ds[j]? = some d := ⟨ds[j], List.getElem?_eq_getElem (by omega)⟩
            have jl := (List.getElem?_eq_some_iff.mp ed).1
            have gd : ds.getD j .non = d := by
              rw [List.getD_eq_getElem?_getD, ed]
              rfl
            have dm := List.mem_of_getElem? ed
            have ad : atI ds ((0 : Int) + j) = some d := by
              rw [Int.zero_add]
              exact atI_nat ed
            rw [show ds.length - j = (ds.length - (j + 1)) + 1 by omega] at q
            unfold beF at q
            rw [gd] at q
            clear hk
            refine ⟨f3, ?_⟩
            walk_at "rd"
            rw [ad]
            walk_at "rd"
            refine ⟨nk, rfl, po d dm, ?_⟩
            cases c1 : offB nk d with
            | false =>
              rw [c1, if_pos rfl] at q
              walk_at "rd"
              rw [Int.zero_add]
              exact ⟨by decide, q⟩
            | true =>
              rw [c1, if_neg (by decide)] at q
              walk_at "rd"
              rw [Int.zero_add]
              have nx : ∀ _ : Q (beF nk ds (ds.length - (j + 1)) (j + 1)), ∃ s3 : Sl, s3.free ∧ (∀ i, i < j + 1 → offB nk (ds.getD i .non) = true) ∧ j + 1 ≤ ds.length ∧ Q (beF nk ds (ds.length - (j + 1)) (j + 1)) ∧ [Sl.fz (D.tup [D.int nk, D.tup ds]), Sl.fz (D.int j)] = [Sl.fz (D.tup [D.int nk, D.tup ds]), s3] := fun q' => ⟨.fz (.int j), True.intro, fun i hi => by
                by_cases e : i = j
                · rw [e, gd]
                  exact c1
                · exact ho i (by omega), by omega, q', rfl⟩
              refine ite_by (fun c => ?_) fun c => ?_
              · have j0 : 0 < j := by omega
                have hp := ho (j - 1) (by omega)
                obtain ⟨o, eo, _⟩ := offB_ex c1
                obtain ⟨p, ep, _⟩ := offB_ex hp
                have ea : atI ds ((j : Int) - 1) = some p.d := by
                  rw [show (j : Int) - 1 = ((j - 1 : Nat) : Int) by omega]
                  rw [List.getD_eq_getElem?_getD, List.getElem?_eq_getElem (by omega)] at ep
                  exact atI_nat (by rw [List.getElem?_eq_getElem (by omega)]; exact congrArg some ep)
                rw [ea]
                dsimp only
                refine ⟨_, _, eo.trans (d_of o), d_of p, ?_⟩
                rw [decide_eq_true j0, Bool.true_and, ep, eo, iv_of, iv_of, le_gt] at q
                cases e : gtI [o.a, o.x, o.b, o.y] [p.a, p.x, p.b, p.y] with
                | false =>
                  rw [e, if_pos (by decide)] at q
                  rw [if_pos (by decide)]
                  exact ⟨by decide, q⟩
                | true =>
                  rw [e, if_neg (by decide)] at q
                  rw [if_neg (by decide)]
                  exact nx q
              · have j0 : ¬ 0 < j := by omega
                rw [decide_eq_false j0, Bool.false_and, if_neg (by decide)] at q
                exact nx q
          · rintro _ ⟨s3, _, _, _, q, rfl⟩
            rw [rngD_len, Nat.sub_self] at q
            subst hk
            walk_at "rd"
            exact q
        | _ =>
          walk_at "rd"
          exact ⟨by decide, q⟩
    · rw [beD_tup c] at q
      refine seq_intro fun k hk => ?_
      walk_at "rd"
      exact ite_nby (fun _ => ⟨by decide, q⟩) fun z => absurd (Int.ofNat_inj.mp z) c
  | _ =>
    refine seq_intro fun k hk => ?_
    walk_at "rd"
    exact ⟨by decide, q⟩
abbrev s__law_is_purse : Stmt := top 99
abbrev N__law_is_purse : List Str := ["_law_value", "_law_many", "_law_amount"]
theorem sc__law_is_purse : FnScope N__law_is_purse ["_law_value", "_law_many"] (defScope s__law_is_purse) := ⟨rfl, rfl, rfl, by decide +kernel, rfl, by decide +kernel, by decide +kernel⟩
def R__law_is_purse : D → D → (D → Prop) → Prop := fun v m Q => ∃ nk : Int, m = .int nk ∧ nk ≤ 4 ∧ v.plainK = true ∧ purOk v ∧ Q (.bl (purB nk v))
theorem ok__law_is_purse (h__law_is_purse : Dfn K mg "_law_is_purse" s__law_is_purse ["_law_value", "_law_many"]) (B : Bl mg) (c__law_is_between : Cal P w K mg base CX0 "_law_is_between" 1 ["_law_value", "_law_low", "_law_high"] (liftP K (sp3 R__law_is_between))) : Cal P w K mg base CX0 "_law_is_purse" 2 ["_law_value", "_law_many"] (liftP K (sp2 R__law_is_purse)) := by
  obtain ⟨f__law_is_between, fd__law_is_between, C__law_is_between⟩ := c__law_is_between
  refine cal_pure h__law_is_purse sc__law_is_purse (by decide) sp2_len ⟨_, fun f cdv A outer s H E hgd hr => (b_cons (s_if (t_w (w_or (t_not (t_val (d_isi B.isinstance (dc (dv 0) (dc (d_ty B.tuple PyProof.Rows.boot_tuple) dn))))) (w_or1 (t_ne hr.units (d_lenV 0 B.len) (dv 1))))) (b_one (s_ret d_bl)) b_nil)
    (b_one (s_ret (d_eq hr.units (d_lc (own := [("_law_amount", 2)]) rfl sc__law_is_purse.nd (i_seq (dv 0)) (blkOk_by (N := N__law_is_purse) (sc := defScope s__law_is_purse) (by decide +kernel)) (fun _ _ _ _ _ => (c_name (i := 2) sc__law_is_purse.nd)) (fun _ _ _ _ _ => (ts_one (t_not (t_val (d_call C__law_is_between.fn hgd hr C__law_is_between.mg C__law_is_between.kp C__law_is_between.bd pass0 (dc (dv 2) (dc d_int (dc (d_pow d_int d_int) dn)))))))) (fun _ _ _ _ _ => (dv 2))) (d_lst dn))))), sp2_by ?_⟩
  rintro v _ Q ⟨nk, rfl, k4, h, ho, q⟩
  cases v with
  | opq _ => cases h
  | pt _ => cases h
  | ps _ => cases h
  | ins _ _ => cases h
  | tup xs =>
    have pl := plainKL_all (show D.plainKL xs = true from h)
    have q : Q (.bl (decide ((xs.length : Int) = nk) && xs.all (btw 0 1000000))) := q
    refine seq_intro fun k hk => ?_
    walk_at "rd"
    refine ite_nby (fun c => ?_) fun c => ?_
    · rw [decide_eq_false c] at q
      exact q
    · rw [decide_eq_true c, Bool.true_and] at q
      subst hk
      walk_at "rd"
      refine lcD_fself xs (fun d => !btw 0 1000000 d) (fun d => d) _ rfl rfl (small_le (by omega)) (fun d hd R R' h1 h2 => ?_) ?_
      · walk_at "rd"
        refine ⟨cpow (by decide) (by decide) (by decide) (by decide), 0, 1000000, rfl, rfl, pl d hd, ?_⟩
        cases c3 : btw 0 1000000 d with
        | true =>
          walk_at "rd"
          exact h2 (by rw [c3]; rfl) _ rfl
        | false =>
          walk_at "rd"
          exact h1 (by rw [c3]; rfl) _ rfl
      rw [List.map_id']
      refine ⟨by decide, ho xs rfl, ok_lints [], ?_⟩
      first | rw [eqv_nil, flt_emp] | rw [flt_emp]
      exact q
  | _ =>
    refine seq_intro fun k hk => ?_
    walk_at "rd"
    exact q
abbrev s_giving : Stmt := top 71
abbrev N_giving : List Str := ["board", "kind", "index", "offer"]
theorem sc_giving : FnScope N_giving ["board", "kind"] (defScope s_giving) := ⟨rfl, rfl, rfl, by decide +kernel, rfl, by decide +kernel, by decide +kernel⟩
def R_giving : D → D → (D → Prop) → Prop := fun b k Q => ∃ (nk kv : Int) (os : List Of), b = bd nk os ∧ k = .int kv ∧ BO nk os ∧ Q (.lst ((givL os kv).map D.int))
theorem ok_giving (h_giving : Dfn K mg "giving" s_giving ["board", "kind"]) (B : Bl mg) : Cal P w K mg base CX0 "giving" 1 ["board", "kind"] (liftP K (sp2 R_giving)) := by
  refine cal_pure h_giving sc_giving (by decide) sp2_len ⟨_, fun f cdv A outer s H E hgd hr => (b_one (s_ret (d_lc (own := [("index", 2), ("offer", 3)]) rfl sc_giving.nd (i_enumT B.enumerate (dc (d_ixV 0 d_int) dn)) (blkOk_by (N := N_giving) (sc := defScope s_giving) (by decide +kernel)) (fun _ _ _ _ _ => (c_tup (n := 2) rfl (cs_cons (c_name (i := 2) sc_giving.nd) (cs_cons (c_name (i := 3) sc_giving.nd) cs_nil)))) (fun _ _ _ _ _ => (ts_one (t_w (w_and (t_eq hr.units (d_ixV 3 d_int) (dv 1)) (w_and1 (t_gt (d_ixV 3 d_int) d_int)))))) (fun _ _ _ _ _ => (dv 2))))), sp2_by ?_⟩
  rintro _ _ Q ⟨nk, kv, os, rfl, rfl, h, q⟩
  have hl := h.len
  unfold bd
  walk_at "rd"
  rw [enum_rg]
  refine lcD_flt (rg os.length) (fun i => D.tup [.int i, (gO os i).d]) (gvB os kv) (fun i => .int i) _ rfl rfl (small_le (by rw [rg_len]; omega)) (fun i hi R R' h1 h2 => ?_) ?_
  · rw [ofd]
    walk_at "rd"
    refine ite_by (fun c1 => ite_by (fun c2 => ?_) fun c2 => ?_) fun c1 => ?_
    · exact h1 (by unfold gvB; rw [decide_eq_true c1, decide_eq_true (show 0 < (gO os i).y by omega)]; rfl) _ rfl
    · exact h2 (by unfold gvB; rw [decide_eq_false (show ¬ 0 < (gO os i).y by omega), Bool.and_false]) _ rfl
    · exact h2 (by unfold gvB; rw [decide_eq_false c1]; rfl) _ rfl
  exact q
abbrev s_is_greater : Stmt := top 69
abbrev N_is_greater : List Str := ["one", "other"]
theorem sc_is_greater : FnScope N_is_greater ["one", "other"] (defScope s_is_greater) := ⟨rfl, rfl, rfl, by decide +kernel, rfl, by decide +kernel, by decide +kernel⟩
def R_is_greater : D → D → (D → Prop) → Prop := fun u v Q => ∃ a b c d : Int, u = .tup [.int a, .int b] ∧ v = .tup [.int c, .int d] ∧ (-18446744073709551616 < b ∧ b < 18446744073709551616) ∧ (-18446744073709551616 < d ∧ d < 18446744073709551616) ∧ Q (.bl (decide (a * d > c * b)))
theorem ok_is_greater (h_is_greater : Dfn K mg "is_greater" s_is_greater ["one", "other"]) (B : Bl mg) : Cal P w K mg base CX0 "is_greater" 1 ["one", "other"] (liftP K (sp2 R_is_greater)) := by
  refine cal_pure h_is_greater sc_is_greater (by decide) sp2_len ⟨_, fun f cdv A outer s H E hgd hr => (b_one (s_ret (d_gt (d_mul (d_ixV 0 d_int) (d_ixV 1 d_int)) (d_mul (d_ixV 1 d_int) (d_ixV 0 d_int))))), sp2_by ?_⟩
  rintro _ _ Q ⟨a, b, c, d, rfl, rfl, hb, hd, q⟩
  walk_at "rd"
  exact ⟨cmulR hd.1 hd.2, cmulR hb.1 hb.2, q⟩
abbrev s_best_steps : Stmt := top 72
abbrev N_best_steps : List Str := ["board", "kind", "found", "index", "goal"]
theorem sc_best_steps : FnScope N_best_steps ["board", "kind"] (defScope s_best_steps) := ⟨rfl, rfl, rfl, by decide +kernel, rfl, by decide +kernel, by decide +kernel⟩
def R_best_steps : D → D → (D → Prop) → Prop := fun b k Q => ∃ (nk kv : Int) (os : List Of), b = bd nk os ∧ k = .int kv ∧ BO nk os ∧ ∀ bs : List Int, BsOk os kv bs → Q (.lst (bs.map D.int))
theorem ok_best_steps (h_best_steps : Dfn K mg "best_steps" s_best_steps ["board", "kind"]) (B : Bl mg) (c_giving : Cal P w K mg base CX0 "giving" 1 ["board", "kind"] (liftP K (sp2 R_giving))) (c_is_greater : Cal P w K mg base CX0 "is_greater" 1 ["one", "other"] (liftP K (sp2 R_is_greater))) (c_ratio_of : Cal P w K mg base CX0 "ratio_of" 3 ["board", "indexes"] (liftP K (sp2 R_ratio_of))) : Cal P w K mg base CX0 "best_steps" 4 ["board", "kind"] (liftP K (sp2 R_best_steps)) := by
  obtain ⟨f_giving, fd_giving, C_giving⟩ := c_giving
  obtain ⟨f_is_greater, fd_is_greater, C_is_greater⟩ := c_is_greater
  obtain ⟨f_ratio_of, fd_ratio_of, C_ratio_of⟩ := c_ratio_of
  refine cal_pure h_best_steps sc_best_steps (by decide) sp2_len ⟨_, fun f cdv A outer s H E hgd hr => (b_cons (s_newDV0 (i := 2) sc_best_steps.nd)
    (b_cons (s_for PassesOwn.never rfl (i_seq (d_call C_giving.fn hgd (hr.mono (by decide)) C_giving.mg C_giving.kp C_giving.bd pass0 (dc (dv 0) (dc (dv 1) dn)))) (g_name (i := 3) sc_best_steps.nd) (b_cons (s_set (i := 4) sc_best_steps.nd (d_ix (d_ix (d_ixV 0 d_int) (dv 3)) d_int))
    (b_one (s_if (t_w (w_or (t_notinDV 2 hr.units1 (dv 4)) (w_or1 (t_val (d_call C_is_greater.fn hgd (hr.mono (by decide)) C_is_greater.mg C_is_greater.kp C_is_greater.bd pass0 (dc (d_call C_ratio_of.fn hgd hr C_ratio_of.mg C_ratio_of.kp C_ratio_of.bd pass0 (dc (dv 0) (dc (d_tup (dc (dv 3) dn)) dn))) (dc (d_call C_ratio_of.fn hgd hr C_ratio_of.mg C_ratio_of.kp C_ratio_of.bd pass0 (dc (dv 0) (dc (d_tup (dc (d_getV 2 hr.units1 (dv 4)) dn)) dn))) dn))))))) (b_one (s_putO 2 hr.units1 (dv 3) (dv 4))) b_nil))))
    (b_one (s_ret (d_lc (own := [("goal", 4)]) rfl sc_best_steps.nd (i_seq (d_sortK rfl B.sorted (dc (dvO 2) dn))) (blkOk_by (N := N_best_steps) (sc := defScope s_best_steps) (by decide +kernel)) (fun _ _ _ _ _ => (c_name (i := 4) sc_best_steps.nd)) (fun _ _ _ _ _ => ts_nil) (fun _ _ _ _ _ => (d_getV 2 hr.units1 (dv 4)))))))), sp2_by ?_⟩
  rintro _ _ Q ⟨nk, kv, os, rfl, rfl, h, q⟩
  have hl := h.len
  refine seq_intro fun k hk => ?_
  walk_at "rd"
  subst hk
  refine seq_intro fun k hk => ?_
  walk_at "rd"
  refine ⟨nk, kv, os, rfl, rfl, h, ?_⟩
  walk_at "rd"
  obtain ⟨IO, hIO⟩ : ∃ P : Nat → En → Prop, ∀ j E, P j E ↔ ∃ (ps : List (Int × Int)) (s3 s4 : Sl), (s3.free ∧ s4.free) ∧ Bp os ((givL os kv).take j) ps ∧ ps.length ≤ j ∧ E = [Sl.fz (bd nk os), Sl.fz (D.int kv), Sl.ow false (Ow.od (pkD ps)), s3, s4] := ⟨_, fun _ _ => Iff.rfl⟩
  have gl := (giv_gv os kv).len
  refine ⟨fun j E => IO j E, (hIO _ _).mpr ⟨[], .un, .un, ⟨True.intro, True.intro⟩, Bp.nil os, Nat.le_refl _, rfl⟩, ?_, ?_⟩
  · rintro j y _ hj hE
    obtain ⟨ps, s3, s4, ⟨f3, f4⟩, bp, pl, rfl⟩ := (hIO _ _).mp hE
    clear hE hk
    obtain ⟨i, ei, rfl⟩ := map_get hj
    have jl := (List.getElem?_eq_some_iff.mp ei).1
    obtain ⟨ed, ea⟩ := giv_mem.mp (List.mem_of_getElem? ei)
    have tk : (givL os kv).take (j + 1) = (givL os kv).take j ++ [i] := by
      rw [List.take_add_one, ei]
      rfl
    have lt : ∀ q ∈ (givL os kv).take j, q < i := fun q hq => by
      have z := (giv_asc os kv).sublist (List.take_sublist (j + 1) _)
      rw [tk] at z
      exact (List.pairwise_append.mp z).2.2 q hq i (List.mem_singleton.mpr rfl)
    have hP : ∀ q ∈ (givL os kv).take j, Ed os q := fun q hq => (giv_mem.mp (List.mem_of_mem_take hq)).1
    obtain ⟨ao, om⟩ := gO_at ed.i0 ed.i1
    obtain ⟨xi, xi2, yi2, _⟩ := ed_x h ed
    have yi := ed.y1
    refine ⟨f3, ?_⟩
    refine seq_intro fun k hk => ?_
    unfold bd
    walk_at "rd"
    rw [ao, ofd]
    walk_at "rd"
    refine ⟨f4, ?_⟩
    subst hk
    walk_at "rd"
    rw [pk_has]
    have pkl : (pkD ps).length = ps.length := List.length_map _
    rw [pk_put]
    cases hs : hasP ps (gO os i).b with
    | false =>
      rw [if_pos (by rfl)]
      refine ⟨small_lt (by omega), (hIO _ _).mpr ⟨_, .fz (.int i), .fz (.int (gO os i).b), ⟨True.intro, True.intro⟩, by rw [tk]; exact bp.new hs, ?_, rfl⟩⟩
      unfold putP
      rw [hs, if_neg (by decide), List.length_append]
      exact Nat.succ_le_succ pl
    | true =>
      rw [if_neg (by decide)]
      obtain ⟨⟨g, f⟩, hp, e⟩ := List.mem_map.mp (of_decide_eq_true hs)
      have hf : ((gO os i).b, f) ∈ ps := by rw [← e]; exact hp
      have edf := hP f (bp.mem _ hf).1
      obtain ⟨xf, xf2, yf2, _⟩ := ed_x h edf
      have yf := edf.y1
      have one : ∀ q, Ed os q → (∀ z ∈ [q], 0 ≤ z ∧ z < (os.length : Int)) ∧ [q].all (fun z => decide ((gO os z).y ≠ 0)) = true := fun q hq => ⟨fun z hz => by rw [List.mem_singleton.mp hz]; exact ⟨hq.i0, hq.i1⟩, by
        rw [List.all_cons, List.all_nil, Bool.and_true]
        have := hq.y1
        exact decide_eq_true (by omega)⟩
      refine ⟨by decide, nk, os, [i], rfl, rfl, h, (one i ed).1, by simp, (one i ed).2, ?_⟩
      rw [pk_get hf bp.nd]
      dsimp only
      refine ⟨by decide, nk, os, [f], rfl, rfl, h, (one f edf).1, by simp, (one f edf).2, ?_⟩
      rw [prX_one, prY_one, prX_one, prY_one]
      have q1 := Int.ediv_le_self (b := gI (gO os i).y (gO os i).x) (show 0 ≤ (gO os i).x by omega)
      have q2 := Int.ediv_le_self (b := gI (gO os f).y (gO os f).x) (show 0 ≤ (gO os f).x by omega)
      have q3 := Int.ediv_nonneg (show 0 ≤ (gO os i).x by omega) (gI_nn (gO os i).y (gO os i).x)
      have q4 := Int.ediv_nonneg (show 0 ≤ (gO os f).x by omega) (gI_nn (gO os f).y (gO os f).x)
      refine ⟨_, _, _, _, rfl, rfl, ⟨by omega, by omega⟩, ⟨by omega, by omega⟩, ?_⟩
      rw [red_cmp yi xi yf xf]
      by_cases c : (gO os i).y * (gO os f).x > (gO os f).y * (gO os i).x
      · rw [decide_eq_true c]
        refine ⟨small_lt (by omega), (hIO _ _).mpr ⟨_, .fz (.int i), .fz (.int (gO os i).b), ⟨True.intro, True.intro⟩, by rw [tk]; exact bp.take h hP ed hf c, ?_, rfl⟩⟩
        unfold putP
        rw [hs, if_pos rfl, List.length_map]
        omega
      · rw [decide_eq_false c]
        exact (hIO _ _).mpr ⟨ps, .fz (.int i), .fz (.int (gO os i).b), ⟨True.intro, True.intro⟩, by rw [tk]; exact bp.keep hf lt (by omega), by omega, rfl⟩
  · intro E hE
    obtain ⟨ps, s3, s4, ⟨f3, f4⟩, bp, pl, rfl⟩ := (hIO _ _).mp hE
    clear hE
    rw [List.length_map, List.take_length] at bp
    rw [List.length_map] at pl
    subst hk
    walk_at "rd"
    refine ⟨ps.map (·.1), by unfold pkD; rw [List.map_map, List.map_map]; rfl, by rw [List.length_map]; omega, fun ys hp ha => ?_⟩
    have hx : ∀ g : Int, ∃ f : Int, g ∈ ys → (g, f) ∈ ps := fun g => by
      by_cases c : g ∈ ys
      · obtain ⟨⟨g', f⟩, hp2, e⟩ := List.mem_map.mp (hp.mem_iff.mp c)
        exact ⟨f, fun _ => by rw [← show g' = g from e]; exact hp2⟩
      · exact ⟨0, fun z => absurd z c⟩
    obtain ⟨F, hF⟩ := Classical.skolem.mp hx
    have yl : ys.length = ps.length := by rw [hp.length_eq, List.length_map]
    refine lcD_all ys D.int (fun g => .int (F g)) _ rfl rfl (small_le (by omega)) (fun g hg R hR => ?_) ?_
    · walk_at "rd"
      rw [pk_get (hF g hg) bp.nd]
      exact hR _ rfl
    rw [show ys.map (fun g => D.int (F g)) = (ys.map F).map D.int from by rw [List.map_map]; rfl]
    refine q _ (bp.ok hp ha ?_ fun i hi => ?_)
    · unfold bsK
      rw [List.map_map]
      refine (List.map_congr_left fun g hg => ?_).trans (List.map_id ys)
      exact (bp.mem _ (hF g hg)).2
    · obtain ⟨g, hg, rfl⟩ := List.mem_map.mp hi
      rw [(bp.mem _ (hF g hg)).2]
      exact hF g hg
def tD (k : Int) (os : List Of) (is : List Int) : D := .tup [.tup (is.map D.int), .lst ((k :: bsK os is).map D.int)]
def isD (is : List Int) : D := .tup (is.map D.int)
theorem tD_app {k : Int} {os : List Of} {is : List Int} {i : Int} : tD k os (is ++ [i]) = .tup [.tup (is.map D.int ++ [.int i]), .lst (.int k :: ((bsK os is).map D.int ++ [.int (gO os i).b]))] := by
  simp only [tD, bsK, List.map_append, List.map_cons, List.map_nil]
abbrev s_end_of : Stmt := top 74
abbrev N_end_of : List Str := ["board", "kind", "trail"]
theorem sc_end_of : FnScope N_end_of ["board", "kind", "trail"] (defScope s_end_of) := ⟨rfl, rfl, rfl, by decide +kernel, rfl, by decide +kernel, by decide +kernel⟩
def R_end_of : D → D → D → (D → Prop) → Prop := fun b k t Q => ∃ (nk kv v : Int) (os : List Of) (is : List Int), b = bd nk os ∧ k = .int kv ∧ t = isD is ∧ BO nk os ∧ Wlk os kv is v ∧ is.length ≤ 60 ∧ Q (.int v)
theorem ok_end_of (h_end_of : Dfn K mg "end_of" s_end_of ["board", "kind", "trail"]) (B : Bl mg) : Cal P w K mg base CX0 "end_of" 1 ["board", "kind", "trail"] (liftP K (sp3 R_end_of)) := by
  refine cal_pure h_end_of sc_end_of (by decide) sp3_len ⟨_, fun f cdv A outer s H E hgd hr => (b_one (s_ret (d_ifx (t_ne hr.units (dv 2) (d_tup dn)) (d_ix (d_ix (d_ixV 0 d_int) (d_ixV 2 (d_neg d_int))) d_int) (dv 1)))), sp3_by ?_⟩
  rintro _ _ _ Q ⟨nk, kv, v, os, is, rfl, rfl, rfl, h, hw, hl, q⟩
  unfold isD bd
  walk_at "rd"
  refine ⟨by decide, ok_tints _, ok_tints [], ?_⟩
  rcases List.eq_nil_or_concat is with rfl | ⟨js, i, rfl⟩
  · rw [show (D.tup (List.map D.int [])).eqv (D.tup []) = true from eqv_self (x := D.tup []) rfl, if_neg (by decide)]
    obtain rfl : kv = v := hw
    exact q
  · rw [List.concat_eq_append] at *
    obtain ⟨e, _, rfl⟩ := wlk_last hw
    rw [eqv_ne (x := D.tup ((js ++ [i]).map D.int)) (y := D.tup []) (nb_ints _) rfl (fun z => by injection z with z; simp at z), if_pos (show (!false) = true from rfl), at_lastC]
    dsimp only
    rw [(gO_at e.i0 e.i1).1, ofd]
    exact q
abbrev s_trails_from : Stmt := top 73
abbrev N_trails_from : List Str := ["board", "kind", "found", "waiting", "at", "trail", "kinds", "index"]
theorem sc_trails_from : FnScope N_trails_from ["board", "kind"] (defScope s_trails_from) := ⟨rfl, rfl, rfl, by decide +kernel, rfl, by decide +kernel, by decide +kernel⟩
def R_trails_from : D → D → (D → Prop) → Prop := fun b k Q => ∃ (nk kv : Int) (os : List Of), b = bd nk os ∧ k = .int kv ∧ BO nk os ∧ 0 ≤ kv ∧ kv < nk ∧ ∀ ts : List (List Int), TrOk os kv ts → ts.length ≤ 16 → Q (.lst (ts.map isD))
theorem ok_trails_from (h_trails_from : Dfn K mg "trails_from" s_trails_from ["board", "kind"]) (B : Bl mg) (c_best_steps : Cal P w K mg base CX0 "best_steps" 4 ["board", "kind"] (liftP K (sp2 R_best_steps))) : Cal P w K mg base CX0 "trails_from" 5 ["board", "kind"] (liftP K (sp2 R_trails_from)) := by
  obtain ⟨f_best_steps, fd_best_steps, C_best_steps⟩ := c_best_steps
  refine cal_pure h_trails_from sc_trails_from (by decide) sp2_len ⟨_, fun f cdv A outer s H E hgd hr => (b_cons (s_newL (i := 2) sc_trails_from.nd dn)
    (b_cons (s_newL (i := 3) sc_trails_from.nd (dc (d_tup (dc (d_tup dn) (dc (d_lst (dc (dv 1) dn)) dn))) dn))
    (b_cons (s_set (i := 4) sc_trails_from.nd d_int)
    (b_cons (s_while PassesOwn.never (t_lt (dv 4) (d_lenV 3 B.len)) (b_cons (s_asg (d_ixV 3 (dv 4)) (g_tup (n := 2) rfl (gs_cons (g_name (i := 5) sc_trails_from.nd) (gs_cons (g_name (i := 6) sc_trails_from.nd) gs_nil))))
    (b_cons (s_app 2 (dv 5))
    (b_cons (s_for PassesOwn.never rfl (i_seq (d_call C_best_steps.fn hgd hr C_best_steps.mg C_best_steps.kp C_best_steps.bd pass0 (dc (dv 0) (dc (d_ixV 6 (d_neg d_int)) dn)))) (g_name (i := 7) sc_trails_from.nd) (b_one (s_if (t_notin (d_ix (d_ix (d_ixV 0 d_int) (dv 7)) d_int) (dv 6)) (b_one (s_app 3 (d_tup (dc (d_add (dv 5) (d_tup (dc (dv 7) dn))) (dc (d_add (dv 6) (d_lst (dc (d_ix (d_ix (d_ixV 0 d_int) (dv 7)) d_int) dn))) dn))))) b_nil)))
    (b_one (s_augAdd (i := 4) sc_trails_from.nd d_int))))))
    (b_one (s_ret (dv 2))))))), sp2_by ?_⟩
  rintro _ _ Q ⟨nk, kv, os, rfl, rfl, h, k0, k1, q⟩
  have k4 := h.k4
  have ol := h.len
  refine seq_intro fun k hk => ?_
  walk_at "rd"
  refine ⟨by decide, ?_⟩
  subst hk
  refine seq_intro fun k hk => ?_
  walk_at "rd"
  refine ⟨by decide, by decide, by decide, by decide, ?_⟩
  subst hk
  refine seq_intro fun k hk => ?_
  walk_at "rd"
  subst hk
  refine seq_intro fun k hk => ?_
  walk_at "rd"
  obtain ⟨IO, hIO⟩ : ∃ P : Nat → En → Prop, ∀ m E, P m E ↔ ∃ (L : List (List Int)) (a : Nat) (s5 s6 s7 : Sl), (s5.free ∧ s6.free ∧ s7.free) ∧ Bfs os kv L a ∧ wtL (nk.toNat - 1) (L.drop a) = m ∧ a + m ≤ 16 ∧ E = [Sl.fz (bd nk os), Sl.fz (D.int kv), Sl.ow false (Ow.ol ((L.take a).map isD)), Sl.ow false (Ow.ol (L.map (tD kv os))), Sl.fz (.int a), s5, s6, s7] := ⟨_, fun _ _ => Iff.rfl⟩
  have w0 : ∀ m, m ≤ 3 → Wt m ≤ 16 := fun m hm => by
    have c : m = 0 ∨ m = 1 ∨ m = 2 ∨ m = 3 := by omega
    rcases c with rfl | rfl | rfl | rfl <;> decide
  refine ⟨fun m E => IO m E, ⟨Wt (nk.toNat - 1), (hIO _ _).mpr ⟨[[]], 0, .un, .un, .un, ⟨True.intro, True.intro, True.intro⟩, Bfs.init os kv, ?_, by rw [Nat.zero_add]; exact w0 _ (by omega), rfl⟩⟩, ?_⟩
  · simp [wtL]
  rintro m E hE
  obtain ⟨L, a, s5, s6, s7, ⟨f5, f6, f7⟩, bf, hm, am, rfl⟩ := (hIO _ _).mp hE
  clear hE
  have al := bf.le
  have ll : L.length ≤ 16 := by
    have z := wtL_len (n := nk.toNat - 1) (L.drop a)
    rw [List.length_drop, hm] at z
    omega
  walk_at "rd"
  rw [List.length_map]
  refine ite_by (fun c => ?_) fun c => ?_
  · have al2 : a < L.length := by omega
    obtain ⟨is, ei⟩ : ∃ is, L[a]? = some is := ⟨_, List.getElem?_eq_getElem al2⟩
    obtain ⟨v, tv⟩ := bf.tr is (List.mem_of_getElem? ei)
    have ea : atI (L.map (tD kv os)) (a : Int) = some (tD kv os is) := atI_nat (by rw [List.getElem?_map, ei]; rfl)
    rw [ea, show tD kv os is = .tup [isD is, .lst ((kv :: bsK os is).map D.int)] from rfl]
    dsimp only
    refine ⟨rfl, f5, f6, small_lt (by rw [List.length_map, List.length_take]; omega), ?_⟩
    rw [wlk_at_last tv.1]
    dsimp only
    refine ⟨nk, v, os, rfl, rfl, h, fun bs hb => ?_⟩
    dsimp only
    have cl := chl_len h k0 k1 tv hb
    obtain ⟨IV, hIV⟩ : ∃ P : Nat → En → Prop, ∀ j E, P j E ↔ ∃ s7 : Sl, s7.free ∧ E = [Sl.fz (bd nk os), Sl.fz (D.int kv), Sl.ow false (Ow.ol ((L.take a).map isD ++ [isD is])), Sl.ow false (Ow.ol ((L ++ (chl os kv is (bs.take j)).map fun i => is ++ [i]).map (tD kv os))), Sl.fz (D.int a), Sl.fz (isD is), Sl.fz (D.lst ((kv :: bsK os is).map D.int)), s7] := ⟨_, fun _ _ => Iff.rfl⟩
    refine ⟨fun j E => IV j E, (hIV _ _).mpr ⟨s7, f7, by rw [List.take_zero]; simp [chl]⟩, ?_, ?_⟩
    · rintro j y _ hj hE
      obtain ⟨s7, f7, rfl⟩ := (hIV _ _).mp hE
      clear hE
      obtain ⟨i, ei2, rfl⟩ := map_get hj
      obtain ⟨bi, ba⟩ := hb.ix i (List.mem_of_getElem? ei2)
      obtain ⟨ao, om⟩ := gO_at bi.ed.i0 bi.ed.i1
      have tk : bs.take (j + 1) = bs.take j ++ [i] := by
        rw [List.take_add_one, ei2]
        rfl
      have cb : (chl os kv is (bs.take j)).length ≤ (chl os kv is bs).length := ((List.take_sublist j bs).filter _).length_le
      refine ⟨f7, ?_⟩
      unfold bd
      walk_at "rd"
      rw [ao, ofd]
      walk_at "rd"
      have fl : (D.int kv :: (bsK os is).map D.int).all D.flat = true := List.all_eq_true.mpr fun x hx => by
        rcases List.mem_cons.mp hx with rfl | hx
        · rfl
        · obtain ⟨_, _, rfl⟩ := List.mem_map.mp hx
          rfl
      refine ⟨rfl, fl, ?_⟩
      rw [show inD (.int (gO os i).b) (.int kv :: (bsK os is).map D.int) = inI (gO os i).b (kv :: bsK os is) from inD_inI _ (kv :: bsK os is)]
      unfold inI
      by_cases cm : (gO os i).b ∈ kv :: bsK os is
      · rw [decide_eq_true cm, if_neg (by decide)]
        have e : chl os kv is (bs.take (j + 1)) = chl os kv is (bs.take j) := by
          unfold chl
          rw [tk, List.filter_append, List.filter_cons, if_neg (by rw [decide_eq_true_iff]; exact fun z => z cm), List.filter_nil, List.append_nil]
        exact (hIV _ _).mpr ⟨.fz (.int i), True.intro, by rw [e]; rfl⟩
      · rw [decide_eq_false cm, if_pos (show (!false) = true from rfl)]
        have e : chl os kv is (bs.take (j + 1)) = chl os kv is (bs.take j) ++ [i] := by
          unfold chl
          rw [tk, List.filter_append, List.filter_cons, if_pos (decide_eq_true cm), List.filter_nil]
        dsimp only [isD]
        refine ⟨by decide, small_le (by simp only [List.length_map, List.length_cons, List.length_nil]; omega), by decide, small_le (by simp only [bsK, List.length_map]; omega), by decide, small_lt (by rw [List.length_map, List.length_append, List.length_map]; omega), (hIV _ _).mpr ⟨.fz (.int i), True.intro, ?_⟩⟩
        have eL : L ++ (chl os kv is (bs.take j) ++ [i]).map (fun i => is ++ [i]) = (L ++ (chl os kv is (bs.take j)).map fun i => is ++ [i]) ++ [is ++ [i]] := by
          rw [List.map_append, List.append_assoc]
          rfl
        have eM : ∀ X : List (List Int), (X ++ [is ++ [i]]).map (tD kv os) = X.map (tD kv os) ++ [tD kv os (is ++ [i])] := fun X => by
          rw [List.map_append]
          rfl
        rw [e, eL, eM, ← tD_app]
        rfl
    · intro E hE
      obtain ⟨s7, f7, rfl⟩ := (hIV _ _).mp hE
      clear hE
      rw [List.length_map, List.take_length]
      walk_at "rd"
      have e1 : wtL (nk.toNat - 1) (L.drop a) = Wt (nk.toNat - 1 - is.length) + wtL (nk.toNat - 1) (L.drop (a + 1)) := by
        obtain ⟨_, e2⟩ := List.getElem?_eq_some_iff.mp ei
        rw [List.drop_eq_getElem_cons al2, e2]
        unfold wtL
        rw [List.map_cons, List.sum_cons]
      have e2 := wt_step (n := nk.toNat - 1) (is := is) (cs := chl os kv is bs) (by omega)
      have e3 : (L ++ (chl os kv is bs).map fun i => is ++ [i]).drop (a + 1) = L.drop (a + 1) ++ (chl os kv is bs).map fun i => is ++ [i] := List.drop_append_of_le_length (by omega)
      have e4 : (L ++ (chl os kv is bs).map fun i => is ++ [i]).take (a + 1) = L.take a ++ [is] := by
        rw [List.take_append_of_le_length (by omega), List.take_add_one, ei]
        rfl
      have e5 : wtL (nk.toNat - 1) ((L ++ (chl os kv is bs).map fun i => is ++ [i]).drop (a + 1)) < m := by
        rw [e3, wtL_app]
        omega
      refine ⟨_, e5, (hIO _ _).mpr ⟨_, a + 1, .fz (isD is), .fz (.lst ((kv :: bsK os is).map D.int)), s7, ⟨True.intro, True.intro, f7⟩, bf.step ei tv hb, rfl, by omega, ?_⟩⟩
      rw [e4, List.map_append (f := isD)]
      rfl
  · have ea : a = L.length := by omega
    subst ea
    rw [List.take_length]
    subst hk
    walk_at "rd"
    exact q L bf.done ll
abbrev s_loops_at : Stmt := top 75
abbrev N_loops_at : List Str := ["board", "kind", "found", "trail", "index"]
theorem sc_loops_at : FnScope N_loops_at ["board", "kind"] (defScope s_loops_at) := ⟨rfl, rfl, rfl, by decide +kernel, rfl, by decide +kernel, by decide +kernel⟩
def R_loops_at : D → D → (D → Prop) → Prop := fun b k Q => ∃ (nk kv : Int) (os : List Of), b = bd nk os ∧ k = .int kv ∧ BO nk os ∧ 0 ≤ kv ∧ kv < nk ∧ ∀ ls : List (List Int), (∀ is, is ∈ ls ↔ Lp os kv is) → LsF os kv ls → ls.length ≤ 64 → Q (.lst (ls.map isP))
theorem ok_loops_at (h_loops_at : Dfn K mg "loops_at" s_loops_at ["board", "kind"]) (B : Bl mg) (c_trails_from : Cal P w K mg base CX0 "trails_from" 5 ["board", "kind"] (liftP K (sp2 R_trails_from))) (c_best_steps : Cal P w K mg base CX0 "best_steps" 4 ["board", "kind"] (liftP K (sp2 R_best_steps))) (c_end_of : Cal P w K mg base CX0 "end_of" 1 ["board", "kind", "trail"] (liftP K (sp3 R_end_of))) : Cal P w K mg base CX0 "loops_at" 6 ["board", "kind"] (liftP K (sp2 R_loops_at)) := by
  obtain ⟨f_trails_from, fd_trails_from, C_trails_from⟩ := c_trails_from
  obtain ⟨f_best_steps, fd_best_steps, C_best_steps⟩ := c_best_steps
  obtain ⟨f_end_of, fd_end_of, C_end_of⟩ := c_end_of
  refine cal_pure h_loops_at sc_loops_at (by decide) sp2_len ⟨_, fun f cdv A outer s H E hgd hr => (b_cons (s_newL (i := 2) sc_loops_at.nd dn)
    (b_cons (s_for PassesOwn.never rfl (i_seq (d_call C_trails_from.fn hgd hr C_trails_from.mg C_trails_from.kp C_trails_from.bd pass0 (dc (dv 0) (dc (dv 1) dn)))) (g_name (i := 3) sc_loops_at.nd) (b_one (s_for PassesOwn.never rfl (i_seq (d_call C_best_steps.fn hgd (hr.mono (by decide)) C_best_steps.mg C_best_steps.kp C_best_steps.bd pass0 (dc (dv 0) (dc (d_call C_end_of.fn hgd (hr.mono (by decide)) C_end_of.mg C_end_of.kp C_end_of.bd pass0 (dc (dv 0) (dc (dv 1) (dc (dv 3) dn)))) dn)))) (g_name (i := 4) sc_loops_at.nd) (b_one (s_if (t_eq hr.units (d_ix (d_ix (d_ixV 0 d_int) (dv 4)) d_int) (dv 1)) (b_one (s_app 2 (d_addP (dv 3) (d_tupP (dc (dv 4) dn))))) b_nil)))))
    (b_one (s_ret (dv 2))))), sp2_by ?_⟩
  rintro _ _ Q ⟨nk, kv, os, rfl, rfl, h, k0, k1, q⟩
  have k4 := h.k4
  have ol := h.len
  refine seq_intro fun k hk => ?_
  walk_at "rd"
  subst hk
  refine ⟨by decide, ?_⟩
  refine seq_intro fun k hk => ?_
  walk_at "rd"
  refine ⟨nk, kv, os, rfl, rfl, h, k0, k1, fun ts ht tl => ?_⟩
  dsimp only
  obtain ⟨IO, hIO⟩ : ∃ P : Nat → En → Prop, ∀ j E, P j E ↔ ∃ (ls : List (List Int)) (s3 s4 : Sl), (s3.free ∧ s4.free) ∧ LpA os kv (ts.take j) ls ∧ E = [Sl.fz (bd nk os), Sl.fz (D.int kv), Sl.ow false (Ow.ol (ls.map isP)), s3, s4] := ⟨_, fun _ _ => Iff.rfl⟩
  refine ⟨fun j E => IO j E, (hIO _ _).mpr ⟨[], .un, .un, ⟨True.intro, True.intro⟩, ⟨.nil, fun is => ⟨fun z => (nomatch z), fun ⟨js, hj, _⟩ => (nomatch hj)⟩, Nat.zero_le _⟩, rfl⟩, ?_, ?_⟩
  · rintro j y _ hj hE
    obtain ⟨ls, s3, s4, ⟨f3, f4⟩, lp, rfl⟩ := (hIO _ _).mp hE
    clear hE hk
    obtain ⟨js, ej, rfl⟩ := map_get hj
    have jl := (List.getElem?_eq_some_iff.mp ej).1
    obtain ⟨v, tv⟩ := (ht.mem js).mp (List.mem_of_getElem? ej)
    have jn := trl_len h k0 k1 tv
    have tk : ts.take (j + 1) = ts.take j ++ [js] := by
      rw [List.take_add_one, ej]
      rfl
    have ll := lp.len
    rw [List.length_take] at ll
    refine ⟨f3, ?_⟩
    unfold isD
    walk_at "rd"
    refine ⟨nk, kv, v, os, js, rfl, rfl, rfl, h, tv.1, by omega, ?_⟩
    dsimp only
    refine ⟨nk, v, os, rfl, rfl, h, fun bs hb => ?_⟩
    dsimp only
    have bl := bs_len h hb
    obtain ⟨IV, hIV⟩ : ∃ P : Nat → En → Prop, ∀ m E, P m E ↔ ∃ s4 : Sl, s4.free ∧ E = [Sl.fz (bd nk os), Sl.fz (D.int kv), Sl.ow false (Ow.ol ((ls ++ clz os kv js (bs.take m)).map isP)), Sl.fz (isD js), s4] := ⟨_, fun _ _ => Iff.rfl⟩
    refine ⟨fun m E => IV m E, (hIV _ _).mpr ⟨s4, f4, by rw [List.take_zero]; simp [clz, isD]⟩, ?_, ?_⟩
    · rintro m y _ hm hE
      obtain ⟨s4, f4, rfl⟩ := (hIV _ _).mp hE
      clear hE
      obtain ⟨i, ei, rfl⟩ := map_get hm
      obtain ⟨bi, ba⟩ := hb.ix i (List.mem_of_getElem? ei)
      obtain ⟨ao, om⟩ := gO_at bi.ed.i0 bi.ed.i1
      have tk2 : bs.take (m + 1) = bs.take m ++ [i] := by
        rw [List.take_add_one, ei]
        rfl
      have cb : (clz os kv js (bs.take m)).length ≤ 4 := by
        unfold clz
        rw [List.length_map]
        have := List.length_filter_le (fun i => decide ((gO os i).b = kv)) (bs.take m)
        rw [List.length_take] at this
        omega
      refine ⟨f4, ?_⟩
      unfold bd
      walk_at "rd"
      rw [ao, ofd]
      walk_at "rd"
      refine ite_by (fun c => ?_) fun c => ?_
      · have e : clz os kv js (bs.take (m + 1)) = clz os kv js (bs.take m) ++ [js ++ [i]] := by
          unfold clz
          rw [tk2, List.filter_append, List.filter_cons, if_pos (decide_eq_true c), List.filter_nil, List.map_append]
          rfl
        refine ⟨[i], rfl, small_le (by simp), ?_⟩
        unfold isD
        dsimp only
        refine ⟨js, rfl, by simp, small_le (by simp only [List.length_cons, List.length_nil]; omega), small_lt (by rw [List.length_map, List.length_append]; omega), (hIV _ _).mpr ⟨.fz (.int i), True.intro, ?_⟩⟩
        rw [e, ← List.append_assoc, List.map_append (l₁ := ls ++ _)]
        rfl
      · have e : clz os kv js (bs.take (m + 1)) = clz os kv js (bs.take m) := by
          unfold clz
          rw [tk2, List.filter_append, List.filter_cons, if_neg (by rw [decide_eq_true_iff]; exact c), List.filter_nil, List.append_nil]
        exact (hIV _ _).mpr ⟨.fz (.int i), True.intro, by rw [e]; rfl⟩
    · intro E hE
      obtain ⟨s4, f4, rfl⟩ := (hIV _ _).mp hE
      clear hE
      rw [List.length_map, List.take_length]
      exact (hIO _ _).mpr ⟨_, .fz (isD js), s4, ⟨True.intro, f4⟩, by rw [tk]; exact lp.step h tv hb, rfl⟩
  · intro E hE
    obtain ⟨ls, s3, s4, ⟨f3, f4⟩, lp, rfl⟩ := (hIO _ _).mp hE
    clear hE
    rw [List.length_map, List.take_length] at lp
    have ll := lp.len
    subst hk
    walk_at "rd"
    exact q ls (lp.all ht) ⟨ts, ht.fn, lp.fn⟩ (by omega)
abbrev s_gaining_loop : Stmt := top 77
abbrev N_gaining_loop : List Str := ["board", "kinds", "kind", "loop", "first"]
theorem sc_gaining_loop : FnScope N_gaining_loop ["board", "kinds"] (defScope s_gaining_loop) := ⟨rfl, rfl, rfl, by decide +kernel, rfl, by decide +kernel, by decide +kernel⟩
def R_gaining_loop : D → D → (D → Prop) → Prop := fun b k Q => ∃ (nk : Int) (os : List Of) (ks : List Int), b = bd nk os ∧ k = .lst (ks.map D.int) ∧ BO nk os ∧ (∀ k ∈ ks, 0 ≤ k ∧ k < nk) ∧ ((∀ k ∈ ks, ∀ is, Lp os k is → prY os is ≤ prX os is) → Q .non) ∧ (∀ r, GlR os ks r → Q (isD r))
theorem ok_gaining_loop (h_gaining_loop : Dfn K mg "gaining_loop" s_gaining_loop ["board", "kinds"]) (B : Bl mg) (c_loops_at : Cal P w K mg base CX0 "loops_at" 6 ["board", "kind"] (liftP K (sp2 R_loops_at))) (c_gains : Cal P w K mg base CX0 "gains" 4 ["board", "indexes"] (liftP K (sp2 R_gains))) : Cal P w K mg base CX0 "gaining_loop" 7 ["board", "kinds"] (liftP K (sp2 R_gaining_loop)) := by
  obtain ⟨f_loops_at, fd_loops_at, C_loops_at⟩ := c_loops_at
  obtain ⟨f_gains, fd_gains, C_gains⟩ := c_gains
  refine cal_pure h_gaining_loop sc_gaining_loop (by decide) sp2_len ⟨_, fun f cdv A outer s H E hgd hr => (b_cons (s_for PassesOwn.never rfl (i_seq (dv 1)) (g_name (i := 2) sc_gaining_loop.nd) (b_one (s_for PassesOwn.never rfl (i_seq (d_call C_loops_at.fn hgd hr C_loops_at.mg C_loops_at.kp C_loops_at.bd pass0 (dc (dv 0) (dc (dv 2) dn)))) (g_name (i := 3) sc_gaining_loop.nd) (b_one (s_if (t_val (d_call C_gains.fn hgd (hr.mono (by decide)) C_gains.mg C_gains.kp C_gains.bd pass0 (dc (dv 0) (dc (d_wk (dv 3)) dn)))) (b_cons (s_set (i := 4) sc_gaining_loop.nd (d_indexP (dv 3) (d_minX rfl B.min (dc (d_wk (dv 3)) dn))))
    (b_one (s_ret (d_add (d_slice (d_wk (dv 3)) (o_some (dv 4)) o_none) (d_slice (d_wk (dv 3)) o_none (o_some (dv 4))))))) b_nil)))))
    (b_one (s_ret d_non))), sp2_by ?_⟩
  rintro _ _ Q ⟨nk, os, ks, rfl, rfl, h, hk0, q1, q2⟩
  have k4 := h.k4
  have ol := h.len
  refine seq_intro fun k hk => ?_
  walk_at "rd"
  subst hk
  obtain ⟨IO, hIO⟩ : ∃ P : Nat → En → Prop, ∀ j E, P j E ↔ ∃ (s2 s3 s4 : Sl), (s2.free ∧ s3.free ∧ s4.free) ∧ (∀ k ∈ ks.take j, ∀ is, Lp os k is → prY os is ≤ prX os is) ∧ E = [Sl.fz (bd nk os), Sl.fz (D.lst (ks.map D.int)), s2, s3, s4] := ⟨_, fun _ _ => Iff.rfl⟩
  refine ⟨fun j E => IO j E, (hIO _ _).mpr ⟨.un, .un, .un, ⟨True.intro, True.intro, True.intro⟩, (fun k hk => nomatch hk), rfl⟩, ?_, ?_⟩
  · rintro j y _ hj hE
    obtain ⟨s2, s3, s4, ⟨f2, f3, f4⟩, hn, rfl⟩ := (hIO _ _).mp hE
    clear hE
    obtain ⟨kv, ej, rfl⟩ := map_get hj
    have km := List.mem_of_getElem? ej
    obtain ⟨k0, k1⟩ := hk0 kv km
    have tk : ks.take (j + 1) = ks.take j ++ [kv] := by
      rw [List.take_add_one, ej]
      rfl
    refine ⟨f2, ?_⟩
    walk_at "rd"
    refine ⟨nk, kv, os, rfl, rfl, h, k0, k1, fun ls hl lf ll => ?_⟩
    dsimp only
    obtain ⟨IV, hIV⟩ : ∃ P : Nat → En → Prop, ∀ m E, P m E ↔ ∃ s3 : Sl, s3.free ∧ (∀ is ∈ ls.take m, prY os is ≤ prX os is) ∧ E = [Sl.fz (bd nk os), Sl.fz (D.lst (ks.map D.int)), Sl.fz (.int kv), s3, s4] := ⟨_, fun _ _ => Iff.rfl⟩
    refine ⟨fun m E => IV m E, (hIV _ _).mpr ⟨s3, f3, (fun k hk => nomatch hk), rfl⟩, ?_, ?_⟩
    · rintro m y _ hm hE
      obtain ⟨s3, f3, hn2, rfl⟩ := (hIV _ _).mp hE
      clear hE
      obtain ⟨is, ei, rfl⟩ := map_get hm
      have lp := (hl is).mp (List.mem_of_getElem? ei)
      have il := lp_len h lp
      have tk2 : ls.take (m + 1) = ls.take m ++ [is] := by
        rw [List.take_add_one, ei]
        rfl
      refine ⟨f3, ?_⟩
      unfold isP
      walk_at "rd"
      refine ⟨nk, os, is, rfl, rfl, h, fun i hi => ⟨(wlk_ix lp.w i hi).i0, (wlk_ix lp.w i hi).i1⟩, by omega, List.all_eq_true.mpr fun i hi => decide_eq_true (by have := (wlk_ix lp.w i hi).y1; omega), ?_⟩
      dsimp only
      refine ite_by (fun c => ?_) fun c => ?_
      · have ine : 0 < is.length := List.length_pos_iff.mpr lp.ne
        refine ⟨is, rfl, ine, fun m mm mx => ?_⟩
        have mm2 : is[is.idxOf m]? = some m := by
          have il := List.idxOf_lt_length_of_mem mm
          rw [List.getElem?_eq_getElem il, List.getElem_idxOf]
        have il2 := List.idxOf_lt_length_of_mem mm
        refine ⟨m, is.idxOf m, rfl, mm2, fun p hp e => ?_, f4, ?_, ?_⟩
        · have z := List.not_of_lt_findIdx (p := (· == m)) (xs := is) hp
          rw [(List.getElem?_eq_some_iff.mp e).2] at z
          exact absurd (beq_self_eq_true m) (by simpa using z)
        · have c1 := cutL_len (is.map D.int) (some ((is.idxOf m : Nat) : Int)) none
          have c2 := cutL_len (is.map D.int) none (some ((is.idxOf m : Nat) : Int))
          rw [List.length_map] at c1 c2
          exact small_le (by omega)
        · rw [cutL_from (by omega), cutL_to (by omega), Int.toNat_natCast, ← List.map_drop, ← List.map_take, ← List.map_append]
          refine q2 _ ⟨_, _, kv, m, is, ls, ej, fun i' hi' k' ek => hn k' ?_, lf, ei, fun j' hj' is' ej' => hn2 is' ?_, lp, c, mm, mx, rfl⟩
          · exact List.mem_of_getElem? (by rw [List.getElem?_take_of_lt hi']; exact ek)
          · exact List.mem_of_getElem? (by rw [List.getElem?_take_of_lt hj']; exact ej')
      · exact (hIV _ _).mpr ⟨.fz (.pt is), True.intro, fun js hj => by
          rw [tk2] at hj
          rcases List.mem_append.mp hj with z | z
          · exact hn2 js z
          · rw [List.mem_singleton.mp z]
            omega, rfl⟩
    · intro E hE
      obtain ⟨s3, f3, hn2, rfl⟩ := (hIV _ _).mp hE
      clear hE
      rw [List.length_map, List.take_length] at hn2
      exact (hIO _ _).mpr ⟨.fz (.int kv), s3, s4, ⟨True.intro, f3, f4⟩, fun c hc is l => by
        rw [tk] at hc
        rcases List.mem_append.mp hc with z | z
        · exact hn c z is l
        · rw [List.mem_singleton.mp z] at l
          exact hn2 is ((hl is).mpr l), rfl⟩
  · intro E hE
    obtain ⟨s2, s3, s4, ⟨f2, f3, f4⟩, hn, rfl⟩ := (hIO _ _).mp hE
    clear hE
    rw [List.length_map, List.take_length] at hn
    walk_at "rd"
    exact q1 hn

def kds (os : List Of) (is : List Int) : List Int := is.map fun i => (gO os i).a
def gnB (os : List Of) (is : List Int) : Bool := decide (prY os is > prX os is)
theorem getD_mem {l : List Int} {i : Nat} (h : i < l.length) : l.getD i 0 ∈ l := getD_in 0 h
theorem tI_nb (l : List Int) : (tI l).nb = true := by
  unfold tI
  induction l with
  | nil => rfl
  | cons a l ih => exact ih
theorem os_nb : ∀ os : List Of, D.nbL (os.map Of.d) = true
  | [] => rfl
  | _ :: os => os_nb os
theorem of_ok (o : Of) : o.d.ok := nb_ok (tI_nb o.l) (by rw [Of.dl]; show PyData.depth (D.tup [_, _, _, _]).py ≤ 64; exact Nat.le_of_ble_eq_true rfl)
theorem depth_os : ∀ os : List Of, PyData.depthAll (D.pyL (os.map Of.d)) ≤ 1
  | [] => Nat.zero_le _
  | o :: os => Nat.max_le.mpr ⟨Nat.le_of_ble_eq_true rfl, depth_os os⟩
theorem os_ok (os : List Of) : (D.lst (os.map Of.d)).ok := nb_ok (os_nb os) (by
  have := depth_os os
  show PyData.depthAll (D.pyL (os.map Of.d)) + 1 ≤ 64
  omega)
abbrev G60 : Int := 1000000000000000000000000000000000000000000000000000000000000
theorem g60 : G60 = 1000000000000000000000000000000000000000000000000000000000000 := rfl
def lgB (os : List Of) (w : D) : Bool := isLp os w && match w with
  | .tup xs => gnB os (xs.map ixOf)
  | _ => false
def Fr (M : Int) (d : D) : Prop := ∃ n m : Int, d = .tup [.int n, .int m] ∧ (1 ≤ n ∧ n ≤ M) ∧ 1 ≤ m ∧ m ≤ M
def Ce (M : Int) (d : D) : Prop := d = .non ∨ Fr M d
theorem Fr.mono {M N : Int} {d : D} (h : Fr M d) (hm : M ≤ N) : Fr N d := by
  obtain ⟨n, m, rfl, h1, h2⟩ := h
  exact ⟨n, m, rfl, ⟨h1.1, by omega⟩, h2.1, by omega⟩
theorem Ce.mono {M N : Int} {d : D} (h : Ce M d) (hm : M ≤ N) : Ce N d := h.imp id fun z => z.mono hm
theorem log_lt {i : Int} (h0 : -G60 ≤ i) (h1 : i ≤ G60) : i.natAbs.log2 < 200 := by
  have e : (2 ^ 200 : Nat) = 1606938044258990275541962092341162602522202993782792835301376 := by decide
  have g : G60 = 1000000000000000000000000000000000000000000000000000000000000 := rfl
  by_cases c : i.natAbs = 0
  · rw [c]
    decide
  · exact (Nat.log2_lt c).mpr (by omega)
def CS (os : List Of) (S : List Int → Prop) (d : D) : Prop := (d = .non ∧ ∀ is, ¬ S is) ∨ ∃ is, S is ∧ d = frD (prY os is) (prX os is) ∧ ∀ js, S js → rLe os js is
theorem CS.congr {os : List Of} {S T : List Int → Prop} {d : D} (h : CS os S d) (e : ∀ is, S is ↔ T is) : CS os T d := by
  rcases h with ⟨h1, h2⟩ | ⟨is, h1, h2, h3⟩
  · exact .inl ⟨h1, fun is z => h2 is ((e is).mpr z)⟩
  · exact .inr ⟨is, (e is).mp h1, h2, fun js z => h3 js ((e js).mpr z)⟩
/-- with at most so many offers -/
def Ws (os : List Of) (t : Nat) (u v : Int) (is : List Int) : Prop := Wlk os u is v ∧ is.length ≤ t
/-- or one more, of the first ones, ahead -/
def Wj (os : List Of) (t : Nat) (j : Nat) (u v : Int) (is : List Int) : Prop := Wlk os u is v ∧ (is.length ≤ t ∨ ∃ (i : Int) (js : List Int), is = i :: js ∧ i < j ∧ js.length ≤ t)
theorem CS.skip {os : List Of} {t j : Nat} {u v : Int} {d : D} (h : CS os (Wj os t j u v) d) (n : ∀ js, Wlk os u ((j : Int) :: js) v → js.length ≤ t → False) : CS os (Wj os t (j + 1) u v) d :=
  h.congr fun is => by
    constructor
    · rintro ⟨a, b | ⟨i, js, rfl, b, c⟩⟩
      · exact ⟨a, .inl b⟩
      · exact ⟨a, .inr ⟨i, js, rfl, by omega, c⟩⟩
    · rintro ⟨a, b | ⟨i, js, rfl, b, c⟩⟩
      · exact ⟨a, .inl b⟩
      · by_cases e : i = (j : Int)
        · subst e
          exact (n js a c).elim
        · exact ⟨a, .inr ⟨i, js, rfl, by omega, c⟩⟩
theorem cand_le {nk : Int} {os : List Of} (h : BO nk os) {t j : Nat} {u v : Int} {js : List Int} (hj : Ed os (j : Int)) (ha : (gO os j).a = u) (c : Ws os t (gO os j).b v js) (cb : ∀ ls, Ws os t (gO os j).b v ls → rLe os ls js) :
    Wj os t (j + 1) u v ((j : Int) :: js) ∧ ∀ is, Wj os t (j + 1) u v is → Wj os t j u v is ∨ rLe os is ((j : Int) :: js) := by
  refine ⟨⟨⟨hj, ha, c.1⟩, .inr ⟨_, js, rfl, by omega, c.2⟩⟩, ?_⟩
  rintro is ⟨a, b | ⟨i, ls, rfl, b, d⟩⟩
  · exact .inl ⟨a, .inl b⟩
  · by_cases e : i = (j : Int)
    · subst e
      exact .inr (rLe_app (is := [(j : Int)]) (js := [(j : Int)]) h (⟨hj, ha, rfl⟩ : Wlk os u [(j : Int)] _) (⟨hj, ha, rfl⟩ : Wlk os u [(j : Int)] _) a.2.2 c.1 rLe_refl (cb ls ⟨a.2.2, d⟩))
    · exact .inl ⟨a, .inr ⟨i, ls, rfl, by omega, d⟩⟩
theorem CS.keep {nk : Int} {os : List Of} (h : BO nk os) {t j : Nat} {u v : Int} {is js : List Int} (hj : Ed os (j : Int)) (ha : (gO os j).a = u) (c : Ws os t (gO os j).b v js) (cb : ∀ ls, Ws os t (gO os j).b v ls → rLe os ls js)
    (s : Wj os t j u v is) (best : ∀ ls, Wj os t j u v ls → rLe os ls is) (l : rLe os ((j : Int) :: js) is) : CS os (Wj os t (j + 1) u v) (frD (prY os is) (prX os is)) := by
  obtain ⟨c1, c2⟩ := cand_le h hj ha c cb
  refine .inr ⟨is, ⟨s.1, s.2.imp id fun ⟨i, js, e, b, d⟩ => ⟨i, js, e, by omega, d⟩⟩, rfl, fun ls hl => ?_⟩
  rcases c2 ls hl with z | z
  · exact best ls z
  · exact rLe_trans h hl.1 c1.1 s.1 z l
theorem CS.take {nk : Int} {os : List Of} (h : BO nk os) {t j : Nat} {u v : Int} {js : List Int} (hj : Ed os (j : Int)) (ha : (gO os j).a = u) (c : Ws os t (gO os j).b v js) (cb : ∀ ls, Ws os t (gO os j).b v ls → rLe os ls js)
    (l : ∀ ls, Wj os t j u v ls → rLe os ls ((j : Int) :: js)) : CS os (Wj os t (j + 1) u v) (frD (prY os ((j : Int) :: js)) (prX os ((j : Int) :: js))) := by
  obtain ⟨c1, c2⟩ := cand_le h hj ha c cb
  exact .inr ⟨_, c1, rfl, fun ls hl => (c2 ls hl).elim (l ls) id⟩
theorem frD_mul {a b g : Int} (g1 : 1 ≤ g) : frD (a * g) (b * g) = frD a b := by
  unfold frD
  rw [gI_mul a b g (by omega), Int.mul_ediv_mul_of_pos_left _ _ (by omega), Int.mul_ediv_mul_of_pos_left _ _ (by omega)]
theorem pr_bd5 {nk : Int} {os : List Of} (h : BO nk os) {is : List Int} {u v : Int} (w : Wlk os u is v) (hl : is.length ≤ 5) : prX os is ≤ 24300000 ∧ prY os is ≤ 24300000 := by
  have p : (30 : Int) ^ is.length ≤ 24300000 := by
    have c : is.length = 0 ∨ is.length = 1 ∨ is.length = 2 ∨ is.length = 3 ∨ is.length = 4 ∨ is.length = 5 := by omega
    rcases c with e | e | e | e | e | e <;> rw [e] <;> decide
  have r := prod_bd (f := fun i => (gO os i).x) is 1 0 (fun i hi => ⟨(ed_x h (wlk_ix w i hi)).1, (ed_x h (wlk_ix w i hi)).2.1⟩) (by decide) (by decide)
  have s := prod_bd (f := fun i => (gO os i).y) is 1 0 (fun i hi => ⟨(wlk_ix w i hi).y1, (ed_x h (wlk_ix w i hi)).2.2.1⟩) (by decide) (by decide)
  rw [Nat.zero_add] at r s
  exact ⟨Int.le_trans r.2 p, Int.le_trans s.2 p⟩
theorem fr_bd {a b : Int} (a1 : 1 ≤ a) (b1 : 1 ≤ b) : (1 ≤ a / gI a b ∧ a / gI a b ≤ a) ∧ 1 ≤ b / gI a b ∧ b / gI a b ≤ b := by
  have g1 := gI_pos (a := a) (b := b) (.inl (by omega))
  have gb := Int.le_of_dvd (by omega) (gI_r a b)
  have ga := Int.le_of_dvd (by omega) (gI_l a b)
  exact ⟨⟨(Int.le_ediv_iff_mul_le (by omega)).mpr (by omega), Int.ediv_le_self _ (by omega)⟩, (Int.le_ediv_iff_mul_le (by omega)).mpr (by omega), Int.ediv_le_self _ (by omega)⟩
/-- a row, a table -/
structure RowO (os : List Of) (nk : Int) (S : Nat → List Int → Prop) (r : List D) : Prop where
  len : r.length = nk.toNat
  cs : ∀ (v : Nat) (d : D), r[v]? = some d → CS os (S v) d
structure MxO (os : List Of) (nk : Int) (t : Nat) (rows : List D) : Prop where
  len : rows.length = nk.toNat
  row : ∀ (u : Nat) (r : D), rows[u]? = some r → ∃ cs, r = .lst cs ∧ RowO os nk (fun v => Ws os t u v) cs
theorem RowO.congr {os : List Of} {nk : Int} {S T : Nat → List Int → Prop} {r : List D} (h : RowO os nk S r) (e : ∀ v is, S v is ↔ T v is) : RowO os nk T r := ⟨h.len, fun v d hd => (h.cs v d hd).congr (e v)⟩
theorem RowO.keep {os : List Of} {nk : Int} {S T : Nat → List Int → Prop} {r : List D} {i : Nat} (h : RowO os nk (fun v => if v < i then T v else S v) r) (hi : ∀ e, r[i]? = some e → CS os (T i) e) : RowO os nk (fun v => if v < i + 1 then T v else S v) r :=
  ⟨h.len, fun v d hd => by
    by_cases c : v = i
    · subst c
      rw [if_pos (by omega)]
      exact hi d hd
    · have z := h.cs v d hd
      by_cases c2 : v < i
      · rw [if_pos c2] at z
        rw [if_pos (by omega)]
        exact z
      · rw [if_neg c2] at z
        rw [if_neg (by omega)]
        exact z⟩
theorem RowO.set {os : List Of} {nk : Int} {S T : Nat → List Int → Prop} {r : List D} {i : Nat} (h : RowO os nk (fun v => if v < i then T v else S v) r) {x : D} (hx : CS os (T i) x) : RowO os nk (fun v => if v < i + 1 then T v else S v) (r.set i x) :=
  ⟨by rw [List.length_set]; exact h.len, fun v d hd => by
    rw [List.getElem?_set] at hd
    by_cases c : i = v
    · subst c
      rw [if_pos rfl] at hd
      rw [if_pos (by omega)]
      split at hd
      · cases hd
        exact hx
      · cases hd
    · rw [if_neg c] at hd
      have z := h.cs v d hd
      by_cases c2 : v < i
      · rw [if_pos c2] at z
        rw [if_pos (by omega)]
        exact z
      · rw [if_neg c2] at z
        rw [if_neg (by omega)]
        exact z⟩
theorem at_list {xs : List D} {i : Int} (h0 : 0 ≤ i) (h1 : i < xs.length) : ∃ d, atI xs i = some d ∧ xs[i.toNat]? = some d := by
  refine ⟨xs[i.toNat]'(by omega), ?_, List.getElem?_eq_getElem (by omega)⟩
  have z := atI_nat (xs := xs) (j := i.toNat) (List.getElem?_eq_getElem (by omega))
  rwa [show ((i.toNat : Nat) : Int) = i by omega] at z
structure MxP (os : List Of) (nk : Int) (t n : Nat) (rows : List D) : Prop where
  len : rows.length = n
  row : ∀ (u : Nat) (r : D), rows[u]? = some r → ∃ cs, r = .lst cs ∧ RowO os nk (fun v => Ws os t u v) cs
theorem MxP.nil (os : List Of) (nk : Int) (t : Nat) : MxP os nk t 0 [] := ⟨rfl, fun u r h => nomatch h⟩
theorem MxP.push {os : List Of} {nk : Int} {t n : Nat} {rows r : List D} (h : MxP os nk t n rows) (hr : RowO os nk (fun v => Ws os t n v) r) : MxP os nk t (n + 1) (rows ++ [.lst r]) :=
  ⟨by rw [List.length_append, h.len]; rfl, fun u d hd => by
    by_cases c : u < rows.length
    · rw [List.getElem?_append_left c] at hd
      exact h.row u d hd
    · have hl := (List.getElem?_eq_some_iff.mp hd).1
      rw [List.length_append, List.length_singleton] at hl
      have e : u = n := by rw [← h.len]; omega
      subst e
      rw [List.getElem?_append_right (by omega), ← h.len, Nat.sub_self] at hd
      cases hd
      exact ⟨r, rfl, hr⟩⟩
theorem MxP.full {os : List Of} {nk : Int} {t n : Nat} {rows : List D} (h : MxP os nk t n rows) (e : n = nk.toNat) : MxO os nk t rows := ⟨h.len.trans e, h.row⟩
theorem fr_one : frD 1 1 = .tup [.int 1, .int 1] := by
  unfold frD
  rw [show gI 1 1 = 1 from by decide]
  rfl
def frT (f : Int × Int) : D := .tup [.int f.1, .int f.2]
def whF (fs : List (Int × Int)) : Int := fs.foldl (fun w f => w / gI w f.2 * f.2) 1
def smF (fs : List (Int × Int)) (w : Int) : List Int := fs.map fun f => f.1 * (w / f.2)
def gcF (ns : List Int) : Int := ns.foldl gI 0
def scF (fs : List (Int × Int)) : List Int := (smF fs (whF fs)).map fun n => n / gcF (smF fs (whF fs))
theorem whF_app (fs : List (Int × Int)) (f : Int × Int) : whF (fs ++ [f]) = whF fs / gI (whF fs) f.2 * f.2 := by
  unfold whF
  rw [List.foldl_append]
  rfl
theorem gcF_app (ns : List Int) (n : Int) : gcF (ns ++ [n]) = gI (gcF ns) n := by
  unfold gcF
  rw [List.foldl_append]
  rfl
theorem lcm_dvd {w d : Int} (w1 : 1 ≤ w) (d1 : 1 ≤ d) : w ∣ w / gI w d * d ∧ d ∣ w / gI w d * d ∧ 1 ≤ w / gI w d * d ∧ w / gI w d * d ≤ w * d := by
  have g1 := gI_pos (a := w) (b := d) (.inl (by omega))
  obtain ⟨p, hp⟩ := gI_l w d
  obtain ⟨q, hq⟩ := gI_r w d
  generalize gI w d = g at *
  have e1 : w / g = p := by rw [hp]; exact Int.mul_ediv_cancel_left _ (by omega)
  have p1 : 1 ≤ p := by
    refine Int.not_lt.mp fun c => ?_
    have := Int.mul_nonpos_of_nonneg_of_nonpos (show 0 ≤ g by omega) (show p ≤ 0 by omega)
    omega
  rw [e1]
  refine ⟨⟨q, ?_⟩, ⟨p, Int.mul_comm _ _⟩, ?_, ?_⟩
  · rw [hp, hq, Int.mul_comm g p, Int.mul_assoc]
  · have := Int.mul_le_mul_of_nonneg_right p1 (show 0 ≤ d by omega)
    omega
  · refine Int.mul_le_mul_of_nonneg_right ?_ (by omega)
    have := Int.mul_le_mul_of_nonneg_right g1 (show 0 ≤ p by omega)
    omega
/-- fractions with numbers up to M -/
def FrM (M : Int) (fs : List (Int × Int)) : Prop := ∀ f ∈ fs, 0 ≤ f.1 ∧ f.1 ≤ M ∧ 1 ≤ f.2 ∧ f.2 ≤ M
theorem wh_ok {M : Int} (m1 : 1 ≤ M) : ∀ (n : Nat) (fs : List (Int × Int)), fs.length = n → FrM M fs → 1 ≤ whF fs ∧ whF fs ≤ M ^ n ∧ ∀ f ∈ fs, f.2 ∣ whF fs
  | 0, fs, e, _ => by
    rw [List.length_eq_zero_iff.mp e]
    exact ⟨by decide, (by rw [Int.pow_zero]; decide), (fun f hf => nomatch hf)⟩
  | n + 1, fs, e, h => by
    rcases List.eq_nil_or_concat fs with rfl | ⟨gs, f, rfl⟩
    · cases e
    rw [List.concat_eq_append] at *
    obtain ⟨a, b, c⟩ := wh_ok m1 n gs (by rw [List.length_append] at e; exact Nat.succ.inj e) (fun g hg => h g (List.mem_append_left _ hg))
    obtain ⟨_, _, f1, f2⟩ := h f (List.mem_append_right _ (List.mem_singleton.mpr rfl))
    obtain ⟨d1, d2, d3, d4⟩ := lcm_dvd a f1
    rw [whF_app]
    refine ⟨d3, ?_, fun g hg => ?_⟩
    · rw [Int.pow_succ]
      exact Int.le_trans d4 (Int.mul_le_mul b f2 (by omega) (by omega))
    · rcases List.mem_append.mp hg with z | z
      · exact Int.dvd_trans (c g z) d1
      · rw [List.mem_singleton.mp z]
        exact d2
theorem gc_ok : ∀ (n : Nat) (ns : List Int), ns.length = n → (∀ x ∈ ns, gcF ns ∣ x) ∧ 0 ≤ gcF ns ∧ ((∀ x ∈ ns, 0 ≤ x) → (∃ x ∈ ns, 1 ≤ x) → 1 ≤ gcF ns)
  | 0, ns, e => by
    rw [List.length_eq_zero_iff.mp e]
    exact ⟨(fun f hf => nomatch hf), Int.le_refl _, (fun _ ⟨x, hx, _⟩ => nomatch hx)⟩
  | n + 1, ns, e => by
    rcases List.eq_nil_or_concat ns with rfl | ⟨ms, m, rfl⟩
    · cases e
    rw [List.concat_eq_append] at *
    obtain ⟨a, b, c⟩ := gc_ok n ms (by rw [List.length_append] at e; exact Nat.succ.inj e)
    rw [gcF_app]
    refine ⟨fun x hx => ?_, gI_nn _ _, fun h1 ⟨x, hx, x1⟩ => ?_⟩
    · rcases List.mem_append.mp hx with z | z
      · exact Int.dvd_trans (gI_l _ _) (a x z)
      · rw [List.mem_singleton.mp z]
        exact gI_r _ _
    · refine gI_pos ?_
      rcases List.mem_append.mp hx with z | z
      · exact .inl (c (fun y hy => h1 y (List.mem_append_left _ hy)) ⟨x, z, x1⟩)
      · rw [List.mem_singleton.mp z] at x1
        exact .inr (by omega)
theorem sm_at {M : Int} (m1 : 1 ≤ M) {fs : List (Int × Int)} {n : Nat} (e : fs.length = n) (h : FrM M fs) {f : Int × Int} (hf : f ∈ fs) : 0 ≤ f.1 * (whF fs / f.2) ∧ f.1 * (whF fs / f.2) ≤ M * M ^ n ∧ (1 ≤ f.1 → 1 ≤ f.1 * (whF fs / f.2)) ∧ f.1 * (whF fs / f.2) * f.2 = f.1 * whF fs ∧ 1 ≤ whF fs / f.2 ∧ whF fs / f.2 ≤ M ^ n := by
  obtain ⟨w1, w2, w3⟩ := wh_ok m1 n fs e h
  obtain ⟨a0, a1, b1, b2⟩ := h f hf
  obtain ⟨q, hq⟩ := w3 f hf
  have eq : whF fs / f.2 = q := by rw [hq]; exact Int.mul_ediv_cancel_left _ (by omega)
  have q1 : 1 ≤ q := by
    refine Int.not_lt.mp fun c => ?_
    have := Int.mul_nonpos_of_nonneg_of_nonpos (show 0 ≤ f.2 by omega) (show q ≤ 0 by omega)
    omega
  have q2 : q ≤ whF fs := by
    have := Int.mul_le_mul_of_nonneg_right b1 (show 0 ≤ q by omega)
    omega
  rw [eq]
  refine ⟨Int.mul_nonneg a0 (by omega), Int.mul_le_mul a1 (by omega) (by omega) (by omega), fun z => ?_, ?_, q1, by omega⟩
  · have := Int.mul_le_mul_of_nonneg_right z (show 0 ≤ q by omega)
    omega
  · rw [Int.mul_assoc, Int.mul_comm q, ← hq]
structure BestA (os : List Of) (a : Int) (is : List Int) : Prop where
  t : ∃ v, Trl os a is v
  le : ∀ js v, Trl os a js v → rLe os js is
theorem BestA.uniq {nk : Int} {os : List Of} (h : BO nk os) {a : Int} {is js : List Int} (p : BestA os a is) (q : BestA os a js) : frD (prY os is) (prX os is) = frD (prY os js) (prX os js) := by
  obtain ⟨v, t⟩ := p.t
  obtain ⟨u, s⟩ := q.t
  have l1 := q.le is v t
  have l2 := p.le js u s
  obtain ⟨x1, y1⟩ := pr_pos h t.1
  obtain ⟨x2, y2⟩ := pr_pos h s.1
  have e : prY os is * prX os js = prY os js * prX os is := Int.le_antisymm l1 l2
  have f1 := frD_mul (a := prY os is) (b := prX os is) x2
  have f2 := frD_mul (a := prY os js) (b := prX os js) x1
  rw [← f1, ← f2, e, Int.mul_comm (prX os is)]
theorem wlk_kds {os : List Of} : ∀ {is : List Int} {u v : Int}, Wlk os u is v → u :: bsK os is = kds os is ++ [v]
  | [], u, v, w => by
    obtain rfl : u = v := w
    rfl
  | i :: is, u, v, ⟨_, hu, w⟩ => by
    have z := wlk_kds w
    show u :: (gO os i).b :: bsK os is = (gO os i).a :: (kds os is ++ [v])
    rw [← z, hu]
theorem wlk_cut {os : List Of} : ∀ {is : List Int} {u v : Int} (n : Nat), Wlk os u is v → ∃ x, Wlk os u (is.take n) x ∧ Wlk os x (is.drop n) v
  | is, u, v, 0, w => ⟨u, by rw [List.take_zero]; exact rfl, by rw [List.drop_zero]; exact w⟩
  | [], u, v, n + 1, w => ⟨u, by rw [List.take_nil]; exact rfl, by rw [List.drop_nil]; exact w⟩
  | i :: is, u, v, n + 1, ⟨e, hu, w⟩ => by
    obtain ⟨x, a, b⟩ := wlk_cut n w
    exact ⟨x, ⟨e, hu, a⟩, b⟩
theorem wlk_turn {os : List Of} {is : List Int} {u : Int} (n : Nat) (w : Wlk os u is u) : ∃ x, Wlk os x (is.drop n ++ is.take n) x := by
  obtain ⟨x, a, b⟩ := wlk_cut n w
  exact ⟨x, wlk_app b a⟩
theorem wlk_isLp {os : List Of} {r : List Int} {u : Int} (w : Wlk os u r u) (ne : r ≠ []) : isLp os (.tup (r.map D.int)) = true := by
  have hx := wlk_ix w
  have kk := wlk_kds w
  have rl := List.length_pos_iff.mpr ne
  have e1 : (r.map D.int).isEmpty = false := by
    cases r with
    | nil => cases rl
    | cons _ _ => rfl
  have e2 : (r.map D.int).all (idxOk os) = true := by
    rw [List.all_eq_true]
    intro d hd
    obtain ⟨i, hi, rfl⟩ := List.mem_map.mp hd
    have := (hx i hi).i0
    have := (hx i hi).i1
    show (decide (0 ≤ i) && decide (i ≤ (os.length : Int) - 1)) = true
    rw [decide_eq_true (show 0 ≤ i by omega), decide_eq_true (show i ≤ (os.length : Int) - 1 by omega)]
    rfl
  have e3 : lpB os r = true := by
    unfold lpB
    rw [Bool.and_eq_true]
    refine ⟨List.all_eq_true.mpr fun i hi => decide_eq_true (by have := (hx i hi).y1; omega), List.all_eq_true.mpr fun k hk => ?_⟩
    obtain ⟨k0, k1⟩ := mem_rg.mp hk
    unfold chB
    refine decide_eq_true ?_
    have gb : ∀ p, p < r.length → (gO os (r.getD p 0)).b = (u :: bsK os r).getD (p + 1) 0 := fun p hp => by
      rw [List.getD_cons_succ, List.getD_eq_getElem?_getD, List.getD_eq_getElem?_getD]
      unfold bsK
      rw [List.getElem?_map, List.getElem?_eq_getElem hp]
      rfl
    have ga : ∀ p, p < r.length → (gO os (r.getD p 0)).a = (u :: bsK os r).getD p 0 := fun p hp => by
      rw [kk, List.getD_eq_getElem?_getD, List.getD_eq_getElem?_getD, List.getElem?_append_left (by unfold kds; rw [List.length_map]; exact hp)]
      unfold kds
      rw [List.getElem?_map, List.getElem?_eq_getElem hp]
      rfl
    rw [ga _ (by omega)]
    unfold pvI
    by_cases c : k = 0
    · subst c
      rw [if_pos rfl, gb _ (by omega), show r.length - 1 + 1 = r.length by omega, kk, List.getD_eq_getElem?_getD, List.getElem?_append_right (by unfold kds; rw [List.length_map]; exact Nat.le_refl _), ← kk]
      unfold kds
      rw [List.length_map, Nat.sub_self]
      rfl
    · rw [if_neg c, gb _ (by omega), show (k - 1).toNat + 1 = k.toNat by omega]
  show (!(r.map D.int).isEmpty && ((r.map D.int).all (idxOk os) && lpB os ((r.map D.int).map ixOf))) = true
  rw [e1, e2, ixOf_map, e3]
  rfl
theorem kds_nd {os : List Of} {r : List Int} {u : Int} (w : Wlk os u r u) (nd : (bsK os r).Nodup) : (kds os r).Nodup := by
  have z : (u :: bsK os r).Perm (u :: kds os r) := by
    rw [wlk_kds w]
    exact List.perm_append_singleton _ _
  exact (List.Perm.cons_inv z).nodup nd
structure Tld (os : List Of) (nk : Int) (r : List Int) : Prop where
  w : ∃ u, Wlk os u r u
  ne : r ≠ []
  len : r.length ≤ 4
  nd : (kds os r).Nodup
  gn : prX os r < prY os r
  mn : ∃ m, r[0]? = some m ∧ ∀ x ∈ r, m ≤ x
theorem GlR.tld {nk : Int} {os : List Of} (h : BO nk os) {ks r : List Int} (g : GlR os ks r) : Tld os nk r := by
  obtain ⟨k, m, is, n, hk, lp, gg, hm, hl, hn, rfl⟩ := g.lp
  obtain ⟨u, w⟩ := wlk_turn n lp.w
  have il := lp_len h lp
  have k4 := h.k4
  have pm : (is.drop n ++ is.take n).Perm is := by
    have := List.perm_append_comm (l₁ := is.drop n) (l₂ := is.take n)
    rwa [List.take_append_drop] at this
  have nl := (List.getElem?_eq_some_iff.mp hn).1
  refine ⟨⟨u, w⟩, fun z => ?_, ?_, ?_, ?_, m, ?_, fun x hx => hl x (pm.mem_iff.mp hx)⟩
  · rw [z] at pm
    exact lp.ne (List.nil_perm.mp pm)
  · rw [pm.length_eq]
    omega
  · refine kds_nd w ?_
    unfold bsK
    exact (pm.map _).nodup_iff.mpr lp.nd
  · have ex : prX os (is.take n ++ is.drop n) = prX os is := by rw [List.take_append_drop]
    have ey : prY os (is.take n ++ is.drop n) = prY os is := by rw [List.take_append_drop]
    rw [prX_app, Int.mul_comm (prX os (is.drop n)), ← prX_app, prY_app, Int.mul_comm (prY os (is.drop n)), ← prY_app, ex, ey]
    exact gg
  · rw [List.getElem?_append_left (by rw [List.length_drop]; omega), List.getElem?_drop, Nat.add_zero]
    exact hn
theorem pr_bd3 {nk : Int} {os : List Of} (h : BO nk os) {is : List Int} {u v : Int} (w : Wlk os u is v) (hl : is.length ≤ 3) : prX os is ≤ 27000 ∧ prY os is ≤ 27000 := by
  have p : (30 : Int) ^ is.length ≤ 27000 := by
    have c : is.length = 0 ∨ is.length = 1 ∨ is.length = 2 ∨ is.length = 3 := by omega
    rcases c with e | e | e | e <;> rw [e] <;> decide
  have r := prod_bd (f := fun i => (gO os i).x) is 1 0 (fun i hi => ⟨(ed_x h (wlk_ix w i hi)).1, (ed_x h (wlk_ix w i hi)).2.1⟩) (by decide) (by decide)
  have s := prod_bd (f := fun i => (gO os i).y) is 1 0 (fun i hi => ⟨(wlk_ix w i hi).y1, (ed_x h (wlk_ix w i hi)).2.2.1⟩) (by decide) (by decide)
  rw [Nat.zero_add] at r s
  exact ⟨Int.le_trans r.2 p, Int.le_trans s.2 p⟩
def frP (os : List Of) (is : List Int) : Int × Int := (prY os is / gI (prY os is) (prX os is), prX os is / gI (prY os is) (prX os is))
theorem frT_frP (os : List Of) (is : List Int) : frT (frP os is) = frD (prY os is) (prX os is) := rfl
theorem frT_inj {f g : Int × Int} (h : frT f = frT g) : f = g := by
  unfold frT at h
  injection h with h
  injection h with h1 h2
  injection h2 with h2 _
  injection h1 with h1
  injection h2 with h2
  exact Prod.ext h1 h2
structure PrF (os : List Of) (ks : List Int) (fs : List (Int × Int)) : Prop where
  len : fs.length = ks.length
  at_ : ∀ (i : Nat) (k : Int) (f : Int × Int), ks[i]? = some k → fs[i]? = some f → ∃ is, BestA os k is ∧ f = frP os is
theorem PrF.nil (os : List Of) : PrF os [] [] := ⟨rfl, fun i k f h => nomatch h⟩
theorem PrF.snoc {os : List Of} {ks : List Int} {fs : List (Int × Int)} (h : PrF os ks fs) {k : Int} {is : List Int} (b : BestA os k is) : PrF os (ks ++ [k]) (fs ++ [frP os is]) :=
  ⟨by rw [List.length_append, List.length_append, h.len]; rfl, fun i k' f hk hf => by
    by_cases c : i < ks.length
    · rw [List.getElem?_append_left c] at hk
      rw [List.getElem?_append_left (by rw [h.len]; exact c)] at hf
      exact h.at_ i k' f hk hf
    · rw [List.getElem?_append_right (by omega)] at hk
      rw [List.getElem?_append_right (by rw [h.len]; omega), h.len] at hf
      generalize i - ks.length = j at hk hf
      cases j with
      | zero =>
        cases hk
        cases hf
        exact ⟨is, b, rfl⟩
      | succ j => cases hk⟩
theorem PrF.uniq {nk : Int} {os : List Of} (hb : BO nk os) {ks : List Int} {fs gs : List (Int × Int)} (h : PrF os ks fs) (g : PrF os ks gs) : fs = gs := by
  refine List.ext_getElem (by rw [h.len, g.len]) fun i i1 i2 => ?_
  have i3 : i < ks.length := by rw [← h.len]; exact i1
  obtain ⟨is, b1, e1⟩ := h.at_ i _ _ (List.getElem?_eq_getElem i3) (List.getElem?_eq_getElem i1)
  obtain ⟨js, b2, e2⟩ := g.at_ i _ _ (List.getElem?_eq_getElem i3) (List.getElem?_eq_getElem i2)
  have z := b1.uniq hb b2
  rw [e1, e2]
  exact frT_inj z
theorem PrF.frm {nk : Int} {os : List Of} (hb : BO nk os) {fs : List (Int × Int)} (h : PrF os (rg nk) fs) : FrM 27000 fs ∧ (∀ f ∈ fs, 1 ≤ f.1) ∧ fs.length = nk.toNat := by
  have n4 := hb.k4
  have k1 := hb.k1
  have fl : fs.length = nk.toNat := by rw [h.len, rg_len]
  have key : ∀ f ∈ fs, (1 ≤ f.1 ∧ f.1 ≤ 27000) ∧ 1 ≤ f.2 ∧ f.2 ≤ 27000 := fun f hf => by
    obtain ⟨i, i1, ei⟩ := List.mem_iff_getElem.mp hf
    have i3 : i < (rg nk).length := by rw [← h.len]; exact i1
    obtain ⟨is, b, e⟩ := h.at_ i _ _ (List.getElem?_eq_getElem i3) (List.getElem?_eq_getElem i1)
    obtain ⟨k0, k1⟩ := mem_rg.mp (List.getElem_mem i3)
    obtain ⟨v, t⟩ := b.t
    have il := trl_len hb k0 k1 t
    obtain ⟨x1, y1⟩ := pr_pos hb t.1
    obtain ⟨x2, y2⟩ := pr_bd3 hb t.1 (by omega)
    obtain ⟨⟨a, b⟩, c, d⟩ := fr_bd y1 x1
    rw [← ei, e]
    exact ⟨⟨a, Int.le_trans b y2⟩, c, Int.le_trans d x2⟩
  exact ⟨fun f hf => by obtain ⟨⟨a, b⟩, c, d⟩ := key f hf; exact ⟨by omega, b, c, d⟩, fun f hf => (key f hf).1.1, fl⟩
theorem smF_len (fs : List (Int × Int)) (w : Int) : (smF fs w).length = fs.length := List.length_map _
theorem Tld.ix {os : List Of} {nk : Int} {r : List Int} (t : Tld os nk r) : (∀ i ∈ r, 0 ≤ i ∧ i < (os.length : Int)) ∧ r.all (fun i => decide ((gO os i).y ≠ 0)) = true := by
  obtain ⟨u, w⟩ := t.w
  exact ⟨fun i hi => ⟨(wlk_ix w i hi).i0, (wlk_ix w i hi).i1⟩, List.all_eq_true.mpr fun i hi => decide_eq_true (by have := (wlk_ix w i hi).y1; omega)⟩
theorem Tld.lg {os : List Of} {nk : Int} {r : List Int} (t : Tld os nk r) : isLp os (.tup (r.map D.int)) = true ∧ lgB os (.tup (r.map D.int)) = true := by
  obtain ⟨u, w⟩ := t.w
  have z := wlk_isLp w t.ne
  refine ⟨z, ?_⟩
  unfold lgB
  rw [z, Bool.true_and]
  show gnB os ((r.map D.int).map ixOf) = true
  rw [ixOf_map]
  exact decide_eq_true t.gn
theorem MxO.at {os : List Of} {nk : Int} {t : Nat} {rows : List D} (mx : MxO os nk t rows) {u v : Int} (u0 : 0 ≤ u) (u1 : u < nk) (v0 : 0 ≤ v) (v1 : v < nk) : ∃ cs d, atI rows u = some (.lst cs) ∧ atI cs v = some d ∧ CS os (Ws os t u v) d := by
  obtain ⟨r, hr, hm⟩ := at_list (xs := rows) u0 (by rw [mx.len]; omega)
  obtain ⟨cs, rfl, h1⟩ := mx.row _ _ hm
  obtain ⟨d, hd, hm2⟩ := at_list (xs := cs) v0 (by rw [h1.len]; omega)
  have z := h1.cs _ d hm2
  rw [show ((u.toNat : Nat) : Int) = u by omega, show ((v.toNat : Nat) : Int) = v by omega] at z
  exact ⟨cs, d, hr, hd, z⟩
theorem btwn_trans {os : List Of} {a c u k : Int} (h : Btwn os a c u) (g : Btwn os u u k) : Btwn os a c k := ⟨rch_trans h.1 g.1, rch_trans g.2 h.2⟩
/-- no walk round gains where no loop does -/
theorem round_le {nk : Int} {os : List Of} (h : BO nk os) {a c u : Int} (ng : NoGain os (Btwn os a c)) (hb : Btwn os a c u) {is : List Int} (w : Wlk os u is u) : prY os is ≤ prX os is := by
  obtain ⟨js, ⟨w2, _, nd⟩, _, r⟩ := dom h (bs_all h) ng is u u w fun k hk => btwn_trans hb (btwn_wlk w .refl k hk)
  have e : js = [] := by
    cases js with
    | nil => rfl
    | cons i js =>
      have m := wlk_end w2 (by simp)
      exact absurd m (List.nodup_cons.mp nd).1
  subst e
  have z : prY os is * 1 ≤ 1 * prX os is := r
  omega
theorem gain_or {os : List Of} (K : Int → Prop) : NoGain os K ∨ ∃ k is, K k ∧ Lp os k is ∧ prX os is < prY os is := by
  by_cases c : ∃ k is, K k ∧ Lp os k is ∧ prX os is < prY os is
  · exact .inr c
  · refine .inl fun u is hu w1 w2 w3 w4 => ?_
    by_cases c2 : prY os is ≤ prX os is
    · exact c2
    · exact (c ⟨u, is, hu, ⟨w1, w2, w3, w4⟩, by omega⟩).elim
abbrev s_scaled : Stmt := top 79
abbrev N_scaled : List Str := ["fractions", "whole", "num", "den", "some", "by", "number"]
theorem sc_scaled : FnScope N_scaled ["fractions"] (defScope s_scaled) := ⟨rfl, rfl, rfl, by decide +kernel, rfl, by decide +kernel, by decide +kernel⟩
def R_scaled : D → (D → Prop) → Prop := fun f Q => ∃ fs : List (Int × Int), f = .lst (fs.map frT) ∧ fs.length ≤ 4 ∧ FrM 27000 fs ∧ (∃ f ∈ fs, 1 ≤ f.1) ∧ Q (.tup ((scF fs).map D.int))
theorem ok_scaled (h_scaled : Dfn K mg "scaled" s_scaled ["fractions"]) (B : Bl mg) (c_divisor : Cal P w K mg base CX0 "divisor" 1 ["one", "other"] (liftP K (sp2 R_divisor))) : Cal P w K mg base CX0 "scaled" 2 ["fractions"] (liftP K (sp1 R_scaled)) := by
  obtain ⟨f_divisor, fd_divisor, C_divisor⟩ := c_divisor
  refine cal_pure h_scaled sc_scaled (by decide) sp1_len ⟨_, fun f cdv A outer s H E hgd hr => (b_cons (s_set (i := 1) sc_scaled.nd d_int)
    (b_cons (s_for PassesOwn.never rfl (i_seq (dv 0)) (g_tup (n := 2) rfl (gs_cons (g_name (i := 2) sc_scaled.nd) (gs_cons (g_name (i := 3) sc_scaled.nd) gs_nil))) (b_one (s_set (i := 1) sc_scaled.nd (d_mul (d_fdiv (dv 1) (d_call C_divisor.fn hgd hr C_divisor.mg C_divisor.kp C_divisor.bd pass0 (dc (dv 1) (dc (dv 3) dn)))) (dv 3)))))
    (b_cons (s_setLc (i := 4) (own := [("num", 2), ("den", 3)]) rfl sc_scaled.nd (i_seq (dv 0)) (blkOk_by (N := N_scaled) (sc := defScope s_scaled) (by decide +kernel)) (fun _ _ _ _ _ => (c_tup (n := 2) rfl (cs_cons (c_name (i := 2) sc_scaled.nd) (cs_cons (c_name (i := 3) sc_scaled.nd) cs_nil)))) (fun _ _ _ _ _ => ts_nil) (fun _ _ _ _ _ => (d_mul (dv 2) (d_fdiv (dv 1) (dv 3)))) (sw_true rfl rfl rfl (by decide +kernel)))
    (b_cons (s_set (i := 5) sc_scaled.nd d_int)
    (b_cons (s_for PassesOwn.never rfl (i_seq (dv 4)) (g_name (i := 6) sc_scaled.nd) (b_one (s_set (i := 5) sc_scaled.nd (d_call C_divisor.fn hgd hr C_divisor.mg C_divisor.kp C_divisor.bd pass0 (dc (dv 5) (dc (dv 6) dn))))))
    (b_one (s_ret (d_tuplec B.tuple (dc (d_lc (own := [("number", 6)]) rfl sc_scaled.nd (i_seq (dv 4)) (blkOk_by (N := N_scaled) (sc := defScope s_scaled) (by decide +kernel)) (fun _ _ _ _ _ => (c_name (i := 6) sc_scaled.nd)) (fun _ _ _ _ _ => ts_nil) (fun _ _ _ _ _ => (d_fdiv (dv 6) (dv 5)))) dn))))))))), sp1_by ?_⟩
  rintro _ Q ⟨fs, rfl, fl, fm, fp, q⟩
  have pw : ∀ j : Nat, j ≤ 4 → (27000 : Int) ^ j ≤ 531441000000000000 := fun j hj => by
    have c : j = 0 ∨ j = 1 ∨ j = 2 ∨ j = 3 ∨ j = 4 := by omega
    rcases c with rfl | rfl | rfl | rfl | rfl <;> decide
  refine seq_intro fun k hk => ?_
  walk_at "rd"
  subst hk
  refine seq_intro fun k hk => ?_
  walk_at "rd"
  obtain ⟨IO, hIO⟩ : ∃ P : Nat → En → Prop, ∀ j E, P j E ↔ ∃ (s2 s3 : Sl), (s2.free ∧ s3.free) ∧ E = [Sl.fz (D.lst (fs.map frT)), Sl.fz (D.int (whF (fs.take j))), s2, s3, .un, .un, .un] := ⟨_, fun _ _ => Iff.rfl⟩
  refine ⟨fun j E => IO j E, (hIO _ _).mpr ⟨.un, .un, ⟨True.intro, True.intro⟩, rfl⟩, ?_, ?_⟩
  · rintro j y _ hj hE
    obtain ⟨s2, s3, ⟨f2, f3⟩, rfl⟩ := (hIO _ _).mp hE
    clear hE hk
    obtain ⟨f, ef, rfl⟩ := map_get hj
    have jl := (List.getElem?_eq_some_iff.mp ef).1
    obtain ⟨a0, a1, b1, b2⟩ := fm f (List.mem_of_getElem? ef)
    have tk : fs.take (j + 1) = fs.take j ++ [f] := by
      rw [List.take_add_one, ef]
      rfl
    obtain ⟨w1, w2, _⟩ := wh_ok (M := 27000) (by decide) (fs.take j).length (fs.take j) rfl (fun g hg => fm g (List.mem_of_mem_take hg))
    have w3 := pw (fs.take j).length (by rw [List.length_take]; omega)
    unfold frT
    walk_at "rd"
    refine ⟨f2, f3, ?_⟩
    have g1 := gI_pos (a := whF (fs.take j)) (b := f.2) (.inl (by omega))
    have g2 : gI (whF (fs.take j)) f.2 ≤ f.2 := Int.le_of_dvd (by omega) (gI_r _ _)
    refine ⟨_, _, rfl, rfl, by omega, by omega, by omega, ?_⟩
    walk_at "rd"
    refine ⟨cdiv60 (by omega) (by omega), cmulR (by omega) (by omega), (hIO _ _).mpr ⟨.fz (.int f.1), .fz (.int f.2), ⟨True.intro, True.intro⟩, by rw [tk, whF_app]; rfl⟩⟩
  · intro E hE
    obtain ⟨s2, s3, ⟨f2, f3⟩, rfl⟩ := (hIO _ _).mp hE
    clear hE
    rw [List.length_map, List.take_length]
    obtain ⟨w1, w2, w3⟩ := wh_ok (M := 27000) (by decide) fs.length fs rfl fm
    have w4 := pw fs.length (by omega)
    have sb : ∀ f ∈ fs, 0 ≤ f.1 * (whF fs / f.2) ∧ f.1 * (whF fs / f.2) ≤ 14348907000000000000000 := fun f hf => by
      obtain ⟨z0, z1, _⟩ := sm_at (M := 27000) (by decide) rfl fm hf
      omega
    have sn : ∀ x ∈ smF fs (whF fs), 0 ≤ x ∧ x ≤ 14348907000000000000000 := fun x hx => by
      obtain ⟨f, hf, rfl⟩ := List.mem_map.mp hx
      exact sb f hf
    subst hk
    dsimp only
    refine seq_intro fun k hk => ?_
    walk_at "rd"
    refine lcD_all fs frT (fun f => .int (f.1 * (whF fs / f.2))) _ rfl rfl (small_le (by omega)) (fun f hf R hR => ?_) ?_
    · obtain ⟨a0, a1, b1, b2⟩ := fm f hf
      unfold frT
      walk_at "rd"
      exact ⟨cdiv60 (by omega) (by omega), cmulL (by omega) (by omega), hR _ rfl⟩
    rw [show fs.map (fun f => D.int (f.1 * (whF fs / f.2))) = (smF fs (whF fs)).map D.int from by unfold smF; rw [List.map_map]; rfl]
    have sl := smF_len fs (whF fs)
    obtain ⟨ga, gb, gc⟩ := gc_ok _ (smF fs (whF fs)) rfl
    have g1 := gc (fun x hx => (sn x hx).1) (by
      obtain ⟨f, hf, f1⟩ := fp
      exact ⟨_, List.mem_map.mpr ⟨f, hf, rfl⟩, (sm_at (M := 27000) (by decide) rfl fm hf).2.2.1 f1⟩)
    have gB : gcF (smF fs (whF fs)) ≤ 14348907000000000000000 := by
      obtain ⟨f, hf, f1⟩ := fp
      have z := (sm_at (M := 27000) (by decide) rfl fm hf).2.2.1 f1
      have m : f.1 * (whF fs / f.2) ∈ smF fs (whF fs) := List.mem_map.mpr ⟨f, hf, rfl⟩
      exact Int.le_trans (Int.le_of_dvd (by omega) (ga _ m)) (sn _ m).2
    have scE : scF fs = (smF fs (whF fs)).map fun n => n / gcF (smF fs (whF fs)) := rfl
    rw [scE] at q
    generalize smF fs (whF fs) = ns at *
    walk_at "rd"
    subst hk
    refine seq_intro fun k hk => ?_
    walk_at "rd"
    subst hk
    refine seq_intro fun k hk => ?_
    walk_at "rd"
    obtain ⟨IV, hIV⟩ : ∃ P : Nat → En → Prop, ∀ j E, P j E ↔ ∃ (s6 : Sl), s6.free ∧ E = [Sl.fz (D.lst (fs.map frT)), Sl.fz (D.int (whF fs)), .un, .un, Sl.fz (.lst (ns.map D.int)), .fz (.int (gcF (ns.take j))), s6] := ⟨_, fun _ _ => Iff.rfl⟩
    refine ⟨fun j E => IV j E, (hIV _ _).mpr ⟨.un, True.intro, rfl⟩, ?_, ?_⟩
    · rintro j y _ hj hE
      obtain ⟨s6, f6, rfl⟩ := (hIV _ _).mp hE
      clear hE hk
      obtain ⟨n, en, rfl⟩ := map_get hj
      obtain ⟨n0, n1⟩ := sn n (List.mem_of_getElem? en)
      obtain ⟨_, hb, _⟩ := gc_ok _ (ns.take j) rfl
      refine ⟨f6, ?_⟩
      walk_at "rd"
      refine ⟨_, _, rfl, rfl, hb, n0, by omega, (hIV _ _).mpr ⟨.fz (.int n), True.intro, ?_⟩⟩
      rw [List.take_add_one, en, Option.toList_some, gcF_app]
    · intro E hE
      obtain ⟨s6, f6, rfl⟩ := (hIV _ _).mp hE
      clear hE
      rw [List.length_map, List.take_length]
      subst hk
      walk_at "rd"
      refine lcD_all ns D.int (fun n => .int (n / gcF ns)) _ rfl rfl (small_le (by omega)) (fun n hn R hR => ?_) ?_
      · have := sn n hn
        walk_at "rd"
        exact ⟨⟨by omega, Nat.lt_trans (log_lt (by have := g60; omega) (by have := g60; omega)) (by decide)⟩, hR _ rfl⟩
      walk_at "rd"
      rw [show ns.map (fun n => D.int (n / gcF ns)) = (ns.map fun n => n / gcF ns).map D.int from by rw [List.map_map]; rfl]
      exact q
abbrev s_price_of : Stmt := top 78
abbrev N_price_of : List Str := ["board", "kind", "best", "trail", "ratio_here"]
theorem sc_price_of : FnScope N_price_of ["board", "kind"] (defScope s_price_of) := ⟨rfl, rfl, rfl, by decide +kernel, rfl, by decide +kernel, by decide +kernel⟩
def R_price_of : D → D → (D → Prop) → Prop := fun b k Q => ∃ (nk kv : Int) (os : List Of), b = bd nk os ∧ k = .int kv ∧ BO nk os ∧ 0 ≤ kv ∧ kv < nk ∧ ∀ is, BestA os kv is → Q (frT (frP os is))
theorem ok_price_of (h_price_of : Dfn K mg "price_of" s_price_of ["board", "kind"]) (B : Bl mg) (c_trails_from : Cal P w K mg base CX0 "trails_from" 5 ["board", "kind"] (liftP K (sp2 R_trails_from))) (c_ratio_of : Cal P w K mg base CX0 "ratio_of" 3 ["board", "indexes"] (liftP K (sp2 R_ratio_of))) (c_is_greater : Cal P w K mg base CX0 "is_greater" 1 ["one", "other"] (liftP K (sp2 R_is_greater))) : Cal P w K mg base CX0 "price_of" 6 ["board", "kind"] (liftP K (sp2 R_price_of)) := by
  obtain ⟨f_trails_from, fd_trails_from, C_trails_from⟩ := c_trails_from
  obtain ⟨f_ratio_of, fd_ratio_of, C_ratio_of⟩ := c_ratio_of
  obtain ⟨f_is_greater, fd_is_greater, C_is_greater⟩ := c_is_greater
  refine cal_pure h_price_of sc_price_of (by decide) sp2_len ⟨_, fun f cdv A outer s H E hgd hr => (b_cons (s_set (i := 2) sc_price_of.nd (d_tup (dc d_int (dc d_int dn))))
    (b_cons (s_for PassesOwn.never rfl (i_seq (d_call C_trails_from.fn hgd hr C_trails_from.mg C_trails_from.kp C_trails_from.bd pass0 (dc (dv 0) (dc (dv 1) dn)))) (g_name (i := 3) sc_price_of.nd) (b_cons (s_set (i := 4) sc_price_of.nd (d_call C_ratio_of.fn hgd (hr.mono (by decide)) C_ratio_of.mg C_ratio_of.kp C_ratio_of.bd pass0 (dc (dv 0) (dc (dv 3) dn))))
    (b_one (s_if (t_val (d_call C_is_greater.fn hgd (hr.mono (by decide)) C_is_greater.mg C_is_greater.kp C_is_greater.bd pass0 (dc (dv 4) (dc (dv 2) dn)))) (b_one (s_set (i := 2) sc_price_of.nd (dv 4))) b_nil))))
    (b_one (s_ret (dv 2))))), sp2_by ?_⟩
  rintro _ _ Q ⟨nk, kv, os, rfl, rfl, h, k0, k1, q⟩
  have k4 := h.k4
  have ol := h.len
  refine seq_intro fun k hk => ?_
  walk_at "rd"
  refine ⟨by decide, ?_⟩
  subst hk
  refine seq_intro fun k hk => ?_
  walk_at "rd"
  refine ⟨nk, kv, os, rfl, rfl, h, k0, k1, fun ts ht tl => ?_⟩
  dsimp only
  have tv : ∀ is ∈ ts, ∃ v, Trl os kv is v := fun is hi => (ht.mem is).mp hi
  obtain ⟨IO, hIO⟩ : ∃ P : Nat → En → Prop, ∀ j E, P j E ↔ ∃ (bs : List Int) (s3 s4 : Sl), (s3.free ∧ s4.free) ∧ (∃ v, Trl os kv bs v) ∧ (∀ is ∈ ts.take j, rLe os is bs) ∧ E = [Sl.fz (bd nk os), Sl.fz (D.int kv), Sl.fz (frT (frP os bs)), s3, s4] := ⟨_, fun _ _ => Iff.rfl⟩
  refine ⟨fun j E => IO j E, (hIO _ _).mpr ⟨[], .un, .un, ⟨True.intro, True.intro⟩, ⟨kv, rfl, (fun i hi => nomatch hi), by simp [bsK]⟩, (fun k hk => nomatch hk), by rw [frT_frP]; exact congrArg (fun x => [Sl.fz (bd nk os), Sl.fz (D.int kv), Sl.fz x, Sl.un, Sl.un]) fr_one.symm⟩, ?_, ?_⟩
  · rintro j y _ hj hE
    obtain ⟨bs, s3, s4, ⟨f3, f4⟩, ⟨v2, tr2⟩, hb, rfl⟩ := (hIO _ _).mp hE
    clear hE hk
    obtain ⟨is, ei, rfl⟩ := map_get hj
    have im := List.mem_of_getElem? ei
    obtain ⟨v, tr⟩ := tv is im
    have il := trl_len h k0 k1 tr
    have tk : ts.take (j + 1) = ts.take j ++ [is] := by
      rw [List.take_add_one, ei]
      rfl
    have o1 : ∀ i ∈ is, 0 ≤ i ∧ i < (os.length : Int) := fun i hi => ⟨(wlk_ix tr.1 i hi).i0, (wlk_ix tr.1 i hi).i1⟩
    refine ⟨f3, ?_⟩
    refine seq_intro fun k hk => ?_
    unfold isD
    walk_at "rd"
    refine ⟨nk, os, is, rfl, rfl, h, o1, by omega, List.all_eq_true.mpr fun i hi => decide_eq_true (by have := (wlk_ix tr.1 i hi).y1; omega), ?_⟩
    dsimp only
    refine ⟨f4, ?_⟩
    subst hk
    unfold frT frP
    walk_at "rd"
    obtain ⟨x1, x2⟩ := pr_pos h tr.1
    obtain ⟨x3, x4⟩ := pr_pos h tr2.1
    have il2 := trl_len h k0 k1 tr2
    have b1 := pr_bd3 h tr.1 (by omega)
    have b2 := pr_bd3 h tr2.1 (by omega)
    have q1 := Int.ediv_le_self (b := gI (prY os is) (prX os is)) (show 0 ≤ prX os is by omega)
    have q2 := Int.ediv_le_self (b := gI (prY os bs) (prX os bs)) (show 0 ≤ prX os bs by omega)
    have q3 := Int.ediv_nonneg (show 0 ≤ prX os is by omega) (gI_nn (prY os is) (prX os is))
    have q4 := Int.ediv_nonneg (show 0 ≤ prX os bs by omega) (gI_nn (prY os bs) (prX os bs))
    refine ⟨_, _, _, _, rfl, rfl, ⟨by omega, by omega⟩, ⟨by omega, by omega⟩, ?_⟩
    rw [red_cmp x2 x1 x4 x3]
    have all : ∀ {cs : List Int}, (∀ qs ∈ ts.take j, rLe os qs cs) → rLe os is cs → ∀ qs ∈ ts.take (j + 1), rLe os qs cs := fun hc hi qs hq => by
      rw [tk] at hq
      rcases List.mem_append.mp hq with z | z
      · exact hc qs z
      · rw [List.mem_singleton.mp z]
        exact hi
    by_cases cg : prY os is * prX os bs > prY os bs * prX os is
    · rw [decide_eq_true cg]
      refine (hIO _ _).mpr ⟨is, .fz (isD is), .fz (frT (frP os is)), ⟨True.intro, True.intro⟩, ⟨v, tr⟩, all (fun qs hq => ?_) rLe_refl, rfl⟩
      obtain ⟨v3, t3⟩ := tv qs (List.mem_of_mem_take hq)
      exact rLe_trans h t3.1 tr2.1 tr.1 (hb qs hq) (by unfold rLe; omega)
    · rw [decide_eq_false cg]
      exact (hIO _ _).mpr ⟨bs, .fz (isD is), .fz (frT (frP os is)), ⟨True.intro, True.intro⟩, ⟨v2, tr2⟩, all hb (by unfold rLe; omega), rfl⟩
  · intro E hE
    obtain ⟨bs, s3, s4, ⟨f3, f4⟩, tb, hb, rfl⟩ := (hIO _ _).mp hE
    clear hE
    rw [List.length_map, List.take_length] at hb
    subst hk
    walk_at "rd"
    exact q bs ⟨tb, fun js v tj => hb js ((ht.mem js).mpr ⟨v, tj⟩)⟩
abbrev s_worths : Stmt := top 80
abbrev N_worths : List Str := ["board", "loop", "kind"]
theorem sc_worths : FnScope N_worths ["board"] (defScope s_worths) := ⟨rfl, rfl, rfl, by decide +kernel, rfl, by decide +kernel, by decide +kernel⟩
def R_worths : D → (D → Prop) → Prop := fun b Q => ∃ (nk : Int) (os : List Of), b = bd nk os ∧ BO nk os ∧ (∀ r, GlR os (rg nk) r → Q (.tup [.str "loop", isD r])) ∧ (NoGain os (fun _ => True) → ∀ fs, PrF os (rg nk) fs → Q (.tup [.str "prices", .tup ((scF fs).map D.int)]))
theorem ok_worths (h_worths : Dfn K mg "worths" s_worths ["board"]) (B : Bl mg) (v_LOOP : ∃ t, mg "LOOP" = some (.str "loop" t)) (v_PRICES : ∃ t, mg "PRICES" = some (.str "prices" t)) (c_gaining_loop : Cal P w K mg base CX0 "gaining_loop" 7 ["board", "kinds"] (liftP K (sp2 R_gaining_loop))) (c_scaled : Cal P w K mg base CX0 "scaled" 2 ["fractions"] (liftP K (sp1 R_scaled))) (c_price_of : Cal P w K mg base CX0 "price_of" 6 ["board", "kind"] (liftP K (sp2 R_price_of))) : Cal P w K mg base CX0 "worths" 8 ["board"] (liftP K (sp1 R_worths)) := by
  obtain ⟨f_gaining_loop, fd_gaining_loop, C_gaining_loop⟩ := c_gaining_loop
  obtain ⟨f_scaled, fd_scaled, C_scaled⟩ := c_scaled
  obtain ⟨f_price_of, fd_price_of, C_price_of⟩ := c_price_of
  refine cal_pure h_worths sc_worths (by decide) sp1_len ⟨_, fun f cdv A outer s H E hgd hr => (b_cons (s_set (i := 1) sc_worths.nd (d_call C_gaining_loop.fn hgd hr C_gaining_loop.mg C_gaining_loop.kp C_gaining_loop.bd pass0 (dc (dv 0) (dc (d_listRg rfl B.list B.range (d_ixV 0 d_int)) dn))))
    (b_cons (s_if (t_notN (dv 1) d_non) (b_one (s_ret (d_tup (dc (d_globS v_LOOP) (dc (dv 1) dn))))) b_nil)
    (b_one (s_ret (d_tup (dc (d_globS v_PRICES) (dc (d_call C_scaled.fn hgd (hr.mono (by decide)) C_scaled.mg C_scaled.kp C_scaled.bd pass0 (dc (d_lc (own := [("kind", 2)]) rfl sc_worths.nd (i_range1 B.range (dc (d_ixV 0 d_int) dn)) (blkOk_by (N := N_worths) (sc := defScope s_worths) (by decide +kernel)) (fun _ _ _ _ _ => (c_name (i := 2) sc_worths.nd)) (fun _ _ _ _ _ => ts_nil) (fun _ _ _ _ _ => (d_call C_price_of.fn hgd (hr.mono (by decide)) C_price_of.mg C_price_of.kp C_price_of.bd pass0 (dc (dv 0) (dc (dv 2) dn))))) dn)) dn))))))), sp1_by ?_⟩
  rintro _ Q ⟨nk, os, rfl, h, q1, q2⟩
  have k1 := h.k1
  have k4 := h.k4
  have e62 : (2 : Int) ^ 62 = 4611686018427387904 := by decide
  have rl : (rg nk).length = nk.toNat := rg_len nk
  refine seq_intro fun k hk => ?_
  unfold bd
  walk_at "rd"
  refine ⟨⟨by omega, by omega⟩, ?_⟩
  refine ⟨nk, os, rg nk, rfl, by rw [rngD_rg], h, fun k hk => mem_rg.mp hk, fun hno => ?_, fun r gl => ?_⟩
  · dsimp only
    subst hk
    refine seq_intro fun k hk => ?_
    walk_at "rd"
    have ng : NoGain os (fun _ => True) := fun u is _ w1 w2 w3 w4 => by
      obtain ⟨u0, u1⟩ : 0 ≤ u ∧ u < nk := by
        cases is with
        | nil => exact absurd rfl w4
        | cons i is =>
          obtain ⟨e, hu, _⟩ := w1
          rw [← hu]
          exact (ed_x h e).2.2.2.1
      exact hno u (mem_rg.mpr ⟨u0, u1⟩) is ⟨w1, w2, w3, w4⟩
    subst hk
    walk_at "rd"
    refine ⟨⟨by omega, by omega⟩, ?_⟩
    rw [rngD_rg]
    obtain ⟨IA, hIA⟩ : ∃ P : Nat → List D → En → Prop, ∀ j acc E, P j acc E ↔ ∃ fs : List (Int × Int), acc = fs.map frT ∧ PrF os ((rg nk).take j) fs ∧ E = [Sl.fz (D.tup [D.int nk, D.tup (os.map Of.d)]), .fz .non, .un] := ⟨_, fun _ _ _ => Iff.rfl⟩
    refine ⟨fun j acc E => IA j acc E, (hIA _ _ _).mpr ⟨[], rfl, PrF.nil os, rfl⟩, ?_, ?_⟩
    · rintro j y acc _ hj hA
      obtain ⟨fs, rfl, pf, rfl⟩ := (hIA _ _ _).mp hA
      clear hA
      obtain ⟨kv, ej, rfl⟩ := map_get hj
      obtain ⟨v0, v1⟩ := mem_rg.mp (List.mem_of_getElem? ej)
      have jl := (List.getElem?_eq_some_iff.mp ej).1
      have fl := pf.len
      rw [List.length_take] at fl
      walk_at "rd"
      refine ⟨nk, kv, os, rfl, rfl, h, v0, v1, fun is hb => ⟨small_lt (by rw [List.length_map]; omega), (hIA _ _ _).mpr ⟨fs ++ [frP os is], by rw [List.map_append]; rfl, ?_, rfl⟩⟩⟩
      rw [List.take_add_one, ej]
      exact pf.snoc hb
    · intro acc E hA
      obtain ⟨fs, rfl, pf, rfl⟩ := (hIA _ _ _).mp hA
      clear hA
      rw [List.length_map, List.take_length] at pf
      obtain ⟨fm, fp, fl⟩ := pf.frm h
      walk_at "rd"
      refine ⟨fs, rfl, by omega, fm, ?_, ?_⟩
      · cases fs with
        | nil =>
          have fl : 0 = nk.toNat := fl
          omega
        | cons f fs => exact ⟨f, List.mem_cons_self, fp f List.mem_cons_self⟩
      · walk_at "rd"
        exact ⟨by decide, q2 ng fs pf⟩
  · dsimp only
    subst hk
    refine seq_intro fun k hk => ?_
    unfold isD
    walk_at "rd"
    exact ⟨by decide, q1 r gl⟩
def LoopD (nk : Int) (os : List Of) (l : D) : Prop := (l = .non ∧ NoGain os (fun _ => True)) ∨ ∃ r, l = isD r ∧ Tld os nk r
def tillF (b p l : D) : List (Str × D) := [("kept", .non), ("board", b), ("purse", p), ("loop", l), ("states", .lst [.tup [b, p, l]]), ("standing", .lst []), ("watching", .bl false)]
/-- the text of a till without edits -/
def nS (n : Int) : Str := Str.ofString (toString n)
def amS (ns : List Int) : Str := Str.join (Str.ofString " ") (ns.map nS)
def tillS (os : List Of) (ns : List Int) : Str := Str.empty ++ nS os.length ++ Str.ofString " offers, purse " ++ amS ns ++ Str.ofString ", " ++ nS 0 ++ Str.ofString " edits"
theorem join_le {sep : Str} {B : Nat} : ∀ ys : List Str, (∀ y ∈ ys, y.length ≤ B) → (Str.join sep ys).length ≤ ys.length * (B + sep.length)
  | [], _ => Nat.zero_le _
  | [x], h => by
    have := h x (by simp)
    show x.length ≤ 1 * _
    omega
  | x :: y :: r, h => by
    have ih := join_le (sep := sep) (y :: r) fun z hz => h z (List.mem_cons_of_mem _ hz)
    have hx := h x (by simp)
    show (x ++ sep ++ Str.join sep (y :: r)).length ≤ ((y :: r).length + 1) * _
    rw [strLen_append, strLen_append, Nat.add_mul]
    omega
theorem sum_le {B : Nat} : ∀ ys : List Str, (∀ y ∈ ys, y.length ≤ B) → (ys.map fun y => y.length).sum ≤ ys.length * B
  | [], _ => Nat.zero_le _
  | x :: r, h => by
    have ih := sum_le r fun z hz => h z (List.mem_cons_of_mem _ hz)
    have hx := h x (by simp)
    rw [List.map_cons, List.sum_cons, List.length_cons, Nat.add_mul]
    omega
theorem nS_len {n : Int} (h0 : 0 ≤ n) (h1 : n ≤ 1000000) : (nS n).length ≤ 21 := (Sh.int (a := n) (b := 20) (by decide) (by decide) (by omega)).size
theorem am_B {ns : List Int} (hn : ∀ n ∈ ns, 0 ≤ n ∧ n ≤ 1000000) : ∀ y ∈ ns.map nS, y.length ≤ 21 := fun y hy => by
  obtain ⟨n, h, rfl⟩ := List.mem_map.mp hy
  exact nS_len (hn n h).1 (hn n h).2
theorem s1_len : (Str.ofString " ").length = 1 := by decide +kernel
theorem am_len {ns : List Int} (hl : ns.length ≤ 4) (hn : ∀ n ∈ ns, 0 ≤ n ∧ n ≤ 1000000) : (amS ns).length ≤ 88 := by
  have z := join_le (sep := Str.ofString " ") _ (am_B hn)
  rw [List.length_map, s1_len] at z
  unfold amS
  omega
theorem am_sum {ns : List Int} (hl : ns.length ≤ 4) (hn : ∀ n ∈ ns, 0 ≤ n ∧ n ≤ 1000000) : ((ns.map nS).map fun y => y.length).sum + (ns.map nS).length * (Str.ofString " ").length ≤ 16777216 := by
  have z := sum_le _ (am_B hn)
  rw [s1_len]
  rw [List.length_map] at z ⊢
  omega
theorem nS_lg {n : Int} (h0 : 0 ≤ n) (h1 : n ≤ 1000000) : n.natAbs.log2 < 1920 := Nat.lt_trans (log_of (k := 20) (by decide) (by omega)) (by decide)
def getG (ks : List (List Int × Int × Int)) (k : List Int) : Int × Int := ((ks.find? fun x => decide (x.1 = k)).map (·.2)).getD (0, 1)
def setG (ks : List (List Int × Int × Int)) (k : List Int) (d : Int × Int) : List (List Int × Int × Int) := if k ∈ ks.map (·.1) then ks.map (fun x => if x.1 = k then (x.1, d) else x) else ks ++ [(k, d)]
def putG (ks : List (List Int × Int × Int)) (k : List Int) (nu de : Int) : List (List Int × Int × Int) := if nu * (getG ks k).2 > (getG ks k).1 * de then setG ks k (nu, de) else ks
def dG (ks : List (List Int × Int × Int)) : List (List Int × D) := ks.map fun x => (x.1, frT x.2)
theorem lk_G (ks : List (List Int × Int × Int)) (k : List Int) : (lkT (dG ks) k).getD (D.tup [.int 0, .int 1]) = frT (getG ks k) := by
  unfold lkT dG getG
  rw [List.find?_map]
  show (((ks.find? fun x => decide (x.1 = k)).map fun x => (x.1, frT x.2)).map (·.2)).getD _ = _
  cases ks.find? fun x => decide (x.1 = k) with
  | none => rfl
  | some x => rfl
theorem put_G (ks : List (List Int × Int × Int)) (k : List Int) (d : Int × Int) : putTD (dG ks) k (frT d) = dG (setG ks k d) := by
  unfold putTD setG dG
  rw [List.map_map, show ((fun x : List Int × D => x.1) ∘ fun x : List Int × Int × Int => (x.1, frT x.2)) = (·.1) from rfl]
  by_cases h : k ∈ ks.map (·.1)
  · rw [if_pos h, if_pos h, List.map_map, List.map_map]
    refine List.map_congr_left fun x _ => ?_
    show (if x.1 = k then (x.1, frT d) else (x.1, frT x.2)) = _
    by_cases e : x.1 = k
    · rw [if_pos e]
      show _ = (fun x : List Int × Int × Int => (x.1, frT x.2)) (if x.1 = k then (x.1, d) else x)
      rw [if_pos e]
    · rw [if_neg e]
      show _ = (fun x : List Int × Int × Int => (x.1, frT x.2)) (if x.1 = k then (x.1, d) else x)
      rw [if_neg e]
  · rw [if_neg h, if_neg h, List.map_append]
    rfl
def SmG (ks : List (List Int × Int × Int)) : Prop := ∀ x ∈ ks, (0 ≤ x.2.1 ∧ x.2.1 < 1152921504606846976) ∧ 1 ≤ x.2.2 ∧ x.2.2 < 1152921504606846976
theorem SmG.get {ks : List (List Int × Int × Int)} (h : SmG ks) (k : List Int) : (0 ≤ (getG ks k).1 ∧ (getG ks k).1 < 1152921504606846976) ∧ 1 ≤ (getG ks k).2 ∧ (getG ks k).2 < 1152921504606846976 := by
  unfold getG
  cases e : ks.find? fun x => decide (x.1 = k) with
  | none => exact ⟨⟨by decide, by decide⟩, by decide, by decide⟩
  | some x => exact h x (List.mem_of_find?_eq_some e)

abbrev s_loop_of : Stmt := top 82
abbrev N_loop_of : List Str := ["board", "word", "found"]
theorem sc_loop_of : FnScope N_loop_of ["board"] (defScope s_loop_of) := ⟨rfl, rfl, rfl, by decide +kernel, rfl, by decide +kernel, by decide +kernel⟩
def R_loop_of : D → (D → Prop) → Prop := fun b Q => ∃ (nk : Int) (os : List Of), b = bd nk os ∧ BO nk os ∧ ∀ l, LoopD nk os l → Q l
theorem ok_loop_of (h_loop_of : Dfn K mg "loop_of" s_loop_of ["board"]) (B : Bl mg) (c_worths : Cal P w K mg base CX0 "worths" 8 ["board"] (liftP K (sp1 R_worths))) : Cal P w K mg base CX0 "loop_of" 9 ["board"] (liftP K (sp1 R_loop_of)) := by
  obtain ⟨f_worths, fd_worths, C_worths⟩ := c_worths
  refine cal_pure h_loop_of sc_loop_of (by decide) sp1_len ⟨_, fun f cdv A outer s H E hgd hr => (b_cons (s_asg (d_call C_worths.fn hgd hr C_worths.mg C_worths.kp C_worths.bd pass0 (dc (dv 0) dn)) (g_tup (n := 2) rfl (gs_cons (g_name (i := 1) sc_loop_of.nd) (gs_cons (g_name (i := 2) sc_loop_of.nd) gs_nil))))
    (b_one (s_ret (d_ifx (t_eq hr.units (dv 1) d_str) (dv 2) d_non)))), sp1_by ?_⟩
  rintro _ Q ⟨nk, os, rfl, h, q⟩
  refine seq_intro fun k hk => ?_
  walk_at "rd"
  refine ⟨nk, os, rfl, h, fun r gl => ?_, fun ng fs pf => ?_⟩
  · walk_at "rd"
    subst hk
    walk_at "rd"
    exact q _ (.inr ⟨r, rfl, gl.tld h⟩)
  · walk_at "rd"
    subst hk
    walk_at "rd"
    exact q _ (.inl ⟨rfl, ng⟩)
/-- the i-th statement of a class -/
def clsub (st : Stmt) (i : Nat) : Stmt := match st with
  | .ClassDef _ _ _ body .. => body.getD i (.Pass ⟨0, 0, 0, 0⟩)
  | _ => .Pass ⟨0, 0, 0, 0⟩
abbrev ini_NoVersion : Stmt := clsub (top 36) 0
theorem sh_NoVersion : Xm.Shape1 "NoVersion.__init__" ini_NoVersion "value" := ⟨⟨"self", "value", _, _, _, _, _, _, _, _, _, _, _, rfl, rfl, rfl, ⟨by decide +kernel, by decide +kernel, by decide +kernel, rfl, rfl, rfl, rfl, rfl⟩, by decide, by decide, fun _ _ _ _ _ _ _ _ _ => rfl, fun _ _ _ _ => ⟨_, rfl⟩⟩⟩
abbrev ini_BadBoard : Stmt := clsub (top 23) 0
theorem sh_BadBoard : Xm.Shape1 "BadBoard.__init__" ini_BadBoard "error" := ⟨⟨"self", "error", _, _, _, _, _, _, _, _, _, _, _, rfl, rfl, rfl, ⟨by decide +kernel, by decide +kernel, by decide +kernel, rfl, rfl, rfl, rfl, rfl⟩, by decide, by decide, fun _ _ _ _ _ _ _ _ _ => rfl, fun _ _ _ _ => ⟨_, rfl⟩⟩⟩
abbrev ini_BadPurse : Stmt := clsub (top 22) 0
theorem sh_BadPurse : Xm.Shape1 "BadPurse.__init__" ini_BadPurse "value" := ⟨⟨"self", "value", _, _, _, _, _, _, _, _, _, _, _, rfl, rfl, rfl, ⟨by decide +kernel, by decide +kernel, by decide +kernel, rfl, rfl, rfl, rfl, rfl⟩, by decide, by decide, fun _ _ _ _ _ _ _ _ _ => rfl, fun _ _ _ _ => ⟨_, rfl⟩⟩⟩
abbrev s_Till___init__ : Stmt := clsub (top 85) 1
abbrev N_Till___init__ : List Str := ["self", "board", "purse", "error"]
theorem sc_Till___init__ : FnScope N_Till___init__ ["self", "board", "purse"] (defScope s_Till___init__) := ⟨rfl, rfl, rfl, by decide +kernel, rfl, by decide +kernel, by decide +kernel⟩
def R_Till___init__ : Addr → Ow → D → D → (D → Ow → Prop) → (Xd → Ow → Prop) → Prop := fun C o b p Q W => b.plainK = true ∧ p.plainK = true ∧ o = .oi C [] ∧ (beD b ≠ .non → W ⟨"BadBoard", [("error", beD b)]⟩ (.oi C [])) ∧ (∀ nk os, b = bd nk os → BO nk os → beD b = .non → purB nk p = false → W ⟨"BadPurse", [("value", p)]⟩ (.oi C [])) ∧
    ∀ nk os l, b = bd nk os → BO nk os → beD b = .non → purB nk p = true → LoopD nk os l → Q .non (.oi C (tillF b p l))
theorem ok_Till___init__ {A_BadBoard : Addr} {A_BadPurse : Addr} {A_Till : Addr} (l_Till : L2.Cls K A_Till) (m_BadBoard : mg "BadBoard" = some (.ref A_BadBoard)) (m_BadPurse : mg "BadPurse" = some (.ref A_BadPurse)) (o_Till_board : OFld K A_Till "board") (o_Till_kept : OFld K A_Till "kept") (o_Till_loop : OFld K A_Till "loop") (o_Till_purse : OFld K A_Till "purse") (o_Till_standing : OFld K A_Till "standing") (o_Till_states : OFld K A_Till "states") (o_Till_watching : OFld K A_Till "watching") (x_BadBoard : Xm.XOne P K mg A_BadBoard "error") (x_BadPurse : Xm.XOne P K mg A_BadPurse "value") (h_Till___init__ : DfnI K mg "Till" A_Till "Till.__init__" s_Till___init__ ["self", "board", "purse"]) (B : Bl mg) (c_board_error : Cal P w K mg base CX0 "board_error" 4 ["value"] (liftP K (sp1 R_board_error))) (c_loop_of : Cal P w K mg base CX0 "loop_of" 9 ["board"] (liftP K (sp1 R_loop_of))) (c_is_purse : Cal P w K mg base CX0 "is_purse" 3 ["value", "many"] (liftP K (sp2 R_is_purse))) : CalI P w K mg base "Till" A_Till 10 ["self", "board", "purse"] (sox2 (R_Till___init__ A_Till)) := by
  obtain ⟨f_board_error, fd_board_error, C_board_error⟩ := c_board_error
  obtain ⟨f_loop_of, fd_loop_of, C_loop_of⟩ := c_loop_of
  obtain ⟨f_is_purse, fd_is_purse, C_is_purse⟩ := c_is_purse
  refine cal_init h_Till___init__ sc_Till___init__ sox2_len ⟨_, fun f cdv A outer s H E hgd hr => (b_cons (s_set (i := 3) sc_Till___init__.nd (d_call C_board_error.fn hgd (hr.mono (by decide)) C_board_error.mg C_board_error.kp C_board_error.bd pass0 (dc (dv 1) dn)))
    (b_cons (s_if (t_notN (dv 3) d_non) (b_one (s_raise1 x_BadBoard (hr.mono (by decide)) m_BadBoard (dc (dv 3) dn))) b_nil)
    (b_cons (s_if (t_not (t_val (d_call C_is_purse.fn hgd (hr.mono (by decide)) C_is_purse.mg C_is_purse.kp C_is_purse.bd pass0 (dc (dv 2) (dc (d_ixV 1 d_int) dn))))) (b_one (s_raise1 x_BadPurse (hr.mono (by decide)) m_BadPurse (dc (dv 2) dn))) b_nil)
    (b_cons (s_fldSetK K 0 d_non)
    (b_cons (s_fldSetK K 0 (dv 1))
    (b_cons (s_fldSetK K 0 (dv 2))
    (b_cons (s_fldSetK K 0 (d_call C_loop_of.fn hgd hr C_loop_of.mg C_loop_of.kp C_loop_of.bd pass0 (dc (dv 1) dn)))
    (b_cons (s_fldSetK K 0 (d_lst (dc (d_tup (dc (dv 1) (dc (dv 2) (dc (d_fldO K 0) dn)))) dn)))
    (b_cons (s_fldSetK K 0 (d_lst dn))
    (b_one (s_fldSetK K 0 d_bl))))))))))), sox2_by ?_⟩
  rintro o b p Q W ⟨hb, hp, rfl, w1, w2, q⟩
  refine seq_intro fun k hk => ?_
  walk_at "rd"
  refine ⟨hb, ?_⟩
  subst hk
  refine seq_intro fun k hk => ?_
  walk_at "rd"
  rcases beD_tp b with e | ⟨xs, e⟩
  · obtain ⟨nk, os, rfl, bo⟩ := beD_non e
    rw [e]
    walk_at "rd"
    subst hk
    refine seq_intro fun k hk => ?_
    walk_at "rd"
    refine ⟨nk, rfl, bo.k4, hp, ?_⟩
    cases c : purB nk p with
    | false =>
      walk_at "rd"
      exact ⟨_, rfl, w2 nk os rfl bo e c⟩
    | true =>
      walk_at "rd"
      subst hk
      refine seq_intro fun k hk => ?_
      walk_at "rd"
      refine ⟨o_Till_kept, by decide, ?_⟩
      subst hk
      refine seq_intro fun k hk => ?_
      walk_at "rd"
      refine ⟨o_Till_board, by show (1 : Nat) < 1000; decide, ?_⟩
      subst hk
      refine seq_intro fun k hk => ?_
      walk_at "rd"
      refine ⟨o_Till_purse, by show (2 : Nat) < 1000; decide, ?_⟩
      subst hk
      refine seq_intro fun k hk => ?_
      walk_at "rd"
      refine ⟨nk, os, rfl, bo, fun l hl => ?_⟩
      walk_at "rd"
      refine ⟨o_Till_loop, by show (3 : Nat) < 1000; decide, ?_⟩
      subst hk
      refine seq_intro fun k hk => ?_
      walk_at "rd"
      refine ⟨o_Till_loop, l, rfl, by decide, by decide, o_Till_states, by show (4 : Nat) < 1000; decide, ?_⟩
      subst hk
      refine seq_intro fun k hk => ?_
      walk_at "rd"
      refine ⟨by decide, o_Till_standing, by show (5 : Nat) < 1000; decide, ?_⟩
      subst hk
      walk_at "rd"
      exact ⟨o_Till_watching, by show (6 : Nat) < 1000; decide, _, rfl, q nk os l rfl bo e c hl⟩
  · rw [e]
    walk_at "rd"
    exact ⟨_, rfl, by rw [← e]; exact w1 (by rw [e]; exact fun z => nomatch z)⟩
abbrev s_Till_state_at : Stmt := clsub (top 85) 24
abbrev N_Till_state_at : List Str := ["self", "version"]
theorem sc_Till_state_at : FnScope N_Till_state_at ["self", "version"] (defScope s_Till_state_at) := ⟨rfl, rfl, rfl, by decide +kernel, rfl, by decide +kernel, by decide +kernel⟩
def R_Till_state_at : Addr → D → D → (D → Prop) → (Xd → Prop) → Prop := fun C h v Q W => ∃ b p l : D, h = .ins C (tillF b p l) ∧ (v = .non ∨ v = .int 0) ∧ Q (.tup [b, p, l])
theorem ok_Till_state_at {A_NoVersion : Addr} {A_Till : Addr} (l_Till : L2.Cls K A_Till) (m_NoVersion : mg "NoVersion" = some (.ref A_NoVersion)) (o_Till_board : OFld K A_Till "board") (o_Till_kept : OFld K A_Till "kept") (o_Till_loop : OFld K A_Till "loop") (o_Till_purse : OFld K A_Till "purse") (o_Till_standing : OFld K A_Till "standing") (o_Till_states : OFld K A_Till "states") (o_Till_watching : OFld K A_Till "watching") (x_NoVersion : Xm.XOne P K mg A_NoVersion "value") (h_Till_state_at : DfnM K A_Till "state_at" "Till.state_at" s_Till_state_at ["self", "version"]) (B : Bl mg) (c_is_between : Cal P w K mg base CX0 "is_between" 2 ["value", "low", "high"] (liftP K (sp3 R_is_between))) : CalM P w K mg base A_Till "state_at" 3 ["self", "version"] (spx2 (R_Till_state_at A_Till)) := by
  obtain ⟨f_is_between, fd_is_between, C_is_between⟩ := c_is_between
  refine cal_meth h_Till_state_at sc_Till_state_at spx2_len ⟨_, fun f cdv A outer s H E hgd hr => (b_cons (s_if (t_isN (dv 1) d_non) (b_one (s_ret (d_ix (d_fldK K (dv 0)) (d_neg d_int)))) b_nil)
    (b_cons (s_if (t_not (t_val (d_call C_is_between.fn hgd hr C_is_between.mg C_is_between.kp C_is_between.bd pass0 (dc (dv 1) (dc d_int (dc (d_len B.len (dc (d_fldK K (dv 0)) dn)) dn)))))) (b_one (s_raise1 x_NoVersion (hr.mono (by decide)) m_NoVersion (dc (dv 1) dn))) b_nil)
    (b_one (s_ret (d_ix (d_fldK K (dv 0)) (dv 1)))))), spx2_by ?_⟩
  rintro _ v Q W ⟨b, p, l, rfl, hv, q⟩
  rcases hv with rfl | rfl
  · refine seq_intro fun k hk => ?_
    walk_at "rd"
    exact ⟨o_Till_states, .lst [.tup [b, p, l]], rfl, q⟩
  · refine seq_intro fun k hk => ?_
    walk_at "rd"
    subst hk
    refine seq_intro fun k hk => ?_
    walk_at "rd"
    refine ⟨o_Till_standing, .lst [], rfl, ?_⟩
    walk_at "rd"
    refine ⟨0, 0, rfl, rfl, rfl, ?_⟩
    rw [show btw 0 0 (.int 0) = true from rfl]
    walk_at "rd"
    subst hk
    walk_at "rd"
    exact ⟨o_Till_states, .lst [.tup [b, p, l]], rfl, q⟩
abbrev s_Till_state : Stmt := clsub (top 85) 25
abbrev N_Till_state : List Str := ["self", "version"]
theorem sc_Till_state : FnScope N_Till_state ["self", "version"] (defScope s_Till_state) := ⟨rfl, rfl, rfl, by decide +kernel, rfl, by decide +kernel, by decide +kernel⟩
def R_Till_state : Addr → D → D → (D → Prop) → (Xd → Prop) → Prop := fun C h v Q W => ∃ b p l : D, h = .ins C (tillF b p l) ∧ (v = .non ∨ v = .int 0) ∧ Q (.tup [b, p])
theorem ok_Till_state {A_Till : Addr} (l_Till : L2.Cls K A_Till) (h_Till_state : DfnMK K A_Till "state" "Till.state" s_Till_state ["self", "version"] 1 "version") (B : Bl mg) (c_Till_state_at : CalM P w K mg base A_Till "state_at" 3 ["self", "version"] (spx2 (R_Till_state_at A_Till))) : CalMK P w K mg base A_Till "state" 1 "version" 4 ["self", "version"] (spx2 (R_Till_state A_Till)) := by
  obtain ⟨f_Till_state_at, fd_Till_state_at, C_Till_state_at⟩ := c_Till_state_at
  refine cal_methK h_Till_state sc_Till_state spx2_len ⟨_, fun f cdv A outer s H E hgd hr => (b_one (s_ret (d_slice (d_nx (x_meth C_Till_state_at.cl C_Till_state_at.mt C_Till_state_at.fn hgd hr C_Till_state_at.bd (dv 0) (ax_of (dc (dv 1) dn)))) o_none (o_some d_int)))), spx2_by ?_⟩
  rintro _ v Q W ⟨b, p, l, rfl, hv, q⟩
  walk_at "rd"
  exact ⟨rfl, b, p, l, rfl, hv, q⟩
abbrev s_Till_edits : Stmt := clsub (top 85) 27
abbrev N_Till_edits : List Str := ["self"]
theorem sc_Till_edits : FnScope N_Till_edits ["self"] (defScope s_Till_edits) := ⟨rfl, rfl, rfl, by decide +kernel, rfl, by decide +kernel, by decide +kernel⟩
def R_Till_edits : Addr → D → (D → Prop) → (Xd → Prop) → Prop := fun C h Q W => ∃ b p l : D, h = .ins C (tillF b p l) ∧ Q (.tup [])
theorem ok_Till_edits {A_Till : Addr} (l_Till : L2.Cls K A_Till) (o_Till_board : OFld K A_Till "board") (o_Till_kept : OFld K A_Till "kept") (o_Till_loop : OFld K A_Till "loop") (o_Till_purse : OFld K A_Till "purse") (o_Till_standing : OFld K A_Till "standing") (o_Till_states : OFld K A_Till "states") (o_Till_watching : OFld K A_Till "watching") (h_Till_edits : DfnM K A_Till "edits" "Till.edits" s_Till_edits ["self"]) (B : Bl mg) : CalM P w K mg base A_Till "edits" 1 ["self"] (spx1 (R_Till_edits A_Till)) := by
  refine cal_meth h_Till_edits sc_Till_edits spx1_len ⟨_, fun f cdv A outer s H E hgd hr => (b_one (s_ret (d_tuplec B.tuple (dc (d_fldK K (dv 0)) dn)))), spx1_by ?_⟩
  rintro _ Q W ⟨b, p, l, rfl, q⟩
  walk_at "rd"
  exact ⟨o_Till_standing, .lst [], rfl, q⟩
abbrev s_Till___len__ : Stmt := clsub (top 85) 2
abbrev N_Till___len__ : List Str := ["self"]
theorem sc_Till___len__ : FnScope N_Till___len__ ["self"] (defScope s_Till___len__) := ⟨rfl, rfl, rfl, by decide +kernel, rfl, by decide +kernel, by decide +kernel⟩
theorem ok_Till___len__ {A_Till : Addr} (o_Till_standing : OFld K A_Till "standing") (h_Till___len__ : DfnM K A_Till "__len__" "Till.__len__" s_Till___len__ ["self"]) (B : Bl mg) : CalS P w K mg base A_Till "__len__" 1 ["self"] (spTabLenL K A_Till "standing") := by
  refine cal_tab h_Till___len__ sc_Till___len__ (fun vs H Q E ⟨a, dx, fs, t, zs, ev, _⟩ => by rw [ev]; rfl) ⟨tTabLen K "standing", fun f cdv A outer s H E hgd hr => ?_, ?_⟩
  · exact pss_one (ps_ret (pe_callB L2.call_len_seq (by rfl) B.len PySem.boot_len (pa_cons (pe_fld (pv 0) (by rfl)) pa_nil)))
  exact fun vs H Q E ⟨a, dx, fs, t, zs, ev, ha, hf, hz, q⟩ => by
    subst ev
    exact ⟨.ref a, L3.start_at rfl, a, A_Till, dx, fs, .ref t, rfl, ha, o_Till_standing.1, o_Till_standing.2, hf, t, zs, rfl, .inl hz, q⟩
abbrev s_Till___str__ : Stmt := clsub (top 85) 4
abbrev N_Till___str__ : List Str := ["self", "amounts", "amount"]
theorem sc_Till___str__ : FnScope N_Till___str__ ["self"] (defScope s_Till___str__) := ⟨rfl, rfl, rfl, by decide +kernel, rfl, by decide +kernel, by decide +kernel⟩
def R_Till___str__ : Addr → D → (D → Prop) → (Xd → Prop) → Prop := fun C h Q W => ∃ (nk : Int) (os : List Of) (ns : List Int) (l : D), h = .ins C (tillF (bd nk os) (.tup (ns.map .int)) l) ∧ BO nk os ∧ ns.length ≤ 4 ∧ (∀ n ∈ ns, 0 ≤ n ∧ n ≤ 1000000) ∧ Q (.str (tillS os ns))
theorem ok_Till___str__ {A_Till : Addr} (l_Till : L2.Cls K A_Till) (o_Till_board : OFld K A_Till "board") (o_Till_kept : OFld K A_Till "kept") (o_Till_loop : OFld K A_Till "loop") (o_Till_purse : OFld K A_Till "purse") (o_Till_standing : OFld K A_Till "standing") (o_Till_states : OFld K A_Till "states") (o_Till_watching : OFld K A_Till "watching") (h_Till___str__ : DfnM K A_Till "__str__" "Till.__str__" s_Till___str__ ["self"]) (B : Bl mg) : CalM P w K mg base A_Till "__str__" 1 ["self"] (spx1 (R_Till___str__ A_Till)) := by
  refine cal_meth h_Till___str__ sc_Till___str__ spx1_len ⟨_, fun f cdv A outer s H E hgd hr => (b_cons (s_set (i := 1) sc_Till___str__.nd (d_join d_str (d_lc (own := [("amount", 2)]) rfl sc_Till___str__.nd (i_seq (d_fldK K (dv 0))) (blkOk_by (N := N_Till___str__) (sc := defScope s_Till___str__) (by decide +kernel)) (fun _ _ _ _ _ => (c_name (i := 2) sc_Till___str__.nd)) (fun _ _ _ _ _ => ts_nil) (fun _ _ _ _ _ => (d_strc B.str (dc (dv 2) dn))))))
    (b_one (s_ret (d_fst (.cons (d_fmt (d_len B.len (dc (d_ix (d_fldK K (dv 0)) d_int) dn))) (.cons d_str (.cons (d_fmt (dv 1)) (.cons d_str (.cons (d_fmt (d_len B.len (dc (d_fldK K (dv 0)) dn))) (.cons d_str .nil)))))))))), spx1_by ?_⟩
  rintro _ Q W ⟨nk, os, ns, l, rfl, bo, nl, hn, q⟩
  have e62 : (2 : Int) ^ 62 = 4611686018427387904 := by decide
  refine seq_intro fun k hk => ?_
  walk_at "rd"
  refine ⟨o_Till_purse, .tup (ns.map D.int), rfl, ?_⟩
  dsimp only
  refine lcD_all ns D.int (fun v => D.str (nS v)) _ rfl rfl (small_le (by omega)) (fun v hv R hR => ?_) ?_
  · walk_at "rd"
    exact ⟨nS_lg (hn v hv).1 (hn v hv).2, hR _ rfl⟩
  walk_at "rd"
  refine ⟨ns.map nS, .inl (by rw [List.map_map]; rfl), am_sum nl hn, ?_⟩
  subst hk
  walk_at "rd"
  have al := am_len nl hn
  have ol := bo.len
  have l1 : (nS os.length).length ≤ 21 := nS_len (by omega) (by omega)
  have l0 : (nS 0).length ≤ 21 := nS_len (by decide) (by decide)
  have a1 : (Str.ofString " offers, purse ").length = 15 := by decide +kernel
  have a2 : (Str.ofString ", ").length = 2 := by decide +kernel
  have a3 : (Str.ofString " edits").length = 6 := by decide +kernel
  have a0 : Str.empty.length = 0 := rfl
  refine ⟨o_Till_board, bd nk os, rfl, ?_⟩
  unfold bd
  walk_at "rd"
  rw [show (Str.ofString " ").join (ns.map nS) = amS ns from rfl, List.length_map, show Str.ofString (toString (os.length : Int)) = nS os.length from rfl]
  refine ⟨nS_lg (by omega) (by omega), small_le (by simp only [strLen_append]; omega), small_le (by simp only [strLen_append]; omega), small_le (by omega), small_le (by simp only [strLen_append]; omega), small_le (by simp only [strLen_append]; omega), o_Till_standing, .lst [], rfl, ?_⟩
  walk_at "rd"
  rw [show Str.ofString (toString ((0 : Nat) : Int)) = nS 0 from rfl]
  exact ⟨by decide, small_le (by simp only [strLen_append]; omega), small_le (by simp only [strLen_append]; omega), q⟩
abbrev s__law_put : Stmt := top 94
abbrev N__law_put : List Str := ["_law_table", "_law_pair", "_law_num", "_law_den", "_law_old"]
theorem sc__law_put : FnScope N__law_put ["_law_table", "_law_pair", "_law_num", "_law_den"] (defScope s__law_put) := ⟨rfl, rfl, rfl, by decide +kernel, rfl, by decide +kernel, by decide +kernel⟩
def R__law_put : Ow → D → D → D → (D → Ow → Prop) → (Xd → Ow → Prop) → Prop := fun o k n d Q W => ∃ (ks : List (List Int × Int × Int)) (pr : List Int) (nu de : Int), o = .oT none (dG ks) ∧ k = tI pr ∧ n = .int nu ∧ d = .int de ∧ SmG ks ∧ 1 ≤ de ∧ de < 1152921504606846976 ∧ ks.length ≤ 1000 ∧ Q .non (.oT none (dG (putG ks pr nu de)))
theorem ok__law_put (h__law_put : Dfn K mg "_law_put" s__law_put ["_law_table", "_law_pair", "_law_num", "_law_den"]) (B : Bl mg) : Cal P w K mg base (L2.CX P w) "_law_put" 1 ["_law_table", "_law_pair", "_law_num", "_law_den"] (liftOX K mg (sox3 R__law_put)) := by
  refine cal_ownX h__law_put sc__law_put sox3_len ⟨_, fun f cdv A outer s H E hgd hr => (b_cons (s_set (i := 4) sc__law_put.nd (d_get2TV 0 hr.units1 (dv 1) (d_tup (dc d_int (dc d_int dn)))))
    (b_one (s_if (t_gt (d_mul (dv 2) (d_ixV 4 d_int)) (d_mul (d_ixV 4 d_int) (dv 3))) (b_one (s_putTV 0 hr.units1 (d_tup (dc (dv 2) (dc (dv 3) dn))) (dv 1))) b_nil))), sox3_by ?_⟩
  rintro _ _ _ _ Q W ⟨ks, pr, nu, de, rfl, rfl, rfl, rfl, sm, d1, d2, kl, q⟩
  obtain ⟨⟨g0, g1⟩, g2, g3⟩ := sm.get pr
  refine seq_intro fun k hk => ?_
  walk_at "rd"
  refine ⟨by decide, pr, rfl, ?_⟩
  rw [lk_G]
  subst hk
  unfold frT
  walk_at "rd"
  unfold putG at q
  refine ⟨cmulR (by omega) (by omega), cmulR (by omega) (by omega), ?_⟩
  refine ite_by (fun c => ?_) fun c => ?_
  · rw [if_pos (by omega)] at q
    exact ⟨by decide, pr, rfl, small_lt (by unfold dG; rw [List.length_map]; omega), _, rfl, by rw [show D.tup [D.int nu, D.int de] = frT (nu, de) from rfl, put_G]; exact q⟩
  · rw [if_neg (by omega)] at q
    exact ⟨_, rfl, q⟩
theorem find_keep {f : List Int × Int × Int → List Int × Int × Int} (hf : ∀ x, (f x).1 = x.1) (T : List (List Int × Int × Int)) (k : List Int) : (T.map f).find? (fun x => decide (x.1 = k)) = (T.find? fun x => decide (x.1 = k)).map f := by
  rw [List.find?_map]
  have e : ((fun x : List Int × Int × Int => decide (x.1 = k)) ∘ f) = fun x => decide (x.1 = k) := by
    funext x
    show decide ((f x).1 = k) = _
    rw [hf]
  rw [e]
theorem find_not {T : List (List Int × Int × Int)} {k : List Int} (h : k ∉ T.map (·.1)) : T.find? (fun x => decide (x.1 = k)) = none := by
  rw [List.find?_eq_none]
  intro x hx z
  exact h (List.mem_map.mpr ⟨x, hx, of_decide_eq_true z⟩)
theorem find_key {T : List (List Int × Int × Int)} {k : List Int} {x : List Int × Int × Int} (h : T.find? (fun x => decide (x.1 = k)) = some x) : x.1 = k := by
  have z := List.find?_some h
  exact of_decide_eq_true z
theorem find_in {T : List (List Int × Int × Int)} {k : List Int} (h : k ∈ T.map (·.1)) : ∃ x, T.find? (fun x => decide (x.1 = k)) = some x ∧ x.1 = k ∧ x ∈ T := by
  obtain ⟨y, hy, e⟩ := List.mem_map.mp h
  cases c : T.find? (fun x => decide (x.1 = k)) with
  | none => exact absurd (decide_eq_true e) ((List.find?_eq_none.mp c) y hy)
  | some x => exact ⟨x, rfl, find_key c, List.mem_of_find?_eq_some c⟩
theorem set_get (T : List (List Int × Int × Int)) (k k' : List Int) (d : Int × Int) : getG (setG T k d) k' = if k' = k then d else getG T k' := by
  have keep : ∀ x : List Int × Int × Int, (if x.1 = k then (x.1, d) else x).1 = x.1 := fun x => by
    by_cases e : x.1 = k
    · rw [if_pos e]
    · rw [if_neg e]
  unfold setG
  by_cases h : k ∈ T.map (·.1)
  · rw [if_pos h]
    unfold getG
    rw [find_keep keep]
    by_cases e : k' = k
    · subst e
      rw [if_pos rfl]
      obtain ⟨x, hx, ek, _⟩ := find_in h
      rw [hx]
      show (if x.1 = k' then (x.1, d) else x).2 = d
      rw [if_pos ek]
    · rw [if_neg e]
      cases c : T.find? (fun x => decide (x.1 = k')) with
      | none => rfl
      | some x =>
        have ek : x.1 = k' := find_key c
        show (if x.1 = k then (x.1, d) else x).2 = x.2
        rw [if_neg (by rw [ek]; exact e)]
  · rw [if_neg h]
    unfold getG
    rw [List.find?_append]
    by_cases e : k' = k
    · subst e
      rw [if_pos rfl, find_not h]
      rw [show List.find? (fun x : List Int × Int × Int => decide (x.1 = k')) [(k', d)] = some (k', d) by simp]
      rfl
    · rw [if_neg e]
      cases c : T.find? (fun x => decide (x.1 = k')) with
      | some x => rfl
      | none =>
        rw [find_not (T := [(k, d)]) (k := k') (by simp; exact e)]
        rfl
theorem set_keys (T : List (List Int × Int × Int)) (k : List Int) (d : Int × Int) : (setG T k d).map (·.1) = if k ∈ T.map (·.1) then T.map (·.1) else T.map (·.1) ++ [k] := by
  unfold setG
  by_cases h : k ∈ T.map (·.1)
  · rw [if_pos h, if_pos h, List.map_map]
    refine List.map_congr_left fun x _ => ?_
    show (if x.1 = k then (x.1, d) else x).1 = x.1
    by_cases e : x.1 = k
    · rw [if_pos e]
    · rw [if_neg e]
  · rw [if_neg h, if_neg h, List.map_append]
    rfl
theorem set_mem {T : List (List Int × Int × Int)} {k : List Int} {d : Int × Int} {x : List Int × Int × Int} (h : x ∈ setG T k d) : x ∈ T ∨ x = (k, d) := by
  unfold setG at h
  split at h
  · obtain ⟨y, hy, e⟩ := List.mem_map.mp h
    split at e
    · rename_i c
      exact .inr (by rw [← e, c])
    · exact .inl (by rw [← e]; exact hy)
  · rcases List.mem_append.mp h with h | h
    · exact .inl h
    · exact .inr (List.mem_singleton.mp h)
def fle (f g : Int × Int) : Prop := f.1 * g.2 ≤ g.1 * f.2
theorem fle_refl (f : Int × Int) : fle f f := Int.le_refl _
theorem fle_trans {f g h : Int × Int} (b1 : 1 ≤ f.2) (d1 : 1 ≤ g.2) (f1 : 1 ≤ h.2) (h1 : fle f g) (h2 : fle g h) : fle f h := frac_trans b1 d1 f1 h1 h2
theorem put_ge {T : List (List Int × Int × Int)} (k : List Int) (nu de : Int) : fle (nu, de) (getG (putG T k nu de) k) ∧ ∀ k', fle (getG T k') (getG (putG T k nu de) k') := by
  unfold putG
  by_cases c : nu * (getG T k).2 > (getG T k).1 * de
  · rw [if_pos c]
    refine ⟨by rw [set_get, if_pos rfl]; exact fle_refl _, fun k' => ?_⟩
    rw [set_get]
    by_cases e : k' = k
    · rw [if_pos e, e]
      exact Int.le_of_lt c
    · rw [if_neg e]
      exact fle_refl _
  · rw [if_neg c]
    exact ⟨Int.not_lt.mp c, fun k' => fle_refl _⟩
/-- the table's products are those of ways -/
structure Tab (os : List Of) (n : Nat) (T : List (List Int × Int × Int)) : Prop where
  snd : ∀ x ∈ T, ∃ a b is, x.1 = [a, b] ∧ Wlk os a is b ∧ is ≠ [] ∧ is.length ≤ n ∧ x.2 = (prY os is, prX os is)
  nd : (T.map (·.1)).Nodup
theorem Tab.nil {os : List Of} {n : Nat} : Tab os n [] := ⟨(fun x hx => nomatch hx), List.nodup_nil⟩
theorem Tab.mono {os : List Of} {n m : Nat} {T : List (List Int × Int × Int)} (h : Tab os n T) (hm : n ≤ m) : Tab os m T := ⟨fun x hx => by
  obtain ⟨a, b, is, e, w, ne, l, e2⟩ := h.snd x hx
  exact ⟨a, b, is, e, w, ne, Nat.le_trans l hm, e2⟩, h.nd⟩
theorem Tab.sm {os : List Of} {nk : Int} (hb : BO nk os) {n : Nat} {T : List (List Int × Int × Int)} (h : Tab os n T) (hn : n ≤ 5) : SmG T ∧ ∀ x ∈ T, 1 ≤ x.2.1 := by
  have key : ∀ x ∈ T, (1 ≤ x.2.1 ∧ x.2.1 < 1152921504606846976) ∧ 1 ≤ x.2.2 ∧ x.2.2 < 1152921504606846976 := fun x hx => by
    obtain ⟨a, b, is, e, w, ne, l, e2⟩ := h.snd x hx
    obtain ⟨x1, y1⟩ := pr_pos hb w
    obtain ⟨x2, y2⟩ := pr_bd5 hb w (by omega)
    rw [e2]
    show (1 ≤ prY os is ∧ prY os is < _) ∧ 1 ≤ prX os is ∧ prX os is < _
    omega
  exact ⟨fun x hx => by have := key x hx; omega, fun x hx => (key x hx).1.1⟩
theorem Tab.put {os : List Of} {nk : Int} (hb : BO nk os) {n : Nat} {T : List (List Int × Int × Int)} (h : Tab os n T) (hn : n ≤ 5) {k : List Int} {nu de : Int}
    (hk : (nu = 0 ∧ 1 ≤ de) ∨ ∃ a b is, k = [a, b] ∧ Wlk os a is b ∧ is ≠ [] ∧ is.length ≤ n ∧ (nu, de) = (prY os is, prX os is)) : Tab os n (putG T k nu de) := by
  unfold putG
  by_cases c : nu * (getG T k).2 > (getG T k).1 * de
  · rw [if_pos c]
    obtain ⟨⟨g0, _⟩, g2, _⟩ := (h.sm hb hn).1.get k
    rcases hk with ⟨z, d1⟩ | ⟨a, b, is, ek, w, ne, l, e2⟩
    · rw [z, Int.zero_mul] at c
      have := Int.mul_nonneg g0 (show 0 ≤ de by omega)
      omega
    · refine ⟨fun x hx => ?_, ?_⟩
      · rcases set_mem hx with hx | hx
        · exact h.snd x hx
        · rw [hx]
          exact ⟨a, b, is, ek, w, ne, l, e2⟩
      · rw [set_keys]
        split
        · exact h.nd
        · rename_i c2
          exact List.nodup_append.mpr ⟨h.nd, by simp, fun x hx y hy => by rw [List.mem_singleton.mp hy]; exact fun e => c2 (by rw [← e]; exact hx)⟩
  · rw [if_neg c]
    exact h
/-- what a table covers -/
def CovG (os : List Of) (T : List (List Int × Int × Int)) (a : Int) (is : List Int) (b : Int) : Prop := fle (prY os is, prX os is) (getG T [a, b])
theorem CovG.put {os : List Of} {nk : Int} (hb : BO nk os) {n : Nat} {T : List (List Int × Int × Int)} (h : Tab os n T) (hn : n ≤ 5) {a b : Int} {is : List Int} (w : Wlk os a is b) (hc : CovG os T a is b) {k : List Int} {nu de : Int} (h2 : Tab os n (putG T k nu de)) : CovG os (putG T k nu de) a is b :=
  fle_trans (pr_pos hb w).1 ((h.sm hb hn).1.get _).2.1 ((h2.sm hb hn).1.get _).2.1 hc ((put_ge k nu de).2 _)
theorem CovG.key {os : List Of} {nk : Int} (hb : BO nk os) {T : List (List Int × Int × Int)} {a b : Int} {is : List Int} (w : Wlk os a is b) (hc : CovG os T a is b) : [a, b] ∈ T.map (·.1) := by
  refine Classical.byContradiction fun z => ?_
  unfold CovG getG at hc
  rw [find_not z] at hc
  have hc : prY os is * 1 ≤ 0 * prX os is := hc
  have := (pr_pos hb w).2
  rw [Int.zero_mul, Int.mul_one] at hc
  omega
theorem get_in {T : List (List Int × Int × Int)} (nd : (T.map (·.1)).Nodup) {x : List Int × Int × Int} (hx : x ∈ T) : getG T x.1 = x.2 := by
  unfold getG
  obtain ⟨y, hy, ey, my⟩ := find_in (List.mem_map.mpr ⟨x, hx, rfl⟩ : x.1 ∈ T.map (·.1))
  rw [hy]
  show y.2 = x.2
  have : y = x := by
    clear hy
    induction T with
    | nil => cases hx
    | cons z T ih =>
      rw [List.map_cons, List.nodup_cons] at nd
      rcases List.mem_cons.mp hx with e1 | h1
      · rcases List.mem_cons.mp my with e2 | h2
        · rw [e1, e2]
        · exact absurd (List.mem_map.mpr ⟨y, h2, by rw [ey, e1]⟩) nd.1
      · rcases List.mem_cons.mp my with e2 | h2
        · exact absurd (List.mem_map.mpr ⟨x, h1, by rw [← ey, e2]⟩) nd.1
        · exact ih nd.2 h1 h2
  rw [this]
theorem lk_in {T : List (List Int × Int × Int)} {k : List Int} (h : k ∈ T.map (·.1)) : lkT (dG T) k = some (frT (getG T k)) := by
  have z := lk_G T k
  obtain ⟨x, hx, e, m⟩ := find_in h
  unfold lkT dG getG
  rw [List.find?_map]
  show (((T.find? fun x => decide (x.1 = k)).map fun x => (x.1, frT x.2)).map (·.2)) = _
  rw [hx]
  rfl
def allP (nk : Int) : List (List Int) := (rg nk).flatMap fun a => (rg nk).map fun b => [a, b]
theorem allP_mem {nk a b : Int} (a0 : 0 ≤ a) (a1 : a < nk) (b0 : 0 ≤ b) (b1 : b < nk) : [a, b] ∈ allP nk := List.mem_flatMap.mpr ⟨a, mem_rg.mpr ⟨a0, a1⟩, List.mem_map.mpr ⟨b, mem_rg.mpr ⟨b0, b1⟩, rfl⟩⟩
theorem nodup_leL : ∀ {l m : List (List Int)}, l.Nodup → (∀ x ∈ l, x ∈ m) → l.length ≤ m.length
  | [], _, _, _ => Nat.zero_le _
  | x :: l, m, nd, h => by
    have h1 := List.nodup_cons.mp nd
    have hx := h x List.mem_cons_self
    have := nodup_leL (m := m.erase x) h1.2 fun y hy => (List.mem_erase_of_ne fun (e : y = x) => h1.1 (by rw [← e]; exact hy)).mpr (h y (List.mem_cons_of_mem _ hy))
    rw [List.length_erase_of_mem hx] at this
    have p := List.length_pos_of_mem hx
    rw [List.length_cons]
    omega
theorem wlk_ends {nk : Int} {os : List Of} (hb : BO nk os) : ∀ {is : List Int} {a b : Int}, Wlk os a is b → is ≠ [] → (0 ≤ a ∧ a < nk) ∧ 0 ≤ b ∧ b < nk
  | [], _, _, _, ne => absurd rfl ne
  | i :: is, a, b, ⟨e, hu, w⟩, _ => by
    obtain ⟨_, _, _, ⟨a0, a1⟩, b0, b1⟩ := ed_x hb e
    rw [hu] at a0 a1
    refine ⟨⟨a0, a1⟩, ?_⟩
    cases is with
    | nil =>
      have w : (gO os i).b = b := w
      rw [← w]
      omega
    | cons j js => exact (wlk_ends hb w (fun z => nomatch z)).2
theorem Tab.keys {os : List Of} {nk : Int} (hb : BO nk os) {n : Nat} {T : List (List Int × Int × Int)} (h : Tab os n T) : ∀ k ∈ T.map (·.1), k ∈ allP 4 := fun k hk => by
  obtain ⟨x, hx, rfl⟩ := List.mem_map.mp hk
  obtain ⟨a, b, is, e, w, ne, _⟩ := h.snd x hx
  have := wlk_ends hb w ne
  have := hb.k4
  rw [e]
  exact allP_mem (by omega) (by omega) (by omega) (by omega)
theorem Tab.len {os : List Of} {nk : Int} (hb : BO nk os) {n : Nat} {T : List (List Int × Int × Int)} (h : Tab os n T) : T.length ≤ 16 := by
  have z := nodup_leL h.nd (h.keys hb)
  rw [List.length_map, show (allP 4).length = 16 from by decide] at z
  exact z
theorem hash_inj : ∀ x ∈ allP 4, ∀ y ∈ allP 4, tHash x = tHash y → x = y := by decide +kernel
theorem Tab.hash {os : List Of} {nk : Int} (hb : BO nk os) {n : Nat} {T : List (List Int × Int × Int)} (h : Tab os n T) : ((dG T).map fun x => tHash x.1).Nodup := by
  have e : ((dG T).map fun x => tHash x.1) = (T.map (·.1)).map tHash := by
    unfold dG
    rw [List.map_map, List.map_map]
    rfl
  have k := h.keys hb
  rw [e, List.nodup_iff_pairwise_ne, List.pairwise_map]
  exact (List.nodup_iff_pairwise_ne.mp h.nd).imp_of_mem fun ha hb' ne z => ne (hash_inj _ (k _ ha) _ (k _ hb') z)
theorem wlk_snoc {os : List Of} : ∀ {is : List Int} {a b : Int}, Wlk os a is b → is ≠ [] → ∃ js i, is = js ++ [i] ∧ Wlk os a js (gO os i).a ∧ Ed os i ∧ (gO os i).b = b
  | [], _, _, _, ne => absurd rfl ne
  | [i], a, b, ⟨e, hu, w⟩, _ => ⟨[], i, rfl, hu.symm, e, w⟩
  | i :: j :: js, a, b, ⟨e, hu, w⟩, _ => by
    obtain ⟨ks, l, e2, w2, h2, h3⟩ := wlk_snoc w (fun z => nomatch z)
    exact ⟨i :: ks, l, by rw [e2]; rfl, ⟨e, hu, w2⟩, h2, h3⟩
/-- no loop of so many offers gains -/
def NGn (os : List Of) (n : Nat) : Prop := ∀ u is, Wlk os u is u → is ≠ [] → is.length ≤ n → prY os is ≤ prX os is
theorem gains_yes {nk : Int} {os : List Of} (h : BO nk os) {n : Nat} {T : List (List Int × Int × Int)} (tb : Tab os n T) {x : List Int × Int × Int} (hx : x ∈ T) {a : Int} (ea : x.1 = [a, a]) (g : x.2.1 > x.2.2) : ¬ NoGain os (fun _ => True) := fun ng => by
  obtain ⟨u, v, is, e, w, ne, l, e2⟩ := tb.snd x hx
  rw [ea] at e
  obtain ⟨rfl, e3⟩ := List.cons.inj e
  obtain ⟨rfl, _⟩ := List.cons.inj e3
  rw [e2] at g
  have g : prY os is > prX os is := g
  have := round_le h (a := a) (c := a) (fun v js _ => ng v js True.intro) ⟨.refl, .refl⟩ w
  omega
theorem NGn.step {nk : Int} {os : List Of} (h : BO nk os) {n : Nat} {T : List (List Int × Int × Int)} (tb : Tab os n T) (hn : n ≤ 5) (cv : ∀ a is b, Wlk os a is b → is ≠ [] → is.length ≤ n → CovG os T a is b) (no : ∀ x ∈ T, ∀ a, x.1 = [a, a] → ¬ x.2.1 > x.2.2) : NGn os n := fun u is w ne l => by
  have c := cv u is u w ne l
  obtain ⟨x, hx, e, m⟩ := find_in (c.key h w)
  have z := no x m u e
  have gx := get_in tb.nd m
  rw [e] at gx
  unfold CovG fle at c
  rw [gx] at c
  have c : prY os is * x.2.2 ≤ x.2.1 * prX os is := c
  obtain ⟨⟨a0, a1⟩, b0, b1⟩ := (tb.sm h hn).1 x m
  have px := (pr_pos h w).1
  refine Int.not_lt.mp fun g => ?_
  have s1 : x.2.1 * prX os is ≤ x.2.2 * prX os is := Int.mul_le_mul_of_nonneg_right (by omega) (by omega)
  have s2 : prX os is * x.2.2 < prY os is * x.2.2 := Int.mul_lt_mul_of_pos_right g (by omega)
  rw [Int.mul_comm (prX os is)] at s2
  omega
theorem NGn.fin {nk : Int} {os : List Of} (h : BO nk os) (ng : NGn os nk.toNat) : NoGain os (fun _ => True) := by
  rcases gain_or (os := os) (fun _ => True) with z | ⟨k, is, _, lp, g⟩
  · exact z
  · have := ng k is lp.w lp.ne (lp_len h lp)
    omega
/-- a way of the one table and one of the other one behind it -/
def JG (Fu : List (List Int × Int × Int)) (x y : List Int × Int × Int) : Prop := ∀ a b q, x.1 = [a, b] → y.1 = [b, q] → fle (x.2.1 * y.2.1, x.2.2 * y.2.2) (getG Fu [a, q])
theorem JG.put {nk : Int} {os : List Of} (h : BO nk os) {n : Nat} {Fu : List (List Int × Int × Int)} (tb : Tab os n Fu) (hn : n ≤ 5) {x y : List Int × Int × Int} (x1 : 1 ≤ x.2.2) (y1 : 1 ≤ y.2.2) (j : JG Fu x y) {k : List Int} {nu de : Int} (t2 : Tab os n (putG Fu k nu de)) : JG (putG Fu k nu de) x y := fun a b q e1 e2 =>
  fle_trans (Int.mul_pos (show 0 < x.2.2 by omega) (show 0 < y.2.2 by omega)) ((tb.sm h hn).1.get _).2.1 ((t2.sm h hn).1.get _).2.1 (j a b q e1 e2) ((put_ge k nu de).2 _)
theorem cov_step {nk : Int} {os : List Of} (h : BO nk os) {n : Nat} {N B Fu : List (List Int × Int × Int)} (tn : Tab os n N) (n1 : 1 ≤ n) (hn : n + 1 ≤ 5) (cn : ∀ a is b, Wlk os a is b → is ≠ [] → is.length ≤ n → CovG os N a is b) (tb : Tab os 1 B) (cb : ∀ i, Ed os i → CovG os B (gO os i).a [i] (gO os i).b)
    (tf : Tab os (n + 1) Fu) (cf : ∀ a is b, Wlk os a is b → is ≠ [] → is.length ≤ n → CovG os Fu a is b) (jf : ∀ x ∈ N, ∀ y ∈ B, JG Fu x y) : ∀ a is b, Wlk os a is b → is ≠ [] → is.length ≤ n + 1 → CovG os Fu a is b := fun a is b w ne l => by
  by_cases c : is.length ≤ n
  · exact cf a is b w ne c
  obtain ⟨js, i, rfl, wj, ed, rfl⟩ := wlk_snoc w ne
  rw [List.length_append] at l c
  have l : js.length + 1 ≤ n + 1 := l
  have c : ¬ js.length + 1 ≤ n := c
  have wi : Wlk os (gO os i).a [i] (gO os i).b := ⟨ed, rfl, rfl⟩
  by_cases c2 : js = []
  · subst c2
    have c : ¬ 0 + 1 ≤ n := c
    omega
  have cj := cn a js _ wj c2 (by omega)
  have ci := cb i ed
  obtain ⟨x, _, ex, mx⟩ := find_in (cj.key h wj)
  obtain ⟨y, _, ey, my⟩ := find_in (ci.key h wi)
  have gx := get_in tn.nd mx
  have gy := get_in tb.nd my
  rw [ex] at gx
  rw [ey] at gy
  have j := jf x mx y my a _ _ ex ey
  unfold CovG fle at cj ci
  rw [gx] at cj
  rw [gy] at ci
  obtain ⟨⟨x0, _⟩, x1, _⟩ := (tn.sm h (by omega)).1 x mx
  obtain ⟨⟨y0, _⟩, y1, _⟩ := (tb.sm h (by omega)).1 y my
  obtain ⟨pjx, pjy⟩ := pr_pos h wj
  obtain ⟨pix, piy⟩ := pr_pos h wi
  have m := frac_mul cj ci (Int.mul_nonneg (by show 0 ≤ prY os js; omega) (by omega)) (Int.mul_nonneg (by show 0 ≤ prY os [i]; omega) (by omega))
  unfold CovG
  rw [prY_app, prX_app]
  exact fle_trans (g := (x.2.1 * y.2.1, x.2.2 * y.2.2)) (Int.mul_pos (show 0 < prX os js by omega) (show 0 < prX os [i] by omega)) (Int.mul_pos (show 0 < x.2.2 by omega) (show 0 < y.2.2 by omega)) ((tf.sm h hn).1.get _).2.1 m j
def isG (x : List Int × Int × Int) : Bool := decide (x.1.getD 0 0 = x.1.getD 1 0) && decide (x.2.1 > x.2.2)
theorem Tab.two {os : List Of} {n : Nat} {T : List (List Int × Int × Int)} (h : Tab os n T) : ∀ x ∈ T, ∃ a b, x.1 = [a, b] := fun x hx => by
  obtain ⟨a, b, is, e, _⟩ := h.snd x hx
  exact ⟨a, b, e⟩
theorem depth_lt : ∀ ls : List (List Int), PyData.depthAll (D.pyL (ls.map tI)) ≤ 1
  | [] => Nat.zero_le _
  | l :: ls => Nat.max_le.mpr ⟨by
    have z : PyData.depthAll (D.pyL (l.map D.int)) = 0 := by
      induction l with
      | nil => rfl
      | cons i l ih => exact (Nat.max_eq_right (Nat.zero_le _)).trans ih
    show PyData.depthAll (D.pyL (l.map D.int)) + 1 ≤ 1
    omega, depth_lt ls⟩
theorem ok_lt (ls : List (List Int)) : (D.lst (ls.map tI)).ok := nb_ok (nbL_map fun l _ => tI_nb l) (by
  have := depth_lt ls
  show PyData.depthAll (D.pyL (ls.map tI)) + 1 ≤ 64
  omega)
abbrev s__law_gains : Stmt := top 95
abbrev N__law_gains : List Str := ["_law_board", "_law_best", "_law_p", "_law_x", "_law_q", "_law_y", "_law_now", "_law_turn", "_law_pair", "_law_further", "_law_a", "_law_b"]
theorem sc__law_gains : FnScope N__law_gains ["_law_board"] (defScope s__law_gains) := ⟨rfl, rfl, rfl, by decide +kernel, rfl, by decide +kernel, by decide +kernel⟩
def R__law_gains : D → (D → Prop) → Prop := fun b Q => ∃ (nk : Int) (os : List Of), b = bd nk os ∧ BO nk os ∧ (NoGain os (fun _ => True) → Q (.bl false)) ∧ (¬ NoGain os (fun _ => True) → Q (.bl true))
theorem ok__law_gains (z_dict : mg "dict" = none) (h__law_gains : Dfn K mg "_law_gains" s__law_gains ["_law_board"]) (B : Bl mg) (c__law_put : Cal P w K mg base (L2.CX P w) "_law_put" 1 ["_law_table", "_law_pair", "_law_num", "_law_den"] (liftOX K mg (sox3 R__law_put))) : Cal P w K mg base CX0 "_law_gains" 2 ["_law_board"] (liftP K (sp1 R__law_gains)) := by
  obtain ⟨f__law_put, fd__law_put, C__law_put⟩ := c__law_put
  refine cal_pure h__law_gains sc__law_gains (by decide) sp1_len ⟨_, fun f cdv A outer s H E hgd hr => (b_cons (s_newTV (i := 1) sc__law_gains.nd)
    (b_cons (s_for PassesOwn.never rfl (i_seq (d_ixV 0 d_int)) (g_tup (n := 4) rfl (gs_cons (g_name (i := 2) sc__law_gains.nd) (gs_cons (g_name (i := 3) sc__law_gains.nd) (gs_cons (g_name (i := 4) sc__law_gains.nd) (gs_cons (g_name (i := 5) sc__law_gains.nd) gs_nil))))) (b_one (s_expr (d_nx (x_callOX 1 C__law_put.fn hgd hr C__law_put.mg C__law_put.kp C__law_put.bd (ax_of (dc (d_tup (dc (dv 2) (dc (dv 4) dn))) (dc (dv 5) (dc (dv 3) dn)))))))))
    (b_cons (s_copyTV (i := 6) 1 sc__law_gains.nd rfl (units65 hr) z_dict)
    (b_cons (s_for PassesOwn.never rfl (i_range1 B.range (dc (d_ixV 0 d_int) dn)) (g_name (i := 7) sc__law_gains.nd) (b_cons (s_if (t_ne hr.units (d_lcT 6 (own := [("_law_pair", 8)]) rfl sc__law_gains.nd (blkOk_by (N := N__law_gains) (sc := defScope s__law_gains) (by decide +kernel)) (fun _ _ _ _ _ => (c_name (i := 8) sc__law_gains.nd)) (fun _ _ _ _ _ => (ts_one (t_w (w_and (t_eq hr.units (d_ixV 8 d_int) (d_ixV 8 d_int)) (w_and1 (t_gt (d_ix (d_getTV 6 hr.units1 (dv 8)) d_int) (d_ix (d_getTV 6 hr.units1 (dv 8)) d_int))))))) (fun _ _ _ _ _ => (dv 8))) (d_lst dn)) (b_one (s_ret d_bl)) b_nil)
    (b_cons (s_copyTV (i := 9) 6 sc__law_gains.nd rfl (units65 hr) z_dict)
    (b_cons (s_for PassesOwn.never rfl (i_seq (d_listTV 6 rfl B.list)) (g_tup (n := 2) rfl (gs_cons (g_name (i := 10) sc__law_gains.nd) (gs_cons (g_name (i := 11) sc__law_gains.nd) gs_nil))) (b_one (s_for PassesOwn.never rfl (i_seq (d_listTV 1 rfl B.list)) (g_tup (n := 2) rfl (gs_cons (g_name (i := 2) sc__law_gains.nd) (gs_cons (g_name (i := 4) sc__law_gains.nd) gs_nil))) (b_one (s_if (t_eq hr.units (dv 11) (dv 2)) (b_one (s_expr (d_nx (x_callOX 9 C__law_put.fn hgd hr C__law_put.mg C__law_put.kp C__law_put.bd (ax_of (dc (d_tup (dc (dv 10) (dc (dv 4) dn))) (dc (d_mul (d_ix (d_getTV 6 hr.units1 (d_tup (dc (dv 10) (dc (dv 11) dn)))) d_int) (d_ix (d_getTV 1 hr.units1 (d_tup (dc (dv 2) (dc (dv 4) dn)))) d_int)) (dc (d_mul (d_ix (d_getTV 6 hr.units1 (d_tup (dc (dv 10) (dc (dv 11) dn)))) d_int) (d_ix (d_getTV 1 hr.units1 (d_tup (dc (dv 2) (dc (dv 4) dn)))) d_int)) dn)))))))) b_nil)))))
    (b_one (s_copyTV (i := 6) 9 sc__law_gains.nd rfl (units65 hr) z_dict))))))
    (b_one (s_ret d_bl)))))), sp1_by ?_⟩
  rintro _ Q ⟨nk, os, rfl, h, q1, q2⟩
  have k1 := h.k1
  have k4 := h.k4
  refine seq_intro fun k hk => ?_
  walk_at "rd"
  subst hk
  refine seq_intro fun k hk => ?_
  unfold bd
  walk_at "rd"
  refine ⟨fun j E => ∃ (T : List (List Int × Int × Int)) (s2 s3 s4 s5 : Sl), (s2.free ∧ s3.free ∧ s4.free ∧ s5.free) ∧ Tab os 1 T ∧ (∀ i : Int, i < j → Ed os i → CovG os T (gO os i).a [i] (gO os i).b) ∧ E = [.fz (bd nk os), .ow false (.oT none (dG T)), s2, s3, s4, s5, .un, .un, .un, .un, .un, .un], ⟨[], .un, .un, .un, .un, ⟨True.intro, True.intro, True.intro, True.intro⟩, .nil, fun i hi ed => absurd ed.i0 (by omega), rfl⟩, ?_, ?_⟩
  · rintro j y _ hj ⟨T, s2, s3, s4, s5, ⟨f2, f3, f4, f5⟩, tb, cv, rfl⟩
    obtain ⟨o, eo, rfl⟩ := map_get hj
    have jl := (List.getElem?_eq_some_iff.mp eo).1
    have go : gO os (j : Int) = o := by
      unfold gO
      rw [Int.toNat_natCast, List.getD_eq_getElem?_getD, eo]
      rfl
    obtain ⟨⟨a0, a1⟩, ⟨b0, b1⟩, ab, ⟨x0, x1⟩, y0, y1⟩ := h.ok o (List.mem_of_getElem? eo)
    clear hk
    unfold Of.d
    walk_at "rd"
    refine ⟨f2, f3, f4, f5, ?_⟩
    have sm := (tb.sm h (by decide)).1
    have tl := tb.len h
    have hk : (o.y = 0 ∧ 1 ≤ o.x) ∨ ∃ a b is, [o.a, o.b] = [a, b] ∧ Wlk os a is b ∧ is ≠ [] ∧ is.length ≤ 1 ∧ (o.y, o.x) = (prY os is, prX os is) := by
      by_cases c : o.y = 0
      · exact .inl ⟨c, x0⟩
      · exact .inr ⟨o.a, o.b, [(j : Int)], rfl, ⟨⟨by omega, by omega, by rw [go]; omega⟩, by rw [go], by show (gO os j).b = o.b; rw [go]⟩, (fun z => nomatch z), Nat.le_refl _, by rw [prY_one, prX_one, go]⟩
    have t2 := tb.put h (by decide) hk
    refine ⟨by decide, T, [o.a, o.b], o.y, o.x, rfl, rfl, rfl, rfl, sm, x0, by omega, by omega, ?_⟩
    refine ⟨_, .fz (.int o.a), .fz (.int o.x), .fz (.int o.b), .fz (.int o.y), ⟨True.intro, True.intro, True.intro, True.intro⟩, t2, fun i hi ed => ?_, rfl⟩
    by_cases c : i = (j : Int)
    · subst c
      unfold CovG
      rw [prY_one, prX_one, go]
      exact (put_ge [o.a, o.b] o.y o.x).1
    · exact (cv i (by omega) ed).put h tb (by decide) (show Wlk os (gO os i).a [i] (gO os i).b from ⟨ed, rfl, rfl⟩) t2
  rintro _ ⟨B, s2, s3, s4, s5, ⟨f2, f3, f4, f5⟩, tb, cb, rfl⟩
  rw [List.length_map] at cb
  have cb : ∀ i : Int, Ed os i → CovG os B (gO os i).a [i] (gO os i).b := fun i ed => cb i ed.i1 ed
  have c1 : ∀ a is b, Wlk os a is b → is ≠ [] → is.length ≤ 1 → CovG os B a is b := fun a is b w ne l => by
    match is, w, ne, l with
    | [i], ⟨e, hu, w⟩, _, _ =>
      have w : (gO os i).b = b := w
      rw [← hu, ← w]
      exact cb i e
  subst hk
  dsimp only
  refine seq_intro fun k hk => ?_
  walk_at "rd"
  refine ⟨tb.hash h, ?_⟩
  subst hk
  refine seq_intro fun k hk => ?_
  unfold bd
  walk_at "rd"
  have e62 : (2 : Int) ^ 62 = 4611686018427387904 := by decide
  refine ⟨⟨by omega, by omega⟩, ?_⟩
  refine ⟨fun t E => ∃ (N : List (List Int × Int × Int)) (s2 s3 s4 s5 s7 s9 s10 s11 : Sl), (s2.free ∧ s4.free ∧ s7.free ∧ s9.free ∧ s10.free ∧ s11.free) ∧ Tab os (t + 1) N ∧ (∀ a is b, Wlk os a is b → is ≠ [] → is.length ≤ t + 1 → CovG os N a is b) ∧ NGn os t ∧
    E = [.fz (bd nk os), .ow false (.oT none (dG B)), s2, s3, s4, s5, .ow false (.oT none (dG N)), s7, .un, s9, s10, s11], ⟨B, s2, s3, s4, s5, .un, .un, .un, .un, ⟨f2, f4, True.intro, True.intro, True.intro, True.intro⟩, tb, c1, (fun u is _ ne l => absurd (List.eq_nil_of_length_eq_zero (by omega)) ne), rfl⟩, ?_, ?_⟩
  · rintro t y _ hj ⟨N, s2, s3, s4, s5, s7, s9, s10, s11, ⟨f2, f4, f7, f9, f10, f11⟩, tn, cn, ngt, rfl⟩
    obtain ⟨tl, rfl⟩ := rngD_inv hj
    have t4 : t + 1 ≤ 4 := by omega
    have n16 := tn.len h
    have b16 := tb.len h
    clear hk
    refine ⟨f7, ?_⟩
    refine seq_intro fun k hk => ?_
    walk_at "rd"
    intro L
    refine ⟨fun i acc E => i ≤ N.length ∧ acc = ((N.take i).filter isG).map (fun x => tI x.1) ∧ E = [.fz (bd nk os), .ow false (.oT none (dG B)), s2, s3, s4, s5, .ow false (.oT (some L) (dG N)), .fz (.int (0 + t)), .un, s9, s10, s11], ⟨Nat.zero_le _, rfl, rfl⟩, ?_, ?_, ?_⟩
    · rintro i acc _ ⟨_, _, rfl⟩
      rfl
    · rintro i d acc _ hd ⟨il, rfl, rfl⟩
      unfold dG at hd
      rw [List.map_map] at hd
      obtain ⟨x, ex, ed⟩ := map_get hd
      have ed : d = tI x.1 := ed
      have mx := List.mem_of_getElem? ex
      have il := (List.getElem?_eq_some_iff.mp ex).1
      obtain ⟨a, b, e2⟩ := tn.two x mx
      have e3 : tI x.1 = .tup [.int a, .int b] := by
        rw [e2]
        rfl
      have tk : N.take (i + 1) = N.take i ++ [x] := by
        rw [List.take_add_one, ex]
        rfl
      have lg : lkT (dG N) [a, b] = some (frT x.2) := by
        have z := lk_in (T := N) (k := x.1) (List.mem_map.mpr ⟨x, mx, rfl⟩)
        rw [get_in tn.nd mx, e2] at z
        exact z
      have gx : isG x = (decide (a = b) && decide (x.2.1 > x.2.2)) := by
        unfold isG
        rw [e2]
        rfl
      have tf : (N.take (i + 1)).filter isG = if isG x = true then (N.take i).filter isG ++ [x] else (N.take i).filter isG := by
        rw [tk, List.filter_append]
        cases c : isG x with
        | true => rw [if_pos rfl]; congr 1; rw [List.filter_cons, if_pos c]; rfl
        | false => rw [if_neg (by decide), List.filter_cons, if_neg (by rw [c]; decide)]; exact List.append_nil _
      have fl : ((N.take i).filter isG).length ≤ 16 := Nat.le_trans (List.length_filter_le _ _) (Nat.le_trans (List.length_take_le _ _) (by omega))
      rw [ed, e3]
      walk_at "rd"
      refine ite_by (fun c => ?_) fun c => ?_
      · refine ⟨[a, b], _, rfl, lg, ?_⟩
        unfold frT
        walk_at "rd"
        refine ⟨[a, b], _, rfl, lg, ?_⟩
        unfold frT
        walk_at "rd"
        refine ite_by (fun c2 => ?_) fun c2 => ?_
        · refine ⟨by rw [List.length_map]; exact small_lt (by omega), by omega, ?_⟩
          rw [tf, if_pos (by rw [gx, decide_eq_true c, decide_eq_true (show x.2.1 > x.2.2 by omega)]; rfl), List.map_append, ← e3]
          rfl
        · refine ⟨by omega, ?_⟩
          rw [tf, if_neg (by rw [gx, decide_eq_true c, decide_eq_false (show ¬ x.2.1 > x.2.2 by omega)]; decide)]
      · refine ⟨by omega, ?_⟩
        rw [tf, if_neg (by rw [gx, decide_eq_false c, Bool.false_and]; decide)]
    · rintro acc _ ⟨_, rfl, rfl⟩
      walk_at "rd"
      have nl : (dG N).length = N.length := List.length_map _
      rw [nl, List.take_length]
      refine ⟨by decide, by rw [show (fun x : List Int × Int × Int => tI x.1) = tI ∘ (·.1) from rfl, ← List.map_map]; exact ok_lt _, ok_lints [], ?_⟩
      try rw [eqv_nil]
      cases c : (N.filter isG).isEmpty with
      | false =>
        rw [show (List.map (fun x : List Int × Int × Int => tI x.1) (N.filter isG)).isEmpty = (N.filter isG).isEmpty by cases N.filter isG <;> rfl, c, if_pos (by decide)]
        refine q2 ?_
        obtain ⟨x, hx⟩ := List.exists_mem_of_ne_nil _ (fun z : N.filter isG = [] => by rw [z] at c; cases c)
        obtain ⟨mx, gx⟩ := List.mem_filter.mp hx
        obtain ⟨a, b, e2⟩ := tn.two x mx
        unfold isG at gx
        rw [e2, Bool.and_eq_true] at gx
        have ab : a = b := of_decide_eq_true gx.1
        subst ab
        exact gains_yes h tn mx e2 (of_decide_eq_true gx.2)
      | true =>
        rw [show (List.map (fun x : List Int × Int × Int => tI x.1) (N.filter isG)).isEmpty = (N.filter isG).isEmpty by cases N.filter isG <;> rfl, c, if_neg (by decide)]
        have ng1 : NGn os (t + 1) := NGn.step h tn (by omega) cn fun x hx a e g => by
          have z := List.filter_eq_nil_iff.mp (List.isEmpty_iff.mp c) x hx
          unfold isG at z
          rw [e] at z
          exact z (by rw [Bool.and_eq_true]; exact ⟨decide_eq_true rfl, decide_eq_true g⟩)
        subst hk
        refine seq_intro fun k hk => ?_
        walk_at "rd"
        refine ⟨tn.hash h, f9, ?_⟩
        subst hk
        dsimp only
        refine seq_intro fun k hk => ?_
        walk_at "rd"
        have smN := (tn.sm h (by omega)).1
        have smB := (tb.sm h (by decide)).1
        refine ⟨fun i E => ∃ (Fu : List (List Int × Int × Int)) (s2 s4 s10 s11 : Sl), (s2.free ∧ s4.free ∧ s10.free ∧ s11.free) ∧ Tab os (t + 2) Fu ∧ (∀ a is b, Wlk os a is b → is ≠ [] → is.length ≤ t + 1 → CovG os Fu a is b) ∧ (∀ x ∈ N.take i, ∀ y ∈ B, JG Fu x y) ∧
          E = [.fz (bd nk os), .ow false (.oT none (dG B)), s2, s3, s4, s5, .ow false (.oT none (dG N)), .fz (.int (0 + t)), .un, .ow false (.oT none (dG Fu)), s10, s11], ⟨N, s2, s4, s10, s11, ⟨f2, f4, f10, f11⟩, tn.mono (by omega), cn, (fun x hx => nomatch hx), rfl⟩, ?_, ?_⟩
        · rintro i d _ hd ⟨Fu, s2, s4, s10, s11, ⟨f2, f4, f10, f11⟩, tf, cf, jf, rfl⟩
          unfold dG at hd
          rw [List.map_map] at hd
          obtain ⟨x, ex, ed⟩ := map_get hd
          have ed : d = tI x.1 := ed
          have mx := List.mem_of_getElem? ex
          obtain ⟨a, b, is, e2, wx, nex, lx, vx⟩ := tn.snd x mx
          have e3 : tI x.1 = .tup [.int a, .int b] := by
            rw [e2]
            rfl
          have tk : N.take (i + 1) = N.take i ++ [x] := by
            rw [List.take_add_one, ex]
            rfl
          rw [ed, e3]
          clear hk
          walk_at "rd"
          refine ⟨f10, f11, ?_⟩
          have lgx : lkT (dG N) [a, b] = some (frT x.2) := by
            have z := lk_in (T := N) (k := x.1) (List.mem_map.mpr ⟨x, mx, rfl⟩)
            rw [get_in tn.nd mx, e2] at z
            exact z
          refine ⟨fun m E => ∃ (Fu : List (List Int × Int × Int)) (s2 s4 : Sl), (s2.free ∧ s4.free) ∧ Tab os (t + 2) Fu ∧ (∀ a is b, Wlk os a is b → is ≠ [] → is.length ≤ t + 1 → CovG os Fu a is b) ∧ (∀ x ∈ N.take i, ∀ y ∈ B, JG Fu x y) ∧ (∀ y ∈ B.take m, JG Fu x y) ∧
            E = [.fz (bd nk os), .ow false (.oT none (dG B)), s2, s3, s4, s5, .ow false (.oT none (dG N)), .fz (.int (0 + t)), .un, .ow false (.oT none (dG Fu)), .fz (.int a), .fz (.int b)], ⟨Fu, s2, s4, ⟨f2, f4⟩, tf, cf, jf, (fun x hx => nomatch hx), rfl⟩, ?_, ?_⟩
          · clear tf cf jf
            rintro m d2 _ hd2 ⟨Fu, s2, s4, ⟨f2, f4⟩, tf, cf, jf, jm, rfl⟩
            unfold dG at hd2
            rw [List.map_map] at hd2
            obtain ⟨y, ey, ed2⟩ := map_get hd2
            have ed2 : d2 = tI y.1 := ed2
            have my := List.mem_of_getElem? ey
            obtain ⟨p, q, is2, e4, wy, ney, ly, vy⟩ := tb.snd y my
            have e5 : tI y.1 = .tup [.int p, .int q] := by
              rw [e4]
              rfl
            have tk2 : B.take (m + 1) = B.take m ++ [y] := by
              rw [List.take_add_one, ey]
              rfl
            have lgy : lkT (dG B) [p, q] = some (frT y.2) := by
              have z := lk_in (T := B) (k := y.1) (List.mem_map.mpr ⟨y, my, rfl⟩)
              rw [get_in tb.nd my, e4] at z
              exact z
            obtain ⟨⟨x20, x21⟩, x22, x23⟩ := smN x mx
            obtain ⟨⟨y20, y21⟩, y22, y23⟩ := smB y my
            rw [ed2, e5]
            walk_at "rd"
            refine ⟨f2, f4, ?_⟩
            refine ite_by (fun c => ?_) fun c => ?_
            · subst c
              have w2 := wlk_app wx wy
              have l2 : (is ++ is2).length ≤ t + 2 := by
                rw [List.length_append]
                omega
              obtain ⟨bx, by_⟩ := pr_bd5 h w2 (by omega)
              obtain ⟨px, py⟩ := pr_pos h w2
              have vX : x.2.2 * y.2.2 = prX os (is ++ is2) := by
                rw [vx, vy, prX_app]
              have vY : x.2.1 * y.2.1 = prY os (is ++ is2) := by
                rw [vx, vy, prY_app]
              have tp := tf.put h (k := [a, q]) (nu := x.2.1 * y.2.1) (de := x.2.2 * y.2.2) (by omega) (.inr ⟨a, q, is ++ is2, rfl, w2, (fun z => nex (List.append_eq_nil_iff.mp z).1), l2, by rw [vX, vY]⟩)
              refine ⟨by decide, by decide, [a, b], _, rfl, lgx, ?_⟩
              unfold frT
              walk_at "rd"
              refine ⟨by decide, [b, q], _, rfl, lgy, ?_⟩
              unfold frT
              walk_at "rd"
              refine ⟨cmulR (by omega) (by omega), by decide, [a, b], _, rfl, lgx, ?_⟩
              unfold frT
              walk_at "rd"
              refine ⟨by decide, [b, q], _, rfl, lgy, ?_⟩
              unfold frT
              walk_at "rd"
              have f16 := tf.len h
              refine ⟨cmulR (by omega) (by omega), Fu, [a, q], x.2.1 * y.2.1, x.2.2 * y.2.2, rfl, rfl, rfl, rfl, (tf.sm h (by omega)).1, by rw [vX]; exact px, by rw [vX]; omega, by omega, ?_⟩
              refine ⟨_, .fz (.int b), .fz (.int q), ⟨True.intro, True.intro⟩, tp, fun a' is' b' w' ne' l' => (cf a' is' b' w' ne' l').put h tf (by omega) w' tp, fun x' hx' y' hy' => (jf x' hx' y' hy').put h tf (by omega) (smN x' (List.mem_of_mem_take hx')).2.1 (smB y' hy').2.1 tp, fun y' hy' => ?_, rfl⟩
              rw [tk2] at hy'
              rcases List.mem_append.mp hy' with hy' | hy'
              · exact (jm y' hy').put h tf (by omega) x22 (smB y' (List.mem_of_mem_take hy')).2.1 tp
              · rw [List.mem_singleton.mp hy']
                intro a' b' q' g1 g2
                rw [e2] at g1
                rw [e4] at g2
                obtain ⟨rfl, g3⟩ := List.cons.inj g1
                obtain ⟨rfl, g4⟩ := List.cons.inj (List.cons.inj g2).2
                exact (put_ge _ _ _).1
            · refine ⟨Fu, .fz (.int p), .fz (.int q), ⟨True.intro, True.intro⟩, tf, cf, jf, fun y' hy' => ?_, rfl⟩
              rw [tk2] at hy'
              rcases List.mem_append.mp hy' with hy' | hy'
              · exact jm y' hy'
              · rw [List.mem_singleton.mp hy']
                intro a' b' q' g1 g2
                rw [e2] at g1
                rw [e4] at g2
                exfalso
                have z1 := (List.cons.inj (List.cons.inj g1).2).1
                have z2 := (List.cons.inj g2).1
                exact c (by rw [z1, z2])
          · clear tf cf jf
            rintro _ ⟨Fu, s2, s4, ⟨f2, f4⟩, tf, cf, jf, jm, rfl⟩
            have nl : (dG B).length = B.length := List.length_map _
            rw [List.length_map, nl, List.take_length] at jm
            refine ⟨Fu, s2, s4, .fz (.int a), .fz (.int b), ⟨f2, f4, True.intro, True.intro⟩, tf, cf, fun x' hx' => ?_, rfl⟩
            rw [tk] at hx'
            rcases List.mem_append.mp hx' with hx' | hx'
            · exact jf x' hx'
            · rw [List.mem_singleton.mp hx']
              exact jm
        · rintro _ ⟨Fu, s2, s4, s10, s11, ⟨f2, f4, f10, f11⟩, tf, cf, jf, rfl⟩
          have nl : (dG N).length = N.length := List.length_map _
          rw [List.length_map, nl, List.take_length] at jf
          subst hk
          walk_at "rd"
          exact ⟨tf.hash h, Fu, s2, s3, s4, s5, .fz (.int (0 + t)), .ow false (.oT none (dG Fu)), s10, s11, ⟨f2, f4, True.intro, True.intro, f10, f11⟩, tf, cov_step h tn (by omega) (by omega) cn tb cb tf cf jf, ng1, rfl⟩
  · rintro _ ⟨N, s2, s3, s4, s5, s7, s9, s10, s11, _, _, _, ngt, rfl⟩
    rw [rngD_len] at ngt
    subst hk
    walk_at "rd"
    exact q1 (ngt.fin h)
theorem link_ok {os : List Of} {r : List Int} {u : Int} (w : Wlk os u r u) : ∀ k, k < r.length → (gO os (r.getD k 0)).b = (gO os (r.getD ((k + 1) % r.length) 0)).a := fun k hk => by
  have kk := wlk_kds w
  have gb : (gO os (r.getD k 0)).b = (u :: bsK os r).getD (k + 1) 0 := by
    rw [List.getD_cons_succ, List.getD_eq_getElem?_getD, List.getD_eq_getElem?_getD]
    unfold bsK
    rw [List.getElem?_map, List.getElem?_eq_getElem hk]
    rfl
  have ga : ∀ p, p < r.length → (gO os (r.getD p 0)).a = (u :: bsK os r).getD p 0 := fun p hp => by
    rw [kk, List.getD_eq_getElem?_getD, List.getD_eq_getElem?_getD, List.getElem?_append_left (by unfold kds; rw [List.length_map]; exact hp)]
    unfold kds
    rw [List.getElem?_map, List.getElem?_eq_getElem hp]
    rfl
  rw [gb]
  by_cases c : k + 1 = r.length
  · rw [c, Nat.mod_self, ga 0 (by omega), kk, List.getD_eq_getElem?_getD, List.getElem?_append_right (by unfold kds; rw [List.length_map]; exact Nat.le_refl _), ← kk]
    unfold kds
    rw [List.length_map, Nat.sub_self]
    rfl
  · rw [Nat.mod_eq_of_lt (by omega), ga (k + 1) (by omega)]
theorem pur_sh {ns : List Int} (nl : ns.length ≤ 4) (hn : ∀ n ∈ ns, 0 ≤ n ∧ n ≤ 1000000) : Sh 1 255 (.tup (ns.map D.int)) := Sh.tup (ShL.small (n := 4) (fun v hv => by have := hn v hv; omega) nl)
theorem found_shK {nk : Int} {os : List Of} {ns : List Int} (h : BO nk os) (nl : ns.length ≤ 4) (hn : ∀ n ∈ ns, 0 ≤ n ∧ n ≤ 1000000) : (D.lst [bd nk os, .tup (ns.map D.int), .tup [bd nk os, .tup (ns.map D.int)], .tup []]).shK :=
  (ShK.of (Sh.lst (ShL.cons (bd_sh h) (ShL.cons (pur_sh nl hn) (ShL.cons (Sh.tup (ShL.cons (bd_sh h) (ShL.cons (pur_sh nl hn) (ShL.nil (k := 0))))) (ShL.cons (Sh.tup (ShL.nil (k := 0))) (ShL.nil (k := 0)))))))).shK (by decide) (by decide)
theorem two_shK2 {nk : Int} {os : List Of} {ns : List Int} (h : BO nk os) (nl : ns.length ≤ 4) (hn : ∀ n ∈ ns, 0 ≤ n ∧ n ≤ 1000000) : (D.tup [bd nk os, .tup (ns.map D.int)]).shK :=
  (ShK.of (Sh.tup (ShL.cons (bd_sh h) (ShL.cons (pur_sh nl hn) (ShL.nil (k := 0)))))).shK (by decide) (by decide)
def shw (d : D) : D := .str (PyData.shown d.pyK)
theorem wd_shK {w : Str} (h : w = "board" ∨ w = "kinds" ∨ w = "offers" ∨ w = "offer" ∨ w = "order") : ShK 0 20 (.str w) := by
  rcases h with rfl | rfl | rfl | rfl | rfl <;> exact ⟨rfl, rfl, by decide +kernel, Nat.le_refl _⟩
theorem beD_sh (v : D) : (beD v).shK := by
  rcases beD_cases v with h | ⟨w, h, hw⟩ | ⟨a, w, h, a0, a1, hw⟩
  · rw [h]
    exact (ShK.of Sh.non).shK (by decide) (by decide)
  · rw [h]
    exact (ShK.tup (ShKL.cons (ShK.of Sh.non) (ShKL.cons (wd_shK (by rcases hw with h | h | h <;> simp [h])) (ShKL.nil (k := 0))))).shK (by decide) (by decide)
  · rw [h]
    exact (ShK.tup (ShKL.cons (ShK.of (Sh.int (a := a) (b := 10) (by decide) (by decide) (by omega))) (ShKL.cons (wd_shK (by rcases hw with h | h <;> simp [h])) (ShKL.nil (k := 0))))).shK (by decide) (by decide)
theorem sok_dec {x : Str} (h : (x.cps.toList.all fun c => decide (c < 0x110000)) = true) : SOk x := fun c hc => of_decide_eq_true (List.all_eq_true.mp h c hc)
theorem sok_all : ∀ {ds : List D}, (∀ d ∈ ds, SOk (PyData.shown d.pyK)) → ∀ t ∈ PyData.shownAll (D.pyKL ds), SOk t
  | [], _, t, ht => nomatch ht
  | d :: ds, h, t, ht => by
    rcases List.mem_cons.mp (show t ∈ PyData.shown d.pyK :: PyData.shownAll (D.pyKL ds) from ht) with e | e
    · rw [e]
      exact h d List.mem_cons_self
    · exact sok_all (fun x hx => h x (List.mem_cons_of_mem _ hx)) t e
theorem sok_tup {ds : List D} (h : ∀ d ∈ ds, SOk (PyData.shown d.pyK)) : SOk (PyData.shown (D.tup ds).pyK) := by
  show SOk (tupleText (PyData.shownAll (D.pyKL ds)))
  exact SOk.tuple (sok_all h)
theorem sok_lst {ds : List D} (h : ∀ d ∈ ds, SOk (PyData.shown d.pyK)) : SOk (PyData.shown (D.lst ds).pyK) := by
  show SOk (listText (PyData.shownAll (D.pyKL ds)))
  exact SOk.list (sok_all h)
theorem SOk.shK {x : Str} {n : Nat} (h : SOk x) (hl : x.length ≤ n) : ShK 0 (10 * n + 2) (.str x) := by
  refine ⟨rfl, rfl, ?_, Nat.le_refl _⟩
  show (PyData.shown (.str x)).length ≤ _
  rw [PyData.shown_str]
  exact Nat.le_trans (StrLaws.reprText_len x fun c hc => Nat.lt_trans (h c hc) (by decide)) (by omega)
theorem two_ok {x y : Str} (h : SOk x) (h' : SOk y) : (D.lst [.str x, .str y]).ok := ⟨rfl, by
  show (PyData.canLayAll0 [.str x, .str y] && decide (PyData.depth (.list [.str x, .str y]) ≤ 64)) = true
  rw [show PyData.canLayAll0 [.str x, .str y] = (PyData.strOk x && (PyData.strOk y && true)) from rfl, h.ok, h'.ok]
  rfl⟩
structure VB (d : D) : Prop where
  sh : ShK 5 30000 d
  pok : purOk d
  sk : SOk (PyData.shown d.pyK)
theorem beD_sk (v : D) : SOk (PyData.shown (beD v).pyK) ∧ (PyData.shown (beD v).pyK).length ≤ 30000 := by
  have wd : ∀ w : Str, w = "board" ∨ w = "kinds" ∨ w = "offers" ∨ w = "offer" ∨ w = "order" → SOk (PyData.shown (D.str w).pyK) := fun w hw => by
    rcases hw with rfl | rfl | rfl | rfl | rfl <;> exact sok_dec (by decide +kernel)
  rcases beD_cases v with h | ⟨w, h, hw⟩ | ⟨a, w, h, a0, a1, hw⟩
  · rw [h]
    exact ⟨SOk.of _, by decide +kernel⟩
  · rw [h]
    refine ⟨sok_tup fun d hd => ?_, ?_⟩
    · simp only [List.mem_cons, List.not_mem_nil, or_false] at hd
      rcases hd with rfl | rfl
      · exact SOk.of _
      · exact wd w (by rcases hw with h | h | h <;> simp [h])
    · exact Nat.le_trans (ShK.tup (ShKL.cons (ShK.of Sh.non) (ShKL.cons (wd_shK (by rcases hw with h | h | h <;> simp [h])) (ShKL.nil (k := 0))))).size (by decide)
  · rw [h]
    refine ⟨sok_tup fun d hd => ?_, ?_⟩
    · simp only [List.mem_cons, List.not_mem_nil, or_false] at hd
      rcases hd with rfl | rfl
      · exact SOk.of _
      · exact wd w (by rcases hw with h | h <;> simp [h])
    · exact Nat.le_trans (ShK.tup (ShKL.cons (ShK.of (Sh.int (a := a) (b := 10) (by decide) (by decide) (by omega))) (ShKL.cons (wd_shK (by rcases hw with h | h <;> simp [h])) (ShKL.nil (k := 0))))).size (by decide)
/-- an error as the law tells it -/
theorem told_ok {w : Str} {d : D} (hw : w = "board" ∨ w = "purse") (h : SOk (PyData.shown d.pyK)) (hl : (PyData.shown d.pyK).length ≤ 30000) : (D.lst [.str w, shw d]).ok ∧ (D.lst [.str w, shw d]).shK := by
  have ww : SOk w ∧ ShK 0 30 (.str w) := by
    rcases hw with rfl | rfl
    · exact ⟨SOk.of _, rfl, rfl, by decide +kernel, Nat.le_refl _⟩
    · exact ⟨SOk.of _, rfl, rfl, by decide +kernel, Nat.le_refl _⟩
  exact ⟨two_ok ww.1 h, (ShK.lst (ShKL.cons ww.2 (ShKL.cons (h.shK hl) (ShKL.nil (k := 0))))).shK (by decide) (by decide)⟩
def odds : List D := [.non, .bl true, .int 0, .str "", .tup [], .lst [], .dct [], .tup [.int 0], .lst [.int 0, .int 0], .tup [.bl true, .bl false], .tup [.int 2, .tup []], .tup [.int 2, .lst []], .tup [.int 2, .tup [.tup [.int 0, .int 1, .int 0, .int 1]]], .tup [.int 2, .tup [.tup [.int 1, .int 1, .int 0, .int 1], .tup [.int 0, .int 1, .int 1, .int 1]]], .tup [.int 0, .int 1000001], .tup [.int 0, .tup []], .tup [.int 5, .tup []]]
theorem odds_ok : ∀ d ∈ odds, VB d := fun d hd => by
  simp only [odds, List.mem_cons, List.not_mem_nil, or_false] at hd
  rcases hd with rfl | rfl | rfl | rfl | rfl | rfl | rfl | rfl | rfl | rfl | rfl | rfl | rfl | rfl | rfl | rfl | rfl <;>
    refine ⟨⟨rfl, rfl, by decide +kernel, by decide +kernel⟩, fun xs h => ?_, sok_dec (by decide +kernel)⟩ <;> cases h <;> exact ⟨by decide +kernel, by decide +kernel⟩

abbrev s__law_is_loop : Stmt := top 96
abbrev N__law_is_loop : List Str := ["_law_board", "_law_indexes", "_law_index", "_law_offers", "_law_links", "_law_k", "_law_num", "_law_den", "_law_a", "_law_x", "_law_b", "_law_y", "_law_offer"]
theorem sc__law_is_loop : FnScope N__law_is_loop ["_law_board", "_law_indexes"] (defScope s__law_is_loop) := ⟨rfl, rfl, rfl, by decide +kernel, rfl, by decide +kernel, by decide +kernel⟩
def R__law_is_loop : D → D → (D → Prop) → Prop := fun b v Q => ∃ (nk : Int) (os : List Of) (r : List Int), b = bd nk os ∧ BO nk os ∧ v = isD r ∧ Tld os nk r ∧ Q (.bl true)
theorem ok__law_is_loop (h__law_is_loop : Dfn K mg "_law_is_loop" s__law_is_loop ["_law_board", "_law_indexes"]) (B : Bl mg) (c__law_is_between : Cal P w K mg base CX0 "_law_is_between" 1 ["_law_value", "_law_low", "_law_high"] (liftP K (sp3 R__law_is_between))) : Cal P w K mg base CX0 "_law_is_loop" 2 ["_law_board", "_law_indexes"] (liftP K (sp2 R__law_is_loop)) := by
  obtain ⟨f__law_is_between, fd__law_is_between, C__law_is_between⟩ := c__law_is_between
  refine cal_pure h__law_is_loop sc__law_is_loop (by decide) sp2_len ⟨_, fun f cdv A outer s H E hgd hr => (b_cons (s_if (t_w (w_or (t_not (t_val (d_isi B.isinstance (dc (dv 1) (dc (d_ty B.tuple PyProof.Rows.boot_tuple) dn))))) (w_or1 (t_eqE hr.units (dv 1) (d_tup dn))))) (b_one (s_ret d_bl)) b_nil)
    (b_cons (s_if (t_ne hr.units (d_lc (own := [("_law_index", 2)]) rfl sc__law_is_loop.nd (i_seq (dv 1)) (blkOk_by (N := N__law_is_loop) (sc := defScope s__law_is_loop) (by decide +kernel)) (fun _ _ _ _ _ => (c_name (i := 2) sc__law_is_loop.nd)) (fun _ _ _ _ _ => (ts_one (t_not (t_val (d_call C__law_is_between.fn hgd hr C__law_is_between.mg C__law_is_between.kp C__law_is_between.bd pass0 (dc (dv 2) (dc d_int (dc (d_sub (d_len B.len (dc (d_ixV 0 d_int) dn)) d_int) dn)))))))) (fun _ _ _ _ _ => (dv 2))) (d_lst dn)) (b_one (s_ret d_bl)) b_nil)
    (b_cons (s_if (t_ne hr.units (d_ixV 1 d_int) (d_minX rfl B.min (dc (dv 1) dn))) (b_one (s_ret d_bl)) b_nil)
    (b_cons (s_set (i := 3) sc__law_is_loop.nd (d_lc (own := [("_law_index", 2)]) rfl sc__law_is_loop.nd (i_seq (dv 1)) (blkOk_by (N := N__law_is_loop) (sc := defScope s__law_is_loop) (by decide +kernel)) (fun _ _ _ _ _ => (c_name (i := 2) sc__law_is_loop.nd)) (fun _ _ _ _ _ => ts_nil) (fun _ _ _ _ _ => (d_ix (d_ixV 0 d_int) (dv 2)))))
    (b_cons (s_setLc (i := 4) (own := [("_law_k", 5)]) rfl sc__law_is_loop.nd (i_range1 B.range (dc (d_lenV 3 B.len) dn)) (blkOk_by (N := N__law_is_loop) (sc := defScope s__law_is_loop) (by decide +kernel)) (fun _ _ _ _ _ => (c_name (i := 5) sc__law_is_loop.nd)) (fun _ _ _ _ _ => ts_nil) (fun _ _ _ _ _ => (d_eq hr.units (d_ix (d_ixV 3 (dv 5)) d_int) (d_ix (d_ixV 3 (d_mod (d_intc B.int (dc (d_add (dv 5) d_int) dn)) (d_lenV 3 B.len))) d_int))) (sw_true rfl rfl rfl (by decide +kernel)))
    (b_cons (s_asg (d_tup (dc d_int (dc d_int dn))) (g_tup (n := 2) rfl (gs_cons (g_name (i := 6) sc__law_is_loop.nd) (gs_cons (g_name (i := 7) sc__law_is_loop.nd) gs_nil))))
    (b_cons (s_for PassesOwn.never rfl (i_seq (dv 3)) (g_tup (n := 4) rfl (gs_cons (g_name (i := 8) sc__law_is_loop.nd) (gs_cons (g_name (i := 9) sc__law_is_loop.nd) (gs_cons (g_name (i := 10) sc__law_is_loop.nd) (gs_cons (g_name (i := 11) sc__law_is_loop.nd) gs_nil))))) (b_one (s_par (i := 6) (j := 7) rfl sc__law_is_loop.nd (dc (d_mul (dv 6) (dv 11)) (dc (d_mul (dv 7) (dv 9)) dn)))))
    (b_one (s_ret (d_and (d_notin d_bl (dv 4)) (d_and (d_eq hr.units (d_lenSetI rfl B.len B.set (d_lc (own := [("_law_offer", 12)]) rfl sc__law_is_loop.nd (i_seq (dv 3)) (blkOk_by (N := N__law_is_loop) (sc := defScope s__law_is_loop) (by decide +kernel)) (fun _ _ _ _ _ => (c_name (i := 12) sc__law_is_loop.nd)) (fun _ _ _ _ _ => ts_nil) (fun _ _ _ _ _ => (d_ixV 12 d_int)))) (d_lenV 3 B.len)) (d_one (d_gt (dv 6) (dv 7)))))))))))))), sp2_by ?_⟩
  rintro _ _ Q ⟨nk, os, r, rfl, h, rfl, t, q⟩
  have ol := h.len
  have tl := t.len
  have rp := List.length_pos_iff.mpr t.ne
  obtain ⟨u, w0⟩ := t.w
  unfold isD
  refine seq_intro fun k hk => ?_
  walk_at "rd"
  have re : (r.map D.int).isEmpty = false := by
    cases c : r with
    | nil => exact absurd c t.ne
    | cons _ _ => rfl
  rw [re]
  refine ⟨by decide, ?_⟩
  rw [if_neg (by decide)]
  subst hk
  refine seq_intro fun k hk => ?_
  unfold bd
  walk_at "rd"
  refine lcD_flt r D.int (fun _ => false) D.int _ rfl rfl (small_le (by omega)) (fun i hi R R' h1 h2 => ?_) ?_
  · walk_at "rd"
    have ix := t.ix.1 i hi
    refine ⟨0, (os.length : Int) - 1, rfl, by rw [List.length_map], rfl, ?_⟩
    rw [show btw 0 ((os.length : Int) - 1) (.int i) = true from by show (decide _ && decide _) = true; rw [decide_eq_true ix.1, decide_eq_true (show i ≤ (os.length : Int) - 1 by omega)]; rfl]
    walk_at "rd"
    exact h2 rfl _ rfl
  rw [show (r.filter fun _ => false) = [] from List.filter_eq_nil_iff.mpr fun _ _ z => nomatch z]
  walk_at "rd"
  refine ⟨by decide, ok_lints [], ok_lints [], ?_⟩
  try rw [show (D.lst (List.map D.int [])).eqv (D.lst []) = true from rfl]
  try rw [if_neg (by decide)]
  subst hk
  refine seq_intro fun k hk => ?_
  walk_at "rd"
  obtain ⟨m, m0, ml⟩ := t.mn
  have ea : atI (r.map D.int) 0 = some (.int m) := atI_nat (j := 0) (by rw [List.getElem?_map, m0]; rfl)
  have mm := List.mem_of_getElem? m0
  rw [ea]
  dsimp only
  refine ⟨r, rfl, rp, fun m' mm' ml' => ?_⟩
  obtain rfl : m = m' := Int.le_antisymm (ml _ mm') (ml' _ mm)
  rw [if_neg (by rw [decide_eq_true rfl]; decide)]
  subst hk
  refine seq_intro fun k hk => ?_
  walk_at "rd"
  refine lcD_all r D.int (fun i => (gO os i).d) _ rfl rfl (small_le (by omega)) (fun i hi R hR => ?_) ?_
  · walk_at "rd"
    rw [(gO_at (t.ix.1 i hi).1 (t.ix.1 i hi).2).1]
    exact hR _ rfl
  walk_at "rd"
  subst hk
  refine seq_intro fun k hk => ?_
  walk_at "rd"
  have e62 : (2 : Int) ^ 62 = 4611686018427387904 := by decide
  have at_ : ∀ K : Nat, K < r.length → atI (r.map fun i => (gO os i).d) (K : Int) = some (gO os (r.getD K 0)).d := fun K hK => atI_nat (by
    rw [List.getElem?_map, List.getElem?_eq_getElem hK, List.getD_eq_getElem?_getD, List.getElem?_eq_getElem hK]
    rfl)
  rw [List.length_map]
  refine ⟨⟨by omega, by omega⟩, ?_⟩
  rw [rngD_rg]
  refine lcD_all (rg r.length) D.int (fun _ => D.bl true) _ rfl rfl (small_le (by rw [rg_len]; omega)) (fun x hx R hR => ?_) ?_
  · obtain ⟨x0, x1⟩ := mem_rg.mp hx
    obtain ⟨K, rfl⟩ : ∃ K : Nat, x = K := ⟨x.toNat, by omega⟩
    have hK : K < r.length := by omega
    have lk := link_ok w0 K hK
    walk_at "rd"
    rw [at_ K hK, ofd]
    walk_at "rd"
    rw [List.length_map, show ((K : Int) + 1) % (r.length : Int) = (((K + 1) % r.length : Nat) : Int) from rfl, at_ _ (Nat.mod_lt _ (by omega)), ofd]
    refine ⟨by omega, ?_⟩
    walk_at "rd"
    rw [decide_eq_true lk]
    exact hR _ rfl
  walk_at "rd"
  subst hk
  refine seq_intro fun k hk => ?_
  walk_at "rd"
  refine ⟨by decide, ?_⟩
  subst hk
  refine seq_intro fun k hk => ?_
  walk_at "rd"
  refine ⟨fun j E => ∃ s8 s9 s10 s11 : Sl, (s8.free ∧ s9.free ∧ s10.free ∧ s11.free) ∧ E = [Sl.fz (bd nk os), Sl.fz (D.tup (r.map D.int)), Sl.un, Sl.fz (D.lst (r.map fun i => (gO os i).d)), Sl.fz (D.lst ((rg r.length).map fun _ => D.bl true)), Sl.un, Sl.fz (.int (prY os (r.take j))), Sl.fz (.int (prX os (r.take j))), s8, s9, s10, s11, Sl.un], ⟨.un, .un, .un, .un, ⟨True.intro, True.intro, True.intro, True.intro⟩, rfl⟩, ?_, ?_⟩
  · rintro j y _ hj ⟨s8, s9, s10, s11, ⟨f8, f9, f10, f11⟩, rfl⟩
    obtain ⟨i, ei, rfl⟩ := map_get hj
    have hi := t.ix.1 i (List.mem_of_getElem? ei)
    obtain ⟨_, _, _, ⟨x0, x1⟩, y0, y1⟩ := h.ok _ (gO_at hi.1 hi.2).2
    have tk : r.take (j + 1) = r.take j ++ [i] := by
      rw [List.take_add_one, ei]
      rfl
    clear hk
    rw [ofd]
    walk_at "rd"
    refine ⟨f8, f9, f10, f11, cmulR (by omega) (by omega), cmulR (by omega) (by omega), ?_⟩
    exact ⟨.fz (.int (gO os i).a), .fz (.int (gO os i).x), .fz (.int (gO os i).b), .fz (.int (gO os i).y), ⟨True.intro, True.intro, True.intro, True.intro⟩, by rw [tk, prY_app, prX_app, prY_one, prX_one]⟩
  rintro _ ⟨s8, s9, s10, s11, _, rfl⟩
  rw [List.length_map, List.take_length]
  subst hk
  walk_at "rd"
  have fl : ∀ l : List Int, (l.map fun _ => D.bl true).all D.flat = true := fun l => by
    induction l with
    | nil => rfl
    | cons _ l ih => rw [List.map_cons, List.all_cons, ih]; rfl
  have ni : ∀ l : List Int, inD (D.bl false) (l.map fun _ => D.bl true) = false := fun l => by
    induction l with
    | nil => rfl
    | cons _ l ih => rw [List.map_cons]; exact ih
  rw [ni]
  refine ⟨rfl, fl _, ?_⟩
  rw [if_pos (by decide)]
  refine lcD_all r (fun i => (gO os i).d) (fun i => .int (gO os i).a) _ rfl rfl (small_le (by omega)) (fun i hi R hR => ?_) ?_
  · rw [ofd]
    walk_at "rd"
    exact hR _ rfl
  rw [show r.map (fun i => D.int (gO os i).a) = (kds os r).map D.int from by unfold kds; rw [List.map_map]; rfl]
  have kl : (kds os r).length = r.length := List.length_map _
  refine ⟨kds os r, rfl, by have : (10 : Nat) < scanBound := by decide
                            omega, fun out nd mem => ?_⟩
  have el : out.length = (kds os r).length := Nat.le_antisymm (nodup_leI nd fun x hx => (mem x).mp hx) (nodup_leI t.nd fun x hx => (mem x).mpr hx)
  walk_at "rd"
  rw [el, kl, List.length_map, if_pos (decide_eq_true rfl), decide_eq_true (show prX os r < prY os r from t.gn)]
  exact q
abbrev s__law_is_seen : Stmt := top 97
abbrev N__law_is_seen : List Str := ["_law_till", "_law_state", "_law_edits", "_law_found", "_law_amounts", "_law_amount"]
theorem sc__law_is_seen : FnScope N__law_is_seen ["_law_till", "_law_state", "_law_edits"] (defScope s__law_is_seen) := ⟨rfl, rfl, rfl, by decide +kernel, rfl, by decide +kernel, by decide +kernel⟩
def R__law_is_seen : Addr → D → D → D → (D → Prop) → Prop := fun C h st e Q => ∃ (nk : Int) (os : List Of) (ns : List Int) (l : D), h = .ins C (tillF (bd nk os) (.tup (ns.map .int)) l) ∧ st = .tup [bd nk os, .tup (ns.map .int)] ∧ e = .lst [] ∧ BO nk os ∧ ns.length ≤ 4 ∧ (∀ n ∈ ns, 0 ≤ n ∧ n ≤ 1000000) ∧ Q (.bl true)
theorem ok__law_is_seen {A_Till : Addr} (l_Till : L2.Cls K A_Till) (o_Till_board : OFld K A_Till "board") (o_Till_kept : OFld K A_Till "kept") (o_Till_loop : OFld K A_Till "loop") (o_Till_purse : OFld K A_Till "purse") (o_Till_standing : OFld K A_Till "standing") (o_Till_states : OFld K A_Till "states") (o_Till_watching : OFld K A_Till "watching") (p_Till : SpcC K A_Till) (h__law_is_seen : Dfn K mg "_law_is_seen" s__law_is_seen ["_law_till", "_law_state", "_law_edits"]) (B : Bl mg) (c_Till_state : CalMK P w K mg base A_Till "state" 1 "version" 4 ["self", "version"] (spx2 (R_Till_state A_Till))) (c_Till_edits : CalM P w K mg base A_Till "edits" 1 ["self"] (spx1 (R_Till_edits A_Till))) (c_Till___str__ : CalM P w K mg base A_Till "__str__" 1 ["self"] (spx1 (R_Till___str__ A_Till))) (c_Till___len__ : CalS P w K mg base A_Till "__len__" 1 ["self"] (spTabLenL K A_Till "standing")) : Cal P w K mg base CX0 "_law_is_seen" 5 ["_law_till", "_law_state", "_law_edits"] (liftP K (sp3 (R__law_is_seen A_Till))) := by
  obtain ⟨f_Till_state, fd_Till_state, C_Till_state⟩ := c_Till_state
  obtain ⟨f_Till_edits, fd_Till_edits, C_Till_edits⟩ := c_Till_edits
  obtain ⟨f_Till___str__, fd_Till___str__, C_Till___str__⟩ := c_Till___str__
  obtain ⟨f_Till___len__, fd_Till___len__, C_Till___len__⟩ := c_Till___len__
  refine cal_pure h__law_is_seen sc__law_is_seen (by decide) sp3_len ⟨_, fun f cdv A outer s H E hgd hr => (b_cons (s_set (i := 3) sc__law_is_seen.nd (d_lst (dc (d_fldK K (dv 0)) (dc (d_fldK K (dv 0)) (dc (d_nx (x_methK0 C_Till_state.cl C_Till_state.mt C_Till_state.fn hgd hr C_Till_state.kw (dv 0))) (dc (d_nx (x_meth0 C_Till_edits.cl C_Till_edits.mt C_Till_edits.fn hgd (hr.mono (by decide)) C_Till_edits.bd (dv 0))) dn))))))
    (b_cons (s_if (t_w (w_or (t_ne hr.units (d_reprK hgd hr.units B.repr (dc (dv 3) dn)) (d_reprK hgd hr.units B.repr (dc (d_lst (dc (d_ixV 1 d_int) (dc (d_ixV 1 d_int) (dc (dv 1) (dc (d_tuplec B.tuple (dc (dv 2) dn)) dn))))) dn))) (w_or1 (t_ne hr.units (d_lenL (C_Till___len__.spc p_Till) C_Till___len__.fn hgd (hr.mono (by decide)) C_Till___len__.bd B.len (dc (dv 0) dn)) (d_lenV 2 B.len))))) (b_one (s_ret d_bl)) b_nil)
    (b_cons (s_set (i := 4) sc__law_is_seen.nd (d_join d_str (d_lc (own := [("_law_amount", 5)]) rfl sc__law_is_seen.nd (i_seq (d_ixV 1 d_int)) (blkOk_by (N := N__law_is_seen) (sc := defScope s__law_is_seen) (by decide +kernel)) (fun _ _ _ _ _ => (c_name (i := 5) sc__law_is_seen.nd)) (fun _ _ _ _ _ => ts_nil) (fun _ _ _ _ _ => (d_strc B.str (dc (dv 5) dn))))))
    (b_one (s_ret (d_eq hr.units (d_strS (C_Till___str__.spc p_Till) C_Till___str__.fn hgd (hr.mono (by decide)) C_Till___str__.bd B.str (dc (dv 0) dn)) (d_fst (.cons (d_fmt (d_len B.len (dc (d_ix (d_ixV 1 d_int) d_int) dn))) (.cons d_str (.cons (d_fmt (dv 4)) (.cons d_str (.cons (d_fmt (d_lenV 2 B.len)) (.cons d_str .nil))))))))))))), sp3_by ?_⟩
  rintro _ _ _ Q ⟨nk, os, ns, l, rfl, rfl, rfl, h, nl, hn, q⟩
  refine seq_intro fun k hk => ?_
  walk_at "rd"
  refine ⟨o_Till_board, bd nk os, rfl, o_Till_purse, .tup (ns.map D.int), rfl, rfl, bd nk os, .tup (ns.map D.int), l, rfl, .inl rfl, rfl, bd nk os, .tup (ns.map D.int), l, rfl, by decide, ?_⟩
  subst hk
  refine seq_intro fun k hk => ?_
  walk_at "rd"
  have fs := found_shK h nl hn
  refine ⟨fs, by decide, fs, ?_⟩
  rw [if_neg (by decide)]
  refine ⟨[], rfl, by decide, ?_⟩
  rw [if_neg (by decide)]
  subst hk
  refine seq_intro fun k hk => ?_
  walk_at "rd"
  refine lcD_all ns D.int (fun v => D.str (nS v)) _ rfl rfl (small_le (by omega)) (fun v hv R hR => ?_) ?_
  · walk_at "rd"
    exact ⟨nS_lg (hn v hv).1 (hn v hv).2, hR _ rfl⟩
  walk_at "rd"
  refine ⟨ns.map nS, .inl (by rw [List.map_map]; rfl), am_sum nl hn, ?_⟩
  subst hk
  walk_at "rd"
  have al := am_len nl hn
  have ol := h.len
  have l1 : (nS os.length).length ≤ 21 := nS_len (by omega) (by omega)
  have l0 : (nS 0).length ≤ 21 := nS_len (by decide) (by decide)
  have a1 : (Str.ofString " offers, purse ").length = 15 := by decide +kernel
  have a2 : (Str.ofString ", ").length = 2 := by decide +kernel
  have a3 : (Str.ofString " edits").length = 6 := by decide +kernel
  have a0 : Str.empty.length = 0 := rfl
  refine ⟨nk, os, ns, l, rfl, h, nl, hn, tillS os ns, rfl, ?_⟩
  have eT : tillS os ns = Str.empty ++ Str.ofString (toString (os.length : Int)) ++ Str.ofString " offers, purse " ++ amS ns ++ Str.ofString ", " ++ Str.ofString (toString ((0 : Nat) : Int)) ++ Str.ofString " edits" := rfl
  generalize tillS os ns = T at eT ⊢
  have l1 : (Str.ofString (toString (os.length : Int))).length ≤ 21 := l1
  have l0 : (Str.ofString (toString ((0 : Nat) : Int))).length ≤ 21 := l0
  unfold bd
  walk_at "rd"
  rw [show (Str.ofString " ").join (ns.map nS) = amS ns from rfl, List.length_map]
  generalize Str.ofString (toString (os.length : Int)) = S1 at eT l1 ⊢
  generalize Str.ofString (toString ((0 : Nat) : Int)) = S0 at eT l0 ⊢
  refine ⟨nS_lg (by omega) (by omega), small_le (by simp only [strLen_append]; omega), small_le (by simp only [strLen_append]; omega), small_le (by omega), small_le (by simp only [strLen_append]; omega), small_le (by simp only [strLen_append]; omega), by decide, small_le (by simp only [strLen_append]; omega), small_le (by simp only [strLen_append]; omega), ?_⟩
  rw [decide_eq_true eT]
  exact q
abbrev s__law_made : Stmt := top 100
abbrev N__law_made : List Str := ["_law_board", "_law_purse", "e"]
theorem sc__law_made : FnScope N__law_made ["_law_board", "_law_purse"] (defScope s__law_made) := ⟨rfl, rfl, rfl, by decide +kernel, rfl, by decide +kernel, by decide +kernel⟩
def R__law_made : Addr → D → D → (D → Prop) → Prop := fun C b p Q => b.plainK = true ∧ p.plainK = true ∧ p.shK ∧ (beD b ≠ .non → Q (.lst [.str "board", shw (beD b)])) ∧ (∀ nk os, b = bd nk os → BO nk os → beD b = .non → purB nk p = false → Q (.lst [.str "purse", shw p])) ∧
    ∀ nk os l, b = bd nk os → BO nk os → beD b = .non → purB nk p = true → LoopD nk os l → Q (.ins C (tillF b p l))
theorem ok__law_made {A_BadBoard : Addr} {A_BadPurse : Addr} {A_Till : Addr} (f_BadBoard_error : XFld K mg "BadBoard" "error") (f_BadPurse_value : XFld K mg "BadPurse" "value") (l_Till : L2.Cls K A_Till) (m_BadBoard : mg "BadBoard" = some (.ref A_BadBoard)) (m_BadPurse : mg "BadPurse" = some (.ref A_BadPurse)) (m_Till : mg "Till" = some (.ref A_Till)) (s_BadBoard_BadBoard : XSub K mg "BadBoard" "BadBoard" true) (s_BadPurse_BadBoard : XSub K mg "BadPurse" "BadBoard" false) (s_BadPurse_BadPurse : XSub K mg "BadPurse" "BadPurse" true) (h__law_made : Dfn K mg "_law_made" s__law_made ["_law_board", "_law_purse"]) (B : Bl mg) (c_Till___init__ : CalI P w K mg base "Till" A_Till 10 ["self", "board", "purse"] (sox2 (R_Till___init__ A_Till))) : Cal P w K mg base CX0 "_law_made" 12 ["_law_board", "_law_purse"] (liftP K (sp2 (R__law_made A_Till))) := by
  obtain ⟨f_Till___init__, fd_Till___init__, C_Till___init__⟩ := c_Till___init__
  refine cal_pure h__law_made sc__law_made (by decide) sp2_len ⟨_, fun f cdv A outer s H E hgd hr => (b_one (s_tryK K mg sc__law_made.nd (fun pn xe po => (b_one (s_retX (x_make C_Till___init__.mkc C_Till___init__.fn hgd hr C_Till___init__.mg C_Till___init__.bd (ax_of (dc (dv 0) (dc (dv 1) dn))))))) (.as 2 _ ⟨rfl, by decide, .inl m_BadBoard⟩ rfl rfl (fun a oe cls d pn hz hf => (b_one (s_ret (d_lst (dc d_str (dc (d_reprK hgd hr.units B.repr (dc (d_xfK K 2 hz hf) dn)) dn)))))) (.as 2 _ ⟨rfl, by decide, .inl m_BadPurse⟩ rfl rfl (fun a oe cls d pn hz hf => (b_one (s_ret (d_lst (dc d_str (dc (d_reprK hgd hr.units B.repr (dc (d_xfK K 2 hz hf) dn)) dn)))))) .nil)))), sp2_by ?_⟩
  rintro b p Q ⟨hb, hp, sp, q1, q2, q3⟩
  have sb := beD_sh b
  walk_at "rd"
  refine ⟨hb, hp, rfl, fun c1 => ?_, fun nk os e bo c1 c2 => ?_, fun nk os l e bo c1 c2 hl => ?_⟩
  · refine ⟨true, s_BadBoard_BadBoard, fun _ => ⟨True.intro, fun ea cls d hc hC hd => ?_⟩, fun z => nomatch z⟩
    obtain rfl : cls = .ref A_BadBoard := by
      have e := hc.symm.trans m_BadBoard
      cases e
      rfl
    unfold slotD
    walk_at "rd"
    exact ⟨f_BadBoard_error.ok m_BadBoard ⟨_, rfl⟩, beD b, rfl, sb, by decide, q1 c1⟩
  · refine ⟨false, s_BadPurse_BadBoard, fun z => (nomatch z), fun _ => ⟨true, s_BadPurse_BadPurse, fun _ => ⟨True.intro, fun ea cls d hc hC hd => ?_⟩, fun z => nomatch z⟩⟩
    obtain rfl : cls = .ref A_BadPurse := by
      have e := hc.symm.trans m_BadPurse
      cases e
      rfl
    unfold slotD
    walk_at "rd"
    exact ⟨f_BadPurse_value.ok m_BadPurse ⟨_, rfl⟩, p, rfl, sp, by decide, q2 nk os e bo c1 c2⟩
  · exact ⟨rfl, _, rfl, q3 nk os l e bo c1 c2 hl⟩
abbrev s__law_due : Stmt := top 101
abbrev N__law_due : List Str := ["_law_board", "_law_purse", "_law_error"]
theorem sc__law_due : FnScope N__law_due ["_law_board", "_law_purse"] (defScope s__law_due) := ⟨rfl, rfl, rfl, by decide +kernel, rfl, by decide +kernel, by decide +kernel⟩
def R__law_due : D → D → (D → Prop) → Prop := fun b p Q => b.plainK = true ∧ p.plainK = true ∧ p.shK ∧ purOk p ∧ (beD b ≠ .non → Q (.lst [.str "board", shw (beD b)])) ∧ (∀ nk os, b = bd nk os → BO nk os → beD b = .non → purB nk p = false → Q (.lst [.str "purse", shw p])) ∧
    ∀ nk os, b = bd nk os → BO nk os → beD b = .non → purB nk p = true → Q (.lst [])
theorem ok__law_due (h__law_due : Dfn K mg "_law_due" s__law_due ["_law_board", "_law_purse"]) (B : Bl mg) (c__law_board_error : Cal P w K mg base CX0 "_law_board_error" 3 ["_law_value"] (liftP K (sp1 R__law_board_error))) (c__law_is_purse : Cal P w K mg base CX0 "_law_is_purse" 2 ["_law_value", "_law_many"] (liftP K (sp2 R__law_is_purse))) : Cal P w K mg base CX0 "_law_due" 4 ["_law_board", "_law_purse"] (liftP K (sp2 R__law_due)) := by
  obtain ⟨f__law_board_error, fd__law_board_error, C__law_board_error⟩ := c__law_board_error
  obtain ⟨f__law_is_purse, fd__law_is_purse, C__law_is_purse⟩ := c__law_is_purse
  refine cal_pure h__law_due sc__law_due (by decide) sp2_len ⟨_, fun f cdv A outer s H E hgd hr => (b_cons (s_set (i := 2) sc__law_due.nd (d_call C__law_board_error.fn hgd hr C__law_board_error.mg C__law_board_error.kp C__law_board_error.bd pass0 (dc (dv 0) dn)))
    (b_cons (s_if (t_notN (dv 2) d_non) (b_one (s_ret (d_lst (dc d_str (dc (d_reprK hgd hr.units B.repr (dc (dv 2) dn)) dn))))) b_nil)
    (b_one (s_ret (d_ifx (t_val (d_call C__law_is_purse.fn hgd (hr.mono (by decide)) C__law_is_purse.mg C__law_is_purse.kp C__law_is_purse.bd pass0 (dc (dv 1) (dc (d_ixV 0 d_int) dn)))) (d_lst dn) (d_lst (dc d_str (dc (d_reprK hgd hr.units B.repr (dc (dv 1) dn)) dn)))))))), sp2_by ?_⟩
  rintro b p Q ⟨hb, hp, sp, po, q1, q2, q3⟩
  have sb := beD_sh b
  refine seq_intro fun k hk => ?_
  walk_at "rd"
  refine ⟨hb, ?_⟩
  subst hk
  refine seq_intro fun k hk => ?_
  walk_at "rd"
  rcases beD_tp b with e | ⟨xs, e⟩
  · obtain ⟨nk, os, rfl, bo⟩ := beD_non e
    rw [e]
    walk_at "rd"
    subst hk
    walk_at "rd"
    refine ⟨nk, rfl, bo.k4, hp, po, ?_⟩
    cases c : purB nk p with
    | true =>
      walk_at "rd"
      exact ⟨by decide, q3 nk os rfl bo e c⟩
    | false =>
      walk_at "rd"
      exact ⟨sp, by decide, q2 nk os rfl bo e c⟩
  · have ne : beD b ≠ .non := by
      rw [e]
      exact fun z => nomatch z
    have q := q1 ne
    rw [e] at sb q ⊢
    walk_at "rd"
    exact ⟨sb, by decide, q⟩
abbrev s__law_is_new : Stmt := top 102
abbrev N__law_is_new : List Str := ["_law_till", "_law_board", "_law_purse"]
theorem sc__law_is_new : FnScope N__law_is_new ["_law_till", "_law_board", "_law_purse"] (defScope s__law_is_new) := ⟨rfl, rfl, rfl, by decide +kernel, rfl, by decide +kernel, by decide +kernel⟩
def R__law_is_new : Addr → D → D → D → (D → Prop) → Prop := fun C h b p Q => ∃ (nk : Int) (os : List Of) (ns : List Int) (l : D), h = .ins C (tillF (bd nk os) (.tup (ns.map .int)) l) ∧ b = bd nk os ∧ p = .tup (ns.map .int) ∧ BO nk os ∧ ns.length ≤ 4 ∧ (∀ n ∈ ns, 0 ≤ n ∧ n ≤ 1000000) ∧ LoopD nk os l ∧ Q (.bl true)
theorem ok__law_is_new {A_Till : Addr} (l_Till : L2.Cls K A_Till) (o_Till_loop : OFld K A_Till "loop") (h__law_is_new : Dfn K mg "_law_is_new" s__law_is_new ["_law_till", "_law_board", "_law_purse"]) (B : Bl mg) (c__law_gains : Cal P w K mg base CX0 "_law_gains" 2 ["_law_board"] (liftP K (sp1 R__law_gains))) (c__law_is_loop : Cal P w K mg base CX0 "_law_is_loop" 2 ["_law_board", "_law_indexes"] (liftP K (sp2 R__law_is_loop))) (c__law_is_seen : Cal P w K mg base CX0 "_law_is_seen" 5 ["_law_till", "_law_state", "_law_edits"] (liftP K (sp3 (R__law_is_seen A_Till)))) (c_Till_state : CalMK P w K mg base A_Till "state" 1 "version" 4 ["self", "version"] (spx2 (R_Till_state A_Till))) : Cal P w K mg base CX0 "_law_is_new" 6 ["_law_till", "_law_board", "_law_purse"] (liftP K (sp3 (R__law_is_new A_Till))) := by
  obtain ⟨f__law_gains, fd__law_gains, C__law_gains⟩ := c__law_gains
  obtain ⟨f__law_is_loop, fd__law_is_loop, C__law_is_loop⟩ := c__law_is_loop
  obtain ⟨f__law_is_seen, fd__law_is_seen, C__law_is_seen⟩ := c__law_is_seen
  obtain ⟨f_Till_state, fd_Till_state, C_Till_state⟩ := c_Till_state
  refine cal_pure h__law_is_new sc__law_is_new (by decide) sp3_len ⟨_, fun f cdv A outer s H E hgd hr => (b_cons (s_if (t_w (w_or (t_not (t_val (d_call C__law_is_seen.fn hgd hr C__law_is_seen.mg C__law_is_seen.kp C__law_is_seen.bd pass0 (dc (dv 0) (dc (d_tup (dc (dv 1) (dc (dv 2) dn))) (dc (d_lst dn) dn)))))) (w_or1 (t_ne hr.units (d_reprK hgd hr.units B.repr (dc (d_nx (x_methK1 C_Till_state.cl C_Till_state.mt C_Till_state.fn hgd (hr.mono (by decide)) C_Till_state.kw (dv 0) (x_of d_int))) dn)) (d_reprK hgd hr.units B.repr (dc (d_tup (dc (dv 1) (dc (dv 2) dn))) dn)))))) (b_one (s_ret d_bl)) b_nil)
    (b_cons (s_if (t_val (d_call C__law_gains.fn hgd (hr.mono (by decide)) C__law_gains.mg C__law_gains.kp C__law_gains.bd pass0 (dc (dv 1) dn))) (b_one (s_ret (d_call C__law_is_loop.fn hgd (hr.mono (by decide)) C__law_is_loop.mg C__law_is_loop.kp C__law_is_loop.bd pass0 (dc (dv 1) (dc (d_fldK K (dv 0)) dn))))) b_nil)
    (b_one (s_ret (d_isN (d_fldK K (dv 0)) d_non))))), sp3_by ?_⟩
  rintro _ _ _ Q ⟨nk, os, ns, l, rfl, rfl, rfl, h, nl, hn, hl, q⟩
  refine seq_intro fun k hk => ?_
  walk_at "rd"
  refine ⟨by decide, by decide, nk, os, ns, l, rfl, rfl, rfl, h, nl, hn, ?_⟩
  walk_at "rd"
  have s2 := two_shK2 h nl hn
  refine ⟨rfl, bd nk os, .tup (ns.map D.int), l, rfl, .inr rfl, s2, by decide, s2, ?_⟩
  rw [decide_eq_true rfl, if_neg (by decide)]
  subst hk
  refine seq_intro fun k hk => ?_
  walk_at "rd"
  refine ⟨nk, os, rfl, h, fun ng => ?_, fun ng => ?_⟩
  · walk_at "rd"
    subst hk
    walk_at "rd"
    rcases hl with ⟨rfl, _⟩ | ⟨r, rfl, t⟩
    · refine ⟨o_Till_loop, .non, rfl, ?_⟩
      exact q
    · exact absurd ng (fun ng => by
        obtain ⟨u, w⟩ := t.w
        have := round_le h (a := u) (c := u) (fun v js _ => ng v js True.intro) ⟨.refl, .refl⟩ w
        have := t.gn
        omega)
  · walk_at "rd"
    rcases hl with ⟨rfl, ng2⟩ | ⟨r, rfl, t⟩
    · exact absurd ng2 ng
    · refine ⟨o_Till_loop, isD r, rfl, ?_⟩
      exact ⟨nk, os, r, rfl, h, rfl, t, q⟩
abbrev s__law_odd : Stmt := top 98
abbrev N__law_odd : List Str := ["_law_deck_here", "_law_some"]
theorem sc__law_odd : FnScope N__law_odd ["_law_deck_here"] (defScope s__law_odd) := ⟨rfl, rfl, rfl, by decide +kernel, rfl, by decide +kernel, by decide +kernel⟩
def R__law_odd : DkP := fun cs n Q => DkOk cs n ∧ n < 2 ^ 40 ∧ ∀ (d : D) (cs' : List Int), VB d → cs'.length ≤ 63 → Q d cs' (n + 1)
theorem ok__law_odd (h__law_odd : Dfn K mg "_law_odd" s__law_odd ["_law_deck_here"]) (B : Bl mg) (c__law_one : Cal P w K mg base CX0 "_law_one" 2 ["_law_deck_here", "_law_items"] (liftOw K (so1 R_one))) : Cal P w K mg base CX0 "_law_odd" 3 ["_law_deck_here"] (liftOw K (so0 R__law_odd)) := by
  obtain ⟨f__law_one, fd__law_one, C__law_one⟩ := c__law_one
  refine cal_own h__law_odd sc__law_odd so0_len ⟨_, fun f cdv A outer s H E hgd hr => (b_cons (s_set (i := 1) sc__law_odd.nd (d_lst (dc d_non (dc d_bl (dc d_int (dc d_str (dc (d_tup dn) (dc (d_lst dn) (dc d_dct0 (dc (d_tup (dc d_int dn)) (dc (d_lst (dc d_int (dc d_int dn))) (dc (d_tup (dc d_bl (dc d_bl dn))) (dc (d_tup (dc d_int (dc (d_tup dn) dn))) (dc (d_tup (dc d_int (dc (d_lst dn) dn))) dn))))))))))))))
    (b_cons (s_set (i := 1) sc__law_odd.nd (d_add (dv 1) (d_lst (dc (d_tup (dc d_int (dc (d_tup (dc (d_tup (dc d_int (dc d_int (dc d_int (dc d_int dn))))) dn)) dn))) (dc (d_tup (dc d_int (dc (d_tup (dc (d_tup (dc d_int (dc d_int (dc d_int (dc d_int dn))))) (dc (d_tup (dc d_int (dc d_int (dc d_int (dc d_int dn))))) dn))) dn))) (dc (d_tup (dc d_int (dc (d_add (d_pow d_int d_int) d_int) dn))) dn))))))
    (b_one (s_ret (d_callO 0 C__law_one.fn hgd hr C__law_one.mg C__law_one.kp C__law_one.bd pass0 (dc (d_add (dv 1) (d_lst (dc (d_tup (dc d_int (dc (d_tup dn) dn))) (dc (d_tup (dc d_int (dc (d_tup dn) dn))) dn)))) dn)))))), so0_by ?_⟩
  rintro cs n Q ⟨⟨hcs, hn0⟩, hn, q⟩
  have cp : ∀ k : Int, 0 ≤ k → k ≤ 1000000 → CPow 10 k := fun k k0 k1 => cpow k0 k1 (by decide) (by decide)
  refine seq_intro fun k hk => ?_
  walk_at "rd"
  repeat (first | refine ⟨cp _ (by decide) (by decide), ?_⟩ | refine ⟨by decide, ?_⟩)
  subst hk
  refine seq_intro fun k hk => ?_
  walk_at "rd"
  repeat (first | refine ⟨cp _ (by decide) (by decide), ?_⟩ | refine ⟨by decide, ?_⟩)
  subst hk
  walk_at "rd"
  rw [show (10 : Int) ^ 6 + 1 = 1000001 from by decide]
  refine ⟨by decide, by decide, by decide, by decide, by decide, by decide, odds, .inl rfl, ⟨hcs, by omega⟩, by omega, by decide, by decide, fun x cs1 h1 hx => ⟨_, rfl, q x cs1 (odds_ok x hx) h1⟩⟩
abbrev s__law_begun : Stmt := top 93
abbrev N__law_begun : List Str := ["_law_deck_here", "_law_kinds", "_law_found", "_law_time", "_law_a", "_law_x", "_law_b", "_law_offer", "_law_kind"]
theorem sc__law_begun : FnScope N__law_begun ["_law_deck_here", "_law_kinds"] (defScope s__law_begun) := ⟨rfl, rfl, rfl, by decide +kernel, rfl, by decide +kernel, by decide +kernel⟩
def R__law_begun : D → DkP := fun m cs n Q => ∃ nk : Int, m = .int nk ∧ 2 ≤ nk ∧ nk ≤ 4 ∧ DkOk cs n ∧ n < 2 ^ 39 ∧ ∀ (os : List Of) (ns cs' : List Int) (n' : Int), BO nk os → (ns.length : Int) = nk → (∀ v ∈ ns, 0 ≤ v ∧ v ≤ 1000000) → cs'.length ≤ 63 → n ≤ n' → n' ≤ n + 40 → Q (.tup [bd nk os, .tup (ns.map .int)]) cs' n' 
theorem ok__law_begun (h__law_begun : Dfn K mg "_law_begun" s__law_begun ["_law_deck_here", "_law_kinds"]) (B : Bl mg) (c__law_draw : Cal P w K mg base CX0 "_law_draw" 1 ["_law_deck_here", "_law_many"] (liftOw K (so1 R_draw))) : Cal P w K mg base CX0 "_law_begun" 2 ["_law_deck_here", "_law_kinds"] (liftOw K (so1 R__law_begun)) := by
  obtain ⟨f__law_draw, fd__law_draw, C__law_draw⟩ := c__law_draw
  refine cal_own h__law_begun sc__law_begun so1_len ⟨_, fun f cdv A outer s H E hgd hr => (b_cons (s_newL (i := 2) sc__law_begun.nd dn)
    (b_cons (s_for PassesOwn.never rfl (i_range1 B.range (dc (d_callO 0 C__law_draw.fn hgd hr C__law_draw.mg C__law_draw.kp C__law_draw.bd pass0 (dc d_int dn)) dn)) (g_name (i := 3) sc__law_begun.nd) (b_cons (s_par (i := 4) (j := 5) rfl sc__law_begun.nd (dc (d_callO 0 C__law_draw.fn hgd hr C__law_draw.mg C__law_draw.kp C__law_draw.bd pass0 (dc (dv 1) dn)) (dc (d_add d_int (d_callO 0 C__law_draw.fn hgd hr C__law_draw.mg C__law_draw.kp C__law_draw.bd pass0 (dc d_int dn))) dn)))
    (b_cons (s_set (i := 6) sc__law_begun.nd (d_mod (d_intc B.int (dc (d_add (d_add (dv 4) d_int) (d_callO 0 C__law_draw.fn hgd hr C__law_draw.mg C__law_draw.kp C__law_draw.bd pass0 (dc (d_sub (dv 1) d_int) dn))) dn)) (dv 1)))
    (b_cons (s_set (i := 7) sc__law_begun.nd (d_tup (dc (dv 4) (dc (dv 5) (dc (dv 6) (dc (d_callO 0 C__law_draw.fn hgd hr C__law_draw.mg C__law_draw.kp C__law_draw.bd pass0 (dc d_int dn)) dn))))))
    (b_one (s_if (t_notinW 2 (units65 hr) (dv 7)) (b_one (s_app 2 (dv 7))) b_nil))))))
    (b_one (s_ret (d_tup (dc (d_tup (dc (dv 1) (dc (d_tuplec B.tuple (dc (d_sortL rfl hr.units B.sorted (dv 2)) dn)) dn))) (dc (d_tuplec B.tuple (dc (d_lc (own := [("_law_kind", 8)]) rfl sc__law_begun.nd (i_range1 B.range (dc (dv 1) dn)) (blkOk_by (N := N__law_begun) (sc := defScope s__law_begun) (by decide +kernel)) (fun _ _ _ _ _ => (c_name (i := 8) sc__law_begun.nd)) (fun _ _ _ _ _ => ts_nil) (fun _ _ _ _ _ => (d_callO 0 C__law_draw.fn hgd hr C__law_draw.mg C__law_draw.kp C__law_draw.bd pass0 (dc d_int dn)))) dn)) dn))))))), so1_by ?_⟩
  rintro _ cs n Q ⟨nk, rfl, k2, k4, ⟨hcs, hn0⟩, hn, q⟩
  refine seq_intro fun k hk => ?_
  walk_at "rd"
  have e39 : (2 : Int) ^ 39 = 549755813888 := by decide
  have e40 : (2 : Int) ^ 40 = 1099511627776 := by decide
  refine ⟨by decide, ?_⟩
  subst hk
  refine seq_intro fun k hk => ?_
  walk_at "rd"
  refine ⟨6, rfl, ⟨hcs, hn0⟩, by omega, by decide, by decide, fun m cs0 h0 m0 m1 => ?_⟩
  walk_at "rd"
  have e62 : (2 : Int) ^ 62 = 4611686018427387904 := by decide
  refine ⟨⟨by omega, by omega⟩, ?_⟩
  refine ⟨fun i E => ∃ (os : List Of) (cs : List Int) (n' : Int) (s3 s4 s5 s6 s7 : Sl), (s3.free ∧ s4.free ∧ s5.free ∧ s6.free ∧ s7.free) ∧ os.length ≤ i ∧ BO nk os ∧ cs.length ≤ 63 ∧ n ≤ n' ∧ n' ≤ n + 1 + 4 * i ∧ E = [.ow true (.dk cs n'), .fz (.int nk), .ow false (.ol (os.map Of.d)), s3, s4, s5, s6, s7, .un], ⟨[], cs0, n + 1, .un, .un, .un, .un, .un, ⟨True.intro, True.intro, True.intro, True.intro, True.intro⟩, Nat.le_refl _, ⟨by omega, k4, by decide, (fun o ho => nomatch ho)⟩, h0, by omega, by omega, rfl⟩, ?_, ?_⟩
  · rintro i y _ hi ⟨os, cs1, n1, s3, s4, s5, s6, s7, ⟨f3, f4, f5, f6, f7⟩, ol, bo, h1, n10, n11, rfl⟩
    obtain ⟨hi5, rfl⟩ := rngD_inv hi
    have hi5 : i < 6 := by omega
    clear hk
    refine ⟨f3, ?_⟩
    refine seq_intro fun k hk => ?_
    walk_at "rd"
    have lg : nk.natAbs.log2 < 9000 := Nat.lt_trans (log_of (k := 20) (by decide) (by omega)) (by decide)
    have lg1 : (nk - 1).natAbs.log2 < 9000 := Nat.lt_trans (log_of (k := 20) (by decide) (by omega)) (by decide)
    refine ⟨nk, rfl, ⟨h1, by omega⟩, by omega, by omega, lg, fun a cs2 h2 a0 a1 => ?_⟩
    walk_at "rd"
    refine ⟨6, rfl, ⟨h2, by omega⟩, by omega, by decide, by decide, fun x cs3 h3 x0 x1 => ?_⟩
    walk_at "rd"
    refine ⟨f4, f5, ?_⟩
    subst hk
    refine seq_intro fun k hk => ?_
    walk_at "rd"
    refine ⟨nk - 1, rfl, ⟨h3, by omega⟩, by omega, by omega, lg1, fun e cs4 h4 e0 e1 => ?_⟩
    walk_at "rd"
    refine ⟨by omega, f6, ?_⟩
    subst hk
    refine seq_intro fun k hk => ?_
    walk_at "rd"
    refine ⟨7, rfl, ⟨h4, by omega⟩, by omega, by decide, by decide, fun y cs5 h5 y0 y1 => ?_⟩
    walk_at "rd"
    refine ⟨by decide, f7, ?_⟩
    have b0 := Int.emod_nonneg (a + 1 + e) (show nk ≠ 0 by omega)
    have b1 := Int.emod_lt_of_pos (a + 1 + e) (show 0 < nk by omega)
    have ab : a ≠ (a + 1 + e) % nk := fun z => by
      by_cases c : a + 1 + e < nk
      · rw [Int.emod_eq_of_lt (by omega) c] at z
        omega
      · have c2 : (a + 1 + e) % nk = a + 1 + e - nk := by
          rw [← Int.sub_emod_right]
          exact Int.emod_eq_of_lt (by omega) (by omega)
        omega
    generalize (a + 1 + e) % nk = b at b0 b1 ab ⊢
    rw [show D.tup [D.int a, D.int (1 + x), D.int b, D.int y] = Of.d ⟨a, 1 + x, b, y⟩ from rfl]
    subst hk
    walk_at "rd"
    refine ⟨of_ok _, os_ok _, ?_⟩
    by_cases c : (!(List.map Of.d os).any fun z => z.eqv (Of.d ⟨a, 1 + x, b, y⟩)) = true
    · rw [if_pos c]
      refine ⟨by rw [List.length_map]; exact small_lt (by omega), os ++ [⟨a, 1 + x, b, y⟩], cs5, n1 + 1 + 1 + 1 + 1, .fz (.int (0 + i)), .fz (.int a), .fz (.int (1 + x)), .fz (.int b), .fz (Of.d ⟨a, 1 + x, b, y⟩), ⟨True.intro, True.intro, True.intro, True.intro, True.intro⟩, by rw [List.length_append]; exact Nat.succ_le_succ ol, ⟨bo.k1, bo.k4, by rw [List.length_append]; show os.length + 1 ≤ 40; omega, fun o ho => ?_⟩, h5, by omega, by omega, by rw [List.map_append]; rfl⟩
      rcases List.mem_append.mp ho with ho | ho
      · exact bo.ok o ho
      · rw [List.mem_singleton.mp ho]
        exact ⟨⟨a0, a1⟩, ⟨b0, b1⟩, ab, ⟨by show 1 ≤ 1 + x; omega, by show 1 + x ≤ 30; omega⟩, y0, by show y ≤ 30; omega⟩
    · rw [if_neg c]
      exact ⟨os, cs5, n1 + 1 + 1 + 1 + 1, .fz (.int (0 + i)), .fz (.int a), .fz (.int (1 + x)), .fz (.int b), .fz (Of.d ⟨a, 1 + x, b, y⟩), ⟨True.intro, True.intro, True.intro, True.intro, True.intro⟩, by omega, bo, h5, by omega, by omega, rfl⟩
  · rintro _ ⟨os, cs1, n1, s3, s4, s5, s6, s7, _, ol, bo, h1, n10, n11, rfl⟩
    subst hk
    walk_at "rd"
    rw [rngD_len] at ol n11
    refine ⟨os.map Of.l, os_lists os, small_le (by rw [List.length_map]; omega), fun k hk => ?_, ?_⟩
    · obtain ⟨o, _, rfl⟩ := List.mem_map.mp hk
      exact fun z => nomatch z
    have pm := List.mergeSort_perm (os.map Of.l) leZ
    obtain ⟨sb1, sb2⟩ := os_back (os := os) (ks := (os.map Of.l).mergeSort leZ) fun k => pm.mem_iff
    have sl : (((os.map Of.l).mergeSort leZ).map of4).length = os.length := by rw [List.length_map, pm.length_eq, List.length_map]
    rw [sb1]
    generalize ((os.map Of.l).mergeSort leZ).map of4 = os' at sb2 sl ⊢
    have bo' : BO nk os' := ⟨bo.k1, bo.k4, by omega, fun o ho => bo.ok o ((sb2 o).mp ho)⟩
    walk_at "rd"
    refine ⟨by decide, ⟨by omega, by omega⟩, ?_⟩
    refine ⟨fun j acc E => j ≤ nk.toNat ∧ ∃ (l : List Int) (cs' : List Int), (l.length = j ∧ (∀ v ∈ l, 0 ≤ v ∧ v ≤ 1000000) ∧ cs'.length ≤ 63) ∧ acc = l.map D.int ∧ E = [.ow true (.dk cs' (n1 + j)), .fz (.int nk), .fz (.lst (os.map Of.d)), s3, s4, s5, s6, s7, .un], ⟨Nat.zero_le _, [], cs1, ⟨rfl, fun v hv => (nomatch hv), h1⟩, rfl, by rw [show n1 + ((0 : Nat) : Int) = n1 by omega]; rfl⟩, ?_, ?_⟩
    · rintro j z acc _ hj ⟨j3, l, cs4, ⟨ll, lb, h4⟩, rfl, rfl⟩
      obtain ⟨hj2, rfl⟩ := rngD_inv hj
      walk_at "rd"
      refine ⟨40, rfl, ⟨h4, by omega⟩, by omega, by decide, by decide, fun u cs5 h5 u0 u1 => ?_⟩
      walk_at "rd"
      refine ⟨small_lt (by rw [List.length_map]; omega), by omega, l ++ [u], cs5, ⟨by rw [List.length_append, ll]; rfl, fun v hv => ?_, h5⟩, by rw [List.map_append]; rfl, ?_⟩
      · rcases List.mem_append.mp hv with hv | hv
        · exact lb v hv
        · rw [List.mem_singleton.mp hv]
          omega
      · rw [show n1 + ((j + 1 : Nat) : Int) = n1 + j + 1 by omega]
    · rw [rngD_len]
      rintro acc _ ⟨_, l, cs4, ⟨ll, lb, h4⟩, rfl, rfl⟩
      walk_at "rd"
      exact ⟨by decide, _, rfl, q os' l cs4 _ bo' (by omega) lb h4 (by omega) (by omega)⟩
theorem VB.row {ns : List Int} (nl : ns.length ≤ 4) (hn : ∀ n ∈ ns, 0 ≤ n ∧ n ≤ 1000000) : VB (.tup (ns.map D.int)) ∧ VB (.lst (ns.map D.int)) := by
  have z := ShL.small (n := 4) (fun v hv => by have := hn v hv; omega) nl
  have sk : ∀ d ∈ ns.map D.int, SOk (PyData.shown d.pyK) := fun d hd => by
    obtain ⟨n, _, rfl⟩ := List.mem_map.mp hd
    exact SOk.of _
  refine ⟨⟨(ShK.of (Sh.tup z)).mono (by decide) (by decide), fun xs e => ?_, sok_tup sk⟩, (ShK.of (Sh.lst z)).mono (by decide) (by decide), (fun xs e => nomatch e), sok_lst sk⟩
  cases e
  rw [show ((ns.map D.int).filter fun d => !btw 0 1000000 d) = [] from List.filter_eq_nil_iff.mpr fun d hd => ?_]
  · exact ok_lints []
  · obtain ⟨n, hn2, rfl⟩ := List.mem_map.mp hd
    have := hn n hn2
    rw [show btw 0 1000000 (.int n) = true from by show (decide _ && decide _) = true; rw [decide_eq_true this.1, decide_eq_true this.2]; rfl]
    decide
theorem bd_inj {nk nk' : Int} {os os' : List Of} (h : bd nk os = bd nk' os') : nk = nk' ∧ os = os' := by
  unfold bd at h
  injection h with h
  injection h with h1 h2
  injection h1 with h1
  injection h2 with h2
  injection h2 with h2
  refine ⟨h1, ?_⟩
  have inj : ∀ (l m : List Of), l.map Of.d = m.map Of.d → l = m := fun l => by
    induction l with
    | nil =>
      intro m h
      cases m with
      | nil => rfl
      | cons _ _ => cases h
    | cons a l ih =>
      intro m h
      cases m with
      | nil => cases h
      | cons b m =>
        injection h with h1 h2
        rw [ih m h2]
        unfold Of.d at h1
        cases a; cases b
        simp only [D.tup.injEq, List.cons.injEq, D.int.injEq] at h1
        obtain ⟨rfl, rfl, rfl, rfl, _⟩ := h1
        rfl
  exact inj _ _ h2
theorem sh_two {b p : D} (hb : ShK 5 30000 b) (hp : VB p) : (D.lst [b, p]).shK := (ShK.lst (ShKL.cons hb (ShKL.cons hp.sh (ShKL.nil (k := 0))))).shK (by decide) (by decide)
theorem bd_shK {nk : Int} {os : List Of} (h : BO nk os) : ShK 5 30000 (bd nk os) := (ShK.of (bd_sh h)).mono (by decide) (by decide)

abbrev s_law : Stmt := top 103
abbrev N_law : List Str := ["_law_script", "_law_deck_here", "_law_turn", "_law_board", "_law_purse", "_law_amount", "_law_kept", "_law_due_here", "_law_till", "_law_one_here"]
theorem sc_law : FnScope N_law ["_law_script"] (defScope s_law) := ⟨rfl, rfl, rfl, by decide +kernel, rfl, by decide +kernel, by decide +kernel⟩
theorem ok_law {f : Addr} {fd : FuncData} (F : Fun K "law" "law" s_law f fd) (B : Bl mg) {A_Till : Addr} (cn_Till_MOST_EDITS : ∃ u, Con K A_Till "MOST_EDITS" (.int 60) u) (cr_Till : ClX.CRead K A_Till (.type "type")) (cv_Till_MOST_EDITS : ∃ u, ClX.CVal K A_Till (.type "type") "MOST_EDITS" (.int 60) u) (l_Till : L2.Cls K A_Till) (m_Till : mg "Till" = some (.ref A_Till)) (n_Till : C8.InsC K A_Till) (o_Till_board : OFld K A_Till "board") (o_Till_kept : OFld K A_Till "kept") (o_Till_loop : OFld K A_Till "loop") (o_Till_purse : OFld K A_Till "purse") (o_Till_standing : OFld K A_Till "standing") (o_Till_states : OFld K A_Till "states") (o_Till_watching : OFld K A_Till "watching") (p_Till : SpcC K A_Till) (c__law_deck : Cal P w K mg base CX0 "_law_deck" 1 ["_law_script"] (spDeck K)) (c_Till___init__ : CalI P w K mg base "Till" A_Till 10 ["self", "board", "purse"] (sox2 (R_Till___init__ A_Till))) (c__law_begun : Cal P w K mg base CX0 "_law_begun" 2 ["_law_deck_here", "_law_kinds"] (liftOw K (so1 R__law_begun))) (c__law_one : Cal P w K mg base CX0 "_law_one" 2 ["_law_deck_here", "_law_items"] (liftOw K (so1 R_one))) (c__law_made : Cal P w K mg base CX0 "_law_made" 12 ["_law_board", "_law_purse"] (liftP K (sp2 (R__law_made A_Till)))) (c__law_odd : Cal P w K mg base CX0 "_law_odd" 3 ["_law_deck_here"] (liftOw K (so0 R__law_odd))) (c__law_due : Cal P w K mg base CX0 "_law_due" 4 ["_law_board", "_law_purse"] (liftP K (sp2 R__law_due))) (c_Till___str__ : CalM P w K mg base A_Till "__str__" 1 ["self"] (spx1 (R_Till___str__ A_Till))) (c__law_draw : Cal P w K mg base CX0 "_law_draw" 1 ["_law_deck_here", "_law_many"] (liftOw K (so1 R_draw))) (c__law_is_new : Cal P w K mg base CX0 "_law_is_new" 6 ["_law_till", "_law_board", "_law_purse"] (liftP K (sp3 (R__law_is_new A_Till)))) : FnG P w K mg base CX0 13 f fd ["_law_script"] (spLaw K) := by
  obtain ⟨f__law_deck, fd__law_deck, C__law_deck⟩ := c__law_deck
  obtain ⟨f_Till___init__, fd_Till___init__, C_Till___init__⟩ := c_Till___init__
  obtain ⟨f__law_begun, fd__law_begun, C__law_begun⟩ := c__law_begun
  obtain ⟨f__law_one, fd__law_one, C__law_one⟩ := c__law_one
  obtain ⟨f__law_made, fd__law_made, C__law_made⟩ := c__law_made
  obtain ⟨f__law_odd, fd__law_odd, C__law_odd⟩ := c__law_odd
  obtain ⟨f__law_due, fd__law_due, C__law_due⟩ := c__law_due
  obtain ⟨f_Till___str__, fd_Till___str__, C_Till___str__⟩ := c_Till___str__
  obtain ⟨f__law_draw, fd__law_draw, C__law_draw⟩ := c__law_draw
  obtain ⟨f__law_is_new, fd__law_is_new, C__law_is_new⟩ := c__law_is_new
  refine FnG.body F sc_law (fun vs H Q E ⟨a, ns, e, _⟩ => by rw [e]; rfl) (fun cdv A outer s H vs Q E hgd hr h => ⟨_, PSs.nox (law_deck (i := 1) (N := N_law) (eN := rfl) (hiN := by decide) C__law_deck.fn hgd (hr.mono (by decide)) C__law_deck.mg C__law_deck.kp C__law_deck.bd pass0 sc_law.nd rfl rfl
    (b_cons (s_for PassesOwn.never rfl (i_range1 B.range (dc d_int dn)) (g_name (i := 2) sc_law.nd) (b_cons (s_asg (d_callO 1 C__law_begun.fn hgd (hr.mono (by decide)) C__law_begun.mg C__law_begun.kp C__law_begun.bd pass0 (dc (d_add d_int (d_callO 1 C__law_draw.fn hgd (hr.mono (by decide)) C__law_draw.mg C__law_draw.kp C__law_draw.bd pass0 (dc d_int dn))) dn)) (g_tup (n := 2) rfl (gs_cons (g_name (i := 3) sc_law.nd) (gs_cons (g_name (i := 4) sc_law.nd) gs_nil))))
    (b_cons (s_set (i := 4) sc_law.nd (d_callO 1 C__law_one.fn hgd (hr.mono (by decide)) C__law_one.mg C__law_one.kp C__law_one.bd pass0 (dc (d_lst (dc (dv 4) (dc (d_tuplec B.tuple (dc (d_lc (own := [("_law_amount", 5)]) rfl sc_law.nd (i_seq (dv 4)) (blkOk_by (N := N_law) (sc := defScope s_law) (by decide +kernel)) (fun _ _ _ _ _ => (c_name (i := 5) sc_law.nd)) (fun _ _ _ _ _ => ts_nil) (fun _ _ _ _ _ => (d_pow d_int d_int))) dn)) (dc (d_slice (dv 4) o_none (o_some (d_neg d_int))) (dc (d_listc B.list (dc (dv 4) dn)) (dc (d_callO 1 C__law_odd.fn hgd (hr.mono (by decide)) C__law_odd.mg C__law_odd.kp C__law_odd.bd pass0 dn) dn)))))) dn)))
    (b_cons (s_set (i := 3) sc_law.nd (d_ifx (t_eq hr.units (d_callO 1 C__law_draw.fn hgd (hr.mono (by decide)) C__law_draw.mg C__law_draw.kp C__law_draw.bd pass0 (dc d_int dn)) d_int) (d_callO 1 C__law_odd.fn hgd (hr.mono (by decide)) C__law_odd.mg C__law_odd.kp C__law_odd.bd pass0 dn) (dv 3)))
    (b_cons (s_par (i := 6) (j := 7) rfl sc_law.nd (dc (d_reprK hgd hr.units B.repr (dc (d_lst (dc (dv 3) (dc (dv 4) dn))) dn)) (dc (d_call C__law_due.fn hgd (hr.mono (by decide)) C__law_due.mg C__law_due.kp C__law_due.bd pass0 (dc (dv 3) (dc (dv 4) dn))) dn)))
    (b_cons (s_set (i := 8) sc_law.nd (d_call C__law_made.fn hgd hr C__law_made.mg C__law_made.kp C__law_made.bd pass0 (dc (dv 3) (dc (dv 4) dn))))
    (b_cons (s_if (t_w (w_and (t_ne hr.units (dv 7) (d_lst dn)) (w_and1 (t_ne hr.units (d_reprK hgd hr.units B.repr (dc (dv 8) dn)) (d_reprK hgd hr.units B.repr (dc (dv 7) dn)))))) (b_one (s_ret d_bl)) b_nil)
    (b_cons (s_if (t_w (w_and (t_eq hr.units (dv 7) (d_lst dn)) (w_and1 (t_w (w_or (t_not (t_val (d_isC n_Till B.isinstance m_Till (dv 8)))) (w_or1 (t_not (t_val (d_call C__law_is_new.fn hgd (hr.mono (by decide)) C__law_is_new.mg C__law_is_new.kp C__law_is_new.bd pass0 (dc (dv 8) (dc (dv 3) (dc (dv 4) dn)))))))))))) (b_one (s_ret d_bl)) b_nil)
    (b_one (s_if (t_ne hr.units (d_reprK hgd hr.units B.repr (dc (d_lst (dc (dv 3) (dc (dv 4) dn))) dn)) (dv 6)) (b_one (s_ret d_bl)) b_nil))))))))))
    (b_cons (s_set (i := 9) sc_law.nd (d_nx (x_make C_Till___init__.mkc C_Till___init__.fn hgd (hr.mono (by decide)) C_Till___init__.mg C_Till___init__.bd (ax_of (dc (d_tup (dc d_int (dc (d_tup dn) dn))) (dc (d_tup (dc d_int dn)) dn))))))
    (b_one (s_ret (d_eq hr.units (d_lst (dc (d_cval m_Till cr_Till cv_Till_MOST_EDITS (fun _ => .int 60)) (dc (d_con l_Till cn_Till_MOST_EDITS (fun _ => .int 60) (dv 9)) (dc (d_fldK K (dv 9)) (dc (d_strS (C_Till___str__.spc p_Till) C_Till___str__.fn hgd (hr.mono (by decide)) C_Till___str__.bd B.str (dc (dv 9) dn)) dn))))) (d_lst (dc d_int (dc d_int (dc d_non (dc d_str dn))))))))))), ?_⟩)
  obtain ⟨a, ns, rfl, hq, hl, ht, k⟩ := h
  refine ⟨a, ns, rfl, hq, hl, ht, fun cs hcs => ?_, fun H' => k H'⟩
  clear k hq hl ht
  refine seq_intro fun k hk => ?_
  walk_at "rd"
  refine ⟨by decide, ?_⟩
  have e40 : (2 : Int) ^ 40 = 1099511627776 := by decide
  have e39 : (2 : Int) ^ 39 = 549755813888 := by decide
  have e6 : (10 : Int) ^ 6 = 1000000 := by decide
  refine ⟨fun i E => ∃ cs n l, E = .un :: .ow false (.dk cs n) :: l ∧ cs.length ≤ 63 ∧ 0 ≤ n ∧ n ≤ 100 * i ∧ Frees 8 l, ⟨cs, 0, _, rfl, hcs, by omega, by omega, (by repeat' (first | exact rfl | refine ⟨_, _, rfl, by first | exact True.intro | assumption, ?_⟩))⟩, ?_, ?_⟩
  · rintro i y _ hi ⟨cs, n, _, rfl, hcs, hn0, hn1, ⟨s2, _, rfl, f2, s3, _, rfl, f3, s4, _, rfl, f4, s5, _, rfl, f5, s6, _, rfl, f6, s7, _, rfl, f7, s8, _, rfl, f8, s9, _, rfl, f9, rfl⟩⟩
    obtain ⟨hi5, rfl⟩ := rngD_inv hi
    have hi5 : i < 30 := hi5
    clear hk
    refine ⟨f2, ?_⟩
    refine seq_intro fun k hk => ?_
    walk_at "rd"
    refine ⟨3, rfl, ⟨hcs, hn0⟩, by omega, by decide, log60 (by decide) (by decide), fun a1 cs1 h1 a10 a11 => ?_⟩
    walk_at "rd"
    refine ⟨2 + a1, rfl, by omega, by omega, ⟨h1, by omega⟩, by omega, fun os ns cs2 n2 bo nl hns h2 n20 n21 => ?_⟩
    walk_at "rd"
    refine ⟨f3, f4, ?_⟩
    subst hk
    refine seq_intro fun k hk => ?_
    walk_at "rd"
    have nl4 : ns.length ≤ 4 := by omega
    refine lcD_all ns D.int (fun _ => .int 1000000) _ rfl rfl (small_le (by omega)) (fun v hv R hR => ?_) ?_
    · walk_at "rd"
      rw [e6]
      exact ⟨cpow (by decide) (by decide) (by decide) (by decide), hR _ rfl⟩
    walk_at "rd"
    refine ⟨⟨h2, by omega⟩, by omega, fun d cs3 vd h3 => ?_⟩
    walk_at "rd"
    refine ⟨by decide, _, .inl rfl, ⟨h3, by omega⟩, by omega, Nat.succ_pos _, small_le (by show (5 : Nat) ≤ 16777216; decide), fun p cs4 h4 hp => ?_⟩
    have vp : VB p := by
      simp only [List.mem_cons, List.not_mem_nil, or_false] at hp
      rcases hp with rfl | rfl | rfl | rfl | rfl
      · exact (VB.row nl4 hns).1
      · rw [show (ns.map fun _ => D.int 1000000) = (ns.map fun _ => (1000000 : Int)).map D.int from by rw [List.map_map]; rfl]
        refine (VB.row (by rw [List.length_map]; exact nl4) fun v hv => ?_).1
        obtain ⟨_, _, rfl⟩ := List.mem_map.mp hv
        omega
      · rw [cutL_map]
        exact (VB.row (Nat.le_trans (cutL_len _ _ _) nl4) fun v hv => hns v (cutL_mem hv)).1
      · exact (VB.row nl4 hns).2
      · exact vd
    clear hp
    walk_at "rd"
    have sb0 := bd_shK bo
    subst hk
    refine seq_intro fun k hk => ?_
    have go : ∀ (b : D) (cs' : List Int) (n' : Int), ShK 5 30000 b → cs'.length ≤ 63 → n2 ≤ n' → n' ≤ n2 + 10 → k [.un, .ow false (.dk cs' n'), .fz (.int (0 + i)), .fz b, .fz p, .un, s6, s7, s8, s9] := fun b cs' n' sb hc' n0 n1 => by
      subst hk
      refine seq_intro fun k hk => ?_
      walk_at "rd"
      have s2' := sh_two sb vp
      have sp := vp.sh.shK (by decide) (by decide)
      have back : ∀ (s6 s7 s8 : Sl), (s6.free ∧ s7.free ∧ s8.free) → ∃ cs n l, [Sl.un, Sl.ow false (.dk cs' n'), .fz (.int (0 + i)), .fz b, .fz p, .un, s6, s7, s8, s9] = .un :: .ow false (.dk cs n) :: l ∧ cs.length ≤ 63 ∧ 0 ≤ n ∧ n ≤ 100 * ((i + 1 : Nat) : Int) ∧ Frees 8 l := fun s6 s7 s8 ⟨g6, g7, g8⟩ => ⟨cs', n', _, rfl, hc', by omega, by omega, ⟨_, _, rfl, True.intro, _, _, rfl, True.intro, _, _, rfl, True.intro, _, _, rfl, True.intro, _, _, rfl, g6, _, _, rfl, g7, _, _, rfl, g8, _, _, rfl, f9, rfl⟩⟩
      by_cases e : beD b = .non
      · obtain ⟨nk', os', rfl, bo'⟩ := beD_non e
        cases c : purB nk' p with
        | false =>
          refine ⟨by decide, s2', sb.plain, vp.sh.plain, sp, vp.pok, fun z => absurd e z, fun _ _ _ _ _ _ => ?_, fun nk2 os2 e2 _ _ e4 => ?_⟩
          · walk_at "rd"
            refine ⟨f6, f7, ?_⟩
            subst hk
            refine seq_intro fun k hk => ?_
            walk_at "rd"
            refine ⟨sb.plain, vp.sh.plain, sp, fun z => absurd e z, fun _ _ _ _ _ _ => ?_, fun nk2 os2 _ e2 _ _ e4 _ => ?_⟩
            · walk_at "rd"
              refine ⟨f8, ?_⟩
              subst hk
              refine seq_intro fun k hk => ?_
              walk_at "rd"
              obtain ⟨t1, t2⟩ := told_ok (.inr rfl) vp.sk vp.sh.size
              refine ⟨by decide, t1, ok_lints [], ?_⟩
              try rw [show ∀ x y : D, [x, y].isEmpty = false from fun _ _ => rfl, if_pos (by decide)]
              refine ⟨t2, t2, ?_⟩
              rw [decide_eq_true True.intro, if_neg (by decide)]
              subst hk
              refine seq_intro fun k hk => ?_
              walk_at "rd"
              refine ⟨by decide, t1, ok_lints [], ?_⟩
              try rw [show ∀ x y : D, [x, y].isEmpty = false from fun _ _ => rfl, if_neg (by decide)]
              subst hk
              walk_at "rd"
              refine ⟨by decide, s2', ?_⟩
              rw [decide_eq_true True.intro, if_neg (by decide)]
              exact back _ _ _ ⟨True.intro, True.intro, True.intro⟩
            · rw [(bd_inj e2).1, e4] at c
              cases c
          · rw [(bd_inj e2).1, e4] at c
            cases c
        | true =>
          obtain ⟨ms, rfl, ml, hms⟩ := purB_ex c
          refine ⟨by decide, s2', sb.plain, vp.sh.plain, sp, vp.pok, fun z => absurd e z, fun nk2 os2 e2 _ _ e4 => ?_, fun _ _ _ _ _ _ => ?_⟩
          · rw [(bd_inj e2).1, e4] at c
            cases c
          walk_at "rd"
          refine ⟨f6, f7, ?_⟩
          subst hk
          refine seq_intro fun k hk => ?_
          walk_at "rd"
          refine ⟨sb.plain, vp.sh.plain, sp, fun z => absurd e z, fun nk2 os2 e2 _ _ e4 => ?_, fun nk2 os2 lp e2 _ _ _ hl => ?_⟩
          · rw [(bd_inj e2).1, e4] at c
            cases c
          obtain ⟨rfl, rfl⟩ := bd_inj e2
          walk_at "rd"
          refine ⟨f8, ?_⟩
          subst hk
          refine seq_intro fun k hk => ?_
          walk_at "rd"
          refine ⟨by decide, ok_lints [], ok_lints [], ?_⟩
          try rw [if_neg (by decide)]
          subst hk
          refine seq_intro fun k hk => ?_
          walk_at "rd"
          refine ⟨by decide, ok_lints [], ok_lints [], ?_⟩
          try rw [if_pos (by decide)]
          refine ⟨nk', os', ms, lp, rfl, rfl, rfl, bo', by have := bo'.k4; omega, hms, hl, ?_⟩
          try dsimp only
          try rw [if_neg (by decide)]
          subst hk
          walk_at "rd"
          refine ⟨by decide, s2', ?_⟩
          rw [decide_eq_true True.intro, if_neg (by decide)]
          exact back _ _ _ ⟨True.intro, True.intro, True.intro⟩
      · refine ⟨by decide, s2', sb.plain, vp.sh.plain, sp, vp.pok, fun _ => ?_, fun _ _ _ _ e2 _ => absurd e2 e, fun _ _ _ _ e2 _ => absurd e2 e⟩
        walk_at "rd"
        refine ⟨f6, f7, ?_⟩
        subst hk
        refine seq_intro fun k hk => ?_
        walk_at "rd"
        refine ⟨sb.plain, vp.sh.plain, sp, fun _ => ?_, fun _ _ _ _ e2 _ => absurd e2 e, fun _ _ _ _ _ e2 _ _ => absurd e2 e⟩
        walk_at "rd"
        refine ⟨f8, ?_⟩
        subst hk
        refine seq_intro fun k hk => ?_
        walk_at "rd"
        obtain ⟨k1, k2⟩ := beD_sk b
        obtain ⟨t1, t2⟩ := told_ok (.inl rfl) k1 k2
        refine ⟨by decide, t1, ok_lints [], ?_⟩
        try rw [show ∀ x y : D, [x, y].isEmpty = false from fun _ _ => rfl, if_pos (by decide)]
        refine ⟨t2, t2, ?_⟩
        rw [decide_eq_true True.intro, if_neg (by decide)]
        subst hk
        refine seq_intro fun k hk => ?_
        walk_at "rd"
        refine ⟨by decide, t1, ok_lints [], ?_⟩
        try rw [show ∀ x y : D, [x, y].isEmpty = false from fun _ _ => rfl, if_neg (by decide)]
        subst hk
        walk_at "rd"
        refine ⟨by decide, s2', ?_⟩
        rw [decide_eq_true True.intro, if_neg (by decide)]
        exact back _ _ _ ⟨True.intro, True.intro, True.intro⟩
    walk_at "rd"
    refine ⟨4, rfl, ⟨h4, by omega⟩, by omega, by decide, log60 (by decide) (by decide), fun a2 cs5 h5 a20 a21 => ?_⟩
    walk_at "rd"
    refine ite_by (fun c => ?_) fun c => ?_
    · refine ⟨⟨h5, by omega⟩, by omega, fun d5 cs6 vd5 h6 => ?_⟩
      exact go _ _ _ vd5.sh h6 (by omega) (by omega)
    · exact go _ _ _ sb0 h5 (by omega) (by omega)
  · rintro _ ⟨cs, n, _, rfl, hcs, hn0, hn1, ⟨s2, _, rfl, f2, s3, _, rfl, f3, s4, _, rfl, f4, s5, _, rfl, f5, s6, _, rfl, f6, s7, _, rfl, f7, s8, _, rfl, f8, s9, _, rfl, f9, rfl⟩⟩
    subst hk
    dsimp only
    refine seq_intro fun k hk => ?_
    walk_at "rd"
    have e0 : beD (.tup [.int 1, .tup []]) = .non := rfl
    refine ⟨by decide, by decide, by decide, rfl, rfl, rfl, fun z => absurd e0 z, fun nk os e bo _ z => ?_, fun nk os l e bo _ _ hl => ?_⟩
    · obtain ⟨rfl, rfl⟩ := bd_inj (os := []) e
      exact absurd z (by decide)
    obtain ⟨rfl, rfl⟩ := bd_inj (os := []) e
    refine ⟨rfl, _, rfl, f9, ?_⟩
    subst hk
    walk_at "rd"
    have eT : tillS [] [7] = Str.ofString "0 offers, purse 7, 0 edits" := by decide +kernel
    have ln : l = .non := by
      rcases hl with ⟨rfl, _⟩ | ⟨r, rfl, t⟩
      · rfl
      · obtain ⟨i, hi⟩ := List.exists_mem_of_ne_nil _ t.ne
        have z1 := (t.ix.1 i hi).1
        have z2 : i < 0 := (t.ix.1 i hi).2
        omega
    subst ln
    have ok1 : (D.lst [D.int 60, D.int 60, D.non, D.str (Str.ofString "0 offers, purse 7, 0 edits")]).ok := ⟨rfl, by decide +kernel⟩
    refine ⟨rfl, o_Till_loop, .non, rfl, 1, [], [7], .non, rfl, bo, by decide, by decide, tillS [] [7], rfl, by decide, by decide, ?_⟩
    rw [eT]
    refine ⟨ok1, ok1, ?_⟩
    rw [show D.eqv (D.lst [D.int 60, D.int 60, D.non, D.str (Str.ofString "0 offers, purse 7, 0 edits")]) (D.lst [D.int 60, D.int 60, D.non, D.str (Str.ofString "0 offers, purse 7, 0 edits")]) = true from by decide +kernel]
end
theorem all_mk {l : PySem.W.OpenLaw} {w : World} {K : PySem.W.Frag} {h : Heap} {mg : Str → Option Value} {fa : Addr} {f0 : Addr} {od0 an0 : Option Addr} {sl0 : Array (Option Value)} {oc0 kV0 dc0 pm0 cd0 ct0 : Value} {f1 : Addr} {od1 an1 : Option Addr} {sl1 : Array (Option Value)} {oc1 kV1 dc1 pm1 cd1 ct1 : Value} {f2 : Addr} {od2 an2 : Option Addr} {sl2 : Array (Option Value)} {oc2 kV2 dc2 pm2 cd2 ct2 : Value} {f3 : Addr} {od3 an3 : Option Addr} {sl3 : Array (Option Value)} {oc3 kV3 dc3 pm3 cd3 ct3 : Value} {f4 : Addr} {od4 an4 : Option Addr} {sl4 : Array (Option Value)} {oc4 kV4 dc4 pm4 cd4 ct4 : Value} {f5 : Addr} {od5 an5 : Option Addr} {sl5 : Array (Option Value)} {oc5 kV5 dc5 pm5 cd5 ct5 : Value} {f6 : Addr} {od6 an6 : Option Addr} {sl6 : Array (Option Value)} {oc6 kV6 dc6 pm6 cd6 ct6 : Value} {f7 : Addr} {od7 an7 : Option Addr} {sl7 : Array (Option Value)} {oc7 kV7 dc7 pm7 cd7 ct7 : Value} {f8 : Addr} {od8 an8 : Option Addr} {sl8 : Array (Option Value)} {oc8 kV8 dc8 pm8 cd8 ct8 : Value} {f9 : Addr} {od9 an9 : Option Addr} {sl9 : Array (Option Value)} {oc9 kV9 dc9 pm9 cd9 ct9 : Value} {f10 : Addr} {od10 an10 : Option Addr} {sl10 : Array (Option Value)} {oc10 kV10 dc10 pm10 cd10 ct10 : Value} {f11 : Addr} {od11 an11 : Option Addr} {sl11 : Array (Option Value)} {oc11 kV11 dc11 pm11 cd11 ct11 : Value} {f12 : Addr} {od12 an12 : Option Addr} {sl12 : Array (Option Value)} {oc12 kV12 dc12 pm12 cd12 ct12 : Value} {f13 : Addr} {od13 an13 : Option Addr} {sl13 : Array (Option Value)} {oc13 kV13 dc13 pm13 cd13 ct13 : Value} {f14 : Addr} {od14 an14 : Option Addr} {sl14 : Array (Option Value)} {oc14 kV14 dc14 pm14 cd14 ct14 : Value} {f15 : Addr} {od15 an15 : Option Addr} {sl15 : Array (Option Value)} {oc15 kV15 dc15 pm15 cd15 ct15 : Value} {f16 : Addr} {od16 an16 : Option Addr} {sl16 : Array (Option Value)} {oc16 kV16 dc16 pm16 cd16 ct16 : Value} {f17 : Addr} {od17 an17 : Option Addr} {sl17 : Array (Option Value)} {oc17 kV17 dc17 pm17 cd17 ct17 : Value} {f18 : Addr} {od18 an18 : Option Addr} {sl18 : Array (Option Value)} {oc18 kV18 dc18 pm18 cd18 ct18 : Value} {f19 : Addr} {od19 an19 : Option Addr} {sl19 : Array (Option Value)} {oc19 kV19 dc19 pm19 cd19 ct19 : Value} {f20 : Addr} {od20 an20 : Option Addr} {sl20 : Array (Option Value)} {oc20 kV20 dc20 pm20 cd20 ct20 : Value} {f21 : Addr} {od21 an21 : Option Addr} {sl21 : Array (Option Value)} {oc21 kV21 dc21 pm21 cd21 ct21 : Value} {f22 : Addr} {od22 an22 : Option Addr} {sl22 : Array (Option Value)} {oc22 kV22 dc22 pm22 cd22 ct22 : Value} {f23 : Addr} {od23 an23 : Option Addr} {sl23 : Array (Option Value)} {oc23 kV23 dc23 pm23 cd23 ct23 : Value} {f24 : Addr} {od24 an24 : Option Addr} {sl24 : Array (Option Value)} {oc24 kV24 dc24 pm24 cd24 ct24 : Value} {f25 : Addr} {od25 an25 : Option Addr} {sl25 : Array (Option Value)} {oc25 kV25 dc25 pm25 cd25 ct25 : Value} {f26 : Addr} {od26 an26 : Option Addr} {sl26 : Array (Option Value)} {oc26 kV26 dc26 pm26 cd26 ct26 : Value} {f27 : Addr} {od27 an27 : Option Addr} {sl27 : Array (Option Value)} {oc27 kV27 dc27 pm27 cd27 ct27 : Value} {f28 : Addr} {od28 an28 : Option Addr} {sl28 : Array (Option Value)} {oc28 kV28 dc28 pm28 cd28 ct28 : Value} {f29 : Addr} {od29 an29 : Option Addr} {sl29 : Array (Option Value)} {oc29 dc29 pm29 cd29 ct29 : Value} {f30 : Addr} {od30 an30 : Option Addr} {sl30 : Array (Option Value)} {oc30 kV30 dc30 pm30 cd30 ct30 : Value} {f31 : Addr} {od31 an31 : Option Addr} {sl31 : Array (Option Value)} {oc31 kV31 dc31 pm31 cd31 ct31 : Value} {f32 : Addr} {od32 an32 : Option Addr} {sl32 : Array (Option Value)} {oc32 kV32 dc32 pm32 cd32 ct32 : Value} {f33 : Addr} {od33 an33 : Option Addr} {sl33 : Array (Option Value)} {oc33 kV33 dc33 pm33 cd33 ct33 : Value} {f34 : Addr} {od34 an34 : Option Addr} {sl34 : Array (Option Value)} {oc34 kV34 dc34 pm34 cd34 ct34 : Value} {f35 : Addr} {od35 an35 : Option Addr} {sl35 : Array (Option Value)} {oc35 kV35 dc35 pm35 cd35 ct35 : Value} {f36 : Addr} {od36 an36 : Option Addr} {sl36 : Array (Option Value)} {oc36 kV36 dc36 pm36 cd36 ct36 : Value} {f37 : Addr} {od37 an37 : Option Addr} {sl37 : Array (Option Value)} {oc37 kV37 dc37 pm37 cd37 ct37 : Value} {f38 : Addr} {od38 an38 : Option Addr} {sl38 : Array (Option Value)} {oc38 kV38 dc38 pm38 cd38 ct38 : Value} {f39 : Addr} {od39 an39 : Option Addr} {sl39 : Array (Option Value)} {oc39 kV39 dc39 pm39 cd39 ct39 : Value} {f40 : Addr} {od40 an40 : Option Addr} {sl40 : Array (Option Value)} {oc40 kV40 dc40 pm40 cd40 ct40 : Value} {f41 : Addr} {od41 an41 : Option Addr} {sl41 : Array (Option Value)} {oc41 kV41 dc41 pm41 cd41 ct41 : Value} {f42 : Addr} {od42 an42 : Option Addr} {sl42 : Array (Option Value)} {oc42 kV42 dc42 pm42 cd42 ct42 : Value} {kD29 : Addr} {A_Till : Addr} {tkc_Till_MOST_EDITS : Tok} {A_NoVersion : Addr} {I_NoVersion CC_NoVersion CD_NoVersion : Addr} {xod_NoVersion xan_NoVersion xcdd_NoVersion xcld_NoVersion : Option Addr} {xosl_NoVersion xccs_NoVersion xcsl_NoVersion : Array (Option Value)} {xoc_NoVersion xkV_NoVersion xdc_NoVersion xpm_NoVersion xct_NoVersion xccl_NoVersion xcl_NoVersion : Value} {xvs_NoVersion : Array Value} {xtf_NoVersion : Tok} {xfile_NoVersion : Str} {A_BadBoard : Addr} {I_BadBoard CC_BadBoard CD_BadBoard : Addr} {xod_BadBoard xan_BadBoard xcdd_BadBoard xcld_BadBoard : Option Addr} {xosl_BadBoard xccs_BadBoard xcsl_BadBoard : Array (Option Value)} {xoc_BadBoard xkV_BadBoard xdc_BadBoard xpm_BadBoard xct_BadBoard xccl_BadBoard xcl_BadBoard : Value} {xvs_BadBoard : Array Value} {xtf_BadBoard : Tok} {xfile_BadBoard : Str} {A_BadPurse : Addr} {I_BadPurse CC_BadPurse CD_BadPurse : Addr} {xod_BadPurse xan_BadPurse xcdd_BadPurse xcld_BadPurse : Option Addr} {xosl_BadPurse xccs_BadPurse xcsl_BadPurse : Array (Option Value)} {xoc_BadPurse xkV_BadPurse xdc_BadPurse xpm_BadPurse xct_BadPurse xccl_BadPurse xcl_BadPurse : Value} {xvs_BadPurse : Array Value} {xtf_BadPurse : Tok} {xfile_BadPurse : Str} (X : K.In h) (G : h.Ns mainGlobals mg) (hfa : mg "law" = some (.ref fa))
    (a0 : PySem.W.nsIn K mainGlobals "_law_deck" = some (some (.ref f0))) (l0 : K.lookup f0 = some ⟨oc0, od0, .func (PySem.W.fnOf "_law_deck" "_law_deck" (defArgs s__law_deck) (defBody s__law_deck) (defScope s__law_deck) .none kV0 dc0 pm0 an0 cd0 ct0), sl0⟩) (c0 : PySem.W.codeIn K cd0 "_law_deck" = true) (k0 : PySem.W.keepIn K (.ref f0) = true)
    (a1 : PySem.W.nsIn K mainGlobals "_law_draw" = some (some (.ref f1))) (l1 : K.lookup f1 = some ⟨oc1, od1, .func (PySem.W.fnOf "_law_draw" "_law_draw" (defArgs s__law_draw) (defBody s__law_draw) (defScope s__law_draw) .none kV1 dc1 pm1 an1 cd1 ct1), sl1⟩) (c1 : PySem.W.codeIn K cd1 "_law_draw" = true) (k1 : PySem.W.keepIn K (.ref f1) = true)
    (a2 : PySem.W.nsIn K mainGlobals "_law_one" = some (some (.ref f2))) (l2 : K.lookup f2 = some ⟨oc2, od2, .func (PySem.W.fnOf "_law_one" "_law_one" (defArgs s__law_one) (defBody s__law_one) (defScope s__law_one) .none kV2 dc2 pm2 an2 cd2 ct2), sl2⟩) (c2 : PySem.W.codeIn K cd2 "_law_one" = true) (k2 : PySem.W.keepIn K (.ref f2) = true)
    (a3 : PySem.W.nsIn K mainGlobals "is_whole" = some (some (.ref f3))) (l3 : K.lookup f3 = some ⟨oc3, od3, .func (PySem.W.fnOf "is_whole" "is_whole" (defArgs s_is_whole) (defBody s_is_whole) (defScope s_is_whole) .none kV3 dc3 pm3 an3 cd3 ct3), sl3⟩) (c3 : PySem.W.codeIn K cd3 "is_whole" = true) (k3 : PySem.W.keepIn K (.ref f3) = true)
    (a4 : PySem.W.nsIn K mainGlobals "is_between" = some (some (.ref f4))) (l4 : K.lookup f4 = some ⟨oc4, od4, .func (PySem.W.fnOf "is_between" "is_between" (defArgs s_is_between) (defBody s_is_between) (defScope s_is_between) .none kV4 dc4 pm4 an4 cd4 ct4), sl4⟩) (c4 : PySem.W.codeIn K cd4 "is_between" = true) (k4 : PySem.W.keepIn K (.ref f4) = true)
    (a5 : PySem.W.nsIn K mainGlobals "divisor" = some (some (.ref f5))) (l5 : K.lookup f5 = some ⟨oc5, od5, .func (PySem.W.fnOf "divisor" "divisor" (defArgs s_divisor) (defBody s_divisor) (defScope s_divisor) .none kV5 dc5 pm5 an5 cd5 ct5), sl5⟩) (c5 : PySem.W.codeIn K cd5 "divisor" = true) (k5 : PySem.W.keepIn K (.ref f5) = true)
    (a6 : PySem.W.nsIn K mainGlobals "lowest" = some (some (.ref f6))) (l6 : K.lookup f6 = some ⟨oc6, od6, .func (PySem.W.fnOf "lowest" "lowest" (defArgs s_lowest) (defBody s_lowest) (defScope s_lowest) .none kV6 dc6 pm6 an6 cd6 ct6), sl6⟩) (c6 : PySem.W.codeIn K cd6 "lowest" = true) (k6 : PySem.W.keepIn K (.ref f6) = true)
    (a7 : PySem.W.nsIn K mainGlobals "ratio_of" = some (some (.ref f7))) (l7 : K.lookup f7 = some ⟨oc7, od7, .func (PySem.W.fnOf "ratio_of" "ratio_of" (defArgs s_ratio_of) (defBody s_ratio_of) (defScope s_ratio_of) .none kV7 dc7 pm7 an7 cd7 ct7), sl7⟩) (c7 : PySem.W.codeIn K cd7 "ratio_of" = true) (k7 : PySem.W.keepIn K (.ref f7) = true)
    (a8 : PySem.W.nsIn K mainGlobals "gains" = some (some (.ref f8))) (l8 : K.lookup f8 = some ⟨oc8, od8, .func (PySem.W.fnOf "gains" "gains" (defArgs s_gains) (defBody s_gains) (defScope s_gains) .none kV8 dc8 pm8 an8 cd8 ct8), sl8⟩) (c8 : PySem.W.codeIn K cd8 "gains" = true) (k8 : PySem.W.keepIn K (.ref f8) = true)
    (a9 : PySem.W.nsIn K mainGlobals "_law_is_between" = some (some (.ref f9))) (l9 : K.lookup f9 = some ⟨oc9, od9, .func (PySem.W.fnOf "_law_is_between" "_law_is_between" (defArgs s__law_is_between) (defBody s__law_is_between) (defScope s__law_is_between) .none kV9 dc9 pm9 an9 cd9 ct9), sl9⟩) (c9 : PySem.W.codeIn K cd9 "_law_is_between" = true) (k9 : PySem.W.keepIn K (.ref f9) = true)
    (a10 : PySem.W.nsIn K mainGlobals "is_offer" = some (some (.ref f10))) (l10 : K.lookup f10 = some ⟨oc10, od10, .func (PySem.W.fnOf "is_offer" "is_offer" (defArgs s_is_offer) (defBody s_is_offer) (defScope s_is_offer) .none kV10 dc10 pm10 an10 cd10 ct10), sl10⟩) (c10 : PySem.W.codeIn K cd10 "is_offer" = true) (k10 : PySem.W.keepIn K (.ref f10) = true)
    (a11 : PySem.W.nsIn K mainGlobals "board_error" = some (some (.ref f11))) (l11 : K.lookup f11 = some ⟨oc11, od11, .func (PySem.W.fnOf "board_error" "board_error" (defArgs s_board_error) (defBody s_board_error) (defScope s_board_error) .none kV11 dc11 pm11 an11 cd11 ct11), sl11⟩) (c11 : PySem.W.codeIn K cd11 "board_error" = true) (k11 : PySem.W.keepIn K (.ref f11) = true)
    (a12 : PySem.W.nsIn K mainGlobals "is_purse" = some (some (.ref f12))) (l12 : K.lookup f12 = some ⟨oc12, od12, .func (PySem.W.fnOf "is_purse" "is_purse" (defArgs s_is_purse) (defBody s_is_purse) (defScope s_is_purse) .none kV12 dc12 pm12 an12 cd12 ct12), sl12⟩) (c12 : PySem.W.codeIn K cd12 "is_purse" = true) (k12 : PySem.W.keepIn K (.ref f12) = true)
    (a13 : PySem.W.nsIn K mainGlobals "_law_is_offer" = some (some (.ref f13))) (l13 : K.lookup f13 = some ⟨oc13, od13, .func (PySem.W.fnOf "_law_is_offer" "_law_is_offer" (defArgs s__law_is_offer) (defBody s__law_is_offer) (defScope s__law_is_offer) .none kV13 dc13 pm13 an13 cd13 ct13), sl13⟩) (c13 : PySem.W.codeIn K cd13 "_law_is_offer" = true) (k13 : PySem.W.keepIn K (.ref f13) = true)
    (a14 : PySem.W.nsIn K mainGlobals "_law_board_error" = some (some (.ref f14))) (l14 : K.lookup f14 = some ⟨oc14, od14, .func (PySem.W.fnOf "_law_board_error" "_law_board_error" (defArgs s__law_board_error) (defBody s__law_board_error) (defScope s__law_board_error) .none kV14 dc14 pm14 an14 cd14 ct14), sl14⟩) (c14 : PySem.W.codeIn K cd14 "_law_board_error" = true) (k14 : PySem.W.keepIn K (.ref f14) = true)
    (a15 : PySem.W.nsIn K mainGlobals "_law_is_purse" = some (some (.ref f15))) (l15 : K.lookup f15 = some ⟨oc15, od15, .func (PySem.W.fnOf "_law_is_purse" "_law_is_purse" (defArgs s__law_is_purse) (defBody s__law_is_purse) (defScope s__law_is_purse) .none kV15 dc15 pm15 an15 cd15 ct15), sl15⟩) (c15 : PySem.W.codeIn K cd15 "_law_is_purse" = true) (k15 : PySem.W.keepIn K (.ref f15) = true)
    (a16 : PySem.W.nsIn K mainGlobals "giving" = some (some (.ref f16))) (l16 : K.lookup f16 = some ⟨oc16, od16, .func (PySem.W.fnOf "giving" "giving" (defArgs s_giving) (defBody s_giving) (defScope s_giving) .none kV16 dc16 pm16 an16 cd16 ct16), sl16⟩) (c16 : PySem.W.codeIn K cd16 "giving" = true) (k16 : PySem.W.keepIn K (.ref f16) = true)
    (a17 : PySem.W.nsIn K mainGlobals "is_greater" = some (some (.ref f17))) (l17 : K.lookup f17 = some ⟨oc17, od17, .func (PySem.W.fnOf "is_greater" "is_greater" (defArgs s_is_greater) (defBody s_is_greater) (defScope s_is_greater) .none kV17 dc17 pm17 an17 cd17 ct17), sl17⟩) (c17 : PySem.W.codeIn K cd17 "is_greater" = true) (k17 : PySem.W.keepIn K (.ref f17) = true)
    (a18 : PySem.W.nsIn K mainGlobals "best_steps" = some (some (.ref f18))) (l18 : K.lookup f18 = some ⟨oc18, od18, .func (PySem.W.fnOf "best_steps" "best_steps" (defArgs s_best_steps) (defBody s_best_steps) (defScope s_best_steps) .none kV18 dc18 pm18 an18 cd18 ct18), sl18⟩) (c18 : PySem.W.codeIn K cd18 "best_steps" = true) (k18 : PySem.W.keepIn K (.ref f18) = true)
    (a19 : PySem.W.nsIn K mainGlobals "end_of" = some (some (.ref f19))) (l19 : K.lookup f19 = some ⟨oc19, od19, .func (PySem.W.fnOf "end_of" "end_of" (defArgs s_end_of) (defBody s_end_of) (defScope s_end_of) .none kV19 dc19 pm19 an19 cd19 ct19), sl19⟩) (c19 : PySem.W.codeIn K cd19 "end_of" = true) (k19 : PySem.W.keepIn K (.ref f19) = true)
    (a20 : PySem.W.nsIn K mainGlobals "trails_from" = some (some (.ref f20))) (l20 : K.lookup f20 = some ⟨oc20, od20, .func (PySem.W.fnOf "trails_from" "trails_from" (defArgs s_trails_from) (defBody s_trails_from) (defScope s_trails_from) .none kV20 dc20 pm20 an20 cd20 ct20), sl20⟩) (c20 : PySem.W.codeIn K cd20 "trails_from" = true) (k20 : PySem.W.keepIn K (.ref f20) = true)
    (a21 : PySem.W.nsIn K mainGlobals "loops_at" = some (some (.ref f21))) (l21 : K.lookup f21 = some ⟨oc21, od21, .func (PySem.W.fnOf "loops_at" "loops_at" (defArgs s_loops_at) (defBody s_loops_at) (defScope s_loops_at) .none kV21 dc21 pm21 an21 cd21 ct21), sl21⟩) (c21 : PySem.W.codeIn K cd21 "loops_at" = true) (k21 : PySem.W.keepIn K (.ref f21) = true)
    (a22 : PySem.W.nsIn K mainGlobals "gaining_loop" = some (some (.ref f22))) (l22 : K.lookup f22 = some ⟨oc22, od22, .func (PySem.W.fnOf "gaining_loop" "gaining_loop" (defArgs s_gaining_loop) (defBody s_gaining_loop) (defScope s_gaining_loop) .none kV22 dc22 pm22 an22 cd22 ct22), sl22⟩) (c22 : PySem.W.codeIn K cd22 "gaining_loop" = true) (k22 : PySem.W.keepIn K (.ref f22) = true)
    (a23 : PySem.W.nsIn K mainGlobals "scaled" = some (some (.ref f23))) (l23 : K.lookup f23 = some ⟨oc23, od23, .func (PySem.W.fnOf "scaled" "scaled" (defArgs s_scaled) (defBody s_scaled) (defScope s_scaled) .none kV23 dc23 pm23 an23 cd23 ct23), sl23⟩) (c23 : PySem.W.codeIn K cd23 "scaled" = true) (k23 : PySem.W.keepIn K (.ref f23) = true)
    (a24 : PySem.W.nsIn K mainGlobals "price_of" = some (some (.ref f24))) (l24 : K.lookup f24 = some ⟨oc24, od24, .func (PySem.W.fnOf "price_of" "price_of" (defArgs s_price_of) (defBody s_price_of) (defScope s_price_of) .none kV24 dc24 pm24 an24 cd24 ct24), sl24⟩) (c24 : PySem.W.codeIn K cd24 "price_of" = true) (k24 : PySem.W.keepIn K (.ref f24) = true)
    (a25 : PySem.W.nsIn K mainGlobals "worths" = some (some (.ref f25))) (l25 : K.lookup f25 = some ⟨oc25, od25, .func (PySem.W.fnOf "worths" "worths" (defArgs s_worths) (defBody s_worths) (defScope s_worths) .none kV25 dc25 pm25 an25 cd25 ct25), sl25⟩) (c25 : PySem.W.codeIn K cd25 "worths" = true) (k25 : PySem.W.keepIn K (.ref f25) = true)
    (a26 : PySem.W.nsIn K mainGlobals "loop_of" = some (some (.ref f26))) (l26 : K.lookup f26 = some ⟨oc26, od26, .func (PySem.W.fnOf "loop_of" "loop_of" (defArgs s_loop_of) (defBody s_loop_of) (defScope s_loop_of) .none kV26 dc26 pm26 an26 cd26 ct26), sl26⟩) (c26 : PySem.W.codeIn K cd26 "loop_of" = true) (k26 : PySem.W.keepIn K (.ref f26) = true)
    (a27 : PySem.W.findIn K (.ref A_Till) "__init__" = some (some (.ref f27))) (l27 : K.lookup f27 = some ⟨oc27, od27, .func (PySem.W.fnOf "__init__" "Till.__init__" (defArgs s_Till___init__) (defBody s_Till___init__) (defScope s_Till___init__) .none kV27 dc27 pm27 an27 cd27 ct27), sl27⟩) (c27 : PySem.W.codeIn K cd27 "Till.__init__" = true) (k27 : PySem.W.keepIn K (.ref f27) = true) (i27 : PySem.W.isFn K (.ref f27) = true)
    (a28 : PySem.W.findIn K (.ref A_Till) "state_at" = some (some (.ref f28))) (l28 : K.lookup f28 = some ⟨oc28, od28, .func (PySem.W.fnOf "state_at" "Till.state_at" (defArgs s_Till_state_at) (defBody s_Till_state_at) (defScope s_Till_state_at) .none kV28 dc28 pm28 an28 cd28 ct28), sl28⟩) (c28 : PySem.W.codeIn K cd28 "Till.state_at" = true) (k28 : PySem.W.keepIn K (.ref f28) = true) (i28 : PySem.W.isFn K (.ref f28) = true)
    (a29 : PySem.W.findIn K (.ref A_Till) "state" = some (some (.ref f29))) (l29 : K.lookup f29 = some ⟨oc29, od29, .func (PySem.W.fnOf "state" "Till.state" (defArgs s_Till_state) (defBody s_Till_state) (defScope s_Till_state) .none (.ref kD29) dc29 pm29 an29 cd29 ct29), sl29⟩) (c29 : PySem.W.codeIn K cd29 "Till.state" = true) (k29 : PySem.W.keepIn K (.ref f29) = true) (i29 : PySem.W.isFn K (.ref f29) = true) (n29 : PySem.W.nsIn K kD29 "version" = some (some .none))
    (a30 : PySem.W.findIn K (.ref A_Till) "edits" = some (some (.ref f30))) (l30 : K.lookup f30 = some ⟨oc30, od30, .func (PySem.W.fnOf "edits" "Till.edits" (defArgs s_Till_edits) (defBody s_Till_edits) (defScope s_Till_edits) .none kV30 dc30 pm30 an30 cd30 ct30), sl30⟩) (c30 : PySem.W.codeIn K cd30 "Till.edits" = true) (k30 : PySem.W.keepIn K (.ref f30) = true) (i30 : PySem.W.isFn K (.ref f30) = true)
    (a31 : PySem.W.findIn K (.ref A_Till) "__len__" = some (some (.ref f31))) (l31 : K.lookup f31 = some ⟨oc31, od31, .func (PySem.W.fnOf "__len__" "Till.__len__" (defArgs s_Till___len__) (defBody s_Till___len__) (defScope s_Till___len__) .none kV31 dc31 pm31 an31 cd31 ct31), sl31⟩) (c31 : PySem.W.codeIn K cd31 "Till.__len__" = true) (k31 : PySem.W.keepIn K (.ref f31) = true) (i31 : PySem.W.isFn K (.ref f31) = true)
    (a32 : PySem.W.findIn K (.ref A_Till) "__str__" = some (some (.ref f32))) (l32 : K.lookup f32 = some ⟨oc32, od32, .func (PySem.W.fnOf "__str__" "Till.__str__" (defArgs s_Till___str__) (defBody s_Till___str__) (defScope s_Till___str__) .none kV32 dc32 pm32 an32 cd32 ct32), sl32⟩) (c32 : PySem.W.codeIn K cd32 "Till.__str__" = true) (k32 : PySem.W.keepIn K (.ref f32) = true) (i32 : PySem.W.isFn K (.ref f32) = true)
    (a33 : PySem.W.nsIn K mainGlobals "_law_put" = some (some (.ref f33))) (l33 : K.lookup f33 = some ⟨oc33, od33, .func (PySem.W.fnOf "_law_put" "_law_put" (defArgs s__law_put) (defBody s__law_put) (defScope s__law_put) .none kV33 dc33 pm33 an33 cd33 ct33), sl33⟩) (c33 : PySem.W.codeIn K cd33 "_law_put" = true) (k33 : PySem.W.keepIn K (.ref f33) = true)
    (a34 : PySem.W.nsIn K mainGlobals "_law_gains" = some (some (.ref f34))) (l34 : K.lookup f34 = some ⟨oc34, od34, .func (PySem.W.fnOf "_law_gains" "_law_gains" (defArgs s__law_gains) (defBody s__law_gains) (defScope s__law_gains) .none kV34 dc34 pm34 an34 cd34 ct34), sl34⟩) (c34 : PySem.W.codeIn K cd34 "_law_gains" = true) (k34 : PySem.W.keepIn K (.ref f34) = true)
    (a35 : PySem.W.nsIn K mainGlobals "_law_is_loop" = some (some (.ref f35))) (l35 : K.lookup f35 = some ⟨oc35, od35, .func (PySem.W.fnOf "_law_is_loop" "_law_is_loop" (defArgs s__law_is_loop) (defBody s__law_is_loop) (defScope s__law_is_loop) .none kV35 dc35 pm35 an35 cd35 ct35), sl35⟩) (c35 : PySem.W.codeIn K cd35 "_law_is_loop" = true) (k35 : PySem.W.keepIn K (.ref f35) = true)
    (a36 : PySem.W.nsIn K mainGlobals "_law_is_seen" = some (some (.ref f36))) (l36 : K.lookup f36 = some ⟨oc36, od36, .func (PySem.W.fnOf "_law_is_seen" "_law_is_seen" (defArgs s__law_is_seen) (defBody s__law_is_seen) (defScope s__law_is_seen) .none kV36 dc36 pm36 an36 cd36 ct36), sl36⟩) (c36 : PySem.W.codeIn K cd36 "_law_is_seen" = true) (k36 : PySem.W.keepIn K (.ref f36) = true)
    (a37 : PySem.W.nsIn K mainGlobals "_law_made" = some (some (.ref f37))) (l37 : K.lookup f37 = some ⟨oc37, od37, .func (PySem.W.fnOf "_law_made" "_law_made" (defArgs s__law_made) (defBody s__law_made) (defScope s__law_made) .none kV37 dc37 pm37 an37 cd37 ct37), sl37⟩) (c37 : PySem.W.codeIn K cd37 "_law_made" = true) (k37 : PySem.W.keepIn K (.ref f37) = true)
    (a38 : PySem.W.nsIn K mainGlobals "_law_due" = some (some (.ref f38))) (l38 : K.lookup f38 = some ⟨oc38, od38, .func (PySem.W.fnOf "_law_due" "_law_due" (defArgs s__law_due) (defBody s__law_due) (defScope s__law_due) .none kV38 dc38 pm38 an38 cd38 ct38), sl38⟩) (c38 : PySem.W.codeIn K cd38 "_law_due" = true) (k38 : PySem.W.keepIn K (.ref f38) = true)
    (a39 : PySem.W.nsIn K mainGlobals "_law_is_new" = some (some (.ref f39))) (l39 : K.lookup f39 = some ⟨oc39, od39, .func (PySem.W.fnOf "_law_is_new" "_law_is_new" (defArgs s__law_is_new) (defBody s__law_is_new) (defScope s__law_is_new) .none kV39 dc39 pm39 an39 cd39 ct39), sl39⟩) (c39 : PySem.W.codeIn K cd39 "_law_is_new" = true) (k39 : PySem.W.keepIn K (.ref f39) = true)
    (a40 : PySem.W.nsIn K mainGlobals "_law_odd" = some (some (.ref f40))) (l40 : K.lookup f40 = some ⟨oc40, od40, .func (PySem.W.fnOf "_law_odd" "_law_odd" (defArgs s__law_odd) (defBody s__law_odd) (defScope s__law_odd) .none kV40 dc40 pm40 an40 cd40 ct40), sl40⟩) (c40 : PySem.W.codeIn K cd40 "_law_odd" = true) (k40 : PySem.W.keepIn K (.ref f40) = true)
    (a41 : PySem.W.nsIn K mainGlobals "_law_begun" = some (some (.ref f41))) (l41 : K.lookup f41 = some ⟨oc41, od41, .func (PySem.W.fnOf "_law_begun" "_law_begun" (defArgs s__law_begun) (defBody s__law_begun) (defScope s__law_begun) .none kV41 dc41 pm41 an41 cd41 ct41), sl41⟩) (c41 : PySem.W.codeIn K cd41 "_law_begun" = true) (k41 : PySem.W.keepIn K (.ref f41) = true)
    (a42 : PySem.W.nsIn K mainGlobals "law" = some (some (.ref f42))) (l42 : K.lookup f42 = some ⟨oc42, od42, .func (PySem.W.fnOf "law" "law" (defArgs s_law) (defBody s_law) (defScope s_law) .none kV42 dc42 pm42 an42 cd42 ct42), sl42⟩) (c42 : PySem.W.codeIn K cd42 "law" = true) (k42 : PySem.W.keepIn K (.ref f42) = true)
    {tk0 : Tok} (w0 : PySem.W.nsIn K mainGlobals "LOOP" = some (some (.str "loop" tk0)))
    {tk1 : Tok} (w1 : PySem.W.nsIn K mainGlobals "MAX_AMOUNT" = some (some (.int 30 tk1)))
    {tk2 : Tok} (w2 : PySem.W.nsIn K mainGlobals "MAX_KINDS" = some (some (.int 4 tk2)))
    {tk3 : Tok} (w3 : PySem.W.nsIn K mainGlobals "MAX_OFFERS" = some (some (.int 40 tk3)))
    {tk4 : Tok} (w4 : PySem.W.nsIn K mainGlobals "MAX_PURSE" = some (some (.int 1000000 tk4)))
    {tk5 : Tok} (w5 : PySem.W.nsIn K mainGlobals "PRICES" = some (some (.str "prices" tk5)))
    (xa_Till : PySem.W.nsIn K mainGlobals "Till" = some (some (.ref A_Till)))
    (xl0_Till : PySem.W.plainGet K A_Till Str.empty = true)
    (xl1_Till : PySem.W.hasDictIn K A_Till = true)
    (xl2_Till : PySem.W.plainOver K A_Till = true)
    (xl3_Till : PySem.W.findIn K (.ref A_Till) "__setattr__" = some (some (.builtin "object.__setattr__")))
    (xo_Till_kept : PySem.W.findIn K (.ref A_Till) "kept" = some none)
    (xo_Till_board : PySem.W.findIn K (.ref A_Till) "board" = some none)
    (xo_Till_purse : PySem.W.findIn K (.ref A_Till) "purse" = some none)
    (xo_Till_loop : PySem.W.findIn K (.ref A_Till) "loop" = some none)
    (xo_Till_states : PySem.W.findIn K (.ref A_Till) "states" = some none)
    (xo_Till_standing : PySem.W.findIn K (.ref A_Till) "standing" = some none)
    (xo_Till_watching : PySem.W.findIn K (.ref A_Till) "watching" = some none)
    (xk0_Till : PySem.W.makesIn K A_Till = true)
    (xk1_Till : PySem.W.keepIn K (.ref A_Till) = true)
    (xi0_Till : PySem.W.findIn K (.ref A_Till) "__class__" = some (some (.builtin "object.__class__")))
    (xi1_Till : PySem.W.specialIn K (.builtin "object.__class__") "__get__" = some (some (.builtin "getset_descriptor.__get__")))
    (xi2_Till : PySem.W.takesIn K (.builtin "object.__class__") = some true)
    (xi3_Till : PySem.W.mroIn K A_Till (.type "object") = some true)
    (xi4_Till : PySem.W.kitOne K (.ref A_Till) (.ref A_Till) = some true)
    (xcv_Till_MOST_EDITS : PySem.W.findCls K (.ref A_Till) (.type "type") "MOST_EDITS" = some (.val (.int 60 tkc_Till_MOST_EDITS)))
    (xcn_Till_MOST_EDITS : PySem.W.findIn K (.ref A_Till) "MOST_EDITS" = some (some (.int 60 tkc_Till_MOST_EDITS)))
    (xcg_Till_MOST_EDITS : PySem.W.specialIn K (.int 60 tkc_Till_MOST_EDITS) "__get__" = some none)
    (xcr0_Till : PySem.W.readsIn K A_Till (.type "type") = true)
    (xcr1_Till : PySem.W.specialIn K (.ref A_Till) "__getattribute__" = some (some (.builtin "type.__getattribute__")))
    (xp0_Till : PySem.W.selfFirst K A_Till = true)
    (xp1_Till : PySem.W.noSeq K A_Till = true)
    (xp2_int_Till : PySem.W.notFirst K A_Till (.type "int") = true)
    (xp2_bool_Till : PySem.W.notFirst K A_Till (.type "bool") = true)
    (xp2_str_Till : PySem.W.notFirst K A_Till (.type "str") = true)
    (xp2_tuple_Till : PySem.W.notFirst K A_Till (.type "tuple") = true)
    (xp2_list_Till : PySem.W.notFirst K A_Till (.type "list") = true)
    (xp2_NoneType_Till : PySem.W.notFirst K A_Till (.type "NoneType") = true)
    (xp2_dict_Till : PySem.W.notFirst K A_Till (.type "dict") = true)
    (xne_Till : PySem.W.findIn K (.ref A_Till) "__ne__" = some (some (.builtin "object.__ne__")))
    (xrm_Till : PySem.W.findIn K (.ref A_Till) "__rmul__" = some none)
    (xkt_Till : PySem.W.kitOne K (.ref A_Till) (.type "tuple") = some false)
    (xkc_int_Till : PySem.W.kitOne K (.type "int") (.ref A_Till) = some false)
    (xkc_bool_Till : PySem.W.kitOne K (.type "bool") (.ref A_Till) = some false)
    (xkc_str_Till : PySem.W.kitOne K (.type "str") (.ref A_Till) = some false)
    (xkc_tuple_Till : PySem.W.kitOne K (.type "tuple") (.ref A_Till) = some false)
    (xkc_list_Till : PySem.W.kitOne K (.type "list") (.ref A_Till) = some false)
    (xkc_NoneType_Till : PySem.W.kitOne K (.type "NoneType") (.ref A_Till) = some false)
    (xkc_dict_Till : PySem.W.kitOne K (.type "dict") (.ref A_Till) = some false)
    (xa_NoVersion : PySem.W.nsIn K mainGlobals "NoVersion" = some (some (.ref A_NoVersion)))
    (xz_super : PySem.W.nsIn K mainGlobals "super" = some none)
    (xhi_NoVersion : PySem.W.findIn K (.ref A_NoVersion) "__init__" = some (some (.ref I_NoVersion)))
    (xlI_NoVersion : K.lookup I_NoVersion = some ⟨xoc_NoVersion, xod_NoVersion, .func (PySem.W.ksFn "__init__" "NoVersion.__init__" (defArgs ini_NoVersion) (defBody ini_NoVersion) (defScope ini_NoVersion) .none xkV_NoVersion xdc_NoVersion xpm_NoVersion xan_NoVersion (.ref CD_NoVersion) xct_NoVersion CC_NoVersion), xosl_NoVersion⟩)
    (xco_NoVersion : PySem.W.codeIn K (.ref CD_NoVersion) "NoVersion.__init__" = true)
    (xlc_NoVersion : K.lookup CD_NoVersion = some ⟨xccl_NoVersion, xcdd_NoVersion, .fields xvs_NoVersion, xccs_NoVersion⟩)
    (xlcc_NoVersion : K.lookup CC_NoVersion = some ⟨xcl_NoVersion, xcld_NoVersion, .cell (some (.ref A_NoVersion)), xcsl_NoVersion⟩)
    (xt0_NoVersion : PySem.W.takerIn K A_NoVersion "value" = some none)
    (xv2_NoVersion : xvs_NoVersion[2]? = some (.str xfile_NoVersion xtf_NoVersion))
    (xfl_NoVersion : ((l.prog.main.file : Str) == xfile_NoVersion) = true)
    (xtop_NoVersion : (l.prog.main.scope.names.lookup ("super" : Str)).isSome = false)
    (xr0_NoVersion : PySem.W.excInitIn K A_NoVersion [.type "LookupError", .type "Exception", .type "BaseException", .type "object"] "LookupError.__new__" = true)
    (xr1_NoVersion : PySem.W.typeIn K (.ref I_NoVersion) = some (.type "function"))
    (xr2_NoVersion : (PySem.W.clsIn K A_NoVersion).isSome = true)
    (xr3_NoVersion : PySem.W.mroIn K A_NoVersion (.ref A_NoVersion) = some true)
    (xr4_NoVersion : PySem.W.nsIn K cStatics "thirdparty.any" = some none)
    (xr5_NoVersion : PySem.W.ks_superIn K A_NoVersion A_NoVersion "__init__" = some (some (.builtin "LookupError.__init__")))
    (xr6_NoVersion : PySem.W.subIn K (.ref A_NoVersion) (.type "LookupError") = some true)
    (xr7_NoVersion : PySem.W.findIn K (.ref A_NoVersion) "__setattr__" = some (some (.builtin "object.__setattr__")))
    (xr8_NoVersion : PySem.W.excOver K A_NoVersion [.type "LookupError", .type "Exception", .type "BaseException", .type "object"] = true)
    (xr9_NoVersion : PySem.W.hasDictIn K A_NoVersion = true)
    (xr10_NoVersion : PySem.W.keepIn K (.ref A_NoVersion) = true)
    (xr11_NoVersion : PySem.W.subIn K (.ref A_NoVersion) (.type "BaseException") = some true)
    (xr12_NoVersion : PySem.W.typeIn K (.ref A_NoVersion) = some (.type "type"))
    (xa_BadBoard : PySem.W.nsIn K mainGlobals "BadBoard" = some (some (.ref A_BadBoard)))
    (xhi_BadBoard : PySem.W.findIn K (.ref A_BadBoard) "__init__" = some (some (.ref I_BadBoard)))
    (xlI_BadBoard : K.lookup I_BadBoard = some ⟨xoc_BadBoard, xod_BadBoard, .func (PySem.W.ksFn "__init__" "BadBoard.__init__" (defArgs ini_BadBoard) (defBody ini_BadBoard) (defScope ini_BadBoard) .none xkV_BadBoard xdc_BadBoard xpm_BadBoard xan_BadBoard (.ref CD_BadBoard) xct_BadBoard CC_BadBoard), xosl_BadBoard⟩)
    (xco_BadBoard : PySem.W.codeIn K (.ref CD_BadBoard) "BadBoard.__init__" = true)
    (xlc_BadBoard : K.lookup CD_BadBoard = some ⟨xccl_BadBoard, xcdd_BadBoard, .fields xvs_BadBoard, xccs_BadBoard⟩)
    (xlcc_BadBoard : K.lookup CC_BadBoard = some ⟨xcl_BadBoard, xcld_BadBoard, .cell (some (.ref A_BadBoard)), xcsl_BadBoard⟩)
    (xt0_BadBoard : PySem.W.takerIn K A_BadBoard "error" = some none)
    (xv2_BadBoard : xvs_BadBoard[2]? = some (.str xfile_BadBoard xtf_BadBoard))
    (xfl_BadBoard : ((l.prog.main.file : Str) == xfile_BadBoard) = true)
    (xtop_BadBoard : (l.prog.main.scope.names.lookup ("super" : Str)).isSome = false)
    (xr0_BadBoard : PySem.W.excInitIn K A_BadBoard [.type "ValueError", .type "Exception", .type "BaseException", .type "object"] "ValueError.__new__" = true)
    (xr1_BadBoard : PySem.W.typeIn K (.ref I_BadBoard) = some (.type "function"))
    (xr2_BadBoard : (PySem.W.clsIn K A_BadBoard).isSome = true)
    (xr3_BadBoard : PySem.W.mroIn K A_BadBoard (.ref A_BadBoard) = some true)
    (xr4_BadBoard : PySem.W.nsIn K cStatics "thirdparty.any" = some none)
    (xr5_BadBoard : PySem.W.ks_superIn K A_BadBoard A_BadBoard "__init__" = some (some (.builtin "ValueError.__init__")))
    (xr6_BadBoard : PySem.W.subIn K (.ref A_BadBoard) (.type "ValueError") = some true)
    (xr7_BadBoard : PySem.W.findIn K (.ref A_BadBoard) "__setattr__" = some (some (.builtin "object.__setattr__")))
    (xr8_BadBoard : PySem.W.excOver K A_BadBoard [.type "ValueError", .type "Exception", .type "BaseException", .type "object"] = true)
    (xr9_BadBoard : PySem.W.hasDictIn K A_BadBoard = true)
    (xr10_BadBoard : PySem.W.keepIn K (.ref A_BadBoard) = true)
    (xr11_BadBoard : PySem.W.subIn K (.ref A_BadBoard) (.type "BaseException") = some true)
    (xr12_BadBoard : PySem.W.typeIn K (.ref A_BadBoard) = some (.type "type"))
    (xa_BadPurse : PySem.W.nsIn K mainGlobals "BadPurse" = some (some (.ref A_BadPurse)))
    (xhi_BadPurse : PySem.W.findIn K (.ref A_BadPurse) "__init__" = some (some (.ref I_BadPurse)))
    (xlI_BadPurse : K.lookup I_BadPurse = some ⟨xoc_BadPurse, xod_BadPurse, .func (PySem.W.ksFn "__init__" "BadPurse.__init__" (defArgs ini_BadPurse) (defBody ini_BadPurse) (defScope ini_BadPurse) .none xkV_BadPurse xdc_BadPurse xpm_BadPurse xan_BadPurse (.ref CD_BadPurse) xct_BadPurse CC_BadPurse), xosl_BadPurse⟩)
    (xco_BadPurse : PySem.W.codeIn K (.ref CD_BadPurse) "BadPurse.__init__" = true)
    (xlc_BadPurse : K.lookup CD_BadPurse = some ⟨xccl_BadPurse, xcdd_BadPurse, .fields xvs_BadPurse, xccs_BadPurse⟩)
    (xlcc_BadPurse : K.lookup CC_BadPurse = some ⟨xcl_BadPurse, xcld_BadPurse, .cell (some (.ref A_BadPurse)), xcsl_BadPurse⟩)
    (xt0_BadPurse : PySem.W.takerIn K A_BadPurse "value" = some none)
    (xv2_BadPurse : xvs_BadPurse[2]? = some (.str xfile_BadPurse xtf_BadPurse))
    (xfl_BadPurse : ((l.prog.main.file : Str) == xfile_BadPurse) = true)
    (xtop_BadPurse : (l.prog.main.scope.names.lookup ("super" : Str)).isSome = false)
    (xr0_BadPurse : PySem.W.excInitIn K A_BadPurse [.type "ValueError", .type "Exception", .type "BaseException", .type "object"] "ValueError.__new__" = true)
    (xr1_BadPurse : PySem.W.typeIn K (.ref I_BadPurse) = some (.type "function"))
    (xr2_BadPurse : (PySem.W.clsIn K A_BadPurse).isSome = true)
    (xr3_BadPurse : PySem.W.mroIn K A_BadPurse (.ref A_BadPurse) = some true)
    (xr4_BadPurse : PySem.W.nsIn K cStatics "thirdparty.any" = some none)
    (xr5_BadPurse : PySem.W.ks_superIn K A_BadPurse A_BadPurse "__init__" = some (some (.builtin "ValueError.__init__")))
    (xr6_BadPurse : PySem.W.subIn K (.ref A_BadPurse) (.type "ValueError") = some true)
    (xr7_BadPurse : PySem.W.findIn K (.ref A_BadPurse) "__setattr__" = some (some (.builtin "object.__setattr__")))
    (xr8_BadPurse : PySem.W.excOver K A_BadPurse [.type "ValueError", .type "Exception", .type "BaseException", .type "object"] = true)
    (xr9_BadPurse : PySem.W.hasDictIn K A_BadPurse = true)
    (xr10_BadPurse : PySem.W.keepIn K (.ref A_BadPurse) = true)
    (xr11_BadPurse : PySem.W.subIn K (.ref A_BadPurse) (.type "BaseException") = some true)
    (xr12_BadPurse : PySem.W.typeIn K (.ref A_BadPurse) = some (.type "type"))
    (xz_dict : PySem.W.nsIn K mainGlobals "dict" = some none)
    (xs_BadBoard_BadBoard : PySem.W.exmOne K (.ref A_BadBoard) (.ref A_BadBoard) = some true)
    (xc0_BadBoard : PySem.W.findIn K (.ref A_BadBoard) "__getattribute__" = some (some (.builtin "BaseException.__getattribute__")))
    (xc1_BadBoard : PySem.W.findIn K (.ref A_BadBoard) "__getattr__" = some none)
    (xc2_BadBoard : PySem.W.subIn K (.ref A_BadBoard) (.type "BaseException") = some true)
    (xc3_BadBoard : PySem.W.hasDictIn K A_BadBoard = true)
    (xn_BadBoard_error : PySem.W.findIn K (.ref A_BadBoard) "error" = some none)
    (xs_BadPurse_BadBoard : PySem.W.exmOne K (.ref A_BadPurse) (.ref A_BadBoard) = some false)
    (xs_BadPurse_BadPurse : PySem.W.exmOne K (.ref A_BadPurse) (.ref A_BadPurse) = some true)
    (xc0_BadPurse : PySem.W.findIn K (.ref A_BadPurse) "__getattribute__" = some (some (.builtin "BaseException.__getattribute__")))
    (xc1_BadPurse : PySem.W.findIn K (.ref A_BadPurse) "__getattr__" = some none)
    (xc2_BadPurse : PySem.W.subIn K (.ref A_BadPurse) (.type "BaseException") = some true)
    (xc3_BadPurse : PySem.W.hasDictIn K A_BadPurse = true)
    (xn_BadPurse_value : PySem.W.findIn K (.ref A_BadPurse) "value" = some none)
    (z_len : PySem.W.nsIn K mainGlobals "len" = some none) (z_abs : PySem.W.nsIn K mainGlobals "abs" = some none) (z_int : PySem.W.nsIn K mainGlobals "int" = some none) (z_max : PySem.W.nsIn K mainGlobals "max" = some none) (z_min : PySem.W.nsIn K mainGlobals "min" = some none) (z_tuple : PySem.W.nsIn K mainGlobals "tuple" = some none) (z_list : PySem.W.nsIn K mainGlobals "list" = some none) (z_range : PySem.W.nsIn K mainGlobals "range" = some none) (z_sum : PySem.W.nsIn K mainGlobals "sum" = some none) (z_all : PySem.W.nsIn K mainGlobals "all" = some none) (z_any : PySem.W.nsIn K mainGlobals "any" = some none) (z_repr : PySem.W.nsIn K mainGlobals "repr" = some none) (z_sorted : PySem.W.nsIn K mainGlobals "sorted" = some none) (z_set : PySem.W.nsIn K mainGlobals "set" = some none) (z_isinstance : PySem.W.nsIn K mainGlobals "isinstance" = some none) (z_enumerate : PySem.W.nsIn K mainGlobals "enumerate" = some none) (z_zip : PySem.W.nsIn K mainGlobals "zip" = some none) (z_str : PySem.W.nsIn K mainGlobals "str" = some none) (z_divmod : PySem.W.nsIn K mainGlobals "divmod" = some none) (z_bool : PySem.W.nsIn K mainGlobals "bool" = some none) :
    ∃ fd : FuncData, (∀ (s : Shared) (v : Value), BindsTo s fd ⟨[v], []⟩ [("_law_script", v)]) ∧ ∀ base : Heap, K.In base → base.Ns mainGlobals mg → FnG l.prog w K mg base CX0 13 fa fd ["_law_script"] (spLaw K) := by
  have e := hfa.symm.trans (PySem.W.mg_of X G a42)
  cases e
  have B : Bl mg := ⟨PySem.W.mg_none_of X G z_len, PySem.W.mg_none_of X G z_abs, PySem.W.mg_none_of X G z_int, PySem.W.mg_none_of X G z_max, PySem.W.mg_none_of X G z_min, PySem.W.mg_none_of X G z_tuple, PySem.W.mg_none_of X G z_list, PySem.W.mg_none_of X G z_range, PySem.W.mg_none_of X G z_sum, PySem.W.mg_none_of X G z_all, PySem.W.mg_none_of X G z_any, PySem.W.mg_none_of X G z_repr, PySem.W.mg_none_of X G z_sorted, PySem.W.mg_none_of X G z_set, PySem.W.mg_none_of X G z_isinstance, PySem.W.mg_none_of X G z_enumerate, PySem.W.mg_none_of X G z_zip, PySem.W.mg_none_of X G z_str, PySem.W.mg_none_of X G z_divmod, PySem.W.mg_none_of X G z_bool⟩
  have d__law_deck : Dfn K mg "_law_deck" s__law_deck ["_law_script"] := ⟨f0, _, fun_mk (st := s__law_deck) l0 c0 k0, PySem.W.mg_of X G a0, (fun_mk (st := s__law_deck) l0 c0 k0).binds (ps := ["_law_script"]) fun _ _ _ _ _ _ us hl => match us, hl with | [_], _ => rfl⟩
  have d__law_draw : Dfn K mg "_law_draw" s__law_draw ["_law_deck_here", "_law_many"] := ⟨f1, _, fun_mk (st := s__law_draw) l1 c1 k1, PySem.W.mg_of X G a1, (fun_mk (st := s__law_draw) l1 c1 k1).binds (ps := ["_law_deck_here", "_law_many"]) fun _ _ _ _ _ _ us hl => match us, hl with | [_, _], _ => rfl⟩
  have d__law_one : Dfn K mg "_law_one" s__law_one ["_law_deck_here", "_law_items"] := ⟨f2, _, fun_mk (st := s__law_one) l2 c2 k2, PySem.W.mg_of X G a2, (fun_mk (st := s__law_one) l2 c2 k2).binds (ps := ["_law_deck_here", "_law_items"]) fun _ _ _ _ _ _ us hl => match us, hl with | [_, _], _ => rfl⟩
  have d_is_whole : Dfn K mg "is_whole" s_is_whole ["value"] := ⟨f3, _, fun_mk (st := s_is_whole) l3 c3 k3, PySem.W.mg_of X G a3, (fun_mk (st := s_is_whole) l3 c3 k3).binds (ps := ["value"]) fun _ _ _ _ _ _ us hl => match us, hl with | [_], _ => rfl⟩
  have d_is_between : Dfn K mg "is_between" s_is_between ["value", "low", "high"] := ⟨f4, _, fun_mk (st := s_is_between) l4 c4 k4, PySem.W.mg_of X G a4, (fun_mk (st := s_is_between) l4 c4 k4).binds (ps := ["value", "low", "high"]) fun _ _ _ _ _ _ us hl => match us, hl with | [_, _, _], _ => rfl⟩
  have d_divisor : Dfn K mg "divisor" s_divisor ["one", "other"] := ⟨f5, _, fun_mk (st := s_divisor) l5 c5 k5, PySem.W.mg_of X G a5, (fun_mk (st := s_divisor) l5 c5 k5).binds (ps := ["one", "other"]) fun _ _ _ _ _ _ us hl => match us, hl with | [_, _], _ => rfl⟩
  have d_lowest : Dfn K mg "lowest" s_lowest ["num", "den"] := ⟨f6, _, fun_mk (st := s_lowest) l6 c6 k6, PySem.W.mg_of X G a6, (fun_mk (st := s_lowest) l6 c6 k6).binds (ps := ["num", "den"]) fun _ _ _ _ _ _ us hl => match us, hl with | [_, _], _ => rfl⟩
  have d_ratio_of : Dfn K mg "ratio_of" s_ratio_of ["board", "indexes"] := ⟨f7, _, fun_mk (st := s_ratio_of) l7 c7 k7, PySem.W.mg_of X G a7, (fun_mk (st := s_ratio_of) l7 c7 k7).binds (ps := ["board", "indexes"]) fun _ _ _ _ _ _ us hl => match us, hl with | [_, _], _ => rfl⟩
  have d_gains : Dfn K mg "gains" s_gains ["board", "indexes"] := ⟨f8, _, fun_mk (st := s_gains) l8 c8 k8, PySem.W.mg_of X G a8, (fun_mk (st := s_gains) l8 c8 k8).binds (ps := ["board", "indexes"]) fun _ _ _ _ _ _ us hl => match us, hl with | [_, _], _ => rfl⟩
  have d__law_is_between : Dfn K mg "_law_is_between" s__law_is_between ["_law_value", "_law_low", "_law_high"] := ⟨f9, _, fun_mk (st := s__law_is_between) l9 c9 k9, PySem.W.mg_of X G a9, (fun_mk (st := s__law_is_between) l9 c9 k9).binds (ps := ["_law_value", "_law_low", "_law_high"]) fun _ _ _ _ _ _ us hl => match us, hl with | [_, _, _], _ => rfl⟩
  have d_is_offer : Dfn K mg "is_offer" s_is_offer ["value", "many"] := ⟨f10, _, fun_mk (st := s_is_offer) l10 c10 k10, PySem.W.mg_of X G a10, (fun_mk (st := s_is_offer) l10 c10 k10).binds (ps := ["value", "many"]) fun _ _ _ _ _ _ us hl => match us, hl with | [_, _], _ => rfl⟩
  have d_board_error : Dfn K mg "board_error" s_board_error ["value"] := ⟨f11, _, fun_mk (st := s_board_error) l11 c11 k11, PySem.W.mg_of X G a11, (fun_mk (st := s_board_error) l11 c11 k11).binds (ps := ["value"]) fun _ _ _ _ _ _ us hl => match us, hl with | [_], _ => rfl⟩
  have d_is_purse : Dfn K mg "is_purse" s_is_purse ["value", "many"] := ⟨f12, _, fun_mk (st := s_is_purse) l12 c12 k12, PySem.W.mg_of X G a12, (fun_mk (st := s_is_purse) l12 c12 k12).binds (ps := ["value", "many"]) fun _ _ _ _ _ _ us hl => match us, hl with | [_, _], _ => rfl⟩
  have d__law_is_offer : Dfn K mg "_law_is_offer" s__law_is_offer ["_law_value", "_law_many"] := ⟨f13, _, fun_mk (st := s__law_is_offer) l13 c13 k13, PySem.W.mg_of X G a13, (fun_mk (st := s__law_is_offer) l13 c13 k13).binds (ps := ["_law_value", "_law_many"]) fun _ _ _ _ _ _ us hl => match us, hl with | [_, _], _ => rfl⟩
  have d__law_board_error : Dfn K mg "_law_board_error" s__law_board_error ["_law_value"] := ⟨f14, _, fun_mk (st := s__law_board_error) l14 c14 k14, PySem.W.mg_of X G a14, (fun_mk (st := s__law_board_error) l14 c14 k14).binds (ps := ["_law_value"]) fun _ _ _ _ _ _ us hl => match us, hl with | [_], _ => rfl⟩
  have d__law_is_purse : Dfn K mg "_law_is_purse" s__law_is_purse ["_law_value", "_law_many"] := ⟨f15, _, fun_mk (st := s__law_is_purse) l15 c15 k15, PySem.W.mg_of X G a15, (fun_mk (st := s__law_is_purse) l15 c15 k15).binds (ps := ["_law_value", "_law_many"]) fun _ _ _ _ _ _ us hl => match us, hl with | [_, _], _ => rfl⟩
  have d_giving : Dfn K mg "giving" s_giving ["board", "kind"] := ⟨f16, _, fun_mk (st := s_giving) l16 c16 k16, PySem.W.mg_of X G a16, (fun_mk (st := s_giving) l16 c16 k16).binds (ps := ["board", "kind"]) fun _ _ _ _ _ _ us hl => match us, hl with | [_, _], _ => rfl⟩
  have d_is_greater : Dfn K mg "is_greater" s_is_greater ["one", "other"] := ⟨f17, _, fun_mk (st := s_is_greater) l17 c17 k17, PySem.W.mg_of X G a17, (fun_mk (st := s_is_greater) l17 c17 k17).binds (ps := ["one", "other"]) fun _ _ _ _ _ _ us hl => match us, hl with | [_, _], _ => rfl⟩
  have d_best_steps : Dfn K mg "best_steps" s_best_steps ["board", "kind"] := ⟨f18, _, fun_mk (st := s_best_steps) l18 c18 k18, PySem.W.mg_of X G a18, (fun_mk (st := s_best_steps) l18 c18 k18).binds (ps := ["board", "kind"]) fun _ _ _ _ _ _ us hl => match us, hl with | [_, _], _ => rfl⟩
  have d_end_of : Dfn K mg "end_of" s_end_of ["board", "kind", "trail"] := ⟨f19, _, fun_mk (st := s_end_of) l19 c19 k19, PySem.W.mg_of X G a19, (fun_mk (st := s_end_of) l19 c19 k19).binds (ps := ["board", "kind", "trail"]) fun _ _ _ _ _ _ us hl => match us, hl with | [_, _, _], _ => rfl⟩
  have d_trails_from : Dfn K mg "trails_from" s_trails_from ["board", "kind"] := ⟨f20, _, fun_mk (st := s_trails_from) l20 c20 k20, PySem.W.mg_of X G a20, (fun_mk (st := s_trails_from) l20 c20 k20).binds (ps := ["board", "kind"]) fun _ _ _ _ _ _ us hl => match us, hl with | [_, _], _ => rfl⟩
  have d_loops_at : Dfn K mg "loops_at" s_loops_at ["board", "kind"] := ⟨f21, _, fun_mk (st := s_loops_at) l21 c21 k21, PySem.W.mg_of X G a21, (fun_mk (st := s_loops_at) l21 c21 k21).binds (ps := ["board", "kind"]) fun _ _ _ _ _ _ us hl => match us, hl with | [_, _], _ => rfl⟩
  have d_gaining_loop : Dfn K mg "gaining_loop" s_gaining_loop ["board", "kinds"] := ⟨f22, _, fun_mk (st := s_gaining_loop) l22 c22 k22, PySem.W.mg_of X G a22, (fun_mk (st := s_gaining_loop) l22 c22 k22).binds (ps := ["board", "kinds"]) fun _ _ _ _ _ _ us hl => match us, hl with | [_, _], _ => rfl⟩
  have d_scaled : Dfn K mg "scaled" s_scaled ["fractions"] := ⟨f23, _, fun_mk (st := s_scaled) l23 c23 k23, PySem.W.mg_of X G a23, (fun_mk (st := s_scaled) l23 c23 k23).binds (ps := ["fractions"]) fun _ _ _ _ _ _ us hl => match us, hl with | [_], _ => rfl⟩
  have d_price_of : Dfn K mg "price_of" s_price_of ["board", "kind"] := ⟨f24, _, fun_mk (st := s_price_of) l24 c24 k24, PySem.W.mg_of X G a24, (fun_mk (st := s_price_of) l24 c24 k24).binds (ps := ["board", "kind"]) fun _ _ _ _ _ _ us hl => match us, hl with | [_, _], _ => rfl⟩
  have d_worths : Dfn K mg "worths" s_worths ["board"] := ⟨f25, _, fun_mk (st := s_worths) l25 c25 k25, PySem.W.mg_of X G a25, (fun_mk (st := s_worths) l25 c25 k25).binds (ps := ["board"]) fun _ _ _ _ _ _ us hl => match us, hl with | [_], _ => rfl⟩
  have d_loop_of : Dfn K mg "loop_of" s_loop_of ["board"] := ⟨f26, _, fun_mk (st := s_loop_of) l26 c26 k26, PySem.W.mg_of X G a26, (fun_mk (st := s_loop_of) l26 c26 k26).binds (ps := ["board"]) fun _ _ _ _ _ _ us hl => match us, hl with | [_], _ => rfl⟩
  have d_Till___init__ : DfnI K mg "Till" A_Till "Till.__init__" s_Till___init__ ["self", "board", "purse"] := ⟨f27, _, (fun_mk (st := s_Till___init__) l27 c27 k27), (fun_mk (st := s_Till___init__) l27 c27 k27).binds (ps := ["self", "board", "purse"]) (fun _ _ _ _ _ _ us hl => match us, hl with | [_, _, _], _ => rfl), ⟨xk0_Till, a27, i27, xk1_Till⟩, PySem.W.mg_of X G xa_Till⟩
  have d_Till_state_at : DfnM K A_Till "state_at" "Till.state_at" s_Till_state_at ["self", "version"] := ⟨f28, _, (fun_mk (st := s_Till_state_at) l28 c28 k28), (fun_mk (st := s_Till_state_at) l28 c28 k28).binds (ps := ["self", "version"]) (fun _ _ _ _ _ _ us hl => match us, hl with | [_, _], _ => rfl), ⟨xl0_Till, xl1_Till, xl2_Till, xl3_Till⟩, ⟨a28, i28, k28⟩⟩
  have d_Till_state : DfnMK K A_Till "state" "Till.state" s_Till_state ["self", "version"] 1 "version" := ⟨f29, _, fun_mk (st := s_Till_state) l29 c29 k29, kwn_by (ps := ["self", "version"]) 1 l29 c29 k29 n29 rfl (fun _ _ _ _ _ _ us mv ws h1 h2 h3 => match us, mv, ws, h1, h2, h3 with | [_], [_], [], _, _, _ => ⟨_, _, _, _, _, _, rfl, rfl, rfl⟩) (fun _ _ _ _ _ _ us mv ws h1 h2 h3 => match us, mv, ws, h1, h2, h3 with | [_], [], [_], _, _, _ => rfl), ⟨xl0_Till, xl1_Till, xl2_Till, xl3_Till⟩, ⟨a29, i29, k29⟩⟩
  have d_Till_edits : DfnM K A_Till "edits" "Till.edits" s_Till_edits ["self"] := ⟨f30, _, (fun_mk (st := s_Till_edits) l30 c30 k30), (fun_mk (st := s_Till_edits) l30 c30 k30).binds (ps := ["self"]) (fun _ _ _ _ _ _ us hl => match us, hl with | [_], _ => rfl), ⟨xl0_Till, xl1_Till, xl2_Till, xl3_Till⟩, ⟨a30, i30, k30⟩⟩
  have d_Till___len__ : DfnM K A_Till "__len__" "Till.__len__" s_Till___len__ ["self"] := ⟨f31, _, (fun_mk (st := s_Till___len__) l31 c31 k31), (fun_mk (st := s_Till___len__) l31 c31 k31).binds (ps := ["self"]) (fun _ _ _ _ _ _ us hl => match us, hl with | [_], _ => rfl), ⟨xl0_Till, xl1_Till, xl2_Till, xl3_Till⟩, ⟨a31, i31, k31⟩⟩
  have d_Till___str__ : DfnM K A_Till "__str__" "Till.__str__" s_Till___str__ ["self"] := ⟨f32, _, (fun_mk (st := s_Till___str__) l32 c32 k32), (fun_mk (st := s_Till___str__) l32 c32 k32).binds (ps := ["self"]) (fun _ _ _ _ _ _ us hl => match us, hl with | [_], _ => rfl), ⟨xl0_Till, xl1_Till, xl2_Till, xl3_Till⟩, ⟨a32, i32, k32⟩⟩
  have d__law_put : Dfn K mg "_law_put" s__law_put ["_law_table", "_law_pair", "_law_num", "_law_den"] := ⟨f33, _, fun_mk (st := s__law_put) l33 c33 k33, PySem.W.mg_of X G a33, (fun_mk (st := s__law_put) l33 c33 k33).binds (ps := ["_law_table", "_law_pair", "_law_num", "_law_den"]) fun _ _ _ _ _ _ us hl => match us, hl with | [_, _, _, _], _ => rfl⟩
  have d__law_gains : Dfn K mg "_law_gains" s__law_gains ["_law_board"] := ⟨f34, _, fun_mk (st := s__law_gains) l34 c34 k34, PySem.W.mg_of X G a34, (fun_mk (st := s__law_gains) l34 c34 k34).binds (ps := ["_law_board"]) fun _ _ _ _ _ _ us hl => match us, hl with | [_], _ => rfl⟩
  have d__law_is_loop : Dfn K mg "_law_is_loop" s__law_is_loop ["_law_board", "_law_indexes"] := ⟨f35, _, fun_mk (st := s__law_is_loop) l35 c35 k35, PySem.W.mg_of X G a35, (fun_mk (st := s__law_is_loop) l35 c35 k35).binds (ps := ["_law_board", "_law_indexes"]) fun _ _ _ _ _ _ us hl => match us, hl with | [_, _], _ => rfl⟩
  have d__law_is_seen : Dfn K mg "_law_is_seen" s__law_is_seen ["_law_till", "_law_state", "_law_edits"] := ⟨f36, _, fun_mk (st := s__law_is_seen) l36 c36 k36, PySem.W.mg_of X G a36, (fun_mk (st := s__law_is_seen) l36 c36 k36).binds (ps := ["_law_till", "_law_state", "_law_edits"]) fun _ _ _ _ _ _ us hl => match us, hl with | [_, _, _], _ => rfl⟩
  have d__law_made : Dfn K mg "_law_made" s__law_made ["_law_board", "_law_purse"] := ⟨f37, _, fun_mk (st := s__law_made) l37 c37 k37, PySem.W.mg_of X G a37, (fun_mk (st := s__law_made) l37 c37 k37).binds (ps := ["_law_board", "_law_purse"]) fun _ _ _ _ _ _ us hl => match us, hl with | [_, _], _ => rfl⟩
  have d__law_due : Dfn K mg "_law_due" s__law_due ["_law_board", "_law_purse"] := ⟨f38, _, fun_mk (st := s__law_due) l38 c38 k38, PySem.W.mg_of X G a38, (fun_mk (st := s__law_due) l38 c38 k38).binds (ps := ["_law_board", "_law_purse"]) fun _ _ _ _ _ _ us hl => match us, hl with | [_, _], _ => rfl⟩
  have d__law_is_new : Dfn K mg "_law_is_new" s__law_is_new ["_law_till", "_law_board", "_law_purse"] := ⟨f39, _, fun_mk (st := s__law_is_new) l39 c39 k39, PySem.W.mg_of X G a39, (fun_mk (st := s__law_is_new) l39 c39 k39).binds (ps := ["_law_till", "_law_board", "_law_purse"]) fun _ _ _ _ _ _ us hl => match us, hl with | [_, _, _], _ => rfl⟩
  have d__law_odd : Dfn K mg "_law_odd" s__law_odd ["_law_deck_here"] := ⟨f40, _, fun_mk (st := s__law_odd) l40 c40 k40, PySem.W.mg_of X G a40, (fun_mk (st := s__law_odd) l40 c40 k40).binds (ps := ["_law_deck_here"]) fun _ _ _ _ _ _ us hl => match us, hl with | [_], _ => rfl⟩
  have d__law_begun : Dfn K mg "_law_begun" s__law_begun ["_law_deck_here", "_law_kinds"] := ⟨f41, _, fun_mk (st := s__law_begun) l41 c41 k41, PySem.W.mg_of X G a41, (fun_mk (st := s__law_begun) l41 c41 k41).binds (ps := ["_law_deck_here", "_law_kinds"]) fun _ _ _ _ _ _ us hl => match us, hl with | [_, _], _ => rfl⟩
  have v_LOOP : ∃ t, mg "LOOP" = some (.str "loop" t) := ⟨tk0, PySem.W.mg_of X G w0⟩
  have v_MAX_AMOUNT : ∃ t, mg "MAX_AMOUNT" = some (.int 30 t) := ⟨tk1, PySem.W.mg_of X G w1⟩
  have v_MAX_KINDS : ∃ t, mg "MAX_KINDS" = some (.int 4 t) := ⟨tk2, PySem.W.mg_of X G w2⟩
  have v_MAX_OFFERS : ∃ t, mg "MAX_OFFERS" = some (.int 40 t) := ⟨tk3, PySem.W.mg_of X G w3⟩
  have v_MAX_PURSE : ∃ t, mg "MAX_PURSE" = some (.int 1000000 t) := ⟨tk4, PySem.W.mg_of X G w4⟩
  have v_PRICES : ∃ t, mg "PRICES" = some (.str "prices" t) := ⟨tk5, PySem.W.mg_of X G w5⟩
  have l_Till : L2.Cls K A_Till := ⟨xl0_Till, xl1_Till, xl2_Till, xl3_Till⟩
  have m_BadBoard : mg "BadBoard" = some (.ref A_BadBoard) := PySem.W.mg_of X G xa_BadBoard
  have m_BadPurse : mg "BadPurse" = some (.ref A_BadPurse) := PySem.W.mg_of X G xa_BadPurse
  have o_Till_board : OFld K A_Till "board" := ⟨⟨xl0_Till, xl1_Till, xl2_Till, xl3_Till⟩, xo_Till_board⟩
  have o_Till_kept : OFld K A_Till "kept" := ⟨⟨xl0_Till, xl1_Till, xl2_Till, xl3_Till⟩, xo_Till_kept⟩
  have o_Till_loop : OFld K A_Till "loop" := ⟨⟨xl0_Till, xl1_Till, xl2_Till, xl3_Till⟩, xo_Till_loop⟩
  have o_Till_purse : OFld K A_Till "purse" := ⟨⟨xl0_Till, xl1_Till, xl2_Till, xl3_Till⟩, xo_Till_purse⟩
  have o_Till_standing : OFld K A_Till "standing" := ⟨⟨xl0_Till, xl1_Till, xl2_Till, xl3_Till⟩, xo_Till_standing⟩
  have o_Till_states : OFld K A_Till "states" := ⟨⟨xl0_Till, xl1_Till, xl2_Till, xl3_Till⟩, xo_Till_states⟩
  have o_Till_watching : OFld K A_Till "watching" := ⟨⟨xl0_Till, xl1_Till, xl2_Till, xl3_Till⟩, xo_Till_watching⟩
  have x_BadBoard : Xm.XOne l.prog K mg A_BadBoard "error" := Xm.xone_mk (prog := l.prog) Xm.bx_VE sh_BadBoard ⟨xr0_BadBoard, xr1_BadBoard, xr2_BadBoard, xr3_BadBoard, xr4_BadBoard, xr5_BadBoard, xr6_BadBoard, xr7_BadBoard, xr8_BadBoard, xr9_BadBoard, xr10_BadBoard, xr11_BadBoard, xr12_BadBoard⟩ (PySem.W.mg_none_of X G xz_super) xtop_BadBoard xhi_BadBoard xlI_BadBoard xco_BadBoard xlc_BadBoard xv2_BadBoard xfl_BadBoard xlcc_BadBoard xt0_BadBoard
  have x_BadPurse : Xm.XOne l.prog K mg A_BadPurse "value" := Xm.xone_mk (prog := l.prog) Xm.bx_VE sh_BadPurse ⟨xr0_BadPurse, xr1_BadPurse, xr2_BadPurse, xr3_BadPurse, xr4_BadPurse, xr5_BadPurse, xr6_BadPurse, xr7_BadPurse, xr8_BadPurse, xr9_BadPurse, xr10_BadPurse, xr11_BadPurse, xr12_BadPurse⟩ (PySem.W.mg_none_of X G xz_super) xtop_BadPurse xhi_BadPurse xlI_BadPurse xco_BadPurse xlc_BadPurse xv2_BadPurse xfl_BadPurse xlcc_BadPurse xt0_BadPurse
  have m_NoVersion : mg "NoVersion" = some (.ref A_NoVersion) := PySem.W.mg_of X G xa_NoVersion
  have x_NoVersion : Xm.XOne l.prog K mg A_NoVersion "value" := Xm.xone_mk (prog := l.prog) Xm.bx_LE sh_NoVersion ⟨xr0_NoVersion, xr1_NoVersion, xr2_NoVersion, xr3_NoVersion, xr4_NoVersion, xr5_NoVersion, xr6_NoVersion, xr7_NoVersion, xr8_NoVersion, xr9_NoVersion, xr10_NoVersion, xr11_NoVersion, xr12_NoVersion⟩ (PySem.W.mg_none_of X G xz_super) xtop_NoVersion xhi_NoVersion xlI_NoVersion xco_NoVersion xlc_NoVersion xv2_NoVersion xfl_NoVersion xlcc_NoVersion xt0_NoVersion
  have z_dict : mg "dict" = none := PySem.W.mg_none_of X G xz_dict
  have p_Till : SpcC K A_Till := ⟨xp0_Till, xp1_Till, by simp only [List.all_cons, List.all_nil, Bool.and_true, Bool.and_self, xp2_int_Till, xp2_bool_Till, xp2_str_Till, xp2_tuple_Till, xp2_list_Till, xp2_NoneType_Till, xp2_dict_Till], ⟨⟨xl0_Till, xl1_Till, xl2_Till, xl3_Till⟩, xi0_Till, xi1_Till, xi2_Till, xi3_Till, xi4_Till⟩⟩
  have f_BadBoard_error : XFld K mg "BadBoard" "error" := xfld_mk (PySem.W.mg_of X G xa_BadBoard) ⟨xc0_BadBoard, xc1_BadBoard, xc2_BadBoard, xc3_BadBoard⟩ xn_BadBoard_error
  have f_BadPurse_value : XFld K mg "BadPurse" "value" := xfld_mk (PySem.W.mg_of X G xa_BadPurse) ⟨xc0_BadPurse, xc1_BadPurse, xc2_BadPurse, xc3_BadPurse⟩ xn_BadPurse_value
  have m_Till : mg "Till" = some (.ref A_Till) := PySem.W.mg_of X G xa_Till
  have s_BadBoard_BadBoard : XSub K mg "BadBoard" "BadBoard" true := xsub_mk (PySem.W.mg_of X G xa_BadBoard) (PySem.W.mg_of X G xa_BadBoard) xs_BadBoard_BadBoard
  have s_BadPurse_BadBoard : XSub K mg "BadPurse" "BadBoard" false := xsub_mk (PySem.W.mg_of X G xa_BadPurse) (PySem.W.mg_of X G xa_BadBoard) xs_BadPurse_BadBoard
  have s_BadPurse_BadPurse : XSub K mg "BadPurse" "BadPurse" true := xsub_mk (PySem.W.mg_of X G xa_BadPurse) (PySem.W.mg_of X G xa_BadPurse) xs_BadPurse_BadPurse
  have cn_Till_MOST_EDITS : ∃ u, Con K A_Till "MOST_EDITS" (.int 60) u := ⟨_, xcn_Till_MOST_EDITS, ⟨_, rfl⟩, xcg_Till_MOST_EDITS, by decide⟩
  have cr_Till : ClX.CRead K A_Till (.type "type") := ⟨xcr0_Till, xcr1_Till⟩
  have cv_Till_MOST_EDITS : ∃ u, ClX.CVal K A_Till (.type "type") "MOST_EDITS" (.int 60) u := ⟨_, xcv_Till_MOST_EDITS, ⟨_, rfl⟩⟩
  have n_Till : C8.InsC K A_Till := ⟨⟨xl0_Till, xl1_Till, xl2_Till, xl3_Till⟩, xi0_Till, xi1_Till, xi2_Till, xi3_Till, xi4_Till⟩
  refine ⟨PySem.W.fnOf "law" "law" (defArgs s_law) (defBody s_law) (defScope s_law) .none kV42 dc42 pm42 an42 cd42 ct42, fun s v => .of_eq rfl, fun base _ _ => ?_⟩
  have k__law_deck := ok__law_deck (P := l.prog) (w := w) (base := base) d__law_deck B
  have k__law_draw := ok__law_draw (P := l.prog) (w := w) (base := base) d__law_draw B
  have k__law_one := ok__law_one (P := l.prog) (w := w) (base := base) d__law_one B k__law_draw
  have k_is_whole := ok_is_whole (P := l.prog) (w := w) (base := base) d_is_whole B
  have k_is_between := ok_is_between (P := l.prog) (w := w) (base := base) d_is_between B k_is_whole
  have k_divisor := ok_divisor (P := l.prog) (w := w) (base := base) d_divisor B
  have k_lowest := ok_lowest (P := l.prog) (w := w) (base := base) d_lowest B k_divisor
  have k_ratio_of := ok_ratio_of (P := l.prog) (w := w) (base := base) d_ratio_of B k_lowest
  have k_gains := ok_gains (P := l.prog) (w := w) (base := base) d_gains B k_ratio_of
  have k__law_is_between := ok__law_is_between (P := l.prog) (w := w) (base := base) d__law_is_between B
  have k_is_offer := ok_is_offer (P := l.prog) (w := w) (base := base) d_is_offer B v_MAX_AMOUNT k_is_between
  have k_board_error := ok_board_error (P := l.prog) (w := w) (base := base) d_board_error B v_MAX_KINDS v_MAX_OFFERS k_is_between k_is_offer
  have k_is_purse := ok_is_purse (P := l.prog) (w := w) (base := base) d_is_purse B v_MAX_PURSE k_is_between
  have k__law_is_offer := ok__law_is_offer (P := l.prog) (w := w) (base := base) d__law_is_offer B k__law_is_between
  have k__law_board_error := ok__law_board_error (P := l.prog) (w := w) (base := base) d__law_board_error B k__law_is_between k__law_is_offer
  have k__law_is_purse := ok__law_is_purse (P := l.prog) (w := w) (base := base) d__law_is_purse B k__law_is_between
  have k_giving := ok_giving (P := l.prog) (w := w) (base := base) d_giving B
  have k_is_greater := ok_is_greater (P := l.prog) (w := w) (base := base) d_is_greater B
  have k_best_steps := ok_best_steps (P := l.prog) (w := w) (base := base) d_best_steps B k_giving k_is_greater k_ratio_of
  have k_end_of := ok_end_of (P := l.prog) (w := w) (base := base) d_end_of B
  have k_trails_from := ok_trails_from (P := l.prog) (w := w) (base := base) d_trails_from B k_best_steps
  have k_loops_at := ok_loops_at (P := l.prog) (w := w) (base := base) d_loops_at B k_trails_from k_best_steps k_end_of
  have k_gaining_loop := ok_gaining_loop (P := l.prog) (w := w) (base := base) d_gaining_loop B k_loops_at k_gains
  have k_scaled := ok_scaled (P := l.prog) (w := w) (base := base) d_scaled B k_divisor
  have k_price_of := ok_price_of (P := l.prog) (w := w) (base := base) d_price_of B k_trails_from k_ratio_of k_is_greater
  have k_worths := ok_worths (P := l.prog) (w := w) (base := base) d_worths B v_LOOP v_PRICES k_gaining_loop k_scaled k_price_of
  have k_loop_of := ok_loop_of (P := l.prog) (w := w) (base := base) d_loop_of B k_worths
  have k_Till___init__ := ok_Till___init__ (P := l.prog) (w := w) (base := base) l_Till m_BadBoard m_BadPurse o_Till_board o_Till_kept o_Till_loop o_Till_purse o_Till_standing o_Till_states o_Till_watching x_BadBoard x_BadPurse d_Till___init__ B k_board_error k_loop_of k_is_purse
  have k_Till_state_at := ok_Till_state_at (P := l.prog) (w := w) (base := base) l_Till m_NoVersion o_Till_board o_Till_kept o_Till_loop o_Till_purse o_Till_standing o_Till_states o_Till_watching x_NoVersion d_Till_state_at B k_is_between
  have k_Till_state := ok_Till_state (P := l.prog) (w := w) (base := base) l_Till d_Till_state B k_Till_state_at
  have k_Till_edits := ok_Till_edits (P := l.prog) (w := w) (base := base) l_Till o_Till_board o_Till_kept o_Till_loop o_Till_purse o_Till_standing o_Till_states o_Till_watching d_Till_edits B
  have k_Till___len__ := ok_Till___len__ (P := l.prog) (w := w) (base := base) o_Till_standing d_Till___len__ B
  have k_Till___str__ := ok_Till___str__ (P := l.prog) (w := w) (base := base) l_Till o_Till_board o_Till_kept o_Till_loop o_Till_purse o_Till_standing o_Till_states o_Till_watching d_Till___str__ B
  have k__law_put := ok__law_put (P := l.prog) (w := w) (base := base) d__law_put B
  have k__law_gains := ok__law_gains (P := l.prog) (w := w) (base := base) z_dict d__law_gains B k__law_put
  have k__law_is_loop := ok__law_is_loop (P := l.prog) (w := w) (base := base) d__law_is_loop B k__law_is_between
  have k__law_is_seen := ok__law_is_seen (P := l.prog) (w := w) (base := base) l_Till o_Till_board o_Till_kept o_Till_loop o_Till_purse o_Till_standing o_Till_states o_Till_watching p_Till d__law_is_seen B k_Till_state k_Till_edits k_Till___str__ k_Till___len__
  have k__law_made := ok__law_made (P := l.prog) (w := w) (base := base) f_BadBoard_error f_BadPurse_value l_Till m_BadBoard m_BadPurse m_Till s_BadBoard_BadBoard s_BadPurse_BadBoard s_BadPurse_BadPurse d__law_made B k_Till___init__
  have k__law_due := ok__law_due (P := l.prog) (w := w) (base := base) d__law_due B k__law_board_error k__law_is_purse
  have k__law_is_new := ok__law_is_new (P := l.prog) (w := w) (base := base) l_Till o_Till_loop d__law_is_new B k__law_gains k__law_is_loop k__law_is_seen k_Till_state
  have k__law_odd := ok__law_odd (P := l.prog) (w := w) (base := base) d__law_odd B k__law_one
  have k__law_begun := ok__law_begun (P := l.prog) (w := w) (base := base) d__law_begun B k__law_draw
  exact ok_law (P := l.prog) (w := w) (base := base) (fun_mk (st := s_law) l42 c42 k42) B cn_Till_MOST_EDITS cr_Till cv_Till_MOST_EDITS l_Till m_Till n_Till o_Till_board o_Till_kept o_Till_loop o_Till_purse o_Till_standing o_Till_states o_Till_watching p_Till k__law_deck k_Till___init__ k__law_begun k__law_one k__law_made k__law_odd k__law_due k_Till___str__ k__law_draw k__law_is_new
end Zk90

open PySem PySem.W PyProof.Rows in
set_option maxRecDepth 100000 in
set_option maxHeartbeats 0 in
theorem PySem.Challenge.cw_smallchange_k90_tills_made_holds : PySem.Challenge.rw_smallchange_k90_tills_made.Holds := by
  refine HS.pre ?_
  k_fill
  letI : L3.Tbs := ⟨[]⟩
  refine L3.walkG (k := 13) (x := "_law_script") (l := PySem.Challenge.rw_smallchange_k90_tills_made) rfl rfl rfl ⟨rfl, by decide, by decide⟩ (fun w h Y => PySem.W.kIn_of Y) ?F
  case F =>
    intro w mg fa h KX G hmg
    refine' Zk90.all_mk KX G hmg ?a0 ?l0 ?c0 ?k0 ?a1 ?l1 ?c1 ?k1 ?a2 ?l2 ?c2 ?k2 ?a3 ?l3 ?c3 ?k3 ?a4 ?l4 ?c4 ?k4 ?a5 ?l5 ?c5 ?k5 ?a6 ?l6 ?c6 ?k6 ?a7 ?l7 ?c7 ?k7 ?a8 ?l8 ?c8 ?k8 ?a9 ?l9 ?c9 ?k9 ?a10 ?l10 ?c10 ?k10 ?a11 ?l11 ?c11 ?k11 ?a12 ?l12 ?c12 ?k12 ?a13 ?l13 ?c13 ?k13 ?a14 ?l14 ?c14 ?k14 ?a15 ?l15 ?c15 ?k15 ?a16 ?l16 ?c16 ?k16 ?a17 ?l17 ?c17 ?k17 ?a18 ?l18 ?c18 ?k18 ?a19 ?l19 ?c19 ?k19 ?a20 ?l20 ?c20 ?k20 ?a21 ?l21 ?c21 ?k21 ?a22 ?l22 ?c22 ?k22 ?a23 ?l23 ?c23 ?k23 ?a24 ?l24 ?c24 ?k24 ?a25 ?l25 ?c25 ?k25 ?a26 ?l26 ?c26 ?k26 ?a27 ?l27 ?c27 ?k27 ?i27 ?a28 ?l28 ?c28 ?k28 ?i28 ?a29 ?l29 ?c29 ?k29 ?i29 ?n29 ?a30 ?l30 ?c30 ?k30 ?i30 ?a31 ?l31 ?c31 ?k31 ?i31 ?a32 ?l32 ?c32 ?k32 ?i32 ?a33 ?l33 ?c33 ?k33 ?a34 ?l34 ?c34 ?k34 ?a35 ?l35 ?c35 ?k35 ?a36 ?l36 ?c36 ?k36 ?a37 ?l37 ?c37 ?k37 ?a38 ?l38 ?c38 ?k38 ?a39 ?l39 ?c39 ?k39 ?a40 ?l40 ?c40 ?k40 ?a41 ?l41 ?c41 ?k41 ?a42 ?l42 ?c42 ?k42 ?w0 ?w1 ?w2 ?w3 ?w4 ?w5 ?xa_Till ?xl0_Till ?xl1_Till ?xl2_Till ?xl3_Till ?xo_Till_kept ?xo_Till_board ?xo_Till_purse ?xo_Till_loop ?xo_Till_states ?xo_Till_standing ?xo_Till_watching ?xk0_Till ?xk1_Till ?xi0_Till ?xi1_Till ?xi2_Till ?xi3_Till ?xi4_Till ?xcv_Till_MOST_EDITS ?xcn_Till_MOST_EDITS ?xcg_Till_MOST_EDITS ?xcr0_Till ?xcr1_Till ?xp0_Till ?xp1_Till ?xp2_int_Till ?xp2_bool_Till ?xp2_str_Till ?xp2_tuple_Till ?xp2_list_Till ?xp2_NoneType_Till ?xp2_dict_Till ?xne_Till ?xrm_Till ?xkt_Till ?xkc_int_Till ?xkc_bool_Till ?xkc_str_Till ?xkc_tuple_Till ?xkc_list_Till ?xkc_NoneType_Till ?xkc_dict_Till ?xa_NoVersion ?xz_super ?xhi_NoVersion ?xlI_NoVersion ?xco_NoVersion ?xlc_NoVersion ?xlcc_NoVersion ?xt0_NoVersion ?xv2_NoVersion ?xfl_NoVersion ?xtop_NoVersion ?xr0_NoVersion ?xr1_NoVersion ?xr2_NoVersion ?xr3_NoVersion ?xr4_NoVersion ?xr5_NoVersion ?xr6_NoVersion ?xr7_NoVersion ?xr8_NoVersion ?xr9_NoVersion ?xr10_NoVersion ?xr11_NoVersion ?xr12_NoVersion ?xa_BadBoard ?xhi_BadBoard ?xlI_BadBoard ?xco_BadBoard ?xlc_BadBoard ?xlcc_BadBoard ?xt0_BadBoard ?xv2_BadBoard ?xfl_BadBoard ?xtop_BadBoard ?xr0_BadBoard ?xr1_BadBoard ?xr2_BadBoard ?xr3_BadBoard ?xr4_BadBoard ?xr5_BadBoard ?xr6_BadBoard ?xr7_BadBoard ?xr8_BadBoard ?xr9_BadBoard ?xr10_BadBoard ?xr11_BadBoard ?xr12_BadBoard ?xa_BadPurse ?xhi_BadPurse ?xlI_BadPurse ?xco_BadPurse ?xlc_BadPurse ?xlcc_BadPurse ?xt0_BadPurse ?xv2_BadPurse ?xfl_BadPurse ?xtop_BadPurse ?xr0_BadPurse ?xr1_BadPurse ?xr2_BadPurse ?xr3_BadPurse ?xr4_BadPurse ?xr5_BadPurse ?xr6_BadPurse ?xr7_BadPurse ?xr8_BadPurse ?xr9_BadPurse ?xr10_BadPurse ?xr11_BadPurse ?xr12_BadPurse ?xz_dict ?xs_BadBoard_BadBoard ?xc0_BadBoard ?xc1_BadBoard ?xc2_BadBoard ?xc3_BadBoard ?xn_BadBoard_error ?xs_BadPurse_BadBoard ?xs_BadPurse_BadPurse ?xc0_BadPurse ?xc1_BadPurse ?xc2_BadPurse ?xc3_BadPurse ?xn_BadPurse_value ?z_len ?z_abs ?z_int ?z_max ?z_min ?z_tuple ?z_list ?z_range ?z_sum ?z_all ?z_any ?z_repr ?z_sorted ?z_set ?z_isinstance ?z_enumerate ?z_zip ?z_str ?z_divmod ?z_bool
    (case xa_Till => k_is)
    (case xa_NoVersion => k_is)
    (case xa_BadBoard => k_is)
    (case xa_BadPurse => k_is)
    (case a0 => k_is)
    (case l0 => k_is)
    (case c0 => k_is)
    (case k0 => k_is)
    (case a1 => k_is)
    (case l1 => k_is)
    (case c1 => k_is)
    (case k1 => k_is)
    (case a2 => k_is)
    (case l2 => k_is)
    (case c2 => k_is)
    (case k2 => k_is)
    (case a3 => k_is)
    (case l3 => k_is)
    (case c3 => k_is)
    (case k3 => k_is)
    (case a4 => k_is)
    (case l4 => k_is)
    (case c4 => k_is)
    (case k4 => k_is)
    (case a5 => k_is)
    (case l5 => k_is)
    (case c5 => k_is)
    (case k5 => k_is)
    (case a6 => k_is)
    (case l6 => k_is)
    (case c6 => k_is)
    (case k6 => k_is)
    (case a7 => k_is)
    (case l7 => k_is)
    (case c7 => k_is)
    (case k7 => k_is)
    (case a8 => k_is)
    (case l8 => k_is)
    (case c8 => k_is)
    (case k8 => k_is)
    (case a9 => k_is)
    (case l9 => k_is)
    (case c9 => k_is)
    (case k9 => k_is)
    (case a10 => k_is)
    (case l10 => k_is)
    (case c10 => k_is)
    (case k10 => k_is)
    (case a11 => k_is)
    (case l11 => k_is)
    (case c11 => k_is)
    (case k11 => k_is)
    (case a12 => k_is)
    (case l12 => k_is)
    (case c12 => k_is)
    (case k12 => k_is)
    (case a13 => k_is)
    (case l13 => k_is)
    (case c13 => k_is)
    (case k13 => k_is)
    (case a14 => k_is)
    (case l14 => k_is)
    (case c14 => k_is)
    (case k14 => k_is)
    (case a15 => k_is)
    (case l15 => k_is)
    (case c15 => k_is)
    (case k15 => k_is)
    (case a16 => k_is)
    (case l16 => k_is)
    (case c16 => k_is)
    (case k16 => k_is)
    (case a17 => k_is)
    (case l17 => k_is)
    (case c17 => k_is)
    (case k17 => k_is)
    (case a18 => k_is)
    (case l18 => k_is)
    (case c18 => k_is)
    (case k18 => k_is)
    (case a19 => k_is)
    (case l19 => k_is)
    (case c19 => k_is)
    (case k19 => k_is)
    (case a20 => k_is)
    (case l20 => k_is)
    (case c20 => k_is)
    (case k20 => k_is)
    (case a21 => k_is)
    (case l21 => k_is)
    (case c21 => k_is)
    (case k21 => k_is)
    (case a22 => k_is)
    (case l22 => k_is)
    (case c22 => k_is)
    (case k22 => k_is)
    (case a23 => k_is)
    (case l23 => k_is)
    (case c23 => k_is)
    (case k23 => k_is)
    (case a24 => k_is)
    (case l24 => k_is)
    (case c24 => k_is)
    (case k24 => k_is)
    (case a25 => k_is)
    (case l25 => k_is)
    (case c25 => k_is)
    (case k25 => k_is)
    (case a26 => k_is)
    (case l26 => k_is)
    (case c26 => k_is)
    (case k26 => k_is)
    (case a27 => k_is)
    (case l27 => k_is)
    (case c27 => k_is)
    (case k27 => k_is)
    (case i27 => k_is)
    (case a28 => k_is)
    (case l28 => k_is)
    (case c28 => k_is)
    (case k28 => k_is)
    (case i28 => k_is)
    (case a29 => k_is)
    (case l29 => k_is)
    (case c29 => k_is)
    (case k29 => k_is)
    (case i29 => k_is)
    (case n29 => k_is)
    (case a30 => k_is)
    (case l30 => k_is)
    (case c30 => k_is)
    (case k30 => k_is)
    (case i30 => k_is)
    (case a31 => k_is)
    (case l31 => k_is)
    (case c31 => k_is)
    (case k31 => k_is)
    (case i31 => k_is)
    (case a32 => k_is)
    (case l32 => k_is)
    (case c32 => k_is)
    (case k32 => k_is)
    (case i32 => k_is)
    (case a33 => k_is)
    (case l33 => k_is)
    (case c33 => k_is)
    (case k33 => k_is)
    (case a34 => k_is)
    (case l34 => k_is)
    (case c34 => k_is)
    (case k34 => k_is)
    (case a35 => k_is)
    (case l35 => k_is)
    (case c35 => k_is)
    (case k35 => k_is)
    (case a36 => k_is)
    (case l36 => k_is)
    (case c36 => k_is)
    (case k36 => k_is)
    (case a37 => k_is)
    (case l37 => k_is)
    (case c37 => k_is)
    (case k37 => k_is)
    (case a38 => k_is)
    (case l38 => k_is)
    (case c38 => k_is)
    (case k38 => k_is)
    (case a39 => k_is)
    (case l39 => k_is)
    (case c39 => k_is)
    (case k39 => k_is)
    (case a40 => k_is)
    (case l40 => k_is)
    (case c40 => k_is)
    (case k40 => k_is)
    (case a41 => k_is)
    (case l41 => k_is)
    (case c41 => k_is)
    (case k41 => k_is)
    (case a42 => k_is)
    (case l42 => k_is)
    (case c42 => k_is)
    (case k42 => k_is)
    (case w0 => k_is)
    (case w1 => k_is)
    (case w2 => k_is)
    (case w3 => k_is)
    (case w4 => k_is)
    (case w5 => k_is)
    (case xl0_Till => first | k_is | kernel_rfl)
    (case xl1_Till => first | k_is | kernel_rfl)
    (case xl2_Till => first | k_is | kernel_rfl)
    (case xl3_Till => first | k_is | kernel_rfl)
    (case xo_Till_kept => k_is)
    (case xo_Till_board => k_is)
    (case xo_Till_purse => k_is)
    (case xo_Till_loop => k_is)
    (case xo_Till_states => k_is)
    (case xo_Till_standing => k_is)
    (case xo_Till_watching => k_is)
    (case xk0_Till => first | k_is | kernel_rfl)
    (case xk1_Till => k_is)
    (case xi0_Till => k_is)
    (case xi1_Till => k_is)
    (case xi2_Till => k_is)
    (case xi3_Till => k_is)
    (case xi4_Till => kit_is)
    (case xcv_Till_MOST_EDITS => k_is)
    (case xcn_Till_MOST_EDITS => k_is)
    (case xcg_Till_MOST_EDITS => first | k_is | kernel_rfl)
    (case xcr0_Till => k_is)
    (case xcr1_Till => k_is)
    (case xp0_Till => k_is)
    (case xp1_Till => k_is)
    (case xp2_int_Till => k_is)
    (case xp2_bool_Till => k_is)
    (case xp2_str_Till => k_is)
    (case xp2_tuple_Till => k_is)
    (case xp2_list_Till => k_is)
    (case xp2_NoneType_Till => k_is)
    (case xp2_dict_Till => k_is)
    (case xne_Till => k_is)
    (case xrm_Till => k_is)
    (case xkt_Till => kit_is)
    (case xkc_int_Till => kit_is)
    (case xkc_bool_Till => kit_is)
    (case xkc_str_Till => kit_is)
    (case xkc_tuple_Till => kit_is)
    (case xkc_list_Till => kit_is)
    (case xkc_NoneType_Till => kit_is)
    (case xkc_dict_Till => kit_is)
    (case xz_super => k_is)
    (case xhi_NoVersion => k_is)
    (case xlI_NoVersion => k_is)
    (case xco_NoVersion => first | k_is | kernel_rfl)
    (case xlc_NoVersion => k_is)
    (case xlcc_NoVersion => k_is)
    (case xt0_NoVersion => first | k_is | kernel_rfl)
    (case xv2_NoVersion => rfl)
    (case xfl_NoVersion => kernel_rfl)
    (case xtop_NoVersion => kernel_rfl)
    (case xr0_NoVersion => kx_is)
    (case xr1_NoVersion => k_is)
    (case xr2_NoVersion => kernel_rfl)
    (case xr3_NoVersion => k_is)
    (case xr4_NoVersion => k_is)
    (case xr5_NoVersion => ks_is)
    (case xr6_NoVersion => k_is)
    (case xr7_NoVersion => k_is)
    (case xr8_NoVersion => kx_is)
    (case xr9_NoVersion => k_is)
    (case xr10_NoVersion => k_is)
    (case xr11_NoVersion => k_is)
    (case xr12_NoVersion => k_is)
    (case xhi_BadBoard => k_is)
    (case xlI_BadBoard => k_is)
    (case xco_BadBoard => first | k_is | kernel_rfl)
    (case xlc_BadBoard => k_is)
    (case xlcc_BadBoard => k_is)
    (case xt0_BadBoard => first | k_is | kernel_rfl)
    (case xv2_BadBoard => rfl)
    (case xfl_BadBoard => kernel_rfl)
    (case xtop_BadBoard => kernel_rfl)
    (case xr0_BadBoard => kx_is)
    (case xr1_BadBoard => k_is)
    (case xr2_BadBoard => kernel_rfl)
    (case xr3_BadBoard => k_is)
    (case xr4_BadBoard => k_is)
    (case xr5_BadBoard => ks_is)
    (case xr6_BadBoard => k_is)
    (case xr7_BadBoard => k_is)
    (case xr8_BadBoard => kx_is)
    (case xr9_BadBoard => k_is)
    (case xr10_BadBoard => k_is)
    (case xr11_BadBoard => k_is)
    (case xr12_BadBoard => k_is)
    (case xhi_BadPurse => k_is)
    (case xlI_BadPurse => k_is)
    (case xco_BadPurse => first | k_is | kernel_rfl)
    (case xlc_BadPurse => k_is)
    (case xlcc_BadPurse => k_is)
    (case xt0_BadPurse => first | k_is | kernel_rfl)
    (case xv2_BadPurse => rfl)
    (case xfl_BadPurse => kernel_rfl)
    (case xtop_BadPurse => kernel_rfl)
    (case xr0_BadPurse => kx_is)
    (case xr1_BadPurse => k_is)
    (case xr2_BadPurse => kernel_rfl)
    (case xr3_BadPurse => k_is)
    (case xr4_BadPurse => k_is)
    (case xr5_BadPurse => ks_is)
    (case xr6_BadPurse => k_is)
    (case xr7_BadPurse => k_is)
    (case xr8_BadPurse => kx_is)
    (case xr9_BadPurse => k_is)
    (case xr10_BadPurse => k_is)
    (case xr11_BadPurse => k_is)
    (case xr12_BadPurse => k_is)
    (case xz_dict => k_is)
    (case xs_BadBoard_BadBoard => kernel_rfl)
    (case xc0_BadBoard => k_is)
    (case xc1_BadBoard => k_is)
    (case xc2_BadBoard => k_is)
    (case xc3_BadBoard => k_is)
    (case xn_BadBoard_error => k_is)
    (case xs_BadPurse_BadBoard => kernel_rfl)
    (case xs_BadPurse_BadPurse => kernel_rfl)
    (case xc0_BadPurse => k_is)
    (case xc1_BadPurse => k_is)
    (case xc2_BadPurse => k_is)
    (case xc3_BadPurse => k_is)
    (case xn_BadPurse_value => k_is)
    (case z_len => k_is)
    (case z_abs => k_is)
    (case z_int => k_is)
    (case z_max => k_is)
    (case z_min => k_is)
    (case z_tuple => k_is)
    (case z_list => k_is)
    (case z_range => k_is)
    (case z_sum => k_is)
    (case z_all => k_is)
    (case z_any => k_is)
    (case z_repr => k_is)
    (case z_sorted => k_is)
    (case z_set => k_is)
    (case z_isinstance => k_is)
    (case z_enumerate => k_is)
    (case z_zip => k_is)
    (case z_str => k_is)
    (case z_divmod => k_is)
    (case z_bool => k_is)
