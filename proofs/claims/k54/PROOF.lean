import PyProof.Rows.All
import Wide.All
import OpenK.AllK
import Wide.FinOn
import HandS.ForMost
import HandS.Wide
import HandS.Flow
import HandS.Property
import HandS.SortInts
import HandS.SortKw
import HandS.EndBits
import HandS.Lambda
import KE.SortKeyHeap
import HandS.ForExc
import HandS.SetFor
import HandS.IsInst
import HandS.Conv
import HandS.More
import HandS.Style
import HandS.RevRange
import HandS.Codes
import HandS.RevTup
import HandS.Rev
import PyProof.CollectIter
import PyProof.FactsAll.range_iterator_1
import HandS.Iter
import HandS.NoneIn
import HandS.New
import KE.DataMinMax
import KE.SortData
import PyProof.ZipIter
import PyProof.CollectWalk
import HandS.Zip
import HandS.TupSets
import PyProof.MaxThree
import HandS.EndTab
import HandS.ExcIs
import HandS.Defaults
import HandS.CallSlots
import HandS.Text
import HandS.FStr
import PySem.Challenge.RW_fewestwait_k54_whole_least_sum_of_all_di

set_option Elab.async false
set_option linter.all false
set_option maxRecDepth 100000
set_option maxHeartbeats 4000000
/-! A frame of value semantics over the hand layer: plain data D, slots Sl, the state's relation Res, the canonical readings tM (expressions), tS (statements). -/
namespace FW
open PySem L2

/-- plain data -/
inductive D where
  | non | bl (b : Bool) | int (i : Int) | str (x : Str)
  | lst (xs : List D) | scr (xs : List D) | tup (xs : List D) | obj (c : Str) (fs : List (Str × D))
  | dct (kvs : List (Key × D)) | exc (c : Str) (z : Option Int)
/-- what a slot holds: nothing known; frozen data; an owned list; an owned dict; an owned object -/
inductive Sl where
  | no | fz (d : D) | ow (xs : List D) | dk (kvs : List (Key × D)) | ob (c : Str) (fs : List (Str × Sl)) | nl (ss : List Sl) | nt (ss : List Sl)
/-- an expression's result: frozen data, a new owned thing, what slot i owns -/
inductive Rv where
  | val (d : D) | own (s : Sl) | bor (i : Nat)
def Rv.sl : Rv → Sl
  | .val d => .fz d
  | .own s => s
  | .bor _ => .no

/-- an exception of the class at C, its dict at od -/
def ExcO (a C : Addr) (od : Option Addr) : HO := .ext fun h => ∃ oe, h.get? a = some oe ∧ oe.cls = .ref C ∧ oe.dict = od ∧ ∃ vs, oe.data = .fields vs
section
variable (K : PySem.W.Frag) (mg : Str → Option Value) (G : Hp)
mutual
inductive Rep : D → V → Prop
  | non : Rep .non .non
  | bl (b : Bool) : Rep (.bl b) (.bl b)
  | int (i : Int) : Rep (.int i) (.int i)
  | str (x : Str) : Rep (.str x) (.str x)
  | lst {a : Addr} {vs : List V} {ds : List D} : Rd G a (.lst vs) → Reps ds vs → Rep (.lst ds) (.ref a)
  | scr {a : Addr} {vs : List V} {ds : List D} : SqL K G a vs → Reps ds vs → Rep (.scr ds) (.ref a)
  | tup {a : Addr} {vs : List V} {ds : List D} : SqT K G a vs → Reps ds vs → Rep (.tup ds) (.ref a)
  | obj {a C dx : Addr} {fvs : List (Str × V)} {c : Str} {fs : List (Str × D)} : mg c = some (.ref C) → G a = some (.ins C dx fvs) → RepF fs fvs → Rep (.obj c fs) (.ref a)
  | dct {a : Addr} {kvs : List (Key × V)} {kds : List (Key × D)} : Rd G a (.dK kvs) → RepK kds kvs → Rep (.dct kds) (.ref a)
  | exc {a C : Addr} {c : Str} : mg c = some (.ref C) → G a = some (ExcO a C none) → Rep (.exc c none) (.ref a)
  | exz {a C d : Addr} {c : Str} {z : Int} : mg c = some (.ref C) → G a = some (ExcO a C (some d)) → G d = some (.xd [("at", .int z)]) → Rep (.exc c (some z)) (.ref a)
inductive Reps : List D → List V → Prop
  | nil : Reps [] []
  | cons {d : D} {v : V} {ds : List D} {vs : List V} : Rep d v → Reps ds vs → Reps (d :: ds) (v :: vs)
inductive RepF : List (Str × D) → List (Str × V) → Prop
  | nil : RepF [] []
  | cons {f : Str} {d : D} {v : V} {ds : List (Str × D)} {vs : List (Str × V)} : Rep d v → RepF ds vs → RepF ((f, d) :: ds) ((f, v) :: vs)
inductive RepK : List (Key × D) → List (Key × V) → Prop
  | nil : RepK [] []
  | cons {k : Key} {d : D} {v : V} {ds : List (Key × D)} {vs : List (Key × V)} : Rep d v → RepK ds vs → RepK ((k, d) :: ds) ((k, v) :: vs)
end
variable (H : Hp)
mutual
inductive Own : Sl → V → List Addr → Prop
  | fz {d : D} {v : V} : Rep K mg G d v → Own (.fz d) v []
  | ow {a : Addr} {vs : List V} {ds : List D} : H a = some (.lst vs) → Reps K mg G ds vs → Own (.ow ds) (.ref a) [a]
  | dk {a : Addr} {kvs : List (Key × V)} {kds : List (Key × D)} : H a = some (.dK kvs) → RepK K mg G kds kvs → Own (.dk kds) (.ref a) [a]
  | ob {a C dx : Addr} {fvs : List (Str × V)} {c : Str} {fs : List (Str × Sl)} {As : List Addr} : mg c = some (.ref C) → H a = some (.ins C dx fvs) → OwnF fs fvs As → Own (.ob c fs) (.ref a) (a :: As)
  | nl {a : Addr} {vs : List V} {ss : List Sl} {As : List Addr} : H a = some (.lst vs) → OwnL ss vs As → Own (.nl ss) (.ref a) (a :: As)
  | nt {a : Addr} {vs : List V} {ss : List Sl} {As : List Addr} : H a = some (.tup vs) → OwnL ss vs As → Own (.nt ss) (.ref a) (a :: As)
inductive OwnF : List (Str × Sl) → List (Str × V) → List Addr → Prop
  | nil : OwnF [] [] []
  | cons {f : Str} {s : Sl} {v : V} {A As : List Addr} {fs : List (Str × Sl)} {vs : List (Str × V)} : Own s v A → OwnF fs vs As → OwnF ((f, s) :: fs) ((f, v) :: vs) (A ++ As)
inductive OwnL : List Sl → List V → List Addr → Prop
  | nil : OwnL [] [] []
  | cons {s : Sl} {v : V} {A As : List Addr} {ss : List Sl} {vs : List V} : Own s v A → OwnL ss vs As → OwnL (s :: ss) (v :: vs) (A ++ As)
end
end

section
variable {K : PySem.W.Frag} {mg : Str → Option Value} {G G' : Hp}
theorem same_sqT {H H' : Hp} {a : Addr} {xs : List V} (e : Same H H') (h : SqT K H a xs) : SqT K H' a xs := by
  rcases h with (h | ⟨o, h⟩) | h
  · exact .inl (.inl (e _ _ h))
  · exact .inl (.inr ⟨o, e _ _ h⟩)
  · exact .inr h
theorem same_rd {H H' : Hp} {a : Addr} {u : HO} (e : Same H H') (h : Rd H a u) : Rd H' a u := by
  rcases h with h | ⟨o, h⟩
  · exact .inl (e _ _ h)
  · exact .inr ⟨o, e _ _ h⟩
mutual
theorem Rep.mono (e : Same G G') : ∀ {d : D} {v : V}, Rep K mg G d v → Rep K mg G' d v
  | _, _, .non => .non
  | _, _, .bl b => .bl b
  | _, _, .int i => .int i
  | _, _, .str x => .str x
  | _, _, .lst h r => .lst (same_rd e h) (Reps.mono e r)
  | _, _, .scr h r => .scr (e.seq h) (Reps.mono e r)
  | _, _, .tup h r => .tup (same_sqT e h) (Reps.mono e r)
  | _, _, .obj m h r => .obj m (e _ _ h) (RepF.mono e r)
  | _, _, .dct h r => .dct (same_rd e h) (RepK.mono e r)
  | _, _, .exc m h => .exc m (e _ _ h)
  | _, _, .exz m h q => .exz m (e _ _ h) (e _ _ q)
theorem Reps.mono (e : Same G G') : ∀ {d : List D} {v : List V}, Reps K mg G d v → Reps K mg G' d v
  | _, _, .nil => .nil
  | _, _, .cons h r => .cons (Rep.mono e h) (Reps.mono e r)
theorem RepF.mono (e : Same G G') : ∀ {d : List (Str × D)} {v : List (Str × V)}, RepF K mg G d v → RepF K mg G' d v
  | _, _, .nil => .nil
  | _, _, .cons h r => .cons (Rep.mono e h) (RepF.mono e r)
theorem RepK.mono (e : Same G G') : ∀ {d : List (Key × D)} {v : List (Key × V)}, RepK K mg G d v → RepK K mg G' d v
  | _, _, .nil => .nil
  | _, _, .cons h r => .cons (Rep.mono e h) (RepK.mono e r)
end
theorem Reps.length : ∀ {d : List D} {v : List V}, Reps K mg G d v → v.length = d.length
  | _, _, .nil => rfl
  | _, _, .cons _ r => by simp [r.length]
theorem Reps.append : ∀ {d d' : List D} {v v' : List V}, Reps K mg G d v → Reps K mg G d' v' → Reps K mg G (d ++ d') (v ++ v')
  | _, _, _, _, .nil, s => s
  | _, _, _, _, .cons h r, s => .cons h (r.append s)
theorem Reps.get : ∀ {d : List D} {v : List V} {i : Nat} {x : D}, Reps K mg G d v → d[i]? = some x → ∃ y, v[i]? = some y ∧ Rep K mg G x y
  | _, _, _, _, .nil, e => by simp at e
  | _, _, 0, _, .cons h r, e => by simp at e; subst e; exact ⟨_, rfl, h⟩
  | _, _, i + 1, _, .cons h r, e => by
    obtain ⟨y, a, b⟩ := r.get (i := i) (by simpa using e)
    exact ⟨y, by simpa using a, b⟩
theorem Reps.getV : ∀ {d : List D} {v : List V} {i : Nat} {y : V}, Reps K mg G d v → v[i]? = some y → ∃ x, d[i]? = some x ∧ Rep K mg G x y
  | _, _, _, _, .nil, e => by simp at e
  | _, _, 0, _, .cons h r, e => by simp at e; subst e; exact ⟨_, rfl, h⟩
  | _, _, i + 1, _, .cons h r, e => by
    obtain ⟨y, a, b⟩ := r.getV (i := i) (by simpa using e)
    exact ⟨y, by simpa using a, b⟩
theorem Reps.set {x : D} {y : V} (q : Rep K mg G x y) : ∀ {d : List D} {v : List V} (i : Nat), Reps K mg G d v → Reps K mg G (d.set i x) (v.set i y)
  | _, _, _, .nil => .nil
  | _, _, 0, .cons _ t => .cons q t
  | _, _, i + 1, .cons p t => .cons p (t.set q i)
theorem Reps.take : ∀ {d : List D} {v : List V} (n : Nat), Reps K mg G d v → Reps K mg G (d.take n) (v.take n)
  | _, _, 0, _ => .nil
  | _, _, _ + 1, .nil => .nil
  | _, _, n + 1, .cons r t => .cons r (t.take n)
theorem Reps.drop : ∀ {d : List D} {v : List V} (n : Nat), Reps K mg G d v → Reps K mg G (d.drop n) (v.drop n)
  | _, _, 0, r => r
  | _, _, _ + 1, .nil => .nil
  | _, _, n + 1, .cons _ t => t.drop n
theorem Reps.reverse : ∀ {d : List D} {v : List V}, Reps K mg G d v → Reps K mg G d.reverse v.reverse
  | _, _, .nil => .nil
  | _, _, .cons h r => by
    rw [List.reverse_cons, List.reverse_cons]
    exact r.reverse.append (.cons h .nil)
theorem Reps.erase : ∀ {d : List D} {v : List V} (n : Nat), Reps K mg G d v → Reps K mg G (d.eraseIdx n) (v.eraseIdx n)
  | _, _, _, .nil => .nil
  | _, _, 0, .cons _ t => t
  | _, _, n + 1, .cons r t => .cons r (t.erase n)
/-- the scalars on both sides -/
theorem Rep.int_iff {i : Int} {v : V} (h : Rep K mg G (.int i) v) : v = .int i := by cases h; rfl
theorem Rep.bl_iff {i : Bool} {v : V} (h : Rep K mg G (.bl i) v) : v = .bl i := by cases h; rfl
theorem Rep.str_iff {i : Str} {v : V} (h : Rep K mg G (.str i) v) : v = .str i := by cases h; rfl
theorem Rep.non_iff {v : V} (h : Rep K mg G .non v) : v = .non := by cases h; rfl
theorem Reps.ints : ∀ {ns : List Int} {v : List V}, Reps K mg G (ns.map D.int) v → v = ns.map V.int
  | [], _, .nil => rfl
  | n :: ns, _, .cons h r => by rw [List.map_cons, Rep.int_iff h, Reps.ints r]
theorem Reps.of_ints : ∀ (ns : List Int), Reps K mg G (ns.map D.int) (ns.map V.int)
  | [] => .nil
  | n :: ns => .cons (.int n) (Reps.of_ints ns)
variable {H H' : Hp}
mutual
theorem Own.frame (e : Same G G') : ∀ {s : Sl} {v : V} {A : List Addr}, Own K mg G H s v A → (∀ a ∈ A, ∀ o, H a = some o → (∀ ps, o ≠ .tbl ps) → H' a = some o) → Own K mg G' H' s v A
  | _, _, _, .fz h, _ => .fz (h.mono e)
  | _, _, _, .ow h r, k => .ow (k _ (by simp) _ h (by intro _ z; cases z)) (r.mono e)
  | _, _, _, .dk h r, k => .dk (k _ (by simp) _ h (by intro _ z; cases z)) (r.mono e)
  | _, _, _, .ob m h r, k => .ob m (k _ (by simp) _ h (by intro _ z; cases z)) (OwnF.frame e r fun a ha => k a (by simp [ha]))
  | _, _, _, .nl h r, k => .nl (k _ (by simp) _ h (by intro _ z; cases z)) (OwnL.frame e r fun a ha => k a (by simp [ha]))
  | _, _, _, .nt h r, k => .nt (k _ (by simp) _ h (by intro _ z; cases z)) (OwnL.frame e r fun a ha => k a (by simp [ha]))
theorem OwnF.frame (e : Same G G') : ∀ {s : List (Str × Sl)} {v : List (Str × V)} {A : List Addr}, OwnF K mg G H s v A → (∀ a ∈ A, ∀ o, H a = some o → (∀ ps, o ≠ .tbl ps) → H' a = some o) → OwnF K mg G' H' s v A
  | _, _, _, .nil, _ => .nil
  | _, _, _, .cons h r, k => .cons (Own.frame e h fun a ha => k a (by simp [ha])) (OwnF.frame e r fun a ha => k a (by simp [ha]))
theorem OwnL.frame (e : Same G G') : ∀ {s : List Sl} {v : List V} {A : List Addr}, OwnL K mg G H s v A → (∀ a ∈ A, ∀ o, H a = some o → (∀ ps, o ≠ .tbl ps) → H' a = some o) → OwnL K mg G' H' s v A
  | _, _, _, .nil, _ => .nil
  | _, _, _, .cons h r, k => .cons (Own.frame e h fun a ha => k a (by simp [ha])) (OwnL.frame e r fun a ha => k a (by simp [ha]))
end
mutual
theorem Own.there : ∀ {s : Sl} {v : V} {A : List Addr}, Own K mg G H s v A → ∀ a ∈ A, H a ≠ none
  | _, _, _, .fz h, a, ha => by simp at ha
  | _, _, _, .ow h r, a, ha => by simp at ha; subst ha; rw [h]; simp
  | _, _, _, .dk h r, a, ha => by simp at ha; subst ha; rw [h]; simp
  | _, _, _, .ob m h r, a, ha => by
    rcases List.mem_cons.mp ha with e | e
    · subst e; rw [h]; simp
    · exact OwnF.there r a e
  | _, _, _, .nl h r, a, ha => by
    rcases List.mem_cons.mp ha with e | e
    · subst e; rw [h]; simp
    · exact OwnL.there r a e
  | _, _, _, .nt h r, a, ha => by
    rcases List.mem_cons.mp ha with e | e
    · subst e; rw [h]; simp
    · exact OwnL.there r a e
theorem OwnF.there : ∀ {s : List (Str × Sl)} {v : List (Str × V)} {A : List Addr}, OwnF K mg G H s v A → ∀ a ∈ A, H a ≠ none
  | _, _, _, .nil, a, ha => by simp at ha
  | _, _, _, .cons h r, a, ha => by
    rcases List.mem_append.mp ha with e | e
    · exact Own.there h a e
    · exact OwnF.there r a e
theorem OwnL.there : ∀ {s : List Sl} {v : List V} {A : List Addr}, OwnL K mg G H s v A → ∀ a ∈ A, H a ≠ none
  | _, _, _, .nil, a, ha => by simp at ha
  | _, _, _, .cons h r, a, ha => by
    rcases List.mem_append.mp ha with e | e
    · exact Own.there h a e
    · exact OwnL.there r a e
end
/-- what may be owned -/
def plainHO : HO → Bool
  | .lst _ | .dK _ | .ins .. | .tup _ => true
  | _ => false
mutual
theorem Own.plain : ∀ {s : Sl} {v : V} {A : List Addr}, Own K mg G H s v A → ∀ a ∈ A, ∀ o, H a = some o → plainHO o = true
  | _, _, _, .fz h, a, ha => by simp at ha
  | _, _, _, .ow h r, a, ha => by simp at ha; subst ha; rw [h]; intro o z; cases z; rfl
  | _, _, _, .dk h r, a, ha => by simp at ha; subst ha; rw [h]; intro o z; cases z; rfl
  | _, _, _, .ob m h r, a, ha => by
    rcases List.mem_cons.mp ha with e | e
    · subst e; rw [h]; intro o z; cases z; rfl
    · exact OwnF.plain r a e
  | _, _, _, .nl h r, a, ha => by
    rcases List.mem_cons.mp ha with e | e
    · subst e; rw [h]; intro o z; cases z; rfl
    · exact OwnL.plain r a e
  | _, _, _, .nt h r, a, ha => by
    rcases List.mem_cons.mp ha with e | e
    · subst e; rw [h]; intro o z; cases z; rfl
    · exact OwnL.plain r a e
theorem OwnF.plain : ∀ {s : List (Str × Sl)} {v : List (Str × V)} {A : List Addr}, OwnF K mg G H s v A → ∀ a ∈ A, ∀ o, H a = some o → plainHO o = true
  | _, _, _, .nil, a, ha => by simp at ha
  | _, _, _, .cons h r, a, ha => by
    rcases List.mem_append.mp ha with e | e
    · exact Own.plain h a e
    · exact OwnF.plain r a e
theorem OwnL.plain : ∀ {s : List Sl} {v : List V} {A : List Addr}, OwnL K mg G H s v A → ∀ a ∈ A, ∀ o, H a = some o → plainHO o = true
  | _, _, _, .nil, a, ha => by simp at ha
  | _, _, _, .cons h r, a, ha => by
    rcases List.mem_append.mp ha with e | e
    · exact Own.plain h a e
    · exact OwnL.plain r a e
end
theorem Own.noTbl {s : Sl} {v : V} {A : List Addr} (o : Own K mg G H s v A) : ∀ a ∈ A, ∀ ps, H a ≠ some (.tbl ps) := fun a ha ps e => by
  have := o.plain a ha _ e
  cases this
/-- P is the table of the code object of the def x -/
def TabFn (K : PySem.W.Frag) (mg : Str → Option Value) (x : Str) (P : Addr) : Prop := ∃ (f : Addr) (o : Obj) (fd : FuncData) (c : Addr) (e : Value) (dd : Option Addr) (vs : Array Value) (sl : Array (Option Value)),
  mg x = some (.ref f) ∧ K.lookup f = some o ∧ o.data = .func fd ∧ fd.code = .ref c ∧ K.lookup c = some ⟨e, dd, .fields vs, sl⟩ ∧ vs[11]? = some (.ref P)
theorem TabFn.one {x : Str} {P P' : Addr} (a : TabFn K mg x P) (b : TabFn K mg x P') : P = P' := by
  obtain ⟨f, o, fd, c, e, dd, vs, sl, a1, a2, a3, a4, a5, a6⟩ := a
  obtain ⟨f', o', fd', c', e', dd', vs', sl', b1, b2, b3, b4, b5, b6⟩ := b
  rw [a1] at b1; cases b1
  rw [a2] at b2; cases b2
  rw [a3] at b3; cases b3
  rw [a4] at b4; cases b4
  rw [a5] at b5; cases b5
  rw [a6] at b6; cases b6
  rfl
/-- the table P tells code objects of lambdas of the def x alone, and these are frozen -/
def TabA (G H : Hp) (x : Str) (P : Addr) : Prop := ∃ ps : Array Value, H P = some (.tbl ps) ∧ PySem.TriplesOk ps.toList ∧ ∀ (pos : Pos) (cv : Value), codeAmong pos ps.toList = some cv → ∃ c, cv = .ref c ∧ G c = some (LamX.CodeO c (x ++ ".<locals>.<lambda>"))
/-- the tables of the defs that make lambdas -/
structure TabR (K : PySem.W.Frag) (mg : Str → Option Value) (G H : Hp) : Prop where
  gt : ∀ b ps, G b ≠ some (.tbl ps)
  tat : ∀ x ∈ (["best_order", "division"] : List Str), ∀ P, TabFn K mg x P → TabA G H x P
theorem TabR.step (t : TabR K mg G H) (gs : Same G G') (gt : ∀ b ps, G' b ≠ some (.tbl ps)) (k : ∀ P ps, H P = some (.tbl ps) → H' P = some (.tbl ps)) : TabR K mg G' H' := ⟨gt, fun x hx P hP => by
  obtain ⟨ps, h1, h2, h3⟩ := t.tat x hx P hP
  exact ⟨ps, k _ _ h1, h2, fun pos cv e => let ⟨c, e1, e2⟩ := h3 pos cv e; ⟨c, e1, gs _ _ e2⟩⟩⟩
theorem TabR.upd (t : TabR K mg G H) {a : Addr} {o : HO} (h : ∀ ps, H a ≠ some (.tbl ps)) : TabR K mg G (L2.upd H a o) := t.step (fun _ _ h => h) t.gt fun P ps e => by
  rw [upd_ne (fun z => h ps (by rw [← z]; exact e))]
  exact e
theorem TabR.updG (t : TabR K mg G H) {a : Addr} {o : HO} (gn : G a = none) (ho : ∀ ps, o ≠ .tbl ps) : TabR K mg (L2.upd G a o) H := t.step (fun b u e => by rw [upd_ne (ne_of_none e gn)]; exact e) (fun b ps e => by
  by_cases hb : b = a
  · subst hb; rw [upd_same] at e; exact ho ps (Option.some.inj e)
  · rw [upd_ne hb] at e; exact t.gt b ps e) fun _ _ e => e
theorem nt_none {a : Addr} (h : H a = none) : ∀ ps, H a ≠ some (.tbl ps) := fun ps e => by rw [h] at e; cases e
theorem nt_some {a : Addr} {o : HO} (h : H a = some o) (ho : ∀ ps, o ≠ .tbl ps) : ∀ ps, H a ≠ some (.tbl ps) := fun ps e => by rw [h] at e; exact ho ps (Option.some.inj e)
end
end FW

namespace FW
open PySem L2

/-- a slot at a time: its value, what it holds, what it owns -/
structure Cl where
  v : Option V
  s : Sl
  A : List Addr
def ClR (K : PySem.W.Frag) (mg : Str → Option Value) (G H : Hp) (c : Cl) : Prop :=
  (c.s = .no ∧ c.A = []) ∨ ∃ v, c.v = some v ∧ Own K mg G H c.s v c.A
abbrev own (cs : List Cl) : List Addr := cs.flatMap (·.A)
structure Res (K : PySem.W.Frag) (mg : Str → Option Value) (G H : Hp) (cs : List Cl) : Prop where
  same : Same G H
  ok : ∀ c ∈ cs, ClR K mg G H c
  nd : (own cs).Nodup
  fr : ∀ a ∈ own cs, G a = none
  tab : TabR K mg G H
/-- what a step does to the world: A, A' what is owned ahead of it and behind it -/
structure Stp (A : List Addr) (G H : Hp) (A' : List Addr) (G' H' : Hp) : Prop where
  keep : ∀ b o, b ∉ A → H b = some o → (∀ ps, o ≠ .tbl ps) → H' b = some o
  gs : Same G G'
  gn : ∀ b, b ∉ A → H b ≠ none → G' b = G b
  live : ∀ b, H b ≠ none → H' b ≠ none
  sub : ∀ b ∈ A', b ∈ A ∨ H b = none
section
variable {K : PySem.W.Frag} {mg : Str → Option Value} {G H G' H' G1 H1 G2 H2 : Hp} {A A' A1 A2 B : List Addr} {cs ds es : List Cl} {c : Cl}
theorem Stp.refl : Stp A G H A G H := ⟨fun _ _ _ h _ => h, fun _ _ h => h, fun _ _ _ => rfl, fun _ h => h, fun _ h => .inl h⟩
theorem Stp.trans (x : Stp A G H A1 G1 H1) (y : Stp A1 G1 H1 A2 G2 H2) : Stp A G H A2 G2 H2 := by
  have nA : ∀ b, b ∉ A → H b ≠ none → b ∉ A1 := fun b h1 h2 h3 => (x.sub b h3).elim h1 h2
  refine ⟨fun b o h1 h2 h3 => ?_, fun b o h => y.gs b o (x.gs b o h), fun b h1 h2 => ?_, fun b h => y.live b (x.live b h), fun b h => ?_⟩
  · exact y.keep b o (nA b h1 (by rw [h2]; simp)) (x.keep b o h1 h2 h3) h3
  · rw [y.gn b (nA b h1 h2) (x.live b h2), x.gn b h1 h2]
  · rcases y.sub b h with z | z
    · exact x.sub b z
    · refine .inr ?_
      cases q : H b with
      | none => rfl
      | some o => exact absurd z (x.live b (by rw [q]; simp))
theorem Stp.weak (x : Stp A G H A1 G1 H1) (h : ∀ b ∈ A2, b ∈ A1) : Stp A G H A2 G1 H1 := ⟨x.keep, x.gs, x.gn, x.live, fun b hb => x.sub b (h b hb)⟩
theorem Stp.more (x : Stp A G H A1 G1 H1) (h : ∀ b ∈ A, b ∈ A2) : Stp A2 G H A1 G1 H1 :=
  ⟨fun b o hb e n => x.keep b o (fun z => hb (h b z)) e n, x.gs, fun b hb e => x.gn b (fun z => hb (h b z)) e, x.live, fun b hb => (x.sub b hb).imp (h b) id⟩
theorem Stp.perm (x : Stp A G H A1 G1 H1) (h : List.Perm A1 A2) : Stp A G H A2 G1 H1 := x.weak fun b hb => h.mem_iff.mpr hb
theorem mem_own {a : Addr} : a ∈ own cs ↔ ∃ c ∈ cs, a ∈ c.A := by simp [own, List.mem_flatMap]
theorem own_cons : own (c :: cs) = c.A ++ own cs := by simp [own]
theorem own_append : own (cs ++ ds) = own cs ++ own ds := by simp [own]
theorem ClR.there (h : ClR K mg G H c) : ∀ a ∈ c.A, H a ≠ none := by
  rcases h with ⟨_, e⟩ | ⟨v, _, o⟩
  · intro a ha; rw [e] at ha; cases ha
  · exact o.there
theorem Res.there (r : Res K mg G H cs) : ∀ a ∈ own cs, H a ≠ none := fun a ha => by
  obtain ⟨c, h1, h2⟩ := mem_own.mp ha
  exact (r.ok c h1).there a h2
theorem Res.noTbl (r : Res K mg G H cs) : ∀ a ∈ own cs, ∀ ps, H a ≠ some (.tbl ps) := fun a ha => by
  obtain ⟨c, h1, h2⟩ := mem_own.mp ha
  rcases r.ok c h1 with ⟨_, e⟩ | ⟨v, _, o⟩
  · rw [e] at h2; cases h2
  · exact o.noTbl a h2
theorem Res.noExt (r : Res K mg G H cs) : ∀ a ∈ own cs, ∀ φ, H a ≠ some (.ext φ) := fun a ha φ z => by
  obtain ⟨c, h1, h2⟩ := mem_own.mp ha
  rcases r.ok c h1 with ⟨_, e⟩ | ⟨v, _, o⟩
  · rw [e] at h2; cases h2
  · have := o.plain a h2 _ z
    cases this
theorem Res.tabAt (r : Res K mg G H cs) (hA : ∀ b, b ∉ own cs → H' b = H b) : TabR K mg G H' := r.tab.step (fun _ _ h => h) r.tab.gt fun P ps e => by
  rw [hA P fun z => r.noTbl P z ps e]; exact e
theorem ClR.frame (h : ClR K mg G H c) (e : Same G G') (k : ∀ a ∈ c.A, ∀ o, H a = some o → (∀ ps, o ≠ .tbl ps) → H' a = some o) : ClR K mg G' H' c := by
  rcases h with h | ⟨v, hv, o⟩
  · exact .inl h
  · exact .inr ⟨v, hv, o.frame e k⟩
theorem own_perm (p : List.Perm cs ds) : List.Perm (own cs) (own ds) := p.flatMap_right _
theorem Res.perm (r : Res K mg G H cs) (p : List.Perm cs ds) : Res K mg G H ds :=
  ⟨r.same, fun c hc => r.ok c (p.mem_iff.mpr hc), (own_perm p).nodup_iff.mp r.nd, fun a ha => r.fr a ((own_perm p).mem_iff.mpr ha), r.tab⟩
theorem Res.left (r : Res K mg G H (cs ++ ds)) : Res K mg G H cs := by
  have n := r.nd
  rw [own_append] at n
  exact ⟨r.same, fun c hc => r.ok c (List.mem_append_left _ hc), (List.nodup_append.mp n).1, fun a ha => r.fr a (by rw [own_append]; exact List.mem_append_left _ ha), r.tab⟩
theorem Res.right (r : Res K mg G H (cs ++ ds)) : Res K mg G H ds := by
  have n := r.nd
  rw [own_append] at n
  exact ⟨r.same, fun c hc => r.ok c (List.mem_append_right _ hc), (List.nodup_append.mp n).2.1, fun a ha => r.fr a (by rw [own_append]; exact List.mem_append_right _ ha), r.tab⟩
theorem Res.tail (r : Res K mg G H (c :: cs)) : Res K mg G H cs := Res.right (cs := [c]) r
theorem Res.apart (r : Res K mg G H (cs ++ ds)) : ∀ a ∈ own cs, a ∉ own ds := fun a h1 h2 => by
  have n := r.nd
  rw [own_append] at n
  exact (List.nodup_append.mp n).2.2 a h1 a h2 rfl
/-- THE FRAME: ds waits while the rest goes on -/
theorem Res.frame (r : Res K mg G H (ds ++ cs)) (x : Stp (own cs) G H (own es) G' H') (r' : Res K mg G' H' es) : Res K mg G' H' (ds ++ es) := by
  have ap := r.apart
  have th := r.left.there
  refine ⟨r'.same, fun c hc => ?_, ?_, fun a ha => ?_, r'.tab⟩
  · rcases List.mem_append.mp hc with h | h
    · refine (r.ok c (List.mem_append_left _ h)).frame x.gs fun a ha o e n => x.keep a o (ap a (mem_own.mpr ⟨c, h, ha⟩)) e n
    · exact r'.ok c h
  · rw [own_append]
    refine List.nodup_append.mpr ⟨r.left.nd, r'.nd, fun a ha b hb e => ?_⟩
    subst e
    rcases x.sub a hb with z | z
    · exact ap a ha z
    · exact th a ha z
  · rw [own_append] at ha
    rcases List.mem_append.mp ha with h | h
    · rw [x.gn a (ap a h) (th a h)]
      exact r.left.fr a h
    · exact r'.fr a h
theorem Stp.under (r : Res K mg G H (ds ++ cs)) (x : Stp (own cs) G H (own es) G' H') : Stp (own (ds ++ cs)) G H (own (ds ++ es)) G' H' := by
  refine ⟨fun b o hb e n => x.keep b o (fun z => hb (by rw [own_append]; exact List.mem_append_right _ z)) e n, x.gs, fun b hb e => x.gn b (fun z => hb (by rw [own_append]; exact List.mem_append_right _ z)) e, x.live, fun b hb => ?_⟩
  rw [own_append] at hb ⊢
  rcases List.mem_append.mp hb with h | h
  · exact .inl (List.mem_append_left _ h)
  · exact (x.sub b h).imp (List.mem_append_right _) id
/-- a frozen value may be put beside -/
theorem Res.addFz (r : Res K mg G H cs) {d : D} {v : V} (h : Rep K mg G d v) : Res K mg G H (⟨some v, .fz d, []⟩ :: cs) :=
  ⟨r.same, fun c hc => by
    rcases List.mem_cons.mp hc with e | e
    · subst e; exact .inr ⟨v, rfl, .fz h⟩
    · exact r.ok c e, by rw [own_cons]; simpa using r.nd, fun a ha => r.fr a (by rw [own_cons] at ha; simpa using ha), r.tab⟩
theorem Res.addNo (r : Res K mg G H cs) (o : Option V) : Res K mg G H (⟨o, .no, []⟩ :: cs) :=
  ⟨r.same, fun c hc => by
    rcases List.mem_cons.mp hc with e | e
    · subst e; exact .inl ⟨rfl, rfl⟩
    · exact r.ok c e, by rw [own_cons]; simpa using r.nd, fun a ha => r.fr a (by rw [own_cons] at ha; simpa using ha), r.tab⟩
theorem Same.upd {a : Addr} {o : HO} (e : Same G H) (h : G a = none) : Same G (upd H a o) := fun b u q => by
  rw [upd_ne (ne_of_none q h)]
  exact e b u q
theorem Same.none (e : Same G H) {a : Addr} (h : H a = none) : G a = none := e.free h
/-- a new object at p, untracked by the frozen part: the world has grown -/
theorem Stp.alloc {p : Addr} {o : HO} (hp : H p = none) : Stp A G H (p :: A) G (upd H p o) := by
  refine ⟨fun b u _ e _ => by rw [upd_ne (ne_of_none e hp)]; exact e, fun _ _ h => h, fun _ _ _ => rfl, fun b h => ?_, fun b hb => ?_⟩
  · by_cases e : b = p
    · subst e; rw [upd_same]; simp
    · rw [upd_ne e]; exact h
  · rcases List.mem_cons.mp hb with e | e
    · subst e; exact .inr hp
    · exact .inl e
theorem Res.keepH (r : Res K mg G H cs) {p : Addr} {o : HO} (hp : H p = Option.none) : Res K mg G (upd H p o) cs :=
  ⟨Same.upd r.same (Same.none r.same hp), fun c hc => (r.ok c hc).frame (fun _ _ h => h) fun a _ o e _ => by rw [upd_ne (ne_of_none e hp)]; exact e, r.nd, r.fr, r.tab.upd (nt_none hp)⟩
/-- a new owned list -/
theorem Res.newL (r : Res K mg G H cs) {p : Addr} {vs : List V} {xs : List D} (hp : H p = Option.none) (h : Reps K mg G xs vs) : Res K mg G (upd H p (.lst vs)) (⟨some (.ref p), .ow xs, [p]⟩ :: cs) := by
  have k := r.keepH (o := .lst vs) hp
  refine ⟨k.same, fun c hc => ?_, ?_, fun a ha => ?_, k.tab⟩
  · rcases List.mem_cons.mp hc with e | e
    · subst e; exact .inr ⟨_, rfl, .ow upd_same h⟩
    · exact k.ok c e
  · rw [own_cons]
    exact List.nodup_cons.mpr ⟨fun z => r.there p z hp, r.nd⟩
  · rw [own_cons] at ha
    rcases List.mem_cons.mp ha with e | e
    · subst e; exact Same.none r.same hp
    · exact r.fr a e
/-- a new frozen object -/
theorem Res.newG (r : Res K mg G H cs) {p : Addr} {o : HO} (hp : H p = Option.none) (ho : ∀ ps, o ≠ .tbl ps := by intro _ z; cases z) : Res K mg (upd G p o) (upd H p o) cs := by
  have gp : G p = Option.none := Same.none r.same hp
  refine ⟨fun b u e => ?_, fun c hc => (r.ok c hc).frame (fun b u e => by rw [upd_ne (ne_of_none e gp)]; exact e) fun a _ o e _ => by rw [upd_ne (ne_of_none e hp)]; exact e, r.nd, fun a ha => ?_, (r.tab.upd (nt_none hp)).updG gp ho⟩
  · by_cases hb : b = p
    · subst hb; rw [upd_same] at e ⊢; exact e
    · rw [upd_ne hb] at e ⊢; exact r.same b u e
  · have : a ≠ p := fun e => r.there a ha (by rw [e]; exact hp)
    rw [upd_ne this]
    exact r.fr a ha
theorem Stp.allocG {p : Addr} {o : HO} (hp : H p = none) (gp : G p = Option.none) : Stp A G H A (upd G p o) (upd H p o) := by
  refine ⟨fun b u _ e _ => by rw [upd_ne (ne_of_none e hp)]; exact e, fun b u e => by rw [upd_ne (ne_of_none e gp)]; exact e, fun b _ h => ?_, fun b h => ?_, fun b hb => .inl hb⟩
  · rw [upd_ne (fun e => h (by rw [e]; exact hp))]
  · by_cases e : b = p
    · subst e; rw [upd_same]; simp
    · rw [upd_ne e]; exact h
theorem sameUpdG {p : Addr} {o : HO} (gp : G p = Option.none) : Same G (upd G p o) := fun b u e => by rw [upd_ne (ne_of_none e gp)]; exact e

/-! ### freezing -/
mutual
def Sl.toD : Sl → Option D
  | .no => none
  | .fz d => some d
  | .ow xs => some (.lst xs)
  | .dk kvs => some (.dct kvs)
  | .ob c fs => (toDF fs).map (.obj c)
  | .nl ss => (toDL ss).map .lst
  | .nt ss => (toDL ss).map .tup
def toDF : List (Str × Sl) → Option (List (Str × D))
  | [] => some []
  | (f, s) :: r => match s.toD, toDF r with
    | some d, some ds => some ((f, d) :: ds)
    | _, _ => none
def toDL : List Sl → Option (List D)
  | [] => some []
  | s :: r => match s.toD, toDL r with
    | some d, some ds => some (d :: ds)
    | _, _ => none
end
/-- the frozen part with what stands at A -/
def ice (G H : Hp) (A : List Addr) : Hp := fun b => if b ∈ A then H b else G b
theorem ice_same (e : Same G H) (A : List Addr) (h : ∀ a ∈ A, G a = Option.none) : Same G (ice G H A) := fun b o q => by
  unfold ice
  by_cases hb : b ∈ A
  · rw [h b hb] at q; cases q
  · rw [if_neg hb]; exact q
theorem ice_sub (e : Same G H) (A : List Addr) : Same (ice G H A) H := fun b o q => by
  unfold ice at q
  split at q
  · exact q
  · exact e b o q
mutual
theorem Own.toD (x : Same G G') : ∀ {s : Sl} {v : V} {A : List Addr} {d : D}, Own K mg G H s v A → s.toD = some d → (∀ a ∈ A, ∀ o, H a = some o → G' a = some o) → Rep K mg G' d v
  | _, _, _, _, .fz h, e, k => by
    unfold Sl.toD at e; cases e; exact h.mono x
  | _, _, _, _, .ow h r, e, k => by
    unfold Sl.toD at e; cases e; exact .lst (Rd.of (k _ (by simp) _ h)) (r.mono x)
  | _, _, _, _, .ob m h r, e, k => by
    unfold Sl.toD at e
    obtain ⟨ds, e1, e2⟩ := Option.map_eq_some_iff.mp e
    subst e2
    exact .obj m (k _ (by simp) _ h) (OwnF.toD x r e1 fun a ha => k a (by simp [ha]))
  | _, _, _, _, .dk h r, e, k => by
    unfold Sl.toD at e; cases e; exact .dct (Rd.of (k _ (by simp) _ h)) (r.mono x)
  | _, _, _, _, .nl h r, e, k => by
    unfold Sl.toD at e
    obtain ⟨ds, e1, e2⟩ := Option.map_eq_some_iff.mp e
    subst e2
    exact .lst (Rd.of (k _ (by simp) _ h)) (OwnL.toD x r e1 fun a ha => k a (by simp [ha]))
  | _, _, _, _, .nt h r, e, k => by
    unfold Sl.toD at e
    obtain ⟨ds, e1, e2⟩ := Option.map_eq_some_iff.mp e
    subst e2
    exact .tup (SqT.of (k _ (by simp) _ h)) (OwnL.toD x r e1 fun a ha => k a (by simp [ha]))
theorem OwnF.toD (x : Same G G') : ∀ {s : List (Str × Sl)} {v : List (Str × V)} {A : List Addr} {d : List (Str × D)}, OwnF K mg G H s v A → toDF s = some d → (∀ a ∈ A, ∀ o, H a = some o → G' a = some o) → RepF K mg G' d v
  | _, _, _, _, .nil, e, k => by unfold toDF at e; cases e; exact .nil
  | _, _, _, _, .cons h r, e, k => by
    unfold toDF at e
    split at e
    · rename_i d ds e1 e2
      cases e
      exact .cons (Own.toD x h e1 fun a ha => k a (by simp [ha])) (OwnF.toD x r e2 fun a ha => k a (by simp [ha]))
    · cases e
theorem OwnL.toD (x : Same G G') : ∀ {s : List Sl} {v : List V} {A : List Addr} {d : List D}, OwnL K mg G H s v A → toDL s = some d → (∀ a ∈ A, ∀ o, H a = some o → G' a = some o) → Reps K mg G' d v
  | _, _, _, _, .nil, e, k => by unfold toDL at e; cases e; exact .nil
  | _, _, _, _, .cons h r, e, k => by
    unfold toDL at e
    split at e
    · rename_i d ds e1 e2
      cases e
      exact .cons (Own.toD x h e1 fun a ha => k a (by simp [ha])) (OwnL.toD x r e2 fun a ha => k a (by simp [ha]))
    · cases e
end
/-- the head of the cells is frozen -/
theorem Res.freeze {s : Sl} {o : Option V} {B : List Addr} {d : D} (r : Res K mg G H (⟨o, s, B⟩ :: cs)) (e : s.toD = some d) :
    ∃ G' v, o = some v ∧ Rep K mg G' d v ∧ Res K mg G' H (⟨o, .fz d, []⟩ :: cs) ∧ Stp (own (⟨o, s, B⟩ :: cs)) G H (own (⟨o, .fz d, []⟩ :: cs)) G' H := by
  have hB : ∀ a ∈ B, G a = Option.none := fun a ha => r.fr a (by rw [own_cons]; exact List.mem_append_left _ ha)
  have sG := ice_same r.same B hB
  rcases r.ok _ (List.mem_cons_self) with ⟨z, _⟩ | ⟨v, hv, ow⟩
  · have z : s = .no := z
    subst z; unfold Sl.toD at e; cases e
  · have hv : o = some v := hv
    subst hv
    have rp : Rep K mg (ice G H B) d v := Own.toD sG ow e fun a ha u q => by unfold ice; rw [if_pos ha]; exact q
    have ap : ∀ a ∈ own cs, a ∉ B := fun a h1 h2 => by
      have n := r.nd
      rw [own_cons] at n
      exact (List.nodup_append.mp n).2.2 a h2 a h1 rfl
    have rt : Res K mg (ice G H B) H cs := ⟨ice_sub r.same B, fun c hc => (r.tail.ok c hc).frame sG fun _ _ _ q _ => q, r.tail.nd, fun a ha => by unfold ice; rw [if_neg (ap a ha)]; exact r.tail.fr a ha, r.tab.step sG (fun b ps e => by
      unfold ice at e
      split at e
      · rename_i hb; exact ow.noTbl b hb ps e
      · exact r.tab.gt b ps e) fun _ _ e => e⟩
    refine ⟨_, v, rfl, rp, rt.addFz rp, ⟨fun _ _ _ q _ => q, sG, fun b hb _ => ?_, fun _ q => q, fun b hb => .inl ?_⟩⟩
    · unfold ice
      rw [if_neg fun z => hb (by rw [own_cons]; exact List.mem_append_left _ z)]
    · rw [own_cons] at hb ⊢
      exact List.mem_append_right _ (by simpa using hb)
end
end FW

namespace FW
open PySem L2

theorem PE.imp {X : Cx} {e : Expr} {t u : TE} (h : PE X e t) (k : ∀ σ H Q, u σ H Q → t σ H Q) : PE X e u := ⟨fun pins s σ H Q I q => h.run pins s σ H Q I (k σ H Q q)⟩
theorem PT.imp {X : Cx} {e : Expr} {t u : TT} (h : PT X e t) (k : ∀ σ H Q, u σ H Q → t σ H Q) : PT X e u := ⟨fun pins s σ H Q I q => h.run pins s σ H Q I (k σ H Q q)⟩
theorem PW.imp {X : Cx} {e : Expr} {t u : TT} (h : PW X e t) (k : ∀ σ H Q, u σ H Q → t σ H Q) : PW X e u := ⟨fun wh pins s σ H Q I q => h.run wh pins s σ H Q I (k σ H Q q)⟩
theorem PA.imp {X : Cx} {e : List Expr} {t u : TA} (h : PA X e t) (k : ∀ σ H Q, u σ H Q → t σ H Q) : PA X e u := ⟨fun pos pins s σ H Q I q => h.run pos pins s σ H Q I (k σ H Q q)⟩
theorem PS.imp {X : Cx} {e : Stmt} {t u : TS} (h : PS X e t) (k : ∀ D σ H, u D σ H → t D σ H) : PS X e u := ⟨fun pins s σ H D I q => h.run pins s σ H D I (k D σ H q)⟩
theorem PSs.imp {X : Cx} {e : List Stmt} {t u : TS} (h : PSs X e t) (k : ∀ D σ H, u D σ H → t D σ H) : PSs X e u := ⟨fun pins s σ H D I q => h.run pins s σ H D I (k D σ H q)⟩
theorem PG.imp {X : Cx} {e : Expr} {t u : TG} (h : PG X e t) (k : ∀ v σ H Q, u v σ H Q → t v σ H Q) : PG X e u := ⟨fun pins s σ H v w Q I r q => h.run pins s σ H v w Q I r (k v σ H Q q)⟩
theorem PGs.imp {X : Cx} {e : List Expr} {t u : TGs} (h : PGs X e t) (k : ∀ v σ H Q, u v σ H Q → t v σ H Q) : PGs X e u := ⟨fun pins s σ H v w Q I r q => h.run pins s σ H v w Q I r (k v σ H Q q)⟩

abbrev Env' := List Sl
/-- mirrors -/
abbrev M := List Sl → Option (Rv × List Sl)
abbrev MA := List Sl → Option (List Rv × List Sl)
abbrev MT := List Sl → Option (Bool × List Sl)
inductive Ctl where
  | nx | bk | ct | rt (r : Rv) | ex (c : Str)
abbrev MS := List Sl → Option (Ctl × List Sl)
def Ctl.rv : Ctl → Rv
  | .rt r => r
  | _ => .val .non

abbrev vals (cs : List Cl) : St := cs.map (·.v)
abbrev slots (cs : List Cl) : List Sl := cs.map (·.s)
/-- where a result is what a slot owns -/
def Bor (σ : St) (r : Rv) (v : V) : Prop := ∀ i, r = .bor i → σ[i]? = some (some v)
def Bors (σ : St) : List Rv → List V → Prop
  | [], [] => True
  | r :: rs, v :: vs => Bor σ r v ∧ Bors σ rs vs
  | _, _ => False

/-- what X's way out takes -/
def Wx (X : Cx) : L2.WX := fun cls d σ H => ∀ u s', L2.XE X (fun c' d' σ' H' => c' = cls ∧ d' = d ∧ σ' = σ ∧ H' = H) u s' → X.xe u s'
theorem takes_wx (X : Cx) : L2.Takes X (Wx X) := fun u s' ⟨a, B, sI, pins, σ, H, cls, d, e, I, nb, up, sky, na, os, ag, w⟩ =>
  w u s' ⟨a, B, sI, pins, σ, H, cls, d, e, I, nb, up, sky, na, os, ag, rfl, rfl, rfl, rfl⟩
theorem wx_of {X : Cx} {W : L2.WX} (tk : L2.Takes X W) {cls : Value} {d : Option Addr} {σ : St} {H : Hp} (h : W cls d σ H) : Wx X cls d σ H := fun u s' ⟨a, B, sI, pins, σ', H', cls', d', e, I, nb, up, sky, na, os, ag, w1, w2, w3, w4⟩ => by
  subst w1; subst w2; subst w3; subst w4
  exact tk u s' ⟨a, B, sI, pins, _, _, _, _, e, I, nb, up, sky, na, os, ag, h⟩
section
variable (K : PySem.W.Frag) (mg : Str → Option Value)
def tM (m : M) : TE := fun σ H Q => ∃ cs G r ρ', vals cs = σ ∧ Res K mg G H cs ∧ m (slots cs) = some (r, ρ') ∧
  ∀ cs' v B G' H', vals cs' = σ → slots cs' = ρ' → Bor σ r v → Res K mg G' H' (⟨some v, r.sl, B⟩ :: cs') → Stp (own cs) G H (own (⟨some v, r.sl, B⟩ :: cs')) G' H' → Q v H'
def tMT (m : MT) : TT := fun σ H Q => ∃ cs G b ρ', vals cs = σ ∧ Res K mg G H cs ∧ m (slots cs) = some (b, ρ') ∧
  ∀ cs' G' H', vals cs' = σ → slots cs' = ρ' → Res K mg G' H' cs' → Stp (own cs) G H (own cs') G' H' → Q b H'
def tMA (m : MA) : TA := fun σ H Q => ∃ cs G rs ρ', vals cs = σ ∧ Res K mg G H cs ∧ m (slots cs) = some (rs, ρ') ∧
  ∀ cs' ds vs G' H', vals cs' = σ → slots cs' = ρ' → Bors σ rs vs → vals ds = vs.map some → slots ds = rs.map Rv.sl → Res K mg G' H' (ds ++ cs') → Stp (own cs) G H (own (ds ++ cs')) G' H' → Q vs H'
def endOf (W : L2.WX) (D : Ends) : Ctl → V → St → Hp → Prop
  | .nx, _, σ, H => D.nx σ H
  | .bk, _, σ, H => D.bk σ H
  | .ct, _, σ, H => D.ct σ H
  | .rt _, v, _, H => D.rt v H
  | .ex c, _, σ, H => ∀ C, mg c = some (.ref C) → W (.ref C) none σ H
def tS (W : L2.WX) (P : Nat → Prop) (m : MS) : TS := fun D σ H => ∃ cs G k ρ', vals cs = σ ∧ Res K mg G H cs ∧ m (slots cs) = some (k, ρ') ∧
  ∀ cs' v B G' H', slots cs' = ρ' → cs'.length = cs.length → (∀ i, P i → (vals cs')[i]? = σ[i]?) → Res K mg G' H' (⟨some v, k.rv.sl, B⟩ :: cs') → Stp (own cs) G H (own (⟨some v, k.rv.sl, B⟩ :: cs')) G' H' → endOf mg W D k v (vals cs') H'
end
abbrev SE (X : Cx) (e : Expr) (m : M) : Prop := PE X e (tM X.K X.mg m)
abbrev STe (X : Cx) (e : Expr) (m : MT) : Prop := PT X e (tMT X.K X.mg m)
abbrev SW (X : Cx) (e : Expr) (m : MT) : Prop := PW X e (tMT X.K X.mg m)
abbrev SA (X : Cx) (es : List Expr) (m : MA) : Prop := PA X es (tMA X.K X.mg m)
abbrev SS (X : Cx) (P : Nat → Prop) (st : Stmt) (m : MS) : Prop := PS X st (tS X.K X.mg (Wx X) P m)
abbrev SSs (X : Cx) (P : Nat → Prop) (st : List Stmt) (m : MS) : Prop := PSs X st (tS X.K X.mg (Wx X) P m)

/-! ### what a result is -/
/-- the items of a list (lr: a list of the program's own; ls: also the script) -/
def Sl.lr : Sl → Option (List D)
  | .fz (.lst xs) => some xs
  | .ow xs => some xs
  | _ => none
def Sl.ls : Sl → Option (List D)
  | .fz (.lst xs) => some xs
  | .fz (.scr xs) => some xs
  | .ow xs => some xs
  | _ => none
def Sl.tp : Sl → Option (List D)
  | .fz (.tup xs) => some xs
  | _ => none
/-- the slot that a result is, or is what it stands for -/
def rsl (ρ : List Sl) : Rv → Option Sl
  | .bor i => ρ[i]?
  | r => some r.sl
def dat (ρ : List Sl) (r : Rv) : Option D := (rsl ρ r).bind Sl.toD
def lsv (ρ : List Sl) (r : Rv) : Option (List D) := (rsl ρ r).bind Sl.ls
def lrv (ρ : List Sl) (r : Rv) : Option (List D) := (rsl ρ r).bind Sl.lr
def tpv (ρ : List Sl) (r : Rv) : Option (List D) := (rsl ρ r).bind Sl.tp
section
variable {K : PySem.W.Frag} {mg : Str → Option Value} {G H G' H' : Hp} {cs ds : List Cl} {v : V} {r : Rv} {B : List Addr} {d : D}
theorem cell_at {i : Nat} {s : Sl} (h : (slots cs)[i]? = some s) : ∃ c, cs[i]? = some c ∧ c.s = s := by
  rw [List.getElem?_map] at h
  obtain ⟨c, e, q⟩ := Option.map_eq_some_iff.mp h
  exact ⟨c, e, q⟩
theorem ClR.own {c : Cl} {s : Sl} (h : ClR K mg G H c) (hv : c.v = some v) (hs : c.s = s) (n : s ≠ .no) : Own K mg G H s v c.A := by
  subst hs
  rcases h with ⟨q, _⟩ | ⟨w, hw, o⟩
  · exact absurd q n
  · rw [hv] at hw; cases hw; exact o
/-- a result stands for a slot's content: somewhere among the cells, at the result's own value -/
theorem rsl_own {c : Cl} {s : Sl} (h : Res K mg G H cs) (hc : ClR K mg G H c) (hv : c.v = some v) (hs : c.s = r.sl) (hb : Bor (vals cs) r v) (e : rsl (slots cs) r = some s) (n : s ≠ .no) : ∃ A, Own K mg G H s v A := by
  cases r with
  | val x => cases e; exact ⟨_, hc.own hv hs n⟩
  | own s => cases e; exact ⟨_, hc.own hv hs n⟩
  | bor i =>
    obtain ⟨c', e3, e4⟩ := cell_at (show (slots cs)[i]? = some s from e)
    have q := hb i rfl
    rw [List.getElem?_map, e3] at q
    exact ⟨_, (h.ok c' (List.mem_of_getElem? e3)).own (Option.some.inj q) e4 n⟩
theorem dat_rep {c : Cl} (h : Res K mg G H cs) (hc : ClR K mg G H c) (hv : c.v = some v) (hs : c.s = r.sl) (hb : Bor (vals cs) r v) (e : dat (slots cs) r = some d) : Rep K mg H d v := by
  obtain ⟨s, e1, e2⟩ := Option.bind_eq_some_iff.mp e
  obtain ⟨A, o⟩ := rsl_own h hc hv hs hb e1 (by rintro rfl; unfold Sl.toD at e2; cases e2)
  exact Own.toD h.same o e2 fun _ _ _ q => q
theorem lrv_rep {c : Cl} {xs : List D} (h : Res K mg G H cs) (hc : ClR K mg G H c) (hv : c.v = some v) (hs : c.s = r.sl) (hb : Bor (vals cs) r v) (e : lrv (slots cs) r = some xs) : ∃ a vs, v = .ref a ∧ Rd H a (.lst vs) ∧ Reps K mg G xs vs := by
  obtain ⟨s, e1, e2⟩ := Option.bind_eq_some_iff.mp e
  obtain ⟨A, o⟩ := rsl_own h hc hv hs hb e1 (by rintro rfl; unfold Sl.lr at e2; cases e2)
  cases o with
  | fz hr =>
    cases hr with
    | lst q rs => unfold Sl.lr at e2; cases e2; exact ⟨_, _, rfl, same_rd h.same q, rs⟩
    | _ => simp [Sl.lr] at e2
  | ow q rs => unfold Sl.lr at e2; cases e2; exact ⟨_, _, rfl, Rd.of q, rs⟩
  | dk _ _ => simp [Sl.lr] at e2
  | ob _ _ _ => simp [Sl.lr] at e2
  | nl _ _ => simp [Sl.lr] at e2
  | nt _ _ => simp [Sl.lr] at e2
theorem lsv_rep {c : Cl} {xs : List D} (h : Res K mg G H cs) (hc : ClR K mg G H c) (hv : c.v = some v) (hs : c.s = r.sl) (hb : Bor (vals cs) r v) (e : lsv (slots cs) r = some xs) : ∃ a vs, v = .ref a ∧ SqL K H a vs ∧ Reps K mg G xs vs := by
  obtain ⟨s, e1, e2⟩ := Option.bind_eq_some_iff.mp e
  obtain ⟨A, o⟩ := rsl_own h hc hv hs hb e1 (by rintro rfl; unfold Sl.ls at e2; cases e2)
  cases o with
  | fz hr =>
    cases hr with
    | lst q rs => unfold Sl.ls at e2; cases e2; exact ⟨_, _, rfl, .inl (same_rd h.same q), rs⟩
    | scr q rs => unfold Sl.ls at e2; cases e2; exact ⟨_, _, rfl, h.same.seq q, rs⟩
    | _ => simp [Sl.ls] at e2
  | ow q rs => unfold Sl.ls at e2; cases e2; exact ⟨_, _, rfl, SqL.of q, rs⟩
  | dk _ _ => simp [Sl.ls] at e2
  | ob _ _ _ => simp [Sl.ls] at e2
  | nl _ _ => simp [Sl.ls] at e2
  | nt _ _ => simp [Sl.ls] at e2
theorem tpv_rep {c : Cl} {xs : List D} (h : Res K mg G H cs) (hc : ClR K mg G H c) (hv : c.v = some v) (hs : c.s = r.sl) (hb : Bor (vals cs) r v) (e : tpv (slots cs) r = some xs) : ∃ a vs, v = .ref a ∧ SqT K H a vs ∧ Reps K mg G xs vs := by
  obtain ⟨s, e1, e2⟩ := Option.bind_eq_some_iff.mp e
  obtain ⟨A, o⟩ := rsl_own h hc hv hs hb e1 (by rintro rfl; unfold Sl.tp at e2; cases e2)
  cases o with
  | fz hr =>
    cases hr with
    | tup q rs => unfold Sl.tp at e2; cases e2; exact ⟨_, _, rfl, same_sqT h.same q, rs⟩
    | _ => simp [Sl.tp] at e2
  | ow q rs => simp [Sl.tp] at e2
  | dk _ _ => simp [Sl.tp] at e2
  | ob _ _ _ => simp [Sl.tp] at e2
  | nl _ _ => simp [Sl.tp] at e2
  | nt _ _ => simp [Sl.tp] at e2
/-- drop the waiting cells -/
theorem Res.drop (r : Res K mg G H (ds ++ cs)) : Res K mg G H cs := r.right
theorem own_sub_right : ∀ b ∈ own cs, b ∈ own (ds ++ cs) := fun b hb => by rw [own_append]; exact List.mem_append_right _ hb
theorem own_sub_left : ∀ b ∈ own ds, b ∈ own (ds ++ cs) := fun b hb => by rw [own_append]; exact List.mem_append_left _ hb
/-- two expressions -/
theorem two {ma mb : M} {σ : St} {R : V → V → Hp → Prop} {r1 r2 : Rv} {ρ1 ρ2 : List Sl} (e1 : vals cs = σ) (rs : Res K mg G H cs) (h1 : ma (slots cs) = some (r1, ρ1)) (h2 : mb ρ1 = some (r2, ρ2))
    (k : ∀ cs2 v w B1 B2 G2 H2, vals cs2 = σ → slots cs2 = ρ2 → Bor σ r1 v → Bor σ r2 w → Res K mg G2 H2 (⟨some v, r1.sl, B1⟩ :: ⟨some w, r2.sl, B2⟩ :: cs2) → Stp (own cs) G H (own (⟨some v, r1.sl, B1⟩ :: ⟨some w, r2.sl, B2⟩ :: cs2)) G2 H2 → R v w H2) :
    tM K mg ma σ H fun x H1 => tM K mg mb σ H1 fun y H2 => R x y H2 := by
  refine ⟨cs, G, r1, ρ1, e1, rs, h1, fun cs1 v B1 G1 H1 f1 f2 fb rs1 st1 => ⟨cs1, G1, r2, ρ2, f1, rs1.tail, by rw [f2]; exact h2, fun cs2 w B2 G2 H2 g1 g2 gb rs2 st2 => ?_⟩⟩
  exact k cs2 v w B1 B2 G2 H2 g1 g2 fb gb (Res.frame (ds := [_]) rs1 st2 rs2) (st1.trans (Stp.under (ds := [_]) rs1 st2))
end

/-! ### expressions -/
section
variable {X : Cx} {a b c e : Expr} {ma mb mc : M} {pos : Pos}
def mVar (i : Nat) : M := fun ρ => match ρ[i]? with
  | some (.fz d) => some (.val d, ρ)
  | some .no => none
  | none => none
  | some _ => some (.bor i, ρ)
theorem se_var {i : Nat} {x : Str} (hN : X.N[i]? = some x := by rfl) (hv : Vis X.env.scope x := by first | exact Or.inl rfl | exact Or.inr (Or.inl rfl) | exact Or.inr (Or.inr rfl)) (hd : (x == ("__debug__" : Str)) = false := by decide)
    (hcd : (x == ("__classdict__" : Str)) = false := by decide) : SE X (.Name x pos) (mVar i) := by
  refine PE.imp (pe_var hN hv hd hcd) fun σ H Q h => ?_
  obtain ⟨cs, G, r, ρ', e1, rs, hm, k⟩ := h
  subst e1
  have main : ∀ s, (slots cs)[i]? = some s → s ≠ .no → ∃ v A, cs[i]? = some ⟨some v, s, A⟩ := by
    intro s e ns
    obtain ⟨⟨o, s', A⟩, e3, e4⟩ := cell_at e
    have e4 : s' = s := e4
    subst e4
    rcases rs.ok _ (List.mem_of_getElem? e3) with ⟨z, _⟩ | ⟨v, hv, _⟩
    · exact absurd z ns
    · have hv : o = some v := hv
      subst hv
      exact ⟨v, A, e3⟩
  unfold mVar at hm
  split at hm
  · rename_i d e
    obtain ⟨v, A, e3⟩ := main _ e (by simp)
    cases hm
    have rep : Rep X.K X.mg G d v := by
      rcases rs.ok _ (List.mem_of_getElem? e3) with ⟨z, _⟩ | ⟨w, hw, o⟩
      · cases z
      · have hw : some v = some w := hw
        cases hw
        cases o with | fz q => exact q
    refine ⟨v, by show (vals cs)[i]? = _; rw [List.getElem?_map, e3]; rfl, ?_⟩
    exact k cs v [] G H rfl rfl (fun j hj => by cases hj) (rs.addFz rep) (Stp.refl.weak fun b hb => by simpa [own_cons] using hb)
  · cases hm
  · cases hm
  · rename_i s n1 n2 e
    obtain ⟨v, A, e3⟩ := main _ e (fun z => n2 z)
    cases hm
    have ev : (vals cs)[i]? = some (some v) := by rw [List.getElem?_map, e3]; rfl
    exact ⟨v, ev, k cs v [] G H rfl rfl (fun j hj => by cases hj; exact ev) (rs.addNo _) (Stp.refl.weak fun b hb => by simpa [own_cons] using hb)⟩
end
end FW

namespace FW
open PySem L2

theorem split_at {α : Type} {l : List α} {i : Nat} {c : α} (h : l[i]? = some c) : ∃ l1 l2, l = l1 ++ c :: l2 ∧ l1.length = i := by
  obtain ⟨hi, e⟩ := List.getElem?_eq_some_iff.mp h
  refine ⟨l.take i, l.drop (i + 1), ?_, by rw [List.length_take]; omega⟩
  subst e
  rw [← List.drop_eq_getElem_cons hi, List.take_append_drop]
theorem set_mid {α : Type} {l1 l2 : List α} {a b : α} {i : Nat} (h : l1.length = i) : (l1 ++ a :: l2).set i b = l1 ++ b :: l2 := by
  subst h
  simp
/-- a result frozen -/
def frz1 (ρ : List Sl) : Rv → Option (D × List Sl)
  | .val d => some (d, ρ)
  | .own s => s.toD.map fun d => (d, ρ)
  | .bor i => ((ρ[i]?).bind Sl.toD).map fun d => (d, ρ.set i (.fz d))
section
variable {K : PySem.W.Frag} {mg : Str → Option Value} {G H G' H' : Hp} {cs ds : List Cl} {v : V} {r : Rv} {B : List Addr} {d : D} {c : Cl} {ρ' : List Sl}
theorem Res.val (h : Res K mg G H (⟨some v, .fz d, B⟩ :: cs)) : Rep K mg G d v ∧ B = [] := by
  rcases h.ok _ List.mem_cons_self with ⟨z, _⟩ | ⟨w, hw, o⟩
  · cases z
  · have hw : some v = some w := hw
    cases hw
    have o : Own K mg G H (.fz d) v B := o
    cases o
    exact ⟨by assumption, rfl⟩
/-- a slot frozen where it stands -/
theorem Res.freezeAt {i : Nat} {s : Sl} (h : Res K mg G H cs) (e : cs[i]? = some ⟨some v, s, B⟩) (hd : s.toD = some d) :
    ∃ G', Rep K mg G' d v ∧ Res K mg G' H (cs.set i ⟨some v, .fz d, []⟩) ∧ Stp (own cs) G H (own (cs.set i ⟨some v, .fz d, []⟩)) G' H := by
  obtain ⟨l1, l2, rfl, hl⟩ := split_at e
  obtain ⟨G', w, e1, rp, rs, st⟩ := Res.freeze (h.perm List.perm_middle) hd
  cases e1
  rw [set_mid hl]
  refine ⟨G', rp, rs.perm List.perm_middle.symm, (st.perm (own_perm List.perm_middle.symm)).more fun b hb => ?_⟩
  exact (own_perm List.perm_middle.symm).mem_iff.mp hb
theorem set_vals {i : Nat} {c' : Cl} {c : Cl} (e : cs[i]? = some c) (hv : c'.v = c.v) : vals (cs.set i c') = vals cs := by
  obtain ⟨l1, l2, rfl, hl⟩ := split_at e
  rw [set_mid hl]
  simp [hv]
theorem set_slots {i : Nat} {c' : Cl} : slots (cs.set i c') = (slots cs).set i c'.s := by
  unfold slots
  rw [List.map_set]
theorem frz_ok (h : Res K mg G H (⟨some v, r.sl, B⟩ :: cs)) (hb : Bor (vals cs) r v) (e : frz1 (slots cs) r = some (d, ρ')) :
    ∃ cs' G', vals cs' = vals cs ∧ slots cs' = ρ' ∧ cs'.length = cs.length ∧ Rep K mg G' d v ∧ Res K mg G' H cs' ∧ Stp (own (⟨some v, r.sl, B⟩ :: cs)) G H (own cs') G' H := by
  cases r with
  | val x =>
    cases e
    obtain ⟨rp, rfl⟩ := h.val
    exact ⟨cs, G, rfl, rfl, rfl, rp, h.tail, Stp.refl.weak fun b hb => by simpa [own_cons] using hb⟩
  | own s =>
    obtain ⟨d', e1, e2⟩ := Option.map_eq_some_iff.mp e
    cases e2
    obtain ⟨G', w, e3, rp, rs, st⟩ := Res.freeze h e1
    cases e3
    exact ⟨cs, G', rfl, rfl, rfl, rp, rs.tail, st.weak fun b hb => by simpa [own_cons] using hb⟩
  | bor i =>
    obtain ⟨d', e1, e2⟩ := Option.map_eq_some_iff.mp e
    cases e2
    obtain ⟨s, e3, e4⟩ := Option.bind_eq_some_iff.mp e1
    obtain ⟨⟨o, s', A⟩, e5, e6⟩ := cell_at e3
    have e6 : s' = s := e6
    subst e6
    have q := hb i rfl
    rw [List.getElem?_map, e5] at q
    have q : o = some v := Option.some.inj q
    subst q
    obtain ⟨G', rp, rs, st⟩ := h.tail.freezeAt e5 e4
    refine ⟨cs.set i ⟨some v, .fz d, []⟩, G', set_vals e5 rfl, set_slots, by rw [List.length_set], rp, rs, st.more fun b hb => ?_⟩
    rw [own_cons]
    exact List.mem_append_right _ hb
def scV : D → Option V
  | .non => some .non
  | .bl b => some (.bl b)
  | .int i => some (.int i)
  | .str x => some (.str x)
  | _ => none
theorem sc_rep {z : D} {u : V} (h : scV z = some u) : Rep K mg G z u := by
  cases z <;> simp [scV] at h <;> subst h
  · exact .non
  · exact .bl _
  · exact .int _
  · exact .str _
/-- a list of results frozen, from the left -/
def frzA (ρ : List Sl) : List Rv → Option (List D × List Sl)
  | [] => some ([], ρ)
  | r :: rs => (frz1 ρ r).bind fun x => (frzA x.2 rs).map fun y => (x.1 :: y.1, y.2)
theorem frzA_ok : ∀ {rs : List Rv} {cs ds : List Cl} {G : Hp} {vs : List V} {xs : List D} {ρ' : List Sl}, Res K mg G H (ds ++ cs) → Bors (vals cs) rs vs → vals ds = vs.map some → slots ds = rs.map Rv.sl → frzA (slots cs) rs = some (xs, ρ') →
    ∃ cs' G', vals cs' = vals cs ∧ slots cs' = ρ' ∧ Reps K mg G' xs vs ∧ Res K mg G' H cs' ∧ Stp (own (ds ++ cs)) G H (own cs') G' H
  | [], cs, ds, G, vs, xs, ρ', h, hb, e1, e2, e => by
    have : ds = [] := by cases ds <;> simp [slots] at e2 ⊢
    subst this
    have : vs = [] := by cases vs <;> simp [vals] at e1 ⊢
    subst this
    cases e
    exact ⟨cs, G, rfl, rfl, .nil, h, Stp.refl⟩
  | r :: rs, cs, ds, G, vs, xs, ρ', h, hb, e1, e2, e => by
    cases vs with
    | nil => exact hb.elim
    | cons v vs =>
      cases ds with
      | nil => simp [vals] at e1
      | cons c ds =>
        obtain ⟨cv, s, B⟩ := c
        simp only [vals, List.map_cons, List.cons.injEq] at e1
        simp only [slots, List.map_cons, List.cons.injEq] at e2
        obtain ⟨q1, e1⟩ := e1
        obtain ⟨q2, e2⟩ := e2
        subst q1; subst q2
        obtain ⟨x, ex, e⟩ := Option.bind_eq_some_iff.mp e
        obtain ⟨y, ey, e⟩ := Option.map_eq_some_iff.mp e
        cases e
        obtain ⟨x1, x2⟩ := x
        obtain ⟨y1, y2⟩ := y
        have hp : List.Perm (⟨some v, r.sl, B⟩ :: ds ++ cs) (ds ++ (⟨some v, r.sl, B⟩ :: cs)) := (List.perm_middle (l₁ := ds) (a := (⟨some v, r.sl, B⟩ : Cl)) (l₂ := cs)).symm
        have h' := h.perm hp
        obtain ⟨c1, G1, f1, f2, f3, rp, rs1, st1⟩ := frz_ok h'.right hb.1 ex
        have h2 := Res.frame h' st1 rs1
        obtain ⟨c2, G2, g1, g2, rp2, rs2, st2⟩ := frzA_ok h2 (by rw [f1]; exact hb.2) e1 e2 (by rw [f2]; exact ey)
        refine ⟨c2, G2, g1.trans f1, g2, .cons (rp.mono st2.gs) rp2, rs2, ?_⟩
        refine Stp.more (((Stp.under h' st1)).trans st2) fun b hb => ?_
        exact (own_perm hp.symm).mem_iff.mp hb
end
/-! ### what a reading hands on -/
section
variable {K : PySem.W.Frag} {mg : Str → Option Value} {G H G' H' : Hp} {cs ds : List Cl} {v : V} {r : Rv} {B : List Addr} {d : D} {c : Cl} {ρ' : List Sl} {σ : L2.St} {Q : VK}
/-- the continuation of tM -/
abbrev Kn (K : PySem.W.Frag) (mg : Str → Option Value) (σ : L2.St) (cs : List Cl) (G H : Hp) (r : Rv) (ρ' : List Sl) (Q : VK) : Prop :=
  ∀ cs' v B G' H', vals cs' = σ → slots cs' = ρ' → Bor σ r v → Res K mg G' H' (⟨some v, r.sl, B⟩ :: cs') → Stp (own cs) G H (own (⟨some v, r.sl, B⟩ :: cs')) G' H' → Q v H'
/-- a frozen value, no change -/
theorem Kn.fz (k : Kn K mg σ cs G H (.val d) ρ' Q) {cs' : List Cl} (e1 : vals cs' = σ) (e2 : slots cs' = ρ') (rs : Res K mg G' H' cs') (st : Stp (own cs) G H (own cs') G' H') (rp : Rep K mg G' d v) : Q v H' :=
  k cs' v [] G' H' e1 e2 (fun i h => nomatch h) (rs.addFz rp) (st.weak fun b hb => by simpa [own_cons, Rv.sl] using hb)
/-- a new list, owned -/
theorem Kn.newL {xs : List D} {vs : List V} {p : Addr} (k : Kn K mg σ cs G H (.own (.ow xs)) ρ' Q) {cs' : List Cl} (e1 : vals cs' = σ) (e2 : slots cs' = ρ') (rs : Res K mg G' H' cs') (st : Stp (own cs) G H (own cs') G' H') (rp : Reps K mg G' xs vs) (hp : H' p = none) :
    Q (.ref p) (upd H' p (.lst vs)) :=
  k cs' (.ref p) [p] G' _ e1 e2 (fun i h => nomatch h) (rs.newL hp rp) ((st.trans (Stp.alloc hp)).weak fun b hb => by simpa [own_cons, Rv.sl] using hb)
/-- a new tuple, frozen -/
theorem Kn.newT {xs : List D} {vs : List V} {p : Addr} (k : Kn K mg σ cs G H (.val (.tup xs)) ρ' Q) {cs' : List Cl} (e1 : vals cs' = σ) (e2 : slots cs' = ρ') (rs : Res K mg G' H' cs') (st : Stp (own cs) G H (own cs') G' H') (rp : Reps K mg G' xs vs) (hp : H' p = none) :
    Q (.ref p) (upd H' p (.tup vs)) := by
  have gp : G' p = none := rs.same.free hp
  exact Kn.fz k e1 e2 (rs.newG hp) (st.trans (Stp.allocG hp gp)) (.tup (SqT.of upd_same) (rp.mono (sameUpdG gp)))
theorem Stp.back2 {c1 c2 : Cl} {A : List Addr} {G1 H1 : Hp} (st : Stp A G H (own (c1 :: c2 :: cs)) G1 H1) : Stp A G H (own cs) G1 H1 := st.weak fun b hb => by
  rw [own_cons, own_cons]; exact List.mem_append_right _ (List.mem_append_right _ hb)
theorem Stp.back1 {c1 : Cl} {A : List Addr} {G1 H1 : Hp} (st : Stp A G H (own (c1 :: cs)) G1 H1) : Stp A G H (own cs) G1 H1 := st.weak fun b hb => by
  rw [own_cons]; exact List.mem_append_right _ hb
end
end FW

namespace FW
noncomputable section
open PySem L2

theorem Res.h1 {K : PySem.W.Frag} {mg : Str → Option Value} {G H : Hp} {c : Cl} {cs : List Cl} (r : Res K mg G H (c :: cs)) : ClR K mg G H c := r.ok _ List.mem_cons_self
theorem Res.h2 {K : PySem.W.Frag} {mg : Str → Option Value} {G H : Hp} {b c : Cl} {cs : List Cl} (r : Res K mg G H (b :: c :: cs)) : ClR K mg G H c := r.ok _ (List.mem_cons_of_mem _ List.mem_cons_self)
theorem OpR.or {X : Cx} {f : Value → Value → Sem Value} {r r' : R2} (h : OpR X f r) (h' : OpR X f r') : OpR X f (fun x y H Q => r x y H Q ∨ r' x y H Q) := by
  intro pins s σ H x y v u Q I rx ry q
  rcases q with q | q
  · exact h pins s σ H x y v u Q I rx ry q
  · exact h' pins s σ H x y v u Q I rx ry q
section
variable {X : Cx} {a b c e : Expr} {ma mb mc : M} {pos : Pos} {K : PySem.W.Frag} {mg : Str → Option Value}
def mC (d : D) : M := fun ρ => some (.val d, ρ)
theorem rd_const {d : D} {v : V} (hv : scV d = some v) : ∀ σ H Q, tM K mg (mC d) σ H Q → tC v σ H Q := by
  intro σ H Q h
  obtain ⟨cs, G, r, ρ', e1, rs, hm, k⟩ := h
  cases hm
  exact Kn.fz k e1 rfl rs Stp.refl (sc_rep hv)
theorem se_int {i j} : SE X (.Constant (.int i) j pos) (mC (.int i)) := PE.imp pe_int (rd_const rfl)
theorem se_bl {i j} : SE X (.Constant (.bool i) j pos) (mC (.bl i)) := PE.imp pe_bl (rd_const rfl)
theorem se_str {i j} : SE X (.Constant (.str i) j pos) (mC (.str i)) := PE.imp pe_str (rd_const rfl)
theorem se_non {j} : SE X (.Constant .none j pos) (mC .non) := PE.imp pe_non (rd_const rfl)

/-- a two-place operation that hands back a scalar -/
def mBin (f : D → D → Option D) (a b : M) : M := fun ρ => (a ρ).bind fun x => (b x.2).bind fun y => (dat y.2 x.1).bind fun d => (dat y.2 y.1).bind fun e => (f d e).map fun z => (.val z, y.2)
/-- a rule of a two-place operation is one of data -/
def Op2 (K : PySem.W.Frag) (mg : Str → Option Value) (f : D → D → Option D) (R : R2) : Prop :=
  ∀ (x y z : D) (H : Hp) (v w : V) (Q : VK), f x y = some z → Rep K mg H x v → Rep K mg H y w → (∀ u, scV z = some u → Q u H) → R v w H Q
theorem rd_bin {f : D → D → Option D} {R : R2} (hr : Op2 K mg f R) : ∀ σ H Q, tM K mg (mBin f ma mb) σ H Q → tOp R (tM K mg ma) (tM K mg mb) σ H Q := by
  intro σ H Q h
  obtain ⟨cs, G, r, ρ', e1, rs, hm, k⟩ := h
  obtain ⟨⟨r1, ρ1⟩, h1, hm⟩ := Option.bind_eq_some_iff.mp hm
  obtain ⟨⟨r2, ρ2⟩, h2, hm⟩ := Option.bind_eq_some_iff.mp hm
  obtain ⟨d, hd, hm⟩ := Option.bind_eq_some_iff.mp hm
  obtain ⟨e, he, hm⟩ := Option.bind_eq_some_iff.mp hm
  obtain ⟨z, hz, hm⟩ := Option.map_eq_some_iff.mp hm
  cases hm
  refine two e1 rs h1 h2 fun cs2 v w B1 B2 G2 H2 f1 f2 b1 b2 rs2 st2 => ?_
  subst f1; subst f2
  refine hr d e z H2 v w Q hz ?_ ?_ fun u hu => ?_
  · exact dat_rep rs2.tail.tail rs2.h1 rfl rfl b1 hd
  · exact dat_rep rs2.tail.tail rs2.h2 rfl rfl b2 he
  · exact Kn.fz k rfl rfl rs2.tail.tail st2.back2 (sc_rep hu)
theorem se_bin {op : Operator} {f : D → D → Option D} {R : R2} (ho : OpR X (binaryOp op) R) (hr : Op2 X.K X.mg f R) (ha : SE X a ma) (hb : SE X b mb) : SE X (.BinOp a op b pos) (mBin f ma mb) := PE.imp (pe_op ho ha hb) (rd_bin hr)
theorem se_cmp {op : CmpOp} {f : D → D → Option D} {R : R2} (ho : OpR X (compareOp op) R) (hr : Op2 X.K X.mg f R) (ha : SE X a ma) (hb : SE X b mb) (hm : behindInMarks op b = false) : SE X (.Compare a [op] [b] pos) (mBin f ma mb) := PE.imp (pe_cmpR ho ha hb hm) (rd_bin hr)
/-- a value that is a bool, as a test -/
def mB (m : M) : MT := fun ρ => match m ρ with
  | some (.val (.bl b), ρ') => some (b, ρ')
  | _ => none
theorem mB_some {m : M} {ρ ρ' : List Sl} {b : Bool} (h : mB m ρ = some (b, ρ')) : m ρ = some (.val (.bl b), ρ') := by
  unfold mB at h
  split at h
  · rename_i e; cases h; exact e
  · cases h
theorem rd_B {m : M} : ∀ σ H (Q : Bool → Hp → Prop), tMT K mg (mB m) σ H Q → tM K mg m σ H fun x H' => ∃ k, x = .bl k ∧ Q k H' := by
  intro σ H Q h
  obtain ⟨cs, G, b, ρ', e1, rs, hm, k⟩ := h
  refine ⟨cs, G, _, _, e1, rs, mB_some hm, fun cs' v B G' H' f1 f2 fb rs' st' => ?_⟩
  obtain ⟨rp, rfl⟩ := rs'.val
  exact ⟨b, rp.bl_iff, k cs' G' H' f1 f2 rs'.tail st'.back1⟩
theorem tM_mono {m : M} {σ : L2.St} {H : Hp} {Q Q' : VK} (h : tM K mg m σ H Q) (k : ∀ v H, Q v H → Q' v H) : tM K mg m σ H Q' := by
  obtain ⟨cs, G, r, ρ', e1, rs, hm, q⟩ := h
  exact ⟨cs, G, r, ρ', e1, rs, hm, fun cs' v B G' H' f1 f2 fb rs' st' => k _ _ (q cs' v B G' H' f1 f2 fb rs' st')⟩
theorem tMT_mono {m : MT} {σ : L2.St} {H : Hp} {Q Q' : Bool → Hp → Prop} (h : tMT K mg m σ H Q) (k : ∀ v H, Q v H → Q' v H) : tMT K mg m σ H Q' := by
  obtain ⟨cs, G, r, ρ', e1, rs, hm, q⟩ := h
  exact ⟨cs, G, r, ρ', e1, rs, hm, fun cs' G' H' f1 f2 rs' st' => k _ _ (q cs' G' H' f1 f2 rs' st')⟩
theorem st_val {m : M} (h : SE X e m) (he : ∀ whole, isTrue e X.env whole = (do let v ← whole; standAt e.pos; holding [v] (truthy v)) := by intro _; rfl) : STe X e (mB m) := PT.imp (pt_val h he) rd_B
theorem st_cmp {op : CmpOp} {f : D → D → Option D} {R : R2} (ho : OpR X (compareOp op) R) (hr : Op2 X.K X.mg f R) (ha : SE X a ma) (hb : SE X b mb) (hm : behindInMarks op b = false) : STe X (.Compare a [op] [b] pos) (mB (mBin f ma mb)) :=
  PT.imp (pt_cmpR ho ha hb hm) fun σ H Q h => rd_bin hr σ H _ (rd_B σ H Q h)
/-- and, or, not as tests -/
def tAndM (a b : MT) : MT := fun ρ => (a ρ).bind fun x => if x.1 = true then b x.2 else some (false, x.2)
def tOrM (a b : MT) : MT := fun ρ => (a ρ).bind fun x => if x.1 = true then some (true, x.2) else b x.2
def tNotM (a : MT) : MT := fun ρ => (a ρ).map fun x => (!x.1, x.2)
variable {ta tb tc : MT} {rest : List Expr}
theorem sw_and1 (ha : STe X a ta) : SW X (.BoolOp .And [a] pos) ta := pw_and1 ha
theorem sw_or1 (ha : STe X a ta) : SW X (.BoolOp .Or [a] pos) ta := pw_or1 ha
theorem rd_and : ∀ σ H Q, tMT K mg (tAndM ta tb) σ H Q → tAnd (tMT K mg ta) (tMT K mg tb) σ H Q := by
  intro σ H Q h
  obtain ⟨cs, G, b, ρ', e1, rs, hm, k⟩ := h
  obtain ⟨⟨x, ρ1⟩, h1, hm⟩ := Option.bind_eq_some_iff.mp hm
  refine ⟨cs, G, x, ρ1, e1, rs, h1, fun cs1 G1 H1 f1 f2 rs1 st1 => ?_⟩
  subst f2
  cases x with
  | true => exact ⟨cs1, G1, b, ρ', f1, rs1, hm, fun cs2 G2 H2 g1 g2 rs2 st2 => k cs2 G2 H2 g1 g2 rs2 (st1.trans st2)⟩
  | false => cases hm; exact k cs1 G1 H1 f1 rfl rs1 st1
theorem rd_or : ∀ σ H Q, tMT K mg (tOrM ta tb) σ H Q → tOr (tMT K mg ta) (tMT K mg tb) σ H Q := by
  intro σ H Q h
  obtain ⟨cs, G, b, ρ', e1, rs, hm, k⟩ := h
  obtain ⟨⟨x, ρ1⟩, h1, hm⟩ := Option.bind_eq_some_iff.mp hm
  refine ⟨cs, G, x, ρ1, e1, rs, h1, fun cs1 G1 H1 f1 f2 rs1 st1 => ?_⟩
  subst f2
  cases x with
  | false => exact ⟨cs1, G1, b, ρ', f1, rs1, hm, fun cs2 G2 H2 g1 g2 rs2 st2 => k cs2 G2 H2 g1 g2 rs2 (st1.trans st2)⟩
  | true => cases hm; exact k cs1 G1 H1 f1 rfl rs1 st1
theorem sw_and (ha : STe X a ta) (hb : SW X (.BoolOp .And (b :: rest) pos) tb) : SW X (.BoolOp .And (a :: b :: rest) pos) (tAndM ta tb) := PW.imp (pw_and ha hb) rd_and
theorem sw_or (ha : STe X a ta) (hb : SW X (.BoolOp .Or (b :: rest) pos) tb) : SW X (.BoolOp .Or (a :: b :: rest) pos) (tOrM ta tb) := PW.imp (pw_or ha hb) rd_or
theorem st_bool {m : MT} (h : SW X e m) : STe X e m := PW.pt h
theorem st_not (ha : STe X a ta) : STe X (.UnaryOp .Not a pos) (tNotM ta) := PT.imp (pt_not ha) fun σ H Q h => by
  obtain ⟨cs, G, b, ρ', e1, rs, hm, k⟩ := h
  obtain ⟨⟨x, ρ1⟩, h1, hm⟩ := Option.map_eq_some_iff.mp hm
  cases hm
  exact ⟨cs, G, x, ρ1, e1, rs, h1, k⟩
/-- .. as values -/
def mAnd (a b : M) : M := fun ρ => match a ρ with
  | some (.val (.bl c), ρ1) => if c = true then b ρ1 else some (.val (.bl false), ρ1)
  | _ => none
def mOr (a b : M) : M := fun ρ => match a ρ with
  | some (.val (.bl c), ρ1) => if c = true then some (.val (.bl true), ρ1) else b ρ1
  | _ => none
def mNot (a : M) : M := fun ρ => match a ρ with
  | some (.val (.bl c), ρ1) => some (.val (.bl (!c)), ρ1)
  | _ => none
theorem tM_step {m : M} {σ : L2.St} {H : Hp} {Q : VK} {cs : List Cl} {G : Hp} {r : Rv} {ρ' : List Sl} {cs1 : List Cl} {G1 H1 : Hp} (k : Kn K mg σ cs G H r ρ' Q) (f1 : vals cs1 = σ) (rs1 : Res K mg G1 H1 cs1) (st1 : Stp (own cs) G H (own cs1) G1 H1)
    (hm : m (slots cs1) = some (r, ρ')) : tM K mg m σ H1 Q :=
  ⟨cs1, G1, r, ρ', f1, rs1, hm, fun cs2 v B G2 H2 g1 g2 gb rs2 st2 => k cs2 v B G2 H2 g1 g2 gb rs2 (st1.trans st2)⟩
theorem se_and1 {op} (ha : SE X a ma) : SE X (.BoolOp op [a] pos) ma := pe_one ha
theorem se_and (ha : SE X a ma) (hb : SE X (.BoolOp .And (b :: rest) pos) mb) : SE X (.BoolOp .And (a :: b :: rest) pos) (mAnd ma mb) := PE.imp (pe_and ha hb) fun σ H Q h => by
  obtain ⟨cs, G, r, ρ', e1, rs, hm, k⟩ := h
  unfold mAnd at hm
  split at hm
  · rename_i c ρ1 ea
    refine ⟨cs, G, _, ρ1, e1, rs, ea, fun cs1 v B G1 H1 f1 f2 fb rs1 st1 => ?_⟩
    subst f2
    obtain ⟨rp, rfl⟩ := rs1.val
    refine ⟨c, rp.bl_iff, ?_⟩
    cases c with
    | true => exact tM_step k f1 rs1.tail st1.back1 hm
    | false => cases hm; exact Kn.fz k f1 rfl rs1.tail st1.back1 (.bl false)
  · cases hm
theorem se_or (ha : SE X a ma) (hb : SE X (.BoolOp .Or (b :: rest) pos) mb) : SE X (.BoolOp .Or (a :: b :: rest) pos) (mOr ma mb) := PE.imp (pe_or ha hb) fun σ H Q h => by
  obtain ⟨cs, G, r, ρ', e1, rs, hm, k⟩ := h
  unfold mOr at hm
  split at hm
  · rename_i c ρ1 ea
    refine ⟨cs, G, _, ρ1, e1, rs, ea, fun cs1 v B G1 H1 f1 f2 fb rs1 st1 => ?_⟩
    subst f2
    obtain ⟨rp, rfl⟩ := rs1.val
    refine ⟨c, rp.bl_iff, ?_⟩
    cases c with
    | false => exact tM_step k f1 rs1.tail st1.back1 hm
    | true => cases hm; exact Kn.fz k f1 rfl rs1.tail st1.back1 (.bl true)
  · cases hm
theorem se_not (ha : SE X a ma) : SE X (.UnaryOp .Not a pos) (mNot ma) := PE.imp (pe_not ha) fun σ H Q h => by
  obtain ⟨cs, G, r, ρ', e1, rs, hm, k⟩ := h
  unfold mNot at hm
  split at hm
  · rename_i c ρ1 ea
    cases hm
    refine ⟨cs, G, _, _, e1, rs, ea, fun cs1 v B G1 H1 f1 f2 fb rs1 st1 => ?_⟩
    subst f2
    obtain ⟨rp, rfl⟩ := rs1.val
    exact ⟨c, rp.bl_iff, Kn.fz k f1 rfl rs1.tail st1.back1 (.bl _)⟩
  · cases hm
def mIf (t : MT) (a b : M) : M := fun ρ => (t ρ).bind fun x => if x.1 = true then a x.2 else b x.2
theorem se_if (ht : STe X c tc) (ha : SE X a ma) (hb : SE X b mb) : SE X (.IfExp c a b pos) (mIf tc ma mb) := PE.imp (pe_ifExp ht ha hb) fun σ H Q h => by
  obtain ⟨cs, G, r, ρ', e1, rs, hm, k⟩ := h
  obtain ⟨⟨x, ρ1⟩, h1, hm⟩ := Option.bind_eq_some_iff.mp hm
  refine ⟨cs, G, x, ρ1, e1, rs, h1, fun cs1 G1 H1 f1 f2 rs1 st1 => ?_⟩
  subst f2
  cases x with
  | true => exact tM_step k f1 rs1 st1 hm
  | false => exact tM_step k f1 rs1 st1 hm
/-- one expression's scalar -/
def mUn (f : D → Option D) (a : M) : M := fun ρ => (a ρ).bind fun x => (dat x.2 x.1).bind fun d => (f d).map fun z => (.val z, x.2)
theorem rd_un {f : D → Option D} {R : V → Hp → VK → Prop} (hr : ∀ (x z : D) (H : Hp) (v : V) (Q : VK), f x = some z → Rep K mg H x v → (∀ u, scV z = some u → Q u H) → R v H Q) : ∀ σ H Q, tM K mg (mUn f ma) σ H Q → tM K mg ma σ H fun x H1 => R x H1 Q := by
  intro σ H Q h
  obtain ⟨cs, G, r, ρ', e1, rs, hm, k⟩ := h
  obtain ⟨⟨r1, ρ1⟩, h1, hm⟩ := Option.bind_eq_some_iff.mp hm
  obtain ⟨d, hd, hm⟩ := Option.bind_eq_some_iff.mp hm
  obtain ⟨z, hz, hm⟩ := Option.map_eq_some_iff.mp hm
  cases hm
  refine ⟨cs, G, r1, ρ1, e1, rs, h1, fun cs1 v B G1 H1 f1 f2 fb rs1 st1 => ?_⟩
  subst f1; subst f2
  exact hr d z H1 v Q hz (dat_rep rs1.tail rs1.h1 rfl rfl fb hd) fun u hu => Kn.fz k rfl rfl rs1.tail st1.back1 (sc_rep hu)
def negD : D → Option D
  | .int i => some (.int (-i))
  | _ => none
theorem se_neg (ha : SE X a ma) : SE X (.UnaryOp .USub a pos) (mUn negD ma) := PE.imp (pe_un un_neg ha) (rd_un fun x z H v Q hz rp q => by
  cases x <;> simp [negD] at hz
  subst hz
  exact ⟨_, rp.int_iff, q _ rfl⟩)

/-! ### operators -/
def subD : D → D → Option D
  | .int i, .int j => some (.int (i - j))
  | _, _ => none
def modD : D → D → Option D
  | .int i, .int j => if 0 < j then some (.int (i % j)) else none
  | _, _ => none
def divD : D → D → Option D
  | .int i, .int j => @ite _ (0 < j ∧ j.natAbs.log2 < 9000) (Classical.propDecidable _) (some (.int (i / j))) none
  | _, _ => none
def powD : D → D → Option D
  | .int i, .int j => @ite _ (0 ≤ j ∧ j ≤ 1000000 ∧ i.natAbs < 2 ^ 64) (Classical.propDecidable _) (some (.int (i ^ j.toNat))) none
  | _, _ => none
theorem op2_sub : Op2 K mg subD (rI0 fun i j => .int (i - j)) := fun x y z H v w Q hz rx ry q => by
  unfold subD at hz; split at hz
  · cases hz; exact ⟨_, _, rx.int_iff, ry.int_iff, q _ rfl⟩
  · cases hz
theorem op2_mod : Op2 K mg modD (rI (fun _ j => 0 < j) fun i j => .int (i % j)) := fun x y z H v w Q hz rx ry q => by
  unfold modD at hz; split at hz
  · split at hz
    · cases hz; exact ⟨_, _, rx.int_iff, ry.int_iff, by assumption, q _ rfl⟩
    · cases hz
  · cases hz
theorem op2_div : Op2 K mg divD (rI CDivW fun i j => .int (i / j)) := fun x y z H v w Q hz rx ry q => by
  unfold divD at hz; split at hz
  · split at hz
    · cases hz; exact ⟨_, _, rx.int_iff, ry.int_iff, by assumption, q _ rfl⟩
    · cases hz
  · cases hz
theorem op2_pow : Op2 K mg powD (rI CPow fun i j => .int (i ^ j.toNat)) := fun x y z H v w Q hz rx ry q => by
  unfold powD at hz; split at hz
  · split at hz
    · cases hz; exact ⟨_, _, rx.int_iff, ry.int_iff, by assumption, q _ rfl⟩
    · cases hz
  · cases hz
theorem se_sub (ha : SE X a ma) (hb : SE X b mb) : SE X (.BinOp a .Sub b pos) (mBin subD ma mb) := se_bin op_sub op2_sub ha hb
theorem se_mod (ha : SE X a ma) (hb : SE X b mb) : SE X (.BinOp a .Mod b pos) (mBin modD ma mb) := se_bin op_mod op2_mod ha hb
theorem se_div (ha : SE X a ma) (hb : SE X b mb) : SE X (.BinOp a .FloorDiv b pos) (mBin divD ma mb) := se_bin op_fdivW op2_div ha hb
theorem se_pow (ha : SE X a ma) (hb : SE X b mb) : SE X (.BinOp a .Pow b pos) (mBin powD ma mb) := se_bin op_pow op2_pow ha hb
/-- comparisons of ints -/
def cmpD (p : Int → Int → Bool) : D → D → Option D
  | .int i, .int j => some (.bl (p i j))
  | _, _ => none
theorem op2_cmp {p : Int → Int → Bool} : Op2 K mg (cmpD p) (rI0 fun i j => .bl (p i j)) := fun x y z H v w Q hz rx ry q => by
  unfold cmpD at hz; split at hz
  · cases hz; exact ⟨_, _, rx.int_iff, ry.int_iff, q _ rfl⟩
  · cases hz
abbrev ltD := cmpD fun i j => decide (i < j)
abbrev leD := cmpD fun i j => decide (i ≤ j)
abbrev gtD := cmpD fun i j => decide (j < i)
abbrev geD := cmpD fun i j => decide (j ≤ i)
theorem se_lt (ha : SE X a ma) (hb : SE X b mb) : SE X (.Compare a [.Lt] [b] pos) (mBin ltD ma mb) := se_cmp op_lt op2_cmp ha hb (nomark _)
theorem se_le (ha : SE X a ma) (hb : SE X b mb) : SE X (.Compare a [.LtE] [b] pos) (mBin leD ma mb) := se_cmp op_le op2_cmp ha hb (nomark _)
theorem se_gt (ha : SE X a ma) (hb : SE X b mb) : SE X (.Compare a [.Gt] [b] pos) (mBin gtD ma mb) := se_cmp op_gt op2_cmp ha hb (nomark _)
theorem se_ge (ha : SE X a ma) (hb : SE X b mb) : SE X (.Compare a [.GtE] [b] pos) (mBin geD ma mb) := se_cmp op_ge op2_cmp ha hb (nomark _)
theorem st_lt (ha : SE X a ma) (hb : SE X b mb) : STe X (.Compare a [.Lt] [b] pos) (mB (mBin ltD ma mb)) := st_cmp op_lt op2_cmp ha hb (nomark _)
theorem st_le (ha : SE X a ma) (hb : SE X b mb) : STe X (.Compare a [.LtE] [b] pos) (mB (mBin leD ma mb)) := st_cmp op_le op2_cmp ha hb (nomark _)
theorem st_gt (ha : SE X a ma) (hb : SE X b mb) : STe X (.Compare a [.Gt] [b] pos) (mB (mBin gtD ma mb)) := st_cmp op_gt op2_cmp ha hb (nomark _)
theorem st_ge (ha : SE X a ma) (hb : SE X b mb) : STe X (.Compare a [.GtE] [b] pos) (mB (mBin geD ma mb)) := st_cmp op_ge op2_cmp ha hb (nomark _)
/-- is None -/
def isN : D → Bool
  | .non => true
  | _ => false
def isND (neg : Bool) : D → D → Option D
  | x, .non => some (.bl (isN x != neg))
  | _, _ => none
theorem rep_isN {x : D} {H : Hp} {v : V} (rx : Rep K mg H x v) : decide (v = .non) = isN x := by
  cases rx <;> simp [isN]
theorem se_isN (ha : SE X a ma) (hb : SE X b mb) : SE X (.Compare a [.Is] [b] pos) (mBin (isND false) ma mb) := se_cmp op_isN (fun x y z H v w Q hz rx ry q => by
  unfold isND at hz; split at hz
  · cases hz
    refine ⟨ry.non_iff, ?_⟩
    rw [rep_isN rx]
    refine q _ ?_
    show some (V.bl (isN x != false)) = _
    cases isN x <;> rfl
  · cases hz) ha hb (nomark _)
theorem op2_isNot : Op2 K mg (isND true) (fun x y H Q => y = .non ∧ Q (.bl (!decide (x = .non))) H) := fun x y z H v w Q hz rx ry q => by
  unfold isND at hz; split at hz
  · cases hz
    refine ⟨ry.non_iff, ?_⟩
    rw [rep_isN rx]
    refine q _ ?_
    show some (V.bl (isN x != true)) = _
    cases isN x <;> rfl
  · cases hz
theorem se_notN (ha : SE X a ma) (hb : SE X b mb) : SE X (.Compare a [.IsNot] [b] pos) (mBin (isND true) ma mb) := se_cmp op_notN op2_isNot ha hb (nomark _)
end
end
end FW

namespace FW
noncomputable section
open PySem L2

/-! ### plain data as the model's PyData -/
mutual
def toPy : D → Option PyData
  | .non => some .none
  | .bl b => some (.bool b)
  | .int i => some (.int i)
  | .str x => some (.str x)
  | .lst xs => (toPyL xs).map .list
  | .scr xs => (toPyL xs).map .list
  | .tup xs => (toPyL xs).map .tuple
  | .obj _ _ => none
  | .dct _ => none
  | .exc _ _ => none
def toPyL : List D → Option (List PyData)
  | [] => some []
  | d :: ds => match toPy d, toPyL ds with
    | some p, some ps => some (p :: ps)
    | _, _ => none
end
section
variable {K : PySem.W.Frag} {mg : Str → Option Value} {H : Hp}
mutual
theorem Rep.dp : ∀ {d : D} {v : V} {p : PyData}, Rep K mg H d v → toPy d = some p → Dp K H v p
  | _, _, _, .non, e => by unfold toPy at e; cases e; exact .non
  | _, _, _, .bl b, e => by unfold toPy at e; cases e; exact .bl b
  | _, _, _, .int b, e => by unfold toPy at e; cases e; exact .int b
  | _, _, _, .str b, e => by unfold toPy at e; cases e; exact .str b
  | _, _, _, .lst h r, e => by
    unfold toPy at e
    obtain ⟨ps, e1, e2⟩ := Option.map_eq_some_iff.mp e
    cases e2
    exact .lst (.inl h) (Reps.dp r e1)
  | _, _, _, .scr h r, e => by
    unfold toPy at e
    obtain ⟨ps, e1, e2⟩ := Option.map_eq_some_iff.mp e
    cases e2
    exact .lst h (Reps.dp r e1)
  | _, _, _, .tup h r, e => by
    unfold toPy at e
    obtain ⟨ps, e1, e2⟩ := Option.map_eq_some_iff.mp e
    cases e2
    exact .tup h (Reps.dp r e1)
  | _, _, _, .obj _ _ _, e => by unfold toPy at e; cases e
  | _, _, _, .dct _ _, e => by unfold toPy at e; cases e
  | _, _, _, .exc _ _, e => by unfold toPy at e; cases e
  | _, _, _, .exz _ _ _, e => by unfold toPy at e; cases e
theorem Reps.dp : ∀ {d : List D} {v : List V} {p : List PyData}, Reps K mg H d v → toPyL d = some p → DpAll K H v p
  | _, _, _, .nil, e => by unfold toPyL at e; cases e; exact .nil
  | _, _, _, .cons h r, e => by
    unfold toPyL at e
    split at e
    · rename_i p ps e1 e2
      cases e
      exact .cons (Rep.dp h e1) (Reps.dp r e2)
    · cases e
end
end
/-- == of data (neg: !=) -/
def eqD (neg : Bool) (x y : D) : Option D := match toPy x, toPy y with
  | some p, some q => if SeqAt.shaped p = true ∧ SeqAt.shaped q = true then some (.bl (PyData.eqv p q != neg)) else none
  | _, _ => none
section
variable {X : Cx} {a b c e : Expr} {ma mb mc : M} {pos : Pos} {K : PySem.W.Frag} {mg : Str → Option Value}
theorem op2_eq : Op2 K mg (eqD false) (rEqD K) := fun x y z H v w Q hz rx ry q => by
  unfold eqD at hz
  split at hz
  · rename_i p p' e1 e2
    split at hz
    · rename_i hs
      cases hz
      refine ⟨p, p', rx.dp e1, ry.dp e2, hs.1, hs.2, q _ ?_⟩
      show some (V.bl (PyData.eqv p p' != false)) = _
      rw [Bool.bne_false]
    · cases hz
  · cases hz
theorem op2_ne : Op2 K mg (eqD true) (rNeD K) := fun x y z H v w Q hz rx ry q => by
  unfold eqD at hz
  split at hz
  · rename_i p p' e1 e2
    split at hz
    · rename_i hs
      cases hz
      refine ⟨p, p', rx.dp e1, ry.dp e2, hs.1, hs.2, q _ ?_⟩
      show some (V.bl (PyData.eqv p p' != true)) = _
      rw [Bool.bne_true]
    · cases hz
  · cases hz
theorem se_eq (hu : X.A.units + 64 < cLine) (ha : SE X a ma) (hb : SE X b mb) : SE X (.Compare a [.Eq] [b] pos) (mBin (eqD false) ma mb) := se_cmp (op_eqD hu) op2_eq ha hb (nomark _)
theorem se_ne (hu : X.A.units + 64 < cLine) (ha : SE X a ma) (hb : SE X b mb) : SE X (.Compare a [.NotEq] [b] pos) (mBin (eqD true) ma mb) := se_cmp (op_neD hu) op2_ne ha hb (nomark _)
theorem st_eq (hu : X.A.units + 64 < cLine) (ha : SE X a ma) (hb : SE X b mb) : STe X (.Compare a [.Eq] [b] pos) (mB (mBin (eqD false) ma mb)) := st_cmp (op_eqD hu) op2_eq ha hb (nomark _)
theorem st_ne (hu : X.A.units + 64 < cLine) (ha : SE X a ma) (hb : SE X b mb) : STe X (.Compare a [.NotEq] [b] pos) (mB (mBin (eqD true) ma mb)) := st_cmp (op_neD hu) op2_ne ha hb (nomark _)

/-! ### + and * -/
/-- what a two-place operation hands back: a scalar, or a new list -/
structure Fin (K : PySem.W.Frag) (mg : Str → Option Value) (G H : Hp) (r : Rv) (Q : VK) : Prop where
  v : ∀ d u, r = .val d → Rep K mg G d u → Q u H
  l : ∀ xs p vs, r = .own (.ow xs) → H p = none → Reps K mg G xs vs → Q (.ref p) (upd H p (.lst vs))
  t : ∀ xs p vs, r = .val (.tup xs) → H p = none → Reps K mg G xs vs → Q (.ref p) (upd H p (.tup vs))
theorem Fin.of {σ : L2.St} {cs cs' : List Cl} {G H G' H' : Hp} {r : Rv} {ρ' : List Sl} {Q : VK} (k : Kn K mg σ cs G H r ρ' Q) (e1 : vals cs' = σ) (e2 : slots cs' = ρ') (rs : Res K mg G' H' cs') (st : Stp (own cs) G H (own cs') G' H') : Fin K mg G' H' r Q :=
  ⟨fun d u e rp => by subst e; exact Kn.fz k e1 e2 rs st rp, fun xs p vs e hp rp => by subst e; exact Kn.newL k e1 e2 rs st rp hp, fun xs p vs e hp rp => by subst e; exact Kn.newT k e1 e2 rs st rp hp⟩
/-- a two-place operation by its operands as they stand -/
def mBin2 (f : List Sl → Rv → Rv → Option Rv) (a b : M) : M := fun ρ => (a ρ).bind fun x => (b x.2).bind fun y => (f y.2 x.1 y.1).map fun z => (z, y.2)
def Op2' (K : PySem.W.Frag) (mg : Str → Option Value) (f : List Sl → Rv → Rv → Option Rv) (R : R2) : Prop :=
  ∀ (cs : List Cl) (c1 c2 : Cl) (r1 r2 z : Rv) (G H : Hp) (v w : V) (Q : VK), Res K mg G H cs → ClR K mg G H c1 → c1.v = some v → c1.s = r1.sl → Bor (vals cs) r1 v → ClR K mg G H c2 → c2.v = some w → c2.s = r2.sl → Bor (vals cs) r2 w → f (slots cs) r1 r2 = some z → Fin K mg G H z Q → R v w H Q
theorem rd_bin2 {f : List Sl → Rv → Rv → Option Rv} {R : R2} (hr : Op2' K mg f R) : ∀ σ H Q, tM K mg (mBin2 f ma mb) σ H Q → tOp R (tM K mg ma) (tM K mg mb) σ H Q := by
  intro σ H Q h
  obtain ⟨cs, G, r, ρ', e1, rs, hm, k⟩ := h
  obtain ⟨⟨r1, ρ1⟩, h1, hm⟩ := Option.bind_eq_some_iff.mp hm
  obtain ⟨⟨r2, ρ2⟩, h2, hm⟩ := Option.bind_eq_some_iff.mp hm
  obtain ⟨z, hz, hm⟩ := Option.map_eq_some_iff.mp hm
  cases hm
  refine two e1 rs h1 h2 fun cs2 v w B1 B2 G2 H2 f1 f2 b1 b2 rs2 st2 => ?_
  subst f1; subst f2
  exact hr cs2 _ _ r1 r2 _ G2 H2 v w Q rs2.tail.tail rs2.h1 rfl rfl b1 rs2.h2 rfl rfl b2 hz (Fin.of k rfl rfl rs2.tail.tail st2.back2)
theorem se_bin2 {op : Operator} {f : List Sl → Rv → Rv → Option Rv} {R : R2} (ho : OpR X (binaryOp op) R) (hr : Op2' X.K X.mg f R) (ha : SE X a ma) (hb : SE X b mb) : SE X (.BinOp a op b pos) (mBin2 f ma mb) := PE.imp (pe_op ho ha hb) (rd_bin2 hr)
def rCatR : R2 := fun x y H Q => ∃ l b xs zs, x = .ref l ∧ y = .ref b ∧ Rd H l (.lst xs) ∧ Rd H b (.lst zs) ∧ xs.length + zs.length ≤ sizeLine ∧ ∀ p, H p = none → Q (.ref p) (upd H p (.lst (xs ++ zs)))
theorem op_catR : OpR X (binaryOp .Add) rCatR := by
  intro pins s σ H x y v u Q I rx ry h
  obtain ⟨l, b, xs, zs, rfl, rfl, hH, hB, hz, q⟩ := h
  cases rx
  cases ry
  obtain ⟨z, its, n, r, e⟩ := hH.ok I.hok
  obtain ⟨z2, its2, n2, r2, e2⟩ := hB.ok I.hok
  have hl := r.length
  have hl2 := r2.length
  refine PySem.P.add_list e e2 ?_ (by rw [List.size_toArray, List.size_toArray]; omega)
  have ea : its.toArray ++ its2.toArray = (its ++ its2).toArray := by simp
  rw [ea]
  exact ⟨.ref _, _, Inv.lnew I (t' := s.toks) (r.append r2) (by rw [List.length_append]; omega), rfl, q _ (Inv.fresh I)⟩
abbrev rAddStr : R2 := fun x y H Q => ∃ i j, x = .str i ∧ y = .str j ∧ i.length + j.length ≤ sizeLine ∧ Q (.str (i ++ j)) H
abbrev rAddAll : R2 := fun x y H Q => rI0 (fun i j => .int (i + j)) x y H Q ∨ (rAddStr x y H Q ∨ rCatR x y H Q)
theorem op_addAll : OpR X (binaryOp .Add) rAddAll := OpR.or op_add (OpR.or op_add_str op_catR)
def addV (ρ : List Sl) (x y : Rv) : Option Rv := match dat ρ x, dat ρ y with
  | some (.int i), some (.int j) => some (.val (.int (i + j)))
  | some (.str i), some (.str j) => @ite _ (i.length + j.length ≤ sizeLine) (Classical.propDecidable _) (some (.val (.str (i ++ j)))) none
  | _, _ => (lrv ρ x).bind fun xs => (lrv ρ y).bind fun ys => @ite _ (xs.length + ys.length ≤ sizeLine) (Classical.propDecidable _) (some (.own (.ow (xs ++ ys)))) none
theorem op2_add : Op2' K mg addV rAddAll := fun cs c1 c2 r1 r2 z G H v w Q rs o1 v1 s1 b1 o2 v2 s2 b2 hz q => by
  unfold addV at hz
  split at hz
  · rename_i i j e1 e2
    cases hz
    exact .inl ⟨_, _, (dat_rep rs o1 v1 s1 b1 e1).int_iff, (dat_rep rs o2 v2 s2 b2 e2).int_iff, q.v _ _ rfl (.int _)⟩
  · rename_i i j e1 e2
    split at hz
    · cases hz
      exact .inr (.inl ⟨_, _, (dat_rep rs o1 v1 s1 b1 e1).str_iff, (dat_rep rs o2 v2 s2 b2 e2).str_iff, by assumption, q.v _ _ rfl (.str _)⟩)
    · cases hz
  · obtain ⟨xs, e1, hz⟩ := Option.bind_eq_some_iff.mp hz
    obtain ⟨ys, e2, hz⟩ := Option.bind_eq_some_iff.mp hz
    split at hz
    · rename_i hl
      cases hz
      obtain ⟨l1, vs1, f1, g1, k1⟩ := lrv_rep rs o1 v1 s1 b1 e1
      obtain ⟨l2, vs2, f2, g2, k2⟩ := lrv_rep rs o2 v2 s2 b2 e2
      refine .inr (.inr ⟨l1, l2, vs1, vs2, f1, f2, g1, g2, by rw [k1.length, k2.length]; exact hl, fun p hp => q.l _ p _ rfl hp (k1.append k2)⟩)
    · cases hz
theorem se_add (ha : SE X a ma) (hb : SE X b mb) : SE X (.BinOp a .Add b pos) (mBin2 addV ma mb) := se_bin2 op_addAll op2_add ha hb
theorem op_mulX : OpR X (binaryOp .Mult) (rI IntMulOk fun i j => .int (i * j)) := opI fun _ _ _ _ _ _ _ hc q => PyProof.Rows.mul_int q hc
instance (i j : Int) : Decidable (IntMulOk i j) := inferInstanceAs (Decidable (¬ _))
abbrev rMulAll : R2 := fun x y H Q => rI IntMulOk (fun i j => .int (i * j)) x y H Q ∨ rRep x y H Q
theorem op_mulAll : OpR X (binaryOp .Mult) rMulAll := OpR.or op_mulX op_rep
/-- xs * k of a new list alone -/
def mulV (ρ : List Sl) (x y : Rv) : Option Rv := match dat ρ x, dat ρ y with
  | some (.int i), some (.int j) => @ite _ (IntMulOk i j) (Classical.propDecidable _) (some (.val (.int (i * j)))) none
  | some (.lst _), some (.int k) => match x with
    | .own (.ow xs) => @ite _ (-(2 ^ 63) ≤ k ∧ k < 2 ^ 63 ∧ xs.length * k.toNat ≤ sizeLine) (Classical.propDecidable _) (some (.own (.ow (List.replicate k.toNat xs).flatten))) none
    | _ => none
  | _, _ => none
theorem Reps.flat {G : Hp} {xs : List D} {vs : List V} (h : Reps K mg G xs vs) : ∀ n, Reps K mg G (List.replicate n xs).flatten (List.replicate n vs).flatten
  | 0 => .nil
  | n + 1 => by
    rw [List.replicate_succ, List.replicate_succ, List.flatten_cons, List.flatten_cons]
    exact h.append (Reps.flat h n)
theorem op2_mul : Op2' K mg mulV rMulAll := fun cs c1 c2 r1 r2 z G H v w Q rs o1 v1 s1 b1 o2 v2 s2 b2 hz q => by
  unfold mulV at hz
  split at hz
  · rename_i i j e1 e2
    split at hz
    · cases hz
      exact .inl ⟨_, _, (dat_rep rs o1 v1 s1 b1 e1).int_iff, (dat_rep rs o2 v2 s2 b2 e2).int_iff, by assumption, q.v _ _ rfl (.int _)⟩
    · cases hz
  · rename_i xs j e1 e2
    split at hz
    · rename_i xs
      split at hz
      · rename_i hl
        cases hz
        have o := o1.own v1 s1 (by simp [Rv.sl])
        generalize hA : c1.A = A at o
        cases o with
        | ow g1 k1 =>
          exact .inr ⟨_, _, _, rfl, (dat_rep rs o2 v2 s2 b2 e2).int_iff, g1, hl.1, hl.2.1, by rw [k1.length]; exact hl.2.2, fun p hp => q.l _ p _ rfl hp (k1.flat _)⟩
      · cases hz
    · cases hz
  · cases hz
theorem se_mul (ha : SE X a ma) (hb : SE X b mb) : SE X (.BinOp a .Mult b pos) (mBin2 mulV ma mb) := se_bin2 op_mulAll op2_mul ha hb

/-! ### subscripts -/
theorem Reps.at {G : Hp} {xs : List D} {vs : List V} (h : Reps K mg G xs vs) {i : Int} {d : D} (e : atI xs i = some d) : ∃ v, atI vs i = some v ∧ Rep K mg G d v := by
  unfold atI at e ⊢
  rw [h.length]
  obtain ⟨j, e1, e2⟩ := Option.bind_eq_some_iff.mp e
  obtain ⟨y, e3, e4⟩ := h.get e2
  exact ⟨y, by rw [e1]; exact e3, e4⟩
def ixV (ρ : List Sl) (x y : Rv) : Option Rv := match dat ρ y with
  | some (.int i) => match lsv ρ x with
    | some xs => (atI xs i).map .val
    | none => match tpv ρ x with
      | some xs => (atI xs i).map .val
      | none => match dat ρ x with
        | some (.str z) => @ite _ (z.length ≤ sizeLine) (Classical.propDecidable _) ((atI z.cps.toList i).map fun c => .val (.str ⟨#[c]⟩)) none
        | _ => none
  | _ => none
abbrev rIxAll (K : PySem.W.Frag) : R2 := fun x y H Q => rIxL K x y H Q ∨ (rIxT K x y H Q ∨ rIxS x y H Q)
theorem op2_ix : Op2' K mg ixV (rIxAll K) := fun cs c1 c2 r1 r2 z G H v w Q rs o1 v1 s1 b1 o2 v2 s2 b2 hz q => by
  unfold ixV at hz
  split at hz
  · rename_i i e2
    have hw := (dat_rep rs o2 v2 s2 b2 e2).int_iff
    split at hz
    · rename_i xs e1
      obtain ⟨d, e3, e4⟩ := Option.map_eq_some_iff.mp hz
      subst e4
      obtain ⟨l1, vs1, f1, g1, k1⟩ := lsv_rep rs o1 v1 s1 b1 e1
      obtain ⟨y, f3, k3⟩ := k1.at e3
      exact .inl ⟨l1, vs1, i, y, f1, hw, g1, f3, q.v _ _ rfl k3⟩
    · split at hz
      · rename_i xs e1
        obtain ⟨d, e3, e4⟩ := Option.map_eq_some_iff.mp hz
        subst e4
        obtain ⟨l1, vs1, f1, g1, k1⟩ := tpv_rep rs o1 v1 s1 b1 e1
        obtain ⟨y, f3, k3⟩ := k1.at e3
        exact .inr (.inl ⟨l1, vs1, i, y, f1, hw, g1, f3, q.v _ _ rfl k3⟩)
      · split at hz
        · rename_i x e1
          split at hz
          · rename_i hl
            obtain ⟨d, e3, e4⟩ := Option.map_eq_some_iff.mp hz
            subst e4
            exact .inr (.inr ⟨x, i, d, (dat_rep rs o1 v1 s1 b1 e1).str_iff, hw, hl, e3, q.v _ _ rfl (.str _)⟩)
          · cases hz
        · cases hz
  · cases hz
theorem ix_all : IxR X (rIxAll X.K) := IxR.or ix_list (IxR.or ix_tup ix_str)
theorem se_ix (ha : SE X a ma) (hb : SE X b mb) (hs : PlainIx b := by exact fun _ _ => rfl) : SE X (.Subscript a b pos) (mBin2 ixV ma mb) := PE.imp (pe_ix ix_all ha hb hs) (rd_bin2 op2_ix)
end
end
end FW

namespace FW
noncomputable section
open PySem L2

section
variable {X : Cx} {a b c e : Expr} {es : List Expr} {ma mb mc : M} {pos p2 : Pos} {K : PySem.W.Frag} {mg : Str → Option Value}
/-! ### slices -/
abbrev MP := List Sl → Option (Option Int × List Sl)
def tP (K : PySem.W.Frag) (mg : Str → Option Value) (m : MP) : TO := fun σ H Q => ∃ cs G o ρ', vals cs = σ ∧ Res K mg G H cs ∧ m (slots cs) = some (o, ρ') ∧
  ∀ cs' G' H', vals cs' = σ → slots cs' = ρ' → Res K mg G' H' cs' → Stp (own cs) G H (own cs') G' H' → Q o H'
theorem PO.imp {e : Option Expr} {t u : TO} (h : PO X e t) (k : ∀ σ H Q, u σ H Q → t σ H Q) : PO X e u := ⟨fun pins s σ H Q I q => h.run pins s σ H Q I (k σ H Q q)⟩
abbrev SPo (X : Cx) (e : Option Expr) (m : MP) : Prop := PO X e (tP X.K X.mg m)
def mNoP : MP := fun ρ => some (none, ρ)
def mP (a : M) : MP := fun ρ => match a ρ with
  | some (.val (.int i), ρ') => some (some i, ρ')
  | _ => none
theorem sp_none : SPo X none mNoP := PO.imp po_none fun σ H Q h => by
  obtain ⟨cs, G, o, ρ', e1, rs, hm, k⟩ := h
  cases hm
  exact k cs G H e1 rfl rs Stp.refl
theorem sp_some (ha : SE X a ma) : SPo X (some a) (mP ma) := PO.imp (po_some ha) fun σ H Q h => by
  obtain ⟨cs, G, o, ρ', e1, rs, hm, k⟩ := h
  unfold mP at hm
  split at hm
  · rename_i i ρ1 ea
    cases hm
    refine ⟨cs, G, _, _, e1, rs, ea, fun cs1 v B G1 H1 f1 f2 fb rs1 st1 => ?_⟩
    obtain ⟨rp, rfl⟩ := rs1.val
    exact ⟨i, rp.int_iff, k cs1 G1 H1 f1 f2 rs1.tail st1.back1⟩
  · cases hm
def cutA {α : Type} (xs : List α) (lo hi : Option Int) : List α := (xs.drop (HT.sIx xs.length 0 lo)).take (HT.sIx xs.length xs.length hi - HT.sIx xs.length 0 lo)
def slV (ρ : List Sl) (x : Rv) (lo hi : Option Int) : Option Rv := match lsv ρ x with
  | some xs => some (.own (.ow (cutA xs lo hi)))
  | none => match tpv ρ x with
    | some xs => if ¬ (HT.sIx xs.length 0 lo = 0 ∧ HT.sIx xs.length xs.length hi = xs.length) then some (.val (.tup (cutA xs lo hi))) else none
    | none => match dat ρ x with
      | some (.str z) => @ite _ (z.length ≤ sizeLine) (Classical.propDecidable _) (some (.val (.str (cutS z lo hi)))) none
      | _ => none
def mSl (a : M) (lo hi : MP) : M := fun ρ => (a ρ).bind fun x => (lo x.2).bind fun y => (hi y.2).bind fun z => (slV z.2 x.1 y.1 z.1).map fun r => (r, z.2)
theorem Reps.cut {G : Hp} {xs : List D} {vs : List V} (h : Reps K mg G xs vs) (lo hi : Option Int) : Reps K mg G (cutA xs lo hi) (cutV vs lo hi) := by
  unfold cutA cutV
  rw [h.length]
  exact (h.drop _).take _
abbrev rSlAll (K : PySem.W.Frag) : V → Option Int → Option Int → Hp → VK → Prop := fun x lo hi H Q => rSlL K x lo hi H Q ∨ (rSlT K x lo hi H Q ∨ rSlS x lo hi H Q)
theorem sl_all : SlR X (rSlAll X.K) := SlR.or sl_list (SlR.or sl_tup sl_str)
theorem se_sl {lo hi : Option Expr} {ml mh : MP} (ha : SE X a ma) (hl : SPo X lo ml) (hh : SPo X hi mh) : SE X (.Subscript a (.Slice lo hi none p2) pos) (mSl ma ml mh) := PE.imp (pe_slice sl_all ha hl hh) fun σ H Q h => by
  obtain ⟨cs, G, r, ρ', e1, rs, hm, k⟩ := h
  obtain ⟨⟨r1, ρ1⟩, h1, hm⟩ := Option.bind_eq_some_iff.mp hm
  obtain ⟨⟨o2, ρ2⟩, h2, hm⟩ := Option.bind_eq_some_iff.mp hm
  obtain ⟨⟨o3, ρ3⟩, h3, hm⟩ := Option.bind_eq_some_iff.mp hm
  obtain ⟨z, hz, hm⟩ := Option.map_eq_some_iff.mp hm
  cases hm
  refine ⟨cs, G, r1, ρ1, e1, rs, h1, fun cs1 v B G1 H1 f1 f2 fb rs1 st1 => ?_⟩
  refine ⟨cs1, G1, o2, ρ2, f1, rs1.tail, by rw [f2]; exact h2, fun cs2 G2 H2 g1 g2 rs2 st2 => ?_⟩
  refine ⟨cs2, G2, o3, ρ3, g1, rs2, by rw [g2]; exact h3, fun cs3 G3 H3 k1 k2 rs3 st3 => ?_⟩
  have rA := Res.frame (ds := [_]) rs1 (st2.trans st3) rs3
  have sA := st1.trans (Stp.under (ds := [_]) rs1 (st2.trans st3))
  subst k1; subst k2
  have q := Fin.of k rfl rfl rs3 sA.back1
  have o1 := rA.h1
  unfold slV at hz
  split at hz
  · rename_i xs e2
    cases hz
    obtain ⟨l1, vs1, p1, p2, p3⟩ := lsv_rep rs3 o1 rfl rfl fb e2
    exact .inl ⟨l1, vs1, p1, p2, fun p hp => q.l _ p _ rfl hp (p3.cut _ _)⟩
  · split at hz
    · rename_i xs e2
      split at hz
      · rename_i hn
        cases hz
        obtain ⟨l1, vs1, p1, p2, p3⟩ := tpv_rep rs3 o1 rfl rfl fb e2
        exact .inr (.inl ⟨l1, vs1, p1, p2, by rw [p3.length]; exact hn, fun p hp => q.t _ p _ rfl hp (p3.cut _ _)⟩)
      · cases hz
    · split at hz
      · rename_i x e2
        split at hz
        · cases hz
          exact .inr (.inr ⟨x, (dat_rep rs3 o1 rfl rfl fb e2).str_iff, by assumption, q.v _ _ rfl (.str _)⟩)
        · cases hz
      · cases hz

/-! ### argument lists, displays -/
def aNil : MA := fun ρ => some ([], ρ)
def aCons (m : M) (ms : MA) : MA := fun ρ => (m ρ).bind fun x => (ms x.2).map fun y => (x.1 :: y.1, y.2)
theorem sa_nil : SA X [] aNil := PA.imp pa_nil fun σ H Q h => by
  obtain ⟨cs, G, r, ρ', e1, rs, hm, k⟩ := h
  cases hm
  exact k cs [] [] G H e1 rfl trivial rfl rfl rs Stp.refl
theorem sa_cons {ms : MA} (ha : SE X a ma) (hr : SA X es ms) (hs : starEach (a :: es) X.env = (false, eval a X.env) :: starEach es X.env := by rfl) : SA X (a :: es) (aCons ma ms) := PA.imp (pa_cons ha hr hs) fun σ H Q h => by
  obtain ⟨cs, G, r, ρ', e1, rs, hm, k⟩ := h
  obtain ⟨⟨r1, ρ1⟩, h1, hm⟩ := Option.bind_eq_some_iff.mp hm
  obtain ⟨⟨rs2, ρ2⟩, h2, hm⟩ := Option.map_eq_some_iff.mp hm
  cases hm
  refine ⟨cs, G, r1, ρ1, e1, rs, h1, fun cs1 v B G1 H1 f1 f2 fb rs1 st1 => ?_⟩
  refine ⟨cs1, G1, rs2, ρ2, f1, rs1.tail, by rw [f2]; exact h2, fun cs2 ds vs G2 H2 g1 g2 gb g3 g4 rs2 st2 => ?_⟩
  refine k cs2 (⟨some v, r1.sl, B⟩ :: ds) (v :: vs) G2 H2 g1 g2 ⟨fb, gb⟩ ?_ ?_ (Res.frame (ds := [_]) rs1 st2 rs2) (st1.trans (Stp.under (ds := [_]) rs1 st2))
  · show some v :: vals ds = _; rw [g3]; rfl
  · show r1.sl :: slots ds = _; rw [g4]; rfl
/-- a new list of the frozen items; a new tuple -/
def mLst (ms : MA) : M := fun ρ => (ms ρ).bind fun y => (frzA y.2 y.1).bind fun z => @ite _ (z.1.length ≤ sizeLine) (Classical.propDecidable _) (some (.own (.ow z.1), z.2)) none
def mTup (ms : MA) : M := fun ρ => (ms ρ).bind fun y => (frzA y.2 y.1).bind fun z => @ite _ (z.1.length ≤ sizeLine) (Classical.propDecidable _) (some (.val (.tup z.1), z.2)) none
theorem se_lst {ms : MA} (h : SA X es ms) : SE X (.List es pos) (mLst ms) := PE.imp (pe_lst h) fun σ H Q h => by
  obtain ⟨cs, G, r, ρ', e1, rs, hm, k⟩ := h
  obtain ⟨⟨r1, ρ1⟩, h1, hm⟩ := Option.bind_eq_some_iff.mp hm
  obtain ⟨⟨xs, ρ2⟩, h2, hm⟩ := Option.bind_eq_some_iff.mp hm
  split at hm
  · rename_i hl
    cases hm
    refine ⟨cs, G, r1, ρ1, e1, rs, h1, fun cs1 ds vs G1 H1 f1 f2 fb f3 f4 rs1 st1 => ?_⟩
    subst f1; subst f2
    obtain ⟨cs2, G2, g1, g2, rp, rs2, st2⟩ := frzA_ok rs1 fb f3 f4 h2
    exact ⟨by rw [rp.length]; exact hl, fun p hp => (Fin.of k g1 g2 rs2 (st1.trans st2)).l _ p _ rfl hp rp⟩
  · cases hm
theorem se_tup {ms : MA} {x1} (h : SA X es ms) : SE X (.Tuple es x1 pos) (mTup ms) := PE.imp (pe_tup h) fun σ H Q h => by
  obtain ⟨cs, G, r, ρ', e1, rs, hm, k⟩ := h
  obtain ⟨⟨r1, ρ1⟩, h1, hm⟩ := Option.bind_eq_some_iff.mp hm
  obtain ⟨⟨xs, ρ2⟩, h2, hm⟩ := Option.bind_eq_some_iff.mp hm
  split at hm
  · rename_i hl
    cases hm
    refine ⟨cs, G, r1, ρ1, e1, rs, h1, fun cs1 ds vs G1 H1 f1 f2 fb f3 f4 rs1 st1 => ?_⟩
    subst f1; subst f2
    obtain ⟨cs2, G2, g1, g2, rp, rs2, st2⟩ := frzA_ok rs1 fb f3 f4 h2
    exact ⟨by rw [rp.length]; exact hl, fun p hp => (Fin.of k g1 g2 rs2 (st1.trans st2)).t _ p _ rfl hp rp⟩
  · cases hm

/-! ### calls of built-in functions, by values -/
/-- the arguments as they stand at the call -/
structure Args (K : PySem.W.Frag) (mg : Str → Option Value) (G H : Hp) (cs : List Cl) (rs : List Rv) (vs : List V) : Prop where
  res : Res K mg G H cs
  at_ : ∀ (i : Nat) (r : Rv), rs[i]? = some r → ∃ (v : V) (c : Cl), vs[i]? = some v ∧ ClR K mg G H c ∧ c.v = some v ∧ c.s = r.sl ∧ Bor (vals cs) r v
  len : vs.length = rs.length
theorem bors_at {σ : L2.St} : ∀ {rs : List Rv} {vs : List V} {i : Nat} {r : Rv}, Bors σ rs vs → rs[i]? = some r → ∃ v, vs[i]? = some v ∧ Bor σ r v
  | [], _, _, _, _, e => by simp at e
  | r :: rs, [], _, _, h, _ => h.elim
  | r :: rs, v :: vs, 0, _, h, e => by simp at e; subst e; exact ⟨v, rfl, h.1⟩
  | r :: rs, v :: vs, i + 1, _, h, e => by
    obtain ⟨w, h1, h2⟩ := bors_at (i := i) h.2 (by simpa using e)
    exact ⟨w, by simpa using h1, h2⟩
theorem Args.of {G H : Hp} {cs ds : List Cl} {rs : List Rv} {vs : List V} (h : Res K mg G H (ds ++ cs)) (hb : Bors (vals cs) rs vs) (e1 : vals ds = vs.map some) (e2 : slots ds = rs.map Rv.sl) : Args K mg G H cs rs vs := by
  refine ⟨h.right, fun i r hr => ?_, ?_⟩
  · obtain ⟨v, h1, h2⟩ := bors_at hb hr
    have q : (slots ds)[i]? = some r.sl := by rw [e2, List.getElem?_map, hr]; rfl
    obtain ⟨c, h3, h4⟩ := cell_at q
    have q2 : (vals ds)[i]? = some (some v) := by rw [e1, List.getElem?_map, h1]; rfl
    rw [List.getElem?_map, h3] at q2
    exact ⟨v, c, h1, h.ok c (List.mem_append_left _ (List.mem_of_getElem? h3)), Option.some.inj q2, h4, h2⟩
  · have l1 := congrArg List.length e1
    have l2 := congrArg List.length e2
    simp only [List.length_map] at l1 l2
    omega
theorem Args.dat {G H : Hp} {cs : List Cl} {rs : List Rv} {vs : List V} (h : Args K mg G H cs rs vs) {i : Nat} {r : Rv} {d : D} (hr : rs[i]? = some r) (e : dat (slots cs) r = some d) : ∃ v, vs[i]? = some v ∧ Rep K mg H d v := by
  obtain ⟨v, c, h1, h2, h3, h4, h5⟩ := h.at_ i r hr
  exact ⟨v, h1, dat_rep h.res h2 h3 h4 h5 e⟩
theorem Args.lsv {G H : Hp} {cs : List Cl} {rs : List Rv} {vs : List V} (h : Args K mg G H cs rs vs) {i : Nat} {r : Rv} {xs : List D} (hr : rs[i]? = some r) (e : lsv (slots cs) r = some xs) : ∃ a ws, vs[i]? = some (.ref a) ∧ SqL K H a ws ∧ Reps K mg G xs ws := by
  obtain ⟨v, c, h1, h2, h3, h4, h5⟩ := h.at_ i r hr
  obtain ⟨a, ws, q1, q2, q3⟩ := lsv_rep h.res h2 h3 h4 h5 e
  subst q1
  exact ⟨a, ws, h1, q2, q3⟩
theorem Args.tpv {G H : Hp} {cs : List Cl} {rs : List Rv} {vs : List V} (h : Args K mg G H cs rs vs) {i : Nat} {r : Rv} {xs : List D} (hr : rs[i]? = some r) (e : tpv (slots cs) r = some xs) : ∃ a ws, vs[i]? = some (.ref a) ∧ SqT K H a ws ∧ Reps K mg G xs ws := by
  obtain ⟨v, c, h1, h2, h3, h4, h5⟩ := h.at_ i r hr
  obtain ⟨a, ws, q1, q2, q3⟩ := tpv_rep h.res h2 h3 h4 h5 e
  subst q1
  exact ⟨a, ws, h1, q2, q3⟩
theorem one_arg {vs : List V} {r : Rv} {v : V} (l : vs.length = [r].length) (e : vs[0]? = some v) : vs = [v] := by
  match vs, l with
  | [w], _ => simp at e; rw [e]
theorem two_args {vs : List V} {r r' : Rv} {v w : V} (l : vs.length = [r, r'].length) (e : vs[0]? = some v) (e' : vs[1]? = some w) : vs = [v, w] := by
  match vs, l with
  | [x, y], _ => simp at e e'; rw [e, e']
def mCallB (f : List Sl → List Rv → Option Rv) (ms : MA) : M := fun ρ => (ms ρ).bind fun y => (f y.2 y.1).map fun r => (r, y.2)
/-- a rule of a built-in is one of data -/
def CrD (K : PySem.W.Frag) (mg : Str → Option Value) (f : List Sl → List Rv → Option Rv) (R : List V → Hp → VK → Prop) : Prop :=
  ∀ (cs : List Cl) (rs : List Rv) (vs : List V) (G H : Hp) (r : Rv) (Q : VK), Args K mg G H cs rs vs → f (slots cs) rs = some r → Fin K mg G H r Q → R vs H Q
theorem rd_callB {ms : MA} {f : List Sl → List Rv → Option Rv} {R : List V → Hp → VK → Prop} (hr : CrD K mg f R) : ∀ σ H Q, tM K mg (mCallB f ms) σ H Q → tCB R (tMA K mg ms) σ H Q := fun σ H Q h => by
  obtain ⟨cs, G, r, ρ', e1, rs, hm, k⟩ := h
  obtain ⟨⟨r1, ρ1⟩, h1, hm⟩ := Option.bind_eq_some_iff.mp hm
  obtain ⟨z, hz, hm⟩ := Option.map_eq_some_iff.mp hm
  cases hm
  refine ⟨cs, G, r1, ρ1, e1, rs, h1, fun cs1 ds vs G1 H1 f1 f2 fb f3 f4 rs1 st1 => ?_⟩
  subst f1; subst f2
  exact hr cs1 r1 vs G1 H1 r Q (Args.of rs1 fb f3 f4) hz (Fin.of k rfl rfl rs1.right (st1.weak own_sub_right))
variable {x : Str} {p : Pos} {id T : String}
theorem se_callB {ms : MA} {f : List Sl → List Rv → Option Rv} {R : List V → Hp → VK → Prop} (hc : CallR X (.builtin id) R) (hr : CrD X.K X.mg f R) (hg : Gl X x) (hm : X.mg x = none) (hv : bootBuiltins x = some (.builtin id)) (ha : SA X (e :: es) ms) (hn : x ≠ "__name__" := by decide) (hdb : (x == ("__debug__" : Str)) = false := by decide)
    (he : starEach (e :: es) X.env = (false, eval e X.env) :: starEach es X.env := by rfl) (hpl : (backTo pos (starEach es X.env)).any (·.1) = false := by rfl) : SE X (.Call (.Name x p) (e :: es) [] pos) (mCallB f ms) :=
  PE.imp (pe_callB hc hg hm hv ha hn hdb he hpl) (rd_callB hr)
theorem se_callTy {ms : MA} {f : List Sl → List Rv → Option Rv} {R : List V → Hp → VK → Prop} (hc : CallR X (.type T) R) (hr : CrD X.K X.mg f R) (hg : Gl X x) (hm : X.mg x = none) (hv : bootBuiltins x = some (.type T)) (ha : SA X (e :: es) ms) (hn : x ≠ "__name__" := by decide) (hdb : (x == ("__debug__" : Str)) = false := by decide)
    (he : starEach (e :: es) X.env = (false, eval e X.env) :: starEach es X.env := by rfl) (hpl : (backTo pos (starEach es X.env)).any (·.1) = false := by rfl) : SE X (.Call (.Name x p) (e :: es) [] pos) (mCallB f ms) :=
  PE.imp (pe_callTy hc hg hm hv ha hn hdb he hpl) (rd_callB hr)
end
end
end FW

namespace FW
noncomputable section
open PySem L2

/-- the ints of a list -/
def ints? : List D → Option (List Int)
  | [] => some []
  | .int i :: r => (ints? r).map (i :: ·)
  | _ => none
theorem ints?_eq : ∀ {xs : List D} {ns : List Int}, ints? xs = some ns → xs = ns.map D.int
  | [], ns, h => by unfold ints? at h; cases h; rfl
  | .int i :: r, ns, h => by
    unfold ints? at h
    obtain ⟨m, e1, e2⟩ := Option.map_eq_some_iff.mp h
    subst e2
    rw [ints?_eq e1]; rfl
  | .non :: _, _, h => by simp [ints?] at h
  | .bl _ :: _, _, h => by simp [ints?] at h
  | .str _ :: _, _, h => by simp [ints?] at h
  | .lst _ :: _, _, h => by simp [ints?] at h
  | .scr _ :: _, _, h => by simp [ints?] at h
  | .tup _ :: _, _, h => by simp [ints?] at h
  | .obj _ _ :: _, _, h => by simp [ints?] at h
  | .dct _ :: _, _, h => by simp [ints?] at h
  | .exc _ _ :: _, _, h => by simp [ints?] at h
theorem ints?_map : ∀ (ns : List Int), ints? (ns.map D.int) = some ns
  | [] => rfl
  | n :: ns => by rw [List.map_cons, ints?, ints?_map ns]; rfl
def bools? : List D → Option (List Bool)
  | [] => some []
  | .bl i :: r => (bools? r).map (i :: ·)
  | _ => none
theorem bools?_eq : ∀ {xs : List D} {ns : List Bool}, bools? xs = some ns → xs = ns.map D.bl
  | [], ns, h => by unfold bools? at h; cases h; rfl
  | .bl i :: r, ns, h => by
    unfold bools? at h
    obtain ⟨m, e1, e2⟩ := Option.map_eq_some_iff.mp h
    subst e2
    rw [bools?_eq e1]; rfl
  | .non :: _, _, h => by simp [bools?] at h
  | .int _ :: _, _, h => by simp [bools?] at h
  | .str _ :: _, _, h => by simp [bools?] at h
  | .lst _ :: _, _, h => by simp [bools?] at h
  | .scr _ :: _, _, h => by simp [bools?] at h
  | .tup _ :: _, _, h => by simp [bools?] at h
  | .obj _ _ :: _, _, h => by simp [bools?] at h
  | .dct _ :: _, _, h => by simp [bools?] at h
  | .exc _ _ :: _, _, h => by simp [bools?] at h
theorem bools?_map : ∀ (ns : List Bool), bools? (ns.map D.bl) = some ns
  | [] => rfl
  | n :: ns => by rw [List.map_cons, bools?, bools?_map ns]; rfl
def strs? : List D → Option (List Str)
  | [] => some []
  | .str i :: r => (strs? r).map (i :: ·)
  | _ => none
theorem strs?_eq : ∀ {xs : List D} {ns : List Str}, strs? xs = some ns → xs = ns.map D.str
  | [], ns, h => by unfold strs? at h; cases h; rfl
  | .str i :: r, ns, h => by
    unfold strs? at h
    obtain ⟨m, e1, e2⟩ := Option.map_eq_some_iff.mp h
    subst e2
    rw [strs?_eq e1]; rfl
  | .non :: _, _, h => by simp [strs?] at h
  | .int _ :: _, _, h => by simp [strs?] at h
  | .bl _ :: _, _, h => by simp [strs?] at h
  | .lst _ :: _, _, h => by simp [strs?] at h
  | .scr _ :: _, _, h => by simp [strs?] at h
  | .tup _ :: _, _, h => by simp [strs?] at h
  | .obj _ _ :: _, _, h => by simp [strs?] at h
  | .dct _ :: _, _, h => by simp [strs?] at h
  | .exc _ _ :: _, _, h => by simp [strs?] at h
theorem strs?_map : ∀ (ns : List Str), strs? (ns.map D.str) = some ns
  | [] => rfl
  | n :: ns => by rw [List.map_cons, strs?, strs?_map ns]; rfl
section
variable {K : PySem.W.Frag} {mg : Str → Option Value} {G H : Hp}
theorem Reps.bools : ∀ {ns : List Bool} {v : List V}, Reps K mg G (ns.map D.bl) v → v = ns.map V.bl
  | [], _, .nil => rfl
  | n :: ns, _, .cons h r => by rw [List.map_cons, Rep.bl_iff h, Reps.bools r]
theorem Reps.strs : ∀ {ns : List Str} {v : List V}, Reps K mg G (ns.map D.str) v → v = ns.map V.str
  | [], _, .nil => rfl
  | n :: ns, _, .cons h r => by rw [List.map_cons, Rep.str_iff h, Reps.strs r]
theorem Reps.of_strs : ∀ (ns : List Str), Reps K mg G (ns.map D.str) (ns.map V.str)
  | [] => .nil
  | n :: ns => .cons (.str n) (Reps.of_strs ns)

/-! ### built-ins by data -/
/-- of one value, a scalar -/
def b1 (f : D → Option D) : List Sl → List Rv → Option Rv := fun ρ rs => match rs with
  | [r] => (dat ρ r).bind fun d => (f d).map .val
  | _ => none
/-- of one list -/
def bL (f : List D → Option Rv) : List Sl → List Rv → Option Rv := fun ρ rs => match rs with
  | [r] => (lsv ρ r).bind f
  | _ => none
def b2 (f : D → D → Option D) : List Sl → List Rv → Option Rv := fun ρ rs => match rs with
  | [r, r'] => (dat ρ r).bind fun d => (dat ρ r').bind fun e => (f d e).map .val
  | _ => none
theorem cr_b1 {f : D → Option D} {R : List V → Hp → VK → Prop} (h : ∀ (x z : D) (H : Hp) (v : V) (Q : VK), f x = some z → Rep K mg H x v → (∀ u, scV z = some u → Q u H) → R [v] H Q) : CrD K mg (b1 f) R := by
  intro cs rs vs G H r Q ha hf q
  unfold b1 at hf
  split at hf
  · rename_i r1
    obtain ⟨d, e1, hf⟩ := Option.bind_eq_some_iff.mp hf
    obtain ⟨z, e2, e3⟩ := Option.map_eq_some_iff.mp hf
    subst e3
    obtain ⟨v, h1, h2⟩ := ha.dat (i := 0) rfl e1
    rw [one_arg ha.len h1]
    exact h d z H v Q e2 h2 fun u hu => q.v _ _ rfl (sc_rep hu)
  · cases hf
theorem cr_b2 {f : D → D → Option D} {R : List V → Hp → VK → Prop} (h : ∀ (x y z : D) (H : Hp) (v w : V) (Q : VK), f x y = some z → Rep K mg H x v → Rep K mg H y w → (∀ u, scV z = some u → Q u H) → R [v, w] H Q) : CrD K mg (b2 f) R := by
  intro cs rs vs G H r Q ha hf q
  unfold b2 at hf
  split at hf
  · rename_i r1 r2
    obtain ⟨d, e1, hf⟩ := Option.bind_eq_some_iff.mp hf
    obtain ⟨e, e2, hf⟩ := Option.bind_eq_some_iff.mp hf
    obtain ⟨z, e3, e4⟩ := Option.map_eq_some_iff.mp hf
    subst e4
    obtain ⟨v, h1, h2⟩ := ha.dat (i := 0) rfl e1
    obtain ⟨w, h3, h4⟩ := ha.dat (i := 1) rfl e2
    rw [two_args ha.len h1 h3]
    exact h d e z H v w Q e3 h2 h4 fun u hu => q.v _ _ rfl (sc_rep hu)
  · cases hf
theorem cr_bL {f : List D → Option Rv} {R : List V → Hp → VK → Prop} (h : ∀ (xs : List D) (z : Rv) (G H : Hp) (a : Addr) (ws : List V) (Q : VK), f xs = some z → SqL K H a ws → Reps K mg G xs ws → Fin K mg G H z Q → R [.ref a] H Q) : CrD K mg (bL f) R := by
  intro cs rs vs G H r Q ha hf q
  unfold bL at hf
  split at hf
  · rename_i r1
    obtain ⟨d, e1, hf⟩ := Option.bind_eq_some_iff.mp hf
    obtain ⟨a, ws, h1, h2, h3⟩ := ha.lsv (i := 0) rfl e1
    rw [one_arg ha.len h1]
    exact h d r G H a ws Q hf h2 h3 q
  · cases hf
def lenD : List Sl → List Rv → Option Rv := fun ρ rs => match rs with
  | [r] => match lsv ρ r with
    | some xs => some (.val (.int xs.length))
    | none => match tpv ρ r with
      | some xs => some (.val (.int xs.length))
      | none => match dat ρ r with
        | some (.str z) => @ite _ (z.length ≤ sizeLine) (Classical.propDecidable _) (some (.val (.int z.length))) none
        | _ => none
  | _ => none
theorem cr_lenD : CrD K mg lenD (fun xs H Q => ∃ x n, xs = [x] ∧ LenV K x H n ∧ Q (.int n) H) := by
  intro cs rs vs G H r Q ha hf q
  unfold lenD at hf
  split at hf
  · rename_i r1
    split at hf
    · rename_i xs e1
      cases hf
      obtain ⟨a, ws, h1, h2, h3⟩ := ha.lsv (i := 0) rfl e1
      rw [one_arg ha.len h1]
      refine ⟨_, ws.length, rfl, .inl ⟨ws, h2, rfl⟩, ?_⟩
      rw [h3.length]
      exact q.v _ _ rfl (.int _)
    · split at hf
      · rename_i xs e1
        cases hf
        obtain ⟨a, ws, h1, h2, h3⟩ := ha.tpv (i := 0) rfl e1
        rw [one_arg ha.len h1]
        refine ⟨_, ws.length, rfl, .inr ⟨ws, h2, rfl⟩, ?_⟩
        rw [h3.length]
        exact q.v _ _ rfl (.int _)
      · split at hf
        · rename_i z e1
          split at hf
          · rename_i hl
            cases hf
            obtain ⟨v, h1, h2⟩ := ha.dat (i := 0) rfl e1
            rw [one_arg ha.len h1, h2.str_iff]
            exact ⟨_, z.length, rfl, ⟨hl, rfl⟩, q.v _ _ rfl (.int _)⟩
          · cases hf
        · cases hf
  · cases hf
def sumL (xs : List D) : Option Rv := (ints? xs).map fun ns => .val (.int ns.sum)
theorem cr_sumL : CrD K mg (bL sumL) (rSum K) := cr_bL fun xs z G H a ws Q e hs rp q => by
  obtain ⟨ns, e1, e2⟩ := Option.map_eq_some_iff.mp e
  subst e2
  have := ints?_eq e1
  subst this
  rw [rp.ints] at hs
  exact ⟨a, ns, rfl, hs, q.v _ _ rfl (.int _)⟩
def maxL (xs : List D) : Option Rv := (ints? xs).bind fun ns => ns.max?.map fun m => .val (.int m)
def minL (xs : List D) : Option Rv := (ints? xs).bind fun ns => ns.min?.map fun m => .val (.int m)
theorem cr_maxL : CrD K mg (bL maxL) (rMax K) := cr_bL fun xs z G H a ws Q e hs rp q => by
  obtain ⟨ns, e1, e2⟩ := Option.bind_eq_some_iff.mp e
  obtain ⟨m, e3, e4⟩ := Option.map_eq_some_iff.mp e2
  subst e4
  have := ints?_eq e1
  subst this
  rw [rp.ints] at hs
  obtain ⟨m1, m2⟩ := List.max?_eq_some_iff.mp e3
  refine ⟨a, ns, rfl, hs, List.length_pos_of_mem m1, fun m' h1 h2 => ?_⟩
  have : m' = m := Int.le_antisymm (m2 m' h1) (h2 m m1)
  subst this
  exact q.v _ _ rfl (.int _)
theorem cr_minL : CrD K mg (bL minL) (rMin K) := cr_bL fun xs z G H a ws Q e hs rp q => by
  obtain ⟨ns, e1, e2⟩ := Option.bind_eq_some_iff.mp e
  obtain ⟨m, e3, e4⟩ := Option.map_eq_some_iff.mp e2
  subst e4
  have := ints?_eq e1
  subst this
  rw [rp.ints] at hs
  obtain ⟨m1, m2⟩ := List.min?_eq_some_iff.mp e3
  refine ⟨a, ns, rfl, hs, List.length_pos_of_mem m1, fun m' h1 h2 => ?_⟩
  have : m' = m := Int.le_antisymm (h2 m m1) (m2 m' h1)
  subst this
  exact q.v _ _ rfl (.int _)
def max2D : D → D → Option D
  | .int i, .int j => some (.int (if j > i then j else i))
  | _, _ => none
def min2D : D → D → Option D
  | .int i, .int j => some (.int (if j < i then j else i))
  | _, _ => none
theorem cr_max2 : CrD K mg (b2 max2D) (fun xs H Q => ∃ i j, xs = [.int i, .int j] ∧ Q (.int (if j > i then j else i)) H) := cr_b2 fun x y z H v w Q e rx ry q => by
  unfold max2D at e; split at e
  · cases e; exact ⟨_, _, by rw [rx.int_iff, ry.int_iff], q _ rfl⟩
  · cases e
theorem cr_min2 : CrD K mg (b2 min2D) (fun xs H Q => ∃ i j, xs = [.int i, .int j] ∧ Q (.int (if j < i then j else i)) H) := cr_b2 fun x y z H v w Q e rx ry q => by
  unfold min2D at e; split at e
  · cases e; exact ⟨_, _, by rw [rx.int_iff, ry.int_iff], q _ rfl⟩
  · cases e
def absD : D → Option D
  | .int i => some (.int (if i < 0 then -i else i))
  | _ => none
theorem cr_abs : CrD K mg (b1 absD) (fun xs H Q => ∃ i, xs = [.int i] ∧ Q (.int (if i < 0 then -i else i)) H) := cr_b1 fun x z H v Q e rx q => by
  unfold absD at e; split at e
  · cases e; exact ⟨_, by rw [rx.int_iff], q _ rfl⟩
  · cases e
def intD : D → Option D
  | .int i => some (.int i)
  | .bl k => some (.int (if k then 1 else 0))
  | _ => none
theorem cr_int : CrD K mg (b1 intD) (fun xs H Q => (∃ i, xs = [.int i] ∧ Q (.int i) H) ∨ ∃ k, xs = [.bl k] ∧ Q (.int (if k then 1 else 0)) H) := cr_b1 fun x z H v Q e rx q => by
  unfold intD at e; split at e
  · cases e; exact .inl ⟨_, by rw [rx.int_iff], q _ rfl⟩
  · cases e; exact .inr ⟨_, by rw [rx.bl_iff], q _ rfl⟩
  · cases e
def strD : D → Option D
  | .int i => @ite _ (i.natAbs.log2 < 1920) (Classical.propDecidable _) (some (.str (toString i))) none
  | _ => none
theorem cr_str : CrD K mg (b1 strD) (fun xs H Q => ∃ i, xs = [.int i] ∧ i.natAbs.log2 < 1920 ∧ Q (.str (toString i)) H) := cr_b1 fun x z H v Q e rx q => by
  unfold strD at e; split at e
  · split at e
    · cases e; exact ⟨_, by rw [rx.int_iff], by assumption, q _ rfl⟩
    · cases e
  · cases e
/-- list(xs), list(t) -/
def listD : List Sl → List Rv → Option Rv := fun ρ rs => match rs with
  | [r] => match lsv ρ r with
    | some xs => some (.own (.ow xs))
    | none => (tpv ρ r).map fun xs => .own (.ow xs)
  | _ => none
theorem cr_list : CrD K mg listD (fun xs H Q => ∃ p ys, xs = [.ref p] ∧ (SqL K H p ys ∨ SqT K H p ys) ∧ ∀ l, H l = none → Q (.ref l) (upd H l (.lst ys))) := by
  intro cs rs vs G H r Q ha hf q
  unfold listD at hf
  split at hf
  · rename_i r1
    split at hf
    · rename_i xs e1
      cases hf
      obtain ⟨a, ws, h1, h2, h3⟩ := ha.lsv (i := 0) rfl e1
      rw [one_arg ha.len h1]
      exact ⟨a, ws, rfl, .inl h2, fun l hl => q.l _ l _ rfl hl h3⟩
    · obtain ⟨xs, e1, e2⟩ := Option.map_eq_some_iff.mp hf
      subst e2
      obtain ⟨a, ws, h1, h2, h3⟩ := ha.tpv (i := 0) rfl e1
      rw [one_arg ha.len h1]
      exact ⟨a, ws, rfl, .inr h2, fun l hl => q.l _ l _ rfl hl h3⟩
  · cases hf
def allL (xs : List D) : Option Rv := (bools? xs).map fun ns => .val (.bl (ns.all id))
def anyL (xs : List D) : Option Rv := (bools? xs).map fun ns => .val (.bl (ns.any id))
theorem cr_allL : CrD K mg (bL allL) (rAll K) := cr_bL fun xs z G H a ws Q e hs rp q => by
  obtain ⟨ns, e1, e2⟩ := Option.map_eq_some_iff.mp e
  subst e2
  have := bools?_eq e1
  subst this
  rw [rp.bools] at hs
  exact ⟨a, ns, rfl, hs, q.v _ _ rfl (.bl _)⟩
theorem cr_anyL : CrD K mg (bL anyL) (rAny K) := cr_bL fun xs z G H a ws Q e hs rp q => by
  obtain ⟨ns, e1, e2⟩ := Option.map_eq_some_iff.mp e
  subst e2
  have := bools?_eq e1
  subst this
  rw [rp.bools] at hs
  exact ⟨a, ns, rfl, hs, q.v _ _ rfl (.bl _)⟩
/-! sorted -/
def sortUp (ns : List Int) : List Int := ns.mergeSort fun a b => decide (a ≤ b)
def sortDn (ns : List Int) : List Int := ns.mergeSort fun a b => decide (b ≤ a)
theorem sortUp_perm (ns : List Int) : (sortUp ns).Perm ns := List.mergeSort_perm _ _
theorem sortDn_perm (ns : List Int) : (sortDn ns).Perm ns := List.mergeSort_perm _ _
theorem sortUp_pw (ns : List Int) : (sortUp ns).Pairwise (· ≤ ·) := by
  have h := List.pairwise_mergeSort (le := fun a b : Int => decide (a ≤ b)) (fun a b c h1 h2 => by simp at h1 h2 ⊢; omega) (fun a b => by simp; omega) ns
  exact h.imp fun h => by simpa using h
theorem sortDn_pw (ns : List Int) : (sortDn ns).Pairwise (· ≥ ·) := by
  have h := List.pairwise_mergeSort (le := fun a b : Int => decide (b ≤ a)) (fun a b c h1 h2 => by simp at h1 h2 ⊢; omega) (fun a b => by simp; omega) ns
  exact h.imp fun h => by simpa using h
theorem up_unique {a b : List Int} (h : a.Perm b) (h1 : a.Pairwise (· ≤ ·)) (h2 : b.Pairwise (· ≤ ·)) : a = b := List.Perm.eq_of_pairwise (fun _ _ _ _ x y => Int.le_antisymm x y) h1 h2 h
theorem dn_unique {a b : List Int} (h : a.Perm b) (h1 : a.Pairwise (· ≥ ·)) (h2 : b.Pairwise (· ≥ ·)) : a = b := List.Perm.eq_of_pairwise (le := fun x y : Int => x ≥ y) (fun _ _ _ _ x y => Int.le_antisymm y x) h1 h2 h
def sortL (xs : List D) : Option Rv := (ints? xs).map fun ns => .own (.ow ((sortUp ns).map .int))
def sortDL (xs : List D) : Option Rv := (ints? xs).map fun ns => .own (.ow ((sortDn ns).map .int))
theorem cr_sortL : CrD K mg (bL sortL) (rSortedI K) := cr_bL fun xs z G H a ws Q e hs rp q => by
  obtain ⟨ns, e1, e2⟩ := Option.map_eq_some_iff.mp e
  subst e2
  have := ints?_eq e1
  subst this
  rw [rp.ints] at hs
  refine ⟨a, ns, rfl, hs, fun ns' p hp hw hn => ?_⟩
  have : ns' = sortUp ns := up_unique (hp.trans (sortUp_perm ns).symm) hw (sortUp_pw ns)
  subst this
  exact q.l _ p _ rfl hn (.of_ints _)
/-! isinstance by a built-in class -/
inductive TyN where
  | int | bool | list | str | tuple | dict
def TyN.name : TyN → String
  | .int => "int" | .bool => "bool" | .list => "list" | .str => "str" | .tuple => "tuple" | .dict => "dict"
def tyOf : D → Option String
  | .non => some "NoneType"
  | .bl _ => some "bool"
  | .int _ => some "int"
  | .str _ => some "str"
  | .lst _ => some "list"
  | .tup _ => some "tuple"
  | .dct _ => some "dict"
  | _ => none
def isTy : TyN → D → Option D
  | .int, .int _ => some (.bl true)
  | .int, .bl _ => some (.bl true)
  | .bool, .bl _ => some (.bl true)
  | .list, .lst _ => some (.bl true)
  | .str, .str _ => some (.bl true)
  | .tuple, .tup _ => some (.bl true)
  | .dict, .dct _ => some (.bl true)
  | _, .scr _ => none
  | _, .obj _ _ => none
  | _, .exc _ _ => none
  | _, _ => some (.bl false)
theorem tyOf_ok {d : D} {v : V} {t : String} (h : Rep K mg H d v) (e : tyOf d = some t) : TyX K H v (.type t) := by
  cases h with
  | non => cases e; exact .base .non
  | bl b => cases e; exact .base (.bl b)
  | int b => cases e; exact .base (.int b)
  | str b => cases e; exact .base (.str b)
  | lst h _ =>
    cases e
    rcases h with h | ⟨o, h⟩
    · exact .base (.lst h)
    · exact .base (.frz h)
  | scr _ _ => cases e
  | tup h _ =>
    cases e
    rcases h with (h | ⟨o, h⟩) | ⟨o, its, n, hk, hc, _⟩
    · exact .base (.tup h)
    · exact .fTuple h
    · exact .kTuple hk hc
  | obj _ _ _ => cases e
  | dct h _ =>
    cases e
    rcases h with h | ⟨o, h⟩
    · exact .base (.dK h)
    · exact .fDict h
  | exc _ _ => cases e
  | exz _ _ _ => cases e
theorem k7' : ∀ (T : TyN), kitB "dict" T.name = some (match T with | .dict => true | _ => false) := by
  intro T
  cases T <;> decide +kernel
theorem kit_all : ∀ (T : TyN) (d z : D), isTy T d = some z → ∃ t b, tyOf d = some t ∧ z = .bl b ∧ kitB t T.name = some b := by
  have k : ∀ (T : TyN), kitB "NoneType" T.name = some false ∧ kitB "bool" T.name = some (match T with | .int => true | .bool => true | _ => false) ∧ kitB "int" T.name = some (match T with | .int => true | _ => false) ∧
      kitB "str" T.name = some (match T with | .str => true | _ => false) ∧ kitB "list" T.name = some (match T with | .list => true | _ => false) ∧ kitB "tuple" T.name = some (match T with | .tuple => true | _ => false) := by
    intro T
    cases T <;> decide +kernel
  intro T d z h
  have k7 := k7' T
  obtain ⟨k1, k2, k3, k4, k5, k6⟩ := k T
  cases d with
  | non => cases T <;> (cases h; exact ⟨_, _, rfl, rfl, k1⟩)
  | bl b => cases T <;> (cases h; exact ⟨_, _, rfl, rfl, k2⟩)
  | int b => cases T <;> (cases h; exact ⟨_, _, rfl, rfl, k3⟩)
  | str b => cases T <;> (cases h; exact ⟨_, _, rfl, rfl, k4⟩)
  | lst b => cases T <;> (cases h; exact ⟨_, _, rfl, rfl, k5⟩)
  | tup b => cases T <;> (cases h; exact ⟨_, _, rfl, rfl, k6⟩)
  | scr b => cases T <;> cases h
  | obj b c => cases T <;> cases h
  | dct b => cases T <;> (cases h; exact ⟨_, _, rfl, rfl, k7⟩)
  | exc b c => cases T <;> cases h
end
section
variable {X : Cx} {a b c e : Expr} {es : List Expr} {ma mb mc : M} {ms : MA} {pos p p2 : Pos}
theorem boot_isinstance' : bootBuiltins "isinstance" = some (.builtin "isinstance") := by decide +kernel
/-- isinstance(x, T), T a built-in class -/
theorem se_isTy (T : TyN) (hg : Gl X "isinstance") (hm : X.mg "isinstance" = none) (hgT : Gl X (Str.ofString T.name)) (hmT : X.mg (Str.ofString T.name) = none) (hvT : bootBuiltins (Str.ofString T.name) = some (.type T.name)) (ha : SE X a ma)
    (hnT : Str.ofString T.name ≠ "__name__" := by decide) (hdT : (Str.ofString T.name == ("__debug__" : Str)) = false := by decide)
    (he : starEach (a :: [.Name (Str.ofString T.name) p2]) X.env = (false, eval a X.env) :: starEach [.Name (Str.ofString T.name) p2] X.env := by rfl) (hpl : (backTo pos (starEach [.Name (Str.ofString T.name) p2] X.env)).any (·.1) = false := by rfl) :
    SE X (.Call (.Name "isinstance" p) [a, .Name (Str.ofString T.name) p2] [] pos) (mUn (isTy T) ma) := by
  refine PE.imp (pe_callB call_isi hg hm boot_isinstance' (pa_cons ha (pa_cons (pe_bltn (v := .ty T.name) hgT hmT hvT rfl hnT hdT) pa_nil) he) (by decide) (by decide) he hpl) fun σ H Q h => ?_
  show tM X.K X.mg ma σ H fun x H1 => rIsi X.K [x, .ty T.name] H1 Q
  refine rd_un (f := isTy T) (R := fun x H1 Q => rIsi X.K [x, .ty T.name] H1 Q) (fun x z H v Q hz rp q => ?_) σ H Q h
  obtain ⟨t, b, e1, e2, e3⟩ := kit_all T x z hz
  subst e2
  exact ⟨v, .ty T.name, .type t, .type T.name, b, rfl, .ty _, tyOf_ok rp e1, kit_ty e3, q _ rfl⟩
/-- sorted(xs, reverse=True) -/
def mSortR (ms : MA) : M := mCallB (bL sortDL) ms
theorem se_sortR {j k1 k2} (hg : Gl X "sorted") (hm : X.mg "sorted" = none) (hv : bootBuiltins "sorted" = some (.builtin "sorted")) (ha : SA X (e :: es) ms)
    (he : backTo pos (starEach (e :: es) X.env) = (false, eval e X.env) :: backTo pos (starEach es X.env) := by rfl) (hpl : (backTo pos (starEach (e :: es) X.env)).any (·.1) = false := by rfl) :
    SE X (.Call (.Name "sorted" p) (e :: es) [⟨some "reverse", .Constant (.bool true) j k1, k2⟩] pos) (mSortR ms) := by
  refine PE.imp (pe_callBK (cr_sortedRev (b := true)) hg hm hv ha (pk_cons pe_bl pk_nil) (by decide) (by decide) he hpl) fun σ H Q h => ?_
  have hr : CrD X.K X.mg (bL sortDL) (fun vs H Q => rSortedKw X.K true [.bl true] vs [.bl true] H Q) := cr_bL fun xs z G H a ws Q e hs rp q => by
    obtain ⟨ns, e1, e2⟩ := Option.map_eq_some_iff.mp e
    subst e2
    have := ints?_eq e1
    subst this
    rw [rp.ints] at hs
    refine ⟨a, ns, rfl, rfl, hs, fun ns' p hp hw hn => ?_⟩
    have : ns' = sortDn ns := dn_unique (hp.trans (sortDn_perm ns).symm) hw (sortDn_pw ns)
    subst this
    exact q.l _ p _ rfl hn (.of_ints _)
  exact rd_callB hr σ H Q h
end
end
end FW

namespace FW
noncomputable section
open PySem L2

section
variable {K : PySem.W.Frag} {mg : Str → Option Value} {G H H' : Hp} {cs : List Cl} {c c' : Cl} {i : Nat}
/-- the object that a cell owns is written -/
theorem Res.write (h : Res K mg G H cs) (e : cs[i]? = some c) (hA : ∀ b, b ∉ c.A → H' b = H b) (ok : ClR K mg G H' c') (hA' : c'.A = c.A) (live : ∀ b ∈ c.A, H' b ≠ none) :
    Res K mg G H' (cs.set i c') ∧ Stp (own cs) G H (own (cs.set i c')) G H' := by
  obtain ⟨l1, l2, rfl, hl⟩ := split_at e
  rw [set_mid hl]
  have hm : ∀ b, b ∈ c.A → b ∈ own (l1 ++ c :: l2) := fun b hb => mem_own.mpr ⟨c, by simp, hb⟩
  have hp : Res K mg G H (c :: (l1 ++ l2)) := h.perm List.perm_middle
  have eo : own (l1 ++ c' :: l2) = own (l1 ++ c :: l2) := by
    simp only [own, List.flatMap_append, List.flatMap_cons, hA']
  have ap : ∀ d ∈ l1 ++ l2, ∀ a ∈ d.A, a ∉ c.A := fun d hd a h1 h2 => by
    have n := hp.nd
    rw [own_cons] at n
    exact (List.nodup_append.mp n).2.2 a h2 a (mem_own.mpr ⟨d, hd, h1⟩) rfl
  refine ⟨⟨fun b o q => ?_, fun d hd => ?_, by rw [eo]; exact h.nd, fun a ha => h.fr a (by rw [← eo]; exact ha), h.tabAt fun b hb => hA b fun z => hb (hm b z)⟩, ⟨fun b o hb q _ => ?_, fun _ _ q => q, fun _ _ _ => rfl, fun b hb => ?_, fun b hb => .inl (by rw [← eo]; exact hb)⟩⟩
  · have nb : b ∉ c.A := fun z => by rw [h.fr b (hm b z)] at q; cases q
    rw [hA b nb]
    exact h.same b o q
  · rcases List.mem_append.mp hd with z | z
    · exact (h.ok d (by simp [z])).frame (fun _ _ q => q) fun a ha o q _ => by rw [hA a (ap d (by simp [z]) a ha)]; exact q
    · rcases List.mem_cons.mp z with z | z
      · subst z; exact ok
      · exact (h.ok d (by simp [z])).frame (fun _ _ q => q) fun a ha o q _ => by rw [hA a (ap d (by simp [z]) a ha)]; exact q
  · rw [hA b fun z => hb (hm b z)]; exact q
  · by_cases z : b ∈ c.A
    · exact live b z
    · rw [hA b z]; exact hb
/-- a cell put into a slot -/
theorem Res.put (h : Res K mg G H (c :: cs)) (i : Nat) : Res K mg G H (cs.set i c) := by
  by_cases hi : i < cs.length
  · obtain ⟨l1, l2, e, hl⟩ := split_at (c := cs[i]) (List.getElem?_eq_getElem hi)
    generalize cs[i] = d at e
    subst e
    rw [set_mid hl]
    have p : List.Perm (c :: (l1 ++ d :: l2)) (d :: (l1 ++ c :: l2)) := by
      refine List.Perm.trans (List.Perm.cons _ List.perm_middle) (List.Perm.trans (List.Perm.swap _ _ _) (List.Perm.cons _ ?_))
      exact List.perm_middle.symm
    exact (h.perm p).tail
  · rw [List.set_eq_of_length_le (by omega)]
    exact h.tail
theorem own_put (i : Nat) : ∀ b ∈ own (cs.set i c), b ∈ own (c :: cs) := fun b hb => by
  obtain ⟨d, h1, h2⟩ := mem_own.mp hb
  rcases List.mem_or_eq_of_mem_set h1 with z | z
  · exact mem_own.mpr ⟨d, List.mem_cons_of_mem _ z, h2⟩
  · subst z; exact mem_own.mpr ⟨d, List.mem_cons_self, h2⟩
theorem vals_set : vals (cs.set i c) = (vals cs).set i c.v := by
  unfold vals; rw [List.map_set]
theorem slots_set : slots (cs.set i c) = (slots cs).set i c.s := by
  unfold slots; rw [List.map_set]
end

section
variable {X : Cx} {a b e : Expr} {es : List Expr} {ma mb mc : M} {ms : MA} {pos p2 : Pos} {K : PySem.W.Frag} {mg : Str → Option Value} {W : L2.WX} {P : Nat → Prop} {st : Stmt} {rest : List Stmt} {sa sb : MS}
abbrev KS (K : PySem.W.Frag) (mg : Str → Option Value) (W : L2.WX) (P : Nat → Prop) (σ : L2.St) (cs : List Cl) (G H : Hp) (k : Ctl) (ρ' : List Sl) (D : Ends) : Prop :=
  ∀ cs' v B G' H', slots cs' = ρ' → cs'.length = cs.length → (∀ i, P i → (vals cs')[i]? = σ[i]?) → Res K mg G' H' (⟨some v, k.rv.sl, B⟩ :: cs') → Stp (own cs) G H (own (⟨some v, k.rv.sl, B⟩ :: cs')) G' H' → endOf mg W D k v (vals cs') H'
section
variable {σ : L2.St} {cs cs' : List Cl} {G H G' H' : Hp} {ρ' : List Sl} {D : Ends}
theorem KS.nx (k : KS K mg W P σ cs G H .nx ρ' D) (e1 : slots cs' = ρ') (e2 : cs'.length = cs.length) (e3 : ∀ i, P i → (vals cs')[i]? = σ[i]?) (rs : Res K mg G' H' cs') (x : Stp (own cs) G H (own cs') G' H') : D.nx (vals cs') H' :=
  k cs' .non [] G' H' e1 e2 e3 (rs.addFz .non) (x.weak fun b hb => by simpa [own_cons, Rv.sl, Ctl.rv] using hb)
theorem len_of (h : vals cs' = vals cs) : cs'.length = cs.length := by
  have := congrArg List.length h
  simpa [vals] using this
end
def sNil : MS := fun ρ => some (.nx, ρ)
def sSeq (a b : MS) : MS := fun ρ => match a ρ with
  | some (.nx, ρ1) => b ρ1
  | r => r
theorem ss_nil : SSs X P [] sNil := PSs.imp pss_nil fun D σ H h => by
  obtain ⟨cs, G, k, ρ', e1, rs, hm, q⟩ := h
  cases hm
  subst e1
  exact KS.nx q rfl rfl (fun _ _ => rfl) rs Stp.refl
theorem ss_pass : SS X P (.Pass pos) sNil := PS.imp ps_pass fun D σ H h => by
  obtain ⟨cs, G, k, ρ', e1, rs, hm, q⟩ := h
  cases hm
  subst e1
  exact KS.nx q rfl rfl (fun _ _ => rfl) rs Stp.refl
theorem rd_seq : ∀ D σ H, tS K mg W P (sSeq sa sb) D σ H → tSeq (tS K mg W P sa) (tS K mg W P sb) D σ H := fun D σ H h => by
  obtain ⟨cs, G, k, ρ', e1, rs, hm, q⟩ := h
  unfold sSeq at hm
  split at hm
  · rename_i ρ1 ea
    refine ⟨cs, G, .nx, ρ1, e1, rs, ea, fun cs1 v B G1 H1 f1 fl fP rs1 st1 => ?_⟩
    exact ⟨cs1, G1, k, ρ', rfl, rs1.tail, by rw [f1]; exact hm, fun cs2 w B2 G2 H2 g1 gl gP rs2 st2 => q cs2 w B2 G2 H2 g1 (gl.trans fl) (fun i hi => (gP i hi).trans (fP i hi)) rs2 (st1.back1.trans st2)⟩
  · rename_i hn
    refine ⟨cs, G, k, ρ', e1, rs, hm, fun cs1 v B G1 H1 f1 fl fP rs1 st1 => ?_⟩
    have z := q cs1 v B G1 H1 f1 fl fP rs1 st1
    cases k with
    | nx => exact absurd hm (hn ρ')
    | _ => exact z
theorem ss_cons (h1 : SS X P st sa) (h2 : SSs X P rest sb) : SSs X P (st :: rest) (sSeq sa sb) := PSs.imp (pss_cons h1 h2) rd_seq
theorem ss_one (h1 : SS X P st sa) : SSs X P [st] sa := pss_one h1
def sBrk : MS := fun ρ => some (.bk, ρ)
def sCont : MS := fun ρ => some (.ct, ρ)
theorem ss_break : SS X P (.Break pos) sBrk := PS.imp ps_break fun D σ H h => by
  obtain ⟨cs, G, k, ρ', e1, rs, hm, q⟩ := h
  cases hm
  subst e1
  exact q cs .non [] G H rfl rfl (fun _ _ => rfl) (rs.addFz .non) (Stp.refl.weak fun b hb => by simpa [own_cons, Rv.sl, Ctl.rv] using hb)
theorem ss_continue : SS X P (.Continue pos) sCont := PS.imp ps_continue fun D σ H h => by
  obtain ⟨cs, G, k, ρ', e1, rs, hm, q⟩ := h
  cases hm
  subst e1
  exact q cs .non [] G H rfl rfl (fun _ _ => rfl) (rs.addFz .non) (Stp.refl.weak fun b hb => by simpa [own_cons, Rv.sl, Ctl.rv] using hb)
/-- a statement that is not reached -/
def sNo : MS := fun _ => none
theorem ss_no : SS X P st sNo := PS.imp ps_never fun D σ H h => by
  obtain ⟨cs, G, k, ρ', e1, rs, hm, q⟩ := h
  cases hm
def sExpr (m : M) : MS := fun ρ => (m ρ).map fun x => (.nx, x.2)
theorem ss_expr (he : SE X e ma) (hs : swapsWith e none pos.line X.env = pure false := by rfl) : SS X P (.Expr e pos) (sExpr ma) := PS.imp (ps_expr he hs) fun D σ H h => by
  obtain ⟨cs, G, k, ρ', e1, rs, hm, q⟩ := h
  obtain ⟨⟨r1, ρ1⟩, h1, hm⟩ := Option.map_eq_some_iff.mp hm
  cases hm
  refine ⟨cs, G, r1, ρ1, e1, rs, h1, fun cs1 v B G1 H1 f1 f2 fb rs1 st1 => ?_⟩
  subst e1
  rw [← f1]
  exact KS.nx q f2 (len_of f1) (fun _ _ => by rw [f1]) rs1.tail st1.back1
/-- return e: an owned local list goes out; a parameter's is frozen -/
def sRet (pl : List Nat) (m : M) : MS := fun ρ => (m ρ).bind fun x => match x.1 with
  | .bor i => if pl.contains i = true then (frz1 x.2 (.bor i)).map fun y => (.rt (.val y.1), y.2) else match x.2[i]? with
    | some .no => none
    | some s => some (.rt (.own s), x.2.set i .no)
    | none => none
  | r => some (.rt r, x.2)
theorem move_out {cs : List Cl} {i : Nat} {s : Sl} {v : V} {G H : Hp} (h : Res K mg G H cs) (e : (slots cs)[i]? = some s) (hv : (vals cs)[i]? = some (some v)) :
    ∃ A, Res K mg G H (⟨some v, s, A⟩ :: cs.set i ⟨some v, .no, []⟩) ∧ List.Perm (own cs) (own (⟨some v, s, A⟩ :: cs.set i ⟨some v, .no, []⟩)) ∧ vals (cs.set i ⟨some v, .no, []⟩) = vals cs := by
  obtain ⟨⟨o, s', A⟩, e5, e6⟩ := cell_at e
  have e6 : s' = s := e6
  subst e6
  rw [List.getElem?_map, e5] at hv
  have hv : o = some v := Option.some.inj hv
  subst hv
  have hvs : vals (cs.set i ⟨some v, .no, []⟩) = vals cs := set_vals e5 rfl
  obtain ⟨l1, l2, rfl, hl⟩ := split_at e5
  rw [set_mid hl] at hvs ⊢
  have p : List.Perm (own (l1 ++ (⟨some v, s', A⟩ : Cl) :: l2)) (own ((⟨some v, s', A⟩ : Cl) :: (l1 ++ (⟨some v, .no, []⟩ : Cl) :: l2))) := by
    refine (own_perm List.perm_middle).trans ?_
    rw [own_cons, own_cons]
    refine List.Perm.append_left _ ?_
    simp [own]
  have r := h.perm (ds := (⟨some v, s', A⟩ : Cl) :: (l1 ++ l2)) List.perm_middle
  have r2 := ((r.addNo (some v)).perm (List.Perm.swap _ _ _))
  exact ⟨A, r2.perm (List.Perm.cons _ List.perm_middle.symm), p, hvs⟩
theorem ss_ret (pl : List Nat) (he : SE X e ma) : SS X P (.Return (some e) pos) (sRet pl ma) := PS.imp (ps_ret he) fun D σ H h => by
  obtain ⟨cs, G, k, ρ', e1, rs, hm, q⟩ := h
  obtain ⟨⟨r1, ρ1⟩, h1, hm⟩ := Option.bind_eq_some_iff.mp hm
  refine ⟨cs, G, r1, ρ1, e1, rs, h1, fun cs1 v B G1 H1 f1 f2 fb rs1 st1 => ?_⟩
  subst e1
  cases r1 with
  | val d => cases hm; exact q cs1 v B G1 H1 f2 (len_of f1) (fun _ _ => by rw [f1]) rs1 st1
  | own d => cases hm; exact q cs1 v B G1 H1 f2 (len_of f1) (fun _ _ => by rw [f1]) rs1 st1
  | bor i =>
    dsimp only at hm
    split at hm
    · obtain ⟨⟨d, ρ2⟩, e3, e4⟩ := Option.map_eq_some_iff.mp hm
      cases e4
      obtain ⟨cs2, G2, g1, g2, g3, rp, rs2, st2⟩ := frz_ok rs1 (by rw [f1]; exact fb) (by rw [f2]; exact e3)
      exact q cs2 v [] G2 H1 g2 (g3.trans (len_of f1)) (fun _ _ => by rw [g1, f1]) (rs2.addFz rp) ((st1.trans st2).weak fun b hb => by simpa [own_cons, Rv.sl, Ctl.rv] using hb)
    · have hv := fb i rfl
      rw [← f1] at hv
      split at hm
      · cases hm
      · rename_i s hn es
        cases hm
        obtain ⟨A, rs2, p2, g1⟩ := move_out rs1.tail (by rw [f2]; exact es) hv
        refine q _ v A G1 H1 ?_ (by rw [List.length_set]; exact len_of f1) (fun _ _ => by rw [g1, f1]) rs2 (st1.back1.weak fun b hb => p2.mem_iff.mpr hb)
        rw [slots_set, f2]
      · cases hm
theorem ss_retN : SS X P (.Return none pos) (fun ρ => some (.rt (.val .non), ρ)) := PS.imp ps_retN fun D σ H h => by
  obtain ⟨cs, G, k, ρ', e1, rs, hm, q⟩ := h
  cases hm
  subst e1
  exact q cs .non [] G H rfl rfl (fun _ _ => rfl) (rs.addFz .non) (Stp.refl.weak fun b hb => by simpa [own_cons, Rv.sl, Ctl.rv] using hb)
def sIf (t : MT) (a b : MS) : MS := fun ρ => (t ρ).bind fun x => if x.1 = true then a x.2 else b x.2
variable {as bs : List Stmt} {tc : MT}
theorem ss_if (hc : STe X e tc) (ha : SSs X P as sa) (hb : SSs X P bs sb) : SS X P (.If e as bs pos) (sIf tc sa sb) := PS.imp (ps_if hc ha hb) fun D σ H h => by
  obtain ⟨cs, G, k, ρ', e1, rs, hm, q⟩ := h
  obtain ⟨⟨x, ρ1⟩, h1, hm⟩ := Option.bind_eq_some_iff.mp hm
  refine ⟨cs, G, x, ρ1, e1, rs, h1, fun cs1 G1 H1 f1 f2 rs1 st1 => ?_⟩
  subst e1
  have go : ∀ {s : MS}, s (slots cs1) = some (k, ρ') → tS X.K X.mg (Wx X) P s D (vals cs) H1 := fun {s} hs =>
    ⟨cs1, G1, k, ρ', f1, rs1, hs, fun cs2 w B2 G2 H2 g1 gl gP rs2 st2 => q cs2 w B2 G2 H2 g1 (gl.trans (len_of f1)) gP rs2 (st1.trans st2)⟩
  subst f2
  cases x with
  | true => exact go hm
  | false => exact go hm
/-! ### stores -/
/-- a result goes into slot i -/
def setR (i : Nat) (ρ : List Sl) : Rv → Option (List Sl)
  | .val d => some (ρ.set i (.fz d))
  | .own s => some (ρ.set i s)
  | .bor j => (frz1 ρ (.bor j)).map fun y => y.2.set i (.fz y.1)
theorem setR_ok {cs : List Cl} {G H : Hp} {r : Rv} {v : V} {B : List Addr} {i : Nat} {ρ' : List Sl} (h : Res K mg G H (⟨some v, r.sl, B⟩ :: cs)) (hb : Bor (vals cs) r v) (e : setR i (slots cs) r = some ρ') :
    ∃ cs' G', vals cs' = (vals cs).set i (some v) ∧ slots cs' = ρ' ∧ Res K mg G' H cs' ∧ Stp (own (⟨some v, r.sl, B⟩ :: cs)) G H (own cs') G' H := by
  cases r with
  | val d => cases e; exact ⟨cs.set i _, G, vals_set, slots_set, h.put i, Stp.refl.weak (own_put i)⟩
  | own d => cases e; exact ⟨cs.set i _, G, vals_set, slots_set, h.put i, Stp.refl.weak (own_put i)⟩
  | bor j =>
    obtain ⟨⟨d, ρ2⟩, e3, e4⟩ := Option.map_eq_some_iff.mp e
    subst e4
    obtain ⟨cs2, G2, g1, g2, g3, rp, rs2, st2⟩ := frz_ok h hb e3
    refine ⟨cs2.set i ⟨some v, .fz d, []⟩, G2, ?_, ?_, (rs2.addFz rp).put i, st2.weak fun b hb => ?_⟩
    · rw [vals_set, g1]
    · rw [slots_set, g2]
    · simpa [own_cons] using own_put i b hb
def sSet (i : Nat) (m : M) : MS := fun ρ => (m ρ).bind fun x => (setR i x.2 x.1).map fun ρ2 => (.nx, ρ2)
theorem rd_set {i : Nat} (hP : ¬ P i) : ∀ D σ H, tS K mg W P (sSet i ma) D σ H → tAsg (tM K mg ma) (gName i) D σ H := fun D σ H h => by
  obtain ⟨cs, G, k, ρ', e1, rs, hm, q⟩ := h
  obtain ⟨⟨r1, ρ1⟩, h1, hm⟩ := Option.bind_eq_some_iff.mp hm
  obtain ⟨ρ2, h2, hm⟩ := Option.map_eq_some_iff.mp hm
  cases hm
  refine ⟨cs, G, r1, ρ1, e1, rs, h1, fun cs1 v B G1 H1 f1 f2 fb rs1 st1 => ?_⟩
  subst e1
  obtain ⟨cs2, G2, g1, g2, rs2, st2⟩ := setR_ok (i := i) rs1 (by rw [f1]; exact fb) (by rw [f2]; exact h2)
  show D.nx ((vals cs).set i (some v)) H1
  rw [← f1, ← g1]
  refine KS.nx q g2 ?_ (fun j hj => ?_) rs2 (st1.trans st2)
  · have := congrArg List.length g1
    simp only [List.length_map, List.length_set] at this
    exact this.trans (len_of f1)
  · rw [g1, f1, List.getElem?_set_ne]
    rintro rfl
    exact hP hj
theorem ss_set {i : Nat} {x : Str} {pos' : Pos} (hN : X.N.Nodup) (hi : X.N[i]? = some x) (hx : Loc X.env.scope x) (hP : ¬ P i) (he : SE X e ma) (hs : swapsWith e (some (.Name x pos')) pos.line X.env = pure false := by rfl)
    (hf : X.fn x = true ∨ X.env.scope.names.lookup x = some .local := by first | exact .inl rfl | exact .inr rfl | assumption) : SS X P (.Assign [.Name x pos'] e pos) (sSet i ma) := PS.imp (ps_set hN hi hx he hs hf) (rd_set hP)
/-- the items of a tuple into slots -/
def gNames : List Nat → TGs
  | [] => gNil
  | i :: is => gCons (gName i) (gNames is)
def unp (ρ : List Sl) : List Nat → List D → Option (List Sl)
  | [], [] => some ρ
  | i :: is, d :: ds => unp (ρ.set i (.fz d)) is ds
  | _, _ => none
theorem unp_ok {G H : Hp} : ∀ {is : List Nat} {ds : List D} {vs : List V} {cs : List Cl} {ρ' : List Sl} {Q : L2.St → Hp → Prop}, (∀ i ∈ is, ¬ P i) → Res K mg G H cs → Reps K mg G ds vs → unp (slots cs) is ds = some ρ' →
    (∀ cs', slots cs' = ρ' → cs'.length = cs.length → (∀ j, P j → (vals cs')[j]? = (vals cs)[j]?) → Res K mg G H cs' → (∀ b ∈ own cs', b ∈ own cs) → Q (vals cs') H) → gNames is vs (vals cs) H Q
  | [], [], vs, cs, ρ', Q, hP, rs, rp, e, k => by
    cases rp
    cases e
    exact ⟨rfl, k cs rfl rfl (fun _ _ => rfl) rs fun _ h => h⟩
  | i :: is, d :: ds, vs, cs, ρ', Q, hP, rs, rp, e, k => by
    cases rp with
    | cons r1 r2 =>
      rename_i v vr
      refine ⟨v, vr, rfl, ?_⟩
      show gNames is vr ((vals cs).set i (some v)) H Q
      have r3 := (rs.addFz r1).put i
      have ev : (vals cs).set i (some v) = vals (cs.set i ⟨some v, .fz d, []⟩) := by rw [vals_set]
      rw [ev]
      refine unp_ok (fun j hj => hP j (by simp [hj])) r3 r2 (by rw [slots_set]; exact e) fun cs' f1 f2 f3 f4 f5 => k cs' f1 (by rw [f2, List.length_set]) (fun j hj => ?_) f4 fun b hb => ?_
      · rw [f3 j hj, vals_set, List.getElem?_set_ne]
        rintro rfl
        exact hP i (by simp) hj
      · have := own_put i b (f5 b hb)
        simpa [own_cons] using this
  | [], _ :: _, _, _, _, _, _, _, _, e, _ => by cases e
  | _ :: _, [], _, _, _, _, _, _, _, e, _ => by cases e
def sUnp (is : List Nat) (m : M) : MS := fun ρ => (m ρ).bind fun x => (tpv x.2 x.1).bind fun ds => (unp x.2 is ds).map fun ρ2 => (.nx, ρ2)
theorem unp_len : ∀ {is : List Nat} {ds : List D} {ρ ρ' : List Sl}, unp ρ is ds = some ρ' → ds.length = is.length
  | [], [], _, _, _ => rfl
  | i :: is, d :: ds, _, _, h => by simp [unp_len (is := is) h]
  | [], _ :: _, _, _, e => by cases e
  | _ :: _, [], _, _, e => by cases e
theorem ss_unp {is : List Nat} {ts : List Expr} {kk : Nat} {tpos : Pos} (hc : X.calm = true) (he : SE X e ma) (hg : PGs X ts (gNames is)) (hP : ∀ i ∈ is, ¬ P i) (hn : (assignEach ts X.env).length = is.length := by rfl) (hst : (assignEach ts X.env).findIdx? (·.1) = none := by rfl)
    (hs : swapsWithSole [.Tuple ts kk tpos] e pos.line X.env = pure false := by rfl) (hw : swappedStores [.Tuple ts kk tpos] e X.env = pure none := by rfl)
    (h1 : (assignEach [.Tuple ts kk tpos] X.env).map (·.2) = [assign (.Tuple ts kk tpos) X.env] := by rfl) : SS X P (.Assign [.Tuple ts kk tpos] e pos) (sUnp is ma) := PS.imp (ps_asg he (pg_tup hc hg hn hst) hs hw h1) fun D σ H h => by
  obtain ⟨cs, G, k, ρ', e1, rs, hm, q⟩ := h
  obtain ⟨⟨r1, ρ1⟩, h1, hm⟩ := Option.bind_eq_some_iff.mp hm
  obtain ⟨ds, h2, hm⟩ := Option.bind_eq_some_iff.mp hm
  obtain ⟨ρ2, h3, hm⟩ := Option.map_eq_some_iff.mp hm
  cases hm
  refine ⟨cs, G, r1, ρ1, e1, rs, h1, fun cs1 v B G1 H1 f1 f2 fb rs1 st1 => ?_⟩
  subst e1
  obtain ⟨a, vs, p1, p2, p3⟩ := tpv_rep rs1.tail rs1.h1 rfl rfl (by rw [f1]; exact fb) (by rw [f2]; exact h2)
  refine ⟨a, vs, p1, p2, by rw [p3.length, unp_len h3], ?_⟩
  rw [← f1]
  refine unp_ok hP rs1.tail p3 (by rw [f2]; exact h3) fun cs2 g1 g2 g3 g4 g5 => KS.nx q g1 (g2.trans (len_of f1)) (fun i hi => by rw [g3 i hi, f1]) g4 (st1.back1.weak g5)
end
end
end FW

namespace FW
noncomputable section
open PySem L2

/-! ### flat values -/
def scVs : List D → Option (List V)
  | [] => some []
  | d :: ds => match scV d, scVs ds with
    | some v, some vs => some (v :: vs)
    | _, _ => none
theorem flat_sc {d : D} {v : V} (h : scV d = some v) : flatV v = true := by
  cases d <;> simp [scV] at h <;> subst h <;> rfl
theorem flat_scs : ∀ {ds : List D} {vs : List V}, scVs ds = some vs → vs.all flatV = true
  | [], vs, h => by unfold scVs at h; cases h; rfl
  | d :: ds, vs, h => by
    unfold scVs at h
    split at h
    · rename_i v ws e1 e2
      cases h
      rw [List.all_cons, flat_sc e1, flat_scs e2]; rfl
    · cases h
section
variable {K : PySem.W.Frag} {mg : Str → Option Value} {G H : Hp}
theorem Rep.sc {d : D} {v w : V} (h : Rep K mg G d v) (e : scV d = some w) : v = w := by
  cases d <;> simp [scV] at e <;> subst e
  · exact h.non_iff
  · exact h.bl_iff
  · exact h.int_iff
  · exact h.str_iff
theorem Reps.sc : ∀ {ds : List D} {vs ws : List V}, Reps K mg G ds vs → scVs ds = some ws → vs = ws
  | [], vs, ws, h, e => by unfold scVs at e; cases e; cases h; rfl
  | d :: ds, vs, ws, h, e => by
    unfold scVs at e
    split at e
    · rename_i v us e1 e2
      cases e
      cases h with
      | cons h1 h2 => rw [h1.sc e1, h2.sc e2]
    · cases e
end
/-- the items of a list or a tuple -/
def sqv (ρ : List Sl) (r : Rv) : Option (List D) := match lsv ρ r with
  | some xs => some xs
  | none => tpv ρ r
def inVV (neg : Bool) (ρ : List Sl) (x y : Rv) : Option Rv := (dat ρ x).bind fun d => (scV d).bind fun v => (sqv ρ y).bind fun ds => (scVs ds).map fun vs => .val (.bl (if neg then !inV v vs else inV v vs))
section
variable {X : Cx} {a b e : Expr} {es : List Expr} {ma mb mc : M} {ms : MA} {pos p2 cpos apos : Pos} {K : PySem.W.Frag} {mg : Str → Option Value} {P : Nat → Prop} {st : Stmt} {rest : List Stmt} {sa sb : MS}
theorem sqv_rep {cs : List Cl} {c : Cl} {G H : Hp} {r : Rv} {v : V} {xs : List D} (h : Res K mg G H cs) (hc : ClR K mg G H c) (hv : c.v = some v) (hs : c.s = r.sl) (hb : Bor (vals cs) r v) (e : sqv (slots cs) r = some xs) : ∃ a vs, v = .ref a ∧ (SqL K H a vs ∨ SqT K H a vs) ∧ Reps K mg G xs vs := by
  unfold sqv at e
  split at e
  · rename_i ys e1
    cases e
    obtain ⟨a, vs, h1, h2, h3⟩ := lsv_rep h hc hv hs hb e1
    exact ⟨a, vs, h1, .inl h2, h3⟩
  · obtain ⟨a, vs, h1, h2, h3⟩ := tpv_rep h hc hv hs hb e
    exact ⟨a, vs, h1, .inr h2, h3⟩
theorem op2_in {neg : Bool} : Op2' K mg (inVV neg) (rIn K neg) := fun cs c1 c2 r1 r2 z G H v w Q rs o1 v1 s1 b1 o2 v2 s2 b2 hz q => by
  obtain ⟨d, e1, hz⟩ := Option.bind_eq_some_iff.mp hz
  obtain ⟨u, e2, hz⟩ := Option.bind_eq_some_iff.mp hz
  obtain ⟨ds, e3, hz⟩ := Option.bind_eq_some_iff.mp hz
  obtain ⟨us, e4, hz⟩ := Option.map_eq_some_iff.mp hz
  subst hz
  have hv := (dat_rep rs o1 v1 s1 b1 e1).sc e2
  subst hv
  obtain ⟨a, vs, h1, h2, h3⟩ := sqv_rep rs o2 v2 s2 b2 e3
  have hw := h3.sc e4
  subst hw
  exact ⟨a, vs, h1, h2, flat_sc e2, flat_scs e4, q.v _ _ rfl (.bl _)⟩
theorem rd_B2 {f : List Sl → Rv → Rv → Option Rv} {R : R2} (hr : Op2' K mg f R) : ∀ σ H Q, tMT K mg (mB (mBin2 f ma mb)) σ H Q → tTest (tOp R (tM K mg ma) (tM K mg mb)) σ H Q := fun σ H Q h => rd_bin2 hr σ H _ (rd_B σ H Q h)
theorem se_cmp2 {op : CmpOp} {f : List Sl → Rv → Rv → Option Rv} {R : R2} (ho : OpR X (compareOp op) R) (hr : Op2' X.K X.mg f R) (ha : SE X a ma) (hb : SE X b mb) (hm : behindInMarks op b = false) : SE X (.Compare a [op] [b] pos) (mBin2 f ma mb) := PE.imp (pe_cmpR ho ha hb hm) (rd_bin2 hr)
theorem st_cmp2 {op : CmpOp} {f : List Sl → Rv → Rv → Option Rv} {R : R2} (ho : OpR X (compareOp op) R) (hr : Op2' X.K X.mg f R) (ha : SE X a ma) (hb : SE X b mb) (hm : behindInMarks op b = false) : STe X (.Compare a [op] [b] pos) (mB (mBin2 f ma mb)) := PT.imp (pt_cmpR ho ha hb hm) (rd_B2 hr)
theorem se_in (ha : SE X a ma) (hb : SE X b mb) (hm : behindInMarks .In b = false := by rfl) : SE X (.Compare a [.In] [b] pos) (mBin2 (inVV false) ma mb) := se_cmp2 op_in_seq op2_in ha hb hm
theorem st_in (ha : SE X a ma) (hb : SE X b mb) (hm : behindInMarks .In b = false := by rfl) : STe X (.Compare a [.In] [b] pos) (mB (mBin2 (inVV false) ma mb)) := st_cmp2 op_in_seq op2_in ha hb hm
theorem se_notin (ha : SE X a ma) (hb : SE X b mb) (hm : behindInMarks .NotIn b = false := by rfl) : SE X (.Compare a [.NotIn] [b] pos) (mBin2 (inVV true) ma mb) := se_cmp2 op_notIn_seq op2_in ha hb hm
theorem st_notin (ha : SE X a ma) (hb : SE X b mb) (hm : behindInMarks .NotIn b = false := by rfl) : STe X (.Compare a [.NotIn] [b] pos) (mB (mBin2 (inVV true) ma mb)) := st_cmp2 op_notIn_seq op2_in ha hb hm

/-! ### methods that read a list -/
def rCntF (K : PySem.W.Frag) : V → List V → Hp → VK → Prop := fun x xs H Q => ∃ (p : Addr) (ys : List V) (y : V), x = .ref p ∧ xs = [y] ∧ SqL K H p ys ∧ flatV y = true ∧ ys.all flatV = true ∧ Q (.int ((ys.countP fun z => eqV z y : Nat) : Int)) H
theorem countP_eqU {x : V} : ∀ {xs : List V} {us : List Value}, Vals xs us → xs.all flatV = true → us.countP (eqU x) = xs.countP fun y => eqV y x
  | _, _, .nil, _ => rfl
  | y :: xs, u :: us, .cons r t, f => by
    rw [List.all_cons, Bool.and_eq_true] at f
    rw [List.countP_cons, List.countP_cons, eqU_of r f.1, countP_eqU t f.2]
theorem mt_countF : MtR X "list.count" (rCntF X.K) := by
  intro pins s σ H x xs v us Q I rx rxs h
  obtain ⟨p, ns, k, rfl, rfl, hs, fk, fs, q⟩ := h
  cases rx
  obtain ⟨u, rfl, ru⟩ := rxs.one
  obtain ⟨its, rv, ⟨⟨cls, dd, data, sl⟩, n, ho, hc, hdn, hd⟩, hlen⟩ := I.list hs
  simp only at hc hd
  subst hc hd
  refine PySem.call_meets PySem.F.slot_list_count ⟨_, ho, rfl⟩ PySem.F.entry_list_count (PySem.F.args_list_count_2 _ _)
    (SeqAt.list_countAt p its.toArray n dd sl u (eqU k)) ⟨ho, fun y hy => mem_eqAt ru fk rv fs y (by simpa using hy), ?_⟩
  refine ⟨.int ((ns.countP fun z => eqV z k : Nat) : Int), H, I.tok _, ⟨s.toks, ?_⟩, q⟩
  show Value.int ((its.toArray.toList.countP (eqU k) : Nat) : Int) s.toks = Value.int ((ns.countP fun z => eqV z k : Nat) : Int) s.toks
  rw [show its.toArray.toList = its by simp, countP_eqU rv fs]
/-- o.m(e ..), o a list that is read -/
def mRead (f : List D → List D → Option D) (o : M) (ms : MA) : M := fun ρ => (o ρ).bind fun x => (lsv x.2 x.1).bind fun _ => (ms x.2).bind fun y => (lsv y.2 x.1).bind fun xs => (y.1.mapM (dat y.2)).bind fun ds => (f xs ds).map fun z => (.val z, y.2)
def RdOk (K : PySem.W.Frag) (mg : Str → Option Value) (f : List D → List D → Option D) (R : V → List V → Hp → VK → Prop) : Prop :=
  ∀ (xs ds : List D) (z : D) (G H : Hp) (a : Addr) (ws vs : List V) (Q : VK), f xs ds = some z → SqL K H a ws → Reps K mg G xs ws → Reps K mg H ds vs → (∀ u, Rep K mg G z u → Q u H) → R (.ref a) vs H Q
theorem args_dat {G H : Hp} : ∀ {rs : List Rv} {cs ds : List Cl} {vs : List V} {xs : List D}, Res K mg G H (ds ++ cs) → Bors (vals cs) rs vs → vals ds = vs.map some → slots ds = rs.map Rv.sl → rs.mapM (dat (slots cs)) = some xs → Reps K mg H xs vs
  | [], cs, ds, vs, xs, h, hb, e1, e2, e => by
    have : vs = [] := by
      have : ds = [] := by cases ds <;> simp [slots] at e2 ⊢
      subst this
      cases vs <;> simp [vals] at e1 ⊢
    subst this
    cases e
    exact .nil
  | r :: rs, cs, ds, vs, xs, h, hb, e1, e2, e => by
    cases vs with
    | nil => exact hb.elim
    | cons v vs =>
      cases ds with
      | nil => simp [vals] at e1
      | cons c ds =>
        obtain ⟨cv, s, B⟩ := c
        simp only [vals, List.map_cons, List.cons.injEq] at e1
        simp only [slots, List.map_cons, List.cons.injEq] at e2
        rw [List.mapM_cons] at e
        obtain ⟨d, e3, e⟩ := Option.bind_eq_some_iff.mp e
        obtain ⟨ys, e4, e⟩ := Option.bind_eq_some_iff.mp e
        cases e
        have hc := h.h1
        exact .cons (dat_rep (h.right) hc e1.1 e2.1 hb.1 e3) (args_dat (ds := ds) (Res.tail h) hb.2 e1.2 e2.2 e4)
theorem rd_read {o : M} {f : List D → List D → Option D} {R : V → List V → Hp → VK → Prop} (hr : RdOk K mg f R) : ∀ σ H Q, tM K mg (mRead f o ms) σ H Q → tBM K "list" R (tM K mg o) (tMA K mg ms) σ H Q := fun σ H Q h => by
  obtain ⟨cs, G, r, ρ', e1, rs, hm, k⟩ := h
  obtain ⟨⟨r1, ρ1⟩, h1, hm⟩ := Option.bind_eq_some_iff.mp hm
  obtain ⟨xs0, h0, hm⟩ := Option.bind_eq_some_iff.mp hm
  obtain ⟨⟨r2, ρ2⟩, h2, hm⟩ := Option.bind_eq_some_iff.mp hm
  obtain ⟨xs, h3, hm⟩ := Option.bind_eq_some_iff.mp hm
  obtain ⟨zs, h4, hm⟩ := Option.bind_eq_some_iff.mp hm
  obtain ⟨z, h5, hm⟩ := Option.map_eq_some_iff.mp hm
  cases hm
  refine ⟨cs, G, r1, ρ1, e1, rs, h1, fun cs1 v B G1 H1 f1 f2 fb rs1 st1 => ⟨?_, cs1, G1, r2, ρ2, f1, rs1.tail, by rw [f2]; exact h2, fun cs2 ds vs G2 H2 g1 g2 gb g3 g4 rs2 st2 => ?_⟩⟩
  · obtain ⟨a, ws, p1, p2, p3⟩ := lsv_rep rs1.tail rs1.h1 rfl rfl (by rw [f1]; exact fb) (by rw [f2]; exact h0)
    subst p1
    exact .inl ⟨rfl, ws, p2⟩
  · have rA := Res.frame (ds := [_]) rs1 st2 rs2
    have sA := st1.trans (Stp.under (ds := [_]) rs1 st2)
    subst g1; subst g2
    obtain ⟨a, ws, p1, p2, p3⟩ := lsv_rep rs2.right rA.h1 rfl rfl fb h3
    subst p1
    refine hr xs zs z G2 H2 a ws vs Q h5 p2 p3 (args_dat rs2 gb g3 g4 h4) fun u hu => Kn.fz k rfl rfl rs2.right (sA.weak fun b hb => ?_) hu
    rw [own_append]
    exact List.mem_append_right _ (own_sub_right b hb)
end
end
end FW

namespace FW
noncomputable section
open PySem L2

section
variable {X : Cx} {a b e o : Expr} {es : List Expr} {ma mb mc mo : M} {ms : MA} {pos p2 cpos apos : Pos} {K : PySem.W.Frag} {mg : Str → Option Value} {P : Nat → Prop} {st : Stmt} {rest : List Stmt} {sa sb : MS}
/-! count, index -/
def cntF : List D → List D → Option D := fun xs ds => match ds with
  | [d] => (scV d).bind fun v => (scVs xs).map fun vs => .int ((vs.countP fun z => eqV z v : Nat) : Int)
  | _ => none
theorem rd_count : RdOk K mg cntF (rCntF K) := fun xs ds z G H a ws vs Q e hs rp rq q => by
  unfold cntF at e
  split at e
  · rename_i d
    obtain ⟨v, e1, e⟩ := Option.bind_eq_some_iff.mp e
    obtain ⟨us, e2, e⟩ := Option.map_eq_some_iff.mp e
    subst e
    have hw := rp.sc e2
    subst hw
    cases rq with
    | cons r1 r2 =>
      cases r2
      have hv := r1.sc e1
      subst hv
      exact ⟨a, ws, _, rfl, rfl, hs, flat_sc e1, flat_scs e2, q _ (.int _)⟩
  · cases e
def idxF : List D → List D → Option D := fun xs ds => match ds with
  | [d] => (scV d).bind fun v => (scVs xs).bind fun vs => (vs.findIdx? fun z => eqV z v).map fun j => .int (j : Nat)
  | _ => none
theorem rd_index : RdOk K mg idxF (rIndex K) := fun xs ds z G H a ws vs Q e hs rp rq q => by
  unfold idxF at e
  split at e
  · rename_i d
    obtain ⟨v, e1, e⟩ := Option.bind_eq_some_iff.mp e
    obtain ⟨us, e2, e⟩ := Option.bind_eq_some_iff.mp e
    obtain ⟨j, e3, e⟩ := Option.map_eq_some_iff.mp e
    subst e
    have hw := rp.sc e2
    subst hw
    cases rq with
    | cons r1 r2 =>
      cases r2
      have hv := r1.sc e1
      subst hv
      obtain ⟨hj, h1, h2⟩ := List.findIdx?_eq_some_iff_getElem.mp e3
      refine ⟨a, ws, _, j, ws[j], rfl, rfl, hs, flat_sc e1, flat_scs e2, List.getElem?_eq_getElem hj, h1, fun m z' hm hz => ?_, q _ (.int _)⟩
      obtain ⟨hm', ez⟩ := List.getElem?_eq_some_iff.mp hz
      have := h2 m hm
      subst ez
      simpa using this
  · cases e
theorem se_count (ho : SE X o mo) (ha : SA X (e :: es) ms) (hbase : attributeBase o "count" X.env (eval o X.env) = eval o X.env := by rfl)
    (hfew : ((backTo cpos (starEach (e :: es) X.env)).all (fun x => !x.1) && (backToKw cpos (keywordEach [] X.env)).all (fun x => x.1.isSome)
      && decide ((e :: es).length + ([] : List Keyword).length + (if ([] : List Keyword).isEmpty then 0 else 1) < 30)) = true := by rfl)
    (hline : (apos.endLine == cpos.line) = true := by rfl) (hs : starEach (e :: es) X.env = (false, eval e X.env) :: starEach es X.env := by rfl) (hplain : (backTo cpos (starEach es X.env)).any (·.1) = false := by rfl) :
    SE X (.Call (.Attribute o "count" apos) (e :: es) [] cpos) (mRead cntF mo ms) :=
  PE.imp (pe_bm PySem.F.plainAttrs_list PySem.F.slot_list_count PySem.F.type_list_count mt_countF ho ha hbase hfew hline hs hplain) (rd_read rd_count)
theorem se_index (ho : SE X o mo) (ha : SA X (e :: es) ms) (hbase : attributeBase o "index" X.env (eval o X.env) = eval o X.env := by rfl)
    (hfew : ((backTo cpos (starEach (e :: es) X.env)).all (fun x => !x.1) && (backToKw cpos (keywordEach [] X.env)).all (fun x => x.1.isSome)
      && decide ((e :: es).length + ([] : List Keyword).length + (if ([] : List Keyword).isEmpty then 0 else 1) < 30)) = true := by rfl)
    (hline : (apos.endLine == cpos.line) = true := by rfl) (hs : starEach (e :: es) X.env = (false, eval e X.env) :: starEach es X.env := by rfl) (hplain : (backTo cpos (starEach es X.env)).any (·.1) = false := by rfl) :
    SE X (.Call (.Attribute o "index" apos) (e :: es) [] cpos) (mRead idxF mo ms) :=
  PE.imp (pe_bm PySem.F.plainAttrs_list PySem.F.slot_list_index PySem.F.type_list_index mt_index ho ha hbase hfew hline hs hplain) (rd_read rd_index)

/-! ### methods that change the list that slot i owns -/
def MutOk (K : PySem.W.Frag) (mg : Str → Option Value) (f : List D → List D → Option (D × List D)) (R : V → List V → Hp → VK → Prop) : Prop :=
  ∀ (xs ds xs' : List D) (z : D) (G H : Hp) (a : Addr) (ws vs : List V) (Q : VK), f xs ds = some (z, xs') → H a = some (.lst ws) → Same G H → G a = none → Reps K mg G xs ws → Reps K mg G ds vs →
    (∀ u ws', Rep K mg G z u → Reps K mg G xs' ws' → Q u (upd H a (.lst ws'))) → R (.ref a) vs H Q
def mMut (f : List D → List D → Option (D × List D)) (i : Nat) (ms : MA) : M := fun ρ => match ρ[i]? with
  | some (.ow _) => (ms ρ).bind fun y => (frzA y.2 y.1).bind fun z => match z.2[i]? with
    | some (.ow xs) => (f xs z.1).map fun w => (.val w.1, z.2.set i (.ow w.2))
    | _ => none
  | _ => none
/-- an owned list's cell -/
theorem ow_cell {G H : Hp} {cs : List Cl} {i : Nat} {xs : List D} {v : V} (h : Res K mg G H cs) (e : (slots cs)[i]? = some (.ow xs)) (hv : (vals cs)[i]? = some (some v)) :
    ∃ a ws, v = .ref a ∧ cs[i]? = some ⟨some (.ref a), .ow xs, [a]⟩ ∧ H a = some (.lst ws) ∧ G a = none ∧ Reps K mg G xs ws := by
  obtain ⟨⟨o, s', A⟩, e5, e6⟩ := cell_at e
  have e6 : s' = .ow xs := e6
  subst e6
  rw [List.getElem?_map, e5] at hv
  have hv : o = some v := Option.some.inj hv
  subst hv
  have o := (h.ok _ (List.mem_of_getElem? e5)).own (v := v) rfl rfl (by simp)
  have hfr : ∀ a ∈ A, G a = none := fun a ha => h.fr a (mem_own.mpr ⟨_, List.mem_of_getElem? e5, ha⟩)
  have o : Own K mg G H (.ow xs) v A := o
  cases o with
  | ow h1 h2 => exact ⟨_, _, rfl, e5, h1, hfr _ (by simp), h2⟩
theorem rd_mut {i : Nat} {f : List D → List D → Option (D × List D)} {R : V → List V → Hp → VK → Prop} (hr : MutOk K mg f R) : ∀ σ H Q, tM K mg (mMut f i ms) σ H Q → tBM K "list" R (tVar i) (tMA K mg ms) σ H Q := fun σ H Q h => by
  obtain ⟨cs, G, r, ρ', e1, rs, hm, k⟩ := h
  unfold mMut at hm
  split at hm
  · rename_i xs0 ex
    obtain ⟨⟨r2, ρ2⟩, h2, hm⟩ := Option.bind_eq_some_iff.mp hm
    obtain ⟨⟨zs, ρ3⟩, h3, hm⟩ := Option.bind_eq_some_iff.mp hm
    dsimp only at hm
    split at hm
    · rename_i xs ex3
      obtain ⟨⟨z, xs'⟩, h4, hm⟩ := Option.map_eq_some_iff.mp hm
      cases hm
      subst e1
      obtain ⟨c0, e5, e6⟩ := cell_at ex
      obtain ⟨v0, hv0⟩ : ∃ v, (vals cs)[i]? = some (some v) := by
        rcases rs.ok _ (List.mem_of_getElem? e5) with ⟨q, _⟩ | ⟨v, hv, _⟩
        · rw [q] at e6; cases e6
        · exact ⟨v, by rw [List.getElem?_map, e5]; show some c0.v = _; rw [hv]⟩
      obtain ⟨a, ws0, p1, p2, p3, p4, p5⟩ := ow_cell rs ex hv0
      subst p1
      refine ⟨.ref a, hv0, .inl ⟨rfl, ws0, SqL.of p3⟩, cs, G, r2, ρ2, rfl, rs, h2, fun cs2 ds vs G2 H2 g1 g2 gb g3 g4 rs2 st2 => ?_⟩
      subst g2
      obtain ⟨cs3, G3, k1, k2, rp, rs3, st3⟩ := frzA_ok rs2 (by rw [g1]; exact gb) g3 g4 h3
      subst k2
      obtain ⟨a', ws, q1, q2, q3, q4, q5⟩ := ow_cell (v := .ref a) rs3 ex3 (by rw [k1, g1]; exact hv0)
      cases q1
      refine hr xs zs xs' z G3 H2 a ws vs Q h4 q3 rs3.same q4 q5 rp fun u ws' hu hw => ?_
      have wr := Res.write (H' := upd H2 a (.lst ws')) (c' := ⟨some (.ref a), .ow xs', [a]⟩) rs3 q2 (fun b hb => upd_ne (by simpa using hb)) (.inr ⟨_, rfl, .ow upd_same hw⟩) rfl (fun b hb => by
        have : b = a := by simpa using hb
        subst this; rw [upd_same]; simp)
      exact Kn.fz k (by rw [set_vals (c' := ⟨some (.ref a), .ow xs', [a]⟩) q2 rfl, k1, g1]) (by rw [slots_set]) wr.1 (st2.trans (st3.trans wr.2)) hu
    · cases hm
  · cases hm
/-! the methods -/
def apF : List D → List D → Option (D × List D) := fun xs ds => match ds with
  | [d] => @ite _ (xs.length < sizeLine) (Classical.propDecidable _) (some (.non, xs ++ [d])) none
  | _ => none
theorem mu_append : MutOk K mg apF rAppend := fun xs ds xs' z G H a ws vs Q e hH _ _ rp rq k => by
  unfold apF at e
  split at e
  · split at e
    · rename_i hl
      cases e
      cases rq with
      | cons r1 r2 =>
        cases r2
        exact ⟨a, ws, _, rfl, rfl, hH, by rw [rp.length]; exact hl, k _ _ .non (rp.append (.cons r1 .nil))⟩
    · cases e
  · cases e
def insF : List D → List D → Option (D × List D) := fun xs ds => match ds with
  | [.int i, d] => @ite _ (xs.length < sizeLine ∧ 0 ≤ i ∧ i < 2 ^ 63) (Classical.propDecidable _) (some (.non, xs.take i.toNat ++ [d] ++ xs.drop i.toNat)) none
  | _ => none
theorem mu_insert : MutOk K mg insF (fun x vs H Q => ∃ (l : Addr) (xs : List V) (i : Int) (y : V), x = .ref l ∧ vs = [.int i, y] ∧ H l = some (.lst xs) ∧ xs.length < sizeLine ∧ 0 ≤ i ∧ i < 2 ^ 63 ∧
    Q .non (upd H l (.lst (xs.take i.toNat ++ [y] ++ xs.drop i.toNat)))) := fun xs ds xs' z G H a ws vs Q e hH _ _ rp rq k => by
  unfold insF at e
  split at e
  · split at e
    · rename_i hl
      cases e
      cases rq with
      | cons r1 r2 =>
        cases r2 with
        | cons r2 r3 =>
          cases r3
          have := r1.int_iff
          subst this
          exact ⟨a, ws, _, _, rfl, rfl, hH, by rw [rp.length]; exact hl.1, hl.2.1, hl.2.2, k _ _ .non (((rp.take _).append (.cons r2 .nil)).append (rp.drop _))⟩
    · cases e
  · cases e
def popF : List D → List D → Option (D × List D) := fun xs ds => match ds with
  | [] => (xs[xs.length - 1]?).map fun d => (d, xs.dropLast)
  | _ => none
theorem Reps.dropLast {G : Hp} : ∀ {d : List D} {v : List V}, Reps K mg G d v → Reps K mg G d.dropLast v.dropLast := fun {d v} h => by
  rw [List.dropLast_eq_take, List.dropLast_eq_take, h.length]
  exact h.take _
theorem mu_pop : MutOk K mg popF rPop := fun xs ds xs' z G H a ws vs Q e hH _ _ rp rq k => by
  unfold popF at e
  split at e
  · obtain ⟨d, e1, e2⟩ := Option.map_eq_some_iff.mp e
    cases e2
    cases rq
    obtain ⟨y, h1, h2⟩ := rp.get e1
    exact ⟨a, ws, y, rfl, rfl, hH, by rw [rp.length]; exact h1, k _ _ h2 rp.dropLast⟩
  · cases e
def popAtF : List D → List D → Option (D × List D) := fun xs ds => match ds with
  | [.int i] => @ite _ (0 ≤ i ∧ i < 2 ^ 63 ∧ i < xs.length) (Classical.propDecidable _) ((xs[i.toNat]?).map fun d => (d, xs.eraseIdx i.toNat)) none
  | _ => none
theorem mu_popAt : MutOk K mg popAtF rPopAt := fun xs ds xs' z G H a ws vs Q e hH _ _ rp rq k => by
  unfold popAtF at e
  split at e
  · split at e
    · rename_i i hl
      obtain ⟨d, e1, e2⟩ := Option.map_eq_some_iff.mp e
      cases e2
      cases rq with
      | cons r1 r2 =>
        cases r2
        have := r1.int_iff
        subst this
        obtain ⟨y, h1, h2⟩ := rp.get e1
        exact ⟨a, ws, i, i.toNat, y, rfl, rfl, hH, by omega, hl.2.1, PySem.seqIndex_of hl.1 (by rw [rp.length]; exact hl.2.2), h1, k _ _ h2 (rp.erase _)⟩
    · cases e
  · cases e
def revF : List D → List D → Option (D × List D) := fun xs ds => match ds with
  | [] => some (.non, xs.reverse)
  | _ => none
theorem mu_reverse : MutOk K mg revF rReverse := fun xs ds xs' z G H a ws vs Q e hH _ _ rp rq k => by
  unfold revF at e
  split at e
  · cases e
    cases rq
    exact ⟨a, ws, rfl, rfl, hH, k _ _ .non rp.reverse⟩
  · cases e
/-- remove of an int that is there, ints alone -/
def remF : List D → List D → Option (D × List D) := fun xs ds => match ds with
  | [.int i] => (ints? xs).bind fun ns => (ns.findIdx? (· == i)).map fun j => (.non, (ns.eraseIdx j).map .int)
  | _ => none
theorem mu_remove : MutOk K mg remF rRemI := fun xs ds xs' z G H a ws vs Q e hH _ _ rp rq k => by
  unfold remF at e
  split at e
  · rename_i i
    obtain ⟨ns, e1, e⟩ := Option.bind_eq_some_iff.mp e
    obtain ⟨j, e2, e⟩ := Option.map_eq_some_iff.mp e
    cases e
    have := ints?_eq e1
    subst this
    rw [rp.ints] at hH
    cases rq with
    | cons r1 r2 =>
      cases r2
      have := r1.int_iff
      subst this
      obtain ⟨hj, h1, h2⟩ := List.findIdx?_eq_some_iff_getElem.mp e2
      refine ⟨a, ns, i, j, rfl, rfl, hH, ?_, fun m hm hz => ?_, k _ _ .non (.of_ints _)⟩
      · rw [List.getElem?_eq_getElem hj]
        simpa using h1
      · obtain ⟨hm', ez⟩ := List.getElem?_eq_some_iff.mp hz
        have := h2 m hm
        simp [ez] at this
  · cases e
/-- extend by a list -/
def extF : List D → List D → Option (D × List D) := fun xs ds => match ds with
  | [.lst ys] => @ite _ (xs.length + ys.length ≤ sizeLine) (Classical.propDecidable _) (some (.non, xs ++ ys)) none
  | _ => none
def rExtR : V → List V → Hp → VK → Prop := fun x vs H Q => ∃ l b xs zs, x = .ref l ∧ vs = [.ref b] ∧ H l = some (.lst xs) ∧ Rd H b (.lst zs) ∧ xs.length + zs.length ≤ sizeLine ∧ Q .non (upd H l (.lst (xs ++ zs)))
theorem mt_extR : MtM X "list.extend" rExtR := by
  intro pins s σ H x vs v us Q I rx rv h
  obtain ⟨l, b, xs, zs, rfl, rfl, hH, hB, hz, q⟩ := h
  cases rx
  obtain ⟨u, rfl, ru⟩ := rv.one
  cases ru
  obtain ⟨z, its, n, r, hl, e⟩ := Inv.lstM I hH
  obtain ⟨z2, its2, n2, r2, e2⟩ := hB.ok I.hok
  have hl2 := r2.length
  have hsz : its.toArray.size + its2.toArray.size ≤ sizeLine := by rw [List.size_toArray, List.size_toArray]; omega
  have hlong : ¬ (!its.toArray.isEmpty && Builtin.List.listTooLong (its.toArray.size + its2.toArray.size)) = true := by
    rw [notLongL hsz, Bool.and_false]
    exact Bool.false_ne_true
  refine PySem.call_meets F.slot_list_extend ⟨_, e, rfl⟩ F.entry_list_extend (F.args_list_extend_2 _ _)
    (AutoSeq1.list_extend_list_list_0 l its.toArray n b its2.toArray n2 hlong (by rw [List.size_toArray]; omega) (by omega)) ⟨e, e2, ?_⟩
  refine ⟨.non, _, Inv.lset I (its' := its ++ its2) hH e (by simp) (r.append r2) ?_, rfl, q⟩
  rw [List.length_append]
  omega
theorem mu_extend : MutOk K mg extF rExtR := fun xs ds xs' z G H a ws vs Q e hH sm _ rp rq k => by
  unfold extF at e
  split at e
  · split at e
    · rename_i ys hl
      cases e
      cases rq with
      | cons r1 r2 =>
        cases r2
        cases r1 with
        | lst h1 h2 =>
          rename_i b zs
          exact ⟨a, b, ws, zs, rfl, rfl, hH, same_rd sm h1, by rw [rp.length, h2.length]; exact hl, k _ _ .non (rp.append h2)⟩
    · cases e
  · cases e
variable {x nm : Str} {id : String} {np : Pos} {R : V → List V → Hp → VK → Prop} {f : List D → List D → Option (D × List D)}
theorem se_mut (i : Nat) (slot : Slot "list" nm id) (hty : typeOf (.builtin id) = pure (.type "method_descriptor")) (hmt : MtR X id R) (hr : MutOk X.K X.mg f R) (ha : SA X (e :: es) ms)
    (hN : X.N[i]? = some x := by rfl) (hv : Vis X.env.scope x := by first | exact Or.inl rfl | exact Or.inr (Or.inl rfl) | exact Or.inr (Or.inr rfl)) (hd : (x == ("__debug__" : Str)) = false := by decide) (hcd : (x == ("__classdict__" : Str)) = false := by decide)
    (hbase : attributeBase (.Name x np) nm X.env (eval (.Name x np) X.env) = eval (.Name x np) X.env := by rfl)
    (hfew : ((backTo cpos (starEach (e :: es) X.env)).all (fun x => !x.1) && (backToKw cpos (keywordEach [] X.env)).all (fun x => x.1.isSome)
      && decide ((e :: es).length + ([] : List Keyword).length + (if ([] : List Keyword).isEmpty then 0 else 1) < 30)) = true := by rfl)
    (hline : (apos.endLine == cpos.line) = true := by rfl) (hs : starEach (e :: es) X.env = (false, eval e X.env) :: starEach es X.env := by rfl) (hplain : (backTo cpos (starEach es X.env)).any (·.1) = false := by rfl) :
    SE X (.Call (.Attribute (.Name x np) nm apos) (e :: es) [] cpos) (mMut f i ms) :=
  PE.imp (pe_bm PySem.F.plainAttrs_list slot hty hmt (pe_var hN hv hd hcd) ha hbase hfew hline hs hplain) (rd_mut hr)
theorem se_mut0 (i : Nat) (slot : Slot "list" nm id) (hty : typeOf (.builtin id) = pure (.type "method_descriptor")) (hmt : MtR X id R) (hr : MutOk X.K X.mg f R)
    (hN : X.N[i]? = some x := by rfl) (hv : Vis X.env.scope x := by first | exact Or.inl rfl | exact Or.inr (Or.inl rfl) | exact Or.inr (Or.inr rfl)) (hd : (x == ("__debug__" : Str)) = false := by decide) (hcd : (x == ("__classdict__" : Str)) = false := by decide)
    (hbase : attributeBase (.Name x np) nm X.env (eval (.Name x np) X.env) = eval (.Name x np) X.env := by rfl) (hline : (apos.endLine == cpos.line) = true := by rfl) :
    SE X (.Call (.Attribute (.Name x np) nm apos) [] [] cpos) (mMut f i aNil) :=
  PE.imp (pe_bm0 PySem.F.plainAttrs_list slot hty hmt (pe_var hN hv hd hcd) hbase hline) fun σ H Q h => by
    obtain ⟨v, hv, ty, cs, G, rr, ρ', e1, rs, hm, k⟩ := rd_mut hr σ H Q h
    cases hm
    exact ⟨v, hv, ty, k cs [] [] G H e1 rfl trivial rfl rfl rs Stp.refl⟩
theorem se_append (i : Nat) (ha : SA X (e :: es) ms) (hN : X.N[i]? = some x := by rfl) (hv : Vis X.env.scope x := by first | exact Or.inl rfl | exact Or.inr (Or.inl rfl) | exact Or.inr (Or.inr rfl)) (hd : (x == ("__debug__" : Str)) = false := by decide) (hcd : (x == ("__classdict__" : Str)) = false := by decide)
    (hbase : attributeBase (.Name x np) "append" X.env (eval (.Name x np) X.env) = eval (.Name x np) X.env := by rfl)
    (hfew : ((backTo cpos (starEach (e :: es) X.env)).all (fun x => !x.1) && (backToKw cpos (keywordEach [] X.env)).all (fun x => x.1.isSome)
      && decide ((e :: es).length + ([] : List Keyword).length + (if ([] : List Keyword).isEmpty then 0 else 1) < 30)) = true := by rfl)
    (hline : (apos.endLine == cpos.line) = true := by rfl) (hs : starEach (e :: es) X.env = (false, eval e X.env) :: starEach es X.env := by rfl) (hplain : (backTo cpos (starEach es X.env)).any (·.1) = false := by rfl) :
    SE X (.Call (.Attribute (.Name x np) "append" apos) (e :: es) [] cpos) (mMut apF i ms) := se_mut i PySem.F.slot_list_append PySem.F.type_list_append mt_append mu_append ha hN hv hd hcd hbase hfew hline hs hplain
end
end
end FW

namespace FW
noncomputable section
open PySem L2

section
variable {X : Cx} {a b e o : Expr} {es : List Expr} {ma mb mc mo : M} {ms : MA} {pos p2 cpos apos : Pos} {K : PySem.W.Frag} {mg : Str → Option Value} {P : Nat → Prop} {st : Stmt} {rest : List Stmt} {sa sb : MS}
/-! ### xs[k] = e, xs[k] += e, x += e, a, b = x, y -/
def sSetIx (i : Nat) (mi m : M) : MS := fun ρ => (m ρ).bind fun x => match x.2[i]? with
  | some (.ow _) => (mi x.2).bind fun y => match y.1 with
    | .val (.int k) => (frz1 y.2 x.1).bind fun z => match z.2[i]? with
      | some (.ow xs) => (ixN xs.length k).map fun j => (.nx, z.2.set i (.ow (xs.set j z.1)))
      | _ => none
    | _ => none
  | _ => none
theorem ow_val {cs : List Cl} {G H : Hp} {i : Nat} {xs : List D} (h : Res K mg G H cs) (e : (slots cs)[i]? = some (.ow xs)) : ∃ v, (vals cs)[i]? = some (some v) := by
  obtain ⟨c0, e5, e6⟩ := cell_at e
  rcases h.ok _ (List.mem_of_getElem? e5) with ⟨q, _⟩ | ⟨v, hv, _⟩
  · rw [q] at e6; cases e6
  · exact ⟨v, by rw [List.getElem?_map, e5]; show some c0.v = _; rw [hv]⟩
theorem ss_setIx (i : Nat) {x : Str} {np tp : Pos} (he : SE X e ma) (hk : SE X a mb)
    (hN : X.N[i]? = some x := by rfl) (hv : Vis X.env.scope x := by first | exact Or.inl rfl | exact Or.inr (Or.inl rfl) | exact Or.inr (Or.inr rfl)) (hd : (x == ("__debug__" : Str)) = false := by decide) (hcd : (x == ("__classdict__" : Str)) = false := by decide)
    (ha : ∀ v, assign (.Subscript (.Name x np) a tp) X.env v = (do
      let ov ← holding [v] (eval (.Name x np) X.env)
      let iv ← holding [v, ov] (eval a X.env)
      standAt tp
      holding [v, ov, iv] (setItem ov iv v)
      release [v, ov, iv] []) := by intro _; rfl)
    (hs : swapsWithSole [.Subscript (.Name x np) a tp] e pos.line X.env = pure false := by rfl) (hw : swappedStores [.Subscript (.Name x np) a tp] e X.env = pure none := by rfl)
    (h1 : (assignEach [.Subscript (.Name x np) a tp] X.env).map (·.2) = [assign (.Subscript (.Name x np) a tp) X.env] := by rfl) :
    SS X P (.Assign [.Subscript (.Name x np) a tp] e pos) (sSetIx i mb ma) := PS.imp (ps_asg he (pg_sub (pe_var hN hv hd hcd) hk set_list ha) hs hw h1) fun D σ H h => by
  obtain ⟨cs, G, k, ρ', e1, rs, hm, q⟩ := h
  obtain ⟨⟨r1, ρ1⟩, h1, hm⟩ := Option.bind_eq_some_iff.mp hm
  dsimp only at hm
  split at hm
  · rename_i xs0 ex0
    obtain ⟨⟨r2, ρ2⟩, h2, hm⟩ := Option.bind_eq_some_iff.mp hm
    dsimp only at hm
    split at hm
    · rename_i j
      obtain ⟨⟨d, ρ3⟩, h3, hm⟩ := Option.bind_eq_some_iff.mp hm
      dsimp only at hm
      split at hm
      · rename_i xs ex3
        obtain ⟨j', h4, hm⟩ := Option.map_eq_some_iff.mp hm
        cases hm
        refine ⟨cs, G, r1, ρ1, e1, rs, h1, fun cs1 v B G1 H1 f1 f2 fb rs1 st1 => ?_⟩
        subst e1
        obtain ⟨v0, hv0⟩ := ow_val rs1.tail (by rw [f2]; exact ex0)
        refine ⟨v0, by rw [← f1]; exact hv0, cs1, G1, _, ρ2, f1, rs1.tail, by rw [f2]; exact h2, fun cs2 w B2 G2 H2 g1 g2 gb rs2 st2 => ?_⟩
        have rA := Res.frame (ds := [_]) rs1 st2 rs2
        have sA := st1.trans (Stp.under (ds := [_]) rs1 st2)
        obtain ⟨rw', rfl⟩ := rs2.val
        have rB : Res X.K X.mg G2 H2 (⟨some v, r1.sl, B⟩ :: cs2) := rA.perm (List.Perm.swap _ _ _) |>.tail
        have sB : Stp (own cs) G H (own (⟨some v, r1.sl, B⟩ :: cs2)) G2 H2 := sA.weak fun b hb => by
          rw [own_append, own_cons]
          rw [own_cons] at hb
          simpa [own_cons, Rv.sl] using hb
        subst g2
        obtain ⟨cs3, G3, k1, k2, k3, rp, rs3, st3⟩ := frz_ok rB (by rw [g1]; exact fb) h3
        subst k2
        obtain ⟨a', ws, q1, q2, q3, q4, q5⟩ := ow_cell (v := v0) rs3 ex3 (by rw [k1, g1, ← f1]; exact hv0)
        refine ⟨a', ws, j, j', q1, rw'.int_iff, q3, by rw [q5.length]; exact h4, ?_⟩
        have wr := Res.write (H' := upd H2 a' (.lst (ws.set j' v))) (c' := ⟨some (.ref a'), .ow (xs.set j' d), [a']⟩) rs3 q2 (fun b hb => upd_ne (by simpa using hb)) (.inr ⟨_, rfl, .ow upd_same (q5.set rp j')⟩) rfl (fun b hb => by
          have : b = a' := by simpa using hb
          subst this; rw [upd_same]; simp)
        have ev : vals (cs3.set i ⟨some (.ref a'), .ow (xs.set j' d), [a']⟩) = vals cs := by rw [set_vals (c' := ⟨some (.ref a'), .ow (xs.set j' d), [a']⟩) q2 rfl, k1, g1]
        have z := KS.nx q slots_set (len_of ev) (fun _ _ => by rw [ev]) wr.1 (sB.trans (st3.trans wr.2))
        rw [ev] at z
        exact z
      · cases hm
    · cases hm
  · cases hm
theorem pget_list : PGet X (rIxL X.K) := by
  intro pins s σ H x y v u Q I rx ry h
  obtain ⟨p, xs, i, z, rfl, rfl, hq, he, q⟩ := h
  cases rx
  obtain ⟨t, rfl⟩ := ry
  obtain ⟨its, r, pl, hz⟩ := I.list hq
  obtain ⟨j, h1, h2, h3, h4, h5⟩ := atI_get he
  obtain ⟨w, ew, rw'⟩ := r.get h2
  have hl := r.length
  have hn := line63
  by_cases h0 : 0 ≤ i
  · have hj : i.toNat = j := by
      rw [PySem.seqIndex_of h0 h5] at h1
      exact Option.some.inj h1
    exact PySem.wpAny_getItem_list pl.isList h0 (by omega) (by rw [hj]; simpa using ew) ⟨z, H, I, rw', q⟩
  · have hj : (i + (its.toArray.size : Int)).toNat = j := by
      rw [PySem.seqIndex_neg (by omega) h4] at h1
      rw [List.size_toArray, ← hl]
      exact Option.some.inj h1
    exact PySem.wpAny_getItem_list_neg pl.isList (by omega) (by rw [List.size_toArray] <;> omega) (by omega) (by rw [hj]; simpa using ew) ⟨z, H, I, rw', q⟩
/-- ints alone -/
def sAugIx (f : Int → Int → Int) (i : Nat) (mi m : M) : MS := fun ρ => match ρ[i]? with
  | some (.ow _) => (mi ρ).bind fun y => match y.1, y.2[i]? with
    | .val (.int k), some (.ow ys) => match atI ys k with
      | some (.int u) => (m y.2).bind fun z => match z.1, z.2[i]? with
        | .val (.int w), some (.ow xs) => (ixN xs.length k).map fun j => (.nx, z.2.set i (.ow (xs.set j (.int (f u w)))))
        | _, _ => none
      | _ => none
    | _, _ => none
  | _ => none
theorem ss_augIx (i : Nat) {x : Str} {np tp : Pos} {op : Operator} {f : Int → Int → Int} (hop : PIp X op (ipI f)) (hk : SE X a mb) (he : SE X e ma)
    (hN : X.N[i]? = some x := by rfl) (hv : Vis X.env.scope x := by first | exact Or.inl rfl | exact Or.inr (Or.inl rfl) | exact Or.inr (Or.inr rfl)) (hd : (x == ("__debug__" : Str)) = false := by decide) (hcd : (x == ("__classdict__" : Str)) = false := by decide)
    (ha : ∀ ov iv new, augStore a ov iv new = (do holding [new, ov, iv] (setItem ov iv new); release [new, ov, iv] []; pure .next) := by intros; rfl) :
    SS X P (.AugAssign (.Subscript (.Name x np) a tp) op e pos) (sAugIx f i mb ma) := PS.imp (ps_augS (pe_var hN hv hd hcd) hk pget_list he hop set_list ha) fun D σ H h => by
  obtain ⟨cs, G, k, ρ', e1, rs, hm, q⟩ := h
  unfold sAugIx at hm
  split at hm
  · rename_i xs0 ex0
    obtain ⟨⟨r1, ρ1⟩, h1, hm⟩ := Option.bind_eq_some_iff.mp hm
    dsimp only at hm
    split at hm
    · rename_i j ys ey
      split at hm
      · rename_i u eu
        obtain ⟨⟨r2, ρ2⟩, h2, hm⟩ := Option.bind_eq_some_iff.mp hm
        dsimp only at hm
        split at hm
        · rename_i w xs ex
          obtain ⟨j', h4, hm⟩ := Option.map_eq_some_iff.mp hm
          cases hm
          subst e1
          obtain ⟨v0, hv0⟩ := ow_val rs ex0
          refine ⟨v0, hv0, cs, G, _, ρ1, rfl, rs, h1, fun cs1 v1 B1 G1 H1 f1 f2 fb rs1 st1 => ?_⟩
          obtain ⟨rv1, rfl⟩ := rs1.val
          obtain ⟨a', ws, q1, q2, q3, q4, q5⟩ := ow_cell (v := v0) rs1.tail (by rw [f2]; exact ey) (by rw [f1]; exact hv0)
          obtain ⟨y, hy, ry⟩ := q5.at eu
          refine ⟨a', ws, j, y, q1, rv1.int_iff, SqL.of q3, hy, ?_⟩
          refine ⟨cs1, G1, _, ρ2, f1, rs1.tail, by rw [f2]; exact h2, fun cs2 v2 B2 G2 H2 g1 g2 gb rs2 st2 => ?_⟩
          obtain ⟨rv2, rfl⟩ := rs2.val
          refine ⟨u, w, ry.int_iff, rv2.int_iff, ?_⟩
          obtain ⟨a2, ws2, p1, p2, p3, p4, p5⟩ := ow_cell (v := v0) rs2.tail (by rw [g2]; exact ex) (by rw [g1]; exact hv0)
          refine ⟨a2, ws2, j, j', p1, rv1.int_iff, p3, by rw [p5.length]; exact h4, ?_⟩
          have wr := Res.write (H' := upd H2 a2 (.lst (ws2.set j' (.int (f u w))))) (c' := ⟨some (.ref a2), .ow (xs.set j' (.int (f u w))), [a2]⟩) rs2.tail p2 (fun b hb => upd_ne (by simpa using hb)) (.inr ⟨_, rfl, .ow upd_same (p5.set (.int _) j')⟩) rfl (fun b hb => by
            have : b = a2 := by simpa using hb
            subst this; rw [upd_same]; simp)
          have ev : vals (cs2.set i ⟨some (.ref a2), .ow (xs.set j' (.int (f u w))), [a2]⟩) = vals cs := by rw [set_vals (c' := ⟨some (.ref a2), .ow (xs.set j' (.int (f u w))), [a2]⟩) p2 rfl, g1]
          have z := KS.nx q (by rw [slots_set, g2]) (len_of ev) (fun _ _ => by rw [ev]) wr.1 (st1.back1.trans (st2.back1.trans wr.2))
          rw [ev] at z
          exact z
        · cases hm
      · cases hm
    · cases hm
  · cases hm
theorem ip_mul : PIp X .Mult (fun x y H Q => ∃ i j, x = .int i ∧ y = .int j ∧ IntMulOk i j ∧ Q (.int (i * j)) H) := by
  intro pins s σ H x y v u Q I r1 r2 h
  obtain ⟨i, j, e1, e2, hm, q⟩ := h
  subst e1; subst e2
  obtain ⟨t, rfl⟩ := r1
  obtain ⟨t', rfl⟩ := r2
  exact PyProof.Rows.imul_int ⟨.int _, H, I.tok _, ⟨_, rfl⟩, q⟩ hm
/-- x op= e of ints -/
def sAug (f : D → D → Option D) (i : Nat) (m : M) : MS := fun ρ => match ρ[i]? with
  | some (.fz u) => (m ρ).bind fun x => (dat x.2 x.1).bind fun w => (f u w).map fun z => (.nx, x.2.set i (.fz z))
  | _ => none
theorem ss_aug (i : Nat) {x : Str} {np : Pos} {op : Operator} {f : D → D → Option D} {ti : TIp} (hop : PIp X op ti) (hr : Op2 X.K X.mg f ti) (hP : ¬ P i) (hN : X.N.Nodup) (hi : X.N[i]? = some x) (hx : Loc X.env.scope x) (he : SE X e ma)
    (hf : X.fn x = true ∨ X.env.scope.names.lookup x = some .local := by first | exact .inl rfl | exact .inr rfl | assumption) : SS X P (.AugAssign (.Name x np) op e pos) (sAug f i ma) := PS.imp (ps_aug hN hi hx he hop hf) fun D σ H h => by
  obtain ⟨cs, G, k, ρ', e1, rs, hm, q⟩ := h
  unfold sAug at hm
  split at hm
  · rename_i u eu
    obtain ⟨⟨r1, ρ1⟩, h1, hm⟩ := Option.bind_eq_some_iff.mp hm
    obtain ⟨w, h2, hm⟩ := Option.bind_eq_some_iff.mp hm
    obtain ⟨z, h3, hm⟩ := Option.map_eq_some_iff.mp hm
    cases hm
    subst e1
    obtain ⟨⟨o, s', A⟩, e5, e6⟩ := cell_at eu
    have e6 : s' = .fz u := e6
    subst e6
    obtain ⟨v, hv, ru⟩ : ∃ v, o = some v ∧ Rep X.K X.mg G u v := by
      rcases rs.ok _ (List.mem_of_getElem? e5) with ⟨z, _⟩ | ⟨v, hv, ow⟩
      · cases z
      · have ow : Own X.K X.mg G H (.fz u) v A := ow
        cases ow with | fz q => exact ⟨v, hv, q⟩
    subst hv
    refine ⟨v, by show (vals cs)[i]? = _; rw [List.getElem?_map, e5]; rfl, cs, G, r1, ρ1, rfl, rs, h1, fun cs1 v1 B1 G1 H1 f1 f2 fb rs1 st1 => ?_⟩
    refine hr u w z H1 v v1 _ h3 ((ru.mono st1.gs).mono rs1.same) (dat_rep rs1.tail rs1.h1 rfl rfl (by rw [f1]; exact fb) (by rw [f2]; exact h2)) fun u' hu => ?_
    have ev : (vals cs).set i (some u') = vals (cs1.set i ⟨some u', .fz z, []⟩) := by rw [vals_set, f1]
    rw [ev]
    refine KS.nx q (by rw [slots_set, f2]) (by rw [List.length_set]; exact len_of f1) (fun j hj => ?_) ((rs1.tail.addFz (sc_rep hu)).put i) (st1.back1.weak fun b hb => ?_)
    · rw [vals_set, f1, List.getElem?_set_ne]
      rintro rfl
      exact hP hj
    · simpa [own_cons] using own_put i b hb
  · cases hm
def addI : D → D → Option D
  | .int i, .int j => some (.int (i + j))
  | _, _ => none
def mulI : D → D → Option D
  | .int i, .int j => @ite _ (IntMulOk i j) (Classical.propDecidable _) (some (.int (i * j))) none
  | _, _ => none
theorem op2_addI : Op2 K mg addI (ipI fun i j => i + j) := fun x y z H v w Q hz rx ry q => by
  unfold addI at hz; split at hz
  · cases hz; exact ⟨_, _, rx.int_iff, ry.int_iff, q _ rfl⟩
  · cases hz
theorem op2_subI : Op2 K mg subD (ipI fun i j => i - j) := fun x y z H v w Q hz rx ry q => by
  unfold subD at hz; split at hz
  · cases hz; exact ⟨_, _, rx.int_iff, ry.int_iff, q _ rfl⟩
  · cases hz
theorem op2_mulI : Op2 K mg mulI (fun x y H Q => ∃ i j, x = .int i ∧ y = .int j ∧ IntMulOk i j ∧ Q (.int (i * j)) H) := fun x y z H v w Q hz rx ry q => by
  unfold mulI at hz; split at hz
  · split at hz
    · cases hz; exact ⟨_, _, rx.int_iff, ry.int_iff, by assumption, q _ rfl⟩
    · cases hz
  · cases hz
theorem two_cells {σ : L2.St} {r1 r2 : Rv} {vs : List V} {ds : List Cl} (h : Bors σ [r1, r2] vs) (h1 : vals ds = vs.map some) (h2 : slots ds = [r1, r2].map Rv.sl) :
    ∃ v w A1 A2, vs = [v, w] ∧ ds = [⟨some v, r1.sl, A1⟩, ⟨some w, r2.sl, A2⟩] ∧ Bor σ r1 v ∧ Bor σ r2 w := by
  cases vs with
  | nil => exact h.elim
  | cons v vs =>
    cases vs with
    | nil => exact h.2.elim
    | cons w vs =>
      cases vs with
      | cons z zs => exact h.2.2.elim
      | nil =>
        cases ds with
        | nil => simp [vals] at h1
        | cons c1 ds =>
          cases ds with
          | nil => simp [vals] at h1
          | cons c2 ds =>
            cases ds with
            | cons c3 ds => simp [vals] at h1
            | nil =>
              obtain ⟨v1, s1, A1⟩ := c1
              obtain ⟨v2, s2, A2⟩ := c2
              simp only [vals, slots, List.map_cons, List.map_nil, List.cons.injEq, and_true] at h1 h2
              obtain ⟨q1, q2⟩ := h1
              obtain ⟨q3, q4⟩ := h2
              subst q1; subst q2; subst q3; subst q4
              exact ⟨v, w, A1, A2, rfl, rfl, h.1, h.2.1⟩
/-- a, b = x, y (two local names) -/
def sPar (i j : Nat) (ms : MA) : MS := fun ρ => (ms ρ).bind fun y => match y.1 with
  | [r1, r2] => (setR i y.2 r1).bind fun ρ2 => match r2 with
    | .bor _ => none
    | r2 => (setR j ρ2 r2).map fun ρ3 => (.nx, ρ3)
  | _ => none
theorem ss_par (i j : Nat) {x y : Str} {px py pt : Pos} {kt k2 pt2} (hc : X.calm = true) (hN : X.N.Nodup) (hi : X.N[i]? = some x) (hj : X.N[j]? = some y) (hij : i ≠ j)
    (hx : X.env.scope.names.lookup x = some .local) (hy : X.env.scope.names.lookup y = some .local) (hP : ¬ P i ∧ ¬ P j) (ha : SA X [a, b] ms)
    (hw : swappedStores [.Tuple [.Name x px, .Name y py] kt pt] (.Tuple [a, b] k2 pt2) X.env = pure (some [x, y]) := by rfl)
    (hs : swapsWithSole [.Tuple [.Name x px, .Name y py] kt pt] (.Tuple [a, b] k2 pt2) pos.line X.env = pure false := by rfl) :
    SS X P (.Assign [.Tuple [.Name x px, .Name y py] kt pt] (.Tuple [a, b] k2 pt2) pos) (sPar i j ms) := PS.imp (ps_par hc hN hi hj hij hx hy ha hw hs) fun D σ H h => by
  obtain ⟨cs, G, k, ρ', e1, rs, hm, q⟩ := h
  obtain ⟨⟨r, ρ1⟩, h1, hm⟩ := Option.bind_eq_some_iff.mp hm
  dsimp only at hm
  split at hm
  · rename_i r1 r2
    obtain ⟨ρ2, h2, hm⟩ := Option.bind_eq_some_iff.mp hm
    have nb : ∀ n, r2 ≠ .bor n := fun n z => by subst z; cases hm
    obtain ⟨ρ3, h3, hm⟩ : ∃ ρ3, setR j ρ2 r2 = some ρ3 ∧ (Ctl.nx, ρ3) = (k, ρ') := by
      cases r2 with
      | bor n => exact absurd rfl (nb n)
      | val d => obtain ⟨ρ3, a1, a2⟩ := Option.map_eq_some_iff.mp hm; exact ⟨ρ3, a1, a2⟩
      | own d => obtain ⟨ρ3, a1, a2⟩ := Option.map_eq_some_iff.mp hm; exact ⟨ρ3, a1, a2⟩
    cases hm
    refine ⟨cs, G, _, ρ1, e1, rs, h1, fun cs1 ds vs G1 H1 f1 f2 fb f3 f4 rs1 st1 => ?_⟩
    subst e1
    obtain ⟨v, w, A1, A2, rfl, rfl, b1, b2⟩ := two_cells fb f3 f4
    have p : List.Perm ((⟨some v, r1.sl, A1⟩ : Cl) :: ⟨some w, r2.sl, A2⟩ :: cs1) ((⟨some w, r2.sl, A2⟩ : Cl) :: ⟨some v, r1.sl, A1⟩ :: cs1) := List.Perm.swap _ _ _
    have rB := Res.perm (K := X.K) (mg := X.mg) rs1 p
    have sB := st1.perm (own_perm p)
    obtain ⟨cs2, G2, g1, g2, rs2, st2⟩ := setR_ok (i := i) (cs := cs1) (Res.tail rB) (by rw [f1]; exact b1) (by rw [f2]; exact h2)
    have rC := Res.frame (ds := [_]) rB st2 rs2
    have sC := sB.trans (Stp.under (ds := [_]) rB st2)
    obtain ⟨cs3, G3, k1, k2, rs3, st3⟩ := setR_ok (i := j) (cs := cs2) rC (fun n hn => absurd hn (nb n)) (by rw [g2]; exact h3)
    refine ⟨v, w, rfl, ?_⟩
    have ev : ((vals cs).set i (some v)).set j (some w) = vals cs3 := by rw [k1, g1, f1]
    rw [ev]
    refine KS.nx q k2 ?_ (fun l hl => ?_) rs3 (sC.trans st3)
    · have := congrArg List.length ev
      simpa using this.symm
    · rw [← ev, List.getElem?_set_ne, List.getElem?_set_ne]
      · rintro rfl; exact hP.1 hl
      · rintro rfl; exact hP.2 hl
  · cases hm
end
end
end FW

namespace FW
noncomputable section
open PySem L2

/-! ### forgetting slots -/
def wipeS (ρ : List Sl) : List Nat → List Sl
  | [] => ρ
  | i :: is => (wipeS ρ is).set i .no
section
variable {K : PySem.W.Frag} {mg : Str → Option Value} {G H G' H' : Hp}
theorem wipe1 {cs : List Cl} (h : Res K mg G H cs) (i : Nat) : ∃ cs', vals cs' = vals cs ∧ slots cs' = (slots cs).set i .no ∧ Res K mg G H cs' ∧ ∀ b ∈ own cs', b ∈ own cs := by
  by_cases hi : i < cs.length
  · refine ⟨cs.set i ⟨cs[i].v, .no, []⟩, ?_, slots_set, (h.addNo _).put i, fun b hb => ?_⟩
    · rw [vals_set]
      show (vals cs).set i cs[i].v = vals cs
      have e : cs[i].v = (vals cs)[i]'(by simpa using hi) := by simp [vals]
      rw [e, List.set_getElem_self]
    · simpa [own_cons] using own_put i b hb
  · refine ⟨cs, rfl, ?_, h, fun _ hb => hb⟩
    rw [List.set_eq_of_length_le (by simpa using hi)]
theorem wipes {cs : List Cl} (h : Res K mg G H cs) : ∀ is : List Nat, ∃ cs', vals cs' = vals cs ∧ slots cs' = wipeS (slots cs) is ∧ Res K mg G H cs' ∧ ∀ b ∈ own cs', b ∈ own cs
  | [] => ⟨cs, rfl, rfl, h, fun _ hb => hb⟩
  | i :: is => by
    obtain ⟨c1, e1, e2, e3, e4⟩ := wipes h is
    obtain ⟨c2, f1, f2, f3, f4⟩ := wipe1 e3 i
    exact ⟨c2, f1.trans e1, by rw [f2, e2]; rfl, f3, fun b hb => e4 b (f4 b hb)⟩
theorem wipeS_no : ∀ {is : List Nat} {ρ : List Sl} {i : Nat} {s : Sl}, i ∈ is → (wipeS ρ is)[i]? = some s → s = .no
  | [], _, _, _, h, _ => by cases h
  | j :: js, ρ, i, s, h, e => by
    unfold wipeS at e
    by_cases hj : j = i
    · subst hj
      by_cases hl : j < (wipeS ρ js).length
      · rw [List.getElem?_set_self hl] at e; exact (Option.some.inj e).symm
      · rw [List.getElem?_eq_none (by simpa using hl)] at e; cases e
    · rw [List.getElem?_set_ne hj] at e
      rcases List.mem_cons.mp h with z | z
      · exact absurd z.symm hj
      · exact wipeS_no z e
/-- values at unknown slots may be named anew -/
theorem Res.revals {cs : List Cl} (h : Res K mg G H cs) : ∀ (σ : L2.St), σ.length = cs.length → (∀ (i : Nat) (s : Sl), (slots cs)[i]? = some s → s ≠ Sl.no → (vals cs)[i]? = σ[i]?) →
    ∃ cs', vals cs' = σ ∧ slots cs' = slots cs ∧ own cs' = own cs ∧ Res K mg G H cs' := by
  intro σ hl hk
  refine ⟨(cs.zip σ).map fun p => ⟨p.2, p.1.s, p.1.A⟩, ?_, ?_, ?_, ?_⟩
  · apply List.ext_getElem?
    intro i
    simp only [vals, List.map_map, List.getElem?_map]
    cases e : (cs.zip σ)[i]? with
    | none =>
      rw [List.getElem?_eq_none_iff] at e
      rw [List.length_zip] at e
      rw [Option.map_none, eq_comm, List.getElem?_eq_none_iff]
      omega
    | some p =>
      obtain ⟨h1, h2⟩ := List.getElem?_zip_eq_some.mp e
      rw [h2]; rfl
  · apply List.ext_getElem?
    intro i
    simp only [slots, List.map_map, List.getElem?_map]
    cases e : (cs.zip σ)[i]? with
    | none =>
      rw [List.getElem?_eq_none_iff] at e
      rw [List.length_zip] at e
      rw [Option.map_none, eq_comm, Option.map_eq_none_iff, List.getElem?_eq_none_iff]
      omega
    | some p =>
      obtain ⟨h1, h2⟩ := List.getElem?_zip_eq_some.mp e
      rw [h1]; rfl
  · have : ∀ (cs : List Cl) (σ : L2.St), σ.length = cs.length → own ((cs.zip σ).map fun p => (⟨p.2, p.1.s, p.1.A⟩ : Cl)) = own cs := by
      intro cs
      induction cs with
      | nil => intro σ h; simp [own]
      | cons c cs ih =>
        intro σ h
        cases σ with
        | nil => simp at h
        | cons o σ =>
          rw [List.zip_cons_cons, List.map_cons, own_cons, own_cons, ih σ (by simpa using h)]
    exact this cs σ hl
  · have eo : own ((cs.zip σ).map fun p => (⟨p.2, p.1.s, p.1.A⟩ : Cl)) = own cs := by
      have : ∀ (cs : List Cl) (σ : L2.St), σ.length = cs.length → own ((cs.zip σ).map fun p => (⟨p.2, p.1.s, p.1.A⟩ : Cl)) = own cs := by
        intro cs
        induction cs with
        | nil => intro σ h; simp [own]
        | cons c cs ih =>
          intro σ h
          cases σ with
          | nil => simp at h
          | cons o σ =>
            rw [List.zip_cons_cons, List.map_cons, own_cons, own_cons, ih σ (by simpa using h)]
      exact this cs σ hl
    refine ⟨h.same, fun c hc => ?_, by rw [eo]; exact h.nd, fun a ha => h.fr a (by rw [← eo]; exact ha), h.tab⟩
    obtain ⟨p, hp, ep⟩ := List.mem_map.mp hc
    subst ep
    obtain ⟨i, hi, ei⟩ := List.getElem_of_mem hp
    have e := List.getElem?_eq_getElem hi
    rw [ei] at e
    obtain ⟨h1, h2⟩ := List.getElem?_zip_eq_some.mp e
    rcases h.ok p.1 (List.mem_of_getElem? h1) with ⟨z1, z2⟩ | ⟨v, hv, o⟩
    · exact .inl ⟨z1, z2⟩
    · refine .inr ⟨v, ?_, o⟩
      have ns : p.1.s ≠ .no := fun z => by rw [z] at o; cases o
      have q := hk i p.1.s (by rw [List.getElem?_map, h1]; rfl) ns
      rw [List.getElem?_map, h1, h2] at q
      have q : p.1.v = p.2 := Option.some.inj q
      show p.2 = some v
      rw [← q]; exact hv
end

/-! ### what is walked -/
/-- a source: its items; the slots whose lists must stand; the lists that a zip walks .. -/
structure Src where
  items : List D
  bs : List (Nat × List D)
def chk (ρ : List Sl) (bs : List (Nat × List D)) : Prop := ∀ p ∈ bs, (ρ[p.1]?).bind Sl.ls = some p.2
/-- the iterator J yields the items while the world stands as it is said: ds waits, the slots js bear the values ws -/
structure ItOk (K : PySem.W.Frag) (mg : Str → Option Value) (J : It) (x : Src) (ds : List Cl) (js : List Nat) (ws : L2.St) : Prop where
  stop : ∀ i cs G H, Res K mg G H (ds ++ cs) → chk (slots cs) x.bs → (∀ j ∈ js, (vals cs)[j]? = ws[j]?) → x.items.length ≤ i → J.stop i H
  go : ∀ i cs G H, Res K mg G H (ds ++ cs) → chk (slots cs) x.bs → (∀ j ∈ js, (vals cs)[j]? = ws[j]?) → i < x.items.length → J.go i H
  yld : ∀ i cs G H v H' d, Res K mg G H (ds ++ cs) → chk (slots cs) x.bs → (∀ j ∈ js, (vals cs)[j]? = ws[j]?) → x.items[i]? = some d → J.yld i H v H' →
    ∃ G', Res K mg G' H' (ds ++ cs) ∧ Stp (own (ds ++ cs)) G H (own (ds ++ cs)) G' H' ∧ Rep K mg G' d v
abbrev MI := List Sl → Option (Src × List Sl)
def tI (K : PySem.W.Frag) (mg : Str → Option Value) (js : List Nat) (m : MI) : TI := fun σ H R => ∃ cs G x ρ', vals cs = σ ∧ Res K mg G H cs ∧ m (slots cs) = some (x, ρ') ∧
  ∀ cs' ds J G' H', vals cs' = σ → slots cs' = ρ' → Res K mg G' H' (ds ++ cs') → Stp (own cs) G H (own (ds ++ cs')) G' H' → ItOk K mg J x ds js σ → R J H'
theorem PI.imp {X : Cx} {tg e : Expr} {t u : TI} (h : PI X tg e t) (k : ∀ σ H Q, u σ H Q → t σ H Q) : PI X tg e u := ⟨fun pins s σ H Q I q => h.run pins s σ H Q I (k σ H Q q)⟩
abbrev SI (X : Cx) (js : List Nat) (tg e : Expr) (m : MI) : Prop := PI X tg e (tI X.K X.mg js m)
/-- a target -/
def tG (K : PySem.W.Frag) (mg : Str → Option Value) (P : Nat → Prop) (g : D → List Sl → Option (List Sl)) : TG := fun v σ H Q => ∃ cs G d ρ', vals cs = σ ∧ Res K mg G H cs ∧ Rep K mg G d v ∧ g d (slots cs) = some ρ' ∧
  ∀ cs', slots cs' = ρ' → cs'.length = cs.length → (∀ j, P j → (vals cs')[j]? = σ[j]?) → Res K mg G H cs' → (∀ b ∈ own cs', b ∈ own cs) → Q (vals cs') H
abbrev SG (X : Cx) (P : Nat → Prop) (tg : Expr) (g : D → List Sl → Option (List Sl)) : Prop := PG X tg (tG X.K X.mg P g)
def gN (i : Nat) : D → List Sl → Option (List Sl) := fun d ρ => some (ρ.set i (.fz d))
def gT (is : List Nat) : D → List Sl → Option (List Sl) := fun d ρ => match d with
  | .tup ds => unp ρ is ds
  | _ => none
section
variable {X : Cx} {a b e o tg : Expr} {es : List Expr} {ma mb mc mo : M} {ms : MA} {pos p2 p cpos apos : Pos} {K : PySem.W.Frag} {mg : Str → Option Value} {P : Nat → Prop} {st : Stmt} {rest : List Stmt} {sa sb : MS}
theorem sg_name {i : Nat} {x : Str} (hN : X.N.Nodup) (hi : X.N[i]? = some x) (hx : Loc X.env.scope x) (hP : ¬ P i) (hf : X.fn x = true ∨ X.env.scope.names.lookup x = some .local := by first | exact .inl rfl | exact .inr rfl | assumption) : SG X P (.Name x pos) (gN i) :=
  PG.imp (pg_name hN hi hx hf) fun v σ H Q h => by
    obtain ⟨cs, G, d, ρ', e1, rs, rp, hm, k⟩ := h
    cases hm
    subst e1
    show Q ((vals cs).set i (some v)) H
    have ev : (vals cs).set i (some v) = vals (cs.set i ⟨some v, .fz d, []⟩) := by rw [vals_set]
    rw [ev]
    refine k _ slots_set (by rw [List.length_set]) (fun j hj => ?_) ((rs.addFz rp).put i) fun b hb => by simpa [own_cons] using own_put i b hb
    rw [vals_set, List.getElem?_set_ne]
    rintro rfl
    exact hP hj
theorem sg_tup {is : List Nat} {ts : List Expr} {kk : Nat} (hc : X.calm = true) (hg : PGs X ts (gNames is)) (hP : ∀ i ∈ is, ¬ P i) (hn : (assignEach ts X.env).length = is.length := by rfl) (hst : (assignEach ts X.env).findIdx? (·.1) = none := by rfl) : SG X P (.Tuple ts kk pos) (gT is) :=
  PG.imp (pg_tup hc hg hn hst) fun v σ H Q h => by
    obtain ⟨cs, G, d, ρ', e1, rs, rp, hm, k⟩ := h
    unfold gT at hm
    split at hm
    · rename_i ds
      subst e1
      cases rp with
      | tup q rr =>
        refine ⟨_, _, rfl, same_sqT rs.same q, by rw [rr.length, unp_len hm], ?_⟩
        exact unp_ok hP rs rr hm fun cs' f1 f2 f3 f4 f5 => k cs' f1 f2 f3 f4 f5
    · cases hm
/-! ### for -/
open Classical in
noncomputable def forD (bs : List (Nat × List D)) (rst : List Nat) (g : D → List Sl → Option (List Sl)) (b : MS) : List D → MS
  | [], ρ => if chk ρ bs then some (.nx, ρ) else none
  | d :: ds, ρ => if chk ρ bs then (g d ρ).bind fun ρ1 => (b ρ1).bind fun x => match x.1 with
    | .nx => forD bs rst g b ds (wipeS x.2 rst)
    | .ct => forD bs rst g b ds (wipeS x.2 rst)
    | .bk => some (.nx, x.2)
    | .rt r => some (.rt r, x.2)
    | .ex c => some (.ex c, x.2)
    else none
noncomputable def sFor (it : MI) (rst : List Nat) (g : D → List Sl → Option (List Sl)) (b : MS) : MS := fun ρ => (it ρ).bind fun x => forD x.1.bs rst g b x.1.items x.2
theorem ss_for {js rst : List Nat} {iter : Expr} {body : List Stmt} {mi : MI} {g : D → List Sl → Option (List Sl)} (hp : PassesOwn (model X.prog X.w) X.A X.env X.xe) (hc : X.calm = true) (hi : SI X js tg iter mi) (hg : SG X (fun i => i ∈ js ∨ P i) tg g) (hb : SSs X (fun i => i ∈ js ∨ P i) body sb)
    (hs : ∀ x, foldedSetIterable iter X.env x = pure x := by intro _; rfl) : SS X P (.For tg iter body [] pos) (sFor mi rst g sb) := PS.imp (ps_for hp hc hi hg hb hs) fun D σ H h => by
  obtain ⟨cs, G, k, ρ', e1, rs, hm, q⟩ := h
  obtain ⟨⟨x, ρ1⟩, h1, hm⟩ := Option.bind_eq_some_iff.mp hm
  refine ⟨cs, G, x, ρ1, e1, rs, h1, fun cs1 ds J G1 H1 f1 f2 rs1 st1 it => ?_⟩
  subst e1
  dsimp only at hm
  let W : Nat → Nat → L2.St → Hp → Prop := fun i m σ' H' => m = x.items.length - i ∧ i ≤ x.items.length ∧ ∃ cs' G', vals cs' = σ' ∧ cs'.length = cs.length ∧ (∀ j, (j ∈ js ∨ P j) → (vals cs')[j]? = (vals cs)[j]?) ∧ Res X.K X.mg G' H' (ds ++ cs') ∧ Stp (own cs) G H (own (ds ++ cs')) G' H' ∧
    forD x.bs rst g sb (x.items.drop i) (slots cs') = some (k, ρ')
  refine ⟨W, ⟨x.items.length, rfl, Nat.zero_le _, cs1, G1, f1, len_of f1, fun _ _ => by rw [f1], rs1, st1, by rw [f2]; exact hm⟩, ?_⟩
  rintro i m σ' H' ⟨rfl, hi', cs2, G2, g1, g2, g3, rs2, st2, hw⟩
  subst g1
  have gj : ∀ j ∈ js, (vals cs2)[j]? = (vals cs)[j]? := fun j hj => g3 j ((Or.inl hj))
  have gP : ∀ j, P j → (vals cs2)[j]? = (vals cs)[j]? := fun j hj => g3 j ((Or.inr hj))
  cases hd : x.items.drop i with
  | nil =>
    rw [hd] at hw
    unfold forD at hw
    split at hw
    · rename_i hck
      cases hw
      refine .inl ⟨it.stop i cs2 G2 H' rs2 hck gj (by have := List.drop_eq_nil_iff.mp hd; omega), ?_⟩
      exact KS.nx q rfl g2 gP rs2.right (st2.weak own_sub_right)
    · cases hw
  | cons d rest =>
    rw [hd] at hw
    unfold forD at hw
    have hil : i < x.items.length := by
      rcases Nat.lt_or_ge i x.items.length with z | z
      · exact z
      · rw [List.drop_eq_nil_iff.mpr z] at hd; cases hd
    have hit : x.items[i]? = some d := by
      rw [List.drop_eq_getElem_cons hil] at hd
      rw [List.getElem?_eq_getElem hil]
      exact congrArg some (List.cons.inj hd).1
    have hrest : x.items.drop (i + 1) = rest := by
      rw [List.drop_eq_getElem_cons hil] at hd
      exact (List.cons.inj hd).2
    split at hw
    · rename_i hck
      obtain ⟨ρ3, h3, hw⟩ := Option.bind_eq_some_iff.mp hw
      obtain ⟨⟨k4, ρ4⟩, h4, hw⟩ := Option.bind_eq_some_iff.mp hw
      refine .inr ⟨it.go i cs2 G2 H' rs2 hck gj hil, W (i + 1) (x.items.length - (i + 1)), fun σ3 H3 w => ⟨_, by omega, w⟩, fun v H3 hy => ?_⟩
      obtain ⟨G3, rs3, st3, rp⟩ := it.yld i cs2 G2 H' v H3 d rs2 hck gj hit hy
      refine ⟨cs2, G3, d, ρ3, rfl, rs3.right, rp, h3, fun cs4 k1 k2 k3 k4' k5 => ?_⟩
      have st4 : Stp (own cs2) G3 H3 (own cs4) G3 H3 := Stp.refl.weak k5
      have rs4 := Res.frame rs3 st4 k4'
      have s4 := st2.trans (st3.trans (Stp.under rs3 st4))
      refine ⟨cs4, G3, k4, ρ4, rfl, k4', by rw [k1]; exact h4, fun cs5 w B G5 H5 l1 l2 l3 rs5 st5 => ?_⟩
      have rs6 := Res.frame rs4 st5 rs5
      have s6 := s4.trans (Stp.under rs4 st5)
      have len5 : cs5.length = cs.length := l2.trans (k2.trans g2)
      have l3' : ∀ j, (j ∈ js ∨ P j) → (vals cs5)[j]? = (vals cs)[j]? := fun j hj => (l3 j hj).trans ((k3 j hj).trans (g3 j hj))
      have next : forD x.bs rst g sb rest (wipeS ρ4 rst) = some (k, ρ') → k4.rv = .val .non → W (i + 1) (x.items.length - (i + 1)) (vals cs5) H5 := fun hn hk => by
        rw [hk] at rs6 s6
        have rs7 : Res X.K X.mg G5 H5 (ds ++ cs5) := by
          have p : List.Perm (ds ++ (⟨some w, Rv.sl (.val .non), B⟩ : Cl) :: cs5) ((⟨some w, Rv.sl (.val .non), B⟩ : Cl) :: (ds ++ cs5)) := List.perm_middle
          exact (rs6.perm p).tail
        obtain ⟨cs8, m1, m2, m3, m4⟩ := wipes rs7.right rst
        have st8 : Stp (own cs5) G5 H5 (own cs8) G5 H5 := Stp.refl.weak m4
        have rs8 := Res.frame rs7 st8 m3
        refine ⟨rfl, hil, cs8, G5, m1, (len_of m1).trans len5, fun j hj => by rw [m1]; exact l3' j hj, rs8, ?_, by rw [m2, l1, hrest]; exact hn⟩
        refine (s6.weak fun b hb => ?_).trans (Stp.under rs7 st8)
        rw [own_append] at hb ⊢
        rcases List.mem_append.mp hb with z | z
        · exact List.mem_append_left _ z
        · exact List.mem_append_right _ (by rw [own_cons]; exact List.mem_append_right _ z)
      cases k4 with
      | nx => exact next hw rfl
      | ct => exact next hw rfl
      | bk =>
        cases hw
        have t := rs6.right
        exact KS.nx q l1 len5 (fun j hj => l3' j ((Or.inr hj))) t.tail ((s6.weak own_sub_right).weak fun b hb => by rw [own_cons]; exact List.mem_append_right _ hb)
      | rt r =>
        cases hw
        exact q cs5 w B G5 H5 l1 len5 (fun j hj => l3' j ((Or.inr hj))) rs6.right (s6.weak own_sub_right)
      | ex c =>
        cases hw
        exact q cs5 w B G5 H5 l1 len5 (fun j hj => l3' j ((Or.inr hj))) rs6.right (s6.weak own_sub_right)
    · cases hw
end
end
end FW

namespace FW
noncomputable section
open PySem L2

section
variable {X : Cx} {a b c e o tg : Expr} {es : List Expr} {ma mb mc mo : M} {ms : MA} {pos p2 p cpos apos : Pos} {K : PySem.W.Frag} {mg : Str → Option Value} {P : Nat → Prop} {st : Stmt} {rest : List Stmt} {sa sb : MS} {js : List Nat}
/-- a list that is walked: its own slot must stand -/
def srcOf (js : List Nat) (ρ : List Sl) (r : Rv) : Option (List D × List (Nat × List D)) := match r with
  | .bor j => if js.contains j = true then (lsv ρ (.bor j)).map fun xs => (xs, [(j, xs)]) else none
  | r => (lsv ρ r).map fun xs => (xs, [])
/-- what such a list is, as long as the world stands -/
structure SrcL (K : PySem.W.Frag) (mg : Str → Option Value) (xs : List D) (bs : List (Nat × List D)) (ds : List Cl) (js : List Nat) (ws : L2.St) (a : Addr) : Prop where
  at_ : ∀ cs G H, Res K mg G H (ds ++ cs) → chk (slots cs) bs → (∀ j ∈ js, (vals cs)[j]? = ws[j]?) → ∃ vs, SqL K H a vs ∧ Reps K mg G xs vs
theorem srcL_of {xs : List D} {bs bs' : List (Nat × List D)} {ds : List Cl} {cl : Cl} {σ : L2.St} {r : Rv} {v : V} {ρ : List Sl} {cs0 : List Cl} {G0 H0 : Hp} (h : srcOf js ρ r = some (xs, bs)) (h0 : Res K mg G0 H0 (ds ++ cs0)) (e1 : slots cs0 = ρ) (e2 : vals cs0 = σ) (hc : cl ∈ ds) (hv : cl.v = some v) (hs : cl.s = r.sl) (hb : Bor σ r v)
    (hbs : ∀ q ∈ bs, q ∈ bs') : ∃ a, v = .ref a ∧ SrcL K mg xs bs' ds js σ a := by
  subst e1; subst e2
  have key : ∀ cs G H, Res K mg G H (ds ++ cs) → lsv (slots cs) r = some xs → Bor (vals cs) r v → ∃ a vs, v = .ref a ∧ SqL K H a vs ∧ Reps K mg G xs vs := fun cs G H rs e b =>
    lsv_rep rs.right (rs.ok cl (List.mem_append_left _ hc)) hv hs b e
  unfold srcOf at h
  split at h
  · rename_i j
    split at h
    · rename_i hj
      obtain ⟨ys, e3, e4⟩ := Option.map_eq_some_iff.mp h
      cases e4
      obtain ⟨a, vs, q1, q2, q3⟩ := key cs0 G0 H0 h0 e3 hb
      refine ⟨a, q1, ⟨fun cs G H rs hck hw => ?_⟩⟩
      have hj' : j ∈ js := by simpa using hj
      obtain ⟨a', vs', p1, p2, p3⟩ := key cs G H rs (hck (j, xs) (hbs _ (by simp))) (fun i hi => by cases hi; rw [hw j hj']; exact hb j rfl)
      rw [q1] at p1; cases p1
      exact ⟨vs', p2, p3⟩
    · cases h
  · rename_i hn
    obtain ⟨ys, e3, e4⟩ := Option.map_eq_some_iff.mp h
    cases e4
    obtain ⟨a, vs, q1, q2, q3⟩ := key cs0 G0 H0 h0 e3 hb
    refine ⟨a, q1, ⟨fun cs G H rs hck hw => ?_⟩⟩
    have same : lsv (slots cs) r = some xs := by
      cases r with
      | bor j => exact absurd rfl (hn j)
      | val d => exact e3
      | own s => exact e3
    obtain ⟨a', vs', p1, p2, p3⟩ := key cs G H rs same (fun i hi => absurd hi (hn i))
    rw [q1] at p1; cases p1
    exact ⟨vs', p2, p3⟩
theorem chk_src {ρ : List Sl} {r : Rv} {xs : List D} {bs : List (Nat × List D)} (h : srcOf js ρ r = some (xs, bs)) : chk ρ bs := by
  intro q hq
  unfold srcOf at h
  split at h
  · rename_i j
    split at h
    · obtain ⟨ys, e3, e4⟩ := Option.map_eq_some_iff.mp h
      cases e4
      have : q = (j, xs) := by simpa using hq
      subst this
      exact e3
    · cases h
  · obtain ⟨ys, e3, e4⟩ := Option.map_eq_some_iff.mp h
    cases e4
    cases hq
def iL (js : List Nat) (m : M) : MI := fun ρ => (m ρ).bind fun x => (srcOf js x.2 x.1).map fun y => (⟨y.1, y.2⟩, x.2)
theorem itok_list {xs : List D} {bs : List (Nat × List D)} {ds : List Cl} {ws : L2.St} {a : Addr} (h : SrcL K mg xs bs ds js ws a) : ItOk K mg (Itl K a) ⟨xs, bs⟩ ds js ws where
  stop := fun i cs G H rs hck hw hi => by
    obtain ⟨vs, q1, q2⟩ := h.at_ cs G H rs hck hw
    exact ⟨vs, q1, by rw [q2.length]; exact hi⟩
  go := fun i cs G H rs hck hw hi => by
    obtain ⟨vs, q1, q2⟩ := h.at_ cs G H rs hck hw
    have hi : i < xs.length := hi
    have hv : i < vs.length := by rw [q2.length]; exact hi
    exact ⟨vs, vs[i], q1, List.getElem?_eq_getElem hv⟩
  yld := fun i cs G H v H' d rs hck hw hi hy => by
    obtain ⟨vs, q1, q2⟩ := h.at_ cs G H rs hck hw
    obtain ⟨e, hy⟩ := hy
    subst e
    obtain ⟨d', e1, e2⟩ := q2.getV (hy vs q1)
    have hi : xs[i]? = some d := hi
    rw [hi] at e1; cases e1
    exact ⟨G, rs, Stp.refl, e2⟩
theorem si_list (ha : SE X a ma) : SI X js tg a (iL js ma) := PI.imp (pi_list ha) fun σ H Q h => by
  obtain ⟨cs, G, x, ρ', e1, rs, hm, k⟩ := h
  obtain ⟨⟨r1, ρ1⟩, h1, hm⟩ := Option.bind_eq_some_iff.mp hm
  obtain ⟨⟨xs, bs⟩, h2, hm⟩ := Option.map_eq_some_iff.mp hm
  cases hm
  refine ⟨cs, G, r1, ρ1, e1, rs, h1, fun cs1 v B G1 H1 f1 f2 fb rs1 st1 => ?_⟩
  have rs1' : Res X.K X.mg G1 H1 ([(⟨some v, r1.sl, B⟩ : Cl)] ++ cs1) := rs1
  obtain ⟨a', q1, q2⟩ := srcL_of (bs' := bs) h2 rs1' f2 f1 List.mem_cons_self rfl rfl fb fun _ hq => hq
  obtain ⟨vs, q3, q4⟩ := q2.at_ cs1 G1 H1 rs1' (by rw [f2]; exact chk_src h2) (fun j _ => by rw [f1])
  exact ⟨a', q1, ⟨vs, q3⟩, k cs1 [_] _ G1 H1 f1 f2 rs1' st1 (itok_list q2)⟩
/-! ranges -/
def rgD (lo : Int) (n : Nat) : List D := (List.range n).map fun (i : Nat) => D.int (lo + (i : Int))
theorem rgD_at {lo : Int} {n i : Nat} {d : D} (h : (rgD lo n)[i]? = some d) : i < n ∧ d = .int (lo + (i : Int)) := by
  unfold rgD at h
  rw [List.getElem?_map] at h
  obtain ⟨j, e1, e2⟩ := Option.map_eq_some_iff.mp h
  obtain ⟨h1, h2⟩ := List.getElem?_eq_some_iff.mp e1
  rw [List.getElem_range] at h2
  rw [List.length_range] at h1
  subst h2
  exact ⟨h1, e2.symm⟩
theorem itok_range {lo : Int} {n : Nat} {ds : List Cl} {ws : L2.St} : ItOk K mg (Itr lo n) ⟨rgD lo n, []⟩ ds js ws where
  stop := fun i cs G H rs hck hw hi => by
    show n ≤ i
    simpa [rgD] using hi
  go := fun i cs G H rs hck hw hi => by
    show i < n
    simpa [rgD] using hi
  yld := fun i cs G H v H' d rs hck hw hi hy => by
    obtain ⟨e1, e2⟩ := hy
    subst e1; subst e2
    obtain ⟨_, e3⟩ := rgD_at hi
    subst e3
    exact ⟨G, rs, Stp.refl, .int _⟩
def iR1 (ms : MA) : MI := fun ρ => (ms ρ).bind fun y => match y.1 with
  | [.val (.int j)] => @ite _ (-(2 ^ 62) ≤ j ∧ j < 2 ^ 62) (Classical.propDecidable _) (some (⟨rgD 0 j.toNat, []⟩, y.2)) none
  | _ => none
def iR2 (ms : MA) : MI := fun ρ => (ms ρ).bind fun y => match y.1 with
  | [.val (.int i), .val (.int j)] => @ite _ (-(2 ^ 62) ≤ i ∧ i < 2 ^ 62 ∧ -(2 ^ 62) ≤ j ∧ j < 2 ^ 62) (Classical.propDecidable _) (some (⟨rgD i (j - i).toNat, []⟩, y.2)) none
  | _ => none
theorem si_range1 (hg : Gl X "range") (hm : X.mg "range" = none) (ha : SA X [a] ms) (hs : starEach [a] X.env = [(false, eval a X.env)] := by rfl) : SI X js tg (.Call (.Name "range" p) [a] [] pos) (iR1 ms) := PI.imp (pi_range1 hg hm ha hs) fun σ H Q h => by
  obtain ⟨cs, G, x, ρ', e1, rs, hm, k⟩ := h
  obtain ⟨⟨r1, ρ1⟩, h1, hm⟩ := Option.bind_eq_some_iff.mp hm
  dsimp only at hm
  split at hm
  · rename_i j
    split at hm
    · rename_i hb
      cases hm
      refine ⟨cs, G, _, _, e1, rs, h1, fun cs1 ds vs G1 H1 f1 f2 fb f3 f4 rs1 st1 => ?_⟩
      have A := Args.of rs1 (by rw [f1]; exact fb) f3 f4
      obtain ⟨v, h2, h3⟩ := A.dat (i := 0) rfl rfl
      rw [one_arg A.len h2, h3.int_iff]
      exact ⟨j, rfl, hb.1, hb.2, k cs1 ds _ G1 H1 f1 f2 rs1 st1 itok_range⟩
    · cases hm
  · cases hm
theorem si_range2 (hg : Gl X "range") (hm : X.mg "range" = none) (ha : SA X [a, b] ms) (hs : starEach [a, b] X.env = [(false, eval a X.env), (false, eval b X.env)] := by rfl) (hs2 : starEach [b] X.env = [(false, eval b X.env)] := by rfl) :
    SI X js tg (.Call (.Name "range" p) [a, b] [] pos) (iR2 ms) := PI.imp (pi_range2 hg hm ha hs hs2) fun σ H Q h => by
  obtain ⟨cs, G, x, ρ', e1, rs, hm, k⟩ := h
  obtain ⟨⟨r1, ρ1⟩, h1, hm⟩ := Option.bind_eq_some_iff.mp hm
  dsimp only at hm
  split at hm
  · rename_i i j
    split at hm
    · rename_i hb
      cases hm
      refine ⟨cs, G, _, _, e1, rs, h1, fun cs1 ds vs G1 H1 f1 f2 fb f3 f4 rs1 st1 => ?_⟩
      have A := Args.of rs1 (by rw [f1]; exact fb) f3 f4
      obtain ⟨v, h2, h3⟩ := A.dat (i := 0) rfl rfl
      obtain ⟨w, h4, h5⟩ := A.dat (i := 1) rfl rfl
      rw [two_args A.len h2 h4, h3.int_iff, h5.int_iff]
      exact ⟨i, j, rfl, hb, k cs1 ds _ G1 H1 f1 f2 rs1 st1 itok_range⟩
    · cases hm
  · cases hm
/-! enumerate -/
def enumD (xs : List D) : List D := xs.zipIdx.map fun p => D.tup [.int (p.2 : Nat), p.1]
theorem itok_enum {xs : List D} {bs : List (Nat × List D)} {ds : List Cl} {ws : L2.St} {a : Addr} (h : SrcL K mg xs bs ds js ws a) : ItOk K mg (Ite K a) ⟨enumD xs, bs⟩ ds js ws where
  stop := fun i cs G H rs hck hw hi => by
    obtain ⟨vs, q1, q2⟩ := h.at_ cs G H rs hck hw
    exact ⟨vs, q1, by rw [q2.length]; simpa [enumD] using hi⟩
  go := fun i cs G H rs hck hw hi => by
    obtain ⟨vs, q1, q2⟩ := h.at_ cs G H rs hck hw
    have hi : i < xs.length := by simpa [enumD] using hi
    have hv : i < vs.length := by rw [q2.length]; exact hi
    exact ⟨vs, vs[i], q1, List.getElem?_eq_getElem hv⟩
  yld := fun i cs G H v H' d rs hck hw hi hy => by
    obtain ⟨vs, q1, q2⟩ := h.at_ cs G H rs hck hw
    obtain ⟨T, x, e1, e2, e3, e4⟩ := hy
    subst e1; subst e3
    obtain ⟨d', e5, e6⟩ := q2.getV (e4 vs q1)
    have hi : (enumD xs)[i]? = some d := hi
    unfold enumD at hi
    rw [List.getElem?_map, List.getElem?_zipIdx, e5] at hi
    simp only [Option.map_some, Nat.zero_add, Option.some.injEq] at hi
    subst hi
    have gp : G T = none := rs.same.free e2
    exact ⟨upd G T (.tup [.int (i : Nat), x]), rs.newG e2, Stp.allocG e2 gp, .tup (SqT.of upd_same) (.cons (.int _) (.cons (e6.mono (sameUpdG gp)) .nil))⟩
def iE (js : List Nat) (ms : MA) : MI := fun ρ => (ms ρ).bind fun y => match y.1 with
  | [r] => (srcOf js y.2 r).map fun z => (⟨enumD z.1, z.2⟩, y.2)
  | _ => none
theorem one_cell {σ : L2.St} {r1 : Rv} {vs : List V} {ds : List Cl} (h : Bors σ [r1] vs) (h1 : vals ds = vs.map some) (h2 : slots ds = [r1].map Rv.sl) :
    ∃ v A1, vs = [v] ∧ ds = [⟨some v, r1.sl, A1⟩] ∧ Bor σ r1 v := by
  cases vs with
  | nil => exact h.elim
  | cons v vs =>
    cases vs with
    | cons z zs => exact h.2.elim
    | nil =>
      cases ds with
      | nil => simp [vals] at h1
      | cons c1 ds =>
        cases ds with
        | cons c3 ds => simp [vals] at h1
        | nil =>
          obtain ⟨v1, s1, A1⟩ := c1
          simp only [vals, slots, List.map_cons, List.map_nil, List.cons.injEq, and_true] at h1 h2
          subst h1; subst h2
          exact ⟨v, A1, rfl, rfl, h.1⟩
theorem si_enum {elts : List Expr} {kk : Nat} {tpos : Pos} (hg : Gl X "enumerate") (hm : X.mg "enumerate" = none) (ha : SA X [a] ms) (hs : starEach [a] X.env = [(false, eval a X.env)] := by rfl) :
    SI X js (.Tuple elts kk tpos) (.Call (.Name "enumerate" p) [a] [] pos) (iE js ms) := PI.imp (pi_enum hg hm ha hs) fun σ H Q h => by
  obtain ⟨cs, G, x, ρ', e1, rs, hm, k⟩ := h
  obtain ⟨⟨r1, ρ1⟩, h1, hm⟩ := Option.bind_eq_some_iff.mp hm
  dsimp only at hm
  split at hm
  · rename_i r
    obtain ⟨⟨xs, bs⟩, h2, hm⟩ := Option.map_eq_some_iff.mp hm
    cases hm
    refine ⟨cs, G, _, _, e1, rs, h1, fun cs1 ds vs G1 H1 f1 f2 fb f3 f4 rs1 st1 => ?_⟩
    obtain ⟨v, A1, rfl, rfl, b1⟩ := one_cell fb f3 f4
    obtain ⟨a', q1, q2⟩ := srcL_of (bs' := bs) h2 rs1 f2 f1 List.mem_cons_self rfl rfl b1 fun _ hq => hq
    obtain ⟨vs, q3, q4⟩ := q2.at_ cs1 G1 H1 rs1 (by rw [f2]; exact chk_src h2) (fun j _ => by rw [f1])
    subst q1
    exact ⟨a', vs, rfl, q3, k cs1 _ _ G1 H1 f1 f2 rs1 st1 (itok_enum q2)⟩
  · cases hm
/-! zip -/
def zipD (xs ys : List D) : List D := List.zipWith (fun x y => D.tup [x, y]) xs ys
theorem itok_zip {xs ys : List D} {bs : List (Nat × List D)} {ds : List Cl} {ws : L2.St} {a b : Addr} (h : SrcL K mg xs bs ds js ws a) (h' : SrcL K mg ys bs ds js ws b) : ItOk K mg (Itz K a b) ⟨zipD xs ys, bs⟩ ds js ws where
  stop := fun i cs G H rs hck hw hi => by
    obtain ⟨vs, q1, q2⟩ := h.at_ cs G H rs hck hw
    obtain ⟨us, p1, p2⟩ := h'.at_ cs G H rs hck hw
    refine ⟨vs, us, q1, p1, ?_⟩
    rw [q2.length, p2.length]
    have hi : (zipD xs ys).length ≤ i := hi
    unfold zipD at hi
    rw [List.length_zipWith] at hi
    omega
  go := fun i cs G H rs hck hw hi => by
    obtain ⟨vs, q1, q2⟩ := h.at_ cs G H rs hck hw
    obtain ⟨us, p1, p2⟩ := h'.at_ cs G H rs hck hw
    have hi : i < (zipD xs ys).length := hi
    unfold zipD at hi
    rw [List.length_zipWith] at hi
    have hv : i < vs.length := by rw [q2.length]; omega
    have hu : i < us.length := by rw [p2.length]; omega
    exact ⟨vs, us, vs[i], us[i], q1, p1, List.getElem?_eq_getElem hv, List.getElem?_eq_getElem hu⟩
  yld := fun i cs G H v H' d rs hck hw hi hy => by
    obtain ⟨vs, q1, q2⟩ := h.at_ cs G H rs hck hw
    obtain ⟨us, p1, p2⟩ := h'.at_ cs G H rs hck hw
    obtain ⟨T, x, y, e1, e2, e3, e4, e5⟩ := hy
    subst e1; subst e3
    obtain ⟨d1, f1, f2⟩ := q2.getV (e4 vs q1)
    obtain ⟨d2, f3, f4⟩ := p2.getV (e5 us p1)
    have hi : (zipD xs ys)[i]? = some d := hi
    unfold zipD at hi
    rw [List.getElem?_zipWith, f1, f3] at hi
    simp only [Option.some.injEq] at hi
    subst hi
    have gp : G T = none := rs.same.free e2
    exact ⟨upd G T (.tup [x, y]), rs.newG e2, Stp.allocG e2 gp, .tup (SqT.of upd_same) (.cons (f2.mono (sameUpdG gp)) (.cons (f4.mono (sameUpdG gp)) .nil))⟩
def iZ (js : List Nat) (ms : MA) : MI := fun ρ => (ms ρ).bind fun y => match y.1 with
  | [r, r'] => (srcOf js y.2 r).bind fun z => (srcOf js y.2 r').map fun z' => (⟨zipD z.1 z'.1, z.2 ++ z'.2⟩, y.2)
  | _ => none
theorem si_zip {elts : List Expr} {kk : Nat} {tpos : Pos} (hg : Gl X "zip") (hm : X.mg "zip" = none) (ha : SA X [a, b] ms)
    (hs : starEach [a, b] X.env = (false, eval a X.env) :: starEach [b] X.env := by rfl) (hpl : (backTo pos (starEach [b] X.env)).any (·.1) = false := by rfl) :
    SI X js (.Tuple elts kk tpos) (.Call (.Name "zip" p) [a, b] [] pos) (iZ js ms) := PI.imp (pi_zip hg hm ha hs hpl) fun σ H Q h => by
  obtain ⟨cs, G, x, ρ', e1, rs, hm, k⟩ := h
  obtain ⟨⟨r1, ρ1⟩, h1, hm⟩ := Option.bind_eq_some_iff.mp hm
  dsimp only at hm
  split at hm
  · rename_i r r'
    obtain ⟨⟨xs, bs⟩, h2, hm⟩ := Option.bind_eq_some_iff.mp hm
    obtain ⟨⟨ys, bs'⟩, h3, hm⟩ := Option.map_eq_some_iff.mp hm
    cases hm
    refine ⟨cs, G, _, _, e1, rs, h1, fun cs1 ds vs G1 H1 f1 f2 fb f3 f4 rs1 st1 => ?_⟩
    obtain ⟨v, w, A1, A2, rfl, rfl, b1, b2⟩ := two_cells fb f3 f4
    obtain ⟨a', q1, q2⟩ := srcL_of (bs' := bs ++ bs') h2 rs1 f2 f1 List.mem_cons_self rfl rfl b1 fun _ hq => List.mem_append_left _ hq
    obtain ⟨a2, p1, p2⟩ := srcL_of (bs' := bs ++ bs') h3 rs1 f2 f1 (List.mem_cons_of_mem _ List.mem_cons_self) rfl rfl b2 fun _ hq => List.mem_append_right _ hq
    have hck : chk (slots cs1) (bs ++ bs') := fun q hq => by
      rw [f2]
      rcases List.mem_append.mp hq with z | z
      · exact chk_src h2 q z
      · exact chk_src h3 q z
    obtain ⟨vs, q3, q4⟩ := q2.at_ cs1 G1 H1 rs1 hck (fun j _ => by rw [f1])
    obtain ⟨us, p3, p4⟩ := p2.at_ cs1 G1 H1 rs1 hck (fun j _ => by rw [f1])
    subst q1; subst p1
    exact ⟨a', a2, vs, us, rfl, q3, p3, k cs1 _ _ G1 H1 f1 f2 rs1 st1 (itok_zip q2 p2)⟩
  · cases hm
/-! a text, sign by sign -/
def signsD (x : Str) : List D := x.cps.toList.map fun c => D.str ⟨#[c]⟩
theorem itok_str {x : Str} {ds : List Cl} {ws : L2.St} : ItOk K mg (Its x) ⟨signsD x, []⟩ ds js ws where
  stop := fun i cs G H rs hck hw hi => by
    show x.cps.size ≤ i
    simpa [signsD] using hi
  go := fun i cs G H rs hck hw hi => by
    show i < x.cps.size
    simpa [signsD] using hi
  yld := fun i cs G H v H' d rs hck hw hi hy => by
    obtain ⟨e1, c, e2, e3⟩ := hy
    subst e1; subst e3
    have hi : (signsD x)[i]? = some d := hi
    unfold signsD at hi
    rw [List.getElem?_map, Array.getElem?_toList, e2] at hi
    cases hi
    exact ⟨G, rs, Stp.refl, .str _⟩
def iS (m : M) : MI := fun ρ => match m ρ with
  | some (.val (.str z), ρ') => some (⟨signsD z, []⟩, ρ')
  | _ => none
theorem si_str (ha : SE X a ma) : SI X js tg a (iS ma) := PI.imp (pi_str ha) fun σ H Q h => by
  obtain ⟨cs, G, x, ρ', e1, rs, hm, k⟩ := h
  unfold iS at hm
  split at hm
  · rename_i z ρ1 ea
    cases hm
    refine ⟨cs, G, _, _, e1, rs, ea, fun cs1 v B G1 H1 f1 f2 fb rs1 st1 => ?_⟩
    obtain ⟨rp, rfl⟩ := rs1.val
    exact ⟨z, rp.str_iff, k cs1 [_] _ G1 H1 f1 f2 rs1 st1 itok_str⟩
  · cases hm
/-! a tuple -/
def iT (m : M) : MI := fun ρ => match m ρ with
  | some (.val (.tup xs), ρ') => some (⟨xs, []⟩, ρ')
  | _ => none
theorem si_tup (ha : SE X a ma) : SI X js tg a (iT ma) := PI.imp (pi_tup ha) fun σ H Q h => by
  obtain ⟨cs, G, x, ρ', e1, rs, hm, k⟩ := h
  unfold iT at hm
  split at hm
  · rename_i xs ρ1 ea
    cases hm
    refine ⟨cs, G, _, _, e1, rs, ea, fun cs1 v B G1 H1 f1 f2 fb rs1 st1 => ?_⟩
    obtain ⟨rp, rfl⟩ := rs1.val
    cases rp with
    | tup q rr =>
      rename_i a' vs
      refine ⟨a', rfl, ⟨vs, same_sqT rs1.same q⟩, k cs1 [_] _ G1 H1 f1 f2 rs1 st1 ⟨fun i cs2 G2 H2 rs2 _ _ hi => ?_, fun i cs2 G2 H2 rs2 _ _ hi => ?_, fun i cs2 G2 H2 w H' d rs2 _ _ hi hy => ?_⟩⟩
      · obtain ⟨rp2, _⟩ := Res.val (cs := cs2) rs2
        cases rp2 with
        | tup q2 rr2 => exact ⟨_, same_sqT rs2.same q2, by rw [rr2.length]; exact hi⟩
      · obtain ⟨rp2, _⟩ := Res.val (cs := cs2) rs2
        cases rp2 with
        | tup q2 rr2 =>
          rename_i us
          have hv : i < us.length := by rw [rr2.length]; exact hi
          exact ⟨us, us[i], same_sqT rs2.same q2, List.getElem?_eq_getElem hv⟩
      · obtain ⟨rp2, _⟩ := Res.val (cs := cs2) rs2
        cases rp2 with
        | tup q2 rr2 =>
          obtain ⟨e, hy⟩ := hy
          subst e
          obtain ⟨d', e1, e2⟩ := rr2.getV (hy _ (same_sqT rs2.same q2))
          have hi : xs[i]? = some d := hi
          rw [hi] at e1; cases e1
          exact ⟨G2, rs2, Stp.refl, e2⟩
  · cases hm
end
end
end FW

namespace FW
noncomputable section
open PySem L2

section
variable {X : Cx} {a b c e o tg : Expr} {es : List Expr} {ma mb mc mo : M} {ms : MA} {pos p2 p cpos apos : Pos} {K : PySem.W.Frag} {mg : Str → Option Value} {P : Nat → Prop} {st : Stmt} {rest : List Stmt} {sa sb : MS} {js : List Nat}
/-! ### a comprehension -/
open Classical in
noncomputable def compD (bs : List (Nat × List D)) (vs : List Nat) (g : D → List Sl → Option (List Sl)) (t : MT) (m : M) : List D → List D → List Sl → Option (List D × List Sl)
  | [], acc, ρ => if chk ρ bs then some (acc, ρ) else none
  | d :: ds, acc, ρ => if chk ρ bs then (g d ρ).bind fun ρ1 => (t ρ1).bind fun x => if x.1 = true then
      (m x.2).bind fun y => (frz1 y.2 y.1).bind fun z => @ite _ (acc.length < sizeLine) (Classical.propDecidable _) (compD bs vs g t m ds (acc ++ [z.1]) (wipeS z.2 vs)) none
      else compD bs vs g t m ds acc (wipeS x.2 vs)
    else none
noncomputable def mComp (it : MI) (vs : List Nat) (g : D → List Sl → Option (List Sl)) (t : MT) (m : M) : M := fun ρ => (it ρ).bind fun x => (compD x.1.bs vs g t m x.1.items [] (wipeS x.2 vs)).map fun y => (.own (.ow y.1), y.2)
def tTrue : MT := fun ρ => some (true, ρ)
abbrev STs (X : Cx) (ifs : List Expr) (m : MT) : Prop := PTs X ifs (tMT X.K X.mg m)
theorem PTs.imp {ifs : List Expr} {t u : TT} (h : PTs X ifs t) (k : ∀ σ H Q, u σ H Q → t σ H Q) : PTs X ifs u := ⟨fun pins s σ H Q I q => h.run pins s σ H Q I (k σ H Q q)⟩
theorem sts_nil : STs X [] tTrue := PTs.imp pts_nil fun σ H Q h => by
  obtain ⟨cs, G, b, ρ', e1, rs, hm, k⟩ := h
  cases hm
  exact k cs G H e1 rfl rs Stp.refl
theorem sts_one {m : MT} (h : STe X c m) : STs X [c] m := pts_one h
theorem wipe_vals {is : List Nat} : ∀ {σ : L2.St} {i : Nat}, i ∉ is → (L2.wipe σ is)[i]? = σ[i]? := by
  induction is with
  | nil => intro σ i h; rfl
  | cons j js ih =>
    intro σ i h
    unfold L2.wipe
    rw [List.getElem?_set_ne (fun z => h (by simp [z]))]
    exact ih fun z => h (by simp [z])
theorem wipe_idem {is : List Nat} {σ σ' : L2.St} (hl : σ'.length = σ.length) (h : ∀ i, i ∉ is → σ'[i]? = σ[i]?) : L2.wipe σ' is = L2.wipe σ is := by
  apply List.ext_getElem?
  intro i
  by_cases hi : i ∈ is
  · have key : ∀ (τ : L2.St), (L2.wipe τ is)[i]? = if i < τ.length then some none else none := by
      intro τ
      clear h hl
      induction is with
      | nil => cases hi
      | cons j js ih =>
        unfold L2.wipe
        by_cases hj : j = i
        · subst hj
          by_cases hl : j < τ.length
          · rw [List.getElem?_set_self (by rw [wipe_length]; exact hl), if_pos hl]
          · rw [if_neg hl, List.getElem?_eq_none (by rw [List.length_set, wipe_length]; omega)]
        · rw [List.getElem?_set_ne hj]
          rcases List.mem_cons.mp hi with z | z
          · exact absurd z.symm hj
          · exact ih z
    rw [key, key, hl]
  · rw [wipe_vals hi, wipe_vals hi, h i hi]
/-- between a def's slots and a block's -/
theorem enter_block {cs : List Cl} {G H : Hp} (h : Res K mg G H cs) (vs : List Nat) : ∃ cs', vals cs' = L2.wipe (vals cs) vs ∧ slots cs' = wipeS (slots cs) vs ∧ Res K mg G H cs' ∧ ∀ b ∈ own cs', b ∈ own cs := by
  obtain ⟨c1, e1, e2, e3, e4⟩ := wipes h vs
  have l1 : c1.length = cs.length := len_of e1
  obtain ⟨c2, f1, f2, f3, f4⟩ := e3.revals (L2.wipe (vals cs) vs) (by rw [wipe_length, l1]; simp) fun i s hs hn => by
    by_cases hi : i ∈ vs
    · rw [e2] at hs
      exact absurd (wipeS_no hi hs) hn
    · rw [wipe_vals hi, e1]
  exact ⟨c2, f1, f2.trans e2, f4, fun b hb => e4 b (by rw [← f3]; exact hb)⟩
theorem leave_block {cs : List Cl} {G H : Hp} {σ : L2.St} {vs : List Nat} {ρ : List Sl} (h : Res K mg G H cs) (e1 : vals cs = L2.wipe σ vs) (e2 : slots cs = wipeS ρ vs) : ∃ cs', vals cs' = σ ∧ slots cs' = slots cs ∧ Res K mg G H cs' ∧ own cs' = own cs := by
  have l1 : cs.length = σ.length := by
    have := congrArg List.length e1
    rw [wipe_length] at this
    simpa using this
  obtain ⟨c2, f1, f2, f3, f4⟩ := h.revals σ l1.symm fun i s hs hn => by
    by_cases hi : i ∈ vs
    · rw [e2] at hs
      exact absurd (wipeS_no hi hs) hn
    · rw [e1, wipe_vals hi]
  exact ⟨c2, f1, f2, f4, f3⟩
theorem chk_wipe : True := trivial
/-- a comprehension's reading -/
theorem rd_lc {vs : List Nat} {mi : MI} {g : D → List Sl → Option (List Sl)} {t : MT} {m : M} (hjs : ∀ j ∈ js, j ∉ vs) : ∀ σ H Q, tM K mg (mComp mi vs g t m) σ H Q → tLc (tI K mg js mi) (tG K mg (fun i => i ∉ vs) g) (tMT K mg t) (tM K mg m) vs σ H Q := fun σ H Q h => by
  obtain ⟨cs, G, r, ρ', e1, rs, hm, k⟩ := h
  obtain ⟨⟨x, ρ1⟩, h1, hm⟩ := Option.bind_eq_some_iff.mp hm
  obtain ⟨⟨out, ρ2⟩, h2, hm⟩ := Option.map_eq_some_iff.mp hm
  cases hm
  refine ⟨cs, G, x, ρ1, e1, rs, h1, fun cs1 ds J G1 H1 f1 f2 rs1 st1 it D hD => ?_⟩
  subst e1
  dsimp only at h2
  have l1 : cs1.length = cs.length := len_of f1
  -- the invariant: the block's cells, the list at D with what is made so far
  let W : Nat → Nat → Hp → Prop := fun i n H' => n = x.items.length - i ∧ i ≤ x.items.length ∧ ∃ cs' G' acc ρw, vals cs' = L2.wipe (vals cs) vs ∧ slots cs' = wipeS ρw vs ∧ Res K mg G' H' ((⟨some (.ref D), .ow acc, [D]⟩ : Cl) :: (ds ++ cs')) ∧
    Stp (own cs) G H (own ((⟨some (.ref D), .ow acc, [D]⟩ : Cl) :: (ds ++ cs'))) G' H' ∧ compD x.bs vs g t m (x.items.drop i) acc (slots cs') = some (out, ρ2)
  have fin : ∀ {cs' : List Cl} {G' H' : Hp} {acc : List FW.D} {ρw : List Sl}, vals cs' = L2.wipe (vals cs) vs → slots cs' = wipeS ρw vs → Res K mg G' H' ((⟨some (.ref D), .ow acc, [D]⟩ : Cl) :: (ds ++ cs')) →
      Stp (own cs) G H (own ((⟨some (.ref D), .ow acc, [D]⟩ : Cl) :: (ds ++ cs'))) G' H' → slots cs' = ρ2 → acc = out → Q (.ref D) H' := fun {cs' G' H' acc ρw} g1 g2 g3 g4 g5 g6 => by
    subst g6
    have r1 : Res K mg G' H' ((⟨some (.ref D), .ow acc, [D]⟩ : Cl) :: cs') := by
      have p : List.Perm ((⟨some (.ref D), .ow acc, [D]⟩ : Cl) :: (ds ++ cs')) (ds ++ ((⟨some (.ref D), .ow acc, [D]⟩ : Cl) :: cs')) := List.perm_middle.symm
      exact (g3.perm p).right
    obtain ⟨c2, k1, k2, k3, k4⟩ := leave_block r1.tail g1 g2
    have st2 : Stp (own cs') G' H' (own c2) G' H' := Stp.refl.weak fun b hb => by rw [← k4]; exact hb
    have r2 := Res.frame (ds := [_]) r1 st2 k3
    refine k c2 (.ref D) [D] G' H' k1 (k2.trans g5) (fun i hi => nomatch hi) r2 (g4.weak fun b hb => ?_)
    rw [own_cons, k4] at hb
    rw [own_cons, own_append]
    rcases List.mem_append.mp hb with z | z
    · exact List.mem_append_left _ z
    · exact List.mem_append_right _ (List.mem_append_right _ z)
  refine ⟨W, ?_, ?_⟩
  · obtain ⟨c2, g1, g2, g3, g4⟩ := enter_block (K := K) (mg := mg) rs1.right vs
    have st2 : Stp (own cs1) G1 H1 (own c2) G1 H1 := Stp.refl.weak g4
    have r2 := Res.frame rs1 st2 g3
    have s2 := st1.trans (Stp.under rs1 st2)
    refine ⟨x.items.length, rfl, Nat.zero_le _, c2, G1, [], ρ1, by rw [g1, f1], by rw [g2, f2], r2.newL hD .nil, (s2.trans (Stp.alloc hD)).weak fun b hb => by simpa [own_cons] using hb, ?_⟩
    rw [g2, f2]
    exact h2
  · rintro i n H' ⟨rfl, hi', cs2, G2, acc, ρw, g1, g2, rs2, st2, hw⟩
    have gj : ∀ j ∈ js, (vals cs2)[j]? = (vals cs)[j]? := fun j hj => by rw [g1, wipe_vals (hjs j hj)]
    have rI : Res K mg G2 H' (ds ++ cs2) := rs2.tail
    cases hd : x.items.drop i with
    | nil =>
      rw [hd] at hw
      unfold compD at hw
      split at hw
      · rename_i hck
        have e : acc = out ∧ slots cs2 = ρ2 := by
          have := Option.some.inj hw
          exact ⟨(Prod.mk.inj this).1, (Prod.mk.inj this).2⟩
        exact .inl ⟨it.stop i cs2 G2 H' rI hck gj (by have := List.drop_eq_nil_iff.mp hd; omega), fin g1 g2 rs2 st2 e.2 e.1⟩
      · cases hw
    | cons d rest =>
      rw [hd] at hw
      unfold compD at hw
      have hil : i < x.items.length := by
        rcases Nat.lt_or_ge i x.items.length with z | z
        · exact z
        · rw [List.drop_eq_nil_iff.mpr z] at hd; cases hd
      have hit : x.items[i]? = some d := by
        rw [List.drop_eq_getElem_cons hil] at hd
        rw [List.getElem?_eq_getElem hil]
        exact congrArg some (List.cons.inj hd).1
      have hrest : x.items.drop (i + 1) = rest := by
        rw [List.drop_eq_getElem_cons hil] at hd
        exact (List.cons.inj hd).2
      split at hw
      · rename_i hck
        obtain ⟨ρ3, h3, hw⟩ := Option.bind_eq_some_iff.mp hw
        obtain ⟨⟨b4, ρ4⟩, h4, hw⟩ := Option.bind_eq_some_iff.mp hw
        refine .inr ⟨it.go i cs2 G2 H' rI hck gj hil, W (i + 1) (x.items.length - (i + 1)), fun H3 w => ⟨_, by omega, w⟩, fun v H3 hy => ?_⟩
        obtain ⟨G3, rs3', st3', rp⟩ := it.yld i cs2 G2 H' v H3 d rI hck gj hit hy
        have rs3 := Res.frame (ds := [_]) (cs := ds ++ cs2) rs2 st3' rs3'
        have s3 := st2.trans (Stp.under (ds := [_]) (cs := ds ++ cs2) rs2 st3')
        have rs3b : Res K mg G3 H3 ((⟨some (.ref D), .ow acc, [D]⟩ :: ds) ++ cs2) := rs3
        refine ⟨cs2, G3, d, ρ3, g1, rs3'.right, rp, h3, fun cs4 k1 k2 k3 k4' k5 => ?_⟩
        have len2 : cs2.length = cs.length := by
          have := congrArg List.length g1
          rw [wipe_length] at this
          simpa using this
        have w4 : L2.wipe (vals cs4) vs = L2.wipe (vals cs) vs := wipe_idem (by simp [k2, len2]) fun j hj => by
          rw [k3 j hj, wipe_vals hj]
        refine ⟨w4, ?_⟩
        have st4 : Stp (own cs2) G3 H3 (own cs4) G3 H3 := Stp.refl.weak k5
        have rs4 : Res K mg G3 H3 (((⟨some (.ref D), .ow acc, [D]⟩ : Cl) :: ds) ++ cs4) := Res.frame rs3b st4 k4'
        have s4 : Stp (own cs) G H (own (((⟨some (.ref D), .ow acc, [D]⟩ : Cl) :: ds) ++ cs4)) G3 H3 := Stp.trans s3 (Stp.under (ds := (⟨some (.ref D), .ow acc, [D]⟩ : Cl) :: ds) (cs := cs2) rs3b st4)
        refine ⟨cs4, G3, b4, ρ4, rfl, k4', by rw [k1]; exact h4, fun cs5 G5 H5 l1' l2 rs5 st5 => ?_⟩
        have rs6 := Res.frame rs4 st5 rs5
        have s6 := s4.trans (Stp.under rs4 st5)
        -- the next turn's state, from cells behind this one
        have next : ∀ (cs7 : List Cl) (G7 H7 : Hp) (acc' : List FW.D) (ρ7 : List Sl), vals cs7 = vals cs4 → slots cs7 = ρ7 → Res K mg G7 H7 ((⟨some (.ref D), .ow acc', [D]⟩ : Cl) :: (ds ++ cs7)) →
            Stp (own cs) G H (own ((⟨some (.ref D), .ow acc', [D]⟩ : Cl) :: (ds ++ cs7))) G7 H7 → compD x.bs vs g t m rest acc' (wipeS ρ7 vs) = some (out, ρ2) → W (i + 1) (x.items.length - (i + 1)) H7 := by
          intro cs7 G7 H7 acc' ρ7 p1 p2 p3 p4 p5
          obtain ⟨c8, q1, q2, q3, q4⟩ := enter_block (K := K) (mg := mg) (cs := cs7) (Res.right (cs := (⟨some (.ref D), .ow acc', [D]⟩ : Cl) :: ds) p3) vs
          have st8 : Stp (own cs7) G7 H7 (own c8) G7 H7 := Stp.refl.weak q4
          have p3' : Res K mg G7 H7 (((⟨some (.ref D), .ow acc', [D]⟩ : Cl) :: ds) ++ cs7) := p3
          exact ⟨rfl, hil, c8, G7, acc', ρ7, by rw [q1, p1, w4], by rw [q2, p2], Res.frame p3' st8 q3, Stp.trans p4 (Stp.under p3' st8), by rw [hrest, q2, p2]; exact p5⟩
        cases b4 with
        | false =>
          refine iteF ?_
          refine next cs5 G5 H5 acc ρ4 l1' l2 rs6 s6 ?_
          simpa using hw
        | true =>
          refine iteT ?_
          simp only [if_true] at hw
          obtain ⟨⟨r6, ρ6⟩, h6, hw⟩ := Option.bind_eq_some_iff.mp hw
          obtain ⟨⟨d7, ρ7⟩, h7, hw⟩ := Option.bind_eq_some_iff.mp hw
          split at hw
          · rename_i hlen
            refine ⟨cs5, G5, r6, ρ6, l1', rs5, by rw [l2]; exact h6, fun cs6 v6 B6 G6 H6 m1 m2 mb' rs6' st6 => ?_⟩
            have rs7 := Res.frame rs6 st6 rs6'
            have s7 := s6.trans (Stp.under rs6 st6)
            obtain ⟨cs7, G7, n1, n2, n3, rp7, rs7', st7⟩ := frz_ok rs6' (by rw [m1]; exact mb') (by rw [m2]; exact h7)
            have rs8 := Res.frame rs7 st7 rs7'
            have s8 := s7.trans (Stp.under rs7 st7)
            have hcell : ((⟨some (.ref D), .ow acc, [D]⟩ : Cl) :: ds ++ cs7)[0]? = some ⟨some (.ref D), .ow acc, [D]⟩ := rfl
            have ow := (rs8.ok (⟨some (.ref D), .ow acc, [D]⟩ : Cl) (by simp)).own (v := .ref D) rfl rfl (by simp)
            obtain ⟨ws, hH, hR⟩ : ∃ ws, H6 D = some (.lst ws) ∧ Reps K mg G7 acc ws := by
              have ow : Own K mg G7 H6 (.ow acc) (.ref D) [D] := ow
              cases ow with
              | ow q1 q2 => exact ⟨_, q1, q2⟩
            have wr := Res.write (H' := upd H6 D (.lst (ws ++ [v6]))) (c' := ⟨some (.ref D), .ow (acc ++ [d7]), [D]⟩) rs8 hcell (fun b hb => upd_ne (by simpa using hb)) (.inr ⟨_, rfl, .ow upd_same (hR.append (.cons rp7 .nil))⟩) rfl (fun b hb => by
              have : b = D := by simpa using hb
              subst this; rw [upd_same]; simp)
            refine ⟨ws, hH, by rw [hR.length]; exact hlen, ?_⟩
            exact next cs7 G7 _ (acc ++ [d7]) ρ7 (by rw [n1, m1]) n2 wr.1 (s8.trans wr.2) hw
          · cases hw
      · cases hw

theorem se_comp {elt iter : Expr} {ifs : List Expr} {scope : Scope} {own' : List (Str × Nat)} {mi : MI} {g : D → List Sl → Option (List Sl)} {t : MT} {m : M} (js : List Nat) (hc : X.calm = true) (hN : X.N.Nodup) (hi : SI X js tg iter mi) (ok : BlkOk X.N X.env.scope scope own')
    (hg : ∀ (s : Shared) (H : Hp) (C : Addr) (cl : List (Str × Addr)) (fp : List Addr), SG (X.blk s H scope (compEnvC scope cl C X.env) fp) (fun i => i ∉ own'.map (·.2)) tg g) (ht : ∀ (s : Shared) (H : Hp) (C : Addr) (cl : List (Str × Addr)) (fp : List Addr), STs (X.blk s H scope (compEnvC scope cl C X.env) fp) ifs t)
    (he : ∀ (s : Shared) (H : Hp) (C : Addr) (cl : List (Str × Addr)) (fp : List Addr), SE (X.blk s H scope (compEnvC scope cl C X.env) fp) elt m) (hjs : ∀ j ∈ js, j ∉ own'.map (·.2) := by decide) (hs : ∀ x, foldedSetIterable iter X.env x = pure x := by intro _; rfl) :
    SE X (.ListComp elt [⟨tg, iter, ifs, 0⟩] scope pos) (mComp mi (own'.map (·.2)) g t m) := PE.imp (pe_lc hc hN hi ok hg ht he hs) (rd_lc hjs)
theorem ss_setLc {i : Nat} {y : Str} {py spos : Pos} {elt iter : Expr} {ifs : List Expr} {scope : Scope} {own' : List (Str × Nat)} {mi : MI} {g : D → List Sl → Option (List Sl)} {t : MT} {m : M} (js : List Nat) (hc : X.calm = true) (hN : X.N.Nodup) (hy : X.N[i]? = some y) (hyl : X.env.scope.names.lookup y = some .local) (hP : ¬ P i)
    (hsw : swapsWith (.ListComp elt [⟨tg, iter, ifs, 0⟩] scope pos) (some (.Name y py)) spos.line X.env = pure true) (hi : SI X js tg iter mi) (ok : BlkOk X.N X.env.scope scope own')
    (hg : ∀ (s : Shared) (H : Hp) (C : Addr) (cl : List (Str × Addr)) (fp : List Addr), SG (X.blk s H scope (compEnvC scope cl C X.env) fp) (fun i => i ∉ own'.map (·.2)) tg g) (ht : ∀ (s : Shared) (H : Hp) (C : Addr) (cl : List (Str × Addr)) (fp : List Addr), STs (X.blk s H scope (compEnvC scope cl C X.env) fp) ifs t)
    (he : ∀ (s : Shared) (H : Hp) (C : Addr) (cl : List (Str × Addr)) (fp : List Addr), SE (X.blk s H scope (compEnvC scope cl C X.env) fp) elt m) (hjs : ∀ j ∈ js, j ∉ own'.map (·.2) := by decide) (hs : ∀ x, foldedSetIterable iter X.env x = pure x := by intro _; rfl) :
    SS X P (.Assign [.Name y py] (.ListComp elt [⟨tg, iter, ifs, 0⟩] scope pos) spos) (sSet i (mComp mi (own'.map (·.2)) g t m)) := PS.imp (ps_setLc hc hN hy hyl hsw hi ok hg ht he hs) fun D σ H h => rd_lc hjs σ H _ (rd_set hP D σ H h)
/-! ### while -/
def whD (t : MT) (b : MS) : Nat → MS
  | 0, _ => none
  | n + 1, ρ => (t ρ).bind fun x => if x.1 = true then (b x.2).bind fun y => match y.1 with
    | .nx => whD t b n y.2
    | .ct => whD t b n y.2
    | .bk => some (.nx, y.2)
    | .rt r => some (.rt r, y.2)
    | .ex c => some (.ex c, y.2)
    else some (.nx, x.2)
theorem whD_more {t : MT} {b : MS} : ∀ {n m : Nat} {ρ : List Sl} {r : Ctl × List Sl}, n ≤ m → whD t b n ρ = some r → whD t b m ρ = some r
  | 0, _, _, _, _, h => by cases h
  | n + 1, 0, _, _, hm, _ => by omega
  | n + 1, m + 1, ρ, r, hm, h => by
    unfold whD at h ⊢
    obtain ⟨x, e1, h⟩ := Option.bind_eq_some_iff.mp h
    rw [e1]
    show (if x.1 = true then _ else _) = _
    split at h
    · rename_i hx
      rw [if_pos hx]
      obtain ⟨y, e2, h⟩ := Option.bind_eq_some_iff.mp h
      rw [e2]
      show (match y.1 with | .nx => _ | .ct => _ | .bk => _ | .rt r => _ | .ex c => _) = _
      cases hy : y.1 with
      | nx => rw [hy] at h; exact whD_more (by omega) h
      | ct => rw [hy] at h; exact whD_more (by omega) h
      | bk => rw [hy] at h; exact h
      | rt r => rw [hy] at h; exact h
      | ex c => rw [hy] at h; exact h
    · rename_i hx
      rw [if_neg hx]
      exact h
open Classical in
noncomputable def sWhile (t : MT) (b : MS) : MS := fun ρ => if h : ∃ n r, whD t b n ρ = some r then whD t b h.choose ρ else none
theorem sWhile_eq {t : MT} {b : MS} {n : Nat} {ρ : List Sl} {r : Ctl × List Sl} (h : whD t b n ρ = some r) : sWhile t b ρ = some r := by
  have hex : ∃ n r, whD t b n ρ = some r := ⟨n, r, h⟩
  unfold sWhile
  rw [dif_pos hex]
  obtain ⟨r', h'⟩ := hex.choose_spec
  rw [h']
  have h1 := whD_more (Nat.le_max_left n hex.choose) h
  have h2 := whD_more (Nat.le_max_right n hex.choose) h'
  rw [h1] at h2
  exact h2.symm
theorem ss_while {t : MT} {body : List Stmt} (hp : PassesOwn (model X.prog X.w) X.A X.env X.xe) (hc : STe X c t) (hb : SSs X P body sb) : SS X P (.While c body [] pos) (sWhile t sb) := PS.imp (ps_while hp hc hb) fun D σ H h => by
  obtain ⟨cs, G, k, ρ', e1, rs, hm, q⟩ := h
  obtain ⟨n, hn⟩ : ∃ n, whD t sb n (slots cs) = some (k, ρ') := by
    unfold sWhile at hm
    split at hm
    · exact ⟨_, hm⟩
    · cases hm
  let W : Nat → L2.St → Hp → Prop := fun m σ' H' => ∃ cs' G', vals cs' = σ' ∧ cs'.length = cs.length ∧ (∀ i, P i → (vals cs')[i]? = σ[i]?) ∧ Res X.K X.mg G' H' cs' ∧ Stp (own cs) G H (own cs') G' H' ∧ whD t sb m (slots cs') = some (k, ρ')
  refine ⟨W, ⟨n, cs, G, e1, rfl, fun _ _ => by rw [e1], rs, Stp.refl, hn⟩, ?_⟩
  rintro m σ' H' ⟨cs1, G1, f1, f2, f3, rs1, st1, hw⟩
  cases m with
  | zero => cases hw
  | succ m =>
    unfold whD at hw
    obtain ⟨⟨x, ρ1⟩, h1, hw⟩ := Option.bind_eq_some_iff.mp hw
    refine ⟨cs1, G1, x, ρ1, f1, rs1, h1, fun cs2 G2 H2 g1 g2 rs2 st2 => ?_⟩
    subst f1
    cases x with
    | true =>
      refine iteT ?_
      simp only [if_true] at hw
      obtain ⟨⟨k3, ρ3⟩, h3, hw⟩ := Option.bind_eq_some_iff.mp hw
      refine ⟨W m, fun σ3 H3 w => ⟨m, Nat.lt_succ_self m, w⟩, cs2, G2, k3, ρ3, g1, rs2, by rw [g2]; exact h3, fun cs3 v B G3 H3 l1 l2 l3 rs3 st3 => ?_⟩
      have len3 : cs3.length = cs.length := l2.trans ((len_of g1).trans f2)
      have p3 : ∀ i, P i → (vals cs3)[i]? = σ[i]? := fun i hi => by rw [l3 i hi]; exact f3 i hi
      have s3 := st1.trans (st2.trans st3)
      cases k3 with
      | nx => exact ⟨cs3, G3, rfl, len3, p3, rs3.tail, s3.back1, by rw [l1]; exact hw⟩
      | ct => exact ⟨cs3, G3, rfl, len3, p3, rs3.tail, s3.back1, by rw [l1]; exact hw⟩
      | bk => cases hw; exact KS.nx q l1 len3 p3 rs3.tail s3.back1
      | rt r => cases hw; exact q cs3 v B G3 H3 l1 len3 p3 rs3 s3
      | ex c => cases hw; exact q cs3 v B G3 H3 l1 len3 p3 rs3 s3
    | false =>
      refine iteF ?_
      simp at hw
      obtain ⟨e1, e2⟩ := hw
      subst e1; subst e2
      show D.nx (vals cs1) H2
      rw [← g1]
      exact KS.nx q g2 ((len_of g1).trans f2) (fun i hi => by rw [g1]; exact f3 i hi) rs2 (st1.trans st2)
end
end
end FW

namespace FW
noncomputable section
open PySem L2

/-- a def's mirror: the arguments' slots in; the result and the arguments' slots out -/
abbrev MF := List Sl → Option (Rv × List Sl)
def spM (K : PySem.W.Frag) (mg : Str → Option Value) (n : Nat) (m : MF) : Sp := fun vs H Q _ => ∃ cs G r outs, vals cs = vs.map some ∧ vs.length = n ∧ Res K mg G H cs ∧ m (slots cs) = some (r, outs) ∧ (∀ j, r ≠ .bor j) ∧
  ∀ cs' v B G' H', vals cs' = vs.map some → slots cs' = outs → Res K mg G' H' (⟨some v, r.sl, B⟩ :: cs') → Stp (own cs) G H (own (⟨some v, r.sl, B⟩ :: cs')) G' H' → Q v H'
def froz : Sl → Option Sl
  | .fz d => some (.fz d)
  | .no => some .no
  | _ => none
def outsOf (pl : List Nat) : Nat → List Sl → List Sl → Option (List Sl)
  | _, [], _ => some []
  | i, a :: as, s :: ss => (if pl.contains i = true then some s else froz a).bind fun s' => (outsOf pl (i + 1) as ss).map (s' :: ·)
  | _, _ :: _, [] => none
def retOf : Ctl → Option Rv
  | .nx => some (.val .non)
  | .rt (.bor _) => none
  | .rt r => some r
  | _ => none
/-- a def: N slots, the parameters at pl are never stored to -/
def mDef (N : Nat) (pl : List Nat) (body : MS) : MF := fun args => (body (args ++ List.replicate (N - args.length) .no)).bind fun x => (retOf x.1).bind fun r => (outsOf pl 0 args x.2).map fun o => (r, o)
section
variable {K : PySem.W.Frag} {mg : Str → Option Value} {G H G' H' : Hp}
theorem outs_ok {pl : List Nat} (hG : Same G G') (hH : Same G' H') : ∀ {as cs' : List Cl} {i : Nat} {o : List Sl}, (∀ c ∈ as, ClR K mg G H c) → (∀ c ∈ cs', ClR K mg G' H' c) → (∀ j, i + j ∈ pl → j < as.length → (vals cs')[j]? = (vals as)[j]?) → outsOf pl i (slots as) (slots cs') = some o →
    ∃ es, vals es = vals as ∧ slots es = o ∧ (∀ c ∈ es, ClR K mg G' H' c) ∧ List.Sublist (own es) (own cs')
  | [], cs', i, o, _, _, _, e => by
    unfold outsOf at e
    cases e
    exact ⟨[], rfl, rfl, (fun c hc => by cases hc), by simp [own]⟩
  | a :: as, [], i, o, _, _, _, e => by cases e
  | a :: as, c :: cs', i, o, ha, hc, hv, e => by
    unfold outsOf at e
    simp only [slots, List.map_cons] at e
    obtain ⟨s', e1, e⟩ := Option.bind_eq_some_iff.mp e
    obtain ⟨o', e2, e⟩ := Option.map_eq_some_iff.mp e
    subst e
    obtain ⟨es, f1, f2, f3, f4⟩ := outs_ok (pl := pl) (i := i + 1) hG hH (fun c hc => ha c (by simp [hc])) (fun d hd => hc d (by simp [hd])) (fun j hj hl => by
      have := hv (j + 1) (by rw [show i + (j + 1) = i + 1 + j by omega]; exact hj) (by simpa using hl)
      simpa [vals] using this) e2
    split at e1
    · rename_i hp
      cases e1
      have q := hv 0 (by simpa using hp) (by simp)
      simp only [vals, List.map_cons, List.getElem?_cons_zero, Option.some.injEq] at q
      refine ⟨c :: es, by simp [vals, q]; exact f1, by simp [slots]; exact f2, fun d hd => ?_, ?_⟩
      · rcases List.mem_cons.mp hd with z | z
        · subst z; exact hc _ (by simp)
        · exact f3 d z
      · rw [own_cons, own_cons]
        exact List.Sublist.append (List.Sublist.refl _) f4
    · have q := ha a (by simp)
      have sub : List.Sublist (own es) (own (c :: cs')) := by
        rw [own_cons]
        exact List.Sublist.trans f4 (List.sublist_append_right _ _)
      unfold froz at e1
      split at e1
      · rename_i d hd
        cases e1
        rcases q with ⟨z, _⟩ | ⟨v, h1, h2⟩
        · rw [hd] at z; cases z
        · rw [hd] at h2
          have rp : Rep K mg G' d v := by
            generalize a.A = A at h2
            cases h2 with | fz r => exact r.mono hG
          refine ⟨⟨some v, .fz d, []⟩ :: es, by simp [vals, h1]; exact f1, by simp [slots]; exact f2, fun x hx => ?_, by rw [own_cons]; exact sub⟩
          rcases List.mem_cons.mp hx with z | z
          · subst z; exact .inr ⟨v, rfl, .fz rp⟩
          · exact f3 x z
      · cases e1
        refine ⟨⟨a.v, .no, []⟩ :: es, by simp [vals]; exact f1, by simp [slots]; exact f2, fun x hx => ?_, by rw [own_cons]; exact sub⟩
        rcases List.mem_cons.mp hx with z | z
        · subst z; exact .inl ⟨rfl, rfl⟩
        · exact f3 x z
      · cases e1
theorem own_nos (n : Nat) : own (List.replicate n (⟨none, .no, []⟩ : Cl)) = [] := by
  induction n with
  | zero => rfl
  | succ n ih => rw [List.replicate_succ, own_cons, ih]; rfl
/-- a body's mirror is its def's -/
theorem body_ok {n N : Nat} {pl : List Nat} {names : List Str} {body : MS} {vs : List V} {Q : VK} {E : XK} (hN : names.length = N) (h : spM K mg n (mDef N pl body) vs H Q E) (hpl : ∀ i ∈ pl, i < n := by decide) :
    tS K mg W (fun i => i ∈ pl) body { nx := fun _ H' => Q .non H', rt := Q } (L2.start names vs) H := by
  obtain ⟨cs, G, r, outs, e1, e2, rs, hm, hb, k⟩ := h
  obtain ⟨⟨c, ρ'⟩, h1, hm⟩ := Option.bind_eq_some_iff.mp hm
  obtain ⟨r', h2, hm⟩ := Option.bind_eq_some_iff.mp hm
  obtain ⟨o, h3, hm⟩ := Option.map_eq_some_iff.mp hm
  cases hm
  have lc : cs.length = vs.length := by
    have := congrArg List.length e1
    simpa using this
  refine ⟨cs ++ List.replicate (N - cs.length) ⟨none, .no, []⟩, G, c, ρ', ?_, ?_, ?_, ?_⟩
  · unfold L2.start
    rw [hN]
    show List.map _ (cs ++ _) = _
    rw [List.map_append, List.map_replicate, ← e1, lc]
  · refine ⟨rs.same, fun d hd => ?_, by rw [own_append, own_nos, List.append_nil]; exact rs.nd, fun a ha => rs.fr a (by rw [own_append, own_nos, List.append_nil] at ha; exact ha), rs.tab⟩
    rcases List.mem_append.mp hd with z | z
    · exact rs.ok d z
    · have := (List.mem_replicate.mp z).2
      subst this
      exact .inl ⟨rfl, rfl⟩
  · show body (List.map _ (cs ++ _)) = _
    rw [List.map_append, List.map_replicate]
    simpa [slots] using h1
  · intro cs' v B G' H' f1 f2 f3 rs' st'
    have oeq : own (cs ++ List.replicate (N - cs.length) (⟨none, .no, []⟩ : Cl)) = own cs := by rw [own_append, own_nos, List.append_nil]
    rw [oeq] at st'
    obtain ⟨es, g1, g2, g3, g4⟩ := outs_ok (K := K) (mg := mg) (H := H) (as := cs) (cs' := cs') (i := 0) (pl := pl) st'.gs rs'.same rs.ok (fun d hd => rs'.ok d (by simp [hd])) (fun j hj hl => by
      rw [f3 j (by simpa using hj)]
      unfold L2.start
      rw [List.getElem?_append_left (by simpa [lc] using hl), ← e1]) (by rw [f1]; exact h3)
    have rs2 : Res K mg G' H' (⟨some v, c.rv.sl, B⟩ :: es) := by
      refine ⟨rs'.same, fun d hd => ?_, ?_, fun a ha => ?_, rs'.tab⟩
      · rcases List.mem_cons.mp hd with z | z
        · subst z; exact rs'.h1
        · exact g3 d z
      · have nd := rs'.nd
        rw [own_cons] at nd ⊢
        exact nd.sublist (List.Sublist.append (List.Sublist.refl _) g4)
      · refine rs'.fr a ?_
        rw [own_cons] at ha ⊢
        rcases List.mem_append.mp ha with z | z
        · exact List.mem_append_left _ z
        · exact List.mem_append_right _ (g4.subset z)
    have st2 : Stp (own cs) G H (own (⟨some v, c.rv.sl, B⟩ :: es)) G' H' := st'.weak fun b hb => by
      rw [own_cons] at hb ⊢
      rcases List.mem_append.mp hb with z | z
      · exact List.mem_append_left _ z
      · exact List.mem_append_right _ (g4.subset z)
    cases c with
    | nx =>
      cases h2
      obtain ⟨rp, _⟩ := rs'.val
      have := rp.non_iff
      subst this
      exact k es .non B G' H' (g1.trans e1) g2 rs2 st2
    | bk => cases h2
    | ct => cases h2
    | ex c => cases h2
    | rt r =>
      cases r with
      | bor j => cases h2
      | val d => cases h2; exact k es v B G' H' (g1.trans e1) g2 rs2 st2
      | own s => cases h2; exact k es v B G' H' (g1.trans e1) g2 rs2 st2

/-! ### calls -/
def takeA (ρ : List Sl) : List Rv → Option (List Sl × List Sl)
  | [] => some ([], ρ)
  | .val d :: rs => (takeA ρ rs).map fun y => (.fz d :: y.1, y.2)
  | .own s :: rs => (takeA ρ rs).map fun y => (s :: y.1, y.2)
  | .bor i :: rs => match ρ[i]? with
    | some .no => none
    | none => none
    | some s => (takeA (ρ.set i .no) rs).map fun y => (s :: y.1, y.2)
def putA : List Rv → List Sl → List Sl → List Sl
  | .bor i :: rs, o :: os, ρ => putA rs os (ρ.set i o)
  | _ :: rs, _ :: os, ρ => putA rs os ρ
  | _, _, ρ => ρ
theorem take_ok : ∀ {rs : List Rv} {cs ds : List Cl} {vs : List V} {ss ρr : List Sl}, Res K mg G H (ds ++ cs) → Bors (vals cs) rs vs → vals ds = vs.map some → slots ds = rs.map Rv.sl → takeA (slots cs) rs = some (ss, ρr) →
    ∃ as cr, vals as = vs.map some ∧ slots as = ss ∧ vals cr = vals cs ∧ slots cr = ρr ∧ Res K mg G H (as ++ cr) ∧ ∀ b ∈ own (as ++ cr), b ∈ own (ds ++ cs)
  | [], cs, ds, vs, ss, ρr, h, hb, e1, e2, e => by
    have : ds = [] := by cases ds <;> simp [slots] at e2 ⊢
    subst this
    have : vs = [] := by cases vs <;> simp [vals] at e1 ⊢
    subst this
    cases e
    exact ⟨[], cs, rfl, rfl, rfl, rfl, h, fun _ hb => hb⟩
  | r :: rs, cs, ds, vs, ss, ρr, h, hb, e1, e2, e => by
    cases vs with
    | nil => exact hb.elim
    | cons v vs =>
      cases ds with
      | nil => simp [vals] at e1
      | cons c ds =>
        obtain ⟨cv, s0, B⟩ := c
        simp only [vals, List.map_cons, List.cons.injEq] at e1
        simp only [slots, List.map_cons, List.cons.injEq] at e2
        obtain ⟨q1, e1⟩ := e1
        obtain ⟨q2, e2⟩ := e2
        subst q1; subst q2
        -- the head stays, or a slot's content is taken in its place
        have keep : ∀ {s : Sl} {y : List Sl × List Sl}, r.sl = s → takeA (slots cs) rs = some y → ∃ as cr, vals as = (v :: vs).map some ∧ slots as = s :: y.1 ∧ vals cr = vals cs ∧ slots cr = y.2 ∧ Res K mg G H (as ++ cr) ∧ ∀ b ∈ own (as ++ cr), b ∈ own ((⟨some v, r.sl, B⟩ :: ds) ++ cs) := by
          intro s y hs hy
          subst hs
          obtain ⟨as, cr, f1, f2, f3, f4, f5, f6⟩ := take_ok (ds := ds) (Res.tail h) hb.2 e1 e2 (by rw [hy])
          have st : Stp (own (ds ++ cs)) G H (own (as ++ cr)) G H := Stp.refl.weak f6
          have rf := Res.frame (ds := [(⟨some v, r.sl, B⟩ : Cl)]) (cs := ds ++ cs) h st f5
          refine ⟨⟨some v, r.sl, B⟩ :: as, cr, by simp [vals] at f1 ⊢; exact f1, by simp [slots] at f2 ⊢; exact f2, f3, f4, rf, fun b hb => ?_⟩
          rw [List.cons_append, own_cons] at hb ⊢
          rcases List.mem_append.mp hb with z | z
          · exact List.mem_append_left _ z
          · exact List.mem_append_right _ (f6 b z)
        cases r with
        | val d =>
          obtain ⟨y, e3, e4⟩ := Option.map_eq_some_iff.mp e
          cases e4
          exact keep rfl e3
        | own s =>
          obtain ⟨y, e3, e4⟩ := Option.map_eq_some_iff.mp e
          cases e4
          exact keep rfl e3
        | bor i =>
          unfold takeA at e
          split at e
          · cases e
          · cases e
          · rename_i s hn es
            obtain ⟨y, e3, e4⟩ := Option.map_eq_some_iff.mp e
            cases e4
            have hv := hb.1 i rfl
            have hN : B = [] := by
              rcases h.ok _ (by simp : (⟨some v, Rv.sl (.bor i), B⟩ : Cl) ∈ _) with ⟨_, z⟩ | ⟨w, _, o⟩
              · exact z
              · cases o
            subst hN
            have ht : Res K mg G H (ds ++ cs) := Res.tail h
            obtain ⟨A, m1, m2, m3⟩ := move_out ht.right es hv
            have st1 : Stp (own cs) G H (own ((⟨some v, s, A⟩ : Cl) :: cs.set i ⟨some v, .no, []⟩)) G H := Stp.refl.weak fun b hb => m2.mem_iff.mpr hb
            have r1 := Res.frame ht st1 m1
            have p : List.Perm (ds ++ (⟨some v, s, A⟩ : Cl) :: cs.set i ⟨some v, .no, []⟩) ((⟨some v, s, A⟩ : Cl) :: (ds ++ cs.set i ⟨some v, .no, []⟩)) := List.perm_middle
            have r2 := r1.perm p
            obtain ⟨as, cr, f1, f2, f3, f4, f5, f6⟩ := take_ok (ds := ds) (cs := cs.set i ⟨some v, .no, []⟩) r2.tail (by rw [m3]; exact hb.2) e1 e2 (by rw [slots_set, e3])
            have st : Stp (own (ds ++ cs.set i ⟨some v, .no, []⟩)) G H (own (as ++ cr)) G H := Stp.refl.weak f6
            have rf := Res.frame (ds := [(⟨some v, s, A⟩ : Cl)]) r2 st f5
            refine ⟨⟨some v, s, A⟩ :: as, cr, by simp [vals] at f1 ⊢; exact f1, by simp [slots] at f2 ⊢; exact f2, f3.trans m3, f4, rf, fun b hb => ?_⟩
            have hb' : b ∈ own ((⟨some v, s, A⟩ : Cl) :: (ds ++ cs.set i ⟨some v, .no, []⟩)) := by
              rw [List.cons_append, own_cons] at hb
              rw [own_cons]
              rcases List.mem_append.mp hb with z | z
              · exact List.mem_append_left _ z
              · exact List.mem_append_right _ (f6 b z)
            have hb2 := (own_perm p).mem_iff.mpr hb'
            rw [own_append] at hb2
            rw [List.cons_append, own_cons, own_append]
            rcases List.mem_append.mp hb2 with z | z
            · exact List.mem_append_right _ (List.mem_append_left _ z)
            · exact List.mem_append_right _ (List.mem_append_right _ (m2.mem_iff.mpr z))
theorem put_ok : ∀ {rs : List Rv} {cr as : List Cl} {vs : List V} {c : Cl}, Res K mg G H (c :: (as ++ cr)) → Bors (vals cr) rs vs → vals as = vs.map some →
    ∃ es, vals es = vals cr ∧ slots es = putA rs (slots as) (slots cr) ∧ Res K mg G H (c :: es) ∧ ∀ b ∈ own (c :: es), b ∈ own (c :: (as ++ cr))
  | [], cr, as, vs, c, h, hb, e1 => by
    refine ⟨cr, rfl, rfl, ?_, fun b hb => ?_⟩
    · have p : List.Perm (c :: (as ++ cr)) (as ++ (c :: cr)) := List.perm_middle.symm
      exact (h.perm p).right
    · rw [own_cons] at hb ⊢
      rw [own_append]
      rcases List.mem_append.mp hb with z | z
      · exact List.mem_append_left _ z
      · exact List.mem_append_right _ (List.mem_append_right _ z)
  | r :: rs, cr, [], vs, c, h, hb, e1 => by
    refine ⟨cr, rfl, ?_, h, fun b hb => hb⟩
    cases r <;> rfl
  | r :: rs, cr, a :: as, vs, c, h, hb, e1 => by
    cases vs with
    | nil => exact hb.elim
    | cons v vs =>
      simp only [vals, List.map_cons, List.cons.injEq] at e1
      obtain ⟨q1, e1⟩ := e1
      have dropA : ∀ (hn : ∀ j, r ≠ .bor j), ∃ es, vals es = vals cr ∧ slots es = putA (r :: rs) (slots (a :: as)) (slots cr) ∧ Res K mg G H (c :: es) ∧ ∀ b ∈ own (c :: es), b ∈ own (c :: (a :: as ++ cr)) := by
        intro hn
        have p : List.Perm (c :: (a :: as ++ cr)) (a :: (c :: (as ++ cr))) := List.Perm.swap _ _ _
        obtain ⟨es, f1, f2, f3, f4⟩ := put_ok (c := c) (as := as) (cr := cr) (h.perm p).tail hb.2 e1
        refine ⟨es, f1, ?_, f3, fun b hb => ?_⟩
        · rw [f2]
          cases r with
          | bor j => exact absurd rfl (hn j)
          | val d => rfl
          | own s => rfl
        · have := f4 b hb
          rw [own_cons] at this ⊢
          rw [List.cons_append, own_cons]
          rcases List.mem_append.mp this with z | z
          · exact List.mem_append_left _ z
          · exact List.mem_append_right _ (List.mem_append_right _ z)
      cases r with
      | val d => exact dropA fun j z => nomatch z
      | own s => exact dropA fun j z => nomatch z
      | bor i =>
        have hv := hb.1 i rfl
        have p : List.Perm (c :: (a :: as ++ cr)) ((c :: as) ++ (a :: cr)) := by
          show List.Perm (c :: a :: (as ++ cr)) (c :: (as ++ a :: cr))
          exact List.Perm.cons _ List.perm_middle.symm
        have h1 := h.perm p
        have st : Stp (own (a :: cr)) G H (own (cr.set i a)) G H := Stp.refl.weak (own_put i)
        have h2 := Res.frame h1 st (h1.right.put i)
        have ev : vals (cr.set i a) = vals cr := by
          rw [vals_set, q1]
          apply List.ext_getElem?
          intro j
          by_cases hj : i = j
          · subst hj
            rw [hv, List.getElem?_set_self]
            obtain ⟨hl, _⟩ := List.getElem?_eq_some_iff.mp hv
            exact hl
          · rw [List.getElem?_set_ne hj]
        obtain ⟨es, f1, f2, f3, f4⟩ := put_ok (c := c) (as := as) (cr := cr.set i a) h2 (by rw [ev]; exact hb.2) e1
        refine ⟨es, f1.trans ev, by rw [f2, slots_set]; rfl, f3, fun b hb => ?_⟩
        have := f4 b hb
        rw [own_cons, own_append] at this
        rw [own_cons, List.cons_append, own_cons, own_append]
        rcases List.mem_append.mp this with z | z
        · exact List.mem_append_left _ z
        · refine List.mem_append_right _ ?_
          rcases List.mem_append.mp z with z | z
          · exact List.mem_append_right _ (List.mem_append_left _ z)
          · have := own_put i b z
            rw [own_cons] at this
            rcases List.mem_append.mp this with w | w
            · exact List.mem_append_left _ w
            · exact List.mem_append_right _ (List.mem_append_right _ w)
def mCall (m : MF) (ms : MA) : M := fun ρ => (ms ρ).bind fun y => (takeA y.2 y.1).bind fun z => (m z.1).bind fun w => match w.1 with
  | .bor _ => none
  | r => some (r, putA y.1 w.2 z.2)
/-- arguments that wait are handed to a def -/
theorem handed {n : Nat} {m : MF} {cs ds : List Cl} {rs : List Rv} {vs : List V} {ss ρr outs : List Sl} {r : Rv} {Q : VK} {E : XK} (h : Res K mg G H (ds ++ cs)) (hb : Bors (vals cs) rs vs) (e1 : vals ds = vs.map some) (e2 : slots ds = rs.map Rv.sl) (hn : vs.length = n)
    (ht : takeA (slots cs) rs = some (ss, ρr)) (hm : m ss = some (r, outs)) (hr : ∀ j, r ≠ .bor j)
    (k : ∀ cs' v B G' H', vals cs' = vals cs → slots cs' = putA rs outs ρr → Res K mg G' H' (⟨some v, r.sl, B⟩ :: cs') → Stp (own (ds ++ cs)) G H (own (⟨some v, r.sl, B⟩ :: cs')) G' H' → Q v H') : spM K mg n m vs H Q E := by
  obtain ⟨as, cr, f1, f2, f3, f4, f5, f6⟩ := take_ok h hb e1 e2 ht
  refine ⟨as, G, r, outs, f1, hn, f5.left, by rw [f2]; exact hm, hr, fun as' v B G' H' g1 g2 rs' st' => ?_⟩
  have p0 : List.Perm (as ++ cr) (cr ++ as) := List.perm_append_comm
  have r0 := f5.perm p0
  have r1 := Res.frame r0 st' rs'
  have p1 : List.Perm (cr ++ ⟨some v, r.sl, B⟩ :: as') (⟨some v, r.sl, B⟩ :: (as' ++ cr)) := List.perm_middle.trans (List.Perm.cons _ List.perm_append_comm)
  have s1 := (Stp.under r0 st').perm (own_perm p1)
  obtain ⟨es, q1, q2, q3, q4⟩ := put_ok (r1.perm p1) (by rw [f3]; exact hb) g1
  refine k es v B G' H' (q1.trans f3) (by rw [q2, g2, f4]) q3 ((s1.weak q4).more fun b hb => f6 b ?_)
  rw [own_append] at hb ⊢
  rcases List.mem_append.mp hb with z | z
  · exact List.mem_append_right _ z
  · exact List.mem_append_left _ z
theorem bors_len {σ : L2.St} : ∀ {rs : List Rv} {vs : List V}, Bors σ rs vs → vs.length = rs.length
  | [], [], _ => rfl
  | _ :: _, _ :: _, h => by simp [bors_len h.2]
  | [], _ :: _, h => h.elim
  | _ :: _, [], h => h.elim
end
section
variable {X : Cx} {a b c e o tg : Expr} {es : List Expr} {ma mb mc mo : M} {ms : MA} {pos p2 p cpos apos : Pos} {P : Nat → Prop} {k n : Nat} {f C : Addr} {fd : FuncData} {ps : List Str} {m : MF} {x : Str}
theorem rd_call (hl : ∀ ρ y, ms ρ = some y → y.1.length = n) : ∀ σ H Q, tM X.K X.mg (mCall m ms) σ H Q → tMA X.K X.mg ms σ H fun vs H1 => spM X.K X.mg n m (vs ++ []) H1 Q E0 := fun σ H Q h => by
  obtain ⟨cs, G, r, ρ', e1, rs, hm, k⟩ := h
  obtain ⟨⟨r1, ρ1⟩, h1, hm⟩ := Option.bind_eq_some_iff.mp hm
  obtain ⟨⟨ss, ρr⟩, h2, hm⟩ := Option.bind_eq_some_iff.mp hm
  obtain ⟨⟨r2, outs⟩, h3, hm⟩ := Option.bind_eq_some_iff.mp hm
  have hr : (∀ j, r2 ≠ .bor j) ∧ r = r2 ∧ ρ' = putA r1 outs ρr := by
    cases r2 with
    | bor j => cases hm
    | val d => cases hm; exact ⟨(fun j z => nomatch z), rfl, rfl⟩
    | own s => cases hm; exact ⟨(fun j z => nomatch z), rfl, rfl⟩
  obtain ⟨hr, q1, q2⟩ := hr
  subst q1; subst q2
  refine ⟨cs, G, r1, ρ1, e1, rs, h1, fun cs1 ds vs G1 H1 f1 f2 fb f3 f4 rs1 st1 => ?_⟩
  subst f2
  rw [List.append_nil]
  refine handed rs1 (by rw [f1]; exact fb) f3 f4 (by rw [bors_len fb]; exact hl _ _ h1) h2 h3 hr fun cs2 v B G2 H2 g1 g2 rs2 st2 => ?_
  exact k cs2 v B G2 H2 (g1.trans f1) g2 (fun j z => absurd z (hr j)) rs2 (st1.trans st2)
theorem aNil_len : ∀ ρ y, aNil ρ = some y → y.1.length = 0 := fun ρ y h => by cases h; rfl
theorem aCons_len {m' : M} {ms' : MA} {j : Nat} (h : ∀ ρ y, ms' ρ = some y → y.1.length = j) : ∀ ρ y, aCons m' ms' ρ = some y → y.1.length = j + 1 := fun ρ y e => by
  obtain ⟨x, e1, e⟩ := Option.bind_eq_some_iff.mp e
  obtain ⟨z, e2, e⟩ := Option.map_eq_some_iff.mp e
  subst e
  simp [h _ _ e2]
/-- f(e, ..), no exception -/
theorem se_call (F : FnOk X.prog X.w X.K X.mg X.base CX0 k f fd ps (spM X.K X.mg n m)) (hr : Room k X.A) (hg : Gl X x) (hm : X.mg x = some (.ref f)) (hk : PySem.W.keepIn X.K (.ref f) = true) (hb : Binds X.K fd ps [])
    (ha : SA X (e :: es) ms) (hl : ∀ ρ y, ms ρ = some y → y.1.length = n) (hdb : (x == ("__debug__" : Str)) = false := by decide) (he : starEach (e :: es) X.env = (false, eval e X.env) :: starEach es X.env := by rfl) (hpl : (backTo pos (starEach es X.env)).any (·.1) = false := by rfl) :
    SE X (.Call (.Name x p) (e :: es) [] pos) (mCall m ms) := PE.imp (pe_call F hr hg hm hk hb .nil pass0 ha hdb he hpl) (rd_call hl)
theorem se_call0 (F : FnOk X.prog X.w X.K X.mg X.base CX0 k f fd ps (spM X.K X.mg 0 m)) (hr : Room k X.A) (hg : Gl X x) (hm : X.mg x = some (.ref f)) (hk : PySem.W.keepIn X.K (.ref f) = true) (hb : Binds X.K fd ps [])
    (hdb : (x == ("__debug__" : Str)) = false := by decide) : SE X (.Call (.Name x p) [] [] pos) (mCall m aNil) := PE.imp (pe_call0 F hr hg hm hk hb .nil pass0 hdb) fun σ H Q h => by
  obtain ⟨cs, G, rs, ρ', e1, rs', hm', k⟩ := rd_call aNil_len σ H Q h
  cases hm'
  exact k cs [] [] G H e1 rfl trivial rfl rfl rs' Stp.refl
end
end
end FW

namespace FW
noncomputable section
open PySem L2

theorem PI.or {X : Cx} {tg e : Expr} {t u : TI} (h : PI X tg e t) (h' : PI X tg e u) : PI X tg e (fun σ H R => t σ H R ∨ u σ H R) := ⟨fun pins s σ H R I q => by
  rcases q with q | q
  · exact h.run pins s σ H R I q
  · exact h'.run pins s σ H R I q⟩
/-- any of a list, a tuple, a text -/
def iAny (js : List Nat) (m : M) : MI := fun ρ => match iL js m ρ with
  | some x => some x
  | none => match iT m ρ with
    | some x => some x
    | none => iS m ρ
section
variable {X : Cx} {a b e o tg : Expr} {es : List Expr} {ma mb mc mo : M} {ms : MA} {pos p2 p cpos apos : Pos} {P : Nat → Prop} {js : List Nat}
theorem si_any (ha : SE X a ma) : SI X js tg a (iAny js ma) := PI.imp (PI.or (si_list ha) (PI.or (si_tup ha) (si_str ha))) fun σ H Q h => by
  obtain ⟨cs, G, x, ρ', e1, rs, hm, k⟩ := h
  unfold iAny at hm
  split at hm
  · cases hm; exact .inl ⟨cs, G, x, ρ', e1, rs, by assumption, k⟩
  · split at hm
    · cases hm; exact .inr (.inl ⟨cs, G, x, ρ', e1, rs, by assumption, k⟩)
    · exact .inr (.inr ⟨cs, G, x, ρ', e1, rs, hm, k⟩)
/-! in a text, or among items -/
abbrev rInStr (neg : Bool) : R2 := fun x y H Q => ∃ i j, x = .str i ∧ y = .str j ∧ Q (.bl (if neg then !(!(Builtin.Str.occurrences j i 0 j.length 1).isEmpty) else !(Builtin.Str.occurrences j i 0 j.length 1).isEmpty)) H
def inAny (neg : Bool) (ρ : List Sl) (x y : Rv) : Option Rv := match dat ρ x, dat ρ y with
  | some (.str i), some (.str j) => some (.val (.bl (if neg then !(!(Builtin.Str.occurrences j i 0 j.length 1).isEmpty) else !(Builtin.Str.occurrences j i 0 j.length 1).isEmpty)))
  | _, _ => inVV neg ρ x y
theorem op2_inAny {K : PySem.W.Frag} {mg : Str → Option Value} {neg : Bool} : Op2' K mg (inAny neg) (fun x y H Q => rIn K neg x y H Q ∨ rInStr neg x y H Q) := fun cs c1 c2 r1 r2 z G H v w Q rs o1 v1 s1 b1 o2 v2 s2 b2 hz q => by
  unfold inAny at hz
  split at hz
  · rename_i i j e1 e2
    cases hz
    exact .inr ⟨i, j, (dat_rep rs o1 v1 s1 b1 e1).str_iff, (dat_rep rs o2 v2 s2 b2 e2).str_iff, q.v _ _ rfl (.bl _)⟩
  · exact .inl (op2_in cs c1 c2 r1 r2 z G H v w Q rs o1 v1 s1 b1 o2 v2 s2 b2 hz q)
theorem op_inAny : OpR X (compareOp .In) (fun x y H Q => rIn X.K false x y H Q ∨ rInStr false x y H Q) := OpR.or op_in_seq op_in_str
theorem op_notInAny : OpR X (compareOp .NotIn) (fun x y H Q => rIn X.K true x y H Q ∨ rInStr true x y H Q) := OpR.or op_notIn_seq op_notIn_str
theorem e_in (ha : SE X a ma) (hb : SE X b mb) (hm : behindInMarks .In b = false := by rfl) : SE X (.Compare a [.In] [b] pos) (mBin2 (inAny false) ma mb) := se_cmp2 op_inAny op2_inAny ha hb hm
theorem t_in (ha : SE X a ma) (hb : SE X b mb) (hm : behindInMarks .In b = false := by rfl) : STe X (.Compare a [.In] [b] pos) (mB (mBin2 (inAny false) ma mb)) := st_cmp2 op_inAny op2_inAny ha hb hm
theorem e_notin (ha : SE X a ma) (hb : SE X b mb) (hm : behindInMarks .NotIn b = false := by rfl) : SE X (.Compare a [.NotIn] [b] pos) (mBin2 (inAny true) ma mb) := se_cmp2 op_notInAny op2_inAny ha hb hm
theorem t_notin (ha : SE X a ma) (hb : SE X b mb) (hm : behindInMarks .NotIn b = false := by rfl) : STe X (.Compare a [.NotIn] [b] pos) (mB (mBin2 (inAny true) ma mb)) := st_cmp2 op_notInAny op2_inAny ha hb hm
theorem op2_isN {K : PySem.W.Frag} {mg : Str → Option Value} : Op2 K mg (isND false) (fun x y H Q => y = .non ∧ Q (.bl (decide (x = .non))) H) := fun x y z H v w Q hz rx ry q => by
  unfold isND at hz; split at hz
  · cases hz
    refine ⟨ry.non_iff, ?_⟩
    rw [rep_isN rx]
    refine q _ ?_
    show some (V.bl (isN x != false)) = _
    cases isN x <;> rfl
  · cases hz
theorem t_isN (ha : SE X a ma) (hb : SE X b mb) : STe X (.Compare a [.Is] [b] pos) (mB (mBin (isND false) ma mb)) := st_cmp op_isN op2_isN ha hb (nomark _)
theorem t_notN (ha : SE X a ma) (hb : SE X b mb) : STe X (.Compare a [.IsNot] [b] pos) (mB (mBin (isND true) ma mb)) := st_cmp op_notN op2_isNot ha hb (nomark _)
/-! chains a op b op' c of ints -/
def mChain (f g : D → D → Option D) (a b c : M) : M := fun ρ => (a ρ).bind fun x => (b x.2).bind fun y => (dat y.2 x.1).bind fun d => (dat y.2 y.1).bind fun e => match f d e with
  | some (.bl true) => (c y.2).bind fun z => (dat z.2 y.1).bind fun e' => (dat z.2 z.1).bind fun w => (g e' w).map fun u => (.val u, z.2)
  | some (.bl false) => some (.val (.bl false), y.2)
  | _ => none
theorem rd_chain {K : PySem.W.Frag} {mg : Str → Option Value} {f g : D → D → Option D} {R R' : R2} (hr : Op2 K mg f R) (hr' : Op2 K mg g R') : ∀ σ H Q, tM K mg (mChain f g ma mb mc) σ H Q → tChain R R' (tM K mg ma) (tM K mg mb) (tM K mg mc) σ H Q := fun σ H Q h => by
  obtain ⟨cs, G, r, ρ', e1, rs, hm, k⟩ := h
  obtain ⟨⟨r1, ρ1⟩, h1, hm⟩ := Option.bind_eq_some_iff.mp hm
  obtain ⟨⟨r2, ρ2⟩, h2, hm⟩ := Option.bind_eq_some_iff.mp hm
  obtain ⟨d, hd, hm⟩ := Option.bind_eq_some_iff.mp hm
  obtain ⟨e, he, hm⟩ := Option.bind_eq_some_iff.mp hm
  refine two e1 rs h1 h2 fun cs2 v w B1 B2 G2 H2 f1 f2 b1 b2 rs2 st2 => ?_
  subst f1; subst f2
  have rv := dat_rep rs2.tail.tail rs2.h1 rfl rfl b1 hd
  have rw' := dat_rep rs2.tail.tail rs2.h2 rfl rfl b2 he
  dsimp only at hm
  split at hm
  · rename_i hf
    refine hr d e _ H2 v w _ hf rv rw' fun u hu => ?_
    cases hu
    refine ⟨true, rfl, iteT ?_⟩
    obtain ⟨⟨r3, ρ3⟩, h3, hm⟩ := Option.bind_eq_some_iff.mp hm
    obtain ⟨e', he', hm⟩ := Option.bind_eq_some_iff.mp hm
    obtain ⟨w3, hw3, hm⟩ := Option.bind_eq_some_iff.mp hm
    obtain ⟨u, hu, hm⟩ := Option.map_eq_some_iff.mp hm
    cases hm
    refine ⟨cs2, G2, r3, ρ3, rfl, rs2.tail.tail, h3, fun cs3 v3 B3 G3 H3 g1 g2 gb rs3 st3 => ?_⟩
    have rA := Res.frame (ds := [_]) rs2.tail st3 rs3
    have sA := Stp.under (ds := [_]) rs2.tail st3
    rw [← g1] at b2 gb
    rw [← g2] at he' hw3
    refine hr' e' w3 u H3 w v3 Q hu (dat_rep rs3.tail rA.h1 rfl rfl b2 he') (dat_rep rs3.tail rs3.h1 rfl rfl gb hw3) fun u' hu' => ?_
    exact Kn.fz k g1 g2 rs3.tail (st2.back1.trans (sA.weak fun b hb => by
      show b ∈ own ([_] ++ (_ :: cs3))
      rw [own_append, own_cons]
      exact List.mem_append_right _ (List.mem_append_right _ hb))) (sc_rep hu')
  · rename_i hf
    refine hr d e _ H2 v w _ hf rv rw' fun u hu => ?_
    cases hu
    refine ⟨false, rfl, iteF ?_⟩
    cases hm
    exact Kn.fz k rfl rfl rs2.tail.tail st2.back2 (.bl false)
  · cases hm
theorem se_chain {op op' : CmpOp} {c : Expr} {f g : D → D → Option D} {R R' : R2} (ho : OpR X (compareOp op) R) (ho' : OpR X (compareOp op') R') (hr : Op2 X.K X.mg f R) (hr' : Op2 X.K X.mg g R') (ha : SE X a ma) (hb : SE X b mb) (hc : SE X c mc)
    (hm : lastMarks [op, op'] [b, c] = false := by with_unfolding_all rfl) : SE X (.Compare a [op, op'] [b, c] pos) (mChain f g ma mb mc) := PE.imp (pe_chain ho ho' ha hb hc hm) (rd_chain hr hr')
theorem st_chain {op op' : CmpOp} {c : Expr} {f g : D → D → Option D} {R R' : R2} (ho : OpR X (compareOp op) R) (ho' : OpR X (compareOp op') R') (hr : Op2 X.K X.mg f R) (hr' : Op2 X.K X.mg g R') (ha : SE X a ma) (hb : SE X b mb) (hc : SE X c mc)
    (hm : lastMarks [op, op'] [b, c] = false := by with_unfolding_all rfl) : STe X (.Compare a [op, op'] [b, c] pos) (mB (mChain f g ma mb mc)) := PT.imp (pt_chain ho ho' ha hb hc hm) fun σ H Q h => rd_chain hr hr' σ H _ (rd_B σ H Q h)
/-! built-ins in short -/
theorem b_len (hm : X.mg "len" = none) (ha : SA X [e] ms) (hg : Gl X "len" := by rfl) (he : starEach [e] X.env = (false, eval e X.env) :: starEach [] X.env := by rfl) : SE X (.Call (.Name "len" p) [e] [] pos) (mCallB lenD ms) := se_callB call_len cr_lenD hg hm PySem.boot_len ha (by decide) (by decide) he rfl
theorem boot_sum' : bootBuiltins "sum" = some (.builtin "sum") := by decide +kernel
theorem boot_max' : bootBuiltins "max" = some (.builtin "max") := by decide +kernel
theorem boot_min' : bootBuiltins "min" = some (.builtin "min") := by decide +kernel
theorem boot_abs' : bootBuiltins "abs" = some (.builtin "abs") := by decide +kernel
theorem boot_sorted' : bootBuiltins "sorted" = some (.builtin "sorted") := by decide +kernel
theorem boot_all' : bootBuiltins "all" = some (.builtin "all") := by decide +kernel
theorem boot_any' : bootBuiltins "any" = some (.builtin "any") := by decide +kernel
theorem boot_int' : bootBuiltins "int" = some (.type "int") := by decide +kernel
theorem boot_str' : bootBuiltins "str" = some (.type "str") := by decide +kernel
theorem boot_bool' : bootBuiltins "bool" = some (.type "bool") := by decide +kernel
theorem boot_list' : bootBuiltins "list" = some (.type "list") := by decide +kernel
theorem boot_tuple' : bootBuiltins "tuple" = some (.type "tuple") := by decide +kernel
theorem boot_dict' : bootBuiltins "dict" = some (.type "dict") := by decide +kernel
theorem b_sum (hc : X.calm = true) (hm : X.mg "sum" = none) (ha : SA X [e] ms) (hg : Gl X "sum" := by rfl) (he : starEach [e] X.env = (false, eval e X.env) :: starEach [] X.env := by rfl) : SE X (.Call (.Name "sum" p) [e] [] pos) (mCallB (bL sumL) ms) := se_callB (cr_sum hc) cr_sumL hg hm boot_sum' ha (by decide) (by decide) he rfl
theorem b_max (hc : X.calm = true) (hm : X.mg "max" = none) (ha : SA X [e] ms) (hg : Gl X "max" := by rfl) (he : starEach [e] X.env = (false, eval e X.env) :: starEach [] X.env := by rfl) : SE X (.Call (.Name "max" p) [e] [] pos) (mCallB (bL maxL) ms) := se_callB (cr_max hc) cr_maxL hg hm boot_max' ha (by decide) (by decide) he rfl
theorem b_min (hc : X.calm = true) (hm : X.mg "min" = none) (ha : SA X [e] ms) (hg : Gl X "min" := by rfl) (he : starEach [e] X.env = (false, eval e X.env) :: starEach [] X.env := by rfl) : SE X (.Call (.Name "min" p) [e] [] pos) (mCallB (bL minL) ms) := se_callB (cr_min hc) cr_minL hg hm boot_min' ha (by decide) (by decide) he rfl
theorem b_max2 (hc : X.calm = true) (hm : X.mg "max" = none) (ha : SA X [e, b] ms) (hg : Gl X "max" := by rfl) (he : starEach [e, b] X.env = (false, eval e X.env) :: starEach [b] X.env := by rfl) (hp : (backTo pos (starEach [b] X.env)).any (·.1) = false := by rfl) : SE X (.Call (.Name "max" p) [e, b] [] pos) (mCallB (b2 max2D) ms) := se_callB (call_max2 hc) cr_max2 hg hm boot_max' ha (by decide) (by decide) he hp
theorem b_min2 (hc : X.calm = true) (hm : X.mg "min" = none) (ha : SA X [e, b] ms) (hg : Gl X "min" := by rfl) (he : starEach [e, b] X.env = (false, eval e X.env) :: starEach [b] X.env := by rfl) (hp : (backTo pos (starEach [b] X.env)).any (·.1) = false := by rfl) : SE X (.Call (.Name "min" p) [e, b] [] pos) (mCallB (b2 min2D) ms) := se_callB (call_min2 hc) cr_min2 hg hm boot_min' ha (by decide) (by decide) he hp
theorem b_abs (hm : X.mg "abs" = none) (ha : SA X [e] ms) (hg : Gl X "abs" := by rfl) (he : starEach [e] X.env = (false, eval e X.env) :: starEach [] X.env := by rfl) : SE X (.Call (.Name "abs" p) [e] [] pos) (mCallB (b1 absD) ms) := se_callB call_abs cr_abs hg hm boot_abs' ha (by decide) (by decide) he rfl
theorem b_all (hc : X.calm = true) (hm : X.mg "all" = none) (ha : SA X [e] ms) (hg : Gl X "all" := by rfl) (he : starEach [e] X.env = (false, eval e X.env) :: starEach [] X.env := by rfl) : SE X (.Call (.Name "all" p) [e] [] pos) (mCallB (bL allL) ms) := se_callB (cr_all hc) cr_allL hg hm boot_all' ha (by decide) (by decide) he rfl
theorem b_any (hc : X.calm = true) (hm : X.mg "any" = none) (ha : SA X [e] ms) (hg : Gl X "any" := by rfl) (he : starEach [e] X.env = (false, eval e X.env) :: starEach [] X.env := by rfl) : SE X (.Call (.Name "any" p) [e] [] pos) (mCallB (bL anyL) ms) := se_callB (cr_any hc) cr_anyL hg hm boot_any' ha (by decide) (by decide) he rfl
theorem b_int (hm : X.mg "int" = none) (ha : SA X [e] ms) (hg : Gl X "int" := by rfl) (he : starEach [e] X.env = (false, eval e X.env) :: starEach [] X.env := by rfl) : SE X (.Call (.Name "int" p) [e] [] pos) (mCallB (b1 intD) ms) := se_callTy call_int1 cr_int hg hm boot_int' ha (by decide) (by decide) he rfl
theorem b_str (hm : X.mg "str" = none) (ha : SA X [e] ms) (hg : Gl X "str" := by rfl) (he : starEach [e] X.env = (false, eval e X.env) :: starEach [] X.env := by rfl) : SE X (.Call (.Name "str" p) [e] [] pos) (mCallB (b1 strD) ms) := se_callTy call_str_int cr_str hg hm boot_str' ha (by decide) (by decide) he rfl
theorem b_list (hm : X.mg "list" = none) (ha : SA X [e] ms) (hg : Gl X "list" := by rfl) (he : starEach [e] X.env = (false, eval e X.env) :: starEach [] X.env := by rfl) : SE X (.Call (.Name "list" p) [e] [] pos) (mCallB listD ms) := se_callTy call_list_of cr_list hg hm boot_list' ha (by decide) (by decide) he rfl
/-! sorted: ints, or texts (fewer than 64) -/
theorem CallR.or {f : Value} {r r' : List V → Hp → VK → Prop} (h : CallR X f r) (h' : CallR X f r') : CallR X f (fun xs H Q => r xs H Q ∨ r' xs H Q) := by
  intro pins s σ H xs us Q I rx q
  rcases q with q | q
  · exact h pins s σ H xs us Q I rx q
  · exact h' pins s σ H xs us Q I rx q
def leS (a b : Str) : Bool := !PySem.Spec.ltCps b.cps.toList a.cps.toList
def sortS (ns : List Str) : List Str := ns.mergeSort leS
theorem leS_iff {a b : Str} : leS a b = true ↔ a.cps.toList ≤ b.cps.toList := by
  unfold leS
  rw [PyProof.Rows.ltCps_eq, ← List.not_lt]
  simp
theorem leS_trans {a b c : Str} (h : leS a b = true) (h' : leS b c = true) : leS a c = true := by
  rw [leS_iff] at *
  exact List.le_trans h h'
theorem leS_total (a b : Str) : (leS a b || leS b a) = true := by
  rw [Bool.or_eq_true, leS_iff, leS_iff]
  exact List.le_total _ _
theorem leS_anti {a b : Str} (h : leS a b = true) (h' : leS b a = true) : a = b := by
  rw [leS_iff] at *
  have e := List.le_antisymm h h'
  cases a; cases b
  simp only [Str.mk.injEq]
  exact Array.toList_inj.mp e
theorem sortS_perm (ns : List Str) : (sortS ns).Perm ns := List.mergeSort_perm _ _
theorem sortS_pw (ns : List Str) : (sortS ns).Pairwise (fun a b => leS a b = true) := List.pairwise_mergeSort (le := leS) (fun _ _ _ h h' => leS_trans h h') leS_total ns
theorem risingS_pw : ∀ {l : List Str} {p : Str}, PyProof.Rows.risingS p l = true → (p :: l).Pairwise (fun a b => leS a b = true)
  | [], p, _ => by simp
  | x :: r, p, h => by
    unfold PyProof.Rows.risingS at h
    rw [Bool.and_eq_true] at h
    have ih := risingS_pw h.2
    refine List.pairwise_cons.mpr ⟨fun y hy => ?_, ih⟩
    have hx : leS p x = true := h.1
    rcases List.mem_cons.mp hy with e | e
    · subst e; exact hx
    · exact leS_trans hx ((List.pairwise_cons.mp ih).1 y e)
theorem sortedS_pw : ∀ {l : List Str}, PyProof.Rows.sortedS l = true → l.Pairwise (fun a b => leS a b = true)
  | [], _ => .nil
  | x :: r, h => risingS_pw h
theorem str_unique {a b : List Str} (h : a.Perm b) (h1 : a.Pairwise (fun a b => leS a b = true)) (h2 : b.Pairwise (fun a b => leS a b = true)) : a = b := List.Perm.eq_of_pairwise (le := fun a b : Str => leS a b = true) (fun _ _ _ _ x y => leS_anti x y) h1 h2 h
def sortAny (xs : List D) : Option Rv := match ints? xs with
  | some ns => some (.own (.ow ((sortUp ns).map .int)))
  | none => (strs? xs).bind fun ns => @ite _ (ns.length < 64) (Classical.propDecidable _) (some (.own (.ow ((sortS ns).map .str)))) none
theorem cr_sortAny {K : PySem.W.Frag} {mg : Str → Option Value} : CrD K mg (bL sortAny) (fun xs H Q => rSortedI K xs H Q ∨ rSortedS K xs H Q) := cr_bL fun xs z G H a ws Q e hs rp q => by
  unfold sortAny at e
  split at e
  · rename_i ns e1
    cases e
    have := ints?_eq e1
    subst this
    rw [rp.ints] at hs
    refine .inl ⟨a, ns, rfl, hs, fun ns' p hp hw hn => ?_⟩
    have : ns' = sortUp ns := up_unique (hp.trans (sortUp_perm ns).symm) hw (sortUp_pw ns)
    subst this
    exact q.l _ p _ rfl hn (.of_ints _)
  · obtain ⟨ns, e1, e⟩ := Option.bind_eq_some_iff.mp e
    split at e
    · rename_i hl
      cases e
      have := strs?_eq e1
      subst this
      rw [rp.strs] at hs
      refine .inr ⟨a, ns, rfl, hs, hl, fun ns' p hp hw hn => ?_⟩
      have : ns' = sortS ns := str_unique (hp.trans (sortS_perm ns).symm) (sortedS_pw hw) (sortS_pw ns)
      subst this
      exact q.l _ p _ rfl hn (.of_strs _)
    · cases e
theorem b_sorted (hm : X.mg "sorted" = none) (ha : SA X [e] ms) (hg : Gl X "sorted" := by rfl) (he : starEach [e] X.env = (false, eval e X.env) :: starEach [] X.env := by rfl) : SE X (.Call (.Name "sorted" p) [e] [] pos) (mCallB (bL sortAny) ms) :=
  se_callB (CallR.or cr_sortedI cr_sortedS) cr_sortAny hg hm boot_sorted' ha (by decide) (by decide) he rfl
theorem b_sortedR {j k1 k2} (hm : X.mg "sorted" = none) (ha : SA X [e] ms) (hg : Gl X "sorted" := by rfl)
    (he : backTo pos (starEach [e] X.env) = (false, eval e X.env) :: backTo pos (starEach [] X.env) := by rfl) (hpl : (backTo pos (starEach [e] X.env)).any (·.1) = false := by rfl) :
    SE X (.Call (.Name "sorted" p) [e] [⟨some "reverse", .Constant (.bool true) j k1, k2⟩] pos) (mSortR ms) := se_sortR hg hm boot_sorted' ha he hpl
theorem b_isTy (T : TyN) {ma : M} {a : Expr} (hm : X.mg "isinstance" = none) (hmT : X.mg (Str.ofString T.name) = none) (hvT : bootBuiltins (Str.ofString T.name) = some (.type T.name)) (ha : SE X a ma) (hg : Gl X "isinstance" := by rfl) (hgT : Gl X (Str.ofString T.name) := by rfl)
    (hnT : Str.ofString T.name ≠ "__name__" := by decide) (hdT : (Str.ofString T.name == ("__debug__" : Str)) = false := by decide)
    (he : starEach (a :: [.Name (Str.ofString T.name) p2]) X.env = (false, eval a X.env) :: starEach [.Name (Str.ofString T.name) p2] X.env := by rfl) (hpl : (backTo pos (starEach [.Name (Str.ofString T.name) p2] X.env)).any (·.1) = false := by rfl) :
    SE X (.Call (.Name "isinstance" p) [a, .Name (Str.ofString T.name) p2] [] pos) (mUn (isTy T) ma) := se_isTy T hg hm hgT hmT hvT ha hnT hdT he hpl
/-! list(range(..)) -/
def tRgM (K : PySem.W.Frag) (mg : Str → Option Value) (ma : M) : St → Hp → (Int → Int → Hp → Prop) → Prop := fun σ H Q => tM K mg ma σ H fun x H1 => ∃ n, x = .int n ∧ Q 0 n H1
def mListR1 (a : M) : M := fun ρ => match a ρ with
  | some (.val (.int n), ρ') => @ite _ (-(2 ^ 62) ≤ n ∧ n < 2 ^ 62 ∧ n.toNat ≤ 2 ^ 24) (Classical.propDecidable _) (some (.own (.ow (rgD 0 n.toNat)), ρ')) none
  | _ => none
def intOf : Rv → Option Int
  | .val (.int i) => some i
  | _ => none
theorem intOf_eq {r : Rv} {i : Int} (h : intOf r = some i) : r = .val (.int i) := by
  unfold intOf at h
  split at h
  · cases h; rfl
  · cases h
def mListR2 (a b : M) : M := fun ρ => (a ρ).bind fun x => (intOf x.1).bind fun i => (b x.2).bind fun y => (intOf y.1).bind fun j =>
  @ite _ (-(2 ^ 62) ≤ i ∧ i < 2 ^ 62 ∧ -(2 ^ 62) ≤ j ∧ j < 2 ^ 62 ∧ (j - i).toNat ≤ 2 ^ 24) (Classical.propDecidable _) (some (.own (.ow (rgD i (j - i).toNat)), y.2)) none
theorem reps_rg {K : PySem.W.Frag} {mg : Str → Option Value} {G : Hp} (lo : Int) (l : List Nat) : Reps K mg G (l.map fun (i : Nat) => D.int (lo + (i : Int))) (l.map fun (i : Nat) => V.int (lo + (i : Int))) := by
  induction l with
  | nil => exact .nil
  | cons a l ih => exact .cons (.int _) ih
theorem b_listR1 (hc : X.calm = true) (hm : X.mg "list" = none) (hmr : X.mg "range" = none) {a : Expr} {ma : M} {rp q : Pos} (ha : SE X a ma) (hg : Gl X "list" := by rfl) (hgr : Gl X "range" := by rfl)
    (na : starEach [a] X.env = (false, eval a X.env) :: starEach [] X.env := by rfl) (nb : starEach [.Call (.Name "range" rp) [a] [] q] X.env = (false, eval (.Call (.Name "range" rp) [a] [] q) X.env) :: starEach [] X.env := by rfl) :
    SE X (.Call (.Name "list" p) [.Call (.Name "range" rp) [a] [] q] [] pos) (mListR1 ma) := PE.imp (pe_listRg hc hg hm (prg_1 hgr hmr ha na) nb) fun σ H Q h => by
  obtain ⟨cs, G, r, ρ', e1, rs, hm, k⟩ := h
  unfold mListR1 at hm
  split at hm
  · rename_i n ρ1 ea
    split at hm
    · rename_i hb
      cases hm
      refine ⟨cs, G, _, _, e1, rs, ea, fun cs1 v B G1 H1 f1 f2 fb rs1 st1 => ?_⟩
      obtain ⟨rp, rfl⟩ := rs1.val
      refine ⟨n, rp.int_iff, ⟨by omega, by omega, hb.1, hb.2.1, by simpa using hb.2.2⟩, fun q hq => ?_⟩
      have e : rgV 0 n = (List.range n.toNat).map fun (i : Nat) => V.int (0 + (i : Int)) := by unfold rgV; simp
      rw [e]
      exact (Fin.of k f1 f2 rs1.tail st1.back1).l _ q _ rfl hq (reps_rg 0 _)
    · cases hm
  · cases hm
theorem b_listR2 (hc : X.calm = true) (hm : X.mg "list" = none) (hmr : X.mg "range" = none) {a b : Expr} {ma mb : M} {rp q : Pos} (ha : SE X a ma) (hb : SE X b mb) (hg : Gl X "list" := by rfl) (hgr : Gl X "range" := by rfl)
    (na : starEach [a, b] X.env = (false, eval a X.env) :: starEach [b] X.env := by rfl) (nb' : starEach [b] X.env = (false, eval b X.env) :: starEach [] X.env := by rfl) (hp : (backTo q (starEach [b] X.env)).any (·.1) = false := by rfl)
    (nb : starEach [.Call (.Name "range" rp) [a, b] [] q] X.env = (false, eval (.Call (.Name "range" rp) [a, b] [] q) X.env) :: starEach [] X.env := by rfl) :
    SE X (.Call (.Name "list" p) [.Call (.Name "range" rp) [a, b] [] q] [] pos) (mListR2 ma mb) := PE.imp (pe_listRg hc hg hm (prg_2 hgr hmr ha hb na nb' hp) nb) fun σ H Q h => by
  obtain ⟨cs, G, r, ρ', e1, rs, hm, k⟩ := h
  obtain ⟨⟨r1, ρ1⟩, h1, hm⟩ := Option.bind_eq_some_iff.mp hm
  obtain ⟨i, h3, hm⟩ := Option.bind_eq_some_iff.mp hm
  obtain ⟨⟨r2, ρ2⟩, h2, hm⟩ := Option.bind_eq_some_iff.mp hm
  obtain ⟨j, h4, hm⟩ := Option.bind_eq_some_iff.mp hm
  have := intOf_eq h3
  subst this
  have := intOf_eq h4
  subst this
  dsimp only at hm
  split at hm
  · rename_i hbd
    cases hm
    refine two e1 rs h1 h2 fun cs2 v w B1 B2 G2 H2 f1 f2 b1 b2 rs2 st2 => ?_
    have rv := rs2.val.1
    have rw' := (Res.tail rs2).val.1
    refine ⟨i, j, rv.int_iff, rw'.int_iff, ⟨hbd.1, hbd.2.1, hbd.2.2.1, hbd.2.2.2.1, hbd.2.2.2.2⟩, fun q hq => ?_⟩
    exact (Fin.of k f1 f2 rs2.tail.tail st2.back2).l _ q _ rfl hq (reps_rg i _)
  · cases hm
end
end
end FW

/-! running mirrors by simp; loops -/
namespace FW
open PySem L2

@[simp ↓] theorem bind_m {α β : Type} (a : Option α) (f : α → Option β) : a.bind f = match a with
  | some x => f x
  | none => none := by cases a <;> rfl
@[simp ↓] theorem map_m {α β : Type} (a : Option α) (f : α → β) : a.map f = match a with
  | some x => some (f x)
  | none => none := by cases a <;> rfl
/-- an if whose test the kernel never computes -/
noncomputable def ifc {α : Type} (p : Prop) (a b : α) : α := @ite α p (Classical.propDecidable p) a b
theorem ifc_eq {α : Type} (p : Prop) [Decidable p] (a b : α) : ifc p a b = if p then a else b := by unfold ifc; congr
@[simp ↓] theorem ifc_pos {α : Type} {p : Prop} {a b : α} (h : p) : ifc p a b = a := by unfold ifc; exact @if_pos p (Classical.propDecidable p) h α a b
@[simp ↓] theorem ifc_neg {α : Type} {p : Prop} {a b : α} (h : ¬ p) : ifc p a b = b := by unfold ifc; exact @if_neg p (Classical.propDecidable p) h α a b
section
variable {ρ ρ' : List Sl} {a b c o : M} {ms : MA} {sa sb : MS} {t ta tb : MT} {f : D → D → Option D}
@[simp] theorem r_var (i : Nat) : mVar i ρ = match ρ[i]? with
  | some (.fz d) => some (.val d, ρ)
  | some .no => none
  | none => none
  | some _ => some (.bor i, ρ) := rfl
@[simp] theorem r_C (d : D) : mC d ρ = some (.val d, ρ) := rfl
@[simp] theorem r_bin : mBin f a b ρ = (a ρ).bind fun x => (b x.2).bind fun y => (dat y.2 x.1).bind fun d => (dat y.2 y.1).bind fun e => (f d e).map fun z => (.val z, y.2) := rfl
@[simp] theorem r_bin2 (g : List Sl → Rv → Rv → Option Rv) : mBin2 g a b ρ = (a ρ).bind fun x => (b x.2).bind fun y => (g y.2 x.1 y.1).map fun z => (z, y.2) := rfl
@[simp] theorem r_un (g : D → Option D) : mUn g a ρ = (a ρ).bind fun x => (dat x.2 x.1).bind fun d => (g d).map fun z => (.val z, x.2) := rfl
@[simp] theorem r_B : mB a ρ = match a ρ with
  | some (.val (.bl b), ρ') => some (b, ρ')
  | _ => none := rfl
@[simp] theorem r_tand : tAndM ta tb ρ = (ta ρ).bind fun x => if x.1 = true then tb x.2 else some (false, x.2) := rfl
@[simp] theorem r_tor : tOrM ta tb ρ = (ta ρ).bind fun x => if x.1 = true then some (true, x.2) else tb x.2 := rfl
@[simp] theorem r_tnot : tNotM ta ρ = (ta ρ).map fun x => (!x.1, x.2) := rfl
@[simp] theorem r_and : mAnd a b ρ = match a ρ with
  | some (.val (.bl c), ρ1) => if c = true then b ρ1 else some (.val (.bl false), ρ1)
  | _ => none := rfl
@[simp] theorem r_or : mOr a b ρ = match a ρ with
  | some (.val (.bl c), ρ1) => if c = true then some (.val (.bl true), ρ1) else b ρ1
  | _ => none := rfl
@[simp] theorem r_not : mNot a ρ = match a ρ with
  | some (.val (.bl c), ρ1) => some (.val (.bl (!c)), ρ1)
  | _ => none := rfl
@[simp] theorem r_if : mIf t a b ρ = (t ρ).bind fun x => if x.1 = true then a x.2 else b x.2 := rfl
@[simp] theorem r_chain (g : D → D → Option D) : mChain f g a b c ρ = (a ρ).bind fun x => (b x.2).bind fun y => (dat y.2 x.1).bind fun d => (dat y.2 y.1).bind fun e => match f d e with
  | some (.bl true) => (c y.2).bind fun z => (dat z.2 y.1).bind fun e' => (dat z.2 z.1).bind fun w => (g e' w).map fun u => (.val u, z.2)
  | some (.bl false) => some (.val (.bl false), y.2)
  | _ => none := rfl
@[simp] theorem r_dat (r : Rv) : dat ρ r = (rsl ρ r).bind Sl.toD := rfl
@[simp] theorem r_lsv (r : Rv) : lsv ρ r = (rsl ρ r).bind Sl.ls := rfl
@[simp] theorem r_lrv (r : Rv) : lrv ρ r = (rsl ρ r).bind Sl.lr := rfl
@[simp] theorem r_tpv (r : Rv) : tpv ρ r = (rsl ρ r).bind Sl.tp := rfl
@[simp] theorem r_rsl_bor (i : Nat) : rsl ρ (.bor i) = ρ[i]? := rfl
@[simp] theorem r_rsl_val (d : D) : rsl ρ (.val d) = some (.fz d) := rfl
@[simp] theorem r_rsl_own (s : Sl) : rsl ρ (.own s) = some s := rfl
@[simp] theorem toD_fz (d : D) : Sl.toD (.fz d) = some d := by unfold Sl.toD; rfl
@[simp] theorem toD_ow (xs : List D) : Sl.toD (.ow xs) = some (.lst xs) := by unfold Sl.toD; rfl
@[simp] theorem toD_no : Sl.toD .no = none := by unfold Sl.toD; rfl
@[simp] theorem ls_lst (xs : List D) : Sl.ls (.fz (.lst xs)) = some xs := rfl
@[simp] theorem ls_scr (xs : List D) : Sl.ls (.fz (.scr xs)) = some xs := rfl
@[simp] theorem ls_ow (xs : List D) : Sl.ls (.ow xs) = some xs := rfl
@[simp] theorem ls_int (i : Int) : Sl.ls (.fz (.int i)) = none := rfl
@[simp] theorem ls_str (i : Str) : Sl.ls (.fz (.str i)) = none := rfl
@[simp] theorem ls_bl (i : Bool) : Sl.ls (.fz (.bl i)) = none := rfl
@[simp] theorem ls_non : Sl.ls (.fz .non) = none := rfl
@[simp] theorem ls_tup (xs : List D) : Sl.ls (.fz (.tup xs)) = none := rfl
@[simp] theorem ls_obj (c : Str) (fs : List (Str × D)) : Sl.ls (.fz (.obj c fs)) = none := rfl
@[simp] theorem lr_lst (xs : List D) : Sl.lr (.fz (.lst xs)) = some xs := rfl
@[simp] theorem lr_ow (xs : List D) : Sl.lr (.ow xs) = some xs := rfl
@[simp] theorem tp_tup (xs : List D) : Sl.tp (.fz (.tup xs)) = some xs := rfl
@[simp] theorem tp_int (i : Int) : Sl.tp (.fz (.int i)) = none := rfl
@[simp] theorem tp_str (i : Str) : Sl.tp (.fz (.str i)) = none := rfl
@[simp] theorem tp_lst (xs : List D) : Sl.tp (.fz (.lst xs)) = none := rfl
@[simp] theorem tp_ow (xs : List D) : Sl.tp (.ow xs) = none := rfl
@[simp] theorem r_frz_val (d : D) : frz1 ρ (.val d) = some (d, ρ) := rfl
@[simp] theorem r_frz_own (s : Sl) : frz1 ρ (.own s) = s.toD.map fun d => (d, ρ) := rfl
@[simp] theorem r_frz_bor (i : Nat) : frz1 ρ (.bor i) = ((ρ[i]?).bind Sl.toD).map fun d => (d, ρ.set i (.fz d)) := rfl
@[simp] theorem r_frzA_nil : frzA ρ [] = some ([], ρ) := rfl
@[simp] theorem r_frzA_cons (r : Rv) (rs : List Rv) : frzA ρ (r :: rs) = (frz1 ρ r).bind fun x => (frzA x.2 rs).map fun y => (x.1 :: y.1, y.2) := rfl
@[simp] theorem r_aNil : aNil ρ = some ([], ρ) := rfl
@[simp] theorem r_aCons : aCons a ms ρ = (a ρ).bind fun x => (ms x.2).map fun y => (x.1 :: y.1, y.2) := rfl
@[simp] theorem r_lst : mLst ms ρ = (ms ρ).bind fun y => (frzA y.2 y.1).bind fun z => ifc (z.1.length ≤ sizeLine) (some (.own (.ow z.1), z.2)) (none) := rfl
@[simp] theorem r_tup : mTup ms ρ = (ms ρ).bind fun y => (frzA y.2 y.1).bind fun z => ifc (z.1.length ≤ sizeLine) (some (.val (.tup z.1), z.2)) (none) := rfl
@[simp] theorem r_callB (g : List Sl → List Rv → Option Rv) : mCallB g ms ρ = (ms ρ).bind fun y => (g y.2 y.1).map fun r => (r, y.2) := rfl
@[simp] theorem r_sortR : mSortR ms ρ = (ms ρ).bind fun y => (bL sortDL y.2 y.1).map fun r => (r, y.2) := rfl
@[simp] theorem r_b1 (g : D → Option D) (r : Rv) : b1 g ρ [r] = (dat ρ r).bind fun d => (g d).map .val := rfl
@[simp] theorem r_b2 (g : D → D → Option D) (r r' : Rv) : b2 g ρ [r, r'] = (dat ρ r).bind fun d => (dat ρ r').bind fun e => (g d e).map .val := rfl
@[simp] theorem r_bL (g : List D → Option Rv) (r : Rv) : bL g ρ [r] = (lsv ρ r).bind g := rfl
@[simp] theorem r_mP : mP a ρ = match a ρ with
  | some (.val (.int i), ρ') => some (some i, ρ')
  | _ => none := rfl
@[simp] theorem r_mNoP : mNoP ρ = some (none, ρ) := rfl
@[simp] theorem r_sl (lo hi : MP) : mSl a lo hi ρ = (a ρ).bind fun x => (lo x.2).bind fun y => (hi y.2).bind fun z => (slV z.2 x.1 y.1 z.1).map fun r => (r, z.2) := rfl
@[simp] theorem r_seq : sSeq sa sb ρ = match sa ρ with
  | some (.nx, ρ1) => sb ρ1
  | r => r := rfl
@[simp] theorem r_snil : sNil ρ = some (.nx, ρ) := rfl
@[simp] theorem r_brk : sBrk ρ = some (.bk, ρ) := rfl
@[simp] theorem r_cont : sCont ρ = some (.ct, ρ) := rfl
@[simp] theorem r_sno : sNo ρ = none := rfl
@[simp] theorem r_expr : sExpr a ρ = (a ρ).map fun x => (.nx, x.2) := rfl
@[simp] theorem r_ret (pl : List Nat) : sRet pl a ρ = (a ρ).bind fun x => match x.1 with
  | .bor i => if pl.contains i = true then (frz1 x.2 (.bor i)).map fun y => (.rt (.val y.1), y.2) else match x.2[i]? with
    | some .no => none
    | some s => some (.rt (.own s), x.2.set i .no)
    | none => none
  | r => some (.rt r, x.2) := rfl
@[simp] theorem r_sif : sIf t sa sb ρ = (t ρ).bind fun x => if x.1 = true then sa x.2 else sb x.2 := rfl
@[simp] theorem r_setR_val (i : Nat) (d : D) : setR i ρ (.val d) = some (ρ.set i (.fz d)) := rfl
@[simp] theorem r_setR_own (i : Nat) (s : Sl) : setR i ρ (.own s) = some (ρ.set i s) := rfl
@[simp] theorem r_setR_bor (i j : Nat) : setR i ρ (.bor j) = (frz1 ρ (.bor j)).map fun y => y.2.set i (.fz y.1) := rfl
@[simp] theorem r_set (i : Nat) : sSet i a ρ = (a ρ).bind fun x => (setR i x.2 x.1).map fun ρ2 => (.nx, ρ2) := rfl
@[simp] theorem r_unp (is : List Nat) : sUnp is a ρ = (a ρ).bind fun x => (tpv x.2 x.1).bind fun ds => (unp x.2 is ds).map fun ρ2 => (.nx, ρ2) := rfl
@[simp] theorem r_unp_nil : unp ρ [] [] = some ρ := rfl
@[simp] theorem r_unp_cons (i : Nat) (is : List Nat) (d : D) (ds : List D) : unp ρ (i :: is) (d :: ds) = unp (ρ.set i (.fz d)) is ds := rfl
@[simp] theorem r_setIx (i : Nat) : sSetIx i b a ρ = (a ρ).bind fun x => match x.2[i]? with
  | some (.ow _) => (b x.2).bind fun y => match y.1 with
    | .val (.int k) => (frz1 y.2 x.1).bind fun z => match z.2[i]? with
      | some (.ow xs) => (ixN xs.length k).map fun j => (.nx, z.2.set i (.ow (xs.set j z.1)))
      | _ => none
    | _ => none
  | _ => none := rfl
@[simp] theorem r_aug (i : Nat) : sAug f i a ρ = match ρ[i]? with
  | some (.fz u) => (a ρ).bind fun x => (dat x.2 x.1).bind fun w => (f u w).map fun z => (.nx, x.2.set i (.fz z))
  | _ => none := rfl
@[simp] theorem r_augIx (g : Int → Int → Int) (i : Nat) : sAugIx g i b a ρ = match ρ[i]? with
  | some (.ow _) => (b ρ).bind fun y => match y.1, y.2[i]? with
    | .val (.int k), some (.ow ys) => match atI ys k with
      | some (.int u) => (a y.2).bind fun z => match z.1, z.2[i]? with
        | .val (.int w), some (.ow xs) => (ixN xs.length k).map fun j => (.nx, z.2.set i (.ow (xs.set j (.int (g u w)))))
        | _, _ => none
      | _ => none
    | _, _ => none
  | _ => none := rfl
@[simp] theorem r_par (i j : Nat) : sPar i j ms ρ = (ms ρ).bind fun y => match y.1 with
  | [r1, r2] => (setR i y.2 r1).bind fun ρ2 => match r2 with
    | .bor _ => none
    | r2 => (setR j ρ2 r2).map fun ρ3 => (.nx, ρ3)
  | _ => none := rfl
@[simp] theorem r_mut (g : List D → List D → Option (D × List D)) (i : Nat) : mMut g i ms ρ = match ρ[i]? with
  | some (.ow _) => (ms ρ).bind fun y => (frzA y.2 y.1).bind fun z => match z.2[i]? with
    | some (.ow xs) => (g xs z.1).map fun w => (.val w.1, z.2.set i (.ow w.2))
    | _ => none
  | _ => none := rfl
@[simp] theorem r_read (g : List D → List D → Option D) : mRead g o ms ρ = (o ρ).bind fun x => (lsv x.2 x.1).bind fun _ => (ms x.2).bind fun y => (lsv y.2 x.1).bind fun xs => (y.1.mapM (dat y.2)).bind fun ds => (g xs ds).map fun z => (.val z, y.2) := rfl
@[simp] theorem r_call (m : MF) : mCall m ms ρ = (ms ρ).bind fun y => (takeA y.2 y.1).bind fun z => (m z.1).bind fun w => match w.1 with
  | .bor _ => none
  | r => some (r, putA y.1 w.2 z.2) := rfl
@[simp] theorem r_take_nil : takeA ρ [] = some ([], ρ) := by unfold takeA; rfl
@[simp] theorem r_take_val (d : D) (rs : List Rv) : takeA ρ (.val d :: rs) = (takeA ρ rs).map fun y => (.fz d :: y.1, y.2) := by rw [takeA]
@[simp] theorem r_take_own (s : Sl) (rs : List Rv) : takeA ρ (.own s :: rs) = (takeA ρ rs).map fun y => (s :: y.1, y.2) := by rw [takeA]
@[simp] theorem r_take_bor (i : Nat) (rs : List Rv) : takeA ρ (.bor i :: rs) = match ρ[i]? with
    | some .no => none
    | none => none
    | some s => (takeA (ρ.set i .no) rs).map fun y => (s :: y.1, y.2) := by
  rw [takeA]
  all_goals rfl
@[simp] theorem r_put_bor (i : Nat) (rs : List Rv) (o : Sl) (os : List Sl) : putA (.bor i :: rs) (o :: os) ρ = putA rs os (ρ.set i o) := rfl
@[simp] theorem r_put_val (d : D) (rs : List Rv) (o : Sl) (os : List Sl) : putA (.val d :: rs) (o :: os) ρ = putA rs os ρ := rfl
@[simp] theorem r_put_own (s : Sl) (rs : List Rv) (o : Sl) (os : List Sl) : putA (.own s :: rs) (o :: os) ρ = putA rs os ρ := rfl
@[simp] theorem r_put_nil (os : List Sl) : putA [] os ρ = ρ := by cases os <;> rfl
@[simp] theorem r_listR1 : mListR1 a ρ = match a ρ with
  | some (.val (.int n), ρ') => ifc (-(2 ^ 62) ≤ n ∧ n < 2 ^ 62 ∧ n.toNat ≤ 2 ^ 24) (some (.own (.ow (rgD 0 n.toNat)), ρ')) (none)
  | _ => none := rfl
@[simp] theorem r_listR2 : mListR2 a b ρ = (a ρ).bind fun x => (intOf x.1).bind fun i => (b x.2).bind fun y => (intOf y.1).bind fun j =>
  ifc (-(2 ^ 62) ≤ i ∧ i < 2 ^ 62 ∧ -(2 ^ 62) ≤ j ∧ j < 2 ^ 62 ∧ (j - i).toNat ≤ 2 ^ 24) (some (.own (.ow (rgD i (j - i).toNat)), y.2)) (none) := rfl
@[simp] theorem r_intOf (i : Int) : intOf (.val (.int i)) = some i := rfl
@[simp] theorem r_iL (js : List Nat) : iL js a ρ = (a ρ).bind fun x => (srcOf js x.2 x.1).map fun y => (⟨y.1, y.2⟩, x.2) := rfl
@[simp] theorem r_src_bor (js : List Nat) (j : Nat) : srcOf js ρ (.bor j) = if js.contains j = true then (lsv ρ (.bor j)).map fun xs => (xs, [(j, xs)]) else none := rfl
@[simp] theorem r_src_val (js : List Nat) (d : D) : srcOf js ρ (.val d) = (lsv ρ (.val d)).map fun xs => (xs, []) := rfl
@[simp] theorem r_src_own (js : List Nat) (s : Sl) : srcOf js ρ (.own s) = (lsv ρ (.own s)).map fun xs => (xs, []) := rfl
@[simp] theorem r_iR1 : iR1 ms ρ = (ms ρ).bind fun y => match y.1 with
  | [.val (.int j)] => ifc (-(2 ^ 62) ≤ j ∧ j < 2 ^ 62) (some (⟨rgD 0 j.toNat, []⟩, y.2)) (none)
  | _ => none := rfl
@[simp] theorem r_iR2 : iR2 ms ρ = (ms ρ).bind fun y => match y.1 with
  | [.val (.int i), .val (.int j)] => ifc (-(2 ^ 62) ≤ i ∧ i < 2 ^ 62 ∧ -(2 ^ 62) ≤ j ∧ j < 2 ^ 62) (some (⟨rgD i (j - i).toNat, []⟩, y.2)) (none)
  | _ => none := rfl
@[simp] theorem r_iE (js : List Nat) : iE js ms ρ = (ms ρ).bind fun y => match y.1 with
  | [r] => (srcOf js y.2 r).map fun z => (⟨enumD z.1, z.2⟩, y.2)
  | _ => none := rfl
@[simp] theorem r_iZ (js : List Nat) : iZ js ms ρ = (ms ρ).bind fun y => match y.1 with
  | [r, r'] => (srcOf js y.2 r).bind fun z => (srcOf js y.2 r').map fun z' => (⟨zipD z.1 z'.1, z.2 ++ z'.2⟩, y.2)
  | _ => none := rfl
@[simp] theorem r_iS : iS a ρ = match a ρ with
  | some (.val (.str z), ρ') => some (⟨signsD z, []⟩, ρ')
  | _ => none := rfl
@[simp] theorem r_iT : iT a ρ = match a ρ with
  | some (.val (.tup xs), ρ') => some (⟨xs, []⟩, ρ')
  | _ => none := rfl
@[simp] theorem r_iAny (js : List Nat) : iAny js a ρ = match iL js a ρ with
  | some x => some x
  | none => match iT a ρ with
    | some x => some x
    | none => iS a ρ := rfl
@[simp] theorem r_true : tTrue ρ = some (true, ρ) := rfl
@[simp] theorem r_gN (i : Nat) (d : D) : gN i d ρ = some (ρ.set i (.fz d)) := rfl
@[simp] theorem r_gT (is : List Nat) (ds : List D) : gT is (.tup ds) ρ = unp ρ is ds := rfl
@[simp] theorem r_wipe_nil : wipeS ρ [] = ρ := rfl
@[simp] theorem r_wipe_cons (i : Nat) (is : List Nat) : wipeS ρ (i :: is) = (wipeS ρ is).set i .no := rfl
@[simp] theorem r_def (N : Nat) (pl : List Nat) (body : MS) (as : List Sl) : mDef N pl body as = (body (as ++ List.replicate (N - as.length) .no)).bind fun x => (retOf x.1).bind fun r => (outsOf pl 0 as x.2).map fun o => (r, o) := rfl
@[simp] theorem r_retOf_val (d : D) : retOf (.rt (.val d)) = some (.val d) := rfl
@[simp] theorem r_retOf_own (s : Sl) : retOf (.rt (.own s)) = some (.own s) := rfl
@[simp] theorem r_retOf_nx : retOf .nx = some (.val .non) := rfl
@[simp] theorem r_outs_nil (pl : List Nat) (i : Nat) (ss : List Sl) : outsOf pl i [] ss = some [] := by unfold outsOf; rfl
@[simp] theorem r_outs_cons (pl : List Nat) (i : Nat) (s : Sl) (as ss : List Sl) (a : Sl) : outsOf pl i (a :: as) (s :: ss) = (if pl.contains i = true then some s else froz a).bind fun s' => (outsOf pl (i + 1) as ss).map (s' :: ·) := by rw [outsOf]
@[simp] theorem r_froz (d : D) : froz (.fz d) = some (.fz d) := rfl
@[simp] theorem chk_nil : chk ρ [] := fun _ h => nomatch h
@[simp] theorem chk_cons (i : Nat) (xs : List D) (bs : List (Nat × List D)) : chk ρ ((i, xs) :: bs) ↔ (ρ[i]?).bind Sl.ls = some xs ∧ chk ρ bs := by
  unfold chk
  simp
@[simp] theorem r_modD (i j : Int) : modD (.int i) (.int j) = ifc (0 < j) (some (.int (i % j))) none := by simp only [ifc_eq]; rfl
@[simp] theorem r_divD (i j : Int) : divD (.int i) (.int j) = ifc (0 < j ∧ j.natAbs.log2 < 9000) (some (.int (i / j))) none := rfl
@[simp] theorem r_powD (i j : Int) : powD (.int i) (.int j) = ifc (0 ≤ j ∧ j ≤ 1000000 ∧ i.natAbs < 2 ^ 64) (some (.int (i ^ j.toNat))) none := rfl
@[simp] theorem r_subD (i j : Int) : subD (.int i) (.int j) = some (.int (i - j)) := rfl
@[simp] theorem r_addI (i j : Int) : addI (.int i) (.int j) = some (.int (i + j)) := rfl
@[simp] theorem r_mulI (i j : Int) : mulI (.int i) (.int j) = ifc (IntMulOk i j) (some (.int (i * j))) none := rfl
@[simp] theorem r_cmpD (p : Int → Int → Bool) (i j : Int) : cmpD p (.int i) (.int j) = some (.bl (p i j)) := rfl
@[simp] theorem r_negD (i : Int) : negD (.int i) = some (.int (-i)) := rfl
@[simp] theorem r_intD (i : Int) : intD (.int i) = some (.int i) := rfl
@[simp] theorem r_intB (i : Bool) : intD (.bl i) = some (.int (if i then 1 else 0)) := rfl
@[simp] theorem r_strD (i : Int) : strD (.int i) = ifc (i.natAbs.log2 < 1920) (some (.str (toString i))) (none) := rfl
@[simp] theorem r_absD (i : Int) : absD (.int i) = some (.int (if i < 0 then -i else i)) := rfl
@[simp] theorem r_max2D (i j : Int) : max2D (.int i) (.int j) = some (.int (if j > i then j else i)) := rfl
@[simp] theorem r_min2D (i j : Int) : min2D (.int i) (.int j) = some (.int (if j < i then j else i)) := rfl
@[simp] theorem r_isND (b : Bool) (x : D) : isND b x .non = some (.bl (isN x != b)) := by cases x <;> rfl
@[simp] theorem r_addV (x y : Rv) : addV ρ x y = match dat ρ x, dat ρ y with
  | some (.int i), some (.int j) => some (.val (.int (i + j)))
  | some (.str i), some (.str j) => ifc (i.length + j.length ≤ sizeLine) (some (.val (.str (i ++ j)))) (none)
  | _, _ => (lrv ρ x).bind fun xs => (lrv ρ y).bind fun ys => ifc (xs.length + ys.length ≤ sizeLine) (some (.own (.ow (xs ++ ys)))) (none) := rfl
@[simp] theorem r_mulV (x y : Rv) : mulV ρ x y = match dat ρ x, dat ρ y with
  | some (.int i), some (.int j) => ifc (IntMulOk i j) (some (.val (.int (i * j)))) none
  | some (.lst _), some (.int k) => match x with
    | .own (.ow xs) => ifc (-(2 ^ 63) ≤ k ∧ k < 2 ^ 63 ∧ xs.length * k.toNat ≤ sizeLine) (some (.own (.ow (List.replicate k.toNat xs).flatten))) (none)
    | _ => none
  | _, _ => none := rfl
@[simp] theorem r_ixV (x y : Rv) : ixV ρ x y = match dat ρ y with
  | some (.int i) => match lsv ρ x with
    | some xs => (atI xs i).map .val
    | none => match tpv ρ x with
      | some xs => (atI xs i).map .val
      | none => match dat ρ x with
        | some (.str z) => ifc (z.length ≤ sizeLine) ((atI z.cps.toList i).map fun c => .val (.str ⟨#[c]⟩)) (none)
        | _ => none
  | _ => none := rfl
@[simp] theorem r_slV (x : Rv) (lo hi : Option Int) : slV ρ x lo hi = match lsv ρ x with
  | some xs => some (.own (.ow (cutA xs lo hi)))
  | none => match tpv ρ x with
    | some xs => if ¬ (HT.sIx xs.length 0 lo = 0 ∧ HT.sIx xs.length xs.length hi = xs.length) then some (.val (.tup (cutA xs lo hi))) else none
    | none => match dat ρ x with
      | some (.str z) => ifc (z.length ≤ sizeLine) (some (.val (.str (cutS z lo hi)))) (none)
      | _ => none := rfl
@[simp] theorem r_lenD (r : Rv) : lenD ρ [r] = match lsv ρ r with
    | some xs => some (.val (.int xs.length))
    | none => match tpv ρ r with
      | some xs => some (.val (.int xs.length))
      | none => match dat ρ r with
        | some (.str z) => ifc (z.length ≤ sizeLine) (some (.val (.int z.length))) (none)
        | _ => none := rfl
@[simp] theorem r_listD (r : Rv) : listD ρ [r] = match lsv ρ r with
    | some xs => some (.own (.ow xs))
    | none => (tpv ρ r).map fun xs => .own (.ow xs) := rfl
@[simp] theorem r_for (it : MI) (rst : List Nat) (g : D → List Sl → Option (List Sl)) : sFor it rst g sa ρ = (it ρ).bind fun x => forD x.1.bs rst g sa x.1.items x.2 := rfl
@[simp] theorem r_comp (it : MI) (vs : List Nat) (g : D → List Sl → Option (List Sl)) : mComp it vs g t a ρ = (it ρ).bind fun x => (compD x.1.bs vs g t a x.1.items [] (wipeS x.2 vs)).map fun y => (.own (.ow y.1), y.2) := rfl
theorem r_div1 (i : Int) {j : Int} (h0 : 0 < j) (h : j < 2 ^ 200) : divD (.int i) (.int j) = some (.int (i / j)) := by
  have l : j.natAbs < 2 ^ 200 := by omega
  have g : j.natAbs.log2 < 200 := PySem.Flt.log2_lt_of (by decide) l
  rw [r_divD, ifc_eq, if_pos ⟨h0, by omega⟩]
theorem r_apF (xs : List D) (d : D) : apF xs [d] = ifc (xs.length < sizeLine) (some (.non, xs ++ [d])) none := rfl
@[simp] theorem r_ap {xs : List D} {d : D} (h : xs.length < 1000000) : apF xs [d] = some (.non, xs ++ [d]) := by rw [r_apF, ifc_eq, if_pos (by rw [sizeLine_eq]; omega)]
theorem r_insF (xs : List D) (i : Int) (d : D) : insF xs [.int i, d] = ifc (xs.length < sizeLine ∧ 0 ≤ i ∧ i < 2 ^ 63) (some (.non, xs.take i.toNat ++ [d] ++ xs.drop i.toNat)) none := rfl
@[simp] theorem r_revF (xs : List D) : revF xs [] = some (.non, xs.reverse) := rfl
@[simp] theorem r_popF (xs : List D) : popF xs [] = (xs[xs.length - 1]?).map fun d => (d, xs.dropLast) := rfl
theorem r_popAtF (xs : List D) (i : Int) : popAtF xs [.int i] = ifc (0 ≤ i ∧ i < 2 ^ 63 ∧ i < xs.length) ((xs[i.toNat]?).map fun d => (d, xs.eraseIdx i.toNat)) none := rfl
@[simp] theorem r_remF (xs : List D) (i : Int) : remF xs [.int i] = (ints? xs).bind fun ns => (ns.findIdx? (· == i)).map fun j => (.non, (ns.eraseIdx j).map .int) := rfl
@[simp] theorem r_extF (xs ys : List D) : extF xs [.lst ys] = ifc (xs.length + ys.length ≤ sizeLine) (some (.non, xs ++ ys)) none := rfl
@[simp] theorem sizeL (n : Nat) (h : n ≤ 1000000) : n ≤ sizeLine := by rw [sizeLine_eq]; omega
end
/-! ### loops -/
/-- a for: the state P by the turn; R where it leaves -/
theorem for_run {bs : List (Nat × List D)} {rst : List Nat} {g : D → List Sl → Option (List Sl)} {b : MS} {items : List D} {ρ : List Sl} (P : Nat → List Sl → Prop) (R : Ctl → List Sl → Prop) (h0 : P 0 ρ) (hc : ∀ i ρ, i ≤ items.length → P i ρ → chk ρ bs)
    (hs : ∀ i d ρ, items[i]? = some d → P i ρ → ∃ ρ1 k ρ2, g d ρ = some ρ1 ∧ b ρ1 = some (k, ρ2) ∧ match k with
      | .nx => P (i + 1) (wipeS ρ2 rst)
      | .ct => P (i + 1) (wipeS ρ2 rst)
      | .bk => R .nx ρ2
      | .rt r => R (.rt r) ρ2
      | .ex c => R (.ex c) ρ2) :
    ∃ k ρ', forD bs rst g b items ρ = some (k, ρ') ∧ ((k = .nx ∧ P items.length ρ') ∨ R k ρ') := by
  have key : ∀ (n i : Nat) (ρ : List Sl), i + n = items.length → P i ρ → ∃ k ρ', forD bs rst g b (items.drop i) ρ = some (k, ρ') ∧ ((k = .nx ∧ P items.length ρ') ∨ R k ρ') := by
    intro n
    induction n with
    | zero =>
      intro i ρ hi hp
      have : items.drop i = [] := List.drop_eq_nil_iff.mpr (by omega)
      rw [this]
      unfold forD
      rw [if_pos (hc i ρ (by omega) hp)]
      have : i = items.length := by omega
      subst this
      exact ⟨.nx, ρ, rfl, .inl ⟨rfl, hp⟩⟩
    | succ n ih =>
      intro i ρ hi hp
      have hl : i < items.length := by omega
      rw [List.drop_eq_getElem_cons hl]
      unfold forD
      rw [if_pos (hc i ρ (by omega) hp)]
      obtain ⟨ρ1, k, ρ2, h1, h2, h3⟩ := hs i items[i] ρ (List.getElem?_eq_getElem hl) hp
      rw [h1]
      show ∃ k ρ', (b ρ1).bind _ = _ ∧ _
      rw [h2]
      cases k with
      | nx => exact ih (i + 1) _ (by omega) h3
      | ct => exact ih (i + 1) _ (by omega) h3
      | bk => exact ⟨.nx, ρ2, rfl, .inr h3⟩
      | rt r => exact ⟨.rt r, ρ2, rfl, .inr h3⟩
      | ex c => exact ⟨.ex c, ρ2, rfl, .inr h3⟩
  have := key items.length 0 ρ (by omega) h0
  simpa using this
/-- .. that leaves by its end alone -/
theorem for_all {bs : List (Nat × List D)} {rst : List Nat} {g : D → List Sl → Option (List Sl)} {b : MS} {items : List D} {ρ : List Sl} (P : Nat → List Sl → Prop) (h0 : P 0 ρ) (hc : ∀ i ρ, i ≤ items.length → P i ρ → chk ρ bs)
    (hs : ∀ i d ρ, items[i]? = some d → P i ρ → ∃ ρ1 k ρ2, g d ρ = some ρ1 ∧ b ρ1 = some (k, ρ2) ∧ (k = .nx ∨ k = .ct) ∧ P (i + 1) (wipeS ρ2 rst)) :
    ∃ ρ', forD bs rst g b items ρ = some (.nx, ρ') ∧ P items.length ρ' := by
  obtain ⟨k, ρ', h1, h2⟩ := for_run P (fun _ _ => False) h0 hc fun i d ρ hi hp => by
    obtain ⟨ρ1, k, ρ2, h1, h2, h3, h4⟩ := hs i d ρ hi hp
    refine ⟨ρ1, k, ρ2, h1, h2, ?_⟩
    rcases h3 with h3 | h3 <;> subst h3 <;> exact h4
  rcases h2 with ⟨h2, h3⟩ | h2
  · subst h2; exact ⟨ρ', h1, h3⟩
  · exact h2.elim
/-- .. whose states are known: ρ i behind i turns -/
theorem for_eq {bs : List (Nat × List D)} {rst : List Nat} {g : D → List Sl → Option (List Sl)} {b : MS} {items : List D} (ρ : Nat → List Sl) (hc : ∀ i, i ≤ items.length → chk (ρ i) bs)
    (hs : ∀ i d, items[i]? = some d → ∃ ρ1 ρ2, g d (ρ i) = some ρ1 ∧ b ρ1 = some (.nx, ρ2) ∧ wipeS ρ2 rst = ρ (i + 1)) : forD bs rst g b items (ρ 0) = some (.nx, ρ items.length) := by
  obtain ⟨ρ', h1, h2⟩ := for_all (bs := bs) (rst := rst) (g := g) (b := b) (items := items) (ρ := ρ 0) (fun i r => r = ρ i) rfl (fun i r hi e => by rw [e]; exact hc i hi) fun i d r hi e => by
    subst e
    obtain ⟨ρ1, ρ2, a1, a2, a3⟩ := hs i d hi
    exact ⟨ρ1, .nx, ρ2, a1, a2, .inl rfl, a3⟩
  rw [h1, h2]
/-- a comprehension -/
theorem comp_run {bs : List (Nat × List D)} {vs : List Nat} {g : D → List Sl → Option (List Sl)} {t : MT} {m : M} {items : List D} {ρ : List Sl} (P : Nat → List D → List Sl → Prop) (h0 : P 0 [] ρ) (hc : ∀ i acc ρ, i ≤ items.length → P i acc ρ → chk ρ bs) (hl : items.length ≤ 1000000)
    (hacc : ∀ i acc ρ, P i acc ρ → acc.length ≤ i)
    (hs : ∀ i d acc ρ, items[i]? = some d → P i acc ρ → ∃ ρ1 c ρ2, g d ρ = some ρ1 ∧ t ρ1 = some (c, ρ2) ∧ if c = true then ∃ r ρ3 x ρ4, m ρ2 = some (r, ρ3) ∧ frz1 ρ3 r = some (x, ρ4) ∧ P (i + 1) (acc ++ [x]) (wipeS ρ4 vs) else P (i + 1) acc (wipeS ρ2 vs)) :
    ∃ out ρ', compD bs vs g t m items [] ρ = some (out, ρ') ∧ P items.length out ρ' := by
  have key : ∀ (n i : Nat) (acc : List D) (ρ : List Sl), i + n = items.length → P i acc ρ → ∃ out ρ', compD bs vs g t m (items.drop i) acc ρ = some (out, ρ') ∧ P items.length out ρ' := by
    intro n
    induction n with
    | zero =>
      intro i acc ρ hi hp
      have : items.drop i = [] := List.drop_eq_nil_iff.mpr (by omega)
      rw [this]
      unfold compD
      rw [if_pos (hc i acc ρ (by omega) hp)]
      have : i = items.length := by omega
      subst this
      exact ⟨acc, ρ, rfl, hp⟩
    | succ n ih =>
      intro i acc ρ hi hp
      have hll : i < items.length := by omega
      rw [List.drop_eq_getElem_cons hll]
      unfold compD
      rw [if_pos (hc i acc ρ (by omega) hp)]
      obtain ⟨ρ1, c, ρ2, h1, h2, h3⟩ := hs i items[i] acc ρ (List.getElem?_eq_getElem hll) hp
      rw [h1]
      show ∃ out ρ', (t ρ1).bind _ = _ ∧ _
      rw [h2]
      show ∃ out ρ', (if c = true then _ else _) = _ ∧ _
      cases c with
      | true =>
        obtain ⟨r, ρ3, x, ρ4, a1, a2, a3⟩ := h3
        rw [if_pos rfl]
        show ∃ out ρ', (m ρ2).bind _ = _ ∧ _
        rw [a1]
        show ∃ out ρ', (frz1 ρ3 r).bind _ = _ ∧ _
        rw [a2]
        show ∃ out ρ', (@ite _ (acc.length < sizeLine) (Classical.propDecidable _) _ _) = _ ∧ _
        rw [if_pos (by have := hacc i acc ρ hp; rw [sizeLine_eq]; omega)]
        exact ih (i + 1) _ _ (by omega) a3
      | false =>
        rw [if_neg (by decide)]
        exact ih (i + 1) _ _ (by omega) h3
  have := key items.length 0 [] ρ (by omega) h0
  simpa using this
/-- [f(x) for x in xs if p(x)], the slots stay -/
theorem comp_map {bs : List (Nat × List D)} {vs : List Nat} {g : D → List Sl → Option (List Sl)} {t : MT} {m : M} {items : List D} {ρ : List Sl} (F : D → Option D) (hc : chk ρ bs) (hl : items.length ≤ 1000000)
    (hs : ∀ d ∈ items, ∃ ρ1 c ρ2, g d ρ = some ρ1 ∧ t ρ1 = some (c, ρ2) ∧ if c = true then ∃ r ρ3 x ρ4, m ρ2 = some (r, ρ3) ∧ frz1 ρ3 r = some (x, ρ4) ∧ F d = some x ∧ wipeS ρ4 vs = ρ else F d = none ∧ wipeS ρ2 vs = ρ) :
    compD bs vs g t m items [] ρ = some (items.filterMap F, ρ) := by
  obtain ⟨out, ρ', h1, h2, h3⟩ := comp_run (bs := bs) (vs := vs) (g := g) (t := t) (m := m) (items := items) (ρ := ρ) (fun i acc r => acc = (items.take i).filterMap F ∧ r = ρ) ⟨by simp, rfl⟩ (fun i acc r _ h => by rw [h.2]; exact hc) hl
    (fun i acc r h => by rw [h.1]; exact Nat.le_trans (List.length_filterMap_le _ _) (by rw [List.length_take]; omega)) fun i d acc r hi h => by
      obtain ⟨h1, h2⟩ := h
      subst h1; subst h2
      obtain ⟨hl, e⟩ := List.getElem?_eq_some_iff.mp hi
      obtain ⟨ρ1, c, ρ2, a1, a2, a3⟩ := hs d (List.mem_of_getElem? hi)
      have tk : items.take (i + 1) = items.take i ++ [d] := by rw [List.take_add_one, hi]; rfl
      refine ⟨ρ1, c, ρ2, a1, a2, ?_⟩
      cases c with
      | true =>
        rw [if_pos rfl] at a3 ⊢
        obtain ⟨r, ρ3, x, ρ4, b1, b2, b3, b4⟩ := a3
        exact ⟨r, ρ3, x, ρ4, b1, b2, by rw [tk, List.filterMap_append]; simp [b3], b4⟩
      | false =>
        rw [if_neg (by decide)] at a3 ⊢
        exact ⟨by rw [tk, List.filterMap_append]; simp [a3.1], a3.2⟩
  rw [h1, h2, h3, List.take_length]
end FW

/-! plain facts of data -/
namespace FW
open PySem L2

abbrev dI (ns : List Int) : List D := ns.map D.int
abbrev dS (ns : List Str) : List D := ns.map D.str
theorem toPyL_map {α : Type} (f : α → D) (g : α → PyData) (h : ∀ a, toPy (f a) = some (g a)) : ∀ l : List α, toPyL (l.map f) = some (l.map g)
  | [] => by unfold toPyL; rfl
  | a :: l => by
    rw [List.map_cons, toPyL, h a, toPyL_map f g h l]; rfl
theorem eqvAll_map {α : Type} [DecidableEq α] (g : α → PyData) (h : ∀ a b, PyData.eqv (g a) (g b) = decide (a = b)) : ∀ a b : List α, PyData.eqvAll (a.map g) (b.map g) = decide (a = b)
  | [], [] => by simp [PyData.eqvAll]
  | [], _ :: _ => by simp [PyData.eqvAll]
  | _ :: _, [] => by simp [PyData.eqvAll]
  | x :: xs, y :: ys => by
    rw [List.map_cons, List.map_cons, PyData.eqvAll, h x y, eqvAll_map g h xs ys]
    by_cases h1 : x = y <;> by_cases h2 : xs = ys <;> simp [h1, h2]
theorem canAll_map {α : Type} (g : α → PyData) (p : α → Prop) (h : ∀ a, p a → (g a).canLay0 = true) : ∀ l : List α, (∀ a ∈ l, p a) → PyData.canLayAll0 (l.map g) = true
  | [], _ => by simp [PyData.canLayAll0]
  | a :: l, hl => by
    rw [List.map_cons, PyData.canLayAll0, h a (hl a (by simp)), canAll_map g p h l fun b hb => hl b (by simp [hb])]; rfl
theorem depthAll_map {α : Type} (g : α → PyData) (n : Nat) (h : ∀ a, (g a).depth ≤ n) : ∀ l : List α, PyData.depthAll (l.map g) ≤ n
  | [] => by simp [PyData.depthAll]
  | a :: l => by
    rw [List.map_cons, PyData.depthAll]
    have := h a
    have := depthAll_map g n h l
    omega
/-- data of one kind, compared -/
theorem eqD_of {neg : Bool} {x y : D} {p q : PyData} {b : Bool} (h1 : toPy x = some p) (h2 : toPy y = some q) (s1 : SeqAt.shaped p = true) (s2 : SeqAt.shaped q = true) (e : PyData.eqv p q = b) : eqD neg x y = some (.bl (b != neg)) := by
  unfold eqD
  rw [h1, h2]
  show (if _ then _ else _) = _
  rw [if_pos ⟨s1, s2⟩, e]
theorem shaped_of {p : PyData} (h : p.canLay0 = true) (d : p.depth ≤ 64) : SeqAt.shaped p = true := by
  unfold SeqAt.shaped
  rw [h, decide_eq_true d]; rfl
theorem shaped_int (i : Int) : SeqAt.shaped (.int i) = true := shaped_of (by simp [PyData.canLay0]) (by simp [PyData.depth])
theorem shaped_non : SeqAt.shaped .none = true := shaped_of (by simp [PyData.canLay0]) (by simp [PyData.depth])
theorem shaped_bool (i : Bool) : SeqAt.shaped (.bool i) = true := shaped_of (by simp [PyData.canLay0]) (by simp [PyData.depth])
theorem shaped_str {i : Str} (h : PyData.strOk i = true) : SeqAt.shaped (.str i) = true := shaped_of (by simpa [PyData.canLay0] using h) (by simp [PyData.depth])
theorem shaped_ints (l : List Int) : SeqAt.shaped (.list (l.map .int)) = true := shaped_of (by rw [PyData.canLay0]; exact canAll_map _ (fun _ => True) (fun a _ => by simp [PyData.canLay0]) l fun _ _ => trivial) (by
  rw [PyData.depth]; have := depthAll_map PyData.int 0 (fun a => by simp [PyData.depth]) l; omega)
theorem shaped_strs {l : List Str} (h : ∀ x ∈ l, PyData.strOk x = true) : SeqAt.shaped (.list (l.map .str)) = true := shaped_of (by rw [PyData.canLay0]; exact canAll_map _ (fun x => PyData.strOk x = true) (fun a ha => by simpa [PyData.canLay0] using ha) l h) (by
  rw [PyData.depth]; have := depthAll_map PyData.str 0 (fun a => by simp [PyData.depth]) l; omega)
theorem toPy_ints (l : List Int) : toPy (.lst (dI l)) = some (.list (l.map .int)) := by
  rw [toPy, toPyL_map D.int PyData.int (fun a => by rw [toPy])]; rfl
theorem toPy_strs (l : List Str) : toPy (.lst (dS l)) = some (.list (l.map .str)) := by
  rw [toPy, toPyL_map D.str PyData.str (fun a => by rw [toPy])]; rfl
@[simp] theorem eqD_int (neg : Bool) (a b : Int) : eqD neg (.int a) (.int b) = some (.bl (decide (a = b) != neg)) := eqD_of (by rw [toPy]) (by rw [toPy]) (shaped_int a) (shaped_int b) (by simp [PyData.eqv]; exact Bool.beq_eq_decide_eq _ _)
theorem eqD_str (neg : Bool) {a b : Str} (ha : PyData.strOk a = true) (hb : PyData.strOk b = true) : eqD neg (.str a) (.str b) = some (.bl (decide (a = b) != neg)) := eqD_of (by rw [toPy]) (by rw [toPy]) (shaped_str ha) (shaped_str hb) (by simp [PyData.eqv]; exact Bool.beq_eq_decide_eq _ _)
@[simp] theorem eqD_ints (neg : Bool) (a b : List Int) : eqD neg (.lst (a.map D.int)) (.lst (b.map D.int)) = some (.bl (decide (a = b) != neg)) := eqD_of (toPy_ints a) (toPy_ints b) (shaped_ints a) (shaped_ints b) (by
  rw [PyData.eqv]; exact eqvAll_map _ (fun x y => by simp [PyData.eqv]; exact Bool.beq_eq_decide_eq _ _) a b)
@[simp] theorem eqD_nil (neg : Bool) (a : List Int) : eqD neg (.lst (a.map D.int)) (.lst []) = some (.bl (decide (a = []) != neg)) := eqD_ints neg a []
@[simp] theorem eqD_nil0 (neg : Bool) : eqD neg (.lst []) (.lst []) = some (.bl (true != neg)) := by
  have := eqD_ints neg [] []
  simpa using this
theorem eqD_strs (neg : Bool) {a b : List Str} (ha : ∀ x ∈ a, PyData.strOk x = true) (hb : ∀ x ∈ b, PyData.strOk x = true) : eqD neg (.lst (a.map D.str)) (.lst (b.map D.str)) = some (.bl (decide (a = b) != neg)) := eqD_of (toPy_strs a) (toPy_strs b) (shaped_strs ha) (shaped_strs hb) (by
  rw [PyData.eqv]; exact eqvAll_map _ (fun x y => by simp [PyData.eqv]; exact Bool.beq_eq_decide_eq _ _) a b)
/-! places -/
theorem ixN_pos {n : Nat} {k : Int} (h0 : 0 ≤ k) (h1 : k < n) : ixN n k = some k.toNat := by
  unfold ixN
  rw [if_pos h0, if_pos h1]
theorem atI_pos {α : Type} {xs : List α} {k : Int} (h0 : 0 ≤ k) (h1 : k < xs.length) : atI xs k = xs[k.toNat]? := by
  unfold atI
  rw [ixN_pos h0 h1]; rfl
@[simp] theorem atI_neg1 {α : Type} (xs : List α) (x : α) : atI (xs ++ [x]) (-1) = some x := atI_last xs x
@[simp] theorem atI_0 {α : Type} (x : α) (xs : List α) : atI (x :: xs) 0 = some x := by rw [atI_pos (by omega) (by simp)]; rfl
@[simp] theorem atI_1 {α : Type} (x y : α) (xs : List α) : atI (x :: y :: xs) 1 = some y := by rw [atI_pos (by omega) (by simp; omega)]; rfl
@[simp] theorem atI_2 {α : Type} (x y z : α) (xs : List α) : atI (x :: y :: z :: xs) 2 = some z := by rw [atI_pos (by omega) (by simp; omega)]; rfl
@[simp] theorem atI_3 {α : Type} (x y z u : α) (xs : List α) : atI (x :: y :: z :: u :: xs) 3 = some u := by rw [atI_pos (by omega) (by simp; omega)]; rfl
@[simp] theorem atI_4 {α : Type} (x y z u v : α) (xs : List α) : atI (x :: y :: z :: u :: v :: xs) 4 = some v := by rw [atI_pos (by omega) (by simp; omega)]; rfl
@[simp] theorem ixN_0 (n : Nat) : ixN (n + 1) 0 = some 0 := by rw [ixN_pos (by omega) (by omega)]; rfl
@[simp] theorem ixN_1 (n : Nat) : ixN (n + 2) 1 = some 1 := by rw [ixN_pos (by omega) (by omega)]; rfl
@[simp] theorem ixN_2 (n : Nat) : ixN (n + 3) 2 = some 2 := by rw [ixN_pos (by omega) (by omega)]; rfl
/-! sizes -/
theorem log2_small {i : Int} {b : Nat} (h : i.natAbs < 2 ^ b) (h0 : 0 < b) : i.natAbs.log2 < b := PySem.Flt.log2_lt_of h0 h
theorem mulOk {i j : Int} {a b : Nat} (ha : i.natAbs < 2 ^ a) (hb : j.natAbs < 2 ^ b) (h0 : 0 < a := by decide) (h1 : 0 < b := by decide) (h : a + b ≤ 1000000 := by decide) : IntMulOk i j := (wide_mul ha hb h0 h1 h).ok
theorem mulOk_l {i j : Int} (h1 : -(2 ^ 64) < i) (h2 : i < 2 ^ 64) : IntMulOk i j := .of_left (PySem.intBits_le_64 h1 h2)
theorem mulOk_r {i j : Int} (h1 : -(2 ^ 64) < j) (h2 : j < 2 ^ 64) : IntMulOk i j := .of_right (PySem.intBits_le_64 h1 h2)
theorem div_ok {j : Int} (h : 0 < j) (h2 : j < 2 ^ 200) : 0 < j ∧ j.natAbs.log2 < 9000 := ⟨h, Nat.lt_of_lt_of_le (log2_small (b := 200) (by omega) (by decide)) (by decide)⟩
@[simp] theorem rgD_len (lo : Int) (n : Nat) : (rgD lo n).length = n := by simp [rgD]
theorem rgD_eq (lo : Int) (n : Nat) : rgD lo n = dI ((List.range n).map fun (i : Nat) => lo + (i : Int)) := by simp [rgD, dI, Function.comp_def]
theorem scVs_ints : ∀ (l : List Int), scVs (l.map D.int) = some (l.map V.int)
  | [] => rfl
  | a :: l => by rw [List.map_cons, scVs, scVs_ints l]; rfl
theorem scVs_strs : ∀ (l : List Str), scVs (l.map D.str) = some (l.map V.str)
  | [] => rfl
  | a :: l => by rw [List.map_cons, scVs, scVs_strs l]; rfl
@[simp] theorem cnt_str (l : List Str) (x : Str) : cntF (dS l) [.str x] = some (.int (l.count x : Nat)) := by
  show (scVs (l.map D.str)).map _ = _
  rw [scVs_strs]
  simp only [Option.map_some, List.countP_map, Option.some.injEq, D.int.injEq]
  congr 1
@[simp] theorem cnt_int (l : List Int) (x : Int) : cntF (dI l) [.int x] = some (.int (l.count x : Nat)) := by
  show (scVs (l.map D.int)).map _ = _
  rw [scVs_ints]
  simp only [Option.map_some, List.countP_map, Option.some.injEq, D.int.injEq]
  congr 1
@[simp] theorem isTy_int_int (i : Int) : isTy .int (.int i) = some (.bl true) := rfl
@[simp] theorem isTy_bool_int (i : Int) : isTy .bool (.int i) = some (.bl false) := rfl
@[simp] theorem isTy_int_bl (i : Bool) : isTy .int (.bl i) = some (.bl true) := rfl
@[simp] theorem isTy_bool_bl (i : Bool) : isTy .bool (.bl i) = some (.bl true) := rfl
@[simp] theorem isTy_list_lst (i : List D) : isTy .list (.lst i) = some (.bl true) := rfl
@[simp] theorem isTy_int_non : isTy .int .non = some (.bl false) := rfl
@[simp] theorem isTy_bool_non : isTy .bool .non = some (.bl false) := rfl
end FW

/-! a while, slices, built-ins on plain lists -/
namespace FW
open PySem L2
/-- a while: the invariant I, the measure μ, the end R -/
theorem wh_run {t : MT} {b : MS} (I : List Sl → Prop) (μ : List Sl → Nat) (R : Ctl → List Sl → Prop)
    (hs : ∀ ρ, I ρ → ∃ c ρ1, t ρ = some (c, ρ1) ∧ if c = true then ∃ k ρ2, b ρ1 = some (k, ρ2) ∧ match k with
      | .nx => I ρ2 ∧ μ ρ2 < μ ρ
      | .ct => I ρ2 ∧ μ ρ2 < μ ρ
      | .bk => R .nx ρ2
      | .rt r => R (.rt r) ρ2
      | .ex c => R (.ex c) ρ2
      else R .nx ρ1) : ∀ {ρ : List Sl}, I ρ → ∃ k ρ', sWhile t b ρ = some (k, ρ') ∧ R k ρ' := by
  have key : ∀ (n : Nat) (ρ : List Sl), μ ρ < n → I ρ → ∃ k ρ', whD t b n ρ = some (k, ρ') ∧ R k ρ' := by
    intro n
    induction n with
    | zero => intro ρ h _; omega
    | succ n ih =>
      intro ρ hn hi
      obtain ⟨c, ρ1, h1, h2⟩ := hs ρ hi
      unfold whD
      rw [h1]
      show ∃ k ρ', (if c = true then _ else _) = _ ∧ _
      cases c with
      | false =>
        rw [if_neg (by decide)] at h2 ⊢
        exact ⟨_, _, rfl, h2⟩
      | true =>
        rw [if_pos rfl] at h2 ⊢
        obtain ⟨k, ρ2, h3, h4⟩ := h2
        show ∃ k ρ', (b ρ1).bind _ = _ ∧ _
        rw [h3]
        cases k with
        | nx =>
          have h5 : μ ρ2 < μ ρ := h4.2
          exact ih ρ2 (by omega) h4.1
        | ct =>
          have h5 : μ ρ2 < μ ρ := h4.2
          exact ih ρ2 (by omega) h4.1
        | bk => exact ⟨_, _, rfl, h4⟩
        | rt r => exact ⟨_, _, rfl, h4⟩
        | ex c => exact ⟨_, _, rfl, h4⟩
  intro ρ hi
  obtain ⟨k, ρ', h1, h2⟩ := key (μ ρ + 1) ρ (by omega) hi
  exact ⟨k, ρ', sWhile_eq h1, h2⟩
@[simp] theorem cut_nn {α : Type} (xs : List α) : cutA xs none none = xs := by simp [cutA, HT.sIx]
theorem cut_ns {α : Type} (xs : List α) {k : Int} (h : 0 ≤ k) : cutA xs none (some k) = xs.take k.toNat := by
  unfold cutA HT.sIx
  simp
  rw [if_neg (by omega)]
  omega
theorem cut_sn {α : Type} (xs : List α) {k : Int} (h : 0 ≤ k) : cutA xs (some k) none = xs.drop k.toNat := by
  unfold cutA HT.sIx
  simp
  rw [if_neg (by omega)]
  by_cases hk : k.toNat ≤ xs.length
  · rw [Nat.min_eq_left hk, List.take_of_length_le (by simp)]
  · rw [Nat.min_eq_right (by omega), List.drop_eq_nil_of_le (by omega), List.drop_eq_nil_of_le (by omega)]; simp
@[simp] theorem ints?_dI : ∀ l : List Int, ints? (l.map D.int) = some l
  | [] => rfl
  | a :: l => by rw [List.map_cons, ints?, ints?_dI l]; rfl
@[simp] theorem strs?_dS : ∀ l : List Str, strs? (l.map D.str) = some l
  | [] => rfl
  | a :: l => by rw [List.map_cons, strs?, strs?_dS l]; rfl
theorem ints?_str (a : Str) (l : List D) : ints? (D.str a :: l) = none := rfl
@[simp] theorem sortAny_dI (l : List Int) : sortAny (l.map D.int) = some (.own (.ow (dI (sortUp l)))) := by
  unfold sortAny
  rw [ints?_dI]
theorem sortAny_dS {l : List Str} (h : l.length < 64) : sortAny (l.map D.str) = some (.own (.ow (dS (sortS l)))) := by
  cases l with
  | nil => simp [sortAny, ints?, sortUp, sortS]
  | cons a l =>
    unfold sortAny
    rw [List.map_cons, ints?_str, ← List.map_cons, strs?_dS]
    exact @if_pos _ (Classical.propDecidable _) h _ _ _
@[simp] theorem sortS_len (l : List Str) : (sortS l).length = l.length := (List.mergeSort_perm _ _).length_eq
theorem sortS_mem {l : List Str} {e : Str} : e ∈ sortS l ↔ e ∈ l := (List.mergeSort_perm _ _).mem_iff
@[simp] theorem sortUp_len (l : List Int) : (sortUp l).length = l.length := (List.mergeSort_perm _ _).length_eq
theorem sortUp_mem {l : List Int} {e : Int} : e ∈ sortUp l ↔ e ∈ l := (List.mergeSort_perm _ _).mem_iff
/-- the place of a first least -/
theorem idx_int {l : List Int} {x : Int} {j : Nat} (h : l[j]? = some x) (h' : ∀ i, i < j → l[i]? ≠ some x) : idxF (dI l) [.int x] = some (.int (j : Nat)) := by
  show (scVs (l.map D.int)).bind _ = _
  rw [scVs_ints]
  show ((l.map V.int).findIdx? _).map _ = _
  have : (l.map V.int).findIdx? (fun z => eqV z (V.int x)) = some j := by
    rw [List.findIdx?_map, List.findIdx?_eq_some_iff_getElem]
    obtain ⟨hl, e⟩ := List.getElem?_eq_some_iff.mp h
    refine ⟨hl, ?_, fun i hi => ?_⟩
    · simp [e, eqV]
    · have := h' i hi
      rw [List.getElem?_eq_getElem (by omega)] at this
      simp [eqV]
      intro q
      exact this (by rw [q])
  rw [this]; rfl
theorem minL_int {l : List Int} {m : Int} (h : l.min? = some m) : minL (dI l) = some (.val (.int m)) := by
  unfold minL
  rw [ints?_dI]
  show (l.min?).map _ = _
  rw [h]; rfl
theorem lo_map (lo : Int) (n : Nat) : rgD lo n = ((List.range n).map fun (i : Nat) => lo + (i : Int)).map D.int := rgD_eq lo n
theorem snocRec {α : Type} {P : List α → Prop} (h0 : P []) (h : ∀ l a, P l → P (l ++ [a])) (l : List α) : P l := by
  have key : ∀ l : List α, P l.reverse := fun l => by
    induction l with
    | nil => exact h0
    | cons a l ih => rw [List.reverse_cons]; exact h _ _ ih
  have := key l.reverse
  rwa [List.reverse_reverse] at this
end FW

/-! dicts of ints and texts as keys; alternatives -/
namespace FW
noncomputable section
open PySem L2

def keyOf : D → Option Key
  | .int i => some (.inl i)
  | .str x => some (.inr x)
  | _ => none
def hasK (kvs : List (Key × D)) (k : Key) : Bool := kvs.any fun kv => decide (kv.1 = k)
def putD (kvs : List (Key × D)) (k : Key) (d : D) : List (Key × D) := if hasK kvs k = true then kvs.map (fun kv => if kv.1 = k then (kv.1, d) else kv) else kvs ++ [(k, d)]
section
variable {K : PySem.W.Frag} {mg : Str → Option Value} {G H : Hp}
theorem key_rep {d : D} {k : Key} {v : V} (h : keyOf d = some k) (r : Rep K mg G d v) : v = kV k := by
  cases d <;> simp [keyOf] at h <;> subst h
  · exact r.int_iff
  · exact r.str_iff
theorem repK_any {k : Key} : ∀ {ds : List (Key × D)} {vs : List (Key × V)}, RepK K mg G ds vs → (vs.any fun kv => decide (kv.1 = k)) = hasK ds k
  | _, _, .nil => rfl
  | _, _, .cons h r => by
    unfold hasK
    rw [List.any_cons, List.any_cons, repK_any r]
    rfl
theorem valV_any {k : Key} : ∀ (vs : List (Key × V)), (valV vs k).isSome = vs.any fun kv => decide (kv.1 = k)
  | [] => rfl
  | p :: r => by
    by_cases e : p.1 = k
    · rw [valV_pos e, List.any_cons]; simp [e]
    · rw [valV_neg e, List.any_cons, valV_any r]; simp [e]
theorem repK_map {k : Key} {d : D} {v : V} (q : Rep K mg G d v) : ∀ {ds : List (Key × D)} {vs : List (Key × V)}, RepK K mg G ds vs → RepK K mg G (ds.map fun kv => if kv.1 = k then (kv.1, d) else kv) (vs.map fun kv => if kv.1 = k then (kv.1, v) else kv)
  | _, _, .nil => .nil
  | _, _, .cons (k := k') h r => by
    rw [List.map_cons, List.map_cons]
    by_cases e : k' = k
    · subst e
      rw [if_pos rfl, if_pos rfl]
      exact .cons q (repK_map q r)
    · rw [if_neg e, if_neg e]
      exact .cons h (repK_map q r)
theorem RepK.snoc {k : Key} {d : D} {v : V} (q : Rep K mg G d v) : ∀ {ds : List (Key × D)} {vs : List (Key × V)}, RepK K mg G ds vs → RepK K mg G (ds ++ [(k, d)]) (vs ++ [(k, v)])
  | _, _, .nil => .cons q .nil
  | _, _, .cons h r => .cons h (r.snoc q)
theorem repK_put {k : Key} {d : D} {v : V} {ds : List (Key × D)} {vs : List (Key × V)} (r : RepK K mg G ds vs) (q : Rep K mg G d v) : RepK K mg G (putD ds k d) (putK vs k v) := by
  unfold putD putK
  rw [repK_any r]
  split
  · exact repK_map q r
  · exact r.snoc q
theorem RepK.length : ∀ {ds : List (Key × D)} {vs : List (Key × V)}, RepK K mg G ds vs → vs.length = ds.length
  | _, _, .nil => rfl
  | _, _, .cons _ r => by simp [r.length]
theorem Res.newD {cs : List Cl} (r : Res K mg G H cs) {p : Addr} (hp : H p = Option.none) : Res K mg G (upd H p (.dK [])) (⟨some (.ref p), .dk [], [p]⟩ :: cs) := by
  have k := r.keepH (o := .dK []) hp
  refine ⟨k.same, fun c hc => ?_, ?_, fun a ha => ?_, k.tab⟩
  · rcases List.mem_cons.mp hc with e | e
    · subst e; exact .inr ⟨_, rfl, .dk upd_same .nil⟩
    · exact k.ok c e
  · rw [own_cons]
    exact List.nodup_cons.mpr ⟨fun z => r.there p z hp, r.nd⟩
  · rw [own_cons] at ha
    rcases List.mem_cons.mp ha with e | e
    · subst e; exact Same.none r.same hp
    · exact r.fr a e
theorem dk_cell {cs : List Cl} {i : Nat} {xs : List (Key × D)} (h : Res K mg G H cs) (e : (slots cs)[i]? = some (.dk xs)) :
    ∃ a ws, cs[i]? = some ⟨some (.ref a), .dk xs, [a]⟩ ∧ H a = some (.dK ws) ∧ G a = none ∧ RepK K mg G xs ws := by
  obtain ⟨⟨o, s', A⟩, e5, e6⟩ := cell_at e
  have e6 : s' = .dk xs := e6
  subst e6
  have hfr : ∀ a ∈ A, G a = none := fun a ha => h.fr a (mem_own.mpr ⟨_, List.mem_of_getElem? e5, ha⟩)
  rcases h.ok _ (List.mem_of_getElem? e5) with ⟨q, _⟩ | ⟨v, hv, o'⟩
  · cases q
  · have hv : o = some v := hv
    subst hv
    have o' : Own K mg G H (.dk xs) v A := o'
    cases o' with
    | dk h1 h2 => exact ⟨_, _, e5, h1, hfr _ (by simp), h2⟩
end
def mDict0 : M := fun ρ => some (.own (.dk []), ρ)
def mInDk (neg : Bool) (j : Nat) (a : M) : M := fun ρ => (a ρ).bind fun x => match x.1 with
  | .val d => (keyOf d).bind fun k => match x.2[j]? with
    | some (.dk kvs) => some (.val (.bl (if neg then !hasK kvs k else hasK kvs k)), x.2)
    | _ => none
  | _ => none
def sSetKey (i : Nat) (mk m : M) : MS := fun ρ => (m ρ).bind fun x => match x.1 with
  | .val d => match x.2[i]? with
    | some (.dk _) => (mk x.2).bind fun y => match y.1 with
      | .val c => (keyOf c).bind fun k => match y.2[i]? with
        | some (.dk kvs) => @ite _ (kvs.length < sizeLine) (Classical.propDecidable _) (some (.nx, y.2.set i (.dk (putD kvs k d)))) none
        | _ => none
      | _ => none
    | _ => none
  | _ => none
def mAlt (a b : M) : M := fun ρ => match a ρ with
  | some r => some r
  | none => b ρ
section
variable {X : Cx} {a b c e o tg : Expr} {es : List Expr} {ma mb mc mo : M} {ms : MA} {pos p2 p cpos apos : Pos} {P : Nat → Prop}
theorem se_alt (ha : SE X e ma) (hb : SE X e mb) : SE X e (mAlt ma mb) := ⟨fun pins s σ H Q I h => by
  obtain ⟨cs, G, r, ρ', e1, rs, hm, k⟩ := h
  unfold mAlt at hm
  split at hm
  · rename_i r' hr
    cases hm
    exact ha.run pins s σ H Q I ⟨cs, G, r, ρ', e1, rs, hr, k⟩
  · exact hb.run pins s σ H Q I ⟨cs, G, r, ρ', e1, rs, hm, k⟩⟩
theorem se_dict0 : SE X (.Dict [] [] pos) mDict0 := PE.imp pe_dnewK fun σ H Q h => by
  obtain ⟨cs, G, r, ρ', e1, rs, hm, k⟩ := h
  cases hm
  intro q hq
  exact k cs (.ref q) [q] G _ e1 rfl (fun j z => nomatch z) (Res.newD rs hq) (Stp.alloc hq)
theorem rd_inDk {K : PySem.W.Frag} {mg : Str → Option Value} {σ : L2.St} {H : Hp} {Q : VK} {j : Nat} (h : tM K mg (mInDk false j ma) σ H Q) : tDIn (tM K mg ma) (tVar j) σ H Q := by
  obtain ⟨cs, G, r, ρ', e1, rs, hm, k⟩ := h
  obtain ⟨⟨r1, ρ1⟩, h1, hm⟩ := Option.bind_eq_some_iff.mp hm
  dsimp only at hm
  split at hm
  · rename_i d
    obtain ⟨kk, h2, hm⟩ := Option.bind_eq_some_iff.mp hm
    split at hm
    · rename_i kvs h3
      cases hm
      refine ⟨cs, G, _, _, e1, rs, h1, fun cs1 v B G1 H1 f1 f2 fb rs1 st1 => ?_⟩
      subst f2
      obtain ⟨a', ws, q1, q2, q3, q4⟩ := dk_cell rs1.tail h3
      obtain ⟨rp, hB⟩ := rs1.val
      have := key_rep h2 rp
      subst this
      refine ⟨.ref a', ?_, a', _, rfl, DGet.k q2, ?_⟩
      · rw [← f1, List.getElem?_map, q1]; rfl
      · rw [valV_any, repK_any q4]
        exact k cs1 _ [] G1 H1 f1 rfl (fun j z => nomatch z) (rs1.tail.addFz (.bl _)) (st1.weak fun b hb => by
          rw [own_cons] at hb ⊢
          exact List.mem_append_right _ (by simpa using hb))
    · cases hm
  · cases hm
theorem se_inDk (j : Nat) {x : Str} {np : Pos} (hu : X.A.units + 1 < cLine) (ha : SE X a ma)
    (hN : X.N[j]? = some x := by rfl) (hv : Vis X.env.scope x := by first | exact Or.inl rfl | exact Or.inr (Or.inl rfl) | exact Or.inr (Or.inr rfl)) (hd : (x == ("__debug__" : Str)) = false := by decide) (hcd : (x == ("__classdict__" : Str)) = false := by decide)
    (hm : behindInMarks .In (.Name x np) = false := by rfl) : SE X (.Compare a [.In] [.Name x np] pos) (mInDk false j ma) := PE.imp (pe_cmp (pc_din hu ha (pe_var hN hv hd hcd)) hm) fun σ H Q h => rd_inDk h
theorem st_inDk (j : Nat) {x : Str} {np : Pos} (hu : X.A.units + 1 < cLine) (ha : SE X a ma)
    (hN : X.N[j]? = some x := by rfl) (hv : Vis X.env.scope x := by first | exact Or.inl rfl | exact Or.inr (Or.inl rfl) | exact Or.inr (Or.inr rfl)) (hd : (x == ("__debug__" : Str)) = false := by decide) (hcd : (x == ("__classdict__" : Str)) = false := by decide)
    (hm : behindInMarks .In (.Name x np) = false := by rfl) : STe X (.Compare a [.In] [.Name x np] pos) (mB (mInDk false j ma)) := PT.imp (pt_cmp (pc_din hu ha (pe_var hN hv hd hcd)) hm) fun σ H Q h => rd_inDk (rd_B σ H Q h)
theorem ss_setKey (i : Nat) {x : Str} {np tp : Pos} (hu : X.A.units + 1 < cLine) (he : SE X e ma) (hk : SE X a mb)
    (hN : X.N[i]? = some x := by rfl) (hv : Vis X.env.scope x := by first | exact Or.inl rfl | exact Or.inr (Or.inl rfl) | exact Or.inr (Or.inr rfl)) (hd : (x == ("__debug__" : Str)) = false := by decide) (hcd : (x == ("__classdict__" : Str)) = false := by decide)
    (hs : swapsWith e (some (.Subscript (.Name x np) a tp)) pos.line X.env = pure false := by rfl) :
    SS X P (.Assign [.Subscript (.Name x np) a tp] e pos) (sSetKey i mb ma) := PS.imp (ps_dput hu (pe_var hN hv hd hcd) hk he hs) fun D σ H h => by
  obtain ⟨cs, G, k, ρ', e1, rs, hm, q⟩ := h
  obtain ⟨⟨r1, ρ1⟩, h1, hm⟩ := Option.bind_eq_some_iff.mp hm
  dsimp only at hm
  split at hm
  · rename_i d
    split at hm
    · rename_i kv0 ex0
      obtain ⟨⟨r2, ρ2⟩, h2, hm⟩ := Option.bind_eq_some_iff.mp hm
      dsimp only at hm
      split at hm
      · rename_i c
        obtain ⟨kk, h3, hm⟩ := Option.bind_eq_some_iff.mp hm
        split at hm
        · rename_i kvs ex3
          split at hm
          · rename_i hl
            cases hm
            refine ⟨cs, G, _, ρ1, e1, rs, h1, fun cs1 v B G1 H1 f1 f2 fb rs1 st1 => ?_⟩
            subst e1
            obtain ⟨a0, ws0, p1, p2, p3, p4⟩ := dk_cell rs1.tail (by rw [f2]; exact ex0)
            refine ⟨.ref a0, by rw [← f1, List.getElem?_map, p1]; rfl, cs1, G1, _, ρ2, f1, rs1.tail, by rw [f2]; exact h2, fun cs2 w B2 G2 H2 g1 g2 gb rs2 st2 => ?_⟩
            have rA := Res.frame (ds := [_]) rs1 st2 rs2
            have sA := st1.trans (Stp.under (ds := [_]) rs1 st2)
            obtain ⟨rw', rfl⟩ := rs2.val
            have rB : Res X.K X.mg G2 H2 (⟨some v, .fz d, B⟩ :: cs2) := rA.perm (List.Perm.swap _ _ _) |>.tail
            have sB : Stp (own cs) G H (own (⟨some v, .fz d, B⟩ :: cs2)) G2 H2 := sA.weak fun b hb => by
              rw [own_append, own_cons]
              rw [own_cons] at hb
              simpa [own_cons, Rv.sl] using hb
            subst g2
            obtain ⟨rpd, rfl⟩ := Res.val (d := d) rB
            have rs3 := rB.tail
            have st3 : Stp (own cs) G H (own cs2) G2 H2 := sB.weak fun b hb => by simpa [own_cons] using hb
            obtain ⟨a', ws, q1, q2, q3, q4⟩ := dk_cell rs3 ex3
            have ea : a' = a0 := by
              have z1 : (vals cs2)[i]? = some (some (.ref a')) := by rw [List.getElem?_map, q1]; rfl
              have z2 : (vals cs1)[i]? = some (some (.ref a0)) := by rw [List.getElem?_map, p1]; rfl
              rw [g1, ← f1, z2] at z1
              simpa using z1.symm
            subst ea
            have := key_rep h3 rw'
            subst this
            refine ⟨a', _, rfl, DPut.k q2 (by rw [q4.length]; exact hl), ?_⟩
            have wr := Res.write (H' := upd H2 a' (.dK (putK ws kk v))) (c' := ⟨some (.ref a'), .dk (putD kvs kk d), [a']⟩) rs3 q1 (fun b hb => upd_ne (by simpa using hb)) (.inr ⟨_, rfl, .dk upd_same (repK_put q4 rpd)⟩) rfl (fun b hb => by
              have : b = a' := by simpa using hb
              subst this; rw [upd_same]; simp)
            have ev : vals (cs2.set i ⟨some (.ref a'), .dk (putD kvs kk d), [a']⟩) = vals cs := by rw [set_vals (c' := ⟨some (.ref a'), .dk (putD kvs kk d), [a']⟩) q1 rfl, g1]
            have z := KS.nx q slots_set (len_of ev) (fun _ _ => by rw [ev]) wr.1 (st3.trans wr.2)
            rw [ev] at z
            exact z
          · cases hm
        · cases hm
      · cases hm
    · cases hm
  · cases hm
end
section
variable {ρ : List Sl} {a b : M}
@[simp] theorem r_alt : mAlt a b ρ = match a ρ with
  | some r => some r
  | none => b ρ := rfl
@[simp] theorem r_dict0 : mDict0 ρ = some (.own (.dk []), ρ) := rfl
@[simp] theorem r_keyOf_int (i : Int) : keyOf (.int i) = some (.inl i) := rfl
@[simp] theorem r_keyOf_str (i : Str) : keyOf (.str i) = some (.inr i) := rfl
@[simp] theorem r_inDk (neg : Bool) (j : Nat) : mInDk neg j a ρ = (a ρ).bind fun x => match x.1 with
  | .val d => (keyOf d).bind fun k => match x.2[j]? with
    | some (.dk kvs) => some (.val (.bl (if neg then !hasK kvs k else hasK kvs k)), x.2)
    | _ => none
  | _ => none := rfl
@[simp] theorem r_setKey (i : Nat) : sSetKey i b a ρ = (a ρ).bind fun x => match x.1 with
  | .val d => match x.2[i]? with
    | some (.dk _) => (b x.2).bind fun y => match y.1 with
      | .val c => (keyOf c).bind fun k => match y.2[i]? with
        | some (.dk kvs) => ifc (kvs.length < sizeLine) (some (.nx, y.2.set i (.dk (putD kvs k d)))) none
        | _ => none
      | _ => none
    | _ => none
  | _ => none := rfl
end
end
end FW

/-! plain lists; == of any data with itself -/
namespace FW
open PySem L2
theorem map_erase {α β : Type} (f : α → β) : ∀ (l : List α) (j : Nat), (l.map f).eraseIdx j = (l.eraseIdx j).map f
  | [], _ => rfl
  | _ :: _, 0 => rfl
  | a :: l, j + 1 => by
    rw [List.map_cons, List.eraseIdx_cons_succ, List.eraseIdx_cons_succ, List.map_cons, map_erase f l j]
theorem perm_erase {α : Type} : ∀ {l : List α} {j : Nat} (h : j < l.length), (l[j] :: l.eraseIdx j).Perm l
  | _ :: _, 0, _ => .refl _
  | a :: l, j + 1, h => by
    rw [List.eraseIdx_cons_succ, List.getElem_cons_succ]
    exact (List.Perm.swap _ _ _).trans (.cons a (perm_erase (by simpa using h)))
/-- data that == holds of itself -/
structure Self (d : D) (p : PyData) : Prop where
  py : toPy d = some p
  lay : p.canLay0 = true
  dep : p.depth ≤ 60
  eqv : PyData.eqv p p = true
theorem Self.eq {d : D} {p : PyData} (h : Self d p) (neg : Bool) : eqD neg d d = some (.bl (!neg)) := by
  have s := shaped_of h.lay (Nat.le_trans h.dep (by decide))
  rw [eqD_of h.py h.py s s h.eqv]
  cases neg <;> rfl
theorem self_int (i : Int) : Self (.int i) (.int i) := ⟨by rw [toPy], by simp [PyData.canLay0], by simp [PyData.depth], by simp [PyData.eqv]⟩
theorem self_str {i : Str} (h : PyData.strOk i = true) : Self (.str i) (.str i) := ⟨by rw [toPy], by simpa [PyData.canLay0] using h, by simp [PyData.depth], by simp [PyData.eqv]⟩
theorem eqvAll_self {α : Type} (g : α → PyData) : ∀ l : List α, (∀ a ∈ l, PyData.eqv (g a) (g a) = true) → PyData.eqvAll (l.map g) (l.map g) = true
  | [], _ => by simp [PyData.eqvAll]
  | a :: l, h => by
    rw [List.map_cons, PyData.eqvAll, h a (by simp), eqvAll_self g l fun b hb => h b (by simp [hb])]; rfl
theorem toPyL_some {α : Type} (f : α → D) (g : α → PyData) : ∀ l : List α, (∀ a ∈ l, toPy (f a) = some (g a)) → toPyL (l.map f) = some (l.map g)
  | [], _ => by unfold toPyL; rfl
  | a :: l, h => by
    rw [List.map_cons, toPyL, h a (by simp), toPyL_some f g l fun b hb => h b (by simp [hb])]; rfl
theorem depthAll_le {α : Type} (g : α → PyData) (n : Nat) : ∀ l : List α, (∀ a ∈ l, (g a).depth ≤ n) → PyData.depthAll (l.map g) ≤ n
  | [], _ => by simp [PyData.depthAll]
  | a :: l, h => by
    rw [List.map_cons, PyData.depthAll]
    have := h a (by simp)
    have := depthAll_le g n l fun b hb => h b (by simp [hb])
    omega
/-- a list, a tuple of such -/
theorem self_map {α : Type} {f : α → D} {g : α → PyData} {l : List α} (n : Nat) (hn : n < 60) (h : ∀ a ∈ l, Self (f a) (g a) ∧ (g a).depth ≤ n) : Self (.lst (l.map f)) (.list (l.map g)) ∧ (PyData.list (l.map g)).depth ≤ n + 1 := by
  have dp : (PyData.list (l.map g)).depth ≤ n + 1 := by
    rw [PyData.depth]
    have := depthAll_le g n l fun a ha => (h a ha).2
    omega
  refine ⟨⟨?_, ?_, by omega, ?_⟩, dp⟩
  · rw [toPy, toPyL_some f g l fun a ha => (h a ha).1.py]; rfl
  · rw [PyData.canLay0]
    exact canAll_map g (fun a => a ∈ l) (fun a ha => (h a ha).1.lay) l fun a ha => ha
  · rw [PyData.eqv]; exact eqvAll_self g l fun a ha => (h a ha).1.eqv
theorem self_tmap {α : Type} {f : α → D} {g : α → PyData} {l : List α} (n : Nat) (hn : n < 60) (h : ∀ a ∈ l, Self (f a) (g a) ∧ (g a).depth ≤ n) : Self (.tup (l.map f)) (.tuple (l.map g)) ∧ (PyData.tuple (l.map g)).depth ≤ n + 1 := by
  have dp : (PyData.tuple (l.map g)).depth ≤ n + 1 := by
    rw [PyData.depth]
    have := depthAll_le g n l fun a ha => (h a ha).2
    omega
  refine ⟨⟨?_, ?_, by omega, ?_⟩, dp⟩
  · rw [toPy, toPyL_some f g l fun a ha => (h a ha).1.py]; rfl
  · rw [PyData.canLay0]
    exact canAll_map g (fun a => a ∈ l) (fun a ha => (h a ha).1.lay) l fun a ha => ha
  · rw [PyData.eqv]; exact eqvAll_self g l fun a ha => (h a ha).1.eqv
theorem self_ints (l : List Int) : Self (.lst (l.map D.int)) (.list (l.map PyData.int)) ∧ (PyData.list (l.map PyData.int)).depth ≤ 1 := self_map 0 (by decide) fun a _ => ⟨self_int a, by simp [PyData.depth]⟩
theorem self_pair (a b : Int) : Self (.tup [.int a, .int b]) (.tuple [.int a, .int b]) ∧ (PyData.tuple [.int a, .int b]).depth ≤ 1 := self_tmap (f := D.int) (g := PyData.int) (l := [a, b]) 0 (by decide) fun a _ => ⟨self_int a, by simp [PyData.depth]⟩
theorem self_pairs (l : List (Int × Int)) : Self (.lst (l.map fun p => .tup [.int p.1, .int p.2])) (.list (l.map fun p => .tuple [.int p.1, .int p.2])) ∧ (PyData.list (l.map fun p => .tuple [.int p.1, .int p.2])).depth ≤ 2 :=
  self_map (f := fun p : Int × Int => .tup [.int p.1, .int p.2]) (g := fun p : Int × Int => .tuple [.int p.1, .int p.2]) 1 (by decide) fun a _ => self_pair a.1 a.2
/-- a list of two -/
theorem self_two {d e : D} {p q : PyData} {n : Nat} (hn : n < 60) (h1 : Self d p ∧ p.depth ≤ n) (h2 : Self e q ∧ q.depth ≤ n) : Self (.lst [d, e]) (.list [p, q]) ∧ (PyData.list [p, q]).depth ≤ n + 1 :=
  self_map (f := fun b : Bool => if b then d else e) (g := fun b : Bool => if b then p else q) (l := [true, false]) n hn fun a _ => by cases a <;> assumption
end FW

/-! objects of own classes: made, fields read and stored, methods, properties -/
namespace FW
noncomputable section
open PySem L2

def toFz : List (Str × Sl) → Option (List (Str × D))
  | [] => some []
  | (f, .fz d) :: r => (toFz r).map ((f, d) :: ·)
  | _ => none
/-- an object's class and fields -/
def Sl.flds : Sl → Option (Str × List (Str × D))
  | .fz (.obj c fs) => some (c, fs)
  | .ob c fs => (toFz fs).map fun ds => (c, ds)
  | _ => none
def putS (f : Str) (s : Sl) : List (Str × Sl) → List (Str × Sl)
  | [] => [(f, s)]
  | (g, x) :: r => if g = f then (g, s) :: r else (g, x) :: putS f s r
section
variable {K : PySem.W.Frag} {mg : Str → Option Value} {G H G' H' : Hp}
theorem toFz_own : ∀ {fs : List (Str × Sl)} {ds : List (Str × D)} {fvs : List (Str × V)} {As : List Addr}, toFz fs = some ds → OwnF K mg G H fs fvs As → As = [] ∧ RepF K mg G ds fvs
  | _, _, _, _, e, .nil => by unfold toFz at e; cases e; exact ⟨rfl, .nil⟩
  | (f, s) :: r, _, _, _, e, .cons o q => by
    unfold toFz at e
    split at e
    · rename_i hq0; cases hq0
    · rename_i f' d r' h
      cases h
      obtain ⟨ds, e1, e2⟩ := Option.map_eq_some_iff.mp e
      subst e2
      obtain ⟨h1, h2⟩ := toFz_own e1 q
      cases o with
      | fz rp => subst h1; exact ⟨rfl, .cons rp h2⟩
    · cases e
theorem toFz_toDF : ∀ {fs : List (Str × Sl)} {ds : List (Str × D)}, toFz fs = some ds → toDF fs = some ds
  | [], ds, e => by unfold toFz at e; cases e; unfold toDF; rfl
  | (f, s) :: r, ds, e => by
    unfold toFz at e
    split at e
    · rename_i hq0; cases hq0
    · rename_i f' d r' h
      cases h
      obtain ⟨ds', e1, e2⟩ := Option.map_eq_some_iff.mp e
      subst e2
      unfold toDF
      rw [toFz_toDF e1]
      simp [Sl.toD]
    · cases e
theorem flds_own {s : Sl} {v : V} {A : List Addr} {c : Str} {ds : List (Str × D)} (sm : Same G H) (o : Own K mg G H s v A) (e : s.flds = some (c, ds)) : ∃ a C dx fvs, v = .ref a ∧ H a = some (.ins C dx fvs) ∧ mg c = some (.ref C) ∧ RepF K mg G ds fvs := by
  unfold Sl.flds at e
  split at e
  · cases e
    cases o with
    | fz rp => cases rp with
      | obj m h r => exact ⟨_, _, _, _, rfl, sm _ _ h, m, r⟩
  · obtain ⟨ds', e1, e2⟩ := Option.map_eq_some_iff.mp e
    cases e2
    cases o with
    | ob m h q => exact ⟨_, _, _, _, rfl, h, m, (toFz_own e1 q).2⟩
  · cases e
theorem repF_lookup {f : Str} {d : D} : ∀ {ds : List (Str × D)} {fvs : List (Str × V)}, RepF K mg G ds fvs → ds.lookup f = some d → ∃ v, fvs.lookup f = some v ∧ Rep K mg G d v
  | _, _, .nil, e => by cases e
  | (g, x) :: r, _, .cons h q, e => by
    rw [List.lookup_cons] at e ⊢
    split at e
    · cases e; exact ⟨_, rfl, h⟩
    · exact repF_lookup q e
theorem repF_none {f : Str} : ∀ {ds : List (Str × D)} {fvs : List (Str × V)}, RepF K mg G ds fvs → ds.lookup f = none → fvs.lookup f = none
  | _, _, .nil, e => rfl
  | (g, x) :: r, _, .cons h q, e => by
    rw [List.lookup_cons] at e ⊢
    split at e
    · cases e
    · exact repF_none q e
theorem repF_len : ∀ {ds : List (Str × D)} {fvs : List (Str × V)}, RepF K mg G ds fvs → fvs.length = ds.length
  | _, _, .nil => rfl
  | _, _, .cons _ q => by simp [repF_len q]
theorem ownF_put {f : Str} {d : D} {v : V} (rp : Rep K mg G d v) : ∀ {fs : List (Str × Sl)} {ds : List (Str × D)} {fvs : List (Str × V)} {As : List Addr}, toFz fs = some ds → OwnF K mg G H fs fvs As → OwnF K mg G H' (putS f (.fz d) fs) (putF f v fvs) []
  | _, _, _, _, e, .nil => .cons (A := []) (As := []) (.fz rp) .nil
  | (g, s) :: r, _, _, _, e, .cons o q => by
    unfold toFz at e
    split at e
    · rename_i hq0; cases hq0
    · rename_i f' d' r' h
      cases h
      obtain ⟨ds, e1, e2⟩ := Option.map_eq_some_iff.mp e
      have z := toFz_own e1 q
      cases o with
      | fz rq =>
        unfold putS putF
        by_cases hg : g = f
        · rw [if_pos hg, if_pos hg]
          obtain ⟨z1, _⟩ := z
          subst z1
          exact .cons (A := []) (As := []) (.fz rp) (OwnF.frame (fun _ _ h => h) q fun a ha => by simp at ha)
        · rw [if_neg hg, if_neg hg]
          exact .cons (A := []) (As := []) (.fz rq) (ownF_put rp e1 q)
    · cases e
theorem Res.newO {cs : List Cl} {c : Str} {C dx : Addr} (r : Res K mg G H cs) {p : Addr} (hp : H p = Option.none) (hC : mg c = some (.ref C)) : Res K mg G (upd H p (.ins C dx [])) (⟨some (.ref p), .ob c [], [p]⟩ :: cs) := by
  have k := r.keepH (o := .ins C dx []) hp
  refine ⟨k.same, fun c hc => ?_, ?_, fun a ha => ?_, k.tab⟩
  · rcases List.mem_cons.mp hc with e | e
    · subst e; exact .inr ⟨_, rfl, .ob hC upd_same .nil⟩
    · exact k.ok c e
  · rw [own_cons]
    exact List.nodup_cons.mpr ⟨fun z => r.there p z hp, r.nd⟩
  · rw [own_cons] at ha
    rcases List.mem_cons.mp ha with e | e
    · subst e; exact Same.none r.same hp
    · exact r.fr a e
theorem Stp.allocU {A : List Addr} {p : Addr} {o : HO} (hp : H p = none) : Stp A G H A G (upd H p o) := Stp.weak (Stp.alloc hp) fun b hb => List.mem_cons_of_mem _ hb
/-- a new object and its __init__ -/
theorem handedS {n : Nat} {m : MF} {cs ds : List Cl} {rs : List Rv} {vs : List V} {ss ρr outs : List Sl} {fs : List (Str × Sl)} {fds : List (Str × D)} {Q : VK} {E : XK} {c c' : Str} {C x dx : Addr} (h : Res K mg G H (ds ++ cs)) (hb : Bors (vals cs) rs vs) (e1 : vals ds = vs.map some) (e2 : slots ds = rs.map Rv.sl) (hn : vs.length + 1 = n)
    (hx : H x = none) (hd : H dx = none) (hne : dx ≠ x) (hC : mg c = some (.ref C))
    (ht : takeA (slots cs) rs = some (ss, ρr)) (hm : m (.ob c [] :: ss) = some (.val .non, .ob c' fs :: outs)) (hf : toFz fs = some fds)
    (k : ∀ cs' G' H', vals cs' = vals cs → slots cs' = putA rs outs ρr → Res K mg G' H' (⟨some (.ref x), .fz (.obj c' fds), []⟩ :: cs') → Stp (own (ds ++ cs)) G H (own ((⟨some (.ref x), .fz (.obj c' fds), []⟩ : Cl) :: cs')) G' H' → Q (.ref x) H') :
    spM K mg n m (.ref x :: vs) (upd (upd H dx (.own x)) x (.ins C dx [])) (fun v H2 => v = .non ∧ Q (.ref x) H2) E := by
  obtain ⟨as, cr, f1, f2, f3, f4, f5, f6⟩ := take_ok h hb e1 e2 ht
  have r1 := f5.keepH (o := .own x) hd
  have hx' : upd H dx (.own x) x = none := by rw [upd_ne (Ne.symm hne)]; exact hx
  have r2 := Res.newO (dx := dx) r1 hx' hC
  have s0 : Stp (own (as ++ cr)) G H (own ((⟨some (.ref x), .ob c [], [x]⟩ : Cl) :: (as ++ cr))) G (upd (upd H dx (.own x)) x (.ins C dx [])) := (Stp.allocU hd).trans (by
    rw [own_cons]
    exact Stp.alloc hx')
  refine ⟨⟨some (.ref x), .ob c [], [x]⟩ :: as, G, .val .non, .ob c' fs :: outs, by simp [vals]; exact f1, by simp [hn], Res.left (ds := cr) (by exact r2), by show m (.ob c [] :: slots as) = _; rw [f2]; exact hm, (fun j z => nomatch z), fun cs2 v B G' H' g1 g2 rs' st' => ?_⟩
  cases cs2 with
  | nil => simp [vals] at g1
  | cons c0 as' =>
    obtain ⟨v0, s0', B0⟩ := c0
    simp only [vals, List.map_cons, List.cons.injEq] at g1
    simp only [slots, List.map_cons, List.cons.injEq] at g2
    obtain ⟨g1, g1'⟩ := g1
    obtain ⟨g2, g2'⟩ := g2
    have g1 : v0 = some (.ref x) := g1
    have g2 : s0' = .ob c' fs := g2
    subst g1; subst g2
    obtain ⟨rp, rfl⟩ := rs'.val
    have vn := rp.non_iff
    refine ⟨vn, ?_⟩
    have p0 : List.Perm ((⟨some (.ref x), .ob c [], [x]⟩ : Cl) :: (as ++ cr)) (cr ++ ((⟨some (.ref x), .ob c [], [x]⟩ : Cl) :: as)) := by
      rw [← List.cons_append]
      exact List.perm_append_comm
    have r3 := r2.perm p0
    have r4 := Res.frame r3 st' rs'
    have st4 := Stp.under r3 st'
    have p1 : List.Perm (cr ++ (⟨some v, .fz .non, []⟩ : Cl) :: (⟨some (.ref x), .ob c' fs, B0⟩ : Cl) :: as') ((⟨some v, .fz .non, []⟩ : Cl) :: ((⟨some (.ref x), .ob c' fs, B0⟩ : Cl) :: (as' ++ cr))) := List.perm_middle.trans (List.Perm.cons _ (by
      rw [← List.cons_append]
      exact List.perm_append_comm))
    have r5 := (r4.perm p1).tail
    have tD : Sl.toD (.ob c' fs) = some (.obj c' fds) := by unfold Sl.toD; rw [toFz_toDF hf]; rfl
    obtain ⟨G2, w, ew, rw2, r6, st6⟩ := Res.freeze r5 tD
    obtain ⟨es, q1, q2, q3, q4⟩ := put_ok (rs := rs) (vs := vs) r6 (by rw [f3]; exact hb) g1'
    refine k es G2 H' (q1.trans f3) (by rw [q2]; show putA rs (slots as') (slots cr) = _; rw [f4, show slots as' = outs from g2']) q3 ?_
    have z1 := (s0.perm (own_perm p0)).trans (st4.perm (own_perm p1))
    have z2 : Stp (own (as ++ cr)) G H (own ((⟨some (.ref x), .ob c' fs, B0⟩ : Cl) :: (as' ++ cr))) G' H' := z1.weak fun b hb => by rw [own_cons]; exact List.mem_append_right _ hb
    exact ((z2.trans st6).weak q4).more fun b hb => f6 b hb
end
def mFld (cl : List Str) (f : Str) (a : M) : M := fun ρ => (a ρ).bind fun x => (rsl x.2 x.1).bind fun s => s.flds.bind fun p => @ite _ (p.1 ∈ cl) (Classical.propDecidable _) ((p.2.lookup f).map fun d => (.val d, x.2)) none
def sSetFld (cl : List Str) (i : Nat) (f : Str) (m : M) : MS := fun ρ => (m ρ).bind fun x => (frz1 x.2 x.1).bind fun y => match y.2[i]? with
  | some (.ob c fs) => (toFz fs).bind fun ds => @ite _ (c ∈ cl ∧ ds.length < 1000) (Classical.propDecidable _) (some (.nx, y.2.set i (.ob c (putS f (.fz y.1) fs)))) none
  | _ => none
def mMake (c : Str) (m : MF) (ms : MA) : M := fun ρ => (ms ρ).bind fun y => (takeA y.2 y.1).bind fun z => (m (.ob c [] :: z.1)).bind fun w => match w.1, w.2 with
  | .val .non, .ob c' fs :: outs => (toFz fs).map fun ds => (.val (.obj c' ds), putA y.1 outs z.2)
  | _, _ => none
/-- o.m(..): the receiver is an object of the class c -/
def mMeth (c nm : Str) (m : MF) (o : M) (ms : MA) : M := fun ρ => (o ρ).bind fun x => (rsl x.2 x.1).bind fun s => s.flds.bind fun p => @ite _ (p.1 = c ∧ p.2.lookup nm = none) (Classical.propDecidable _) ((ms x.2).bind fun y => (takeA y.2 (x.1 :: y.1)).bind fun z => (m z.1).bind fun w => match w.1 with
  | .bor _ => none
  | r => some (r, putA (x.1 :: y.1) w.2 z.2)) none
def mProp (c : Str) (m : MF) (o : M) : M := fun ρ => (o ρ).bind fun x => (rsl x.2 x.1).bind fun s => s.flds.bind fun p => @ite _ (p.1 = c) (Classical.propDecidable _) ((takeA x.2 [x.1]).bind fun z => (m z.1).bind fun w => match w.1 with
  | .bor _ => none
  | r => some (r, putA [x.1] w.2 z.2)) none
end
end FW

/-! objects: the readings -/
namespace FW
noncomputable section
open PySem L2
def ClsF (K : PySem.W.Frag) (mg : Str → Option Value) (cl : List Str) (f : Str) : Prop := ∀ c ∈ cl, ∃ C, mg c = some (.ref C) ∧ Cls K C ∧ NoAttr K C f
theorem ClsF.nil {K : PySem.W.Frag} {mg : Str → Option Value} {f : Str} : ClsF K mg [] f := fun _ h => nomatch h
theorem ClsF.cons {K : PySem.W.Frag} {mg : Str → Option Value} {cl : List Str} {f c : Str} {C : Addr} (h : mg c = some (.ref C)) (h1 : Cls K C) (h2 : NoAttr K C f) (r : ClsF K mg cl f) : ClsF K mg (c :: cl) f := fun d hd => by
  rcases List.mem_cons.mp hd with e | e
  · subst e; exact ⟨C, h, h1, h2⟩
  · exact r d e
theorem lenS {ms : MA} {j : Nat} (h : ∀ ρ y, ms ρ = some y → y.1.length = j) : ∀ ρ y, ms ρ = some y → y.1.length + 1 = j + 1 := fun ρ y e => by rw [h ρ y e]
theorem ob_cell {K : PySem.W.Frag} {mg : Str → Option Value} {G H : Hp} {cs : List Cl} {i : Nat} {c : Str} {fs : List (Str × Sl)} {ds : List (Str × D)} (h : Res K mg G H cs) (e : (slots cs)[i]? = some (.ob c fs)) (hf : toFz fs = some ds) :
    ∃ a C dx fvs, cs[i]? = some ⟨some (.ref a), .ob c fs, [a]⟩ ∧ H a = some (.ins C dx fvs) ∧ mg c = some (.ref C) ∧ OwnF K mg G H fs fvs [] := by
  obtain ⟨⟨o, s', A⟩, e5, e6⟩ := cell_at e
  have e6 : s' = .ob c fs := e6
  subst e6
  rcases h.ok _ (List.mem_of_getElem? e5) with ⟨q, _⟩ | ⟨v, hv, o'⟩
  · cases q
  · have hv : o = some v := hv
    subst hv
    have o' : Own K mg G H (.ob c fs) v A := o'
    cases o' with
    | ob m h1 h2 =>
      obtain ⟨z, _⟩ := toFz_own hf h2
      subst z
      exact ⟨_, _, _, _, e5, h1, m, h2⟩
section
variable {X : Cx} {a b c e o tg : Expr} {es : List Expr} {ma mb mc mo : M} {ms : MA} {pos p2 p cpos apos : Pos} {P : Nat → Prop} {k n : Nat} {fa C : Addr} {fd : FuncData} {ps : List Str} {m : MF} {x : Str} {cl : List Str} {f cn nm : Str}
theorem se_fld (hC : ClsF X.K X.mg cl f) (ha : SE X a ma) (hb : attributeBase a f X.env (eval a X.env) = eval a X.env := by rfl) : SE X (.Attribute a f pos) (mFld cl f ma) := PE.imp (pe_fld ha hb) fun σ H Q h => by
  obtain ⟨cs, G, r, ρ', e1, rs, hm, k⟩ := h
  obtain ⟨⟨r1, ρ1⟩, h1, hm⟩ := Option.bind_eq_some_iff.mp hm
  obtain ⟨s, h2, hm⟩ := Option.bind_eq_some_iff.mp hm
  obtain ⟨⟨c0, fs⟩, h3, hm⟩ := Option.bind_eq_some_iff.mp hm
  split at hm
  · rename_i hc
    obtain ⟨d, h4, hm⟩ := Option.map_eq_some_iff.mp hm
    cases hm
    refine ⟨cs, G, r1, _, e1, rs, h1, fun cs1 v B G1 H1 f1 f2 fb rs1 st1 => ?_⟩
    subst f2
    obtain ⟨A, ow⟩ := rsl_own rs1.tail rs1.h1 rfl rfl (by rw [f1]; exact fb) h2 (by rintro rfl; cases h3)
    obtain ⟨a', C, dx, fvs, q1, q2, q3, q4⟩ := flds_own rs1.tail.same ow h3
    obtain ⟨v', q5, q6⟩ := repF_lookup q4 h4
    obtain ⟨C', g1, g2, g3⟩ := hC c0 hc
    rw [q3] at g1
    cases g1
    refine ⟨a', C, dx, fvs, v', q1, q2, g2, g3, q5, ?_⟩
    exact k cs1 _ [] G1 H1 f1 rfl (fun j z => nomatch z) (rs1.tail.addFz q6) (st1.weak fun b hb => by
      rw [own_cons] at hb ⊢
      exact List.mem_append_right _ (by simpa using hb))
  · cases hm
theorem ss_setFld (i : Nat) (hC : ClsF X.K X.mg cl f) {np tp : Pos} (he : SE X e ma)
    (hN : X.N[i]? = some x := by rfl) (hv : Vis X.env.scope x := by first | exact Or.inl rfl | exact Or.inr (Or.inl rfl) | exact Or.inr (Or.inr rfl)) (hd : (x == ("__debug__" : Str)) = false := by decide) (hcd : (x == ("__classdict__" : Str)) = false := by decide)
    (hs : swapsWith e (some (.Attribute (.Name x np) f tp)) pos.line X.env = pure false := by rfl) :
    SS X P (.Assign [.Attribute (.Name x np) f tp] e pos) (sSetFld cl i f ma) := PS.imp (ps_fld (pe_var hN hv hd hcd) he hs) fun D σ H h => by
  obtain ⟨cs, G, k, ρ', e1, rs, hm, q⟩ := h
  obtain ⟨⟨r1, ρ1⟩, h1, hm⟩ := Option.bind_eq_some_iff.mp hm
  obtain ⟨⟨d, ρ2⟩, h2, hm⟩ := Option.bind_eq_some_iff.mp hm
  dsimp only at hm
  split at hm
  · rename_i c0 fs ex
    obtain ⟨ds, h3, hm⟩ := Option.bind_eq_some_iff.mp hm
    split at hm
    · rename_i hc
      cases hm
      refine ⟨cs, G, r1, ρ1, e1, rs, h1, fun cs1 v B G1 H1 f1 f2 fb rs1 st1 => ?_⟩
      subst e1; subst f2
      obtain ⟨cs3, G3, k1, k2, k3, rp, rs3, st3⟩ := frz_ok rs1 (by rw [f1]; exact fb) h2
      subst k2
      obtain ⟨a', C, dx, fvs, q1, q2, q3, q4⟩ := ob_cell rs3 ex h3
      obtain ⟨C', g1, g2, g3⟩ := hC c0 hc.1
      rw [q3] at g1
      cases g1
      have ln : fvs.length < 1000 := by rw [repF_len (toFz_own h3 q4).2]; exact hc.2
      refine ⟨.ref a', by rw [← f1, ← k1, List.getElem?_map, q1]; rfl, a', C, dx, fvs, rfl, q2, g2, g3, ln, ?_⟩
      have wr := Res.write (H' := upd H1 a' (.ins C dx (putF f v fvs))) (c' := ⟨some (.ref a'), .ob c0 (putS f (.fz d) fs), [a']⟩) rs3 q1 (fun b hb => upd_ne (by simpa using hb)) (.inr ⟨_, rfl, .ob (As := []) q3 upd_same (ownF_put rp h3 q4)⟩) rfl (fun b hb => by
        have : b = a' := by simpa using hb
        subst this; rw [upd_same]; simp)
      have ev : vals (cs3.set i ⟨some (.ref a'), .ob c0 (putS f (.fz d) fs), [a']⟩) = vals cs := by rw [set_vals (c' := ⟨some (.ref a'), .ob c0 (putS f (.fz d) fs), [a']⟩) q1 rfl, k1, f1]
      have z := KS.nx q slots_set (len_of ev) (fun _ _ => by rw [ev]) wr.1 (st1.trans (st3.trans wr.2))
      rw [ev] at z
      exact z
    · cases hm
  · cases hm
theorem rd_make (hC : X.mg cn = some (.ref C)) (hl : ∀ ρ y, ms ρ = some y → y.1.length + 1 = n) : ∀ σ H Q, tM X.K X.mg (mMake cn m ms) σ H Q → tMake C (spM X.K X.mg n m) [] E0 (tMA X.K X.mg ms) σ H Q := fun σ H Q h => by
  obtain ⟨cs, G, r, ρ', e1, rs, hm, k⟩ := h
  obtain ⟨⟨r1, ρ1⟩, h1, hm⟩ := Option.bind_eq_some_iff.mp hm
  obtain ⟨⟨ss, ρr⟩, h2, hm⟩ := Option.bind_eq_some_iff.mp hm
  obtain ⟨⟨r2, outs⟩, h3, hm⟩ := Option.bind_eq_some_iff.mp hm
  dsimp only at hm
  split at hm
  · rename_i c' fs outs' he1 he2
    obtain ⟨ds, h4, hm⟩ := Option.map_eq_some_iff.mp hm
    cases hm
    refine ⟨cs, G, r1, ρ1, e1, rs, h1, fun cs1 es vs G1 H1 f1 f2 fb f3 f4 rs1 st1 => ?_⟩
    subst f2
    intro xx dx hx hd hne
    rw [List.append_nil]
    refine handedS rs1 (by rw [f1]; exact fb) f3 f4 (by rw [bors_len fb]; exact hl _ _ h1) hx hd hne hC h2 h3 h4 fun cs2 G2 H2 g1 g2 rs2 st2 => ?_
    exact k cs2 _ [] G2 H2 (g1.trans f1) g2 (fun j z => nomatch z) rs2 (st1.trans st2)
  · cases hm
theorem se_make (Mk_ : Mk X.K C fa) (F : FnOk X.prog X.w X.K X.mg X.base CX0 k fa fd ps (spM X.K X.mg n m)) (hr : Room (k + 1) X.A) (hg : Gl X x) (hm : X.mg x = some (.ref C)) (hb : Binds X.K fd ps [])
    (ha : SA X (e :: es) ms) (hl : ∀ ρ y, ms ρ = some y → y.1.length + 1 = n) (hdb : (x == ("__debug__" : Str)) = false := by decide) (he : starEach (e :: es) X.env = (false, eval e X.env) :: starEach es X.env := by rfl) (hpl : (backTo pos (starEach es X.env)).any (·.1) = false := by rfl) :
    SE X (.Call (.Name x p) (e :: es) [] pos) (mMake x m ms) := PE.imp (pe_make Mk_ F hr hg hm hb .nil pass0 ha hdb he hpl) (rd_make hm hl)
/-- the receiver, checked, and the arguments -/
theorem rd_meth (hC : X.mg cn = some (.ref C)) (hl : ∀ ρ y, ms ρ = some y → y.1.length + 1 = n) : ∀ σ H Q, tM X.K X.mg (mMeth cn nm m mo ms) σ H Q → tMeth C nm (spM X.K X.mg n m) [] E0 (tM X.K X.mg mo) (tMA X.K X.mg ms) σ H Q := fun σ H Q h => by
  obtain ⟨cs, G, r, ρ', e1, rs, hm0, k⟩ := h
  obtain ⟨⟨r1, ρ1⟩, h1, hm1⟩ := Option.bind_eq_some_iff.mp hm0
  obtain ⟨s, h2, hm2⟩ := Option.bind_eq_some_iff.mp hm1
  obtain ⟨⟨c0, fs⟩, h3, hm3⟩ := Option.bind_eq_some_iff.mp hm2
  by_cases hc : c0 = cn ∧ fs.lookup nm = none
  · dsimp only at hm3
    rw [if_pos hc] at hm3
    obtain ⟨hc1, hc2⟩ := hc
    subst hc1
    obtain ⟨⟨r2, ρ2⟩, h4, hm⟩ := Option.bind_eq_some_iff.mp hm3
    obtain ⟨⟨ss, ρr⟩, h5, hm⟩ := Option.bind_eq_some_iff.mp hm
    obtain ⟨⟨r3, outs⟩, h6, hm⟩ := Option.bind_eq_some_iff.mp hm
    have hr : (∀ j, r3 ≠ .bor j) ∧ r = r3 ∧ ρ' = putA (r1 :: r2) outs ρr := by
      cases r3 with
      | bor j => cases hm
      | val d => cases hm; exact ⟨(fun j z => nomatch z), rfl, rfl⟩
      | own s => cases hm; exact ⟨(fun j z => nomatch z), rfl, rfl⟩
    obtain ⟨hr, q1, q2⟩ := hr
    subst q1; subst q2
    refine ⟨cs, G, r1, ρ1, e1, rs, h1, fun cs1 v B G1 H1 f1 f2 fb rs1 st1 => ?_⟩
    subst f2
    obtain ⟨A, ow⟩ := rsl_own rs1.tail rs1.h1 rfl rfl (by rw [f1]; exact fb) h2 (by rintro rfl; cases h3)
    obtain ⟨a', C', dx, fvs, q1, q2, q3, q4⟩ := flds_own rs1.tail.same ow h3
    rw [hC] at q3
    cases q3
    refine ⟨a', dx, fvs, q1, q2, repF_none q4 hc2, cs1, G1, r2, ρ2, f1, rs1.tail, h4, fun cs2 es vs G2 H2 g1 g2 gb g3 g4 rs2 st2 => ?_⟩
    subst g2
    rw [List.append_nil]
    have rA := Res.frame (ds := [_]) rs1 st2 rs2
    have sA := st1.trans (Stp.under (ds := [_]) rs1 st2)
    refine handed (ds := ⟨some v, r1.sl, B⟩ :: es) (rs := r1 :: r2) (vs := v :: vs) (by exact rA) (by rw [g1]; exact ⟨fb, gb⟩) (by show some v :: vals es = _; rw [g3]; rfl) (by show r1.sl :: slots es = _; rw [g4]; rfl) (by simp [bors_len gb]; exact hl _ _ h4) h5 h6 hr fun cs3 w B3 G3 H3 k1 k2 rs3 st3 => ?_
    exact k cs3 w B3 G3 H3 (k1.trans g1) k2 (fun j z => absurd z (hr j)) rs3 (sA.trans st3)
  · dsimp only at hm3
    rw [if_neg hc] at hm3
    cases hm3
theorem se_meth {pl : Sem Bool} (cc : Cls X.K C) (hm : Meth X.K C nm fa) (hC : X.mg cn = some (.ref C)) (F : FnOk X.prog X.w X.K X.mg X.base CX0 k fa fd ps (spM X.K X.mg n m)) (hr : Room k X.A) (hb : Binds X.K fd ps []) (ho : SE X o mo)
    (ha : SA X (e :: es) ms) (hl : ∀ ρ y, ms ρ = some y → y.1.length + 1 = n)
    (hst : starEach (e :: es) X.env = (false, eval e X.env) :: starEach es X.env := by rfl) (hpl : (backTo pos (starEach es X.env)).any (·.1) = false := by rfl)
    (ht : eval (.Call (.Attribute o nm apos) (e :: es) [] pos) X.env = (do
      let ov ← eval o X.env
      standAt apos.atName
      let (f, first) ← holding [ov] (getMethod ov nm pl)
      callWith pos f first (backTo pos (starEach (e :: es) X.env)) (backToKw pos (keywordEach [] X.env))) := by rfl) :
    SE X (.Call (.Attribute o nm apos) (e :: es) [] pos) (mMeth cn nm m mo ms) := PE.imp (pe_meth ho cc hm F hr hb .nil pass0 ha hst hpl ht) (rd_meth hC hl)
theorem se_meth0 {pl : Sem Bool} (cc : Cls X.K C) (hm : Meth X.K C nm fa) (hC : X.mg cn = some (.ref C)) (F : FnOk X.prog X.w X.K X.mg X.base CX0 k fa fd ps (spM X.K X.mg 1 m)) (hr : Room k X.A) (hb : Binds X.K fd ps []) (ho : SE X o mo)
    (ht : eval (.Call (.Attribute o nm apos) [] [] pos) X.env = (do
      let ov ← eval o X.env
      standAt apos.atName
      let (f, first) ← holding [ov] (getMethod ov nm pl)
      callWith pos f first (backTo pos (starEach [] X.env)) (backToKw pos (keywordEach [] X.env))) := by rfl) :
    SE X (.Call (.Attribute o nm apos) [] [] pos) (mMeth cn nm m mo aNil) := PE.imp (pe_meth0 ho cc hm F hr hb .nil pass0 ht) fun σ H Q h => by
  have := rd_meth (n := 1) hC (fun ρ y h => by cases h; rfl) σ H Q h
  obtain ⟨cs, G, r, ρ', e1, rs, hm, k⟩ := this
  refine ⟨cs, G, r, ρ', e1, rs, hm, fun cs' v B G' H' f1 f2 fb rs' st' => ?_⟩
  obtain ⟨a', dx, fs, q1, q2, q3, q4⟩ := k cs' v B G' H' f1 f2 fb rs' st'
  refine ⟨a', dx, fs, q1, q2, q3, ?_⟩
  obtain ⟨cs1, G1, r1, ρ1, g1, g2, g3, g4⟩ := q4
  cases g3
  exact g4 cs1 [] [] G1 H' g1 rfl trivial rfl rfl g2 Stp.refl
theorem rd_prop (hC : X.mg cn = some (.ref C)) : ∀ σ H Q, tM X.K X.mg (mProp cn m mo) σ H Q → tProp C (spM X.K X.mg 1 m) [] E0 (tM X.K X.mg mo) σ H Q := fun σ H Q h => by
  obtain ⟨cs, G, r, ρ', e1, rs, hm0, k⟩ := h
  obtain ⟨⟨r1, ρ1⟩, h1, hm1⟩ := Option.bind_eq_some_iff.mp hm0
  obtain ⟨s, h2, hm2⟩ := Option.bind_eq_some_iff.mp hm1
  obtain ⟨⟨c0, fs⟩, h3, hm3⟩ := Option.bind_eq_some_iff.mp hm2
  by_cases hc1 : c0 = cn
  · dsimp only at hm3
    rw [if_pos hc1] at hm3
    subst hc1
    obtain ⟨⟨ss, ρr⟩, h5, hm⟩ := Option.bind_eq_some_iff.mp hm3
    obtain ⟨⟨r3, outs⟩, h6, hm⟩ := Option.bind_eq_some_iff.mp hm
    have hr : (∀ j, r3 ≠ .bor j) ∧ r = r3 ∧ ρ' = putA [r1] outs ρr := by
      cases r3 with
      | bor j => cases hm
      | val d => cases hm; exact ⟨(fun j z => nomatch z), rfl, rfl⟩
      | own s => cases hm; exact ⟨(fun j z => nomatch z), rfl, rfl⟩
    obtain ⟨hr, q1, q2⟩ := hr
    subst q1; subst q2
    refine ⟨cs, G, r1, ρ1, e1, rs, h1, fun cs1 v B G1 H1 f1 f2 fb rs1 st1 => ?_⟩
    subst f2
    obtain ⟨A, ow⟩ := rsl_own rs1.tail rs1.h1 rfl rfl (by rw [f1]; exact fb) h2 (by rintro rfl; cases h3)
    obtain ⟨a', C', dx, fvs, q1, q2, q3, q4⟩ := flds_own rs1.tail.same ow h3
    rw [hC] at q3
    cases q3
    subst q1
    refine ⟨a', dx, fvs, rfl, q2, ?_⟩
    refine handed (ds := [⟨some (.ref a'), r1.sl, B⟩]) (rs := [r1]) (vs := [.ref a']) (by exact rs1) (by rw [f1]; exact ⟨fb, trivial⟩) rfl rfl rfl h5 h6 hr fun cs3 w B3 G3 H3 k1 k2 rs3 st3 => ?_
    exact k cs3 w B3 G3 H3 (k1.trans f1) k2 (fun j z => absurd z (hr j)) rs3 (st1.trans st3)
  · dsimp only at hm3
    rw [if_neg hc1] at hm3
    cases hm3
theorem se_prop {pa : Addr} (cc : Cls X.K C) (hp : PropOf X.K C f pa fa) (hC : X.mg cn = some (.ref C)) (F : FnOk X.prog X.w X.K X.mg X.base CX0 k fa fd ps (spM X.K X.mg 1 m)) (hr : Room (k + 1) X.A) (hb : Binds X.K fd ps []) (ho : SE X o mo)
    (hab : attributeBase o f X.env (eval o X.env) = eval o X.env := by rfl) : SE X (.Attribute o f pos) (mProp cn m mo) := PE.imp (pe_prop ho cc hp F hr hb .nil pass0 hab) (rd_prop hC)
end
section
variable {ρ : List Sl} {a b : M} {ms : MA}
@[simp] theorem r_toFz_nil : toFz [] = some [] := rfl
@[simp] theorem r_toFz_cons (f : Str) (d : D) (r : List (Str × Sl)) : toFz ((f, .fz d) :: r) = (toFz r).map ((f, d) :: ·) := rfl
@[simp] theorem r_flds_obj (c : Str) (fs : List (Str × D)) : Sl.flds (.fz (.obj c fs)) = some (c, fs) := rfl
@[simp] theorem r_flds_ob (c : Str) (fs : List (Str × Sl)) : Sl.flds (.ob c fs) = (toFz fs).map fun ds => (c, ds) := rfl
@[simp] theorem r_putS_nil (f : Str) (s : Sl) : putS f s [] = [(f, s)] := rfl
@[simp] theorem r_putS_cons (f g : Str) (s t : Sl) (r : List (Str × Sl)) : putS f s ((g, t) :: r) = if g = f then (g, s) :: r else (g, t) :: putS f s r := rfl
@[simp] theorem r_fld (cl : List Str) (f : Str) : mFld cl f a ρ = (a ρ).bind fun x => (rsl x.2 x.1).bind fun s => s.flds.bind fun p => ifc (p.1 ∈ cl) ((p.2.lookup f).map fun d => (.val d, x.2)) none := rfl
@[simp] theorem r_setFld (cl : List Str) (i : Nat) (f : Str) : sSetFld cl i f a ρ = (a ρ).bind fun x => (frz1 x.2 x.1).bind fun y => match y.2[i]? with
  | some (.ob c fs) => (toFz fs).bind fun ds => ifc (c ∈ cl ∧ ds.length < 1000) (some (.nx, y.2.set i (.ob c (putS f (.fz y.1) fs)))) none
  | _ => none := rfl
@[simp] theorem r_make (c : Str) (m : MF) : mMake c m ms ρ = (ms ρ).bind fun y => (takeA y.2 y.1).bind fun z => (m (.ob c [] :: z.1)).bind fun w => match w.1, w.2 with
  | .val .non, .ob c' fs :: outs => (toFz fs).map fun ds => (.val (.obj c' ds), putA y.1 outs z.2)
  | _, _ => none := rfl
@[simp] theorem r_meth (c nm : Str) (m : MF) : mMeth c nm m a ms ρ = (a ρ).bind fun x => (rsl x.2 x.1).bind fun s => s.flds.bind fun p => ifc (p.1 = c ∧ p.2.lookup nm = none) ((ms x.2).bind fun y => (takeA y.2 (x.1 :: y.1)).bind fun z => (m z.1).bind fun w => match w.1 with
  | .bor _ => none
  | r => some (r, putA (x.1 :: y.1) w.2 z.2)) none := rfl
@[simp] theorem r_prop (c : Str) (m : MF) : mProp c m a ρ = (a ρ).bind fun x => (rsl x.2 x.1).bind fun s => s.flds.bind fun p => ifc (p.1 = c) ((takeA x.2 [x.1]).bind fun z => (m z.1).bind fun w => match w.1 with
  | .bor _ => none
  | r => some (r, putA [x.1] w.2 z.2)) none := rfl
end
end
end FW

/-! sums, falling lists, sublists -/
namespace FW
open PySem L2
theorem sumL_dI (l : List Int) : sumL (l.map D.int) = some (.val (.int l.sum)) := by
  unfold sumL
  rw [ints?_dI]; rfl
theorem sortDL_dI (l : List Int) : sortDL (l.map D.int) = some (.own (.ow (dI (sortDn l)))) := by
  unfold sortDL
  rw [ints?_dI]; rfl
@[simp] theorem sortDn_len (l : List Int) : (sortDn l).length = l.length := (sortDn_perm l).length_eq
theorem perm_sum {a b : List Int} (h : a.Perm b) : a.sum = b.sum := by
  induction h with
  | nil => rfl
  | cons x _ ih => simp [ih]
  | swap x y l => simp; omega
  | trans _ _ h1 h2 => exact h1.trans h2
theorem sub_one {s : List Int} {x : Int} (h : s.Sublist [x]) : s = [] ∨ s = [x] := by
  cases h with
  | cons _ h => exact .inl (List.sublist_nil.mp h)
  | cons_cons _ h => exact .inr (by rw [List.sublist_nil.mp h])
theorem sortDn_sum (l : List Int) : (sortDn l).sum = l.sum := perm_sum (sortDn_perm l)
theorem take_drop_sum (l : List Int) (k : Nat) : (l.take k).sum + (l.drop k).sum = l.sum := by
  rw [← List.sum_append, List.take_append_drop]
theorem take_le {a : Int} : ∀ {M : List Int} {j : Nat}, (∀ x ∈ M, x ≤ a) → j < M.length → (M.take (j + 1)).sum ≤ a + (M.take j).sum
  | x :: M, 0, h, _ => by have := h x (by simp); simpa using this
  | x :: M, j + 1, h, hj => by
    have := take_le (M := M) (j := j) (fun y hy => h y (by simp [hy])) (by simpa using hj)
    rw [List.take_succ_cons, List.take_succ_cons, List.sum_cons, List.sum_cons]
    omega
/-- of a falling list no choice is more than the head -/
theorem sub_le : ∀ {s M : List Int}, s.Sublist M → M.Pairwise (· ≥ ·) → s.sum ≤ (M.take s.length).sum := by
  intro s M h
  induction h with
  | slnil => intro _; simp
  | @cons s M a h ih =>
    intro p
    obtain ⟨p1, p2⟩ := List.pairwise_cons.mp p
    have i := ih p2
    cases s with
    | nil => simp
    | cons b s =>
      rw [List.length_cons, List.take_succ_cons, List.sum_cons (a := a)]
      rw [List.length_cons] at i
      have := take_le (M := M) (j := s.length) (fun x hx => p1 x hx) (by have := h.length_le; simp at this; omega)
      omega
  | @cons_cons s M a h ih =>
    intro p
    obtain ⟨p1, p2⟩ := List.pairwise_cons.mp p
    have i := ih p2
    rw [List.length_cons, List.take_succ_cons, List.sum_cons, List.sum_cons]
    omega
/-- all choices of a list: how many, how much -/
def chs (l : List Int) : List (Int × Int) := l.foldl (fun f x => f ++ f.map fun p => (p.1 + 1, p.2 + x)) [(0, 0)]
theorem chs_snoc (l : List Int) (x : Int) : chs (l ++ [x]) = chs l ++ (chs l).map fun p => (p.1 + 1, p.2 + x) := by simp [chs]
theorem chs_len (l : List Int) : (chs l).length = 2 ^ l.length := by
  induction l using snocRec with
  | h0 => simp [chs]
  | h l a ih => rw [chs_snoc]; simp [ih, Nat.pow_succ]; omega
theorem chs_mem (l : List Int) : ∀ p : Int × Int, p ∈ chs l ↔ ∃ s : List Int, s.Sublist l ∧ (s.length : Int) = p.1 ∧ s.sum = p.2 := by
  induction l using snocRec with
  | h0 =>
    intro p
    simp [chs]
    constructor
    · rintro rfl; simp
    · rintro ⟨h1, h2⟩; exact Prod.ext h1.symm h2.symm
  | h l x ih =>
    intro p
    rw [chs_snoc, List.mem_append, List.mem_map]
    constructor
    · rintro (h | ⟨q, hq, rfl⟩)
      · obtain ⟨s, h1, h2, h3⟩ := (ih p).mp h
        exact ⟨s, h1.trans (List.sublist_append_left _ _), h2, h3⟩
      · obtain ⟨s, h1, h2, h3⟩ := (ih q).mp hq
        exact ⟨s ++ [x], List.Sublist.append h1 (List.Sublist.refl _), by simp; omega, by simp; omega⟩
    · rintro ⟨s, h1, h2, h3⟩
      obtain ⟨s1, s2, rfl, g1, g2⟩ := List.sublist_append_iff.mp h1
      rcases sub_one g2 with z | z
      · subst z
        rw [List.append_nil] at h2 h3
        exact .inl ((ih p).mpr ⟨s1, g1, h2, h3⟩)
      · subst z
        refine .inr ⟨(p.1 - 1, p.2 - x), (ih _).mpr ⟨s1, g1, ?_, ?_⟩, Prod.ext (by simp) (by simp)⟩
        · simp at h2 ⊢; omega
        · simp at h3 ⊢; omega
theorem chs_le {l : List Int} {p : Int × Int} (h : p ∈ chs l) : ∃ k : Nat, p.1 = k ∧ k ≤ l.length ∧ p.2 ≤ ((sortDn l).take k).sum := by
  obtain ⟨s, h1, h2, h3⟩ := (chs_mem l p).mp h
  obtain ⟨s', g1, g2⟩ := List.exists_perm_sublist h1 (sortDn_perm l).symm
  have := sub_le g2 (sortDn_pw l)
  refine ⟨s.length, h2.symm, h1.length_le, ?_⟩
  rw [← h3, ← perm_sum g1, ← g1.length_eq]
  exact this
theorem chs_head {l : List Int} {k : Nat} (h : k ≤ l.length) : ((k : Int), ((sortDn l).take k).sum) ∈ chs l := by
  obtain ⟨s', g1, g2⟩ := List.exists_perm_sublist (List.take_sublist k (sortDn l)) (sortDn_perm l)
  refine (chs_mem l _).mpr ⟨s', g2, ?_, perm_sum g1⟩
  rw [g1.length_eq]
  simp; omega
end FW

/-! len(o) by an own __len__ -/
namespace FW
noncomputable section
open PySem L2
def rLenO (C : Addr) (sp : Sp) : List V → Hp → VK → Prop := fun xs H Q => ∃ a dx fs, xs = [.ref a] ∧ H a = some (.ins C dx fs) ∧ sp [.ref a] H (fun v H' => ∃ n, v = .int n ∧ (0 ≤ n ∧ n < 2 ^ 63) ∧ Q (.int n) H') E0
theorem call_lenO {X : Cx} {k : Nat} {C f : Addr} {fd : FuncData} {ps : List Str} {sp : Sp} (F : FnOk X.prog X.w X.K X.mg X.base CX0 k f fd ps sp) (hr : Room (k + 1) X.A) (hb : Binds X.K fd ps [])
    (hs : PySem.W.findIn X.K (.ref C) "__len__" = some (some (.ref f))) (hf : PySem.W.isFn X.K (.ref f) = true) : CallR X (.builtin "len") (rLenO C sp) := by
  intro pins s σ H xs us Q I r h
  obtain ⟨a, dx, fs, rfl, ea, h⟩ := h
  obtain ⟨u, rfl, ru⟩ := vals1 r
  obtain rfl : u = Value.ref a := ru
  obtain ⟨mA, J, _⟩ := ins_get I.hok ea
  obtain ⟨od, J, _⟩ := J.look
  obtain ⟨m, hF⟩ := I.fr
  have hl := F.len _ _ _ _ h
  refine PySem.W.len_K hF I.ok.mod.kin J hs hf ?_
  refine wpAny_call (codeAny_mono (F.run X.A.in1 X.stack s H ⟨[.ref a], []⟩ [.ref a] [.ref a] _ E0 hr.in1 I.env0.in1 (by
    have := hb s [.ref a] I.kIn (by simpa using hl)
    simpa using this) (.cons rfl .nil) h) fun r s' hq => ?_)
  cases r with
  | error e => exact False.elim hq
  | ok fl =>
    cases fl with
    | ret u =>
      obtain ⟨v, H', I3, rv, n, rfl, hn, q⟩ := I.after hq
      obtain ⟨t, rfl⟩ := rv
      exact ⟨hn, .int n, H', I3.tok _, ⟨_, rfl⟩, q⟩
    | next => exact False.elim hq
    | brk => exact False.elim hq
    | cont => exact False.elim hq
def mLenO (c : Str) (m : MF) (o : M) : M := fun ρ => (mProp c m o ρ).bind fun x => match x.1 with
  | .val (.int n) => @ite _ (0 ≤ n ∧ n < 2 ^ 63) (Classical.propDecidable _) (some (.val (.int n), x.2)) none
  | _ => none
section
variable {X : Cx} {e o : Expr} {mo : M} {pos p : Pos} {k : Nat} {f C : Addr} {fd : FuncData} {ps : List Str} {m : MF} {cn : Str}
theorem b_lenO (hz : X.mg "len" = none) (hC : X.mg cn = some (.ref C)) (hs : PySem.W.findIn X.K (.ref C) "__len__" = some (some (.ref f))) (hf : PySem.W.isFn X.K (.ref f) = true) (F : FnOk X.prog X.w X.K X.mg X.base CX0 k f fd ps (spM X.K X.mg 1 m)) (hr : Room (k + 1) X.A) (hb : Binds X.K fd ps [])
    (ho : SE X o mo) (hg : Gl X "len" := by rfl) (he : starEach [o] X.env = (false, eval o X.env) :: starEach [] X.env := by rfl) : SE X (.Call (.Name "len" p) [o] [] pos) (mLenO cn m mo) := PE.imp (pe_callB (call_lenO F hr hb hs hf) hg hz PySem.boot_len (sa_cons ho sa_nil he) (by decide) (by decide) he rfl) fun σ H Q h => by
  obtain ⟨cs, G, r, ρ', e1, rs, hm, k⟩ := h
  obtain ⟨⟨r1, ρ1⟩, h1, hm⟩ := Option.bind_eq_some_iff.mp hm
  dsimp only at hm
  split at hm
  · rename_i n
    split at hm
    · rename_i hn
      cases hm
      have tp := rd_prop hC σ H (fun v H' => ∃ n, v = .int n ∧ (0 ≤ n ∧ n < 2 ^ 63) ∧ Q (.int n) H') ⟨cs, G, .val (.int n), _, e1, rs, h1, fun cs' v B G' H' f1 f2 fb rs' st' => by
        obtain ⟨rp, hB⟩ := rs'.val
        have := rp.int_iff
        subst this
        exact ⟨n, rfl, hn, k cs' _ B G' H' f1 f2 fb rs' st'⟩⟩
      obtain ⟨cs1, G1, r2, ρ2, f1, rs1, g1, k1⟩ := tp
      refine ⟨cs1, G1, [r2], ρ2, f1, rs1, by show (mo _).bind _ = _; rw [g1]; rfl, fun cs2 ds vs G2 H2 j1 j2 jb j3 j4 rs2 st2 => ?_⟩
      cases vs with
      | nil => exact jb.elim
      | cons v vs =>
        cases vs with
        | cons _ _ => exact jb.2.elim
        | nil =>
          cases ds with
          | nil => simp [slots] at j4
          | cons d ds =>
            cases ds with
            | cons _ _ => simp [slots] at j4
            | nil =>
              obtain ⟨dv, dsl, dB⟩ := d
              have e3 : dv = some v := by simpa [vals] using j3
              have e4 : dsl = r2.sl := by simpa [slots] using j4
              subst e3; subst e4
              obtain ⟨a, dx, fs, q1, q2, q3⟩ := k1 cs2 v dB G2 H2 j1 j2 jb.1 rs2 st2
              subst q1
              exact ⟨a, dx, fs, rfl, q2, q3⟩
    · cases hm
  · cases hm
end
@[simp] theorem r_lenO {ρ : List Sl} {a : M} (c : Str) (m : MF) : mLenO c m a ρ = (mProp c m a ρ).bind fun x => match x.1 with
  | .val (.int n) => ifc (0 ≤ n ∧ n < 2 ^ 63) (some (.val (.int n), x.2)) none
  | _ => none := rfl
end
end FW

/-! cuts of a list of numbers, heads and tails -/
namespace FW
open PySem L2
def bel (c : Int) (l : List Int) : Int := (l.map fun x => if c < x then c else x).sum
def abv (c : Int) (l : List Int) : Int := (l.map fun x => if 0 < x - c then x - c else 0).sum
theorem bel_app (c : Int) (a b : List Int) : bel c (a ++ b) = bel c a + bel c b := by simp [bel]
theorem abv_app (c : Int) (a b : List Int) : abv c (a ++ b) = abv c a + abv c b := by simp [abv]
theorem map_perm_sum (f : Int → Int) {a b : List Int} (h : a.Perm b) : (a.map f).sum = (b.map f).sum := perm_sum (h.map f)
theorem bel_dn (c : Int) (l : List Int) : bel c (sortDn l) = bel c l := map_perm_sum _ (sortDn_perm l)
theorem abv_dn (c : Int) (l : List Int) : abv c (sortDn l) = abv c l := map_perm_sum _ (sortDn_perm l)
theorem bel_le (c : Int) : ∀ l : List Int, bel c l ≤ c * l.length
  | [] => by simp [bel]
  | x :: l => by
    have := bel_le c l
    simp only [bel, List.map_cons, List.sum_cons, List.length_cons, Int.natCast_add, Int.mul_add] at this ⊢
    split <;> omega
theorem bel_le' (c : Int) : ∀ l : List Int, bel c l ≤ l.sum
  | [] => by simp [bel]
  | x :: l => by
    have := bel_le' c l
    simp only [bel, List.map_cons, List.sum_cons] at this ⊢
    split <;> omega
theorem bel_big (c : Int) : ∀ l : List Int, (∀ x ∈ l, c ≤ x) → bel c l = c * l.length
  | [], _ => by simp [bel]
  | x :: l, h => by
    have := bel_big c l fun y hy => h y (by simp [hy])
    have hx := h x (by simp)
    simp only [bel, List.map_cons, List.sum_cons, List.length_cons, Int.natCast_add, Int.mul_add] at this ⊢
    split <;> omega
theorem bel_small (c : Int) : ∀ l : List Int, (∀ x ∈ l, x ≤ c) → bel c l = l.sum
  | [], _ => by simp [bel]
  | x :: l, h => by
    have := bel_small c l fun y hy => h y (by simp [hy])
    have hx := h x (by simp)
    simp only [bel, List.map_cons, List.sum_cons] at this ⊢
    split <;> omega
theorem abv_ge (c : Int) : ∀ l : List Int, l.sum ≤ abv c l + c * l.length
  | [] => by simp [abv]
  | x :: l => by
    have := abv_ge c l
    simp only [abv, List.map_cons, List.sum_cons, List.length_cons, Int.natCast_add, Int.mul_add] at this ⊢
    split <;> omega
theorem abv_nn (c : Int) : ∀ l : List Int, 0 ≤ abv c l
  | [] => by simp [abv]
  | x :: l => by
    have := abv_nn c l
    simp only [abv, List.map_cons, List.sum_cons] at this ⊢
    split <;> omega
theorem abv_big (c : Int) : ∀ l : List Int, (∀ x ∈ l, c ≤ x) → abv c l + c * l.length = l.sum
  | [], _ => by simp [abv]
  | x :: l, h => by
    have := abv_big c l fun y hy => h y (by simp [hy])
    have hx := h x (by simp)
    simp only [abv, List.map_cons, List.sum_cons, List.length_cons, Int.natCast_add, Int.mul_add] at this ⊢
    split <;> omega
theorem abv_small (c : Int) : ∀ l : List Int, (∀ x ∈ l, x ≤ c) → abv c l = 0
  | [], _ => by simp [abv]
  | x :: l, h => by
    have := abv_small c l fun y hy => h y (by simp [hy])
    have hx := h x (by simp)
    simp only [abv, List.map_cons, List.sum_cons] at this ⊢
    split <;> omega
/-- the cut that tells the place k: the value there, or 0 -/
def cutAt (l : List Int) (k : Nat) : Int := (sortDn l).getD k 0
theorem cut_up {l : List Int} (h : ∀ x ∈ l, 0 ≤ x) (k : Nat) : ∀ x ∈ (sortDn l).take k, cutAt l k ≤ x := by
  have pw := sortDn_pw l
  intro x hx
  unfold cutAt
  by_cases hk : k < (sortDn l).length
  · have e : (sortDn l).getD k 0 ∈ (sortDn l).drop k := by
      have g : (sortDn l)[k] ∈ (sortDn l).drop k := by
        rw [List.drop_eq_getElem_cons hk]
        exact List.mem_cons_self
      rw [List.getD_eq_getElem?_getD, List.getElem?_eq_getElem hk]
      exact g
    rw [← List.take_append_drop k (sortDn l)] at pw
    have := (List.pairwise_append.mp pw).2.2 x hx _ e
    exact this
  · rw [List.getD_eq_getElem?_getD, List.getElem?_eq_none (by omega)]
    exact h x ((sortDn_perm l).mem_iff.mp (List.mem_of_mem_take hx))
theorem cut_dn {l : List Int} (k : Nat) : ∀ x ∈ (sortDn l).drop k, x ≤ cutAt l k := by
  have pw := sortDn_pw l
  intro x hx
  unfold cutAt
  by_cases hk : k < (sortDn l).length
  · rw [List.getD_eq_getElem?_getD, List.getElem?_eq_getElem hk]
    rw [List.drop_eq_getElem_cons hk] at hx
    have pd : ((sortDn l).drop k).Pairwise (· ≥ ·) := pw.sublist (List.drop_sublist _ _)
    rw [List.drop_eq_getElem_cons hk] at pd
    rcases List.mem_cons.mp hx with e | e
    · subst e; simp
    · have := (List.pairwise_cons.mp pd).1 x e
      simpa using this
  · rw [List.drop_eq_nil_of_le (by omega)] at hx
    cases hx
theorem take_len_le (l : List Int) (k : Nat) : (((sortDn l).take k).length : Int) ≤ k := by rw [List.length_take]; omega
/-- below a cut there is no more than the tail and k times the cut -/
theorem bel_tl (l : List Int) (k : Nat) {c : Int} (hc : 0 ≤ c) : bel c l ≤ ((sortDn l).drop k).sum + k * c := by
  rw [← bel_dn, ← List.take_append_drop k (sortDn l), bel_app]
  have h1 := bel_le c ((sortDn l).take k)
  have h2 := bel_le' c ((sortDn l).drop k)
  have h3 : c * (((sortDn l).take k).length : Int) ≤ c * (k : Int) := Int.mul_le_mul_of_nonneg_left (take_len_le l k) hc
  have h4 : c * (k : Int) = k * c := Int.mul_comm _ _
  rw [List.take_append_drop]
  omega
theorem bel_cut {l : List Int} (h : ∀ x ∈ l, 0 ≤ x) (k : Nat) : bel (cutAt l k) l = ((sortDn l).drop k).sum + k * cutAt l k := by
  rw [← bel_dn]
  have e := List.take_append_drop k (sortDn l)
  rw [← e, bel_app, bel_big _ _ (cut_up h k), bel_small _ _ (cut_dn k), e]
  by_cases hk : k ≤ (sortDn l).length
  · rw [List.length_take, Nat.min_eq_left hk, Int.mul_comm]; omega
  · have z : cutAt l k = 0 := by unfold cutAt; rw [List.getD_eq_getElem?_getD, List.getElem?_eq_none (by omega)]; rfl
    rw [z]; omega
theorem abv_hd (l : List Int) (k : Nat) {c : Int} (hc : 0 ≤ c) : ((sortDn l).take k).sum ≤ abv c l + k * c := by
  rw [← abv_dn]
  have e := List.take_append_drop k (sortDn l)
  have h0 : abv c (sortDn l) = abv c ((sortDn l).take k) + abv c ((sortDn l).drop k) := by rw [← abv_app, e]
  have h1 := abv_ge c ((sortDn l).take k)
  have h2 := abv_nn c ((sortDn l).drop k)
  have h3 : c * (((sortDn l).take k).length : Int) ≤ c * (k : Int) := Int.mul_le_mul_of_nonneg_left (take_len_le l k) hc
  have h4 : c * (k : Int) = k * c := Int.mul_comm _ _
  omega
theorem abv_cut {l : List Int} (h : ∀ x ∈ l, 0 ≤ x) (k : Nat) : ((sortDn l).take k).sum = abv (cutAt l k) l + k * cutAt l k := by
  rw [← abv_dn]
  have e := List.take_append_drop k (sortDn l)
  have h0 : abv (cutAt l k) (sortDn l) = abv (cutAt l k) ((sortDn l).take k) + abv (cutAt l k) ((sortDn l).drop k) := by rw [← abv_app, e]
  have h1 := abv_big _ _ (cut_up h k)
  have h2 := abv_small _ _ (cut_dn (l := l) k)
  by_cases hk : k ≤ (sortDn l).length
  · rw [List.length_take, Nat.min_eq_left hk, Int.mul_comm] at h1; omega
  · have z : cutAt l k = 0 := by unfold cutAt; rw [List.getD_eq_getElem?_getD, List.getElem?_eq_none (by omega)]; rfl
    rw [z] at h0 h1 h2 ⊢
    simp at h1
    omega
theorem cutAt_mem {l : List Int} {t : Int} (h : ∀ x ∈ l, 0 ≤ x ∧ x ≤ t) (ht : 0 ≤ t) (k : Nat) : 0 ≤ cutAt l k ∧ cutAt l k ≤ t := by
  unfold cutAt
  by_cases hk : k < (sortDn l).length
  · rw [List.getD_eq_getElem?_getD, List.getElem?_eq_getElem hk]
    exact h _ ((sortDn_perm l).mem_iff.mp (List.getElem_mem hk))
  · rw [List.getD_eq_getElem?_getD, List.getElem?_eq_none (by omega)]
    exact ⟨by decide, ht⟩
end FW

/-! o == p, o + p by own __eq__, __add__ of the left one's class (both of it) -/
namespace FW
noncomputable section
open PySem L2
def rOpO (C : Addr) (sp : Sp) : R2 := fun x y H Q => ∃ a b dx dy fs gs, x = .ref a ∧ y = .ref b ∧ H a = some (.ins C dx fs) ∧ H b = some (.ins C dy gs) ∧ sp [x, y] H (fun v H' => ((∃ k, v = .bl k) ∨ ∃ r, v = .ref r) ∧ Q v H') E0
section
variable {X : Cx} {k : Nat} {C f : Addr} {fd : FuncData} {ps : List Str} {sp : Sp}
/-- the method runs -/
theorem run_own {pins : List (Addr × Obj)} {σ : St} {H : Hp} {s : Shared} {Q : VK} {a b : Addr} (F : FnOk X.prog X.w X.K X.mg X.base CX0 k f fd ps sp) (hr : Room k X.A) (hb : Binds X.K fd ps []) (I : Inv X pins σ H s)
    (h : sp [.ref a, .ref b] H (fun v H' => ((∃ k, v = .bl k) ∨ ∃ r, v = .ref r) ∧ Q v H') E0) : wpAny (model X.prog X.w) X.A (call (.ref f) [.ref a, .ref b]) (PySem.W.CmpBack (EP X pins σ Q)) X.xe s := by
  have hl := F.len _ _ _ _ h
  refine wpAny_call (codeAny_mono (F.run X.A X.stack s H ⟨[.ref a, .ref b], []⟩ [.ref a, .ref b] [.ref a, .ref b] _ E0 hr I.env0 (by
    have := hb s [.ref a, .ref b] I.kIn (by simpa using hl)
    simpa using this) (.cons rfl (.cons rfl .nil)) h) fun r s' hq => ?_)
  cases r with
  | error e => exact False.elim hq
  | ok fl =>
    cases fl with
    | ret u =>
      obtain ⟨v, H', I3, rv, hv, q⟩ := I.after hq
      rcases hv with ⟨k, rfl⟩ | ⟨r, rfl⟩
      · cases rv; exact ⟨.bl k, H', I3, rfl, q⟩
      · cases rv; exact ⟨.ref r, H', I3, rfl, q⟩
    | next => exact False.elim hq
    | brk => exact False.elim hq
    | cont => exact False.elim hq
theorem op_eqO (F : FnOk X.prog X.w X.K X.mg X.base CX0 k f fd ps sp) (hr : Room k X.A) (hb : Binds X.K fd ps []) (hs : PySem.W.findIn X.K (.ref C) "__eq__" = some (some (.ref f))) (hf : PySem.W.isFn X.K (.ref f) = true) : OpR X (compareOp .Eq) (rOpO C sp) := by
  intro pins s σ H x y v u Q I rx ry h
  obtain ⟨a, b, dx, dy, fs, gs, rfl, rfl, ha, hb', h⟩ := h
  cases rx
  cases ry
  show wpAny (model X.prog X.w) X.A (richCompare .Eq (.ref a) (.ref b)) (EP X pins σ Q) X.xe s
  obtain ⟨mA, J, _⟩ := ins_get I.hok ha
  obtain ⟨mB, J', _⟩ := ins_get I.hok hb'
  obtain ⟨od, J, _⟩ := J.look
  obtain ⟨od', J', _⟩ := J'.look
  obtain ⟨m, hF⟩ := I.fr
  exact PySem.W.cmp_K (op := .Eq) (tb := .ref C) hr.units0 hF I.ok.mod.kin J J'.type (by simp [PySem.W.notFirst]) hs hf (run_own F hr hb I h)
theorem op_addO (F : FnOk X.prog X.w X.K X.mg X.base CX0 k f fd ps sp) (hr : Room k X.A) (hb : Binds X.K fd ps []) (hs : PySem.W.findIn X.K (.ref C) "__add__" = some (some (.ref f))) (hf : PySem.W.isFn X.K (.ref f) = true) (hc : PySem.W.selfFirst X.K C = true) : OpR X (binaryOp .Add) (rOpO C sp) := by
  intro pins s σ H x y v u Q I rx ry h
  obtain ⟨a, b, dx, dy, fs, gs, rfl, rfl, ha, hb', h⟩ := h
  cases rx
  cases ry
  obtain ⟨mA, J, _⟩ := ins_get I.hok ha
  obtain ⟨mB, J', _⟩ := ins_get I.hok hb'
  obtain ⟨od, J, _⟩ := J.look
  obtain ⟨od', J', _⟩ := J'.look
  obtain ⟨m, hF⟩ := I.fr
  exact PySem.W.binop_K (op := .Add) hF I.ok.mod.kin J J'.type hc hs hf (run_own F hr hb I h)
end
def mOp2O (c : Str) (m : MF) (a b : M) : M := fun ρ => (a ρ).bind fun x => (b x.2).bind fun y => (rsl y.2 x.1).bind fun s => (rsl y.2 y.1).bind fun t => s.flds.bind fun p => t.flds.bind fun q => @ite _ (p.1 = c ∧ q.1 = c) (Classical.propDecidable _) ((takeA y.2 [x.1, y.1]).bind fun z => (m z.1).bind fun w => match w.1 with
  | .val (.bl k) => some (.val (.bl k), putA [x.1, y.1] w.2 z.2)
  | .val (.obj c' fs) => some (.val (.obj c' fs), putA [x.1, y.1] w.2 z.2)
  | _ => none) none
section
variable {K : PySem.W.Frag} {mg : Str → Option Value} {ma mb : M} {m : MF} {c : Str} {C : Addr}
theorem rd_op2O (hC : mg c = some (.ref C)) : ∀ σ H Q, tM K mg (mOp2O c m ma mb) σ H Q → tOp (rOpO C (spM K mg 2 m)) (tM K mg ma) (tM K mg mb) σ H Q := by
  intro σ H Q h
  obtain ⟨cs, G, r, ρ', e1, rs, hm0, k⟩ := h
  obtain ⟨⟨r1, ρ1⟩, h1, hm1⟩ := Option.bind_eq_some_iff.mp hm0
  obtain ⟨⟨r2, ρ2⟩, h2, hm2⟩ := Option.bind_eq_some_iff.mp hm1
  obtain ⟨s, h3, hm3⟩ := Option.bind_eq_some_iff.mp hm2
  obtain ⟨t, h4, hm4⟩ := Option.bind_eq_some_iff.mp hm3
  obtain ⟨⟨c1, fs⟩, h5, hm5⟩ := Option.bind_eq_some_iff.mp hm4
  obtain ⟨⟨c2, gs⟩, h6, hm6⟩ := Option.bind_eq_some_iff.mp hm5
  dsimp only at hm6 h3 h4
  by_cases hc : c1 = c ∧ c2 = c
  · rw [if_pos hc] at hm6
    obtain ⟨hc1, hc2⟩ := hc
    rw [hc1] at h5
    rw [hc2] at h6
    obtain ⟨⟨ss, ρr⟩, h7, hm7⟩ := Option.bind_eq_some_iff.mp hm6
    obtain ⟨⟨r3, outs⟩, h8, hm8⟩ := Option.bind_eq_some_iff.mp hm7
    have hr : (∀ j, r3 ≠ .bor j) ∧ r = r3 ∧ ρ' = putA [r1, r2] outs ρr ∧ ((∃ k, r3 = .val (.bl k)) ∨ ∃ c' fs, r3 = .val (.obj c' fs)) := by
      dsimp only at hm8
      split at hm8
      · rename_i kk; cases hm8; exact ⟨(fun j z => nomatch z), rfl, rfl, .inl ⟨_, rfl⟩⟩
      · rename_i c' fs'; cases hm8; exact ⟨(fun j z => nomatch z), rfl, rfl, .inr ⟨_, _, rfl⟩⟩
      · cases hm8
    obtain ⟨hr, q1, q2, q3⟩ := hr
    rw [q1, q2] at k
    refine two e1 rs h1 h2 fun cs2 v w B1 B2 G2 H2 f1 f2 b1 b2 rs2 st2 => ?_
    subst f1; subst f2
    obtain ⟨A1, ow1⟩ := rsl_own rs2.tail.tail rs2.h1 rfl rfl b1 h3 (by rintro rfl; cases h5)
    obtain ⟨A2, ow2⟩ := rsl_own rs2.tail.tail rs2.h2 rfl rfl b2 h4 (by rintro rfl; cases h6)
    obtain ⟨a, C1, dx, fvs, y1, y2, y3, y4⟩ := flds_own rs2.tail.tail.same ow1 h5
    obtain ⟨b, C2, dy, gvs, z1, z2, z3, z4⟩ := flds_own rs2.tail.tail.same ow2 h6
    rw [hC] at y3 z3
    cases y3
    cases z3
    refine ⟨a, b, dx, dy, fvs, gvs, y1, z1, y2, z2, ?_⟩
    refine handed (ds := [⟨some v, r1.sl, B1⟩, ⟨some w, r2.sl, B2⟩]) (rs := [r1, r2]) (vs := [v, w]) (cs := cs2) (by exact rs2) ⟨b1, b2, trivial⟩ rfl rfl rfl h7 h8 hr fun cs3 u B3 G3 H3 k1 k2 rs3 st3 => ?_
    refine ⟨?_, k cs3 u B3 G3 H3 k1 k2 (fun j z => absurd z (hr j)) rs3 (st2.trans st3)⟩
    rcases q3 with ⟨kk, rfl⟩ | ⟨c', fs', rfl⟩
    · obtain ⟨rp, _⟩ := rs3.val
      exact .inl ⟨kk, rp.bl_iff⟩
    · obtain ⟨rp, _⟩ := rs3.val
      cases rp with
      | obj _ _ _ => exact .inr ⟨_, rfl⟩
  · rw [if_neg hc] at hm6
    cases hm6
end
section
variable {X : Cx} {a b : Expr} {ma mb : M} {pos : Pos} {k : Nat} {f C : Addr} {fd : FuncData} {ps : List Str} {m : MF} {c : Str}
theorem se_eqO (hC : X.mg c = some (.ref C)) (F : FnOk X.prog X.w X.K X.mg X.base CX0 k f fd ps (spM X.K X.mg 2 m)) (hr : Room k X.A) (hb : Binds X.K fd ps []) (hs : PySem.W.findIn X.K (.ref C) "__eq__" = some (some (.ref f))) (hf : PySem.W.isFn X.K (.ref f) = true)
    (ha : SE X a ma) (hb' : SE X b mb) : SE X (.Compare a [.Eq] [b] pos) (mOp2O c m ma mb) := PE.imp (pe_cmpR (op_eqO F hr hb hs hf) ha hb' (nomark _)) (rd_op2O hC)
theorem st_eqO (hC : X.mg c = some (.ref C)) (F : FnOk X.prog X.w X.K X.mg X.base CX0 k f fd ps (spM X.K X.mg 2 m)) (hr : Room k X.A) (hb : Binds X.K fd ps []) (hs : PySem.W.findIn X.K (.ref C) "__eq__" = some (some (.ref f))) (hf : PySem.W.isFn X.K (.ref f) = true)
    (ha : SE X a ma) (hb' : SE X b mb) : STe X (.Compare a [.Eq] [b] pos) (mB (mOp2O c m ma mb)) := PT.imp (pt_cmpR (op_eqO F hr hb hs hf) ha hb' (nomark _)) fun σ H Q h => rd_op2O hC σ H _ (rd_B σ H Q h)
theorem se_addO (hC : X.mg c = some (.ref C)) (F : FnOk X.prog X.w X.K X.mg X.base CX0 k f fd ps (spM X.K X.mg 2 m)) (hr : Room k X.A) (hb : Binds X.K fd ps []) (hs : PySem.W.findIn X.K (.ref C) "__add__" = some (some (.ref f))) (hf : PySem.W.isFn X.K (.ref f) = true) (hc : PySem.W.selfFirst X.K C = true)
    (ha : SE X a ma) (hb' : SE X b mb) : SE X (.BinOp a .Add b pos) (mOp2O c m ma mb) := PE.imp (pe_op (op_addO F hr hb hs hf hc) ha hb') (rd_op2O hC)
end
end
end FW

/-! isinstance(x, C), C an own class -/
namespace FW
noncomputable section
open PySem L2
theorem kit_me {K : PySem.W.Frag} {C : Addr} : PySem.W.kitOne K (.ref C) (.ref C) = some true := by
  unfold PySem.W.kitOne
  rw [if_pos (by simp)]
theorem kit_no {K : PySem.W.Frag} {C : Addr} {t : String} (hd : PySem.W.hasDictIn K C = true) (ty : PySem.W.typeIn K (.ref C) = some (.type "type")) (sb : PySem.W.subIn K (.type t) (.ref C) = some false) : PySem.W.kitOne K (.type t) (.ref C) = some false := by
  obtain ⟨cd, hc, _⟩ := PySem.W.any_some hd
  unfold PySem.W.kitOne PySem.W.kitCls
  rw [if_neg (by simp)]
  simp [hc, ty, sb]
structure IsC (K : PySem.W.Frag) (C : Addr) : Prop where
  ins : C8.InsC K C
  n : PySem.W.kitOne K (.type "NoneType") (.ref C) = some false
  b : PySem.W.kitOne K (.type "bool") (.ref C) = some false
  i : PySem.W.kitOne K (.type "int") (.ref C) = some false
  s : PySem.W.kitOne K (.type "str") (.ref C) = some false
  l : PySem.W.kitOne K (.type "list") (.ref C) = some false
  t : PySem.W.kitOne K (.type "tuple") (.ref C) = some false
  d : PySem.W.kitOne K (.type "dict") (.ref C) = some false
def isC (c : Str) : D → Option D
  | .obj c' _ => @ite _ (c' = c) (Classical.propDecidable _) (some (.bl true)) none
  | .scr _ => none
  | .exc _ _ => none
  | _ => some (.bl false)
section
variable {X : Cx} {a : Expr} {ma : M} {pos p p2 : Pos} {C : Addr} {c : Str}
theorem isC_ok {K : PySem.W.Frag} {mg : Str → Option Value} {H : Hp} {x z : D} {v : V} (hC : mg c = some (.ref C)) (ic : IsC K C) (e : isC c x = some z) (r : Rep K mg H x v) : ∃ t b, z = .bl b ∧ TyX K H v t ∧ PySem.W.kitOne K t (.ref C) = some b := by
  cases x with
  | obj c' fs =>
    by_cases hc : c' = c
    · have e : @ite _ (c' = c) (Classical.propDecidable _) (some (D.bl true)) none = some z := e
      rw [if_pos hc] at e
      cases e
      subst hc
      cases r with
      | obj m h _ =>
        rw [hC] at m
        cases m
        exact ⟨_, _, rfl, .base (.ins h ic.ins.cl ic.ins.ha ic.ins.hn ic.ins.htk ic.ins.hm), ic.ins.me⟩
    · have e : @ite _ (c' = c) (Classical.propDecidable _) (some (D.bl true)) none = some z := e
      rw [if_neg hc] at e
      cases e
  | scr _ => cases e
  | non => cases e; exact ⟨_, _, rfl, tyOf_ok (t := "NoneType") r rfl, ic.n⟩
  | bl _ => cases e; exact ⟨_, _, rfl, tyOf_ok (t := "bool") r rfl, ic.b⟩
  | int _ => cases e; exact ⟨_, _, rfl, tyOf_ok (t := "int") r rfl, ic.i⟩
  | str _ => cases e; exact ⟨_, _, rfl, tyOf_ok (t := "str") r rfl, ic.s⟩
  | lst _ => cases e; exact ⟨_, _, rfl, tyOf_ok (t := "list") r rfl, ic.l⟩
  | tup _ => cases e; exact ⟨_, _, rfl, tyOf_ok (t := "tuple") r rfl, ic.t⟩
  | dct _ => cases e; exact ⟨_, _, rfl, tyOf_ok (t := "dict") r rfl, ic.d⟩
  | exc _ _ => cases e
theorem se_isC (hm : X.mg "isinstance" = none) (hC : X.mg c = some (.ref C)) (ic : IsC X.K C) (ha : SE X a ma) (hg : Gl X "isinstance" := by rfl) (hgC : Gl X c := by rfl) (hd : (c == ("__debug__" : Str)) = false := by decide)
    (he : starEach (a :: [.Name c p2]) X.env = (false, eval a X.env) :: starEach [.Name c p2] X.env := by rfl) (hpl : (backTo pos (starEach [.Name c p2] X.env)).any (·.1) = false := by rfl) :
    SE X (.Call (.Name "isinstance" p) [a, .Name c p2] [] pos) (mUn (isC c) ma) := by
  refine PE.imp (pe_callB call_isi hg hm boot_isinstance' (pa_cons ha (pa_cons (C8.pe_gc (v := .ref C) hgC ⟨_, hC, rfl⟩ hd) pa_nil) he) (by decide) (by decide) he hpl) fun σ H Q h => ?_
  show tM X.K X.mg ma σ H fun x H1 => rIsi X.K [x, .ref C] H1 Q
  refine rd_un (f := isC c) (R := fun x H1 Q => rIsi X.K [x, .ref C] H1 Q) (fun x z H v Q hz rp q => ?_) σ H Q h
  obtain ⟨t, b, e1, e2, e3⟩ := isC_ok hC ic hz rp
  subst e1
  exact ⟨v, .ref C, t, .ref C, b, rfl, .own _, e2, e3, q _ rfl⟩
end
@[simp] theorem r_isC_obj (c c' : Str) (fs : List (Str × D)) : isC c (.obj c' fs) = ifc (c' = c) (some (.bl true)) none := rfl
@[simp] theorem r_isC_int (c : Str) (i : Int) : isC c (.int i) = some (.bl false) := rfl
@[simp] theorem r_isC_non (c : Str) : isC c .non = some (.bl false) := rfl
@[simp] theorem r_isC_bl (c : Str) (b : Bool) : isC c (.bl b) = some (.bl false) := rfl
@[simp] theorem r_isC_str (c : Str) (b : Str) : isC c (.str b) = some (.bl false) := rfl
@[simp] theorem r_isC_lst (c : Str) (b : List D) : isC c (.lst b) = some (.bl false) := rfl
@[simp] theorem r_isC_dct (c : Str) (b : List (Key × D)) : isC c (.dct b) = some (.bl false) := rfl
@[simp] theorem r_isC_tup (c : Str) (b : List D) : isC c (.tup b) = some (.bl false) := rfl
@[simp] theorem r_op2O {ρ : List Sl} {a b : M} (c : Str) (m : MF) : mOp2O c m a b ρ = (a ρ).bind fun x => (b x.2).bind fun y => (rsl y.2 x.1).bind fun s => (rsl y.2 y.1).bind fun t => s.flds.bind fun p => t.flds.bind fun q => ifc (p.1 = c ∧ q.1 = c) ((takeA y.2 [x.1, y.1]).bind fun z => (m z.1).bind fun w => match w.1 with
  | .val (.bl k) => some (.val (.bl k), putA [x.1, y.1] w.2 z.2)
  | .val (.obj c' fs) => some (.val (.obj c' fs), putA [x.1, y.1] w.2 z.2)
  | _ => none) none := rfl
end
end FW

/-! more run lemmas: isinstance by built-in classes, == of texts and truths, x in a tuple of texts -/
namespace FW
open PySem L2
@[simp] theorem ty_tt (x : List D) : isTy .tuple (.tup x) = some (.bl true) := rfl
@[simp] theorem ty_ti (x : Int) : isTy .tuple (.int x) = some (.bl false) := rfl
@[simp] theorem ty_tn : isTy .tuple .non = some (.bl false) := rfl
@[simp] theorem ty_tl (x : List D) : isTy .tuple (.lst x) = some (.bl false) := rfl
@[simp] theorem ty_ts (x : Str) : isTy .tuple (.str x) = some (.bl false) := rfl
@[simp] theorem ty_li (x : Int) : isTy .list (.int x) = some (.bl false) := rfl
@[simp] theorem ty_lt (x : List D) : isTy .list (.tup x) = some (.bl false) := rfl
@[simp] theorem ty_ls (x : Str) : isTy .list (.str x) = some (.bl false) := rfl
@[simp] theorem ty_ln : isTy .list .non = some (.bl false) := rfl
@[simp] theorem ty_is (x : Str) : isTy .int (.str x) = some (.bl false) := rfl
@[simp] theorem ty_it (x : List D) : isTy .int (.tup x) = some (.bl false) := rfl
@[simp] theorem ty_il (x : List D) : isTy .int (.lst x) = some (.bl false) := rfl
@[simp] theorem ty_ss (x : Str) : isTy .str (.str x) = some (.bl true) := rfl
@[simp] theorem ty_si (x : Int) : isTy .str (.int x) = some (.bl false) := rfl
@[simp] theorem ty_bs (x : Str) : isTy .bool (.str x) = some (.bl false) := rfl
@[simp] theorem ty_bt (x : List D) : isTy .bool (.tup x) = some (.bl false) := rfl
@[simp] theorem ty_bl (x : List D) : isTy .bool (.lst x) = some (.bl false) := rfl
@[simp] theorem eqD_bl (neg : Bool) (a b : Bool) : eqD neg (.bl a) (.bl b) = some (.bl (decide (a = b) != neg)) := eqD_of (by rw [toPy]) (by rw [toPy]) (shaped_bool a) (shaped_bool b) (by simp [PyData.eqv]; exact Bool.beq_eq_decide_eq _ _)
end FW

/-! a list's slice with a step -/
namespace FW
noncomputable section
open PySem L2
open PyProof.Rows (Subscript_ subscriptTail tail_any)
/-- the items at a slice's places -/
def pickA {α : Type} (xs : List α) (lo hi st : Option Int) : List α :=
  (sliceRange (sliceBounds lo hi st xs.length).1 (sliceBounds lo hi st xs.length).2.1 (sliceBounds lo hi st xs.length).2.2).filterMap fun i => xs[i]?
theorem pickA_le {α : Type} (xs : List α) (lo hi st : Option Int) : (pickA xs lo hi st).length ≤ xs.length := by
  have h := slicePick_size_le (List.replicate xs.length Value.none).toArray lo hi st
  unfold slicePick at h
  rw [List.size_toArray, List.size_toArray, List.length_replicate] at h
  refine Nat.le_trans (Nat.le_of_eq ?_) h
  unfold pickA
  generalize sliceRange _ _ _ = l
  induction l with
  | nil => rfl
  | cons i l ih =>
    rw [List.filterMap_cons, List.filterMap_cons]
    by_cases q : i < xs.length
    · rw [List.getElem?_eq_getElem q, show (List.replicate xs.length Value.none).toArray[i]? = some Value.none by simp [q]]
      simp only [List.length_cons, ih]
    · rw [List.getElem?_eq_none (by omega), show (List.replicate xs.length Value.none).toArray[i]? = Option.none by simp; omega]
      simpa using ih
section
variable {K : PySem.W.Frag} {mg : Str → Option Value} {G H : Hp}
theorem Reps.pick {xs : List D} {vs : List V} (h : Reps K mg G xs vs) (lo hi st : Option Int) : Reps K mg G (pickA xs lo hi st) (pickA vs lo hi st) := by
  unfold pickA
  rw [h.length]
  generalize sliceRange _ _ _ = l
  induction l with
  | nil => exact .nil
  | cons i l ih =>
    rw [List.filterMap_cons, List.filterMap_cons]
    cases q : xs[i]? with
    | none =>
      have : vs[i]? = none := by rw [List.getElem?_eq_none_iff] at q ⊢; rw [h.length]; exact q
      rw [this]; exact ih
    | some x =>
      obtain ⟨y, e, r⟩ := h.get q
      rw [e]; exact .cons r ih
theorem vals_pick {vs : List V} {us : List Value} (h : Vals vs us) (lo hi st : Option Int) : Vals (pickA vs lo hi st) (slicePick us.toArray lo hi st).toList := by
  unfold pickA slicePick
  rw [List.size_toArray, ← h.length]
  generalize sliceRange _ _ _ = l
  induction l with
  | nil => exact .nil
  | cons i l ih =>
    simp only [List.filterMap_cons, List.getElem?_toArray] at ih ⊢
    cases q : vs[i]? with
    | none =>
      have : us[i]? = none := by rw [List.getElem?_eq_none_iff] at q ⊢; rw [← h.length]; exact q
      rw [this]; exact ih
    | some x =>
      obtain ⟨y, e, r⟩ := h.get q
      rw [e]; exact .cons r ih
end
section
variable {X : Cx} {a b c e : Expr} {ma : M} {pos p2 : Pos}
def tSlS (K : PySem.W.Frag) (te : TE) (tl th ts : TO) : TE := fun σ H Q => te σ H fun x H1 => tl σ H1 fun l H2 => th σ H2 fun u H3 => ts σ H3 fun st H4 =>
  ∃ a xs, x = .ref a ∧ SqL K H4 a xs ∧ st ≠ some 0 ∧ ∀ p, H4 p = none → Q (.ref p) (upd H4 p (.lst (pickA xs l u st)))
theorem pe_slS {lo hi : Option Expr} {z : Expr} {te : TE} {tl th ts : TO} (he : PE X e te) (hl : PO X lo tl) (hu : PO X hi th) (hs : PO X (some z) ts) :
    PE X (.Subscript e (.Slice lo hi (some z) p2) pos) (tSlS X.K te tl th ts) := by
  refine ⟨fun pins s σ H Q I h => ?_⟩
  refine Subscript_ (thn (he.run pins s σ H _ I h) fun v s1 ⟨x, H1, I1, r1, q1⟩ => wpAny_Slice (thn (hl.run pins s1 σ H1 _ I1 q1) fun vl s2 ⟨l, H2, I2, pl, q2⟩ => thn (hu.run pins s2 σ H2 _ I2 q2) fun vu s3 ⟨u, H3, I3, pu, q3⟩ => thn (hs.run pins s3 σ H3 _ I3 q3) fun vt s4 ⟨t, H4, I4, pt, q4⟩ => ?_))
  obtain ⟨ad, xs, rfl, hx, h0, q⟩ := q4
  cases r1
  have J : Inv X pins σ H4 { s4 with heap := s4.heap.push { cls := .type "slice", data := .fields #[vl, vu, vt] } } := I4.kept (t' := s4.toks) fun b ob q => Heap.get?_push_of_some _ q
  obtain ⟨its, r, ht, hz⟩ := J.list hx
  have hlen := r.length
  show wpAny (model X.prog X.w) X.A (subscriptTail e (.Slice lo hi (some z) p2) (.ref ad) (.ref s4.heap.objs.size)) (EP X pins σ Q) X.xe { s4 with heap := s4.heap.push { cls := .type "slice", data := .fields #[vl, vu, vt] } }
  refine tail_any (ops := [.ref ad, .ref s4.heap.objs.size]) ht.isList.typeIs (PySem.slot_list_getitem.lookup) (wpAny_getItem_list_slice ht.isList (Heap.IsSliceOf.new _ vl vu vt) pl pu pt h0 ?_ (by rw [List.size_toArray]; omega)) (by with_unfolding_all rfl)
  refine ⟨.ref _, _, J.laid (t' := s4.toks) (o := .lst (pickA xs l u t)) (fun b ob q => Heap.get?_push_of_some _ q) (Nat.le_refl _) ?_, rfl, q _ (J.hok.fresh (Nat.le_refl _))⟩
  exact ⟨Nat.le_trans (pickA_le _ _ _ _) hz, _, 0, vals_pick r l u t, Heap.get?_push_size _ rfl⟩
def mSlS (a : M) (lo hi st : MP) : M := fun ρ => (a ρ).bind fun x => (lo x.2).bind fun y => (hi y.2).bind fun z => (st z.2).bind fun w => if w.1 = some 0 then none else (lsv w.2 x.1).map fun xs => (.own (.ow (pickA xs y.1 z.1 w.1)), w.2)
theorem se_slS {lo hi : Option Expr} {z : Expr} {ml mh ms : MP} (ha : SE X a ma) (hl : SPo X lo ml) (hh : SPo X hi mh) (hs : SPo X (some z) ms) : SE X (.Subscript a (.Slice lo hi (some z) p2) pos) (mSlS ma ml mh ms) := PE.imp (pe_slS ha hl hh hs) fun σ H Q h => by
  obtain ⟨cs, G, r, ρ', e1, rs, hm, k⟩ := h
  obtain ⟨⟨r1, ρ1⟩, h1, hm⟩ := Option.bind_eq_some_iff.mp hm
  obtain ⟨⟨o2, ρ2⟩, h2, hm⟩ := Option.bind_eq_some_iff.mp hm
  obtain ⟨⟨o3, ρ3⟩, h3, hm⟩ := Option.bind_eq_some_iff.mp hm
  obtain ⟨⟨o4, ρ4⟩, h4, hm⟩ := Option.bind_eq_some_iff.mp hm
  dsimp only at hm
  split at hm
  · cases hm
  rename_i hn
  obtain ⟨xs, hx, hm⟩ := Option.map_eq_some_iff.mp hm
  cases hm
  refine ⟨cs, G, r1, ρ1, e1, rs, h1, fun cs1 v B G1 H1 f1 f2 fb rs1 st1 => ?_⟩
  refine ⟨cs1, G1, o2, ρ2, f1, rs1.tail, by rw [f2]; exact h2, fun cs2 G2 H2 g1 g2 rs2 st2 => ?_⟩
  refine ⟨cs2, G2, o3, ρ3, g1, rs2, by rw [g2]; exact h3, fun cs3 G3 H3 k1 k2 rs3 st3 => ?_⟩
  refine ⟨cs3, G3, o4, _, k1, rs3, by rw [k2]; exact h4, fun cs4 G4 H4 l1 l2 rs4 st4 => ?_⟩
  have rA := Res.frame (ds := [_]) rs1 (st2.trans (st3.trans st4)) rs4
  have sA := st1.trans (Stp.under (ds := [_]) rs1 (st2.trans (st3.trans st4)))
  subst l1; subst l2
  have q := Fin.of k rfl rfl rs4 sA.back1
  obtain ⟨a1, vs1, p1, p2, p3⟩ := lsv_rep rs4 rA.h1 rfl rfl fb hx
  exact ⟨a1, vs1, p1, p2, hn, fun p hp => q.l _ p _ rfl hp (p3.pick _ _ _)⟩
@[simp] theorem r_slS {ρ : List Sl} (a : M) (lo hi st : MP) : mSlS a lo hi st ρ = (a ρ).bind fun x => (lo x.2).bind fun y => (hi y.2).bind fun z => (st z.2).bind fun w => if w.1 = some 0 then none else (lsv w.2 x.1).map fun xs => (.own (.ow (pickA xs y.1 z.1 w.1)), w.2) := rfl
end
end
end FW

/-! xs[:] = ys, both names of owned lists -/
namespace FW
noncomputable section
open PySem L2
theorem bounds_all (n : Nat) : sliceBounds none none none n = (0, (n : Int), 1) := by simp [sliceBounds]
section
variable {prog : Program} {w : World} {A : Around} {E : Value → Shared → Prop} {s : Shared}
theorem all_set {l b sl : Addr} {items new : Array Value} {n n2 : Nat} {vl vu : Value} {Q : Unit → Shared → Prop} (el : s.heap.get? l = some { cls := .type "list", data := .seq items n }) (eb : s.heap.get? b = some { cls := .type "list", data := .seq new n2 }) (dif : l ≠ b)
    (isl : s.heap.IsSliceOf sl vl vu .none) (pl : IsPart vl none) (pu : IsPart vu none) (sz : items.size + new.size ≤ sizeLine) (fin : Q () { s with heap := s.heap.update l (Obj.mapSeq fun xs => xs.extract 0 0 ++ new ++ xs.extract items.size xs.size) }) : wpAny (model prog w) A (setItem (.ref l) (.ref sl) (.ref b)) Q E s := by
  have il : s.heap.IsList l items := PySem.IsL.isList el
  have ib : s.heap.IsList b new := PySem.IsL.isList eb
  obtain ⟨os, hos, hcs, hds⟩ := id isl
  have ty : s.TypeIs (.ref sl) "slice" := ⟨os, hos, hcs⟩
  have apart : Builtin.List.listSameRef (.ref l) (.ref b) = false := by unfold Builtin.List.listSameRef; exact beq_eq_false_iff_ne.mpr dif
  have mx : (max (0 : Int) (items.size : Int)).toNat = items.size := by omega
  have fit : ((fun xs : Array Value => xs.extract 0 0 ++ new ++ xs.extract items.size xs.size) items).size ≤ sizeLine + 1 := by simp only [Array.size_append, Array.size_extract]; omega
  unfold setItem
  try (with_reducible refine wpAny_holding ?_)
  first | (refine wpAny_bind (wpAny_pure ?_)) | skip
  refine (wpAny_bind (wpAny_sequenceKey il.typeIs (by decide) ?_))
  refine wpAny_bind (wpAny_callSpecial?_slot (name := Str.ofString "__setitem__") il.typeIs slot_list_setitem (wpAny_call_entry slot_list_setitem il.typeIs entry_list_setitem ?_ (args_list_setitem _ _ _)))
  show wpAny _ _ (Builtin.List.listSubscript? (.ref sl) >>= _) _ _ s
  refine (wpAny_bind ?_); unfold Builtin.List.listSubscript?
  refine wpAny_bind (wpAny_specialOf ty slice_no_index ?_); simp only [Option.isNone_none, if_true]
  refine (wpAny_pure ?_); show wpAny _ _ (typeOf (.ref sl) >>= _) _ _ s
  refine wpAny_bind (wpAny_typeOf ty ?_)
  first | (rw [if_neg (by decide)]) | (refine PySem.W.KFB.if_not (by decide) ?_)
  rw [listSliceParts_eq]; refine wpAny_bind (wpAny_bind (wpAny_field hos hds (x := .none) rfl (wpAny_bind (wpAny_listPart .none ?_))))
  rw [if_neg (show ¬ ((rawPart none == rawInt 0) = true) from Bool.false_ne_true)]; refine wpAny_bind (wpAny_field hos hds (x := vl) rfl (wpAny_bind (wpAny_listPart pl ?_)))
  refine wpAny_bind (wpAny_field hos hds (x := vu) rfl (wpAny_bind (wpAny_listPart pu ((wpAny_pure ?_)))))
  first | (simp only [apart, Bool.false_eq_true, if_false]) | (refine PySem.W.KFB.if_not apart ?_) | (dsimp only; rw [if_neg (by rw [apart]; exact Bool.false_ne_true)])
  refine wpAny_bind (m := Builtin.List.listAllItems (.ref b) "must assign iterable to extended slice") ?_; unfold Builtin.List.listAllItems
  refine wpAny_bind (wpAny_typeOf ib.typeIs ?_)
  first | (refine PySem.W.KFB.if_so (by decide) ?_) | (rw [if_pos (by decide)]) | (simp only [beq_self_eq_true, Bool.true_or, if_true])
  unfold Builtin.List.listItems; refine wpAny_bind (wpAny_seqItems eb rfl (wpAny_pure ?_))
  refine wpAny_bind (wpAny_bind (wpAny_seqItems el rfl (wpAny_pure ?_)))
  refine wpAny_bind (wpAny_of_eq ((sliceIndices_raw none none none items.size (by simp)).trans (congrArg (pure : Int × Int × Int → Sem (Int × Int × Int)) (bounds_all items.size))) ?_)
  show wpAny _ _ (if ((1 : Int) == 1) = true then _ else _) _ _ s
  rw [if_pos (by decide)]; refine wpAny_bind (wpAny_rule ?_)
  first | (simp only [notLongL sz, Bool.false_eq_true, if_false]) | (refine PySem.W.KFB.if_not (notLongL sz) ?_)
  first | (refine wpAny_bind (wpAny_pure ?_)) | skip
  show wpAny _ _ (updateSeq l (fun xs => xs.extract 0 ((0 : Int)).toNat ++ new ++ xs.extract (max (0 : Int) (items.size : Int)).toNat xs.size) >>= _) _ _ s
  rw [mx]
  refine wpAny_bind (wpAny_updateSeq (hz := Nat.le_trans (Nat.le_add_right _ _) sz) (_hz' := fit) el rfl (wpAny_bind (wpAny_letGo ?_)))
  first | (exact wpAny_bind (wpAny_pure (wpAny_pure ⟨.none, rfl, wpAny_pure fin⟩))) | (exact wpAny_pure ⟨.none, rfl, wpAny_pure fin⟩)
end
section
variable {X : Cx} {P : Nat → Prop} {e : Expr} {ma : M} {pos p2 np tp : Pos}
def gAll (i : Nat) : TG := fun v σ H Q => ∃ l b xs ys, σ[i]? = some (some (.ref l)) ∧ v = .ref b ∧ H l = some (.lst xs) ∧ H b = some (.lst ys) ∧ l ≠ b ∧ xs.length + ys.length ≤ sizeLine ∧ Q σ (upd H l (.lst ys))
theorem pg_all {i : Nat} {x : Str} (hN : X.N[i]? = some x) (hv : Vis X.env.scope x) (hd : (x == ("__debug__" : Str)) = false) (hcd : (x == ("__classdict__" : Str)) = false)
    (ha : ∀ v, assign (.Subscript (.Name x np) (.Slice none none none p2) tp) X.env v = (do
      let ov ← holding [v] (eval (.Name x np) X.env)
      let iv ← holding [v, ov] (eval (.Slice none none none p2) X.env)
      standAt tp
      holding [v, ov, iv] (setItem ov iv v)
      release [iv, v, ov] [])) : PG X (.Subscript (.Name x np) (.Slice none none none p2) tp) (gAll i) := by
  refine ⟨fun pins s σ H v u Q I r h => ?_⟩
  obtain ⟨l, b, xs, ys, h1, rfl, h3, h4, h5, h6, q⟩ := h
  rw [ha]
  refine wpAny_bind (wpAny_holding (thn ((pe_var hN hv hd hcd).run pins s σ H (fun y H1 => y = .ref l ∧ H1 = H) I ⟨_, h1, rfl, rfl⟩) fun ov s1 ⟨y, H1, I1, r1, q1⟩ => ?_))
  obtain ⟨rfl, rfl⟩ := q1
  refine wpAny_bind (wpAny_holding (wpAny_Slice (thn (po_none.run pins s1 σ _ (fun o H2 => o = none ∧ H2 = _) I1 ⟨rfl, rfl⟩) fun vl s2 ⟨o2, H2, I2, pl, el, e2⟩ => ?_)))
  subst el e2
  refine thn (po_none.run pins s2 σ _ (fun o H3 => o = none ∧ H3 = _) I2 ⟨rfl, rfl⟩) fun vu s3 ⟨o3, H3, I3, pu, eu, e3⟩ => ?_
  subst eu e3
  rw [evalPart_none]
  refine wpAny_pure ?_
  have J : Inv X pins σ _ { s3 with heap := s3.heap.push { cls := .type "slice", data := .fields #[vl, vu, .none] } } := I3.kept (t' := s3.toks) fun b ob q => Heap.get?_push_of_some _ q
  cases r
  cases r1
  obtain ⟨z, its, n, rr, hl, e⟩ := J.lstM h3
  obtain ⟨z2, its2, n2, rr2, hl2, e2⟩ := J.lstM h4
  refine wpAny_bind (wpAny_standAt (wpAny_bind (wpAny_holding (all_set e e2 h5 (Heap.IsSliceOf.new _ vl vu .none) pl pu (by rw [List.size_toArray, List.size_toArray]; omega) (wpAny_release ⟨σ, _, ?_, q⟩)))))
  refine J.lset (its' := its2) (t' := s3.toks) h3 e ?_ rr2 (by omega)
  rw [List.size_toArray]
  have := splice_eq its its2 0 its.length
  simpa using this
def sSetAll (i : Nat) (m : M) : MS := fun ρ => (m ρ).bind fun x => match x.1 with
  | .bor j => match x.2[i]?, x.2[j]? with
    | some (.ow xs), some (.ow ys) => @ite _ (i ≠ j ∧ xs.length + ys.length ≤ sizeLine) (Classical.propDecidable _) (some (.nx, x.2.set i (.ow ys))) none
    | _, _ => none
  | _ => none
theorem ss_setAll (i : Nat) {x : Str} (he : SE X e ma) (hN : X.N[i]? = some x := by rfl) (hv : Vis X.env.scope x := by first | exact Or.inl rfl | exact Or.inr (Or.inl rfl) | exact Or.inr (Or.inr rfl)) (hd : (x == ("__debug__" : Str)) = false := by decide) (hcd : (x == ("__classdict__" : Str)) = false := by decide)
    (ha : ∀ v, assign (.Subscript (.Name x np) (.Slice none none none p2) tp) X.env v = (do
      let ov ← holding [v] (eval (.Name x np) X.env)
      let iv ← holding [v, ov] (eval (.Slice none none none p2) X.env)
      standAt tp
      holding [v, ov, iv] (setItem ov iv v)
      release [iv, v, ov] []) := by intro _; rfl)
    (hs : swapsWithSole [.Subscript (.Name x np) (.Slice none none none p2) tp] e pos.line X.env = pure false := by rfl) (hw : swappedStores [.Subscript (.Name x np) (.Slice none none none p2) tp] e X.env = pure none := by rfl)
    (h1 : (assignEach [.Subscript (.Name x np) (.Slice none none none p2) tp] X.env).map (·.2) = [assign (.Subscript (.Name x np) (.Slice none none none p2) tp) X.env] := by rfl) :
    SS X P (.Assign [.Subscript (.Name x np) (.Slice none none none p2) tp] e pos) (sSetAll i ma) := PS.imp (ps_asg he (pg_all hN hv hd hcd ha) hs hw h1) fun D σ H h => by
  obtain ⟨cs, G, k, ρ', e1, rs, hm, q⟩ := h
  obtain ⟨⟨r1, ρ1⟩, h1, hm⟩ := Option.bind_eq_some_iff.mp hm
  dsimp only at hm
  split at hm
  · rename_i j
    split at hm
    · rename_i xs ys ex ey
      split at hm
      · rename_i hc
        cases hm
        refine ⟨cs, G, _, ρ1, e1, rs, h1, fun cs1 v B G1 H1 f1 f2 fb rs1 st1 => ?_⟩
        subst e1; subst f2
        have rs2 := rs1.tail
        obtain ⟨v0, hv0⟩ := ow_val rs2 ex
        have hvj : (vals cs1)[j]? = some (some v) := by rw [f1]; exact fb j rfl
        obtain ⟨l, ws, q1, q2, q3, q4, q5⟩ := ow_cell (v := v0) rs2 ex hv0
        obtain ⟨b, us, p1, p2, p3, p4, p5⟩ := ow_cell (v := v) rs2 ey hvj
        have dif : l ≠ b := by
          rintro rfl
          obtain ⟨l1, l2, ec, el⟩ := split_at q2
          have nd := rs2.nd
          rw [ec, own_append, own_cons] at nd
          have hj : (l1 ++ (⟨some (.ref l), .ow xs, [l]⟩ : Cl) :: l2)[j]? = some ⟨some (.ref l), .ow ys, [l]⟩ := by rw [← ec]; exact p2
          have nj : j ≠ l1.length := fun z => hc.1 (by rw [z, el])
          have hmem : (⟨some (.ref l), .ow ys, [l]⟩ : Cl) ∈ l1 ∨ (⟨some (.ref l), .ow ys, [l]⟩ : Cl) ∈ l2 := by
            by_cases z : j < l1.length
            · rw [List.getElem?_append_left z] at hj
              exact .inl (List.mem_of_getElem? hj)
            · rw [List.getElem?_append_right (by omega)] at hj
              obtain ⟨m, hm⟩ : ∃ m, j - l1.length = m + 1 := ⟨j - l1.length - 1, by omega⟩
              rw [hm, List.getElem?_cons_succ] at hj
              exact .inr (List.mem_of_getElem? hj)
          have n2 := List.nodup_append.mp nd
          rcases hmem with z | z
          · exact n2.2.2 l (mem_own.mpr ⟨_, z, by simp⟩) l (by simp) rfl
          · have n3 := (List.nodup_append.mp n2.2.1).2.2 l (by simp) l (mem_own.mpr ⟨_, z, by simp⟩)
            exact n3 rfl
        have wr := Res.write (H' := upd H1 l (.lst us)) (c' := ⟨some (.ref l), .ow ys, [l]⟩) rs2 q2 (fun b hb => upd_ne (by simpa using hb)) (.inr ⟨_, rfl, .ow upd_same p5⟩) rfl (fun b hb => by
          have : b = l := by simpa using hb
          subst this; rw [upd_same]; simp)
        have ev : vals (cs1.set i ⟨some (.ref l), .ow ys, [l]⟩) = vals cs := by rw [set_vals (c' := ⟨some (.ref l), .ow ys, [l]⟩) q2 rfl, f1]
        have z := KS.nx q slots_set (len_of ev) (fun _ _ => by rw [ev]) wr.1 ((st1.weak fun b hb => by rw [own_cons]; exact List.mem_append_right _ hb).trans wr.2)
        rw [ev] at z
        exact ⟨l, b, ws, us, by rw [← f1, hv0, q1], p1, q3, p3, dif, by rw [q5.length, p5.length]; exact hc.2, z⟩
      · cases hm
    · cases hm
  · cases hm
@[simp] theorem r_setAll {ρ : List Sl} (i : Nat) (a : M) : sSetAll i a ρ = (a ρ).bind fun x => match x.1 with
  | .bor j => match x.2[i]?, x.2[j]? with
    | some (.ow xs), some (.ow ys) => @ite _ (i ≠ j ∧ xs.length + ys.length ≤ sizeLine) (Classical.propDecidable _) (some (.nx, x.2.set i (.ow ys))) none
    | _, _ => none
  | _ => none := rfl
end
end
end FW

/-! comprehensions of ints, sorted lists -/
namespace FW
open PySem L2
theorem comp_ints {bs : List (Nat × List D)} {j : Nat} {t : MT} {m : M} {L : List Int} {ρ : List Sl} (P : Int → Option Int) (hc : chk ρ bs) (hl : L.length ≤ 1000000) (hw : ∀ x : Int, wipeS (ρ.set j (.fz (.int x))) [j] = ρ)
    (hs : ∀ x ∈ L, ∃ c, t (ρ.set j (.fz (.int x))) = some (c, ρ.set j (.fz (.int x))) ∧ if c = true then ∃ y, m (ρ.set j (.fz (.int x))) = some (.val (.int y), ρ.set j (.fz (.int x))) ∧ P x = some y else P x = none) :
    compD bs [j] (gN j) t m (dI L) [] ρ = some (dI (L.filterMap P), ρ) := by
  have e := FW.comp_map (bs := bs) (vs := [j]) (g := gN j) (t := t) (m := m) (items := dI L) (ρ := ρ) (fun d => match d with | .int x => (P x).map D.int | _ => none) hc (by simpa using hl) (fun d hd => by
    obtain ⟨x, hx, rfl⟩ := List.mem_map.mp hd
    obtain ⟨c, h1, h2⟩ := hs x hx
    cases c with
    | true =>
      rw [if_pos rfl] at h2
      obtain ⟨y, h3, h4⟩ := h2
      exact ⟨_, true, _, rfl, h1, by rw [if_pos rfl]; exact ⟨_, _, .int y, _, h3, rfl, by simp [h4], hw x⟩⟩
    | false =>
      rw [if_neg (by decide)] at h2
      exact ⟨_, false, _, rfl, h1, by rw [if_neg (by decide)]; exact ⟨by simp [h2], hw x⟩⟩)
  rw [e]
  congr 2
  clear e hs hl
  induction L with
  | nil => rfl
  | cons x L ih =>
    show List.filterMap _ (D.int x :: dI L) = _
    rw [List.filterMap_cons, List.filterMap_cons, ih]
    cases hP : P x <;> simp [hP]
theorem fm_filter (p : Int → Bool) (L : List Int) : L.filterMap (fun x => if p x = true then some x else none) = L.filter p := by
  induction L with
  | nil => rfl
  | cons x L ih =>
    rw [List.filterMap_cons, List.filter_cons, ih]
    cases p x <;> simp
theorem sortDn_of_perm {a b : List Int} (h : a.Perm b) : sortDn a = sortDn b := dn_unique ((sortDn_perm a).trans (h.trans (sortDn_perm b).symm)) (sortDn_pw a) (sortDn_pw b)
theorem sortUp_of_perm {a b : List Int} (h : a.Perm b) : sortUp a = sortUp b := up_unique ((sortUp_perm a).trans (h.trans (sortUp_perm b).symm)) (sortUp_pw a) (sortUp_pw b)
theorem sortDn_rev (a : List Int) : sortDn a = (sortUp a).reverse := dn_unique ((sortDn_perm a).trans ((List.reverse_perm _).trans (sortUp_perm a)).symm) (sortDn_pw a) (by
  rw [List.pairwise_reverse]; exact sortUp_pw a)
theorem sortDn_idem (a : List Int) : sortDn (sortDn a) = sortDn a := sortDn_of_perm (sortDn_perm a)
theorem sortDn_mem {a : List Int} {x : Int} : x ∈ sortDn a ↔ x ∈ a := (sortDn_perm a).mem_iff
theorem sortDn_nil_iff {a : List Int} : sortDn a = [] ↔ a = [] := by
  rw [← List.length_eq_zero_iff, ← List.length_eq_zero_iff, (sortDn_perm a).length_eq]
theorem sortUp_nil_iff {a : List Int} : sortUp a = [] ↔ a = [] := by
  rw [← List.length_eq_zero_iff, ← List.length_eq_zero_iff, (sortUp_perm a).length_eq]
theorem pickA_mem {α : Type} {xs : List α} {lo hi st : Option Int} {x : α} (h : x ∈ pickA xs lo hi st) : x ∈ xs := by
  unfold pickA at h
  obtain ⟨i, _, hi⟩ := List.mem_filterMap.mp h
  exact List.mem_of_getElem? hi
/-- a loop that leaves the state as it is -/
theorem for_same {bs : List (Nat × List D)} {rst : List Nat} {g : D → List Sl → Option (List Sl)} {b : MS} {items : List D} {ρ : List Sl} (hc : chk ρ bs) (hs : ∀ d ∈ items, ∃ ρ1 ρ2, g d ρ = some ρ1 ∧ b ρ1 = some (.nx, ρ2) ∧ wipeS ρ2 rst = ρ) :
    forD bs rst g b items ρ = some (.nx, ρ) :=
  for_eq (bs := bs) (rst := rst) (g := g) (b := b) (items := items) (fun _ => ρ) (fun _ _ => hc) fun i d hi => hs d (List.mem_of_getElem? hi)
/-- a running number: a sum over a list of ints -/
theorem set_rev {a : List Int} {j : Nat} {v : Int} (h : j < a.length) : (a.set j v).reverse = a.reverse.set (a.length - 1 - j) v := by
  apply List.ext_getElem?
  intro i
  by_cases hi : i < a.length
  · rw [List.getElem?_reverse (by simpa using hi), List.length_set, List.getElem?_set, List.getElem?_set]
    by_cases z : i = a.length - 1 - j
    · have : j = a.length - 1 - i := by omega
      rw [if_pos this, if_pos (by omega), if_pos (by omega), if_pos (by simp; omega)]
    · rw [if_neg (by omega), if_neg (by omega), List.getElem?_reverse hi]
  · rw [List.getElem?_eq_none (by simp; omega), List.getElem?_eq_none (by simp; omega)]
end FW

/-! list(reversed(x)): x a list or a range -/
namespace FW
noncomputable section
open PySem L2
section
variable {prog : Program} {w : World} {A : Around} {E : Value → Shared → Prop} {s : Shared} {I : Addr} {n : Nat} {P : Nat → Value → Prop} {fp : List Addr} {St : Nat → Shared → Prop}
/-- list(an iterator), its items by a walk -/
theorem ext_walk {R : Result → Shared → Prop} {T : String} (W : WalksS prog w A.in1 I fp [I] (fun a b => b = a) n P St) (hT : ∀ i s, St i s → s.TypeIs (.ref I) T) (hTm : T = "list_reverseiterator" ∨ T = "range_iterator")
    (hn : n ≤ sizeLine) (S : Addr) (hSf : S ∉ fp) (hSI : S ≠ I) (c0 : Nat) (hS : s.heap.get? S = some { cls := .type "list", data := .seq #[] c0 }) (hst : St 0 s) (res : Value)
    (hint : ∀ (s₁ : Shared) (Q' : Bool → Shared → Prop) (E' : Value → Shared → Prop), St 0 s₁ → (∀ tk, s₁.toks ≤ tk → Q' false { s₁ with toks := tk }) → wpAny (model prog w) A.in1 (Builtin.List.listLengthHint (.ref I)) Q' E' s₁)
    (hR : ∀ h' tk acc' c', (∀ b o, b ≠ S → b ≠ I → s.heap.get? b = some o → h'.get? b = some o) → h'.get? S = some { cls := .type "list", dict := none, data := .seq acc' c', slots := #[] } → ItemsOf P acc' n → R (.ok (.ret res)) { s with heap := h', toks := tk }) :
    wpAny (model prog w) A.in1 (Builtin.List.listExtendWith (.ref S) (.ref I) res)
      (fun fin s' => match fin with | .done f => R (.ok f) s' | .again c' => c'.quiet = true ∧ codeAny (model prog w) A c' R s') (fun e s' => R (.error e) s') s := by
  have ne : Builtin.List.listSameRef (.ref S) (.ref I) = false := by simp [Builtin.List.listSameRef, hSI]
  unfold Builtin.List.listExtendWith
  refine wpAny_bind (wpAny_typeOf (hT 0 _ hst) ?_)
  have h2 : (Value.type T == Value.type "list") = false := by rcases hTm with rfl | rfl <;> decide
  have h3 : (Value.type T == Value.type "tuple") = false := by rcases hTm with rfl | rfl <;> decide
  simp only [ne, h2, h3, Bool.or_false, Bool.false_eq_true, if_false]
  refine wpAny_bind (W.self 0 _ _ _ hst (wpAny_bind (wpAny_holding (hint _ _ _ hst fun tk htk => ?_))))
  rw [if_neg (by rcases hTm with rfl | rfl <;> decide)]
  have st2 := W.frame 0 _ _ tk hst htk fun b _ o e => e
  refine wpAny_pure ⟨plainId_quiet F.plain_extend_loop _, codeAny_extend_loopS W hn S hSf res n 0 { s with toks := tk } #[] c0 rfl (Nat.zero_le _) st2 hS (ItemsOf.nil _) fun s' acc' c' hm hS' hacc => ?_⟩
  rw [Moved.eq_with hm]
  refine hR s'.heap s'.toks acc' c' (fun b o hb hb' e => hm.heap b o (fun hmem => ?_) e) hS' hacc
  rcases List.mem_cons.mp hmem with z | z
  · exact hb z
  · exact hb' (List.mem_singleton.mp z)
theorem call_list_walk {Q : Value → Shared → Prop} {T : String} (W : WalksS prog w A.in1.in1 I fp [I] (fun a b => b = a) n P St) (hT : ∀ i s, St i s → s.TypeIs (.ref I) T) (hTm : T = "list_reverseiterator" ∨ T = "range_iterator")
    (hn : n ≤ sizeLine) (hSf : ∀ b ∈ fp, b < s.heap.objs.size) (hI : I ∈ fp) (hst : St 0 s)
    (hint : ∀ (s₁ : Shared) (Q' : Bool → Shared → Prop) (E' : Value → Shared → Prop), St 0 s₁ → (∀ tk, s₁.toks ≤ tk → Q' false { s₁ with toks := tk }) → wpAny (model prog w) A.in1.in1 (Builtin.List.listLengthHint (.ref I)) Q' E' s₁)
    (hQ : ∀ h' tk acc' c', (∀ b o, b ≠ I → s.heap.get? b = some o → h'.get? b = some o) → h'.get? s.heap.objs.size = some { cls := .type "list", dict := none, data := .seq acc' c', slots := #[] } → ItemsOf P acc' n → Q (.ref s.heap.objs.size) { s with heap := h', toks := tk }) :
    wpAny (model prog w) A (call (.type "list") [.ref I]) Q E s := by
  have nf : s.heap.objs.size ∉ fp := fun h => Nat.lt_irrefl _ (hSf _ h)
  have nI : s.heap.objs.size ≠ I := fun e => nf (e ▸ hI)
  refine callType_codes (Q₁ := fun obj s₁ => obj = .ref s.heap.objs.size ∧ s₁ = { s with heap := s.heap.push { cls := .type "list", data := .seq #[] } }) PySem.F.called_list (PySem.F.typeCall_list_1 _) PySem.F.entry_list_init
    (code_list_new _ ⟨rfl, rfl⟩) (by
      rintro obj s₁ ⟨rfl, rfl⟩
      have hS : (s.heap.push { cls := .type "list", data := .seq #[] }).get? s.heap.objs.size = some { cls := .type "list", data := .seq #[] } := Heap.get?_push_size _ rfl
      refine ⟨⟨_, hS, rfl⟩, PySem.F.args_list_init_2 _ _, ?_⟩
      show wpAny _ _ (do let old ← Builtin.List.listItems (.ref s.heap.objs.size); Builtin.List.listUpdate (.ref s.heap.objs.size) (fun _ => #[]); letGo old.toList.reverse; Builtin.List.listExtendWith (.ref s.heap.objs.size) (.ref I) .none) _ _ _
      refine wpAny_bind ?_; unfold Builtin.List.listItems
      refine wpAny_bind (wpAny_seqItems hS rfl (wpAny_pure ?_))
      show wpAny _ _ (updateSeq s.heap.objs.size (fun _ => #[]) >>= fun _ => letGo (#[] : Array Value).toList.reverse >>= fun _ => Builtin.List.listExtendWith (.ref s.heap.objs.size) (.ref I) .none) _ _ _
      refine wpAny_bind (wpAny_updateSeq hS rfl (wpAny_bind (wpAny_letGo ?_)))
      have hS2 := Heap.get?_update_self (Obj.mapSeq (fun _ => (#[] : Array Value))) hS rfl
      have oth : ∀ b o, b ≠ s.heap.objs.size → s.heap.get? b = some o → ((s.heap.push { cls := .type "list", data := .seq #[] }).update s.heap.objs.size (Obj.mapSeq (fun _ => (#[] : Array Value)))).get? b = some o := fun b o hb e => (Heap.get?_update_other _ _ (Ne.symm hb)).trans (Heap.get?_push_of_some _ e)
      have st1 := W.frame 0 s ((s.heap.push { cls := .type "list", data := .seq #[] }).update s.heap.objs.size (Obj.mapSeq (fun _ => (#[] : Array Value)))) s.toks hst (Nat.le_refl _) fun b hb o e => oth b o (fun z => nf (z ▸ hb)) e
      refine ext_walk (A := A.in1) W hT hTm hn _ nf nI _ hS2 st1 .none hint fun h' tk acc' c' hk hS' hacc => ?_
      exact ⟨rfl, hQ h' tk acc' c' (fun b o hb e => hk b o (Nat.ne_of_lt (Heap.lt_size e)) hb (oth b o (Nat.ne_of_lt (Heap.lt_size e)) e)) hS' hacc⟩)
theorem hint_rev {it l : Addr} {i : Int} {Q' : Bool → Shared → Prop} {E' : Value → Shared → Prop} (hit : s.heap.IsRevIter it l i) (h : Q' false s) : wpAny (model prog w) A (Builtin.List.listLengthHint (.ref it)) Q' E' s := by
  have ty : s.TypeIs (.ref it) "list_reverseiterator" := hit.typeIs
  unfold Builtin.List.listLengthHint
  refine wpAny_bind (wpAny_specialOf ty RT.nolen_lri ?_)
  show wpAny _ A (specialOf (Value.ref it) (Str.ofString "__length_hint__") >>= _) _ _ _
  refine wpAny_bind (wpAny_specialOf ty RT.hint_lri ?_)
  (generalize hid : ("list_reverseiterator.__length_hint__" : String) = id0; wp_delta)
  (rw [show splitId id0 = some ("list_reverseiterator", "__length_hint__") from by subst hid; decide +kernel]; subst hid)
  refine (wpAny_bind (wpAny_isInstance (b := true) ty (by rw [isSubtype_type]; kernel_rfl) ?_))
  exact wpAny_pure h
theorem len_hint_rng {it : Addr} {x left step : Int} {Q : Value → Shared → Prop} (hit : IsRangeIter s.heap it x left step) (h : Q (.int left s.toks) { s with toks := s.toks + 1 }) : wpAny (model prog w) A (call (.builtin "range_iterator.__length_hint__") [.ref it]) Q E s := by
  have hT : s.TypeIs (.ref it) "range_iterator" := ⟨_, hit, rfl⟩
  refine wpAny_call_entry PySem.F.slot_range_iterator_length_hint hT PySem.F.entry_range_iterator_length_hint ?_ (PySem.F.args_range_iterator_length_hint_1 _)
  obtain ⟨hp, g, d, tk, os⟩ := s
  wp_walk using PySem.AutoSeq1.wpAny_loadPart' hit
  exact ⟨_, rfl, h⟩
end
end
end FW

/-! list(reversed(..)): the rules -/
namespace FW
noncomputable section
open PySem L2
open PyProof.Rows (boot_reversed boot_list callWith_type1 Call_ args_cons args_nil rangeSize_nat)
section
variable {prog : Program} {w : World} {A : Around} {s : Shared}
theorem hint_rng {it : Addr} {x left step : Int} {Q' : Bool → Shared → Prop} {E' : Value → Shared → Prop} (hit : IsRangeIter s.heap it x left step) (hn : left.toNat ≤ sizeLine) (h : Q' false { s with toks := s.toks + 1 }) : wpAny (model prog w) A (Builtin.List.listLengthHint (.ref it)) Q' E' s := by
  have ty : s.TypeIs (.ref it) "range_iterator" := ⟨_, hit, rfl⟩
  have small : Builtin.List.listTooLong left.toNat = false := by simp [Builtin.List.listTooLong]; omega
  unfold Builtin.List.listLengthHint
  refine wpAny_bind (wpAny_specialOf ty PySem.F.nolen_ra ?_)
  show wpAny _ A (specialOf (Value.ref it) (Str.ofString "__length_hint__") >>= _) _ _ _
  refine wpAny_bind (wpAny_specialOf ty PySem.F.hint_ra ?_)
  (generalize hid : ("range_iterator.__length_hint__" : String) = id0; wp_delta)
  (rw [show splitId id0 = some ("range_iterator", "__length_hint__") from by subst hid; decide +kernel]; subst hid)
  refine (wpAny_bind (wpAny_isInstance (b := true) ty (by rw [isSubtype_type]; kernel_rfl) ?_))
  show wpAny _ A (call (.builtin "range_iterator.__length_hint__") [.ref it] >>= _) _ _ _
  refine wpAny_bind (len_hint_rng hit (wpAny_bind (m := asInt? (.int left s.toks)) (wpAny_pure ?_)))
  dsimp only
  rw [if_neg (by rw [small]; decide)]
  exact wpAny_pure h
end
section
variable {X : Cx} {a e : Expr} {ma : M} {p p2 pos pos2 : Pos}
def tListRev (K : PySem.W.Frag) (te : TE) : TE := fun σ H Q => te σ H fun v H1 => ∃ (a : Addr) (xs : List V), v = .ref a ∧ SqL K H1 a xs ∧ ∀ q, H1 q = none → Q (.ref q) (upd H1 q (.lst xs.reverse))
theorem pe_listRev {te : TE} (hc : X.calm = true) (hg : Gl X "list") (hm : X.mg "list" = none) (hg2 : Gl X "reversed") (hm2 : X.mg "reversed" = none) (he : PE X e te)
    (hs : starEach [e] X.env = (false, eval e X.env) :: starEach [] X.env)
    (hs2 : starEach [.Call (.Name "reversed" p2) [e] [] pos2] X.env = (false, eval (.Call (.Name "reversed" p2) [e] [] pos2) X.env) :: starEach [] X.env) :
    PE X (.Call (.Name "list" p) [.Call (.Name "reversed" p2) [e] [] pos2] [] pos) (tListRev X.K te) := by
  refine ⟨fun pins s σ H Q I h => Call_ (ld_blt I hg hm boot_list (callWith_type1 (args_cons (Call_ (ld_blt I hg2 hm2 boot_reversed (callWith_type1 (args_cons (thn (he.run pins s σ H _ I h) fun u s1 ⟨v, H1, I1, r1, q1⟩ => args_nil ?_) hs) hs rfl))) hs2) hs2 rfl))⟩
  obtain ⟨l, xs, rfl, hq, q⟩ := q1
  cases r1
  obtain ⟨its, rv, pl, hz⟩ := I1.list hq
  refine call_reversed_list pl.isList (args_nil ?_)
  have il := pl.isList
  obtain ⟨ol, hol, _⟩ := id il
  have hne : l ≠ s1.heap.objs.size := Nat.ne_of_lt (Heap.lt_size hol)
  have hn : its.toArray.size ≤ sizeLine := by rw [List.size_toArray, ← rv.length]; exact hz
  have e0 : ((its.toArray.size : Nat) : Int) - 1 - ((0 : Nat) : Int) = (its.toArray.size : Int) - 1 := by omega
  have hit : (s1.heap.push (revObj l ((its.toArray.size : Int) - 1))).IsRevIter s1.heap.objs.size l ((its.toArray.size : Int) - 1) := ⟨_, Heap.get?_push_size _ rfl, rfl, rfl⟩
  refine call_list_walk (s := { s1 with heap := s1.heap.push (revObj l ((its.toArray.size : Int) - 1)) }) (T := "list_reverseiterator") (Walks.listRev (A := X.A.in1.in1) (I1.ok.hd hc) s1.heap.objs.size l hne its.toArray).toS (fun _ _ st => st.2.1.typeIs) (.inl rfl) hn (fun b hb => ?_) (by simp) ⟨Nat.zero_le _, by rw [e0]; exact hit, il.push _⟩ (fun s₁ Q' E' st hk => hint_rev st.2.1 (hk s₁.toks (Nat.le_refl _))) fun h' tk acc c' hk hS' hacc => ?_
  · rw [Heap.size_push]
    simp only [List.mem_cons, List.not_mem_nil, or_false] at hb
    rcases hb with rfl | rfl
    · exact Nat.lt_succ_self _
    · exact Nat.lt_succ_of_lt (Heap.lt_size hol)
  · have keep : ∀ b o, s1.heap.get? b = some o → h'.get? b = some o := fun b o e => hk b o (Nat.ne_of_lt (Heap.lt_size e)) (Heap.get?_push_of_some _ e)
    have vr := RT.vals_rev rv hacc
    have sz : s1.heap.objs.size ≤ (s1.heap.push (revObj l ((its.toArray.size : Int) - 1))).objs.size := by rw [Heap.size_push]; exact Nat.le_succ _
    refine ⟨.ref _, _, I1.laid (t' := tk) (o := .lst xs.reverse) keep sz ⟨by rw [List.length_reverse]; exact hz, acc.toList, c', vr, ?_⟩, rfl, q _ (I1.hok.fresh sz)⟩
    rw [Array.toArray_toList]; exact hS'
def tListRevRg (tr : St → Hp → (Int → Int → Hp → Prop) → Prop) : TE := fun σ H Q => tr σ H fun a b H1 => -(2 ^ 62) ≤ a ∧ a < 2 ^ 62 ∧ -(2 ^ 62) ≤ b ∧ b < 2 ^ 62 ∧ (b - a).toNat ≤ 2 ^ 24 ∧ ∀ q, H1 q = none → Q (.ref q) (upd H1 q (.lst (rgV a b).reverse))
theorem pe_listRevRg {tr : St → Hp → (Int → Int → Hp → Prop) → Prop} (hc : X.calm = true) (hg : Gl X "list") (hm : X.mg "list" = none) (hg2 : Gl X "reversed") (hm2 : X.mg "reversed" = none) (he : PRg X e tr)
    (hs : starEach [e] X.env = (false, eval e X.env) :: starEach [] X.env)
    (hs2 : starEach [.Call (.Name "reversed" p2) [e] [] pos2] X.env = (false, eval (.Call (.Name "reversed" p2) [e] [] pos2) X.env) :: starEach [] X.env) :
    PE X (.Call (.Name "list" p) [.Call (.Name "reversed" p2) [e] [] pos2] [] pos) (tListRevRg tr) := by
  refine ⟨fun pins s σ H Q I h => Call_ (ld_blt I hg hm boot_list (callWith_type1 (args_cons (Call_ (ld_blt I hg2 hm2 boot_reversed (callWith_type1 (args_cons (thn (he pins s σ H _ I h) fun u s1 hx => args_nil ?_) hs) hs rfl))) hs2) hs2 rfl))⟩
  obtain ⟨r, a, b, t, w1, v, H1, eu, hr, I1, b1, b2, b3, b4, b5, q⟩ := hx
  subst eu
  have hn : Builtin.Range.rangeSize a b 1 = (((b - a).toNat : Nat) : Int) := rangeSize_nat a b
  refine call_reversed_range hr (smallRev_one b1 b2 b3 b4) (args_nil ?_)
  have hit : IsRangeIter (s1.heap.push (rngRevObj a b 1)) s1.heap.objs.size (a + (((b - a).toNat : Nat) : Int) - 1 + ((0 : Nat) : Int) * (-1)) ((((b - a).toNat : Nat) : Int) - ((0 : Nat) : Int)) (-1) := by
    have e1 : a + (((b - a).toNat : Nat) : Int) - 1 + ((0 : Nat) : Int) * (-1) = a + (Builtin.Range.rangeSize a b 1 - 1) * 1 := by rw [hn]; omega
    have e2 : (((b - a).toNat : Nat) : Int) - ((0 : Nat) : Int) = Builtin.Range.rangeSize a b 1 := by rw [hn]; omega
    rw [e1, e2]
    exact Heap.get?_push_size _ rfl
  refine call_list_walk (s := { s1 with heap := s1.heap.push (rngRevObj a b 1) }) (T := "range_iterator") (Walks.range (A := X.A.in1.in1) (I1.ok.hd hc) s1.heap.objs.size (a + (((b - a).toNat : Nat) : Int) - 1) (-1) (b - a).toNat).toS (fun _ _ st => ⟨_, st, rfl⟩) (.inr rfl) (by rw [sizeLine_eq]; omega) (fun c hcm => ?_) (by simp) hit (fun s₁ Q' E' st hk => hint_rng st (by rw [sizeLine_eq]; omega) (hk (s₁.toks + 1) (Nat.le_succ _))) fun h' tk acc c' hk hS' hacc => ?_
  · rw [List.mem_singleton.mp hcm, Heap.size_push]
    exact Nat.lt_succ_self _
  · have keep : ∀ c o, s1.heap.get? c = some o → h'.get? c = some o := fun c o e => hk c o (Nat.ne_of_lt (Heap.lt_size e)) (Heap.get?_push_of_some _ e)
    have sz : s1.heap.objs.size ≤ (s1.heap.push (rngRevObj a b 1)).objs.size := by rw [Heap.size_push]; exact Nat.le_succ _
    have al : acc.toList.length = (b - a).toNat := by rw [Array.length_toList]; exact hacc.1
    have rl : (rgV a b).length = (b - a).toNat := rgV_length a b
    have vr : Vals (rgV a b).reverse acc.toList := vals_of_at (by rw [List.length_reverse, rl, al]) fun j x u hx hu => by
      have hj : j < (b - a).toNat := by
        have := (List.getElem?_eq_some_iff.mp hu).1
        omega
      rw [List.getElem?_reverse (by omega), rl] at hx
      obtain ⟨t', e⟩ := hacc.2 j u (by rw [← Array.getElem?_toList]; exact hu)
      unfold rgV at hx
      rw [List.getElem?_map, List.getElem?_range (by omega)] at hx
      have hx := Option.some.inj hx
      subst hx
      subst e
      have e3 : a + (((b - a).toNat : Nat) : Int) - 1 + (j : Nat) * (-1) = a + (((b - a).toNat - 1 - j : Nat) : Int) := by omega
      rw [e3]
      exact ⟨t', rfl⟩
    refine ⟨.ref _, _, I1.laid (t' := tk) (o := .lst (rgV a b).reverse) keep sz ⟨by rw [List.length_reverse, rl, sizeLine_eq]; omega, acc.toList, c', vr, ?_⟩, rfl, q _ (I1.hok.fresh sz)⟩
    rw [Array.toArray_toList]; exact hS'
def mListRev (a : M) : M := fun ρ => (a ρ).bind fun x => (lsv x.2 x.1).map fun xs => (.own (.ow xs.reverse), x.2)
theorem b_listRev (hc : X.calm = true) (hm : X.mg "list" = none) (hmr : X.mg "reversed" = none) (ha : SE X a ma) (hg : Gl X "list" := by rfl) (hgr : Gl X "reversed" := by rfl)
    (na : starEach [a] X.env = (false, eval a X.env) :: starEach [] X.env := by rfl) (nb : starEach [.Call (.Name "reversed" p2) [a] [] pos2] X.env = (false, eval (.Call (.Name "reversed" p2) [a] [] pos2) X.env) :: starEach [] X.env := by rfl) :
    SE X (.Call (.Name "list" p) [.Call (.Name "reversed" p2) [a] [] pos2] [] pos) (mListRev ma) := PE.imp (pe_listRev hc hg hm hgr hmr ha na nb) fun σ H Q h => by
  obtain ⟨cs, G, r, ρ', e1, rs, hm, k⟩ := h
  obtain ⟨⟨r1, ρ1⟩, h1, hm⟩ := Option.bind_eq_some_iff.mp hm
  obtain ⟨xs, hx, hm⟩ := Option.map_eq_some_iff.mp hm
  cases hm
  refine ⟨cs, G, r1, _, e1, rs, h1, fun cs1 v B G1 H1 f1 f2 fb rs1 st1 => ?_⟩
  subst f1; subst f2
  obtain ⟨a1, vs1, q1, q2, q3⟩ := lsv_rep rs1.tail rs1.h1 rfl rfl fb hx
  exact ⟨a1, vs1, q1, q2, fun q hq => (Fin.of k rfl rfl rs1.tail st1.back1).l _ q _ rfl hq q3.reverse⟩
def mListRevR1 (a : M) : M := fun ρ => match a ρ with
  | some (.val (.int n), ρ') => @ite _ (-(2 ^ 62) ≤ n ∧ n < 2 ^ 62 ∧ n.toNat ≤ 2 ^ 24) (Classical.propDecidable _) (some (.own (.ow (rgD 0 n.toNat).reverse), ρ')) none
  | _ => none
theorem b_listRevR1 (hc : X.calm = true) (hm : X.mg "list" = none) (hmr : X.mg "reversed" = none) (hmg : X.mg "range" = none) {rp q : Pos} (ha : SE X a ma) (hg : Gl X "list" := by rfl) (hgr : Gl X "reversed" := by rfl) (hgg : Gl X "range" := by rfl)
    (na : starEach [a] X.env = (false, eval a X.env) :: starEach [] X.env := by rfl)
    (nc : starEach [.Call (.Name "range" rp) [a] [] q] X.env = (false, eval (.Call (.Name "range" rp) [a] [] q) X.env) :: starEach [] X.env := by rfl)
    (nb : starEach [.Call (.Name "reversed" p2) [.Call (.Name "range" rp) [a] [] q] [] pos2] X.env = (false, eval (.Call (.Name "reversed" p2) [.Call (.Name "range" rp) [a] [] q] [] pos2) X.env) :: starEach [] X.env := by rfl) :
    SE X (.Call (.Name "list" p) [.Call (.Name "reversed" p2) [.Call (.Name "range" rp) [a] [] q] [] pos2] [] pos) (mListRevR1 ma) := PE.imp (pe_listRevRg hc hg hm hgr hmr (prg_1 hgg hmg ha na) nc nb) fun σ H Q h => by
  obtain ⟨cs, G, r, ρ', e1, rs, hm, k⟩ := h
  unfold mListRevR1 at hm
  split at hm
  · rename_i n ρ1 ea
    split at hm
    · rename_i hb
      cases hm
      refine ⟨cs, G, _, _, e1, rs, ea, fun cs1 v B G1 H1 f1 f2 fb rs1 st1 => ?_⟩
      obtain ⟨rp, rfl⟩ := rs1.val
      refine ⟨n, rp.int_iff, by omega, by omega, hb.1, hb.2.1, by simpa using hb.2.2, fun q hq => ?_⟩
      have e : rgV 0 n = (List.range n.toNat).map fun (i : Nat) => V.int (0 + (i : Int)) := by unfold rgV; simp
      rw [e]
      exact (Fin.of k f1 f2 rs1.tail st1.back1).l _ q _ rfl hq (reps_rg 0 _).reverse
    · cases hm
  · cases hm
@[simp] theorem r_listRev {ρ : List Sl} (a : M) : mListRev a ρ = (a ρ).bind fun x => (lsv x.2 x.1).map fun xs => (.own (.ow xs.reverse), x.2) := rfl
@[simp] theorem r_listRevR1 {ρ : List Sl} (a : M) : mListRevR1 a ρ = match a ρ with
  | some (.val (.int n), ρ') => ifc (-(2 ^ 62) ≤ n ∧ n < 2 ^ 62 ∧ n.toNat ≤ 2 ^ 24) (some (.own (.ow (rgD 0 n.toNat).reverse), ρ')) none
  | _ => none := rfl
end
end
end FW

/-! x[i], x[j] = a, b -/
namespace FW
noncomputable section
open PySem L2
section
variable {X : Cx} {a b e : Expr} {ma mb me : M} {pos np1 np2 tp1 tp2 tpos : Pos} {P : Nat → Prop} {kk : Nat}
def put2 (i : Nat) (m1 m2 : M) (d1 d2 : D) (ρ : List Sl) : Option (Ctl × List Sl) := match ρ[i]? with
  | some (.ow _) => (m1 ρ).bind fun y => match y.1, y.2[i]? with
    | .val (.int k1), some (.ow xs) => (ixN xs.length k1).bind fun j1 => (m2 (y.2.set i (.ow (xs.set j1 d1)))).bind fun w => match w.1, w.2[i]? with
      | .val (.int k2), some (.ow ys) => (ixN ys.length k2).map fun j2 => (.nx, w.2.set i (.ow (ys.set j2 d2)))
      | _, _ => none
    | _, _ => none
  | _ => none
def sPutTwo (i : Nat) (m1 m2 m : M) : MS := fun ρ => (m ρ).bind fun x => match x.1 with
  | .val (.tup [d1, d2]) => put2 i m1 m2 d1 d2 x.2
  | _ => none
theorem ss_putTwo (i : Nat) {x : Str} (hc : X.calm = true) (he : SE X e me) (hk1 : SE X a ma) (hk2 : SE X b mb)
    (hN : X.N[i]? = some x := by rfl) (hv : Vis X.env.scope x := by first | exact Or.inl rfl | exact Or.inr (Or.inl rfl) | exact Or.inr (Or.inr rfl)) (hd : (x == ("__debug__" : Str)) = false := by decide) (hcd : (x == ("__classdict__" : Str)) = false := by decide)
    (ha1 : ∀ v, assign (.Subscript (.Name x np1) a tp1) X.env v = (do
      let ov ← holding [v] (eval (.Name x np1) X.env)
      let iv ← holding [v, ov] (eval a X.env)
      standAt tp1
      holding [v, ov, iv] (setItem ov iv v)
      release [v, ov, iv] []) := by intro _; rfl)
    (ha2 : ∀ v, assign (.Subscript (.Name x np2) b tp2) X.env v = (do
      let ov ← holding [v] (eval (.Name x np2) X.env)
      let iv ← holding [v, ov] (eval b X.env)
      standAt tp2
      holding [v, ov, iv] (setItem ov iv v)
      release [v, ov, iv] []) := by intro _; rfl)
    (hp1 : (assignEach [.Subscript (.Name x np1) a tp1, .Subscript (.Name x np2) b tp2] X.env).map (·.2) = assign (.Subscript (.Name x np1) a tp1) X.env :: (assignEach [.Subscript (.Name x np2) b tp2] X.env).map (·.2) := by rfl)
    (hp2 : (assignEach [.Subscript (.Name x np2) b tp2] X.env).map (·.2) = assign (.Subscript (.Name x np2) b tp2) X.env :: (assignEach [] X.env).map (·.2) := by rfl)
    (hn : (assignEach [.Subscript (.Name x np1) a tp1, .Subscript (.Name x np2) b tp2] X.env).length = 2 := by rfl) (hst : (assignEach [.Subscript (.Name x np1) a tp1, .Subscript (.Name x np2) b tp2] X.env).findIdx? (·.1) = none := by rfl)
    (hs : swapsWithSole [.Tuple [.Subscript (.Name x np1) a tp1, .Subscript (.Name x np2) b tp2] kk tpos] e pos.line X.env = pure false := by rfl) (hw : swappedStores [.Tuple [.Subscript (.Name x np1) a tp1, .Subscript (.Name x np2) b tp2] kk tpos] e X.env = pure none := by rfl)
    (h1 : (assignEach [.Tuple [.Subscript (.Name x np1) a tp1, .Subscript (.Name x np2) b tp2] kk tpos] X.env).map (·.2) = [assign (.Tuple [.Subscript (.Name x np1) a tp1, .Subscript (.Name x np2) b tp2] kk tpos) X.env] := by rfl) :
    SS X P (.Assign [.Tuple [.Subscript (.Name x np1) a tp1, .Subscript (.Name x np2) b tp2] kk tpos] e pos) (sPutTwo i ma mb me) :=
  PS.imp (ps_asg he (pg_tup hc (pgs_cons (pg_sub (pe_var hN hv hd hcd) hk1 set_list ha1) (pgs_cons (pg_sub (pe_var hN hv hd hcd) hk2 set_list ha2) pgs_nil hp2) hp1) hn hst) hs hw h1) fun D σ H h => by
    obtain ⟨cs, G, k, ρ', e1, rs, hm, q⟩ := h
    obtain ⟨⟨r0, ρ1⟩, h0, hm⟩ := Option.bind_eq_some_iff.mp hm
    dsimp only at hm
    split at hm
    · rename_i d1 d2
      unfold put2 at hm
      split at hm
      · rename_i xs0 ex0
        obtain ⟨⟨r1, ρ2⟩, h2, hm⟩ := Option.bind_eq_some_iff.mp hm
        dsimp only at hm
        split at hm
        · rename_i k1 xs ex1
          obtain ⟨j1, h3, hm⟩ := Option.bind_eq_some_iff.mp hm
          obtain ⟨⟨r2, ρ3⟩, h4, hm⟩ := Option.bind_eq_some_iff.mp hm
          dsimp only at hm
          split at hm
          · rename_i k2 ys ex2
            obtain ⟨j2, h5, hm⟩ := Option.map_eq_some_iff.mp hm
            cases hm
            refine ⟨cs, G, _, ρ1, e1, rs, h0, fun cs1 v B G1 H1 f1 f2 fb rs1 st1 => ?_⟩
            subst e1
            obtain ⟨rp, rfl⟩ := rs1.val
            have rt1 := rs1.tail
            cases rp with
            | tup qt rr =>
              cases rr with
              | cons p1 rr =>
                cases rr with
                | cons p2 rr =>
                  cases rr
                  rename_i ad v1 v2
                  obtain ⟨v0, hv0⟩ := ow_val rt1 (by rw [f2]; exact ex0)
                  refine ⟨ad, [v1, v2], rfl, same_sqT rt1.same qt, rfl, v1, [v2], rfl, v0, by rw [← f1]; exact hv0, cs1, G1, _, ρ2, f1, rt1, by rw [f2]; exact h2, fun cs2 w B2 G2 H2 g1 g2 gb rs2 st2 => ?_⟩
                  obtain ⟨rw1, rfl⟩ := rs2.val
                  have rt2 := rs2.tail
                  have s2 : Stp (own cs1) G1 H1 (own cs2) G2 H2 := st2.back1
                  obtain ⟨a1, ws, q1, q2, q3, q4, q5⟩ := ow_cell (v := v0) rt2 (by rw [g2]; exact ex1) (by rw [g1, ← f1]; exact hv0)
                  refine ⟨a1, ws, k1, j1, q1, rw1.int_iff, q3, by rw [q5.length]; exact h3, v2, [], rfl, ?_⟩
                  have m1 := p1.mono s2.gs
                  have m2 := p2.mono s2.gs
                  have wr := Res.write (H' := upd H2 a1 (.lst (ws.set j1 v1))) (c' := ⟨some (.ref a1), .ow (xs.set j1 d1), [a1]⟩) rt2 q2 (fun b hb => upd_ne (by simpa using hb)) (.inr ⟨_, rfl, .ow upd_same (q5.set m1 j1)⟩) rfl (fun b hb => by
                    have : b = a1 := by simpa using hb
                    subst this; rw [upd_same]; simp)
                  have ev : vals (cs2.set i ⟨some (.ref a1), .ow (xs.set j1 d1), [a1]⟩) = vals cs := by rw [set_vals (c' := ⟨some (.ref a1), .ow (xs.set j1 d1), [a1]⟩) q2 rfl, g1]
                  refine ⟨v0, by rw [← f1]; exact hv0, cs2.set i ⟨some (.ref a1), .ow (xs.set j1 d1), [a1]⟩, G2, _, ρ3, ev, wr.1, by rw [slots_set, g2]; exact h4, fun cs3 u B3 G3 H3 l1 l2 lb rs3 st3 => ?_⟩
                  obtain ⟨rw2, rfl⟩ := rs3.val
                  have rt3 := rs3.tail
                  have s3 := st3.back1
                  obtain ⟨a2, us, t1, t2, t3, t4, t5⟩ := ow_cell (v := v0) rt3 (by rw [l2]; exact ex2) (by rw [l1, ← f1]; exact hv0)
                  refine ⟨a2, us, k2, j2, t1, rw2.int_iff, t3, by rw [t5.length]; exact h5, rfl, ?_⟩
                  have m3 := m2.mono s3.gs
                  have wr2 := Res.write (H' := upd H3 a2 (.lst (us.set j2 v2))) (c' := ⟨some (.ref a2), .ow (ys.set j2 d2), [a2]⟩) rt3 t2 (fun b hb => upd_ne (by simpa using hb)) (.inr ⟨_, rfl, .ow upd_same (t5.set m3 j2)⟩) rfl (fun b hb => by
                    have : b = a2 := by simpa using hb
                    subst this; rw [upd_same]; simp)
                  have ev2 : vals (cs3.set i ⟨some (.ref a2), .ow (ys.set j2 d2), [a2]⟩) = vals cs := by rw [set_vals (c' := ⟨some (.ref a2), .ow (ys.set j2 d2), [a2]⟩) t2 rfl, l1]
                  have z := KS.nx q (by rw [slots_set, l2]) (len_of ev2) (fun _ _ => by rw [ev2]) wr2.1 (st1.back1.trans (s2.trans (wr.2.trans (s3.trans wr2.2))))
                  rw [ev2] at z
                  exact z
          · cases hm
        · cases hm
      · cases hm
    · cases hm
@[simp] theorem r_putTwo {ρ : List Sl} (i : Nat) (m1 m2 m : M) : sPutTwo i m1 m2 m ρ = (m ρ).bind fun x => match x.1 with
  | .val (.tup [d1, d2]) => put2 i m1 m2 d1 d2 x.2
  | _ => none := rfl
@[simp] theorem r_put2 {ρ : List Sl} (i : Nat) (m1 m2 : M) (d1 d2 : D) : put2 i m1 m2 d1 d2 ρ = match ρ[i]? with
  | some (.ow _) => (m1 ρ).bind fun y => match y.1, y.2[i]? with
    | .val (.int k1), some (.ow xs) => (ixN xs.length k1).bind fun j1 => (m2 (y.2.set i (.ow (xs.set j1 d1)))).bind fun w => match w.1, w.2[i]? with
      | .val (.int k2), some (.ow ys) => (ixN ys.length k2).map fun j2 => (.nx, w.2.set i (.ow (ys.set j2 d2)))
      | _, _ => none
    | _, _ => none
  | _ => none := rfl
end
end
end FW

/-! is True, is not False, of truth values -/
namespace FW
noncomputable section
open PySem L2
section
variable {X : Cx} {a b : Expr} {ma mb : M} {pos : Pos}
def isBD (neg : Bool) : D → D → Option D
  | .bl a, .bl b => some (.bl (decide (a = b) != neg))
  | _, _ => none
theorem op2_isB {K : PySem.W.Frag} {mg : Str → Option Value} : Op2 K mg (isBD false) rIsB := fun x y z H v w Q hz rx ry q => by
  unfold isBD at hz; split at hz
  · cases hz; exact ⟨_, _, rx.bl_iff, ry.bl_iff, q _ (by simp [scV])⟩
  · cases hz
theorem op2_isNotB {K : PySem.W.Frag} {mg : Str → Option Value} : Op2 K mg (isBD true) rNotB := fun x y z H v w Q hz rx ry q => by
  unfold isBD at hz; split at hz
  · cases hz; exact ⟨_, _, rx.bl_iff, ry.bl_iff, q _ (by simp [scV])⟩
  · cases hz
theorem se_isB (ha : SE X a ma) (hb : SE X b mb) : SE X (.Compare a [.Is] [b] pos) (mBin (isBD false) ma mb) := se_cmp op_isBl op2_isB ha hb (nomark _)
theorem se_isnB (ha : SE X a ma) (hb : SE X b mb) : SE X (.Compare a [.IsNot] [b] pos) (mBin (isBD true) ma mb) := se_cmp op_notBl op2_isNotB ha hb (nomark _)
theorem t_isB (ha : SE X a ma) (hb : SE X b mb) : STe X (.Compare a [.Is] [b] pos) (mB (mBin (isBD false) ma mb)) := st_cmp op_isBl op2_isB ha hb (nomark _)
theorem t_isnB (ha : SE X a ma) (hb : SE X b mb) : STe X (.Compare a [.IsNot] [b] pos) (mB (mBin (isBD true) ma mb)) := st_cmp op_notBl op2_isNotB ha hb (nomark _)
end
@[simp] theorem r_isBD (n a b : Bool) : isBD n (.bl a) (.bl b) = some (.bl (decide (a = b) != n)) := rfl
end
end FW

/-! range(i, j, -1) -/
namespace FW
noncomputable section
open PySem L2
section
variable {K : PySem.W.Frag} {mg : Str → Option Value} {js : List Nat}
def rgC (lo c : Int) (n : Nat) : List D := (List.range n).map fun (i : Nat) => D.int (lo + (i : Int) * c)
theorem rgC_at {lo c : Int} {n i : Nat} {d : D} (h : (rgC lo c n)[i]? = some d) : i < n ∧ d = .int (lo + (i : Int) * c) := by
  unfold rgC at h
  rw [List.getElem?_map] at h
  obtain ⟨j, e1, e2⟩ := Option.map_eq_some_iff.mp h
  obtain ⟨h1, h2⟩ := List.getElem?_eq_some_iff.mp e1
  rw [List.getElem_range] at h2
  rw [List.length_range] at h1
  subst h2
  exact ⟨h1, e2.symm⟩
@[simp] theorem rgC_len (lo c : Int) (n : Nat) : (rgC lo c n).length = n := by simp [rgC]
theorem itok_rangeC {lo c : Int} {n : Nat} {ds : List Cl} {ws : L2.St} : ItOk K mg (Itc lo c n) ⟨rgC lo c n, []⟩ ds js ws where
  stop := fun i cs G H rs hck hw hi => by
    show n ≤ i
    simpa [rgC] using hi
  go := fun i cs G H rs hck hw hi => by
    show i < n
    simpa [rgC] using hi
  yld := fun i cs G H v H' d rs hck hw hi hy => by
    obtain ⟨e1, e2⟩ := hy
    subst e1; subst e2
    obtain ⟨_, e3⟩ := rgC_at hi
    subst e3
    exact ⟨G, rs, Stp.refl, .int _⟩
end
theorem three_args {vs : List V} {r r' r'' : Rv} {v w z : V} (l : vs.length = [r, r', r''].length) (e : vs[0]? = some v) (e' : vs[1]? = some w) (e'' : vs[2]? = some z) : vs = [v, w, z] := by
  match vs, l with
  | [x, y, u], _ => simp at e e' e''; rw [e, e', e'']
def iR3 (ms : MA) : MI := fun ρ => (ms ρ).bind fun y => match y.1 with
  | [.val (.int i), .val (.int j), .val (.int k)] => @ite _ (k = -1 ∧ -(2 ^ 62) ≤ i ∧ i < 2 ^ 62 ∧ -(2 ^ 62) ≤ j ∧ j < 2 ^ 62) (Classical.propDecidable _) (some (⟨rgC i (-1) (i - j).toNat, []⟩, y.2)) none
  | _ => none
section
variable {X : Cx} {js : List Nat} {tg a b c : Expr} {ms : MA} {p pos : Pos}
theorem si_range3 (hg : Gl X "range") (hm : X.mg "range" = none) (ha : SA X [a, b, c] ms) (hs : starEach [a, b, c] X.env = (false, eval a X.env) :: starEach [b, c] X.env := by rfl) (hpl : (backTo pos (starEach [b, c] X.env)).any (·.1) = false := by rfl) :
    SI X js tg (.Call (.Name "range" p) [a, b, c] [] pos) (iR3 ms) := PI.imp (pi_range3 hg hm ha hs hpl) fun σ H Q h => by
  obtain ⟨cs, G, x, ρ', e1, rs, hm, k⟩ := h
  obtain ⟨⟨r1, ρ1⟩, h1, hm⟩ := Option.bind_eq_some_iff.mp hm
  dsimp only at hm
  split at hm
  · rename_i i j k'
    split at hm
    · rename_i hb
      obtain ⟨b0, b1, b2, b3, b4⟩ := hb
      subst b0
      cases hm
      refine ⟨cs, G, _, _, e1, rs, h1, fun cs1 ds vs G1 H1 f1 f2 fb f3 f4 rs1 st1 => ?_⟩
      have A := Args.of rs1 (by rw [f1]; exact fb) f3 f4
      obtain ⟨v, h2, h3⟩ := A.dat (i := 0) rfl rfl
      obtain ⟨w, h4, h5⟩ := A.dat (i := 1) rfl rfl
      obtain ⟨z, h6, h7⟩ := A.dat (i := 2) rfl rfl
      rw [three_args A.len h2 h4 h6, h3.int_iff, h5.int_iff, h7.int_iff]
      exact ⟨i, j, -1, _, rfl, RgC.neg b1 b2 b3 b4, k cs1 ds _ G1 H1 f1 f2 rs1 st1 itok_rangeC⟩
    · cases hm
  · cases hm
end
@[simp] theorem r_iR3 {ms : MA} {ρ : List Sl} : iR3 ms ρ = (ms ρ).bind fun y => match y.1 with
  | [.val (.int i), .val (.int j), .val (.int k)] => ifc (k = -1 ∧ -(2 ^ 62) ≤ i ∧ i < 2 ^ 62 ∧ -(2 ^ 62) ≤ j ∧ j < 2 ^ 62) (some (⟨rgC i (-1) (i - j).toNat, []⟩, y.2)) none
  | _ => none := rfl
end
end FW

/-! o != p by the own __eq__ of the left one's class: object.__ne__ asks it -/
namespace FW
noncomputable section
open PySem L2
section
variable {prog : Program} {w : World} {A : Around} {E : Value → Shared → Prop} {s : Shared} {K : PySem.W.Frag} {x C f : Addr} {ox : Obj} {od : Option Obj} {b : Value}
theorem ifBound_ne {M : Model} {args : List Value} {Q : Option Value → Shared → Prop} (X : K.In s.heap) (I : PySem.W.InstAt s.heap x ox C od) (hs : PySem.W.findIn K (.ref C) "__ne__" = some (some (.builtin "object.__ne__")))
    (h : wpAny M A (call (.builtin "object.__ne__") (.ref x :: args)) (fun v => Q (some v)) E s) : wpAny M A (callSpecialIfBound? (.ref x) "__ne__" args) Q E s := by
  simp only [callSpecialIfBound?, bindSpecialIfBound?]
  refine wpAny_holding (wpAny_bind (wpAny_bind (wpAny_bind (I.type.here ((PySem.W.looks_findIn X hs).here ?_)))))
  simp only [PySem.F.cmp_object.ne.bind]
  refine wpAny_bind (wpAny_askSetting (wpAny_ite ?_))
  have fin : wpAny M A (call (.builtin "object.__ne__") ([.ref x] ++ args) >>= fun v => pure (some v)) Q E s := wpAny_bind (wpAny_mono h (fun v s' h' => wpAny_pure h') fun _ _ h' => h')
  split
  · exact wpAny_bind (wpAny_pure (wpAny_pure fin))
  · exact wpAny_tryCatch (wpAny_bind (wpAny_pure (wpAny_pure fin)))
theorem check_ne {M : Model} {Q : Unit → Shared → Prop} (X : K.In s.heap) (I : PySem.W.InstAt s.heap x ox C od) (hm : PySem.W.subIn K (.ref C) (.type "object") = some true) (hq : Q () s) :
    wpAny M A (checkBuiltinCall "object.__ne__" ⟨[.ref x, b], []⟩) Q E s := by
  have ha := PySem.F.cmpArgs_ne (.ref x) b
  simp only [checkBuiltinCall, PySem.F.cmpKind_ne, PySem.F.cmpSplit_ne]
  refine wpAny_bind ?_
  unfold isInstance
  refine wpAny_bind (I.type.here ((PySem.W.looks_subIn X hm).here ?_))
  cases hsig : Manifest.signature? "object.__ne__" with
  | none => exact wpAny_pure hq
  | some sig =>
    simp only [argsOk, hsig] at ha
    have h2 : Bind.checkArgs "object.__ne__" sig ⟨[.ref x, b], []⟩ = pure () := ha
    show wpAny M A (Bind.checkArgs "object.__ne__" sig ⟨[.ref x, b], []⟩) Q E _
    rw [h2]; exact wpAny_pure hq
/-- what __eq__ gives: a truth value -/
def NeBack (Q : Value → Shared → Prop) (v : Value) (s' : Shared) : Prop := ∃ k, v = .bool k ∧ Q (.bool (!k)) s'
theorem ne_entry {Q : PySem.Fin → Shared → Prop} (hu : A.units < cLine) (X : K.In s.heap) (I : PySem.W.InstAt s.heap x ox C od) (hs : PySem.W.findIn K (.ref C) "__eq__" = some (some (.ref f))) (hf : PySem.W.isFn K (.ref f) = true)
    (h : wpAny (model prog w) A (call (.ref f) [.ref x, b]) (NeBack fun v => Q (.done (.ret v))) E s) : wpAny (model prog w) A (Builtin.«object.__ne__» ⟨[.ref x, b], []⟩) Q E s := by
  unfold Builtin.«object.__ne__»
  refine wpAny_bind (wpAny_pure ?_)
  refine wpAny_bind (wpAny_cRoomFor hu ?_)
  refine wpAny_bind (PySem.W.ifBound_K X I hs hf (wpAny_mono h (fun v s' hv => ?_) fun _ _ e => e))
  obtain ⟨k, rfl, q⟩ := hv
  refine wpAny_bind (wpAny_truthy_bool ?_)
  exact wpAny_pure q
theorem cmp_ne {L : Addr} {h₀ : Heap} {m : Str → Option Value} {tb : Value} {Q : Value → Shared → Prop} (hu : A.units + 1 < cLine) (F : PyProof.Rows.Fr h₀ L s.heap m) (X₀ : K.In h₀) (I : PySem.W.InstAt s.heap x ox C od) (hb : PySem.W.Looks (model prog w) s.heap (typeOf b) tb) (hn : PySem.W.notFirst K C tb = true)
    (hne : PySem.W.findIn K (.ref C) "__ne__" = some (some (.builtin "object.__ne__"))) (hm : PySem.W.subIn K (.ref C) (.type "object") = some true)
    (hs : PySem.W.findIn K (.ref C) "__eq__" = some (some (.ref f))) (hf : PySem.W.isFn K (.ref f) = true)
    (h : wpAny (model prog w) A.in1 (call (.ref f) [.ref x, b]) (NeBack Q) E s) : wpAny (model prog w) A (richCompare .NotEq (.ref x) b) Q E s := by
  have X := X₀.keeps F.keep
  have hu0 : A.units < cLine := Nat.lt_of_succ_lt hu
  have one : wpAny (model prog w) A (tryCompare (.ref x) "__ne__" b) (fun r s' => ∃ v, r = some v ∧ Q v s') E s := by
    unfold tryCompare
    refine wpAny_bind (ifBound_ne X I hne (wpAny_call (codeAny_call_builtin PySem.F.cmp_object.ne.plain PySem.F.cmpEntry_ne (check_ne X I hm (ne_entry (A := A.in1) hu X I hs hf (wpAny_mono h (fun v s' hv => ?_) fun _ _ e => e))))))
    obtain ⟨k, rfl, q⟩ := hv
    exact ⟨k, rfl, wpAny_pure ⟨_, rfl, q⟩⟩
  unfold richCompare
  simp only [oneThing_ref]
  refine wpAny_holding (wpAny_bind (wpAny_cRoomFor hu0 ?_))
  refine wpAny_bind (I.type.here (wpAny_bind (hb.here ?_)))
  split
  · rename_i q
    have e : PySem.W.subIn K tb (.ref C) = some false := by
      rcases Bool.or_eq_true_iff.mp hn with e | e
      · rw [beq_iff_eq.mp e] at q; simp at q
      · exact beq_iff_eq.mp e
    refine wpAny_bind ((PySem.W.looks_subIn X e).here ?_)
    simp only [Bool.false_eq_true, if_false]
    refine wpAny_bind (wpAny_mono one (fun r s' z => ?_) fun _ _ e => e)
    obtain ⟨v, rfl, hq⟩ := z
    exact wpAny_pure hq
  · refine wpAny_bind (wpAny_pure ?_)
    simp only [Bool.false_eq_true, if_false]
    refine wpAny_bind (wpAny_mono one (fun r s' z => ?_) fun _ _ e => e)
    obtain ⟨v, rfl, hq⟩ := z
    exact wpAny_pure hq
end
section
variable {X : Cx} {k : Nat} {C f : Addr} {fd : FuncData} {ps : List Str} {sp : Sp}
def rNeO (C : Addr) (sp : Sp) : R2 := fun x y H Q => ∃ a b dx dy fs gs, x = .ref a ∧ y = .ref b ∧ H a = some (.ins C dx fs) ∧ H b = some (.ins C dy gs) ∧ sp [x, y] H (fun v H' => ∃ k, v = .bl k ∧ Q (.bl (!k)) H') E0
theorem op_neO (F : FnOk X.prog X.w X.K X.mg X.base CX0 k f fd ps sp) (hr : Room (k + 1) X.A) (hb : Binds X.K fd ps []) (hne : PySem.W.findIn X.K (.ref C) "__ne__" = some (some (.builtin "object.__ne__"))) (hm : PySem.W.subIn X.K (.ref C) (.type "object") = some true)
    (hs : PySem.W.findIn X.K (.ref C) "__eq__" = some (some (.ref f))) (hf : PySem.W.isFn X.K (.ref f) = true) : OpR X (compareOp .NotEq) (rNeO C sp) := by
  intro pins s σ H x y v u Q I rx ry h
  obtain ⟨a, b, dx, dy, fs, gs, rfl, rfl, ha, hb', h⟩ := h
  cases rx
  cases ry
  show wpAny (model X.prog X.w) X.A (richCompare .NotEq (.ref a) (.ref b)) (EP X pins σ Q) X.xe s
  obtain ⟨mA, J, _⟩ := ins_get I.hok ha
  obtain ⟨mB, J', _⟩ := ins_get I.hok hb'
  obtain ⟨od, J, _⟩ := J.look
  obtain ⟨od', J', _⟩ := J'.look
  obtain ⟨m, hF⟩ := I.fr
  have hl := F.len _ _ _ _ h
  refine cmp_ne (tb := .ref C) (show X.A.units + 1 < cLine by have := hr.un; omega) hF I.ok.mod.kin J J'.type (by simp [PySem.W.notFirst]) hne hm hs hf ?_
  refine wpAny_call (codeAny_mono (F.run X.A.in1 X.stack s H ⟨[.ref a, .ref b], []⟩ [.ref a, .ref b] [.ref a, .ref b] _ E0 hr.in1 I.env0.in1 (by
    have := hb s [.ref a, .ref b] I.kIn (by simpa using hl)
    simpa using this) (.cons rfl (.cons rfl .nil)) h) fun r s' hq => ?_)
  cases r with
  | error e => exact False.elim hq
  | ok fl =>
    cases fl with
    | ret u =>
      obtain ⟨v, H', I3, rv, kb, rfl, q⟩ := I.after hq
      have rv : u = Value.bool kb := rv
      subst rv
      exact ⟨kb, rfl, .bl (!kb), H', I3, rfl, q⟩
    | next => exact False.elim hq
    | brk => exact False.elim hq
    | cont => exact False.elim hq
end
def mNeO (c : Str) (m : MF) (a b : M) : M := fun ρ => (a ρ).bind fun x => (b x.2).bind fun y => (rsl y.2 x.1).bind fun s => (rsl y.2 y.1).bind fun t => s.flds.bind fun p => t.flds.bind fun q => @ite _ (p.1 = c ∧ q.1 = c) (Classical.propDecidable _) ((takeA y.2 [x.1, y.1]).bind fun z => (m z.1).bind fun w => match w.1 with
  | .val (.bl k) => some (.val (.bl (!k)), putA [x.1, y.1] w.2 z.2)
  | _ => none) none
section
variable {K : PySem.W.Frag} {mg : Str → Option Value} {ma mb : M} {m : MF} {c : Str} {C : Addr}
theorem rd_neO (hC : mg c = some (.ref C)) : ∀ σ H Q, tM K mg (mNeO c m ma mb) σ H Q → tOp (rNeO C (spM K mg 2 m)) (tM K mg ma) (tM K mg mb) σ H Q := by
  intro σ H Q h
  obtain ⟨cs, G, r, ρ', e1, rs, hm0, k⟩ := h
  obtain ⟨⟨r1, ρ1⟩, h1, hm1⟩ := Option.bind_eq_some_iff.mp hm0
  obtain ⟨⟨r2, ρ2⟩, h2, hm2⟩ := Option.bind_eq_some_iff.mp hm1
  obtain ⟨s, h3, hm3⟩ := Option.bind_eq_some_iff.mp hm2
  obtain ⟨t, h4, hm4⟩ := Option.bind_eq_some_iff.mp hm3
  obtain ⟨⟨c1, fs⟩, h5, hm5⟩ := Option.bind_eq_some_iff.mp hm4
  obtain ⟨⟨c2, gs⟩, h6, hm6⟩ := Option.bind_eq_some_iff.mp hm5
  dsimp only at hm6 h3 h4
  by_cases hc : c1 = c ∧ c2 = c
  · rw [if_pos hc] at hm6
    obtain ⟨hc1, hc2⟩ := hc
    rw [hc1] at h5
    rw [hc2] at h6
    obtain ⟨⟨ss, ρr⟩, h7, hm7⟩ := Option.bind_eq_some_iff.mp hm6
    obtain ⟨⟨r3, outs⟩, h8, hm8⟩ := Option.bind_eq_some_iff.mp hm7
    have hr : ∃ kk, r3 = .val (.bl kk) ∧ r = .val (.bl (!kk)) ∧ ρ' = putA [r1, r2] outs ρr := by
      dsimp only at hm8
      split at hm8
      · rename_i kk; cases hm8; exact ⟨kk, rfl, rfl, rfl⟩
      · cases hm8
    obtain ⟨kk, q0, q1, q2⟩ := hr
    subst q0
    rw [q1, q2] at k
    refine two e1 rs h1 h2 fun cs2 v w B1 B2 G2 H2 f1 f2 b1 b2 rs2 st2 => ?_
    subst f1; subst f2
    obtain ⟨A1, ow1⟩ := rsl_own rs2.tail.tail rs2.h1 rfl rfl b1 h3 (by rintro rfl; cases h5)
    obtain ⟨A2, ow2⟩ := rsl_own rs2.tail.tail rs2.h2 rfl rfl b2 h4 (by rintro rfl; cases h6)
    obtain ⟨a, C1, dx, fvs, y1, y2, y3, y4⟩ := flds_own rs2.tail.tail.same ow1 h5
    obtain ⟨b, C2, dy, gvs, z1, z2, z3, z4⟩ := flds_own rs2.tail.tail.same ow2 h6
    rw [hC] at y3 z3
    cases y3
    cases z3
    refine ⟨a, b, dx, dy, fvs, gvs, y1, z1, y2, z2, ?_⟩
    refine handed (ds := [⟨some v, r1.sl, B1⟩, ⟨some w, r2.sl, B2⟩]) (rs := [r1, r2]) (vs := [v, w]) (cs := cs2) (by exact rs2) ⟨b1, b2, trivial⟩ rfl rfl rfl h7 h8 (fun j z => nomatch z) fun cs3 u B3 G3 H3 k1 k2 rs3 st3 => ?_
    obtain ⟨rp, hB⟩ := rs3.val
    subst hB
    have eu := rp.bl_iff
    subst eu
    refine ⟨kk, rfl, k cs3 (.bl (!kk)) [] G3 H3 k1 k2 (fun j z => nomatch z) (rs3.tail.addFz (.bl (!kk))) (st2.trans ?_)⟩
    exact st3
  · rw [if_neg hc] at hm6
    cases hm6
end
section
variable {X : Cx} {a b : Expr} {ma mb : M} {pos : Pos} {k : Nat} {f C : Addr} {fd : FuncData} {ps : List Str} {m : MF} {c : Str}
theorem se_neO (hC : X.mg c = some (.ref C)) (F : FnOk X.prog X.w X.K X.mg X.base CX0 k f fd ps (spM X.K X.mg 2 m)) (hr : Room (k + 1) X.A) (hb : Binds X.K fd ps []) (hne : PySem.W.findIn X.K (.ref C) "__ne__" = some (some (.builtin "object.__ne__"))) (hm : PySem.W.subIn X.K (.ref C) (.type "object") = some true)
    (hs : PySem.W.findIn X.K (.ref C) "__eq__" = some (some (.ref f))) (hf : PySem.W.isFn X.K (.ref f) = true)
    (ha : SE X a ma) (hb' : SE X b mb) : SE X (.Compare a [.NotEq] [b] pos) (mNeO c m ma mb) := PE.imp (pe_cmpR (op_neO F hr hb hne hm hs hf) ha hb' (nomark _)) (rd_neO hC)
theorem st_neO (hC : X.mg c = some (.ref C)) (F : FnOk X.prog X.w X.K X.mg X.base CX0 k f fd ps (spM X.K X.mg 2 m)) (hr : Room (k + 1) X.A) (hb : Binds X.K fd ps []) (hne : PySem.W.findIn X.K (.ref C) "__ne__" = some (some (.builtin "object.__ne__"))) (hm : PySem.W.subIn X.K (.ref C) (.type "object") = some true)
    (hs : PySem.W.findIn X.K (.ref C) "__eq__" = some (some (.ref f))) (hf : PySem.W.isFn X.K (.ref f) = true)
    (ha : SE X a ma) (hb' : SE X b mb) : STe X (.Compare a [.NotEq] [b] pos) (mB (mNeO c m ma mb)) := PT.imp (pt_cmpR (op_neO F hr hb hne hm hs hf) ha hb' (nomark _)) fun σ H Q h => rd_neO hC σ H _ (rd_B σ H Q h)
end
@[simp] theorem r_neO {ρ : List Sl} {a b : M} (c : Str) (m : MF) : mNeO c m a b ρ = (a ρ).bind fun x => (b x.2).bind fun y => (rsl y.2 x.1).bind fun s => (rsl y.2 y.1).bind fun t => s.flds.bind fun p => t.flds.bind fun q => ifc (p.1 = c ∧ q.1 = c) ((takeA y.2 [x.1, y.1]).bind fun z => (m z.1).bind fun w => match w.1 with
  | .val (.bl k) => some (.val (.bl (!k)), putA [x.1, y.1] w.2 z.2)
  | _ => none) none := rfl
end
end FW

/-! a, b, .. = a list -/
namespace FW
noncomputable section
open PySem L2
section
variable {X : Cx} {e : Expr} {ma : M} {pos tpos : Pos} {P : Nat → Prop} {kk : Nat}
def sUnpL (is : List Nat) (m : M) : MS := fun ρ => (m ρ).bind fun x => (lsv x.2 x.1).bind fun ds => (unp x.2 is ds).map fun ρ2 => (.nx, ρ2)
theorem ss_unpL {is : List Nat} {ts : List Expr} (hc : X.calm = true) (he : SE X e ma) (hg : PGs X ts (gNames is)) (hP : ∀ i ∈ is, ¬ P i) (hn : (assignEach ts X.env).length = is.length := by rfl) (hst : (assignEach ts X.env).findIdx? (·.1) = none := by rfl)
    (hs : swapsWithSole [.Tuple ts kk tpos] e pos.line X.env = pure false := by rfl) (hw : swappedStores [.Tuple ts kk tpos] e X.env = pure none := by rfl)
    (h1 : (assignEach [.Tuple ts kk tpos] X.env).map (·.2) = [assign (.Tuple ts kk tpos) X.env] := by rfl) : SS X P (.Assign [.Tuple ts kk tpos] e pos) (sUnpL is ma) := PS.imp (ps_asg he (pg_unl hc hg hn hst) hs hw h1) fun D σ H h => by
  obtain ⟨cs, G, k, ρ', e1, rs, hm, q⟩ := h
  obtain ⟨⟨r1, ρ1⟩, h1, hm⟩ := Option.bind_eq_some_iff.mp hm
  obtain ⟨ds, h2, hm⟩ := Option.bind_eq_some_iff.mp hm
  obtain ⟨ρ2, h3, hm⟩ := Option.map_eq_some_iff.mp hm
  cases hm
  refine ⟨cs, G, r1, ρ1, e1, rs, h1, fun cs1 v B G1 H1 f1 f2 fb rs1 st1 => ?_⟩
  subst e1
  obtain ⟨a, vs, p1, p2, p3⟩ := lsv_rep rs1.tail rs1.h1 rfl rfl (by rw [f1]; exact fb) (by rw [f2]; exact h2)
  refine ⟨a, vs, p1, p2, by rw [p3.length, unp_len h3], ?_⟩
  rw [← f1]
  refine unp_ok hP rs1.tail p3 (by rw [f2]; exact h3) fun cs2 g1 g2 g3 g4 g5 => KS.nx q g1 (g2.trans (len_of f1)) (fun i hi => by rw [g3 i hi, f1]) g4 (st1.back1.weak g5)
end
@[simp] theorem r_unpL {a : M} {ρ : List Sl} (is : List Nat) : sUnpL is a ρ = (a ρ).bind fun x => (lsv x.2 x.1).bind fun ds => (unp x.2 is ds).map fun ρ2 => (.nx, ρ2) := rfl
end
end FW

/-! C() of a class without an own __init__ -/
namespace FW
noncomputable section
open PySem L2
structure MkP (K : PySem.W.Frag) (C : Addr) : Prop where
  makes : PySem.W.makesIn K C = true
  init : PySem.W.findIn K (.ref C) "__init__" = some (some (.builtin "object.__init__"))
  kp : PySem.W.keepIn K (.ref C) = true
section
variable {X : Cx} {C : Addr} {x : Str} {p pos : Pos}
def tMakeP (C : Addr) : TE := fun σ H Q => ∀ x dx, H x = none → H dx = none → dx ≠ x → Q (.ref x) (upd (upd H dx (.own x)) x (.ins C dx []))
theorem run_makeP {pins : List (Addr × Obj)} {σ : L2.St} {H : Hp} {s : Shared} {Q : VK} (M : MkP X.K C) (I : L2.Inv X pins σ H s) (h : tMakeP C σ H Q) : wpAny (model X.prog X.w) X.A (call (.ref C) []) (EP X pins σ Q) X.xe s := by
  have hq := h (s.heap.objs.size + 1) s.heap.objs.size (I.hok.fresh (Nat.le_succ _)) (I.hok.fresh (Nat.le_refl _)) (Nat.ne_of_lt (Nat.lt_succ_self _))
  have I2 := L2.Inv.made (C := C) I
  refine wpAny_call ?_
  obtain ⟨hh, g, d, t, os⟩ := s
  have Y := PySem.W.makes_of (M := model X.prog X.w) I.kIn M.makes
  refine PySem.W.make_core Y (PySem.W.looks_findIn I.kIn M.init) (fun self => PySem.W.Looks.of_pure (PySem.W.oi_bind self)) (.inr ⟨rfl, rfl⟩) ?_
  have t1 : PySem.W.Looks (model X.prog X.w) ((hh.push PySem.W.emptyDict).push (PySem.W.instObj C hh.objs.size)) (typeOf (.ref (hh.objs.size + 1))) (.ref C) := (PySem.W.Looks.ld (by
    exact Heap.get?_push_at (by rw [Heap.size_push]) rfl)).andThen .now
  have t2 : PySem.W.Looks (model X.prog X.w) ((hh.push PySem.W.emptyDict).push (PySem.W.instObj C hh.objs.size)) (isInstance (.ref (hh.objs.size + 1)) (.type "object")) true := t1.andThen (Y.top.keeps fun b o e => Heap.get?_push_of_some _ (Heap.get?_push_of_some _ e))
  refine codeAny_call_builtin PySem.W.oi_plain PySem.W.entry_oi (@PySem.W.check_slot (model X.prog X.w) _ _ _ "object.__init__" "object" "__init__" (.ref (hh.objs.size + 1)) [] [] _ PySem.W.oi_kind PySem.W.oi_split t2 (PySem.W.oi_args (.ref (hh.objs.size + 1))) ?_)
  rw [PySem.W.oi_run]
  exact wpAny_pure (And.intro rfl ⟨V.ref (hh.objs.size + 1), _, I2, rfl, hq⟩)
theorem pe_makeP (M : MkP X.K C) (hg : Gl X x) (hm : X.mg x = some (.ref C)) (hdb : (x == ("__debug__" : Str)) = false := by decide) : PE X (.Call (.Name x p) [] [] pos) (tMakeP C) := by
  refine ⟨fun pins s σ H Q I h => ?_⟩
  refine wpAny_Call_Name_kw (ld_glob I hg hm ?_ hdb)
  exact PySem.W.callWith_K0 I.kIn M.kp (run_makeP M I h)
def mMakeP (c : Str) : M := fun ρ => some (.val (.obj c []), ρ)
theorem rd_makeP (hm : X.mg x = some (.ref C)) : ∀ σ H Q, tM X.K X.mg (mMakeP x) σ H Q → tMakeP C σ H Q := fun σ H Q h => by
  obtain ⟨cs, G, r, ρ', e1, rs, hm0, k⟩ := h
  cases hm0
  intro xx dx hx hd hne
  have sp : spM X.K X.mg 1 (fun a => some (.val .non, a)) [.ref xx] (upd (upd H dx (.own xx)) xx (.ins C dx [])) (fun v H2 => v = .non ∧ Q (.ref xx) H2) E0 :=
    handedS (ds := []) (rs := []) (vs := []) (ss := []) (ρr := slots cs) (outs := []) (fs := []) (fds := []) (c' := x) rs trivial rfl rfl rfl hx hd hne hm rfl rfl rfl fun cs2 G2 H2 g1 g2 rs2 st2 =>
      k cs2 _ [] G2 H2 (g1.trans e1) (g2.trans rfl) (fun j z => nomatch z) rs2 st2
  obtain ⟨as, G1, r1, outs, a1, a2, a3, a4, a5, a6⟩ := sp
  cases a4
  exact (a6 as .non [] G1 _ a1 rfl (a3.addFz .non) (Stp.refl.weak fun b hb => by simpa [own_cons] using hb)).2
theorem se_makeP (M : MkP X.K C) (hg : Gl X x) (hm : X.mg x = some (.ref C)) (hdb : (x == ("__debug__" : Str)) = false := by decide) : SE X (.Call (.Name x p) [] [] pos) (mMakeP x) := PE.imp (pe_makeP M hg hm hdb) (rd_makeP hm)
end
@[simp] theorem r_makeP {ρ : List Sl} (c : Str) : mMakeP c ρ = some (.val (.obj c []), ρ) := rfl
end
end FW

/-! a, b, c = x, y, z (three local names; things that need no owner) -/
namespace FW
noncomputable section
open PySem L2
section
variable {X : Cx} {a b c : Expr} {ms : MA} {pos : Pos} {P : Nat → Prop}
def sPar3 (i j l : Nat) (ms : MA) : MS := fun ρ => (ms ρ).bind fun y => match y.1 with
  | [.val d1, .val d2, .val d3] => some (.nx, ((y.2.set i (.fz d1)).set j (.fz d2)).set l (.fz d3))
  | _ => none
theorem three_cells {ds : List Cl} {vs : List V} {d1 d2 d3 : D} (h1 : vals ds = vs.map some) (h2 : slots ds = [Rv.val d1, .val d2, .val d3].map Rv.sl) : ∃ v1 v2 v3 A1 A2 A3, ds = [⟨some v1, .fz d1, A1⟩, ⟨some v2, .fz d2, A2⟩, ⟨some v3, .fz d3, A3⟩] ∧ vs = [v1, v2, v3] := by
  match ds, h2 with
  | [⟨o1, s1, A1⟩, ⟨o2, s2, A2⟩, ⟨o3, s3, A3⟩], h2 =>
    simp only [slots, List.map_cons, List.map_nil, List.cons.injEq, and_true] at h2
    obtain ⟨q1, q2, q3⟩ := h2
    have q1 : s1 = .fz d1 := q1
    have q2 : s2 = .fz d2 := q2
    have q3 : s3 = .fz d3 := q3
    subst q1; subst q2; subst q3
    match vs, h1 with
    | [v1, v2, v3], h1 =>
      simp only [vals, List.map_cons, List.map_nil, List.cons.injEq, and_true] at h1
      obtain ⟨p1, p2, p3⟩ := h1
      have p1 : o1 = some v1 := p1
      have p2 : o2 = some v2 := p2
      have p3 : o3 = some v3 := p3
      subst p1; subst p2; subst p3
      exact ⟨v1, v2, v3, A1, A2, A3, rfl, rfl⟩
    | [], h1 => simp [vals] at h1
    | [_], h1 => simp [vals] at h1
    | [_, _], h1 => simp [vals] at h1
    | _ :: _ :: _ :: _ :: _, h1 => simp [vals] at h1
  | [], h2 => simp [slots] at h2
  | [_], h2 => simp [slots] at h2
  | [_, _], h2 => simp [slots] at h2
  | _ :: _ :: _ :: _ :: _, h2 => simp [slots] at h2
theorem ss_par3 (i j l : Nat) {x y z : Str} {px py pz pt : Pos} {kt k2 pt2} (hc : X.calm = true) (hN : X.N.Nodup) (hi : X.N[i]? = some x) (hj : X.N[j]? = some y) (hl : X.N[l]? = some z) (hij : i ≠ j) (hil : i ≠ l) (hjl : j ≠ l)
    (hx : X.env.scope.names.lookup x = some .local) (hy : X.env.scope.names.lookup y = some .local) (hz : X.env.scope.names.lookup z = some .local) (hP : ¬ P i ∧ ¬ P j ∧ ¬ P l) (ha : SA X [a, b, c] ms)
    (hw : swappedStores [.Tuple [.Name x px, .Name y py, .Name z pz] kt pt] (.Tuple [a, b, c] k2 pt2) X.env = pure (some [x, y, z]) := by rfl)
    (hs : swapsWithSole [.Tuple [.Name x px, .Name y py, .Name z pz] kt pt] (.Tuple [a, b, c] k2 pt2) pos.line X.env = pure false := by rfl) :
    SS X P (.Assign [.Tuple [.Name x px, .Name y py, .Name z pz] kt pt] (.Tuple [a, b, c] k2 pt2) pos) (sPar3 i j l ms) := PS.imp (ps_par3 hc hN hi hj hl hij hil hjl hx hy hz ha hw hs) fun D σ H h => by
  obtain ⟨cs, G, k, ρ', e1, rs, hm, q⟩ := h
  obtain ⟨⟨r, ρ1⟩, h1, hm⟩ := Option.bind_eq_some_iff.mp hm
  dsimp only at hm
  split at hm
  · rename_i d1 d2 d3
    cases hm
    refine ⟨cs, G, _, ρ1, e1, rs, h1, fun cs1 ds vs G1 H1 f1 f2 fb f3 f4 rs1 st1 => ?_⟩
    subst e1
    obtain ⟨v1, v2, v3, A1, A2, A3, rfl, rfl⟩ := three_cells f3 f4
    have rs1 : Res X.K X.mg G1 H1 (⟨some v1, .fz d1, A1⟩ :: ⟨some v2, .fz d2, A2⟩ :: ⟨some v3, .fz d3, A3⟩ :: cs1) := rs1
    obtain ⟨p1, e1⟩ := rs1.val
    obtain ⟨p2, e2⟩ := rs1.tail.val
    obtain ⟨p3, e3⟩ := rs1.tail.tail.val
    subst e1; subst e2; subst e3
    have r0 := rs1.tail.tail.tail
    have r1 := (r0.addFz p1).put i
    have r2 := (r1.addFz p2).put j
    have r3 := (r2.addFz p3).put l
    refine ⟨v1, v2, v3, rfl, ?_⟩
    have ev : (((vals cs).set i (some v1)).set j (some v2)).set l (some v3) = vals (((cs1.set i ⟨some v1, .fz d1, []⟩).set j ⟨some v2, .fz d2, []⟩).set l ⟨some v3, .fz d3, []⟩) := by rw [vals_set, vals_set, vals_set, f1]
    rw [ev]
    refine KS.nx q (by rw [slots_set, slots_set, slots_set, f2]) ?_ (fun n hn => ?_) r3 (st1.weak fun b hb => ?_)
    · have := congrArg List.length ev
      simpa using this.symm
    · rw [← ev, List.getElem?_set_ne, List.getElem?_set_ne, List.getElem?_set_ne]
      · rintro rfl; exact hP.1 hn
      · rintro rfl; exact hP.2.1 hn
      · rintro rfl; exact hP.2.2 hn
    · have b1 := own_put l b hb
      rw [own_cons] at b1
      have b1 : b ∈ own ((cs1.set i ⟨some v1, .fz d1, []⟩).set j ⟨some v2, .fz d2, []⟩) := by simpa using b1
      have b2 := own_put j b b1
      have b2 : b ∈ own (cs1.set i ⟨some v1, .fz d1, []⟩) := by simpa [own_cons] using b2
      have b3 := own_put i b b2
      have b3 : b ∈ own cs1 := by simpa [own_cons] using b3
      show b ∈ own (⟨some v1, .fz d1, []⟩ :: ⟨some v2, .fz d2, []⟩ :: ⟨some v3, .fz d3, []⟩ :: cs1)
      simpa [own_cons] using b3
  · cases hm
end
@[simp] theorem r_par3 {ms : MA} {ρ : List Sl} (i j l : Nat) : sPar3 i j l ms ρ = (ms ρ).bind fun y => match y.1 with
  | [.val d1, .val d2, .val d3] => some (.nx, ((y.2.set i (.fz d1)).set j (.fz d2)).set l (.fz d3))
  | _ => none := rfl
end
end FW

/-! a, b = x, y by a tuple (names that a comprehension sees): the owners go on -/
namespace FW
noncomputable section
open PySem L2
section
variable {X : Cx} {a b : Expr} {ms : MA} {pos : Pos} {P : Nat → Prop}
theorem ss_parC (i j : Nat) {ta tb : Expr} {pt : Pos} {kt k2 pt2} (hc : X.calm = true) (hg : PGs X [ta, tb] (gNames [i, j])) (hP : ¬ P i ∧ ¬ P j) (ha : SA X [a, b] ms)
    (hn : (assignEach [ta, tb] X.env).length = 2 := by rfl) (hst : (assignEach [ta, tb] X.env).findIdx? (·.1) = none := by rfl)
    (hs : swapsWithSole [.Tuple [ta, tb] kt pt] (.Tuple [a, b] k2 pt2) pos.line X.env = pure false := by rfl) (hw : swappedStores [.Tuple [ta, tb] kt pt] (.Tuple [a, b] k2 pt2) X.env = pure none := by rfl)
    (h1 : (assignEach [.Tuple [ta, tb] kt pt] X.env).map (·.2) = [assign (.Tuple [ta, tb] kt pt) X.env] := by rfl) :
    SS X P (.Assign [.Tuple [ta, tb] kt pt] (.Tuple [a, b] k2 pt2) pos) (sPar i j ms) := PS.imp (ps_asg (pe_tup ha) (pg_tup hc hg hn hst) hs hw h1) fun D σ H h => by
  obtain ⟨cs, G, k, ρ', e1, rs, hm, q⟩ := h
  obtain ⟨⟨r, ρ1⟩, h1, hm⟩ := Option.bind_eq_some_iff.mp hm
  dsimp only at hm
  split at hm
  · rename_i r1 r2
    obtain ⟨ρ2, h2, hm⟩ := Option.bind_eq_some_iff.mp hm
    have nb : ∀ n, r2 ≠ .bor n := fun n z => by subst z; cases hm
    obtain ⟨ρ3, h3, hm⟩ : ∃ ρ3, setR j ρ2 r2 = some ρ3 ∧ (Ctl.nx, ρ3) = (k, ρ') := by
      cases r2 with
      | bor n => exact absurd rfl (nb n)
      | val d => obtain ⟨ρ3, a1, a2⟩ := Option.map_eq_some_iff.mp hm; exact ⟨ρ3, a1, a2⟩
      | own d => obtain ⟨ρ3, a1, a2⟩ := Option.map_eq_some_iff.mp hm; exact ⟨ρ3, a1, a2⟩
    cases hm
    refine ⟨cs, G, _, ρ1, e1, rs, h1, fun cs1 ds vs G1 H1 f1 f2 fb f3 f4 rs1 st1 => ?_⟩
    subst e1
    obtain ⟨v, w, A1, A2, rfl, rfl, b1, b2⟩ := two_cells fb f3 f4
    refine ⟨show 2 ≤ sizeLine by decide, fun p hp => ?_⟩
    refine ⟨p, [v, w], rfl, .inl (.inl upd_same), rfl, ?_⟩
    have rs1 := rs1.keepH (o := .tup [v, w]) hp
    have st1 := st1.trans (Stp.allocU (o := .tup [v, w]) hp)
    have pm : List.Perm ((⟨some v, r1.sl, A1⟩ : Cl) :: ⟨some w, r2.sl, A2⟩ :: cs1) ((⟨some w, r2.sl, A2⟩ : Cl) :: ⟨some v, r1.sl, A1⟩ :: cs1) := List.Perm.swap _ _ _
    have rB := Res.perm (K := X.K) (mg := X.mg) rs1 pm
    have sB := st1.perm (own_perm pm)
    obtain ⟨cs2, G2, g1, g2, rs2, st2⟩ := setR_ok (i := i) (cs := cs1) (Res.tail rB) (by rw [f1]; exact b1) (by rw [f2]; exact h2)
    have rC := Res.frame (ds := [_]) rB st2 rs2
    have sC := sB.trans (Stp.under (ds := [_]) rB st2)
    obtain ⟨cs3, G3, k1, k2, rs3, st3⟩ := setR_ok (i := j) (cs := cs2) rC (fun n hn => absurd hn (nb n)) (by rw [g2]; exact h3)
    have ev : ((vals cs).set i (some v)).set j (some w) = vals cs3 := by rw [k1, g1, f1]
    refine ⟨v, [w], rfl, w, [], rfl, rfl, ?_⟩
    show D.nx (((vals cs).set i (some v)).set j (some w)) _
    rw [ev]
    refine KS.nx q k2 ?_ (fun l hl => ?_) rs3 (sC.trans st3)
    · have := congrArg List.length ev
      simpa using this.symm
    · rw [← ev, List.getElem?_set_ne, List.getElem?_set_ne]
      · rintro rfl; exact hP.1 hl
      · rintro rfl; exact hP.2 hl
  · cases hm
end
end
end FW

/-! max(xs, default=v) of ints; min(xs) of pairs of ints -/
namespace FW
noncomputable section
open PySem L2 PySem.W
def maxDL (d : Int) (xs : List D) : Option Rv := (ints? xs).map fun ns => .val (.int (ns.max?.getD d))
def pD (p : Int × Int) : D := .tup [.int p.1, .int p.2]
def pairs? : List D → Option (List (Int × Int))
  | [] => some []
  | .tup [.int a, .int b] :: r => (pairs? r).map ((a, b) :: ·)
  | _ => none
theorem pairs?_map : ∀ (ns : List (Int × Int)), pairs? (ns.map pD) = some ns
  | [] => rfl
  | n :: ns => by rw [List.map_cons, pD, pairs?, pairs?_map ns]; rfl
theorem pairs?_eq : ∀ {xs : List D} {ns : List (Int × Int)}, pairs? xs = some ns → xs = ns.map pD := by
  intro xs
  induction xs with
  | nil => intro ns h; unfold pairs? at h; cases h; rfl
  | cons x xs ih =>
    intro ns h
    unfold pairs? at h
    split at h
    · rename_i e; cases e
    · rename_i a b r e
      cases e
      obtain ⟨m, e1, e2⟩ := Option.map_eq_some_iff.mp h
      subst e2
      rw [ih e1]; rfl
    · cases h
def ltP (p q : Int × Int) : Bool := decide (p.1 < q.1 ∨ (p.1 = q.1 ∧ p.2 < q.2))
def minPs (p : Int × Int) (ps : List (Int × Int)) : Int × Int := ps.foldl (fun a y => if ltP y a = true then y else a) p
def minPL (xs : List D) : Option Rv := (pairs? xs).bind fun ps => match ps with
  | [] => none
  | p :: r => some (.val (pD (minPs p r)))
/-! the data -/
def pP (p : Int × Int) : PyData := .tuple [.int p.1, .int p.2]
theorem alike_ints (ns : List Int) : AlikeAll (ns.map PyData.int) := by
  refine ⟨fun x hx y hy => ?_, fun x hx => ?_⟩
  · obtain ⟨i, _, rfl⟩ := List.mem_map.mp hx
    obtain ⟨j, _, rfl⟩ := List.mem_map.mp hy
    simp [alike]
  · obtain ⟨i, _, rfl⟩ := List.mem_map.mp hx
    simp
theorem alike_pairs (ns : List (Int × Int)) : AlikeAll (ns.map pP) := by
  refine ⟨fun x hx y hy => ?_, fun x hx => ?_⟩
  · obtain ⟨i, _, rfl⟩ := List.mem_map.mp hx
    obtain ⟨j, _, rfl⟩ := List.mem_map.mp hy
    simp [pP, alike, alikeAll]
  · obtain ⟨i, _, rfl⟩ := List.mem_map.mp hx
    simp [pP]
theorem depth_ints : ∀ (ns : List Int), PyData.depthAll (ns.map PyData.int) ≤ 2
  | [] => by simp [PyData.depthAll]
  | n :: ns => by
    have := depth_ints ns
    rw [List.map_cons, PyData.depthAll]
    simp [PyData.depth]; omega
theorem depth_pairs : ∀ (ns : List (Int × Int)), PyData.depthAll (ns.map pP) ≤ 4
  | [] => by simp [PyData.depthAll]
  | n :: ns => by
    have := depth_pairs ns
    rw [List.map_cons, PyData.depthAll]
    simp [pP, PyData.depth, PyData.depthAll]; omega
theorem dpAll_ints {K : PySem.W.Frag} {H : Hp} : ∀ (ns : List Int), DpAll K H (ns.map V.int) (ns.map PyData.int)
  | [] => .nil
  | n :: ns => .cons (.int n) (dpAll_ints ns)
theorem minD_pairs : ∀ (ps : List (Int × Int)) (p : Int × Int), minD (pP p) (ps.map pP) = pP (minPs p ps) := by
  intro ps
  unfold minD minPs
  induction ps with
  | nil => intro p; rfl
  | cons k r ih =>
    intro p
    rw [List.map_cons, List.foldl_cons, List.foldl_cons, ← ih]
    have e : dataLt (pP k) (pP p) = ltP k p := dataLt_ii _ _ _ _
    (try dsimp only)
    rw [e]
    by_cases z : ltP k p = true
    · rw [if_pos z, if_pos z]
    · rw [if_neg z, if_neg z]
theorem pP_inj {p q : Int × Int} (h : pP p = pP q) : p = q := by
  unfold pP at h
  cases p; cases q
  simpa using h
section
variable {X : Cx} {K : PySem.W.Frag} {mg : Str → Option Value}
def rMaxDef (K : PySem.W.Frag) (d : Int) : List V → List V → Hp → VK → Prop := fun vs zs H Q => ∃ (a : Addr) (ns : List Int), vs = [V.ref a] ∧ zs = [V.int d] ∧ SqL K H a (ns.map V.int) ∧ Q (.int (ns.max?.getD d)) H
theorem cr_maxDef {d : Int} (hc : X.calm = true) (hu : X.A.units + 64 < cLine) : CallRK X (.builtin "max") [Str.ofString "default"] (rMaxDef X.K d) := by
  intro pins s σ H vs zs us ws Q I r rz h
  obtain ⟨a, ns, rfl, rfl, hs, q⟩ := h
  obtain rfl := Vals.ref1 r
  obtain ⟨w1, rfl, e1⟩ := vals1 rz
  obtain ⟨t, rfl⟩ : ∃ t, w1 = Value.int d t := e1
  obtain ⟨its, rv, hl, hz⟩ := I.list hs
  obtain ⟨as, rd⟩ := Dp.readsAll I _ _ _ (dpAll_ints ns) rv
  have dd := depth_ints ns
  refine max_list_default (I.ok.hd hc) hl.isList (by rw [List.toList_toArray]; exact rd) (alike_ints ns) (by omega) (fun e h' tk hk => ?_) (fun y ys i v h' tk bs e hv rd' hk => ?_)
  · have : ns = [] := by simpa using e
    subst this
    exact ⟨.int d, H, I.kept hk, ⟨t, rfl⟩, q⟩
  · cases ns with
    | nil => cases e
    | cons n ns =>
      cases e
      rw [maxD_ints] at rd'
      cases rd'
      exact ⟨.int _, H, I.kept hk, ⟨_, rfl⟩, q⟩
def rMinP (K : PySem.W.Frag) : List V → Hp → VK → Prop := fun vs H Q => ∃ (a : Addr) (xs : List V) (p : Int × Int) (ps : List (Int × Int)), vs = [V.ref a] ∧ SqL K H a xs ∧ DpAll K H xs ((p :: ps).map pP) ∧ ∀ (i : Nat) (v : V), xs[i]? = some v → (p :: ps)[i]? = some (minPs p ps) → Q v H
theorem vals_back : ∀ {xs : List V} {us : List Value} {i : Nat} {u : Value}, Vals xs us → us[i]? = some u → ∃ x, xs[i]? = some x ∧ RelV x u
  | _, _, _, _, .nil, e => by simp at e
  | _, _, 0, _, .cons h r, e => by simp at e; subst e; exact ⟨_, rfl, h⟩
  | _, _, i + 1, _, .cons h r, e => by
    obtain ⟨y, a, b⟩ := vals_back (i := i) r (by simpa using e)
    exact ⟨y, by simpa using a, b⟩
theorem cr_minP (hc : X.calm = true) (hu : X.A.units + 64 < cLine) : CallR X (.builtin "min") (rMinP X.K) := by
  intro pins s σ H vs us Q I r h
  obtain ⟨a, xs, p, ps, rfl, hs, hd, q⟩ := h
  obtain ⟨its, rv, hl, hz⟩ := I.list hs
  rw [Vals.ref1 r]
  obtain ⟨as, rd⟩ := Dp.readsAll I _ _ _ hd rv
  have rd' : ReadsAll s.heap its.toArray.toList ((p :: ps).map pP) as := by rw [List.toList_toArray]; exact rd
  have dd := depth_pairs (p :: ps)
  have hn : its.toArray.size = ps.length + 1 := by rw [readsAll_len rd']; simp
  refine call_min_walkH (iter_listW (A := X.A.in1) (I.ok.hd hc) hl.isList fun s₂ e W st hfp hw hk => ?_)
  refine ⟨_, _, _, _, _, _, _, s.heap, _, rfl, W, st, hfp, by omega, hw, hk, cmpIn_lt (A := X.A.in1) rd' (alike_pairs (p :: ps)) (by show X.A.units + 1 + _ < _; omega), fun v s' hP m => ?_⟩
  obtain ⟨h', tk, rfl, hk'⟩ := moved_old e rfl m
  have e1 : its.toArray.size - 1 = ps.length := by omega
  rw [e1] at hP
  obtain ⟨f1, f2⟩ := argBest_fold dataLt PyData.none (pP p) (ps.map pP) ps.length (by simp)
  rw [List.take_of_length_le (by simp)] at f2
  have f3 : (ps.map pP).foldl (fun a y => if dataLt y a then y else a) (pP p) = pP (minPs p ps) := minD_pairs ps p
  rw [f3] at f2
  rw [List.map_cons] at hP
  generalize argBest (fun i j => dataLt ((pP p :: ps.map pP).getD i PyData.none) ((pP p :: ps.map pP).getD j PyData.none)) ps.length = B at *
  have hP : its.toArray[B]? = some v := hP
  rw [List.getElem?_toArray] at hP
  obtain ⟨x, hx, rx⟩ := vals_back rv hP
  refine ⟨x, H, I.kept hk', rx, q B x hx ?_⟩
  have hB : B < (p :: ps).length := by simp; omega
  rw [List.getElem?_eq_getElem hB]
  rw [← List.map_cons, List.getD_eq_getElem?_getD, List.getElem?_map, List.getElem?_eq_getElem hB] at f2
  exact congrArg some (pP_inj f2)
theorem cr_minPL : CrD K mg (bL minPL) (rMinP K) := by
  intro cs rs vs G H r Q ha hf q
  unfold bL at hf
  split at hf
  · rename_i r1
    obtain ⟨xs, e1, hf⟩ := Option.bind_eq_some_iff.mp hf
    obtain ⟨a, ws, h1, h2, h3⟩ := ha.lsv (i := 0) rfl e1
    rw [one_arg ha.len h1]
    obtain ⟨ps, e2, hg⟩ := Option.bind_eq_some_iff.mp hf
    have := pairs?_eq e2
    subst this
    cases ps with
    | nil => cases hg
    | cons p ps =>
      have hg : some (Rv.val (pD (minPs p ps))) = some r := hg
      cases hg
      refine ⟨a, ws, p, ps, rfl, h2, Reps.dp (h3.mono ha.res.same) ?_, fun i v hv hi => ?_⟩
      · clear h1 h2 h3 e1 e2 q
        generalize p :: ps = l
        induction l with
        | nil => rfl
        | cons x l ih => rw [List.map_cons, List.map_cons, toPyL, ih]; simp [pD, toPy, toPyL, pP]
      · obtain ⟨y, y1, y2⟩ := h3.getV hv
        rw [List.getElem?_map, hi] at y1
        cases y1
        exact q.v _ _ rfl y2
  · cases hf
variable {e : Expr} {es : List Expr} {ms : MA} {pos p : Pos}
theorem se_maxDef {d : Int} {j k1 k2} (hu : X.A.units + 64 < cLine) (hm : X.mg "max" = none) (ha : SA X (e :: es) ms) (hc : X.calm = true := by rfl) (hg : Gl X "max" := by rfl)
    (he : backTo pos (starEach (e :: es) X.env) = (false, eval e X.env) :: backTo pos (starEach es X.env) := by rfl) (hpl : (backTo pos (starEach (e :: es) X.env)).any (·.1) = false := by rfl) :
    SE X (.Call (.Name "max" p) (e :: es) [⟨some "default", .Constant (.int d) j k1, k2⟩] pos) (mCallB (bL (maxDL d)) ms) := by
  refine PE.imp (pe_callBK (cr_maxDef (d := d) hc hu) hg hm boot_max' ha (pk_cons pe_int pk_nil) (by decide) (by decide) he hpl) fun σ H Q h => ?_
  have hr : CrD X.K X.mg (bL (maxDL d)) (fun vs H Q => rMaxDef X.K d vs [.int d] H Q) := cr_bL fun xs z G H a ws Q e hs rp q => by
    obtain ⟨ns, e1, e2⟩ := Option.map_eq_some_iff.mp e
    subst e2
    have := ints?_eq e1
    subst this
    rw [rp.ints] at hs
    exact ⟨a, ns, rfl, rfl, hs, q.v _ _ rfl (.int _)⟩
  exact rd_callB hr σ H Q h
theorem b_minP (hu : X.A.units + 64 < cLine) (hm : X.mg "min" = none) (ha : SA X [e] ms) (hc : X.calm = true := by rfl) (hg : Gl X "min" := by rfl) (he : starEach [e] X.env = (false, eval e X.env) :: starEach [] X.env := by rfl) : SE X (.Call (.Name "min" p) [e] [] pos) (mCallB (bL minPL) ms) := se_callB (cr_minP hc hu) cr_minPL hg hm boot_min' ha (by decide) (by decide) he rfl
end
@[simp] theorem r_maxDL (d : Int) (ns : List Int) : maxDL d (ns.map .int) = some (.val (.int (ns.max?.getD d))) := by rw [maxDL, ints?_map]; rfl
@[simp] theorem r_minPL (p : Int × Int) (ps : List (Int × Int)) : minPL ((p :: ps).map pD) = some (.val (pD (minPs p ps))) := by rw [minPL, pairs?_map]; rfl
/-! the least pair -/
theorem minPs_mem : ∀ (ps : List (Int × Int)) (p : Int × Int), minPs p ps ∈ p :: ps := by
  intro ps
  unfold minPs
  induction ps with
  | nil => intro p; simp
  | cons k r ih =>
    intro p
    rw [List.foldl_cons]
    have := ih (if ltP k p = true then k else p)
    rcases List.mem_cons.mp this with z | z
    · rw [z]; split <;> simp
    · simp [z]
theorem minPs_le : ∀ (ps : List (Int × Int)) (p : Int × Int), ∀ q ∈ p :: ps, ltP q (minPs p ps) = false := by
  intro ps
  unfold minPs
  induction ps with
  | nil => intro p q hq; simp at hq; subst hq; simp [ltP]
  | cons k r ih =>
    intro p q hq
    rw [List.foldl_cons]
    have hs := ih (if ltP k p = true then k else p)
    have h0 := hs _ List.mem_cons_self
    generalize hM : List.foldl (fun a y => if ltP y a = true then y else a) (if ltP k p = true then k else p) r = M at *
    have key : ltP p M = false ∧ ltP k M = false := by
      by_cases z : ltP k p = true
      · rw [if_pos z] at h0
        refine ⟨?_, h0⟩
        simp [ltP] at z h0 ⊢; omega
      · rw [if_neg z] at h0
        refine ⟨h0, ?_⟩
        simp [ltP] at z h0 ⊢; omega
    rcases List.mem_cons.mp hq with rfl | hq
    · exact key.1
    · rcases List.mem_cons.mp hq with rfl | hq
      · exact key.2
      · exact hs q (List.mem_cons_of_mem _ hq)
end
end FW

/-! isinstance(x, C), x perhaps an object of another own class -/
namespace FW
noncomputable section
open PySem L2
theorem kit_ne {K : PySem.W.Frag} {C C' : Addr} (h1 : PySem.W.mroIn K C' (.ref C') = some true) (h2 : PySem.W.mroIn K C' (.ref C) = some false) (hd : PySem.W.hasDictIn K C = true) (ty : PySem.W.typeIn K (.ref C) = some (.type "type")) : PySem.W.kitOne K (.ref C') (.ref C) = some false := by
  have ne : C' ≠ C := fun e => by subst e; rw [h1] at h2; cases h2
  obtain ⟨cd, hc, _⟩ := PySem.W.any_some hd
  unfold PySem.W.kitOne PySem.W.kitCls
  rw [if_neg (by simp [ne])]
  have sb : PySem.W.subIn K (.ref C') (.ref C) = some false := h2
  simp [hc, ty, sb]
inductive IsO (K : PySem.W.Frag) (mg : Str → Option Value) (C : Addr) : List Str → Prop
  | nil : IsO K mg C []
  | cons {c' : Str} {C' : Addr} {os : List Str} : mg c' = some (.ref C') → IsC K C' → PySem.W.kitOne K (.ref C') (.ref C) = some false → IsO K mg C os → IsO K mg C (c' :: os)
def isCo (c : Str) (os : List Str) : D → Option D
  | .obj c' fs => @ite _ (os.contains c' = true) (Classical.propDecidable _) (some (.bl false)) (isC c (.obj c' fs))
  | d => isC c d
section
variable {X : Cx} {a : Expr} {ma : M} {pos p p2 : Pos} {C : Addr} {c : Str} {os : List Str}
theorem isO_at {K : PySem.W.Frag} {mg : Str → Option Value} {c' : Str} : ∀ {os : List Str}, IsO K mg C os → os.contains c' = true → ∃ C', mg c' = some (.ref C') ∧ IsC K C' ∧ PySem.W.kitOne K (.ref C') (.ref C) = some false
  | _, .nil, h => by simp at h
  | _, .cons (c' := d) m i k r, h => by
    rw [List.contains_cons, Bool.or_eq_true] at h
    rcases h with h | h
    · have : c' = d := by simpa using h
      subst this
      exact ⟨_, m, i, k⟩
    · exact isO_at r h
theorem isCo_ok {K : PySem.W.Frag} {mg : Str → Option Value} {H : Hp} {x z : D} {v : V} (hC : mg c = some (.ref C)) (ic : IsC K C) (io : IsO K mg C os) (e : isCo c os x = some z) (r : Rep K mg H x v) : ∃ t b, z = .bl b ∧ TyX K H v t ∧ PySem.W.kitOne K t (.ref C) = some b := by
  cases x with
  | obj c' fs =>
    by_cases hc : os.contains c' = true
    · have e : @ite _ (os.contains c' = true) (Classical.propDecidable _) (some (D.bl false)) _ = some z := e
      rw [if_pos hc] at e
      cases e
      obtain ⟨C', m', i', k'⟩ := isO_at io hc
      cases r with
      | obj m h _ =>
        rw [m'] at m
        cases m
        exact ⟨_, _, rfl, .base (.ins h i'.ins.cl i'.ins.ha i'.ins.hn i'.ins.htk i'.ins.hm), k'⟩
    · have e : @ite _ (os.contains c' = true) (Classical.propDecidable _) (some (D.bl false)) _ = some z := e
      rw [if_neg hc] at e
      exact isC_ok hC ic e r
  | scr x1 => exact isC_ok (c := c) (x := .scr x1) hC ic e r
  | non => exact isC_ok (c := c) (x := .non) hC ic e r
  | bl x1 => exact isC_ok (c := c) (x := .bl x1) hC ic e r
  | int x1 => exact isC_ok (c := c) (x := .int x1) hC ic e r
  | str x1 => exact isC_ok (c := c) (x := .str x1) hC ic e r
  | lst x1 => exact isC_ok (c := c) (x := .lst x1) hC ic e r
  | tup x1 => exact isC_ok (c := c) (x := .tup x1) hC ic e r
  | dct x1 => exact isC_ok (c := c) (x := .dct x1) hC ic e r
  | exc x1 x2 => exact isC_ok (c := c) (x := .exc x1 x2) hC ic e r
theorem se_isCo (hm : X.mg "isinstance" = none) (hC : X.mg c = some (.ref C)) (ic : IsC X.K C) (io : IsO X.K X.mg C os) (ha : SE X a ma) (hg : Gl X "isinstance" := by rfl) (hgC : Gl X c := by rfl) (hd : (c == ("__debug__" : Str)) = false := by decide)
    (he : starEach (a :: [.Name c p2]) X.env = (false, eval a X.env) :: starEach [.Name c p2] X.env := by rfl) (hpl : (backTo pos (starEach [.Name c p2] X.env)).any (·.1) = false := by rfl) :
    SE X (.Call (.Name "isinstance" p) [a, .Name c p2] [] pos) (mUn (isCo c os) ma) := by
  refine PE.imp (pe_callB call_isi hg hm boot_isinstance' (pa_cons ha (pa_cons (C8.pe_gc (v := .ref C) hgC ⟨_, hC, rfl⟩ hd) pa_nil) he) (by decide) (by decide) he hpl) fun σ H Q h => ?_
  show tM X.K X.mg ma σ H fun x H1 => rIsi X.K [x, .ref C] H1 Q
  refine rd_un (f := isCo c os) (R := fun x H1 Q => rIsi X.K [x, .ref C] H1 Q) (fun x z H v Q hz rp q => ?_) σ H Q h
  obtain ⟨t, b, e1, e2, e3⟩ := isCo_ok hC ic io hz rp
  subst e1
  exact ⟨v, .ref C, t, .ref C, b, rfl, .own _, e2, e3, q _ rfl⟩
end
@[simp] theorem r_isCo_obj (c c' : Str) (os : List Str) (fs : List (Str × D)) : isCo c os (.obj c' fs) = ifc (os.contains c' = true) (some (.bl false)) (isC c (.obj c' fs)) := rfl
@[simp] theorem r_isCo_int (c : Str) (os : List Str) (i : Int) : isCo c os (.int i) = some (.bl false) := rfl
@[simp] theorem r_isCo_non (c : Str) (os : List Str) : isCo c os .non = some (.bl false) := rfl
@[simp] theorem r_isCo_bl (c : Str) (os : List Str) (b : Bool) : isCo c os (.bl b) = some (.bl false) := rfl
@[simp] theorem r_isCo_str (c : Str) (os : List Str) (b : Str) : isCo c os (.str b) = some (.bl false) := rfl
@[simp] theorem r_isCo_lst (c : Str) (os : List Str) (b : List D) : isCo c os (.lst b) = some (.bl false) := rfl
@[simp] theorem r_isCo_dct (c : Str) (os : List Str) (b : List (Key × D)) : isCo c os (.dct b) = some (.bl false) := rfl
@[simp] theorem r_isCo_tup (c : Str) (os : List Str) (b : List D) : isCo c os (.tup b) = some (.bl false) := rfl
end
end FW

/-! a, b, c = x, y, z (three local names; what is new may be owned) -/
namespace FW
noncomputable section
open PySem L2
def nb : Rv → Option Sl
  | .val d => some (.fz d)
  | .own s => some s
  | .bor _ => none
theorem nb_sl {r : Rv} {s : Sl} (h : nb r = some s) : r.sl = s := by
  cases r <;> simp [nb] at h <;> subst h <;> rfl
section
variable {X : Cx} {a b c : Expr} {ms : MA} {pos : Pos} {P : Nat → Prop}
def sPar3o (i j l : Nat) (ms : MA) : MS := fun ρ => (ms ρ).bind fun y => match y.1 with
  | [r1, r2, r3] => (nb r1).bind fun s1 => (nb r2).bind fun s2 => (nb r3).map fun s3 => (.nx, ((y.2.set i s1).set j s2).set l s3)
  | _ => none
theorem three_cells' {ds : List Cl} {vs : List V} {t1 t2 t3 : Rv} (h1 : vals ds = vs.map some) (h2 : slots ds = [t1, t2, t3].map Rv.sl) : ∃ v1 v2 v3 A1 A2 A3, ds = [⟨some v1, t1.sl, A1⟩, ⟨some v2, t2.sl, A2⟩, ⟨some v3, t3.sl, A3⟩] ∧ vs = [v1, v2, v3] := by
  match ds, h2 with
  | [⟨o1, s1, A1⟩, ⟨o2, s2, A2⟩, ⟨o3, s3, A3⟩], h2 =>
    simp only [slots, List.map_cons, List.map_nil, List.cons.injEq, and_true] at h2
    obtain ⟨q1, q2, q3⟩ := h2
    have q1 : s1 = t1.sl := q1
    have q2 : s2 = t2.sl := q2
    have q3 : s3 = t3.sl := q3
    subst q1; subst q2; subst q3
    match vs, h1 with
    | [v1, v2, v3], h1 =>
      simp only [vals, List.map_cons, List.map_nil, List.cons.injEq, and_true] at h1
      obtain ⟨p1, p2, p3⟩ := h1
      have p1 : o1 = some v1 := p1
      have p2 : o2 = some v2 := p2
      have p3 : o3 = some v3 := p3
      subst p1; subst p2; subst p3
      exact ⟨v1, v2, v3, A1, A2, A3, rfl, rfl⟩
    | [], h1 => simp [vals] at h1
    | [_], h1 => simp [vals] at h1
    | [_, _], h1 => simp [vals] at h1
    | _ :: _ :: _ :: _ :: _, h1 => simp [vals] at h1
  | [], h2 => simp [slots] at h2
  | [_], h2 => simp [slots] at h2
  | [_, _], h2 => simp [slots] at h2
  | _ :: _ :: _ :: _ :: _, h2 => simp [slots] at h2
theorem ss_par3o (i j l : Nat) {x y z : Str} {px py pz pt : Pos} {kt k2 pt2} (hc : X.calm = true) (hN : X.N.Nodup) (hi : X.N[i]? = some x) (hj : X.N[j]? = some y) (hl : X.N[l]? = some z) (hij : i ≠ j) (hil : i ≠ l) (hjl : j ≠ l)
    (hx : X.env.scope.names.lookup x = some .local) (hy : X.env.scope.names.lookup y = some .local) (hz : X.env.scope.names.lookup z = some .local) (hP : ¬ P i ∧ ¬ P j ∧ ¬ P l) (ha : SA X [a, b, c] ms)
    (hw : swappedStores [.Tuple [.Name x px, .Name y py, .Name z pz] kt pt] (.Tuple [a, b, c] k2 pt2) X.env = pure (some [x, y, z]) := by rfl)
    (hs : swapsWithSole [.Tuple [.Name x px, .Name y py, .Name z pz] kt pt] (.Tuple [a, b, c] k2 pt2) pos.line X.env = pure false := by rfl) :
    SS X P (.Assign [.Tuple [.Name x px, .Name y py, .Name z pz] kt pt] (.Tuple [a, b, c] k2 pt2) pos) (sPar3o i j l ms) := PS.imp (ps_par3 hc hN hi hj hl hij hil hjl hx hy hz ha hw hs) fun D σ H h => by
  obtain ⟨cs, G, k, ρ', e1, rs, hm, q⟩ := h
  obtain ⟨⟨r, ρ1⟩, h1, hm⟩ := Option.bind_eq_some_iff.mp hm
  dsimp only at hm
  split at hm
  · rename_i t1 t2 t3
    obtain ⟨s1, n1, hm⟩ := Option.bind_eq_some_iff.mp hm
    obtain ⟨s2, n2, hm⟩ := Option.bind_eq_some_iff.mp hm
    obtain ⟨s3, n3, hm⟩ := Option.map_eq_some_iff.mp hm
    cases hm
    refine ⟨cs, G, _, ρ1, e1, rs, h1, fun cs1 ds vs G1 H1 f1 f2 fb f3 f4 rs1 st1 => ?_⟩
    subst e1
    obtain ⟨v1, v2, v3, A1, A2, A3, rfl, rfl⟩ := three_cells' f3 f4
    rw [nb_sl n1, nb_sl n2, nb_sl n3] at rs1 st1
    have rs1 : Res X.K X.mg G1 H1 (⟨some v1, s1, A1⟩ :: ⟨some v2, s2, A2⟩ :: ⟨some v3, s3, A3⟩ :: cs1) := rs1
    have r1 : Res X.K X.mg G1 H1 (⟨some v2, s2, A2⟩ :: ⟨some v3, s3, A3⟩ :: cs1.set i ⟨some v1, s1, A1⟩) := rs1.put (i + 2)
    have r2 : Res X.K X.mg G1 H1 (⟨some v3, s3, A3⟩ :: (cs1.set i ⟨some v1, s1, A1⟩).set j ⟨some v2, s2, A2⟩) := r1.put (j + 1)
    have r3 := r2.put l
    refine ⟨v1, v2, v3, rfl, ?_⟩
    have ev : (((vals cs).set i (some v1)).set j (some v2)).set l (some v3) = vals (((cs1.set i ⟨some v1, s1, A1⟩).set j ⟨some v2, s2, A2⟩).set l ⟨some v3, s3, A3⟩) := by rw [vals_set, vals_set, vals_set, f1]
    rw [ev]
    refine KS.nx q (by rw [slots_set, slots_set, slots_set, f2]) ?_ (fun n hn => ?_) r3 (st1.weak fun b hb => ?_)
    · have := congrArg List.length ev
      simpa using this.symm
    · rw [← ev, List.getElem?_set_ne, List.getElem?_set_ne, List.getElem?_set_ne]
      · rintro rfl; exact hP.1 hn
      · rintro rfl; exact hP.2.1 hn
      · rintro rfl; exact hP.2.2 hn
    · have b1 := own_put l b hb
      have b2 : b ∈ own (⟨some v2, s2, A2⟩ :: ⟨some v3, s3, A3⟩ :: cs1.set i ⟨some v1, s1, A1⟩) := own_put (c := ⟨some v2, s2, A2⟩) (cs := ⟨some v3, s3, A3⟩ :: cs1.set i ⟨some v1, s1, A1⟩) (j + 1) b b1
      exact own_put (c := ⟨some v1, s1, A1⟩) (cs := ⟨some v2, s2, A2⟩ :: ⟨some v3, s3, A3⟩ :: cs1) (i + 2) b b2
  · cases hm
end
@[simp] theorem r_nb_val (d : D) : nb (.val d) = some (.fz d) := rfl
@[simp] theorem r_nb_own (s : Sl) : nb (.own s) = some s := rfl
@[simp] theorem r_par3o {ms : MA} {ρ : List Sl} (i j l : Nat) : sPar3o i j l ms ρ = (ms ρ).bind fun y => match y.1 with
  | [r1, r2, r3] => (nb r1).bind fun s1 => (nb r2).bind fun s2 => (nb r3).map fun s3 => (.nx, ((y.2.set i s1).set j s2).set l s3)
  | _ => none := rfl
end
end FW

/-! list(zip(a, b)): the tuple it owns is held by the list, so it makes a new one each time -/
namespace FW
noncomputable section
open PySem L2
/-- a zip whose last tuple lives on -/
abbrev IsZipB (h : Heap) (z TI TO : Addr) (T : Addr) (f1 : Value) : Prop :=
  h.get? z = some { cls := .type "zip", dict := none, data := .fields #[rawInt T, f1, .bool false, .ref TI, .ref TO], slots := #[] }
section
variable {prog : Program} {w : World} {A : Around} {E : Value → Shared → Prop} {s : Shared}
theorem zip_busy {z TI TO T : Addr} {f1 : Value} {oT : Obj} {Q : Bool → Shared → Prop} (hz : IsZipB s.heap z TI TO T f1) (hT : s.heap.get? T = some oT)
    (h : ∀ h' f1', IsZipB h' z TI TO T f1' → Heap.SameBut z s.heap h' → Q false { s with heap := h' }) :
    wpAny (model prog w) A (Builtin.SmallTypes.ownedTupleIsFree (.ref z)) Q E s := by
  unfold Builtin.SmallTypes.ownedTupleIsFree
  refine wpAny_bind (wpAny_field hz rfl (x := rawInt T) rfl ?_)
  have e : ((T : Int).toNat) = T := Int.toNat_natCast T
  show wpAny _ _ (loadIfAlive ((T : Int).toNat) >>= _) _ _ _
  rw [e]
  refine wpAny_bind fun Γ p hΓ => ?_
  unfold loadIfAlive
  rw [Sem.wp_loadIfAlive, hT, Sem.wp_pure]
  show wpAny _ _ (field (.ref z) 1 >>= _) _ _ _
  refine wpAny_bind (wpAny_field hz rfl (x := f1) rfl ?_)
  by_cases hf : f1 = .bool true
  · subst hf
    exact wpAny_pure (h s.heap (.bool true) hz (Heap.SameBut.refl _ _))
  · have : (f1 != Value.bool true) = true := by simpa using hf
    simp only [this, if_true]
    refine wpAny_bind (wpAny_setField_rec hz (by simp) fun h₁ hz₁ hs₁ => ?_)
    exact wpAny_pure (h h₁ (.bool true) hz₁ hs₁)
theorem zipB_item {z TI TO i1 i2 l1 l2 T : Addr} {f1 : Value} {oT : Obj} {k1 k2 : Nat} {xs ys : Array Value} {x y a b : Value} {Q : Value → Shared → Prop} (D : ZipApart z TI TO i1 i2 l1 l2)
    (hz : IsZipB s.heap z TI TO T f1) (hT : s.heap.get? T = some oT) (hTI : IsPair s.heap TI (.ref i1) (.ref i2))
    (h1 : s.heap.IsListIter i1 l1 k1) (h2 : s.heap.IsListIter i2 l2 k2) (hl1 : s.heap.IsList l1 xs) (hl2 : s.heap.IsList l2 ys) (hx : xs[k1]? = some x) (hy : ys[k2]? = some y)
    (hQ : ∀ h' f1', IsZipB h' z TI TO T f1' → h'.IsListIter i1 l1 (k1 + 1) → h'.IsListIter i2 l2 (k2 + 1) → IsPair h' s.heap.objs.size x y →
      (∀ c o, c ≠ z → c ≠ i1 → c ≠ i2 → s.heap.get? c = some o → h'.get? c = some o) → Q (.ref s.heap.objs.size) { s with heap := h' }) :
    wpAny (model prog w) A (Builtin.«zip.__next__» ⟨[.ref z], []⟩) (fun fin s' => ∃ v, fin = .done (.ret v) ∧ Q v s') E s := by
  show wpAny _ _ (field (.ref z) 2 >>= _) _ _ _
  refine wpAny_bind (wpAny_field hz rfl (x := .bool false) rfl ?_)
  show wpAny _ _ (field (.ref z) 3 >>= _) _ _ _
  refine wpAny_bind (wpAny_field hz rfl (x := .ref TI) rfl ?_)
  refine wpAny_bind (wpAny_seqItems hTI rfl ?_)
  show wpAny _ _ (Builtin.SmallTypes.ownedTupleIsFree (.ref z) >>= _) _ _ _
  refine wpAny_bind (zip_busy hz hT fun h₁ f1' hz₁ hs₁ => ?_)
  simp only [Bool.false_eq_true, if_false]
  refine wpAny_bind ?_
  simp only [List.forIn_toArray, List.forIn_cons, List.forIn_nil]
  refine wpAny_bind (wpAny_bind (wpAny_holding ?_))
  show wpAny _ _ (Builtin.SmallTypes.nextOf (.ref i1) >>= _) _ _ _
  refine wpAny_bind (wpAny_nextOf_list_item (h1.extBut hs₁.extBut D.i1z) (hl1.extBut hs₁.extBut D.l1z) hx fun h₂ h1₂ hs₂ => wpAny_pure ?_)
  refine wpAny_pure ?_
  refine wpAny_bind (wpAny_bind (wpAny_holding ?_))
  show wpAny _ _ (Builtin.SmallTypes.nextOf (.ref i2) >>= _) _ _ _
  refine wpAny_bind (wpAny_nextOf_list_item ((h2.extBut hs₁.extBut D.i2z).extBut hs₂.extBut D.i12.symm) ((hl2.extBut hs₁.extBut D.l2z).extBut hs₂.extBut D.l2i1) hy fun h₃ h2₃ hs₃ => wpAny_pure ?_)
  refine wpAny_pure (wpAny_pure ?_)
  refine wpAny_bind (wpAny_newTuple (items := [x, y]) ?_)
  have hsz : h₃.objs.size = s.heap.objs.size := by rw [hs₃.1, hs₂.1, hs₁.1]
  have hk : ∀ c o, c ≠ z → c ≠ i1 → c ≠ i2 → s.heap.get? c = some o → (h₃.push { cls := .type "tuple", data := .seq #[x, y] }).get? c = some o := fun c o c1 c3 c4 e =>
    Heap.get?_push_of_some _ (hs₃.extBut _ _ c4 (hs₂.extBut _ _ c3 (hs₁.extBut _ _ c1 e)))
  refine wpAny_pure ⟨_, rfl, ?_⟩
  show Q (.ref h₃.objs.size) _
  have q := hQ (h₃.push { cls := .type "tuple", data := .seq #[x, y] }) f1' (Heap.get?_push_of_some _ (hs₃.extBut _ _ D.i2z.symm (hs₂.extBut _ _ D.i1z.symm hz₁)))
    ((h1₂.extBut hs₃.extBut D.i12).at fun o e => Heap.get?_push_of_some _ e) (h2₃.at fun o e => Heap.get?_push_of_some _ e) (by rw [← hsz]; exact Heap.get?_push_size _ rfl) hk
  rw [hsz]
  exact q
theorem zipB_end {z TI TO i1 i2 l1 l2 T : Addr} {f1 : Value} {oT : Obj} {k1 k2 : Nat} {xs ys : Array Value} {Q : PySem.Fin → Shared → Prop} (hh : A.handled = none) (D : ZipApart z TI TO i1 i2 l1 l2)
    (hz : IsZipB s.heap z TI TO T f1) (hT : s.heap.get? T = some oT) (hTI : IsPair s.heap TI (.ref i1) (.ref i2))
    (h1 : s.heap.IsListIter i1 l1 k1) (h2 : s.heap.IsListIter i2 l2 k2) (hl1 : s.heap.IsList l1 xs) (hl2 : s.heap.IsList l2 ys) (hend : xs[k1]? = none ∨ ys[k2]? = none)
    (hE : ∀ h' e, (∀ c o, c ≠ z → c ≠ i1 → c ≠ i2 → s.heap.get? c = some o → h'.get? c = some o) → (∃ o, h'.get? e = some o ∧ o.cls = .type "StopIteration") → E (.ref e) { s with heap := h' }) :
    wpAny (model prog w) A (Builtin.«zip.__next__» ⟨[.ref z], []⟩) Q E s := by
  show wpAny _ _ (field (.ref z) 2 >>= _) _ _ _
  refine wpAny_bind (wpAny_field hz rfl (x := .bool false) rfl ?_)
  show wpAny _ _ (field (.ref z) 3 >>= _) _ _ _
  refine wpAny_bind (wpAny_field hz rfl (x := .ref TI) rfl ?_)
  refine wpAny_bind (wpAny_seqItems hTI rfl ?_)
  show wpAny _ _ (Builtin.SmallTypes.ownedTupleIsFree (.ref z) >>= _) _ _ _
  refine wpAny_bind (zip_busy hz hT fun h₁ f1' hz₁ hs₁ => ?_)
  simp only [Bool.false_eq_true, if_false]
  refine wpAny_bind ?_
  simp only [List.forIn_toArray, List.forIn_cons, List.forIn_nil]
  refine wpAny_bind (wpAny_bind (wpAny_holding ?_))
  show wpAny _ _ (Builtin.SmallTypes.nextOf (.ref i1) >>= _) _ _ _
  cases hx : xs[k1]? with
  | none =>
    refine wpAny_bind (wpAny_nextOf_list_end hh (h1.extBut hs₁.extBut D.i1z) (hl1.extBut hs₁.extBut D.l1z) hx fun h₂ e hs₂ he => ?_)
    exact hE h₂ e (fun c o c1 c3 _ x => hs₂ _ _ c3 (hs₁.extBut _ _ c1 x)) he
  | some x =>
    have hy : ys[k2]? = none := by rcases hend with h | h; rw [hx] at h; cases h; exact h
    refine wpAny_bind (wpAny_nextOf_list_item (h1.extBut hs₁.extBut D.i1z) (hl1.extBut hs₁.extBut D.l1z) hx fun h₂ h1₂ hs₂ => wpAny_pure ?_)
    refine wpAny_pure ?_
    refine wpAny_bind (wpAny_bind (wpAny_holding ?_))
    show wpAny _ _ (Builtin.SmallTypes.nextOf (.ref i2) >>= _) _ _ _
    refine wpAny_bind (wpAny_nextOf_list_end hh ((h2.extBut hs₁.extBut D.i2z).extBut hs₂.extBut D.i12.symm) ((hl2.extBut hs₁.extBut D.l2z).extBut hs₂.extBut D.l2i1) hy fun h₄ e hs₄ he => ?_)
    exact hE h₄ e (fun c o c1 c3 c4 x => hs₄ _ _ c4 (hs₂.extBut _ _ c3 (hs₁.extBut _ _ c1 x))) he
theorem next_zipB_item {z TI TO i1 i2 l1 l2 T : Addr} {f1 : Value} {oT : Obj} {k1 k2 : Nat} {xs ys : Array Value} {x y : Value} {Q : Option Value → Shared → Prop} (D : ZipApart z TI TO i1 i2 l1 l2)
    (hz : IsZipB s.heap z TI TO T f1) (hT : s.heap.get? T = some oT) (hTI : IsPair s.heap TI (.ref i1) (.ref i2))
    (h1 : s.heap.IsListIter i1 l1 k1) (h2 : s.heap.IsListIter i2 l2 k2) (hl1 : s.heap.IsList l1 xs) (hl2 : s.heap.IsList l2 ys) (hx : xs[k1]? = some x) (hy : ys[k2]? = some y)
    (hQ : ∀ h' f1', IsZipB h' z TI TO T f1' → h'.IsListIter i1 l1 (k1 + 1) → h'.IsListIter i2 l2 (k2 + 1) → IsPair h' s.heap.objs.size x y →
      (∀ c o, c ≠ z → c ≠ i1 → c ≠ i2 → s.heap.get? c = some o → h'.get? c = some o) → Q (some (.ref s.heap.objs.size)) { s with heap := h' }) :
    wpAny (model prog w) A (pyNext (.ref z)) Q E s := by
  have hTy : s.TypeIs (.ref z) "zip" := ⟨_, hz, rfl⟩
  unfold pyNext
  exact wpAny_bind (wpAny_attempt (wpAny_callSpecial?_slot (name := Str.ofString "__next__") hTy PySem.F.slot_zip_next
    (wpAny_call_entry PySem.F.slot_zip_next hTy PySem.F.entry_zip_next
      (zipB_item (a := .none) (b := .none) D hz hT hTI h1 h2 hl1 hl2 hx hy fun h' f a1 a3 a4 a5 a7 => wpAny_pure (hQ h' f a1 a3 a4 a5 a7)) (PySem.F.args_zip_next_1 _))))
theorem next_zipB_end {z TI TO i1 i2 l1 l2 T : Addr} {f1 : Value} {oT : Obj} {k1 k2 : Nat} {xs ys : Array Value} {Q : Option Value → Shared → Prop} (hh : A.handled = none) (D : ZipApart z TI TO i1 i2 l1 l2)
    (hz : IsZipB s.heap z TI TO T f1) (hT : s.heap.get? T = some oT) (hTI : IsPair s.heap TI (.ref i1) (.ref i2))
    (h1 : s.heap.IsListIter i1 l1 k1) (h2 : s.heap.IsListIter i2 l2 k2) (hl1 : s.heap.IsList l1 xs) (hl2 : s.heap.IsList l2 ys) (hend : xs[k1]? = none ∨ ys[k2]? = none)
    (hQ : ∀ h', (∀ c o, c ≠ z → c ≠ i1 → c ≠ i2 → s.heap.get? c = some o → h'.get? c = some o) → Q none { s with heap := h' }) : wpAny (model prog w) A (pyNext (.ref z)) Q E s := by
  have hTy : s.TypeIs (.ref z) "zip" := ⟨_, hz, rfl⟩
  unfold pyNext
  refine wpAny_bind (wpAny_attempt (wpAny_callSpecial?_slot (name := Str.ofString "__next__") hTy PySem.F.slot_zip_next
    (wpAny_call_entry PySem.F.slot_zip_next hTy PySem.F.entry_zip_next (zipB_end hh D hz hT hTI h1 h2 hl1 hl2 hend fun h' e hk he => ?_) (PySem.F.args_zip_next_1 _))))
  obtain ⟨o, ho, hc⟩ := he
  refine wpAny_bind (wpAny_isInstance (T := "StopIteration") (b := true) ⟨o, ho, hc⟩ isSubtype_stop ?_)
  exact wpAny_pure (hQ _ hk)
end
end
end FW

/-! list(zip(a, b)): the loop, the call -/
namespace FW
noncomputable section
open PySem L2
namespace ZF
theorem nolen_zip : typeLookup (.type "zip") "__len__" = pure none := by rw [typeLookup_type, builtinLookup_eq_fast]; kernel_rfl
theorem nohint_zip : typeLookup (.type "zip") "__length_hint__" = pure none := by rw [typeLookup_type, builtinLookup_eq_fast]; kernel_rfl
end ZF
structure ZB (h0 h : Heap) (z TI TO i1 i2 l1 l2 : Addr) (xs ys : Array Value) (i : Nat) (ts : List Addr) : Prop where
  len : ts.length = i
  zz : (ts = [] ∧ IsZip h z TI TO .none) ∨ ∃ T f1 o, T ∈ ts ∧ h.get? T = some o ∧ IsZipB h z TI TO T f1
  ti : IsPair h TI (.ref i1) (.ref i2)
  to : ∃ a b, IsPair h TO a b
  h1 : h.IsListIter i1 l1 i
  h2 : h.IsListIter i2 l2 i
  l1 : h.IsList l1 xs
  l2 : h.IsList l2 ys
  tup : ∀ (j : Nat) (t : Addr), ts[j]? = some t → ∃ x y, xs[j]? = some x ∧ ys[j]? = some y ∧ IsPair h t x y
  up : ∀ t ∈ ts, h0.objs.size ≤ t ∧ t ≠ z ∧ t ≠ TO ∧ t ≠ i1 ∧ t ≠ i2
  nd : ts.Nodup
  keep : ∀ c o, h0.get? c = some o → h.get? c = some o
section
variable {h0 h h' : Heap} {z TI TO i1 i2 l1 l2 : Addr} {xs ys : Array Value} {i : Nat} {ts : List Addr}
theorem ZB.frame (Z : ZB h0 h z TI TO i1 i2 l1 l2 xs ys i ts) {S : Addr} (hS : S ∉ [z, TI, TO, i1, i2, l1, l2]) (hS2 : S ∉ ts) (hS0 : h0.get? S = none)
    (k : ∀ c o, c ≠ S → h.get? c = some o → h'.get? c = some o) : ZB h0 h' z TI TO i1 i2 l1 l2 xs ys i ts := by
  simp only [List.mem_cons, List.not_mem_nil, or_false, not_or] at hS
  obtain ⟨n1, n2, n3, n4, n5, n6, n7⟩ := hS
  have kT : ∀ t ∈ ts, ∀ o, h.get? t = some o → h'.get? t = some o := fun t ht o e => k t o (fun z => hS2 (z ▸ ht)) e
  refine ⟨Z.len, ?_, k _ _ (Ne.symm n2) Z.ti, ?_, Z.h1.at fun o e => k _ o (Ne.symm n4) e, Z.h2.at fun o e => k _ o (Ne.symm n5) e, Z.l1.at fun o e => k _ o (Ne.symm n6) e, Z.l2.at fun o e => k _ o (Ne.symm n7) e, fun j t e => ?_, Z.up, Z.nd, fun c o e => ?_⟩
  · rcases Z.zz with ⟨e, q⟩ | ⟨T, f1, o, ht, e, q⟩
    · exact .inl ⟨e, k _ _ (Ne.symm n1) q⟩
    · exact .inr ⟨T, f1, o, ht, kT T ht o e, k _ _ (Ne.symm n1) q⟩
  · obtain ⟨a, b, q⟩ := Z.to
    exact ⟨a, b, k _ _ (Ne.symm n3) q⟩
  · obtain ⟨x, y, e1, e2, e3⟩ := Z.tup j t e
    exact ⟨x, y, e1, e2, kT t (List.mem_of_getElem? e) _ e3⟩
  · exact k c o (fun z => by rw [z, hS0] at e; cases e) (Z.keep c o e)
theorem ZB.lt (Z : ZB h0 h z TI TO i1 i2 l1 l2 xs ys i ts) : ∀ t ∈ ts, t < h.objs.size := fun t ht => by
  obtain ⟨j, e⟩ := List.getElem?_of_mem ht
  obtain ⟨x, y, _, _, q⟩ := Z.tup j t e
  exact Heap.lt_size q
/-- one more -/
theorem ZB.more (Z : ZB h0 h z TI TO i1 i2 l1 l2 xs ys i ts) (D : ZipApart z TI TO i1 i2 l1 l2) {x y : Value} (hx : xs[i]? = some x) (hy : ys[i]? = some y) (hk0 : ∀ c o, h0.get? c = some o → c ≠ z ∧ c ≠ TO ∧ c ≠ i1 ∧ c ≠ i2)
    (zz : ∃ T f1 o, T ∈ ts ++ [h.objs.size] ∧ h'.get? T = some o ∧ IsZipB h' z TI TO T f1) (to : ∃ a b, IsPair h' TO a b) (a1 : h'.IsListIter i1 l1 (i + 1)) (a2 : h'.IsListIter i2 l2 (i + 1)) (a3 : IsPair h' h.objs.size x y)
    (k : ∀ c o, c ≠ z → c ≠ TO → c ≠ i1 → c ≠ i2 → h.get? c = some o → h'.get? c = some o) (hsz : h0.objs.size ≤ h.objs.size) : ZB h0 h' z TI TO i1 i2 l1 l2 xs ys (i + 1) (ts ++ [h.objs.size]) := by
  have lt : ∀ {c o}, h.get? c = some o → h.objs.size ≠ c := fun e => Nat.ne_of_gt (Heap.lt_size e)
  have zl : h.objs.size ≠ z := by
    rcases Z.zz with ⟨e, q⟩ | ⟨T, f1, o, ht, e, q⟩ <;> exact lt q
  have tol : h.objs.size ≠ TO := by obtain ⟨a, b, q⟩ := Z.to; exact lt q
  have il1 : h.objs.size ≠ i1 := by obtain ⟨_, e, _⟩ := Z.h1; exact lt e
  have il2 : h.objs.size ≠ i2 := by obtain ⟨_, e, _⟩ := Z.h2; exact lt e
  refine ⟨by simp [Z.len], .inr zz, k _ _ D.TIz D.TITO D.TIi1 D.TIi2 Z.ti, to, a1, a2, Z.l1.at fun o e => k _ o D.l1z D.l1TO D.l1i1 D.l1i2 e, Z.l2.at fun o e => k _ o D.l2z D.l2TO D.l2i1 D.l2i2 e, fun j t e => ?_, fun t ht => ?_, ?_, fun c o e => ?_⟩
  · rw [List.getElem?_append] at e
    split at e
    · obtain ⟨x', y', e1, e2, e3⟩ := Z.tup j t e
      obtain ⟨_, u1, u2, u3, u4⟩ := Z.up t (List.mem_of_getElem? e)
      exact ⟨x', y', e1, e2, k _ _ u1 u2 u3 u4 e3⟩
    · rename_i hj
      obtain ⟨hlt, e⟩ := List.getElem?_eq_some_iff.mp e
      simp at hlt
      have : j = i := by have := Z.len; omega
      subst this
      simp at e
      subst e
      exact ⟨x, y, hx, hy, a3⟩
  · rcases List.mem_append.mp ht with ht | ht
    · exact Z.up t ht
    · rw [List.mem_singleton.mp ht]
      exact ⟨hsz, zl, tol, il1, il2⟩
  · refine List.nodup_append.mpr ⟨Z.nd, by simp, fun a ha b hb e => ?_⟩
    rw [List.mem_singleton.mp hb] at e
    exact Nat.ne_of_lt (Z.lt a ha) e
  · obtain ⟨c1, c2, c3, c4⟩ := hk0 c o e
    exact k c o c1 c2 c3 c4 (Z.keep c o e)
/-- at the end -/
theorem ZB.tups (Z : ZB h0 h z TI TO i1 i2 l1 l2 xs ys i ts) (hk0 : ∀ c o, h0.get? c = some o → c ≠ z ∧ c ≠ TO ∧ c ≠ i1 ∧ c ≠ i2)
    (k : ∀ c o, c ≠ z → c ≠ TO → c ≠ i1 → c ≠ i2 → h.get? c = some o → h'.get? c = some o) : (∀ (j : Nat) (t : Addr), ts[j]? = some t → ∃ x y, xs[j]? = some x ∧ ys[j]? = some y ∧ IsPair h' t x y) ∧ (∀ c o, h0.get? c = some o → h'.get? c = some o) := by
  refine ⟨fun j t e => ?_, fun c o e => ?_⟩
  · obtain ⟨x', y', e1, e2, e3⟩ := Z.tup j t e
    obtain ⟨_, u1, u2, u3, u4⟩ := Z.up t (List.mem_of_getElem? e)
    exact ⟨x', y', e1, e2, k _ _ u1 u2 u3 u4 e3⟩
  · obtain ⟨c1, c2, c3, c4⟩ := hk0 c o e
    exact k c o c1 c2 c3 c4 (Z.keep c o e)
end
section
variable {prog : Program} {w : World} {A : Around} {E : Value → Shared → Prop} {s : Shared} {h0 : Heap} {z TI TO i1 i2 l1 l2 : Addr} {xs ys : Array Value} {i : Nat} {ts : List Addr}
theorem ZB.item (Z : ZB h0 s.heap z TI TO i1 i2 l1 l2 xs ys i ts) (D : ZipApart z TI TO i1 i2 l1 l2) (hk0 : ∀ c o, h0.get? c = some o → c ≠ z ∧ c ≠ TO ∧ c ≠ i1 ∧ c ≠ i2) (hsz : h0.objs.size ≤ s.heap.objs.size) (hi : i < min xs.size ys.size) {Q : Option Value → Shared → Prop}
    (hQ : ∀ h', ZB h0 h' z TI TO i1 i2 l1 l2 xs ys (i + 1) (ts ++ [s.heap.objs.size]) → (∀ c o, c ≠ z → c ≠ TO → c ≠ i1 → c ≠ i2 → s.heap.get? c = some o → h'.get? c = some o) → h0.objs.size ≤ h'.objs.size → Q (some (.ref s.heap.objs.size)) { s with heap := h' }) :
    wpAny (model prog w) A (pyNext (.ref z)) Q E s := by
  have hx : xs[i]? = some xs[i] := Array.getElem?_eq_getElem (by omega)
  have hy : ys[i]? = some ys[i] := Array.getElem?_eq_getElem (by omega)
  have big : ∀ {h' : Heap} {x y : Value}, IsPair h' s.heap.objs.size x y → h0.objs.size ≤ h'.objs.size := fun q => Nat.le_trans hsz (Nat.le_of_lt (Heap.lt_size q))
  rcases Z.zz with ⟨e, q⟩ | ⟨T, f1, o, ht, e, q⟩
  · obtain ⟨a, b, hTO⟩ := Z.to
    refine wpAny_pyNext_zip_item D q Z.ti hTO Z.h1 Z.h2 Z.l1 Z.l2 hx hy fun h' a1 a2 a3 a4 a5 a6 hk => hQ h' (Z.more D hx hy hk0 ⟨_, .bool false, _, List.mem_append_right _ (List.mem_singleton.mpr rfl), a5, a1⟩ ⟨_, _, a2⟩ a3 a4 a5 hk hsz) hk (big a5)
  · refine next_zipB_item D q e Z.ti Z.h1 Z.h2 Z.l1 Z.l2 hx hy fun h' f1' a1 a3 a4 a5 hk => ?_
    obtain ⟨a, b, hTO⟩ := Z.to
    obtain ⟨_, u1, u2, u3, u4⟩ := Z.up T ht
    exact hQ h' (Z.more D hx hy hk0 ⟨T, f1', o, List.mem_append_left _ ht, hk _ _ u1 u3 u4 e, a1⟩ ⟨a, b, hk _ _ D.TOz D.TOi1 D.TOi2 hTO⟩ a3 a4 a5 (fun c o c1 _ c3 c4 e => hk c o c1 c3 c4 e) hsz) (fun c o c1 _ c3 c4 e => hk c o c1 c3 c4 e) (big a5)
theorem ZB.done (Z : ZB h0 s.heap z TI TO i1 i2 l1 l2 xs ys i ts) (D : ZipApart z TI TO i1 i2 l1 l2) (hh : A.handled = none) (hi : i = min xs.size ys.size) {Q : Option Value → Shared → Prop}
    (hQ : ∀ h', (∀ c o, c ≠ z → c ≠ TO → c ≠ i1 → c ≠ i2 → s.heap.get? c = some o → h'.get? c = some o) → Q none { s with heap := h' }) :
    wpAny (model prog w) A (pyNext (.ref z)) Q E s := by
  have hend : xs[i]? = none ∨ ys[i]? = none := by
    subst hi
    rcases Nat.le_total xs.size ys.size with h | h
    · exact .inl (by rw [Nat.min_eq_left h]; exact Array.getElem?_eq_none (Nat.le_refl _))
    · exact .inr (by rw [Nat.min_eq_right h]; exact Array.getElem?_eq_none (Nat.le_refl _))
  rcases Z.zz with ⟨e, q⟩ | ⟨T, f1, o, ht, e, q⟩
  · obtain ⟨a, b, hTO⟩ := Z.to
    exact wpAny_pyNext_zip_end hh D q Z.ti hTO Z.h1 Z.h2 Z.l1 Z.l2 hend fun h' hk => hQ h' hk
  · exact next_zipB_end hh D q e Z.ti Z.h1 Z.h2 Z.l1 Z.l2 hend fun h' hk => hQ h' fun c o c1 _ c3 c4 e => hk c o c1 c3 c4 e
/-- the list's loop -/
theorem zip_loop {R : Result → Shared → Prop} (D : ZipApart z TI TO i1 i2 l1 l2) (hh : A.in1.handled = none) (hn : min xs.size ys.size ≤ sizeLine) (hk0 : ∀ c o, h0.get? c = some o → c ≠ z ∧ c ≠ TO ∧ c ≠ i1 ∧ c ≠ i2) (S : Addr) (hSf : S ∉ [z, TI, TO, i1, i2, l1, l2]) (hS0 : h0.get? S = none) (res : Value) :
    ∀ (k i : Nat) (s : Shared) (ts : List Addr) (c : Nat), min xs.size ys.size - i = k → i ≤ min xs.size ys.size → ZB h0 s.heap z TI TO i1 i2 l1 l2 xs ys i ts → S ∉ ts → h0.objs.size ≤ s.heap.objs.size → s.heap.get? S = some { cls := .type "list", dict := none, data := .seq (ts.map Value.ref).toArray c, slots := #[] } →
    (∀ (h' : Heap) (ts' : List Addr) (c' : Nat), ts'.length = min xs.size ys.size → ts'.Nodup → S ∉ ts' → (∀ t ∈ ts', h0.objs.size ≤ t) → h'.get? S = some { cls := .type "list", dict := none, data := .seq (ts'.map Value.ref).toArray c', slots := #[] } →
      (∀ (j : Nat) (t : Addr), ts'[j]? = some t → ∃ x y, xs[j]? = some x ∧ ys[j]? = some y ∧ IsPair h' t x y) → (∀ c o, h0.get? c = some o → h'.get? c = some o) → R (.ok (.ret res)) { s with heap := h' }) →
    codeAny (model prog w) A (.builtin "list.extend.loop" ⟨[.ref S, .ref z, res], []⟩) R s := by
  have hSw : S ≠ z ∧ S ≠ TO ∧ S ≠ i1 ∧ S ≠ i2 := by
    simp only [List.mem_cons, List.not_mem_nil, or_false, not_or] at hSf
    exact ⟨hSf.1, hSf.2.2.1, hSf.2.2.2.1, hSf.2.2.2.2.1⟩
  intro k
  induction k with
  | zero =>
    intro i s ts c hk hi Z hSt hsz hS hR
    have hin : i = min xs.size ys.size := by omega
    refine codeAny_builtin PySem.F.entry_extend_loop ?_
    rw [Around.under_plainId PySem.F.plain_extend_loop _]
    show wpAny _ A.in1 (pyNext (.ref z) >>= _) _ _ s
    refine wpAny_bind (Z.done D hh hin fun h' hk => ?_)
    obtain ⟨t1, t2⟩ := Z.tups hk0 hk
    exact wpAny_pure (hR h' ts c (by rw [Z.len, hin]) Z.nd hSt (fun t ht => (Z.up t ht).1) (hk S _ hSw.1 hSw.2.1 hSw.2.2.1 hSw.2.2.2 hS) t1 t2)
  | succ k ih =>
    intro i s ts c hk hi Z hSt hsz hS hR
    have hlt : i < min xs.size ys.size := by omega
    refine codeAny_builtin PySem.F.entry_extend_loop ?_
    rw [Around.under_plainId PySem.F.plain_extend_loop _]
    show wpAny _ A.in1 (pyNext (.ref z) >>= _) _ _ s
    refine wpAny_bind (Z.item D hk0 hsz hlt fun h' Z' hk' hsz' => ?_)
    have hS' := hk' S _ hSw.1 hSw.2.1 hSw.2.2.1 hSw.2.2.2 hS
    have hSn : S ∉ ts ++ [s.heap.objs.size] := by
      simp only [List.mem_append, List.mem_singleton, not_or]
      exact ⟨hSt, Nat.ne_of_lt (Heap.lt_size hS)⟩
    show wpAny _ A.in1 (updateSeq S (·.push (.ref s.heap.objs.size)) >>= _) _ _ _
    refine wpAny_bind ?_
    have sz : (ts.map Value.ref).toArray.size = i := by rw [List.size_toArray, List.length_map, Z.len]
    have upd' := Heap.get?_update_self (Obj.mapSeq (·.push (Value.ref s.heap.objs.size))) hS' rfl
    refine wpAny_updateSeq hS' rfl (wpAny_pure ⟨plainId_quiet PySem.F.plain_extend_loop _, ih (i + 1) { s with heap := h'.update S (Obj.mapSeq (·.push (Value.ref s.heap.objs.size))) } (ts ++ [s.heap.objs.size]) (c + 1) (by omega) hlt (Z'.frame hSf hSn hS0 fun b o hb e => ?_) hSn ?_ ?_ fun h'' ts' c' b1 b2 b3 b4 b5 b6 b7 => ?_⟩)
      (by rw [sz]; omega) (by show ((ts.map Value.ref).toArray.push _).size ≤ sizeLine + 1; rw [Array.size_push, sz]; omega)
    · exact (Heap.get?_update_other _ _ (Ne.symm hb)).trans e
    · rw [(Heap.SameBut.update h' S (Obj.mapSeq (·.push (Value.ref s.heap.objs.size)))).1]; exact hsz'
    · rw [upd']
      simp [Obj.mapSeq]
    · exact hR h'' ts' c' b1 b2 b3 b4 b5 b6 b7
theorem call_list_zip {Q : Value → Shared → Prop} (D : ZipApart z TI TO i1 i2 l1 l2) (hh : A.in1.in1.handled = none) (hn : min xs.size ys.size ≤ sizeLine) (hk0 : ∀ c o, h0.get? c = some o → c ≠ z ∧ c ≠ TO ∧ c ≠ i1 ∧ c ≠ i2)
    (Z : ZB h0 s.heap z TI TO i1 i2 l1 l2 xs ys 0 []) (hsz : h0.objs.size ≤ s.heap.objs.size) (hf : ∀ b ∈ [z, TI, TO, i1, i2, l1, l2], b < s.heap.objs.size)
    (hQ : ∀ (h' : Heap) (ts' : List Addr) (c' : Nat), ts'.length = min xs.size ys.size → ts'.Nodup → s.heap.objs.size ∉ ts' → (∀ t ∈ ts', h0.objs.size ≤ t) → h'.get? s.heap.objs.size = some { cls := .type "list", dict := none, data := .seq (ts'.map Value.ref).toArray c', slots := #[] } →
      (∀ (j : Nat) (t : Addr), ts'[j]? = some t → ∃ x y, xs[j]? = some x ∧ ys[j]? = some y ∧ IsPair h' t x y) → (∀ c o, h0.get? c = some o → h'.get? c = some o) → Q (.ref s.heap.objs.size) { s with heap := h' }) :
    wpAny (model prog w) A (call (.type "list") [.ref z]) Q E s := by
  have nf : s.heap.objs.size ∉ [z, TI, TO, i1, i2, l1, l2] := fun h => Nat.lt_irrefl _ (hf _ h)
  have nz : s.heap.objs.size ≠ z := fun e => nf (e ▸ List.mem_cons_self)
  have n0 : h0.get? s.heap.objs.size = none := by
    cases q : h0.get? s.heap.objs.size with
    | none => rfl
    | some o => exact absurd (Nat.lt_of_lt_of_le (Heap.lt_size q) hsz) (Nat.lt_irrefl _)
  refine callType_codes (Q₁ := fun obj s₁ => obj = .ref s.heap.objs.size ∧ s₁ = { s with heap := s.heap.push { cls := .type "list", data := .seq #[] } }) PySem.F.called_list (PySem.F.typeCall_list_1 _) PySem.F.entry_list_init
    (code_list_new _ ⟨rfl, rfl⟩) (by
      rintro obj s₁ ⟨rfl, rfl⟩
      have hS : (s.heap.push { cls := .type "list", data := .seq #[] }).get? s.heap.objs.size = some { cls := .type "list", data := .seq #[] } := Heap.get?_push_size _ rfl
      refine ⟨⟨_, hS, rfl⟩, PySem.F.args_list_init_2 _ _, ?_⟩
      show wpAny _ _ (do let old ← Builtin.List.listItems (.ref s.heap.objs.size); Builtin.List.listUpdate (.ref s.heap.objs.size) (fun _ => #[]); letGo old.toList.reverse; Builtin.List.listExtendWith (.ref s.heap.objs.size) (.ref z) .none) _ _ _
      refine wpAny_bind ?_; unfold Builtin.List.listItems
      refine wpAny_bind (wpAny_seqItems hS rfl (wpAny_pure ?_))
      show wpAny _ _ (updateSeq s.heap.objs.size (fun _ => #[]) >>= fun _ => letGo (#[] : Array Value).toList.reverse >>= fun _ => Builtin.List.listExtendWith (.ref s.heap.objs.size) (.ref z) .none) _ _ _
      refine wpAny_bind (wpAny_updateSeq hS rfl (wpAny_bind (wpAny_letGo ?_)))
      have hS2 := Heap.get?_update_self (Obj.mapSeq (fun _ => (#[] : Array Value))) hS rfl
      have oth : ∀ b o, b ≠ s.heap.objs.size → s.heap.get? b = some o → ((s.heap.push { cls := .type "list", data := .seq #[] }).update s.heap.objs.size (Obj.mapSeq (fun _ => (#[] : Array Value)))).get? b = some o := fun b o hb e => (Heap.get?_update_other _ _ (Ne.symm hb)).trans (Heap.get?_push_of_some _ e)
      have Z1 := Z.frame (h' := (s.heap.push { cls := .type "list", data := .seq #[] }).update s.heap.objs.size (Obj.mapSeq (fun _ => (#[] : Array Value)))) nf (by simp) n0 oth
      have zT : Shared.TypeIs { s with heap := (s.heap.push { cls := .type "list", data := .seq #[] }).update s.heap.objs.size (Obj.mapSeq (fun _ => (#[] : Array Value))) } (.ref z) "zip" := by
        rcases Z1.zz with ⟨_, q⟩ | ⟨T, f1, o, ht, _⟩
        · exact ⟨_, q, rfl⟩
        · cases ht
      have ne : Builtin.List.listSameRef (.ref s.heap.objs.size) (.ref z) = false := by simp [Builtin.List.listSameRef, nz]
      unfold Builtin.List.listExtendWith
      refine wpAny_bind (wpAny_typeOf zT ?_)
      have h2 : (Value.type "zip" == Value.type "list") = false := by decide
      have h3 : (Value.type "zip" == Value.type "tuple") = false := by decide
      simp only [ne, h2, h3, Bool.or_false, Bool.false_eq_true, if_false]
      have zq : IsZip ((s.heap.push { cls := .type "list", data := .seq #[] }).update s.heap.objs.size (Obj.mapSeq (fun _ => (#[] : Array Value)))) z TI TO .none := by
        rcases Z1.zz with ⟨_, q⟩ | ⟨T, f1, o, ht, _⟩
        · exact q
        · cases ht
      refine wpAny_bind (wpAny_pyIter_zip zq ?_)
      refine wpAny_bind (wpAny_holding ?_)
      unfold Builtin.List.listLengthHint
      refine wpAny_bind (wpAny_specialOf zT ZF.nolen_zip ?_)
      show wpAny _ _ (specialOf (Value.ref z) (Str.ofString "__length_hint__") >>= _) _ _ _
      refine wpAny_bind (wpAny_specialOf zT ZF.nohint_zip ?_)
      refine wpAny_pure ?_
      show wpAny _ _ (rule "list.extend.makes-room" >>= fun _ => Builtin.List.listTouch (.ref s.heap.objs.size) >>= fun _ =>
        again (.builtin "list.extend.loop" ⟨[.ref s.heap.objs.size, .ref z, .none], []⟩)) _ _ _
      refine wpAny_bind (wpAny_rule (wpAny_bind ?_))
      show wpAny _ _ (updateSeq s.heap.objs.size (·.push .none) >>= fun _ => updateSeq s.heap.objs.size (·.pop)) _ _ _
      refine wpAny_bind (wpAny_updateSeq hS2 rfl ?_)
      have hS3 := Heap.get?_update_self (Obj.mapSeq (·.push Value.none)) hS2 rfl
      refine wpAny_updateSeq hS3 rfl ?_
      have hS4 := Heap.get?_update_self (Obj.mapSeq (·.pop)) hS3 rfl
      refine wpAny_pure ⟨plainId_quiet PySem.F.plain_extend_loop _, zip_loop (A := A.in1) D hh hn hk0 s.heap.objs.size nf n0 .none _ 0 _ [] _ rfl (Nat.zero_le _) (Z1.frame nf (by simp) n0 fun b o hb e => (Heap.get?_update_other _ _ (Ne.symm hb)).trans ((Heap.get?_update_other _ _ (Ne.symm hb)).trans e)) (by simp) ?_ hS4 fun h' ts' c' b1 b2 b3 b4 b5 b6 b7 => ?_⟩
      · show h0.objs.size ≤ Array.size _
        rw [(Heap.SameBut.update _ _ _).1, (Heap.SameBut.update _ _ _).1, (Heap.SameBut.update _ _ _).1, Heap.size_push]
        omega
      · exact ⟨rfl, hQ h' ts' c' b1 b2 b3 b4 b5 b6 b7⟩)
end
end
end FW

/-! list(zip(a, b)): the rules -/
namespace FW
noncomputable section
open PySem L2
open PyProof.Rows (boot_zip boot_list callWith_type1 Call_ args_cons args_nil zipApart_new)
def updT (H : Hp) : List Addr → List (List V) → Hp
  | t :: ts, v :: vs => updT (upd H t (.tup v)) ts vs
  | _, _ => H
theorem updT_ne : ∀ {ts : List Addr} {vs : List (List V)} {H : Hp} {b : Addr}, b ∉ ts → updT H ts vs b = H b
  | [], [], _, _, _ => rfl
  | [], _ :: _, _, _, _ => rfl
  | _ :: _, [], _, _, _ => rfl
  | t :: ts, v :: vs, H, b, h => by
    simp only [List.mem_cons, not_or] at h
    show updT (upd H t (.tup v)) ts vs b = H b
    rw [updT_ne h.2, upd_ne h.1]
def TupAt (h : Heap) (t : Addr) (v : List V) : Prop := v.length ≤ sizeLine ∧ ∃ its : List Value, Vals v its ∧ PyProof.Rows.IsTup h t its.toArray
section
variable {P : Program} {w : World} {h h' : Heap}
theorem HOk.laidT : ∀ {ts : List Addr} {vs : List (List V)} {H : Hp}, Paired (TupAt h) ts vs → ts.Nodup → (∀ t ∈ ts, H t = none) → HOk P w H h → HOk P w (updT H ts vs) h
  | _, _, _, .nil, _, _, k => k
  | t :: ts, v :: vs, H, .cons r p, nd, nn, k => by
    show HOk P w (updT (upd H t (.tup v)) ts vs) h
    have hn : H t = none := nn t List.mem_cons_self
    have nd' := List.nodup_cons.mp nd
    refine HOk.laidT p nd'.2 (fun u hu => ?_) ?_
    · rw [upd_ne (fun e : u = t => nd'.1 (e ▸ hu))]
      exact nn u (List.mem_cons_of_mem _ hu)
    · intro b u e
      by_cases hb : b = t
      · subst hb; rw [upd_same] at e; cases e; exact r
      · rw [upd_ne hb] at e
        exact (k b u e).stay (fun c v _ q => q) (fun c q => by rw [upd_ne (ne_of_none q hn)]; exact q) fun c xs q => by rw [upd_ne (ne_of_none q hn)]; exact q
end
section
variable {X : Cx} {pins : List (Addr × Obj)} {s : Shared} {σ : L2.St} {H : Hp} {h' : Heap}
theorem HOk.addN {P : Program} {w : World} {h : Heap} {q : Addr} {o : HO} (k : HOk P w H h) (hn : H q = none) (new : ObjOk P w (upd H q o) h q o) : HOk P w (upd H q o) h := fun b u e => by
  by_cases hb : b = q
  · subst hb; rw [upd_same] at e; cases e; exact new
  · rw [upd_ne hb] at e
    exact (k b u e).stay (fun c v _ q => q) (fun c q => by rw [upd_ne (ne_of_none q hn)]; exact q) fun c xs q => by rw [upd_ne (ne_of_none q hn)]; exact q
theorem Inv.laidT {ts : List Addr} {vs : List (List V)} {q : Addr} {o : HO} {t' : Nat} (I : Inv X pins σ H s) (k : ∀ b u, s.heap.get? b = some u → h'.get? b = some u) (hp : ∀ t ∈ ts, s.heap.objs.size ≤ t) (nd : ts.Nodup) (new : Paired (TupAt h') ts vs)
    (hq : s.heap.objs.size ≤ q) (hqt : q ∉ ts) (newq : ObjOk X.prog X.w (upd (updT H ts vs) q o) h' q o) :
    Inv X pins σ (upd (updT H ts vs) q o) { s with heap := h', toks := t' } := by
  have out : ∀ b o, s.heap.get? b = some o → b ∉ ts := fun b o e m => absurd (Nat.lt_of_lt_of_le (Heap.lt_size e) (hp b m)) (Nat.lt_irrefl _)
  have out2 : ∀ b o, H b = some o → b ∉ ts := fun b o e m => absurd (Nat.lt_of_lt_of_le (I.hok.lt e) (hp b m)) (Nat.lt_irrefl _)
  have outq : ∀ b o, s.heap.get? b = some o → b ≠ q := fun b o e z => absurd (Nat.lt_of_lt_of_le (Heap.lt_size e) (z ▸ hq)) (Nat.lt_irrefl _)
  have outq2 : ∀ b o, H b = some o → b ≠ q := fun b o e z => absurd (Nat.lt_of_lt_of_le (I.hok.lt e) (z ▸ hq)) (Nat.lt_irrefl _)
  have st : ∀ b o, H b = some o → upd (updT H ts vs) q o b = H b := fun b o e => by rw [upd_ne (outq2 b _ e), updT_ne (out2 b _ e)]
  refine I.un ⟨fun b o e _ _ _ => k b o e, fun b o e _ _ _ => ⟨o.slots, k b o e⟩, fun b o e n _ => by rw [upd_ne (outq b _ e), updT_ne (out b o e)]; exact n, fun b o e _ => ⟨o, k b o e⟩,
    fun b xs e => by rw [upd_ne (outq2 b _ e), updT_ne (out2 b _ e)]; exact e, fun b o u e => by rw [upd_ne (outq2 b _ e), updT_ne (out2 b _ e)]; exact e, fun b ps e => ⟨#[], by rw [upd_ne (outq2 b _ e), updT_ne (out2 b _ e), e]; simp⟩⟩ ?_
  exact HOk.addN (HOk.laidT new nd (fun t ht => I.hok.fresh (hp t ht)) (I.hok.kept k)) (by rw [updT_ne hqt]; exact I.hok.fresh hq) newq
end
section
variable {K : PySem.W.Frag} {mg : Str → Option Value} {cs : List Cl} {A : List Addr}
theorem newTs : ∀ {ts : List Addr} {vs : List (List V)} {ds : List (List D)} {G H : Hp}, ts.length = vs.length → ts.Nodup → (∀ t ∈ ts, H t = none) → Paired (Reps K mg G) ds vs → Res K mg G H cs →
    Res K mg (updT G ts vs) (updT H ts vs) cs ∧ Stp A G H A (updT G ts vs) (updT H ts vs) ∧ Same G (updT G ts vs) ∧ Reps K mg (updT G ts vs) (ds.map D.tup) (ts.map V.ref)
  | [], _ :: _, _, _, _, l, _, _, _, _ => by simp at l
  | _ :: _, [], _, _, _, l, _, _, _, _ => by simp at l
  | [], [], [], G, H, _, _, _, .nil, r => ⟨r, Stp.refl, fun _ _ h => h, .nil⟩
  | t :: ts, v :: vs, d :: ds, G, H, l, nd, nn, .cons q p, r => by
    have hn : H t = none := nn t List.mem_cons_self
    have gn : G t = none := Same.none r.same hn
    have nd' := List.nodup_cons.mp nd
    have sm : Same G (upd G t (.tup v)) := sameUpdG gn
    obtain ⟨r1, s1, m1, p1⟩ := newTs (ts := ts) (G := upd G t (.tup v)) (H := upd H t (.tup v)) (by simpa using l) nd'.2 (fun u hu => by
      rw [upd_ne (fun e : u = t => nd'.1 (e ▸ hu))]
      exact nn u (List.mem_cons_of_mem _ hu)) (Paired.mapP p fun a b z => z.mono sm) (r.newG hn)
    refine ⟨r1, Stp.trans (Stp.allocG hn gn) s1, fun b o e => m1 b o (sm b o e), .cons ?_ p1⟩
    refine .tup (.inl (.inl ?_)) (q.mono (fun b o e => m1 b o (sm b o e)))
    show updT (upd G t (.tup v)) ts vs t = _
    rw [updT_ne nd'.1, upd_same]
end
section
variable {X : Cx} {a b : Expr} {ma mb : M} {p p2 pos pos2 : Pos}
def rListZip (K : PySem.W.Frag) : List V → Hp → VK → Prop := fun vs H Q => ∃ (l1 l2 : Addr) (xs ys : List V), vs = [.ref l1, .ref l2] ∧ SqL K H l1 xs ∧ SqL K H l2 ys ∧
  ∀ (ts : List Addr) (q : Addr), ts.length = (List.zipWith (fun x y => [x, y]) xs ys).length → ts.Nodup → (∀ t ∈ ts, H t = none) → H q = none → q ∉ ts → Q (.ref q) (upd (updT H ts (List.zipWith (fun x y => [x, y]) xs ys)) q (.lst (ts.map V.ref)))
theorem pairs_at {h : Heap} : ∀ {xs ys : List V} {us zs : List Value} {ts : List Addr}, Vals xs us → Vals ys zs → ts.length = min us.length zs.length →
    (∀ (j : Nat) (t : Addr), ts[j]? = some t → ∃ x y, us[j]? = some x ∧ zs[j]? = some y ∧ IsPair h t x y) → Paired (TupAt h) ts (List.zipWith (fun x y => [x, y]) xs ys)
  | _, _, _, _, [], .nil, _, _, _ => .nil
  | _, _, _, _, [], .cons _ _, .nil, _, _ => .nil
  | _, _, _, _, [], .cons _ _, .cons _ _, l, _ => by simp at l
  | _, _, _, _, _ :: _, .nil, _, l, _ => by simp at l
  | _, _, _, _, _ :: _, .cons _ _, .nil, l, _ => by simp at l
  | _, _, _, _, t :: ts, .cons r1 p1, .cons r2 p2, l, k => by
    refine .cons ?_ (pairs_at (ts := ts) p1 p2 (by simp at l; omega) fun j t' e => ?_)
    · obtain ⟨x, y, e1, e2, e3⟩ := k 0 t rfl
      simp at e1 e2
      subst e1; subst e2
      exact ⟨by rw [sizeLine_eq]; simp, _, .cons r1 (.cons r2 .nil), _, e3, rfl, _, rfl⟩
    · obtain ⟨x, y, e1, e2, e3⟩ := k (j + 1) t' (by simpa using e)
      exact ⟨x, y, by simpa using e1, by simpa using e2, e3⟩
theorem pe_listZip {ta : TA} (hc : X.calm = true) (hg : Gl X "list") (hm : X.mg "list" = none) (hg2 : Gl X "zip") (hm2 : X.mg "zip" = none) (ha : PA X [a, b] ta)
    (hs : starEach [a, b] X.env = (false, eval a X.env) :: starEach [b] X.env := by rfl) (hpl : (backTo pos2 (starEach [b] X.env)).any (·.1) = false := by rfl)
    (hs2 : starEach [.Call (.Name "zip" p2) [a, b] [] pos2] X.env = (false, eval (.Call (.Name "zip" p2) [a, b] [] pos2) X.env) :: starEach [] X.env := by rfl) :
    PE X (.Call (.Name "list" p) [.Call (.Name "zip" p2) [a, b] [] pos2] [] pos) (fun σ H Q => ta σ H fun vs H1 => rListZip X.K vs H1 Q) := by
  refine ⟨fun pins s σ H Q I h => Call_ (ld_blt I hg hm boot_list (callWith_type1 (args_cons (Call_ (ld_blt I hg2 hm2 boot_zip (callWith_type1 (thn (ha.run pos2 pins s σ H _ I h) fun us s1 ⟨vs, H1, I1, r1, q1⟩ => ?_) hs hpl))) hs2) hs2 rfl))⟩
  obtain ⟨l1, l2, xs, ys, ex, hq1, hq2, q⟩ := q1
  subst ex
  cases r1 with
  | cons r rr =>
  cases rr with
  | cons r' rr =>
  cases rr
  cases r
  cases r'
  obtain ⟨its1, rv1, pl1, hz1⟩ := I1.list hq1
  obtain ⟨its2, rv2, pl2, hz2⟩ := I1.list hq2
  refine call_zip_2 pl1.isList pl2.isList fun h' hz hTI hTO h1 h2 hsz hk => args_nil ?_
  have D := zipApart_new pl1.lt pl2.lt
  have Z : ZB s1.heap h' (s1.heap.objs.size + 4) (s1.heap.objs.size + 2) (s1.heap.objs.size + 3) s1.heap.objs.size (s1.heap.objs.size + 1) l1 l2 its1.toArray its2.toArray 0 [] :=
    ⟨rfl, .inl ⟨rfl, hz⟩, hTI, ⟨_, _, hTO⟩, h1, h2, pl1.isList.at fun o e => hk _ o e, pl2.isList.at fun o e => hk _ o e, fun j t e => by simp at e, fun t ht => (by cases ht), List.nodup_nil, hk⟩
  have lz : (List.zipWith (fun x y => [x, y]) xs ys).length = min its1.length its2.length := by rw [List.length_zipWith, rv1.length, rv2.length]
  refine call_list_zip (s := { s1 with heap := h' }) (h0 := s1.heap) D (I1.ok.hd hc) (by rw [List.size_toArray, List.size_toArray, ← rv1.length]; omega) (fun c o e => ?_) Z (by show s1.heap.objs.size ≤ h'.objs.size; omega) (fun c hcm => ?_) fun h'' ts c' b1 b2 b3 b4 b5 b6 b7 => ?_
  · have hc' : c < s1.heap.objs.size := Heap.lt_size e
    exact ⟨Nat.ne_of_lt (Nat.lt_of_lt_of_le hc' (Nat.le_add_right _ _)), Nat.ne_of_lt (Nat.lt_of_lt_of_le hc' (Nat.le_add_right _ _)), Nat.ne_of_lt hc', Nat.ne_of_lt (Nat.lt_of_lt_of_le hc' (Nat.le_add_right _ _))⟩
  · show c < h'.objs.size
    have q1 : l1 < s1.heap.objs.size := pl1.lt
    have q2 : l2 < s1.heap.objs.size := pl2.lt
    simp only [List.mem_cons, List.not_mem_nil, or_false] at hcm
    rw [hsz]
    rcases hcm with e | e | e | e | e | e | e
    · rw [e]; exact Nat.add_lt_add_left (by decide) _
    · rw [e]; exact Nat.add_lt_add_left (by decide) _
    · rw [e]; exact Nat.add_lt_add_left (by decide) _
    · rw [e]; exact Nat.lt_add_of_pos_right (by decide)
    · rw [e]; exact Nat.add_lt_add_left (by decide) _
    · rw [e]; exact Nat.lt_of_lt_of_le q1 (Nat.le_add_right _ _)
    · rw [e]; exact Nat.lt_of_lt_of_le q2 (Nat.le_add_right _ _)
  · have pr : Paired (TupAt h'') ts (List.zipWith (fun x y => [x, y]) xs ys) := pairs_at rv1 rv2 (by rw [b1, List.size_toArray, List.size_toArray]) fun j t e => by
      obtain ⟨x, y, e1, e2, e3⟩ := b6 j t e
      exact ⟨x, y, by simpa using e1, by simpa using e2, e3⟩
    have hqs : s1.heap.objs.size ≤ h'.objs.size := by rw [hsz]; exact Nat.le_add_right _ _
    have hq : H1 h'.objs.size = none := I1.hok.fresh hqs
    have tl : ts.length = (List.zipWith (fun x y => [x, y]) xs ys).length := by rw [b1, lz, List.size_toArray, List.size_toArray]
    have vr : Vals (ts.map V.ref) (ts.map Value.ref) := by
      clear b1 b2 b3 b4 b5 b6 pr tl
      induction ts with
      | nil => exact .nil
      | cons t ts ih => exact .cons rfl ih
    refine ⟨.ref h'.objs.size, _, Inv.laidT (s := s1) (t' := s1.toks) (o := .lst (ts.map V.ref)) I1 b7 b4 b2 pr hqs b3 ⟨?_, ts.map Value.ref, c', vr, b5⟩, rfl, q ts h'.objs.size tl b2 (fun t ht => I1.hok.fresh (b4 t ht)) hq b3⟩
    rw [List.length_map, tl, List.length_zipWith]
    exact Nat.le_trans (Nat.min_le_left _ _) hz1
def mZipA (ms : MA) : M := fun ρ => (ms ρ).bind fun y => match y.1 with
  | [r1, r2] => (lsv y.2 r1).bind fun xs => (lsv y.2 r2).map fun zs => (.own (.ow (zipD xs zs)), y.2)
  | _ => none
def mListZip (a b : M) : M := mZipA (aCons a (aCons b aNil))
theorem reps_zip {K : PySem.W.Frag} {mg : Str → Option Value} {G : Hp} : ∀ {xs ys : List D} {us zs : List V}, Reps K mg G xs us → Reps K mg G ys zs → Paired (Reps K mg G) (List.zipWith (fun x y => [x, y]) xs ys) (List.zipWith (fun x y => [x, y]) us zs)
  | _, _, _, _, .nil, _ => .nil
  | _, _, _, _, .cons _ _, .nil => .nil
  | _, _, _, _, .cons r1 p1, .cons r2 p2 => .cons (.cons r1 (.cons r2 .nil)) (reps_zip p1 p2)
theorem b_listZip (hc : X.calm = true) (hm : X.mg "list" = none) (hm2 : X.mg "zip" = none) (ha : SE X a ma) (hb : SE X b mb) (hg : Gl X "list" := by rfl) (hg2 : Gl X "zip" := by rfl)
    (hs : starEach [a, b] X.env = (false, eval a X.env) :: starEach [b] X.env := by rfl) (hs1 : starEach [b] X.env = (false, eval b X.env) :: starEach [] X.env := by rfl) (hpl : (backTo pos2 (starEach [b] X.env)).any (·.1) = false := by rfl)
    (hs2 : starEach [.Call (.Name "zip" p2) [a, b] [] pos2] X.env = (false, eval (.Call (.Name "zip" p2) [a, b] [] pos2) X.env) :: starEach [] X.env := by rfl) :
    SE X (.Call (.Name "list" p) [.Call (.Name "zip" p2) [a, b] [] pos2] [] pos) (mListZip ma mb) := PE.imp (pe_listZip hc hg hm hg2 hm2 (sa_cons ha (sa_cons hb sa_nil hs1) hs) hs hpl hs2) fun σ H Q h => by
  obtain ⟨cs, G, r, ρ', e1, rs, hm, k⟩ := h
  obtain ⟨⟨rv, ρ1⟩, h1, hm⟩ := Option.bind_eq_some_iff.mp hm
  refine ⟨cs, G, rv, ρ1, e1, rs, h1, fun cs1 ds vs G1 H1 f1 f2 fb f3 f4 rs1 st1 => ?_⟩
  subst f1; subst f2
  match rv, hm with
  | [r1, r2], hm =>
  obtain ⟨xs, hx, hm⟩ := Option.bind_eq_some_iff.mp hm
  obtain ⟨ys, hy, hm⟩ := Option.map_eq_some_iff.mp hm
  cases hm
  have ar := Args.of rs1 fb f3 f4
  obtain ⟨a1, ws1, g1, q1, p1⟩ := ar.lsv (i := 0) rfl hx
  obtain ⟨a2, ws2, g2, q2, p2⟩ := ar.lsv (i := 1) rfl hy
  have e := two_args ar.len g1 g2
  subst e
  refine ⟨a1, a2, ws1, ws2, rfl, q1, q2, fun ts q tl nd nn hq hqt => ?_⟩
  obtain ⟨r3, s3, m3, p3⟩ := newTs (A := own cs1) tl nd nn (reps_zip p1 p2) ar.res
  have fn := Fin.of k rfl rfl r3 ((st1.weak own_sub_right).trans s3)
  have ed : (List.zipWith (fun x y => [x, y]) xs ys).map D.tup = zipD xs ys := by
    unfold zipD
    rw [List.map_zipWith]
  rw [ed] at p3
  exact fn.l _ q _ rfl (by rw [updT_ne hqt]; exact hq) p3
@[simp] theorem r_listZip {ρ : List Sl} (a b : M) : mListZip a b ρ = (a ρ).bind fun x => (b x.2).bind fun y => (lsv y.2 x.1).bind fun xs => (lsv y.2 y.1).map fun zs => (.own (.ow (zipD xs zs)), y.2) := by
  unfold mListZip mZipA aCons aNil
  cases a ρ with
  | none => rfl
  | some x =>
    cases h : b x.2 with
    | none => simp [h]
    | some y => simp [h]
end
end
end FW

/-! a target of two targets: k, (a, b) -/
namespace FW
noncomputable section
open PySem L2
def gPair (g1 g2 : D → List Sl → Option (List Sl)) : D → List Sl → Option (List Sl) := fun d ρ => match d with
  | .tup [x, y] => (g1 x ρ).bind fun ρ' => g2 y ρ'
  | _ => none
section
variable {X : Cx} {t1 t2 : Expr} {pos : Pos} {P : Nat → Prop} {g1 g2 : D → List Sl → Option (List Sl)}
theorem sg_pair {kk : Nat} (hc : X.calm = true) (h1 : SG X P t1 g1) (h2 : SG X P t2 g2) (hn : (assignEach [t1, t2] X.env).length = 2 := by rfl) (hst : (assignEach [t1, t2] X.env).findIdx? (·.1) = none := by rfl)
    (ha : (assignEach [t1, t2] X.env).map (·.2) = assign t1 X.env :: (assignEach [t2] X.env).map (·.2) := by rfl) (hb : (assignEach [t2] X.env).map (·.2) = assign t2 X.env :: (assignEach [] X.env).map (·.2) := by rfl) :
    SG X P (.Tuple [t1, t2] kk pos) (gPair g1 g2) := PG.imp (pg_tup hc (pgs_cons h1 (pgs_cons h2 pgs_nil hb) ha) hn hst) fun v σ H Q h => by
  obtain ⟨cs, G, d, ρ', e1, rs, rp, hm, k⟩ := h
  unfold gPair at hm
  split at hm
  · rename_i x y
    obtain ⟨ρ1, m1, m2⟩ := Option.bind_eq_some_iff.mp hm
    cases rp with
    | tup q rr =>
      cases rr with
      | cons r1 rr =>
      cases rr with
      | cons r2 rr =>
      cases rr
      refine ⟨_, _, rfl, same_sqT rs.same q, rfl, _, _, rfl, cs, G, x, ρ1, e1, rs, r1, m1, fun cs' f1 f2 f3 f4 f5 => ⟨_, _, rfl, cs', G, y, ρ', rfl, f4, r2, by rw [f1]; exact m2, fun cs2 k1 k2 k3 k4 k5 => ⟨rfl, ?_⟩⟩⟩
      refine k cs2 k1 (by rw [k2, f2]) (fun j hj => ?_) k4 fun b hb => f5 b (k5 b hb)
      rw [k3 j hj, f3 j hj]
  · cases hm
end
@[simp] theorem r_gPair (g1 g2 : D → List Sl → Option (List Sl)) (x y : D) (ρ : List Sl) : gPair g1 g2 (.tup [x, y]) ρ = (g1 x ρ).bind fun ρ' => g2 y ρ' := rfl
end
end FW

/-! an expression whose result is frozen (one list passed twice) -/
namespace FW
noncomputable section
open PySem L2
def mFrz (a : M) : M := fun ρ => (a ρ).bind fun x => (frz1 x.2 x.1).map fun y => (.val y.1, y.2)
section
variable {X : Cx} {e : Expr} {ma : M}
theorem se_frz (ha : SE X e ma) : SE X e (mFrz ma) := PE.imp ha fun σ H Q h => by
  obtain ⟨cs, G, r, ρ', e1, rs, hm, k⟩ := h
  obtain ⟨⟨r1, ρ1⟩, h1, hm⟩ := Option.bind_eq_some_iff.mp hm
  obtain ⟨⟨d, ρ2⟩, h2, hm⟩ := Option.map_eq_some_iff.mp hm
  cases hm
  refine ⟨cs, G, r1, ρ1, e1, rs, h1, fun cs1 v B G1 H1 f1 f2 fb rs1 st1 => ?_⟩
  subst f1; subst f2
  obtain ⟨cs2, G2, g1, g2, rp, rs2, st2⟩ := frzA_ok (ds := [⟨some v, r1.sl, B⟩]) (vs := [v]) (rs := [r1]) rs1 ⟨fb, trivial⟩ rfl rfl (show frzA (slots cs1) [r1] = some ([d], ρ2) by unfold frzA; rw [h2]; rfl)
  cases rp with
  | cons rp _ => exact Kn.fz k g1 g2 rs2 (st1.trans st2) rp
end
@[simp] theorem r_frzE {ρ : List Sl} (a : M) : mFrz a ρ = (a ρ).bind fun x => (frz1 x.2 x.1).map fun y => (.val y.1, y.2) := rfl
end
end FW

/-! a look: an expression runs over frozen views of all slots, and the slots stay as they were -/
namespace FW
noncomputable section
open PySem L2
mutual
def Sl.flat : Sl → Bool
  | .fz d => (scV d).isSome
  | .ow xs => xs.all fun d => (scV d).isSome
  | .nl ss => flatL ss
  | .nt ss => flatL ss
  | _ => false
def flatL : List Sl → Bool
  | [] => true
  | s :: ss => s.flat && flatL ss
end
def Sl.peek (s : Sl) : Sl := match s.toD with
  | some d => .fz d
  | none => .no
abbrev pk (ρ : List Sl) : List Sl := ρ.map Sl.peek
section
variable {K : PySem.W.Frag} {mg : Str → Option Value} {G G' H H' : Hp} {cs : List Cl}
theorem Rep.isc {d : D} {v : V} (h : Rep K mg G d v) (e : (scV d).isSome = true) : Rep K mg G' d v := by
  obtain ⟨w, hw⟩ := Option.isSome_iff_exists.mp e
  have := h.sc hw
  subst this
  exact sc_rep hw
theorem Reps.isc : ∀ {ds : List D} {vs : List V}, Reps K mg G ds vs → (ds.all fun d => (scV d).isSome) = true → Reps K mg G' ds vs
  | _, _, .nil, _ => .nil
  | _, _, .cons h r, e => by
    rw [List.all_cons, Bool.and_eq_true] at e
    exact .cons (h.isc e.1) (r.isc e.2)
mutual
theorem Own.flat : ∀ {s : Sl} {v : V} {A : List Addr}, Own K mg G H s v A → s.flat = true → Own K mg G' H s v A
  | _, _, _, .fz h, e => .fz (h.isc (by unfold Sl.flat at e; exact e))
  | _, _, _, .ow h r, e => .ow h (r.isc (by unfold Sl.flat at e; exact e))
  | _, _, _, .dk h r, e => by unfold Sl.flat at e; cases e
  | _, _, _, .ob m h r, e => by unfold Sl.flat at e; cases e
  | _, _, _, .nl h r, e => .nl h (OwnL.flat r (by unfold Sl.flat at e; exact e))
  | _, _, _, .nt h r, e => .nt h (OwnL.flat r (by unfold Sl.flat at e; exact e))
theorem OwnL.flat : ∀ {s : List Sl} {v : List V} {A : List Addr}, OwnL K mg G H s v A → flatL s = true → OwnL K mg G' H s v A
  | _, _, _, .nil, _ => .nil
  | _, _, _, .cons h r, e => by
    unfold flatL at e
    rw [Bool.and_eq_true] at e
    exact .cons (Own.flat h e.1) (OwnL.flat r e.2)
end
/-- the frozen views -/
theorem Res.peek (rs : Res K mg G H cs) : ∃ csf, vals csf = vals cs ∧ slots csf = pk (slots cs) ∧ own csf = [] ∧ Res K mg (ice G H (own cs)) H csf := by
  have ow : own (cs.map fun c => (⟨c.v, c.s.peek, []⟩ : Cl)) = [] := by
    unfold own
    rw [List.flatMap_map]
    simp
  refine ⟨cs.map fun c => ⟨c.v, c.s.peek, []⟩, by simp [vals], by simp [slots, pk], ow, ?_⟩
  have sG := ice_same rs.same (own cs) rs.fr
  refine ⟨ice_sub rs.same _, fun c hc => ?_, by rw [ow]; exact List.nodup_nil, fun a ha => by (rw [ow] at ha; cases ha), rs.tab.step sG (fun b ps e => by
    unfold ice at e
    split at e
    · rename_i hb; exact rs.noTbl b hb ps e
    · exact rs.tab.gt b ps e) fun _ _ e => e⟩
  obtain ⟨c0, h0, e0⟩ := List.mem_map.mp hc
  subst e0
  rcases rs.ok c0 h0 with ⟨z1, z2⟩ | ⟨v, hv, o⟩
  · refine .inl ⟨?_, rfl⟩
    show c0.s.peek = .no
    rw [z1]; simp [Sl.peek, Sl.toD]
  · unfold Sl.peek
    cases e : c0.s.toD with
    | none => exact .inl ⟨rfl, rfl⟩
    | some d => exact .inr ⟨v, hv, .fz (Own.toD sG o e fun a ha u q => by
        unfold ice
        rw [if_pos (mem_own.mpr ⟨c0, h0, ha⟩)]
        exact q)⟩
/-- what the world is behind a look -/
theorem Res.looked (rs : Res K mg G H cs) {A' : List Addr} {es : List Cl} (st' : Stp [] (ice G H (own cs)) H A' G' H') (rs' : Res K mg G' H' es) : ∃ G2, Res K mg G2 H' cs ∧ Stp (own cs) G H (own cs) G2 H' ∧ ∀ b, H b = none → G2 b = G' b := by
  have nG : ∀ b, H b = none → G b = none := fun b h => rs.same.free h
  have kp : ∀ b o, H b = some o → (∀ ps, o ≠ .tbl ps) → H' b = some o := fun b o q n => st'.keep b o (by simp) q n
  have sG : Same G (fun b => match G b with | some o => some o | none => if H b = none then G' b else none) := fun b o q => by
    show (match G b with | some o => some o | none => _) = _
    rw [q]
  refine ⟨fun b => match G b with | some o => some o | none => if H b = none then G' b else none, ⟨fun b o q => ?_, fun c hc => (rs.ok c hc).frame sG fun a _ o q n => kp a o q n, rs.nd, fun a ha => ?_, fun b ps e => ?_, fun x hx P hP => ?_⟩, ⟨fun b o _ q n => kp b o q n, sG, fun b _ hb => ?_, st'.live, fun _ h => .inl h⟩, fun b hb => ?_⟩
  · have q : (match G b with | some o => some o | none => if H b = none then G' b else none) = some o := q
    split at q
    · rename_i o' e
      cases q
      exact kp b o (rs.same b o e) fun ps z => rs.tab.gt b ps (by rw [e, z])
    · split at q
      · exact rs'.same b o q
      · cases q
  · show (match G a with | some o => some o | none => if H a = none then G' a else none) = none
    rw [rs.fr a ha]
    exact if_neg (rs.there a ha)
  · have e : (match G b with | some o => some o | none => if H b = none then G' b else none) = some (.tbl ps) := e
    split at e
    · rename_i o' e2
      cases e
      exact rs.tab.gt b ps e2
    · split at e
      · exact rs'.tab.gt b ps e
      · cases e
  · obtain ⟨ps, h1, h2, h3⟩ := rs'.tab.tat x hx P hP
    refine ⟨ps, h1, h2, fun pos cv e => ?_⟩
    obtain ⟨c, e1, e2⟩ := h3 pos cv e
    refine ⟨c, e1, ?_⟩
    show (match G c with | some o => some o | none => if H c = none then G' c else none) = _
    by_cases hc : H c = none
    · rw [nG c hc, if_pos hc]; exact e2
    · have q := st'.gn c (by simp) hc
      rw [e2] at q
      unfold ice at q
      split at q
      · rename_i hm
        exact absurd q.symm (rs.noExt c hm _)
      · rw [← q]
  · show (match G b with | some o => some o | none => if H b = none then G' b else none) = G b
    cases e : G b with
    | some o => rfl
    | none => exact if_neg hb
  · show (match G b with | some o => some o | none => if H b = none then G' b else none) = _
    rw [nG b hb, if_pos hb]
/-- a look whose result is new and stands alone -/
theorem tM_look {m : M} {r : Rv} {ρ1 : List Sl} {Q : VK} (rs : Res K mg G H cs) (hm : m (pk (slots cs)) = some (r, ρ1)) (hr : ∀ j, r ≠ .bor j) (hf : r.sl.flat = true)
    (k : ∀ v B G2 H', (∀ b o, H b = some o → (∀ ps, o ≠ .tbl ps) → H' b = some o) → (∀ b ∈ B, H b = none) → Res K mg G2 H' (⟨some v, r.sl, B⟩ :: cs) → Stp (own cs) G H (own (⟨some v, r.sl, B⟩ :: cs)) G2 H' → Q v H') : tM K mg m (vals cs) H Q := by
  obtain ⟨csf, e1, e2, e3, rf⟩ := rs.peek
  refine ⟨csf, _, r, ρ1, e1, rf, by rw [e2]; exact hm, fun cs' v B G' H' f1 f2 fb rs' st' => ?_⟩
  have keep : ∀ b o, H b = some o → (∀ ps, o ≠ .tbl ps) → H' b = some o := fun b o q n => st'.keep b o (by rw [e3]; simp) q n
  rw [e3] at st'
  obtain ⟨G2, r2, s0, g2n⟩ := rs.looked st' rs'
  have hB : ∀ b ∈ B, H b = none := fun b hb => (st'.sub b (by rw [own_cons]; exact List.mem_append_left _ hb)).elim (fun z => by cases z) id
  have nB : B.Nodup := by
    have n := rs'.nd
    rw [own_cons] at n
    exact (List.nodup_append.mp n).1
  refine k v B G2 H' keep hB ⟨r2.same, fun c hc => ?_, ?_, fun a ha => ?_, r2.tab⟩ ?_
  · rcases List.mem_cons.mp hc with z | z
    · subst z
      rcases rs'.h1 with ⟨z1, z2⟩ | ⟨w, hw, o⟩
      · exact .inl ⟨z1, z2⟩
      · exact .inr ⟨w, hw, Own.flat o hf⟩
    · exact r2.ok c z
  · rw [own_cons]
    refine List.nodup_append.mpr ⟨nB, rs.nd, fun a ha b hb e => ?_⟩
    subst e
    exact rs.there a hb (hB a ha)
  · rw [own_cons] at ha
    rcases List.mem_append.mp ha with z | z
    · rw [g2n a (hB a z)]; exact rs'.fr a (by rw [own_cons]; exact List.mem_append_left _ z)
    · exact r2.fr a z
  · refine ⟨s0.keep, s0.gs, s0.gn, s0.live, fun b hb => ?_⟩
    rw [own_cons] at hb
    rcases List.mem_append.mp hb with z | z
    · exact .inr (hB b z)
    · exact .inl z
/-- a look at a scalar -/
theorem tM_lookS {m : M} {d : D} {u : V} {ρ1 : List Sl} {Q : VK} (rs : Res K mg G H cs) (hm : m (pk (slots cs)) = some (.val d, ρ1)) (hd : scV d = some u)
    (k : ∀ G2 H', (∀ b o, H b = some o → (∀ ps, o ≠ .tbl ps) → H' b = some o) → Res K mg G2 H' cs → Stp (own cs) G H (own cs) G2 H' → Q u H') : tM K mg m (vals cs) H Q := by
  obtain ⟨csf, e1, e2, e3, rf⟩ := rs.peek
  refine ⟨csf, _, .val d, ρ1, e1, rf, by rw [e2]; exact hm, fun cs' v B G' H' f1 f2 fb rs' st' => ?_⟩
  have keep : ∀ b o, H b = some o → (∀ ps, o ≠ .tbl ps) → H' b = some o := fun b o q n => st'.keep b o (by rw [e3]; simp) q n
  rw [e3] at st'
  obtain ⟨G2, r2, s0, g2n⟩ := rs.looked st' rs'
  obtain ⟨rp, _⟩ := rs'.val
  have := rp.sc hd
  subst this
  exact k G2 H' keep r2 s0
/-- a look at scalar arguments -/
def scR : List Rv → Option (List D)
  | [] => some []
  | .val d :: rs => if (scV d).isSome = true then (scR rs).map (d :: ·) else none
  | _ => none
theorem scR_vals : ∀ {rs : List Rv} {ds : List D} {vs : List V} {cs : List Cl}, scR rs = some ds → vals cs = vs.map some → slots cs = rs.map Rv.sl → (∀ c ∈ cs, ClR K mg G H c) → Reps K mg G' ds vs
  | [], ds, vs, cs, e, h1, h2, ok => by
    cases e
    have : cs = [] := by cases cs <;> simp [slots] at h2 ⊢
    subst this
    have : vs = [] := by cases vs <;> simp [vals] at h1 ⊢
    subst this
    exact .nil
  | .val d :: rs, ds, vs, cs, e, h1, h2, ok => by
    unfold scR at e
    split at e
    · rename_i hs
      obtain ⟨ds', e1, e2⟩ := Option.map_eq_some_iff.mp e
      subst e2
      cases cs with
      | nil => simp [slots] at h2
      | cons c cs =>
        cases vs with
        | nil => simp [vals] at h1
        | cons v vs =>
          obtain ⟨cv, cS, cA⟩ := c
          simp only [vals, slots, List.map_cons, List.cons.injEq] at h1 h2
          obtain ⟨q1, h1⟩ := h1
          obtain ⟨q2, h2⟩ := h2
          subst q1; subst q2
          refine .cons ?_ (scR_vals e1 h1 h2 fun c hc => ok c (by simp [hc]))
          rcases ok _ (List.mem_cons_self) with ⟨z, _⟩ | ⟨w, hw, o⟩
          · cases z
          · have hw : some v = some w := hw
            cases hw
            have o : Own K mg G H (.fz d) v cA := o
            cases o with
            | fz rp => exact rp.isc hs
    · cases e
  | .own s :: rs, ds, vs, cs, e, h1, h2, ok => by unfold scR at e; cases e
  | .bor s :: rs, ds, vs, cs, e, h1, h2, ok => by unfold scR at e; cases e
theorem tMA_look {ms : MA} {rs0 : List Rv} {ds : List D} {ρ1 : List Sl} {Q : List V → Hp → Prop} (rs : Res K mg G H cs) (hm : ms (pk (slots cs)) = some (rs0, ρ1)) (hd : scR rs0 = some ds)
    (k : ∀ us G2 H', (∀ G', Reps K mg G' ds us) → (∀ b o, H b = some o → (∀ ps, o ≠ .tbl ps) → H' b = some o) → Res K mg G2 H' cs → Stp (own cs) G H (own cs) G2 H' → Q us H') : tMA K mg ms (vals cs) H Q := by
  obtain ⟨csf, e1, e2, e3, rf⟩ := rs.peek
  refine ⟨csf, _, rs0, ρ1, e1, rf, by rw [e2]; exact hm, fun cs' dd vs G' H' f1 f2 fb g1 g2 rs' st' => ?_⟩
  have keep : ∀ b o, H b = some o → (∀ ps, o ≠ .tbl ps) → H' b = some o := fun b o q n => st'.keep b o (by rw [e3]; simp) q n
  rw [e3] at st'
  obtain ⟨G2, r2, s0, g2n⟩ := rs.looked st' rs'
  exact k vs G2 H' (fun G'' => scR_vals hd g1 g2 fun c hc => rs'.ok c (List.mem_append_left _ hc)) keep r2 s0
end
section
variable {X : Cx} {e : Expr} {ma : M} {mt : MT}
def mPeek (m : M) : M := fun ρ => (m (pk ρ)).bind fun x => match x.1 with
  | .bor _ => none
  | r => if r.sl.flat = true then some (r, ρ) else none
theorem mPeek_some {m : M} {ρ ρ' : List Sl} {r : Rv} (h : mPeek m ρ = some (r, ρ')) : ρ' = ρ ∧ r.sl.flat = true ∧ (∀ j, r ≠ .bor j) ∧ ∃ ρ1, m (pk ρ) = some (r, ρ1) := by
  obtain ⟨⟨r1, ρ1⟩, h1, h⟩ := Option.bind_eq_some_iff.mp h
  cases r1 with
  | bor j => cases h
  | val d =>
    dsimp only at h
    split at h
    · cases h; exact ⟨rfl, by assumption, fun j z => (nomatch z), ρ1, h1⟩
    · cases h
  | own d =>
    dsimp only at h
    split at h
    · cases h; exact ⟨rfl, by assumption, fun j z => (nomatch z), ρ1, h1⟩
    · cases h
theorem se_peek (ha : SE X e ma) : SE X e (mPeek ma) := PE.imp ha fun σ H Q h => by
  obtain ⟨cs, G, r, ρ', e1, rs, hm, k⟩ := h
  obtain ⟨rfl, hf, hb, ρ1, h1⟩ := mPeek_some hm
  subst e1
  exact tM_look rs h1 hb hf fun v B G2 H' keep hB rs' st' => k cs v B G2 H' rfl rfl (fun j hj => absurd hj (hb j)) rs' st'
def tPeek (m : MT) : MT := fun ρ => (m (pk ρ)).map fun x => (x.1, ρ)
theorem st_peek (ha : STe X e mt) : STe X e (tPeek mt) := PT.imp ha fun σ H Q h => by
  obtain ⟨cs, G, b, ρ', e1, rs, hm, k⟩ := h
  obtain ⟨⟨b1, ρ1⟩, h1, hm⟩ := Option.map_eq_some_iff.mp hm
  cases hm
  subst e1
  obtain ⟨csf, e1, e2, e3, rf⟩ := rs.peek
  refine ⟨csf, _, b1, ρ1, e1, rf, by rw [e2]; exact h1, fun cs' G' H' f1 f2 rs' st' => ?_⟩
  have keep : ∀ b o, H b = some o → (∀ ps, o ≠ .tbl ps) → H' b = some o := fun b o q n => st'.keep b o (by rw [e3]; simp) q n
  rw [e3] at st'
  obtain ⟨G2, r2, s0, g2n⟩ := rs.looked st' rs'
  exact k cs G2 H' rfl rfl r2 s0
end
/-! running -/
@[simp] theorem r_peek {ρ : List Sl} (a : M) : mPeek a ρ = (a (pk ρ)).bind fun x => match x.1 with
  | .bor _ => none
  | r => if r.sl.flat = true then some (r, ρ) else none := rfl
@[simp] theorem r_tpeek {ρ : List Sl} (a : MT) : tPeek a ρ = (a (pk ρ)).map fun x => (x.1, ρ) := rfl
@[simp] theorem pk_no : Sl.peek .no = .no := by simp [Sl.peek, Sl.toD]
@[simp] theorem pk_fz (d : D) : Sl.peek (.fz d) = .fz d := by simp [Sl.peek, Sl.toD]
@[simp] theorem pk_ow (xs : List D) : Sl.peek (.ow xs) = .fz (.lst xs) := by simp [Sl.peek, Sl.toD]
@[simp] theorem pk_dk (xs : List (Key × D)) : Sl.peek (.dk xs) = .fz (.dct xs) := by simp [Sl.peek, Sl.toD]
theorem toDL_ows : ∀ (xss : List (List D)), toDL (xss.map Sl.ow) = some (xss.map D.lst)
  | [] => by simp [toDL]
  | x :: xs => by simp [toDL, Sl.toD, toDL_ows xs]
@[simp] theorem toD_nls (xss : List (List D)) : Sl.toD (.nl (xss.map Sl.ow)) = some (.lst (xss.map D.lst)) := by simp [Sl.toD, toDL_ows]
@[simp] theorem pk_nls (xss : List (List D)) : Sl.peek (.nl (xss.map Sl.ow)) = .fz (.lst (xss.map D.lst)) := by simp [Sl.peek]
@[simp] theorem pk_nl0 : Sl.peek (.nl []) = .fz (.lst []) := by simp [Sl.peek, Sl.toD, toDL]
@[simp] theorem fl_fz (d : D) : Sl.flat (.fz d) = (scV d).isSome := by unfold Sl.flat; rfl
@[simp] theorem fl_ow (xs : List D) : Sl.flat (.ow xs) = xs.all fun d => (scV d).isSome := by unfold Sl.flat; rfl
@[simp] theorem fl_nl (xs : List Sl) : Sl.flat (.nl xs) = flatL xs := by unfold Sl.flat; rfl
@[simp] theorem fl_nt (xs : List Sl) : Sl.flat (.nt xs) = flatL xs := by unfold Sl.flat; rfl
@[simp] theorem fl_ints (ns : List Int) : ((ns.map D.int).all fun d => (scV d).isSome) = true := by simp [scV]
theorem flatL_iff : ∀ {ss : List Sl}, flatL ss = true ↔ ∀ s ∈ ss, s.flat = true
  | [] => by simp [flatL]
  | s :: ss => by simp [flatL, flatL_iff (ss := ss)]
end
end FW

/-! lists and tuples that own what they hold -/
namespace FW
noncomputable section
open PySem L2
section
variable {K : PySem.W.Frag} {mg : Str → Option Value} {G G' H H' : Hp} {cs ds : List Cl}
theorem OwnL.cells : ∀ {ss : List Sl} {vs : List V} {As : List Addr}, OwnL K mg G H ss vs As → ∃ ds : List Cl, vals ds = vs.map some ∧ slots ds = ss ∧ own ds = As ∧ ∀ c ∈ ds, ClR K mg G H c
  | _, _, _, .nil => ⟨[], rfl, rfl, rfl, fun _ h => nomatch h⟩
  | _, _, _, .cons (s := s) (v := v) (A := A) h r => by
    obtain ⟨ds, e1, e2, e3, e4⟩ := OwnL.cells r
    refine ⟨⟨some v, s, A⟩ :: ds, by simp only [vals, List.map_cons] at e1 ⊢; rw [e1], by simp only [slots, List.map_cons] at e2 ⊢; rw [e2], by rw [own_cons, e3], fun c hc => ?_⟩
    rcases List.mem_cons.mp hc with z | z
    · subst z; exact .inr ⟨v, rfl, h⟩
    · exact e4 c z
theorem cells_ownL : ∀ {ds : List Cl} {vs : List V}, vals ds = vs.map some → (∀ c ∈ ds, ClR K mg G H c) → (∀ c ∈ ds, c.s ≠ .no) → OwnL K mg G H (slots ds) vs (own ds)
  | [], vs, e, _, _ => by
    have : vs = [] := by cases vs <;> simp [vals] at e ⊢
    subst this
    exact .nil
  | c :: ds, vs, e, h, n => by
    cases vs with
    | nil => simp [vals] at e
    | cons v vs =>
      simp only [vals, List.map_cons, List.cons.injEq] at e
      rw [own_cons]
      exact .cons ((h c (by simp)).own e.1 rfl (n c (by simp))) (cells_ownL e.2 (fun c hc => h c (by simp [hc])) fun c hc => n c (by simp [hc]))
/-- what is new is packed into a new object -/
theorem Res.pack {p : Addr} {o : HO} {s : Sl} {vs : List V} (h : Res K mg G H (ds ++ cs)) (e1 : vals ds = vs.map some) (hn : ∀ c ∈ ds, c.s ≠ .no) (hp : H p = none)
    (hO : ∀ H', H' p = some o → OwnL K mg G H' (slots ds) vs (own ds) → Own K mg G H' s (.ref p) (p :: own ds)) :
    Res K mg G (upd H p o) (⟨some (.ref p), s, p :: own ds⟩ :: cs) ∧ Stp (own (ds ++ cs)) G H (own (⟨some (.ref p), s, p :: own ds⟩ :: cs)) G (upd H p o) := by
  have k := h.keepH (o := o) hp
  refine ⟨⟨k.same, fun c hc => ?_, ?_, fun a ha => ?_, k.tab⟩, (Stp.alloc hp).weak fun b hb => ?_⟩
  · rcases List.mem_cons.mp hc with z | z
    · subst z
      exact .inr ⟨_, rfl, hO _ upd_same (cells_ownL e1 (fun c hc => k.ok c (List.mem_append_left _ hc)) hn)⟩
    · exact k.ok c (List.mem_append_right _ z)
  · rw [own_cons]
    show (p :: (own ds ++ own cs)).Nodup
    rw [← own_append]
    exact List.nodup_cons.mpr ⟨fun z => h.there p z hp, h.nd⟩
  · rw [own_cons] at ha
    have ha : a ∈ p :: (own ds ++ own cs) := ha
    rw [← own_append] at ha
    rcases List.mem_cons.mp ha with z | z
    · subst z; exact h.same.free hp
    · exact h.fr a z
  · rw [own_cons] at hb
    have hb : b ∈ p :: (own ds ++ own cs) := hb
    rw [← own_append] at hb
    exact hb
/-- an owning list is opened: its items stand as cells, the list itself goes -/
theorem Res.opened {v : V} {ss : List Sl} {A : List Addr} (h : Res K mg G H (⟨some v, .nl ss, A⟩ :: cs)) :
    ∃ a ws ds, v = .ref a ∧ H a = some (.lst ws) ∧ vals ds = ws.map some ∧ slots ds = ss ∧ Res K mg G H (ds ++ cs) ∧ Stp (own (⟨some v, .nl ss, A⟩ :: cs)) G H (own (ds ++ cs)) G H := by
  have o : Own K mg G H (.nl ss) v A := h.h1.own rfl rfl (by simp)
  cases o with
  | nl q r =>
    rename_i a0 vs0 As0
    obtain ⟨ds, e1, e2, e3, e4⟩ := r.cells
    have n := h.nd
    rw [own_cons] at n
    have sub : ∀ b ∈ own (ds ++ cs), b ∈ own (⟨some (.ref a0), .nl ss, a0 :: As0⟩ :: cs) := fun b hb => by
      rw [own_append, e3] at hb
      rw [own_cons]
      rcases List.mem_append.mp hb with z | z
      · exact List.mem_append_left _ (List.mem_cons_of_mem _ z)
      · exact List.mem_append_right _ z
    refine ⟨_, _, ds, rfl, q, e1, e2, ⟨h.same, fun c hc => ?_, ?_, fun a ha => h.fr a (sub a ha), h.tab⟩, Stp.refl.weak sub⟩
    · rcases List.mem_append.mp hc with z | z
      · exact e4 c z
      · exact h.tail.ok c z
    · rw [own_append, e3]
      exact (List.nodup_cons.mp n).2
theorem Res.openedT {v : V} {ss : List Sl} {A : List Addr} (h : Res K mg G H (⟨some v, .nt ss, A⟩ :: cs)) :
    ∃ a ws ds, v = .ref a ∧ H a = some (.tup ws) ∧ vals ds = ws.map some ∧ slots ds = ss ∧ Res K mg G H (ds ++ cs) ∧ Stp (own (⟨some v, .nt ss, A⟩ :: cs)) G H (own (ds ++ cs)) G H := by
  have o : Own K mg G H (.nt ss) v A := h.h1.own rfl rfl (by simp)
  cases o with
  | nt q r =>
    rename_i a0 vs0 As0
    obtain ⟨ds, e1, e2, e3, e4⟩ := r.cells
    have n := h.nd
    rw [own_cons] at n
    have sub : ∀ b ∈ own (ds ++ cs), b ∈ own (⟨some (.ref a0), .nt ss, a0 :: As0⟩ :: cs) := fun b hb => by
      rw [own_append, e3] at hb
      rw [own_cons]
      rcases List.mem_append.mp hb with z | z
      · exact List.mem_append_left _ (List.mem_cons_of_mem _ z)
      · exact List.mem_append_right _ z
    refine ⟨_, _, ds, rfl, q, e1, e2, ⟨h.same, fun c hc => ?_, ?_, fun a ha => h.fr a (sub a ha), h.tab⟩, Stp.refl.weak sub⟩
    · rcases List.mem_append.mp hc with z | z
      · exact e4 c z
      · exact h.tail.ok c z
    · rw [own_append, e3]
      exact (List.nodup_cons.mp n).2
/-- one of the cells ahead is kept, the others go -/
theorem Res.pick {j : Nat} {c : Cl} (h : Res K mg G H (ds ++ cs)) (e : ds[j]? = some c) : Res K mg G H (c :: cs) ∧ ∀ b ∈ own (c :: cs), b ∈ own (ds ++ cs) := by
  obtain ⟨l1, l2, rfl, hl⟩ := split_at e
  have p : List.Perm (l1 ++ c :: l2 ++ cs) ((l1 ++ l2) ++ (c :: cs)) := by
    rw [List.append_assoc, List.append_assoc]
    refine List.Perm.append_left _ ?_
    show List.Perm (c :: (l2 ++ cs)) (l2 ++ c :: cs)
    exact List.perm_middle.symm
  refine ⟨(h.perm p).right, fun b hb => (own_perm p).mem_iff.mpr (own_sub_right b hb)⟩
theorem OwnL.append : ∀ {ss : List Sl} {vs : List V} {As : List Addr} {ss' : List Sl} {vs' : List V} {Bs : List Addr}, OwnL K mg G H ss vs As → OwnL K mg G H ss' vs' Bs → OwnL K mg G H (ss ++ ss') (vs ++ vs') (As ++ Bs)
  | _, _, _, _, _, _, .nil, r => r
  | _, _, _, _, _, _, .cons h r, q => by
    rw [List.append_assoc]
    exact .cons h (r.append q)
theorem OwnL.length : ∀ {ss : List Sl} {vs : List V} {As : List Addr}, OwnL K mg G H ss vs As → vs.length = ss.length
  | _, _, _, .nil => rfl
  | _, _, _, .cons h r => by simp [r.length]
/-- an item more -/
theorem Res.push {a : Addr} {v : V} {ss : List Sl} {s : Sl} {A B : List Addr} (h : Res K mg G H (⟨some (.ref a), .nl ss, A⟩ :: ⟨some v, s, B⟩ :: cs)) (hs : s ≠ .no) :
    ∃ ws As, A = a :: As ∧ H a = some (.lst ws) ∧ ws.length = ss.length ∧ Res K mg G (upd H a (.lst (ws ++ [v]))) (⟨some (.ref a), .nl (ss ++ [s]), a :: (As ++ B)⟩ :: cs) ∧
      Stp (own (⟨some (.ref a), .nl ss, A⟩ :: ⟨some v, s, B⟩ :: cs)) G H (own (⟨some (.ref a), .nl (ss ++ [s]), a :: (As ++ B)⟩ :: cs)) G (upd H a (.lst (ws ++ [v]))) := by
  have o : Own K mg G H (.nl ss) (.ref a) A := h.h1.own rfl rfl (by simp)
  have o2 : Own K mg G H s v B := h.h2.own rfl rfl hs
  cases o with
  | nl q r =>
    rename_i ws As
    have n := h.nd
    have en : own ((⟨some (.ref a), .nl ss, a :: As⟩ : Cl) :: ⟨some v, s, B⟩ :: cs) = a :: (As ++ (B ++ own cs)) := by rw [own_cons, own_cons]; rfl
    have en2 : own ((⟨some (.ref a), .nl (ss ++ [s]), a :: (As ++ B)⟩ : Cl) :: cs) = a :: (As ++ (B ++ own cs)) := by rw [own_cons]; simp
    rw [en] at n
    have na := (List.nodup_cons.mp n).1
    have kp : ∀ b, b ≠ a → ∀ u, H b = some u → upd H a (.lst (ws ++ [v])) b = some u := fun b hb u e => by rw [upd_ne hb]; exact e
    refine ⟨ws, As, rfl, q, r.length, ⟨fun b u e => ?_, fun c hc => ?_, by rw [en2]; exact n, fun b hb => h.fr b (by rw [en]; rw [en2] at hb; exact hb), h.tab.upd (h.noTbl a (by rw [en]; simp))⟩, fun b u hb e _ => ?_, fun _ _ e => e, fun _ _ _ => rfl, fun b hb => ?_, fun b hb => .inl (by rw [en]; rw [en2] at hb; exact hb)⟩
    · have nb : b ≠ a := fun z => by
        have := h.fr a (by rw [en]; simp)
        rw [z, this] at e; cases e
      exact kp b nb u (h.same b u e)
    · rcases List.mem_cons.mp hc with z | z
      · subst z
        refine .inr ⟨_, rfl, .nl upd_same (OwnL.append (r.frame (fun _ _ e => e) fun b hb u e _ => kp b (fun z => na (by rw [← z]; simp [hb])) u e) ?_)⟩
        have := o2.frame (H' := upd H a (.lst (ws ++ [v]))) (G' := G) (fun _ _ e => e) fun b hb u e _ => kp b (fun z => na (by rw [← z]; simp [hb])) u e
        have t := OwnL.cons this .nil
        rwa [List.append_nil] at t
      · exact (h.tail.tail.ok c z).frame (fun _ _ e => e) fun b hb u e _ => kp b (fun y => na (by rw [← y]; exact List.mem_append_right _ (List.mem_append_right _ (mem_own.mpr ⟨c, z, hb⟩)))) u e
    · exact kp b (fun z => hb (by rw [en, z]; simp)) u e
    · by_cases z : b = a
      · rw [z, upd_same]; simp
      · rw [upd_ne z]; exact hb
/-- an item that is a list is written -/
theorem OwnL.item : ∀ {ss : List Sl} {vs : List V} {As : List Addr} {j : Nat} {xs : List D}, OwnL K mg G H ss vs As → As.Nodup → ss[j]? = some (.ow xs) →
    ∃ b ws, vs[j]? = some (.ref b) ∧ b ∈ As ∧ H b = some (.lst ws) ∧ Reps K mg G xs ws ∧ ∀ xs' ws', Reps K mg G xs' ws' → OwnL K mg G (upd H b (.lst ws')) (ss.set j (.ow xs')) vs As
  | _, _, _, j, xs, .nil, n, e => by simp at e
  | _, _, _, 0, xs, .cons (s := s0) (ss := ss) (vs := vs) h r, n, e => by
    have e : s0 = Sl.ow xs := by simpa using e
    subst e
    cases h with
    | ow q rp =>
      rename_i a ws
      refine ⟨a, ws, rfl, by simp, q, rp, fun xs' ws' hr => .cons (.ow upd_same hr) (r.frame (fun _ _ e => e) fun b hb u e _ => ?_)⟩
      rw [upd_ne fun z => (List.nodup_cons.mp n).1 (by rw [← z]; exact hb)]
      exact e
  | _, _, _, j + 1, xs, .cons (A := A) (As := As) h r, n, e => by
    obtain ⟨b, ws, e1, e2, e3, e4, e5⟩ := OwnL.item (j := j) r (List.nodup_append.mp n).2.1 (by simpa using e)
    refine ⟨b, ws, by simpa using e1, List.mem_append_right _ e2, e3, e4, fun xs' ws' hr => .cons (h.frame (fun _ _ e => e) fun c hc u e _ => ?_) (e5 xs' ws' hr)⟩
    rw [upd_ne fun z => (List.nodup_append.mp n).2.2 c hc b e2 z]
    exact e
theorem nl_cell {i : Nat} {ss : List Sl} (h : Res K mg G H cs) (e : (slots cs)[i]? = some (.nl ss)) :
    ∃ a ws As, cs[i]? = some ⟨some (.ref a), .nl ss, a :: As⟩ ∧ (vals cs)[i]? = some (some (.ref a)) ∧ H a = some (.lst ws) ∧ OwnL K mg G H ss ws As ∧ (a :: As).Nodup ∧ ∀ b ∈ a :: As, G b = none := by
  obtain ⟨⟨o, s', A⟩, e5, e6⟩ := cell_at e
  have e6 : s' = .nl ss := e6
  subst e6
  rcases h.ok _ (List.mem_of_getElem? e5) with ⟨z, _⟩ | ⟨v, hv, o'⟩
  · cases z
  · have hv : o = some v := hv
    subst hv
    have o' : Own K mg G H (.nl ss) v A := o'
    have nd : A.Nodup := by
      obtain ⟨l1, l2, el, _⟩ := split_at e5
      have n := h.nd
      rw [el, own_append, own_cons] at n
      exact (List.nodup_append.mp (List.nodup_append.mp n).2.1).1
    have fr : ∀ b ∈ A, G b = none := fun b hb => h.fr b (mem_own.mpr ⟨_, List.mem_of_getElem? e5, hb⟩)
    cases o' with
    | nl q r => exact ⟨_, _, _, e5, by rw [List.getElem?_map, e5]; rfl, q, r, nd, fr⟩
end

section
variable {X : Cx} {a b e o tg elt iter : Expr} {es : List Expr} {ma mb mi : M} {ms : MA} {pos p2 cpos apos spos : Pos} {K : PySem.W.Frag} {mg : Str → Option Value} {P : Nat → Prop} {st : Stmt} {rest : List Stmt} {sa sb : MS} {js : List Nat}
/-- results that own what they are -/
def ownA : List Rv → Option (List Sl)
  | [] => some []
  | .val d :: rs => (ownA rs).map (.fz d :: ·)
  | .own s :: rs => match s with
    | .no => none
    | s => (ownA rs).map (s :: ·)
  | .bor _ :: _ => none
theorem ownA_ok : ∀ {rs : List Rv} {ss : List Sl}, ownA rs = some ss → rs.map Rv.sl = ss ∧ ∀ s ∈ ss, s ≠ .no
  | [], ss, e => by cases e; exact ⟨rfl, fun _ h => nomatch h⟩
  | .val d :: rs, ss, e => by
    unfold ownA at e
    obtain ⟨ss', e1, e2⟩ := Option.map_eq_some_iff.mp e
    subst e2
    obtain ⟨h1, h2⟩ := ownA_ok e1
    refine ⟨by rw [List.map_cons, h1]; rfl, fun s hs => ?_⟩
    rcases List.mem_cons.mp hs with z | z
    · subst z; simp
    · exact h2 s z
  | .own s0 :: rs, ss, e => by
    unfold ownA at e
    split at e
    · cases e
    · rename_i hn
      obtain ⟨ss', e1, e2⟩ := Option.map_eq_some_iff.mp e
      subst e2
      obtain ⟨h1, h2⟩ := ownA_ok e1
      refine ⟨by rw [List.map_cons, h1]; rfl, fun s hs => ?_⟩
      rcases List.mem_cons.mp hs with z | z
      · subst z; exact fun q => hn q
      · exact h2 s z
  | .bor _ :: rs, ss, e => by unfold ownA at e; cases e
def mLstO (ms : MA) : M := fun ρ => (ms ρ).bind fun y => (ownA y.1).bind fun ss => @ite _ (ss.length ≤ sizeLine) (Classical.propDecidable _) (some (.own (.nl ss), y.2)) none
def mTupO (ms : MA) : M := fun ρ => (ms ρ).bind fun y => (ownA y.1).bind fun ss => @ite _ (ss.length ≤ sizeLine) (Classical.propDecidable _) (some (.own (.nt ss), y.2)) none
theorem vals_len {ds : List Cl} {vs : List V} (e : vals ds = vs.map some) : vs.length = (slots ds).length := by
  have := congrArg List.length e
  simp only [vals, slots, List.length_map] at this ⊢
  exact this.symm
theorem se_lstO (h : SA X es ms) : SE X (.List es pos) (mLstO ms) := PE.imp (pe_lst h) fun σ H Q h => by
  obtain ⟨cs, G, r, ρ', e1, rs, hm, k⟩ := h
  obtain ⟨⟨r1, ρ1⟩, h1, hm⟩ := Option.bind_eq_some_iff.mp hm
  obtain ⟨ss, h2, hm⟩ := Option.bind_eq_some_iff.mp hm
  split at hm
  · rename_i hl
    cases hm
    refine ⟨cs, G, r1, ρ1, e1, rs, h1, fun cs1 ds vs G1 H1 f1 f2 fb f3 f4 rs1 st1 => ?_⟩
    obtain ⟨q1, q2⟩ := ownA_ok h2
    have e4 : slots ds = ss := f4.trans q1
    refine ⟨by rw [vals_len f3, e4]; exact hl, fun p hp => ?_⟩
    obtain ⟨rs2, st2⟩ := rs1.pack (o := .lst vs) (s := .nl ss) f3 (fun c hc => q2 _ (by rw [← e4]; exact List.mem_map_of_mem hc)) hp (fun H' z1 z2 => .nl z1 (by rw [← e4]; exact z2))
    exact k cs1 (.ref p) (p :: own ds) G1 _ f1 f2 (fun i hi => nomatch hi) rs2 (st1.trans st2)
  · cases hm
theorem se_tupO {x1} (h : SA X es ms) : SE X (.Tuple es x1 pos) (mTupO ms) := PE.imp (pe_tup h) fun σ H Q h => by
  obtain ⟨cs, G, r, ρ', e1, rs, hm, k⟩ := h
  obtain ⟨⟨r1, ρ1⟩, h1, hm⟩ := Option.bind_eq_some_iff.mp hm
  obtain ⟨ss, h2, hm⟩ := Option.bind_eq_some_iff.mp hm
  split at hm
  · rename_i hl
    cases hm
    refine ⟨cs, G, r1, ρ1, e1, rs, h1, fun cs1 ds vs G1 H1 f1 f2 fb f3 f4 rs1 st1 => ?_⟩
    obtain ⟨q1, q2⟩ := ownA_ok h2
    have e4 : slots ds = ss := f4.trans q1
    refine ⟨by rw [vals_len f3, e4]; exact hl, fun p hp => ?_⟩
    obtain ⟨rs2, st2⟩ := rs1.pack (o := .tup vs) (s := .nt ss) f3 (fun c hc => q2 _ (by rw [← e4]; exact List.mem_map_of_mem hc)) hp (fun H' z1 z2 => .nt z1 (by rw [← e4]; exact z2))
    exact k cs1 (.ref p) (p :: own ds) G1 _ f1 f2 (fun i hi => nomatch hi) rs2 (st1.trans st2)
  · cases hm
/-- f(..)[i]: an item of a new owning list -/
def mIxO (ma mb : M) : M := fun ρ => (ma ρ).bind fun x => match x.1 with
  | .own (.nl ss) => (mb (pk x.2)).bind fun y => match y.1 with
    | .val (.int i) => (atI ss i).bind fun s => match s with
      | .no => none
      | s => some (.own s, x.2)
    | _ => none
  | _ => none
theorem se_ixO (ha : SE X a ma) (hb : SE X b mb) (hs : PlainIx b := by exact fun _ _ => rfl) : SE X (.Subscript a b pos) (mIxO ma mb) := PE.imp (pe_ix ix_list ha hb hs) fun σ H Q h => by
  obtain ⟨cs, G, r, ρ', e1, rs, hm, k⟩ := h
  obtain ⟨⟨r1, ρ1⟩, h1, hm⟩ := Option.bind_eq_some_iff.mp hm
  dsimp only at hm
  split at hm
  · rename_i ss
    obtain ⟨⟨r2, ρ2⟩, h2, hm⟩ := Option.bind_eq_some_iff.mp hm
    dsimp only at hm
    split at hm
    · rename_i i
      obtain ⟨s, h3, hm⟩ := Option.bind_eq_some_iff.mp hm
      have hm : ∃ hs : s ≠ .no, some (Rv.own s, (ρ1 : List Sl)) = some (r, ρ') := by
        cases s with
        | no => cases hm
        | _ => exact ⟨by simp, hm⟩
      obtain ⟨hs, hm⟩ := hm
      cases hm
      refine ⟨cs, G, .own (.nl ss), _, e1, rs, h1, fun cs1 v B G1 H1 f1 f2 fb rs1 st1 => ?_⟩
      subst e1
      rw [← f1]
      obtain ⟨csf, e1, e2, e3, rf⟩ := rs1.tail.peek
      refine ⟨csf, _, .val (.int i), ρ2, e1, rf, by rw [e2, f2]; exact h2, fun cs' v' B' G' H' g1 g2 gb rs' st' => ?_⟩
      obtain ⟨rp, _⟩ := rs'.val
      have := rp.int_iff
      subst this
      rw [e3] at st'
      obtain ⟨G2, rs2t, s1, _⟩ := rs1.tail.looked st' rs'
      have rs2 := Res.frame (ds := [_]) rs1 s1 rs2t
      have s0 := Stp.under (ds := [_]) rs1 s1
      obtain ⟨a, ws, ds, rfl, p1, p2, p3, p4, p5⟩ := rs2.opened
      unfold atI at h3
      obtain ⟨j, h4, h5⟩ := Option.bind_eq_some_iff.mp h3
      have hlen : ws.length = ss.length := by rw [vals_len p2, p3]
      obtain ⟨c, hc, hcs⟩ := cell_at (cs := ds) (i := j) (by rw [p3]; exact h5)
      have hv : (vals ds)[j]? = some c.v := by rw [List.getElem?_map, hc]; rfl
      rw [p2, List.getElem?_map] at hv
      obtain ⟨w, hw, hw'⟩ := Option.map_eq_some_iff.mp hv
      refine ⟨a, ws, i, w, rfl, rfl, .inl (Rd.of p1), by unfold atI; rw [hlen, h4]; exact hw, ?_⟩
      obtain ⟨cv, cS, cA⟩ := c
      have hcs : cS = s := hcs
      have hw' : some w = cv := hw'
      subst hcs; subst hw'
      obtain ⟨rs3, sub3⟩ := p4.pick hc
      exact k cs1 w cA _ H' f1 f2 (fun i hi => nomatch hi) rs3 ((st1.trans (s0.trans p5)).weak sub3)
    · cases hm
  · cases hm
/-! ### lists of own lists changed where they stand -/
/-- xs.append(e), e a new thing of its own -/
def mPush (i : Nat) (m : M) : M := fun ρ => (m (pk ρ)).bind fun x => match x.1 with
  | .bor _ => none
  | r => if r.sl.flat = true then match ρ[i]? with
    | some (.nl ss) => @ite _ (ss.length < sizeLine) (Classical.propDecidable _) (some (.val .non, ρ.set i (.nl (ss ++ [r.sl])))) none
    | _ => none
    else none
theorem set_cell {cs : List Cl} {i : Nat} {c c' : Cl} (e : cs[i]? = some c) : ∃ l1 l2, cs = l1 ++ c :: l2 ∧ cs.set i c' = l1 ++ c' :: l2 := by
  obtain ⟨l1, l2, rfl, hl⟩ := split_at e
  exact ⟨l1, l2, rfl, set_mid hl⟩
theorem flat_ne {s : Sl} (h : s.flat = true) : s ≠ .no := by
  rintro rfl
  unfold Sl.flat at h
  cases h
theorem rd_push {i : Nat} {m : M} : ∀ σ H Q, tM K mg (mPush i m) σ H Q → tBM K "list" rAppend (tVar i) (fun σ H Q => tM K mg m σ H fun v H' => Q [v] H') σ H Q := fun σ H Q h => by
  obtain ⟨cs, G, r, ρ', e1, rs, hm, k⟩ := h
  obtain ⟨⟨r1, ρ1⟩, h1, hm⟩ := Option.bind_eq_some_iff.mp hm
  dsimp only at hm
  have hm : (∀ j, r1 ≠ .bor j) ∧ (if r1.sl.flat = true then match (slots cs)[i]? with
    | some (.nl ss) => @ite _ (ss.length < sizeLine) (Classical.propDecidable _) (some (Rv.val .non, (slots cs).set i (.nl (ss ++ [r1.sl])))) none
    | _ => none
    else none) = some (r, ρ') := by
    cases r1 with
    | bor j => cases hm
    | val d => exact ⟨fun j z => (nomatch z), hm⟩
    | own d => exact ⟨fun j z => (nomatch z), hm⟩
  obtain ⟨hnb, hm⟩ := hm
  split at hm
  · rename_i hf
    split at hm
    · rename_i ss ei
      split at hm
      · rename_i hl
        cases hm
        subst e1
        obtain ⟨a, ws, As, q1, q2, q3, q4, q5, q6⟩ := nl_cell rs ei
        refine ⟨.ref a, q2, .inl ⟨rfl, ws, SqL.of q3⟩, tM_look rs h1 hnb hf fun v B G2 H' keep hB rs' st' => ?_⟩
        obtain ⟨l1, l2, el, es⟩ := set_cell (c' := ⟨some (.ref a), .nl (ss ++ [r1.sl]), a :: (As ++ B)⟩) q1
        have pp : List.Perm ((⟨some v, r1.sl, B⟩ : Cl) :: cs) ((⟨some (.ref a), .nl ss, a :: As⟩ : Cl) :: ⟨some v, r1.sl, B⟩ :: (l1 ++ l2)) := by
          rw [el]
          exact (List.Perm.cons _ List.perm_middle).trans (List.Perm.swap _ _ _)
        obtain ⟨ws', As', z1, z2, z3, rs3, st3⟩ := (rs'.perm pp).push (flat_ne hf)
        cases z1
        refine ⟨a, ws', v, rfl, rfl, z2, by rw [z3]; exact hl, ?_⟩
        have pq : List.Perm ((⟨some (.ref a), .nl (ss ++ [r1.sl]), a :: (As ++ B)⟩ : Cl) :: (l1 ++ l2)) (cs.set i ⟨some (.ref a), .nl (ss ++ [r1.sl]), a :: (As ++ B)⟩) := by
          rw [es]; exact List.perm_middle.symm
        refine Kn.fz k (set_vals (c' := ⟨some (.ref a), .nl (ss ++ [r1.sl]), a :: (As ++ B)⟩) q1 rfl) slots_set (rs3.perm pq) ?_ .non
        exact (Stp.trans (st'.perm (own_perm pp)) st3).perm (own_perm pq)
      · cases hm
    · cases hm
  · cases hm
theorem pa_single {t : TE} (ha : PE X e t) (hs : starEach [e] X.env = (false, eval e X.env) :: starEach [] X.env := by rfl) : PA X [e] (fun σ H Q => t σ H fun v H' => Q [v] H') :=
  PA.imp (pa_cons ha pa_nil hs) fun σ H Q h => h
theorem se_push {x : Str} {np : Pos} (i : Nat) (ha : SE X e ma)
    (hN : X.N[i]? = some x := by rfl) (hv : Vis X.env.scope x := by first | exact Or.inl rfl | exact Or.inr (Or.inl rfl) | exact Or.inr (Or.inr rfl)) (hd : (x == ("__debug__" : Str)) = false := by decide) (hcd : (x == ("__classdict__" : Str)) = false := by decide)
    (hbase : attributeBase (.Name x np) "append" X.env (eval (.Name x np) X.env) = eval (.Name x np) X.env := by rfl)
    (hfew : ((backTo cpos (starEach [e] X.env)).all (fun x => !x.1) && (backToKw cpos (keywordEach [] X.env)).all (fun x => x.1.isSome)
      && decide ([e].length + ([] : List Keyword).length + (if ([] : List Keyword).isEmpty then 0 else 1) < 30)) = true := by rfl)
    (hline : (apos.endLine == cpos.line) = true := by rfl) (hs : starEach [e] X.env = (false, eval e X.env) :: starEach [] X.env := by rfl) (hplain : (backTo cpos (starEach [] X.env)).any (·.1) = false := by rfl) :
    SE X (.Call (.Attribute (.Name x np) "append" apos) [e] [] cpos) (mPush i ma) :=
  PE.imp (pe_bm PySem.F.plainAttrs_list PySem.F.slot_list_append PySem.F.type_list_append mt_append (pe_var hN hv hd hcd) (pa_single ha hs) hbase hfew hline hs hplain) rd_push
/-- xs[k].m(e) -/
def mMutIx (f : List D → List D → Option (D × List D)) (i : Nat) (mi : M) (ms : MA) : M := fun ρ => (mi (pk ρ)).bind fun x => match x.1 with
  | .val (.int k) => (ms (pk ρ)).bind fun y => (scR y.1).bind fun ds => match ρ[i]? with
    | some (.nl ss) => (ixN ss.length k).bind fun j => match ss[j]? with
      | some (.ow xs) => (f xs ds).map fun w => (.val w.1, ρ.set i (.nl (ss.set j (.ow w.2))))
      | _ => none
    | _ => none
  | _ => none
theorem rd_mutIx {i : Nat} {f : List D → List D → Option (D × List D)} {R : V → List V → Hp → VK → Prop} (hr : MutOk K mg f R) : ∀ σ H Q, tM K mg (mMutIx f i mi ms) σ H Q → tBM K "list" R (tOp (rIxL K) (tVar i) (tM K mg mi)) (tMA K mg ms) σ H Q := fun σ H Q h => by
  obtain ⟨cs, G, r, ρ', e1, rs, hm, k⟩ := h
  obtain ⟨⟨r1, ρ1⟩, h1, hm⟩ := Option.bind_eq_some_iff.mp hm
  dsimp only at hm
  split at hm
  · rename_i kk
    obtain ⟨⟨r2, ρ2⟩, h2, hm⟩ := Option.bind_eq_some_iff.mp hm
    obtain ⟨ds, h3, hm⟩ := Option.bind_eq_some_iff.mp hm
    split at hm
    · rename_i ss ei
      obtain ⟨j, h4, hm⟩ := Option.bind_eq_some_iff.mp hm
      split at hm
      · rename_i xs ej
        obtain ⟨⟨z, xs'⟩, h5, hm⟩ := Option.map_eq_some_iff.mp hm
        cases hm
        subst e1
        obtain ⟨a, ws, As, q1, q2, q3, q4, q5, q6⟩ := nl_cell rs ei
        obtain ⟨b, us, b1, b2, b3, b4, b5⟩ := q4.item (List.nodup_cons.mp q5).2 ej
        refine ⟨.ref a, q2, tM_lookS rs h1 rfl fun G1 H1 keep1 rs1 st1 => ?_⟩
        refine ⟨a, ws, kk, .ref b, rfl, rfl, SqL.of (keep1 _ _ q3 (by intro _ z; cases z)), by unfold atI; rw [q4.length, h4]; exact b1, ?_⟩
        refine ⟨.inl ⟨rfl, us, SqL.of (keep1 _ _ b3 (by intro _ z; cases z))⟩, tMA_look rs1 h2 h3 fun vs G2 H2 rv keep2 rs2 st2 => ?_⟩
        have kp : ∀ c o, H c = some o → (∀ ps, o ≠ .tbl ps) → H2 c = some o := fun c o q n => keep2 _ _ (keep1 _ _ q n) n
        have q4' : OwnL K mg G2 H2 ss ws As := q4.frame (fun _ _ e => st2.gs _ _ (st1.gs _ _ e)) fun c _ o q n => kp c o q n
        obtain ⟨b', us', d1, d2, d3, d4, d5⟩ := q4'.item (List.nodup_cons.mp q5).2 ej
        rw [b1] at d1
        cases d1
        refine hr xs ds xs' z G2 H2 b us' vs Q h5 d3 rs2.same (rs2.fr b (mem_own.mpr ⟨_, List.mem_of_getElem? q1, by show b ∈ a :: As; simp [b2]⟩)) d4 (rv G2) fun u ws' hu hw => ?_
        have wr := Res.write (H' := upd H2 b (.lst ws')) (c' := ⟨some (.ref a), .nl (ss.set j (.ow xs')), a :: As⟩) rs2 q1 (fun c hc => upd_ne fun z => hc (by
            show c ∈ a :: As
            rw [z]; simp [b2])) (.inr ⟨_, rfl, .nl (by
            rw [upd_ne fun z => (List.nodup_cons.mp q5).1 (by rw [z]; exact b2)]
            exact kp _ _ q3 (by intro _ z; cases z)) (d5 xs' ws' hw)⟩) rfl (fun c hc => by
            by_cases z : c = b
            · rw [z, upd_same]; simp
            · rw [upd_ne z]
              exact rs2.there c (mem_own.mpr ⟨_, List.mem_of_getElem? q1, hc⟩))
        exact Kn.fz k (set_vals (c' := ⟨some (.ref a), .nl (ss.set j (.ow xs')), a :: As⟩) q1 rfl) slots_set wr.1 (st1.trans (st2.trans wr.2)) hu
      · cases hm
    · cases hm
  · cases hm
variable {x nm : Str} {id : String} {np : Pos} {R : V → List V → Hp → VK → Prop} {f : List D → List D → Option (D × List D)}
theorem se_mutIx (i : Nat) (slot : Slot "list" nm id) (hty : typeOf (.builtin id) = pure (.type "method_descriptor")) (hmt : MtR X id R) (hr : MutOk X.K X.mg f R) (hb : SE X b mi) (ha : SA X (e :: es) ms)
    (hN : X.N[i]? = some x := by rfl) (hv : Vis X.env.scope x := by first | exact Or.inl rfl | exact Or.inr (Or.inl rfl) | exact Or.inr (Or.inr rfl)) (hd : (x == ("__debug__" : Str)) = false := by decide) (hcd : (x == ("__classdict__" : Str)) = false := by decide) (hpi : PlainIx b := by exact fun _ _ => rfl)
    (hbase : attributeBase (.Subscript (.Name x np) b p2) nm X.env (eval (.Subscript (.Name x np) b p2) X.env) = eval (.Subscript (.Name x np) b p2) X.env := by rfl)
    (hfew : ((backTo cpos (starEach (e :: es) X.env)).all (fun x => !x.1) && (backToKw cpos (keywordEach [] X.env)).all (fun x => x.1.isSome)
      && decide ((e :: es).length + ([] : List Keyword).length + (if ([] : List Keyword).isEmpty then 0 else 1) < 30)) = true := by rfl)
    (hline : (apos.endLine == cpos.line) = true := by rfl) (hs : starEach (e :: es) X.env = (false, eval e X.env) :: starEach es X.env := by rfl) (hplain : (backTo cpos (starEach es X.env)).any (·.1) = false := by rfl) :
    SE X (.Call (.Attribute (.Subscript (.Name x np) b p2) nm apos) (e :: es) [] cpos) (mMutIx f i mi ms) :=
  PE.imp (pe_bm PySem.F.plainAttrs_list slot hty hmt (pe_ix ix_list (pe_var hN hv hd hcd) hb hpi) ha hbase hfew hline hs hplain) (rd_mutIx hr)
end
end
end FW

/-! a comprehension that keeps its items' ownership -/
namespace FW
noncomputable section
open PySem L2
section
variable {X : Cx} {a b c e o tg : Expr} {es : List Expr} {ma mb mc mo : M} {ms : MA} {pos p2 p cpos apos : Pos} {K : PySem.W.Frag} {mg : Str → Option Value} {P : Nat → Prop} {st : Stmt} {rest : List Stmt} {sa sb : MS} {js : List Nat}
def ownR : Rv → Option Sl
  | .val d => some (.fz d)
  | .own s => match s with
    | .no => none
    | s => some s
  | .bor _ => none
theorem ownR_ok {r : Rv} {s : Sl} (h : ownR r = some s) : r.sl = s ∧ s ≠ .no := by
  unfold ownR at h
  split at h
  · cases h; exact ⟨rfl, by simp⟩
  · split at h
    · cases h
    · rename_i hn
      cases h; exact ⟨rfl, fun z => hn z⟩
  · cases h
open Classical in
noncomputable def compDO (bs : List (Nat × List D)) (vs : List Nat) (g : D → List Sl → Option (List Sl)) (t : MT) (m : M) : List D → List Sl → List Sl → Option (List Sl × List Sl)
  | [], acc, ρ => if chk ρ bs then some (acc, ρ) else none
  | d :: ds, acc, ρ => if chk ρ bs then (g d ρ).bind fun ρ1 => (t ρ1).bind fun x => if x.1 = true then
      (m x.2).bind fun y => (ownR y.1).bind fun z => @ite _ (acc.length < sizeLine) (Classical.propDecidable _) (compDO bs vs g t m ds (acc ++ [z]) (wipeS y.2 vs)) none
      else compDO bs vs g t m ds acc (wipeS x.2 vs)
    else none
noncomputable def mCompO (it : MI) (vs : List Nat) (g : D → List Sl → Option (List Sl)) (t : MT) (m : M) : M := fun ρ => (it ρ).bind fun x => (compDO x.1.bs vs g t m x.1.items [] (wipeS x.2 vs)).map fun y => (.own (.nl y.1), y.2)
/-- a comprehension's reading -/
theorem rd_lcO {vs : List Nat} {mi : MI} {g : D → List Sl → Option (List Sl)} {t : MT} {m : M} (hjs : ∀ j ∈ js, j ∉ vs) : ∀ σ H Q, tM K mg (mCompO mi vs g t m) σ H Q → tLc (tI K mg js mi) (tG K mg (fun i => i ∉ vs) g) (tMT K mg t) (tM K mg m) vs σ H Q := fun σ H Q h => by
  obtain ⟨cs, G, r, ρ', e1, rs, hm, k⟩ := h
  obtain ⟨⟨x, ρ1⟩, h1, hm⟩ := Option.bind_eq_some_iff.mp hm
  obtain ⟨⟨out, ρ2⟩, h2, hm⟩ := Option.map_eq_some_iff.mp hm
  cases hm
  refine ⟨cs, G, x, ρ1, e1, rs, h1, fun cs1 ds J G1 H1 f1 f2 rs1 st1 it D hD => ?_⟩
  subst e1
  dsimp only at h2
  have l1 : cs1.length = cs.length := len_of f1
  -- the invariant: the block's cells, the list at D with what is made so far
  let W : Nat → Nat → Hp → Prop := fun i n H' => n = x.items.length - i ∧ i ≤ x.items.length ∧ ∃ cs' G' acc A ρw, vals cs' = L2.wipe (vals cs) vs ∧ slots cs' = wipeS ρw vs ∧ Res K mg G' H' ((⟨some (.ref D), .nl acc, A⟩ : Cl) :: (ds ++ cs')) ∧
    Stp (own cs) G H (own ((⟨some (.ref D), .nl acc, A⟩ : Cl) :: (ds ++ cs'))) G' H' ∧ compDO x.bs vs g t m (x.items.drop i) acc (slots cs') = some (out, ρ2)
  have fin : ∀ {cs' : List Cl} {G' H' : Hp} {acc : List Sl} {A : List Addr} {ρw : List Sl}, vals cs' = L2.wipe (vals cs) vs → slots cs' = wipeS ρw vs → Res K mg G' H' ((⟨some (.ref D), .nl acc, A⟩ : Cl) :: (ds ++ cs')) →
      Stp (own cs) G H (own ((⟨some (.ref D), .nl acc, A⟩ : Cl) :: (ds ++ cs'))) G' H' → slots cs' = ρ2 → acc = out → Q (.ref D) H' := fun {cs' G' H' acc A ρw} g1 g2 g3 g4 g5 g6 => by
    subst g6
    have r1 : Res K mg G' H' ((⟨some (.ref D), .nl acc, A⟩ : Cl) :: cs') := by
      have p : List.Perm ((⟨some (.ref D), .nl acc, A⟩ : Cl) :: (ds ++ cs')) (ds ++ ((⟨some (.ref D), .nl acc, A⟩ : Cl) :: cs')) := List.perm_middle.symm
      exact (g3.perm p).right
    obtain ⟨c2, k1, k2, k3, k4⟩ := leave_block r1.tail g1 g2
    have st2 : Stp (own cs') G' H' (own c2) G' H' := Stp.refl.weak fun b hb => by rw [← k4]; exact hb
    have r2 := Res.frame (ds := [_]) r1 st2 k3
    refine k c2 (.ref D) A G' H' k1 (k2.trans g5) (fun i hi => nomatch hi) r2 (g4.weak fun b hb => ?_)
    rw [own_cons, k4] at hb
    rw [own_cons, own_append]
    rcases List.mem_append.mp hb with z | z
    · exact List.mem_append_left _ z
    · exact List.mem_append_right _ (List.mem_append_right _ z)
  refine ⟨W, ?_, ?_⟩
  · obtain ⟨c2, g1, g2, g3, g4⟩ := enter_block (K := K) (mg := mg) rs1.right vs
    have st2 : Stp (own cs1) G1 H1 (own c2) G1 H1 := Stp.refl.weak g4
    have r2 := Res.frame rs1 st2 g3
    have s2 := st1.trans (Stp.under rs1 st2)
    refine ⟨x.items.length, rfl, Nat.zero_le _, c2, G1, [], [D], ρ1, by rw [g1, f1], by rw [g2, f2], (Res.pack (ds := []) (o := .lst []) (s := .nl []) (vs := []) r2 rfl (fun c hc => nomatch hc) hD (fun H' z1 z2 => .nl z1 .nil)).1, (s2.trans (Stp.alloc hD)).weak fun b hb => by simpa [own_cons] using hb, ?_⟩
    rw [g2, f2]
    exact h2
  · rintro i n H' ⟨rfl, hi', cs2, G2, acc, A, ρw, g1, g2, rs2, st2, hw⟩
    have gj : ∀ j ∈ js, (vals cs2)[j]? = (vals cs)[j]? := fun j hj => by rw [g1, wipe_vals (hjs j hj)]
    have rI : Res K mg G2 H' (ds ++ cs2) := rs2.tail
    cases hd : x.items.drop i with
    | nil =>
      rw [hd] at hw
      unfold compDO at hw
      split at hw
      · rename_i hck
        have e : acc = out ∧ slots cs2 = ρ2 := by
          have := Option.some.inj hw
          exact ⟨(Prod.mk.inj this).1, (Prod.mk.inj this).2⟩
        exact .inl ⟨it.stop i cs2 G2 H' rI hck gj (by have := List.drop_eq_nil_iff.mp hd; omega), fin g1 g2 rs2 st2 e.2 e.1⟩
      · cases hw
    | cons d rest =>
      rw [hd] at hw
      unfold compDO at hw
      have hil : i < x.items.length := by
        rcases Nat.lt_or_ge i x.items.length with z | z
        · exact z
        · rw [List.drop_eq_nil_iff.mpr z] at hd; cases hd
      have hit : x.items[i]? = some d := by
        rw [List.drop_eq_getElem_cons hil] at hd
        rw [List.getElem?_eq_getElem hil]
        exact congrArg some (List.cons.inj hd).1
      have hrest : x.items.drop (i + 1) = rest := by
        rw [List.drop_eq_getElem_cons hil] at hd
        exact (List.cons.inj hd).2
      split at hw
      · rename_i hck
        obtain ⟨ρ3, h3, hw⟩ := Option.bind_eq_some_iff.mp hw
        obtain ⟨⟨b4, ρ4⟩, h4, hw⟩ := Option.bind_eq_some_iff.mp hw
        refine .inr ⟨it.go i cs2 G2 H' rI hck gj hil, W (i + 1) (x.items.length - (i + 1)), fun H3 w => ⟨_, by omega, w⟩, fun v H3 hy => ?_⟩
        obtain ⟨G3, rs3', st3', rp⟩ := it.yld i cs2 G2 H' v H3 d rI hck gj hit hy
        have rs3 := Res.frame (ds := [_]) (cs := ds ++ cs2) rs2 st3' rs3'
        have s3 := st2.trans (Stp.under (ds := [_]) (cs := ds ++ cs2) rs2 st3')
        have rs3b : Res K mg G3 H3 ((⟨some (.ref D), .nl acc, A⟩ :: ds) ++ cs2) := rs3
        refine ⟨cs2, G3, d, ρ3, g1, rs3'.right, rp, h3, fun cs4 k1 k2 k3 k4' k5 => ?_⟩
        have len2 : cs2.length = cs.length := by
          have := congrArg List.length g1
          rw [wipe_length] at this
          simpa using this
        have w4 : L2.wipe (vals cs4) vs = L2.wipe (vals cs) vs := wipe_idem (by simp [k2, len2]) fun j hj => by
          rw [k3 j hj, wipe_vals hj]
        refine ⟨w4, ?_⟩
        have st4 : Stp (own cs2) G3 H3 (own cs4) G3 H3 := Stp.refl.weak k5
        have rs4 : Res K mg G3 H3 (((⟨some (.ref D), .nl acc, A⟩ : Cl) :: ds) ++ cs4) := Res.frame rs3b st4 k4'
        have s4 : Stp (own cs) G H (own (((⟨some (.ref D), .nl acc, A⟩ : Cl) :: ds) ++ cs4)) G3 H3 := Stp.trans s3 (Stp.under (ds := (⟨some (.ref D), .nl acc, A⟩ : Cl) :: ds) (cs := cs2) rs3b st4)
        refine ⟨cs4, G3, b4, ρ4, rfl, k4', by rw [k1]; exact h4, fun cs5 G5 H5 l1' l2 rs5 st5 => ?_⟩
        have rs6 := Res.frame rs4 st5 rs5
        have s6 := s4.trans (Stp.under rs4 st5)
        -- the next turn's state, from cells behind this one
        have next : ∀ (cs7 : List Cl) (G7 H7 : Hp) (acc' : List Sl) (A' : List Addr) (ρ7 : List Sl), vals cs7 = vals cs4 → slots cs7 = ρ7 → Res K mg G7 H7 ((⟨some (.ref D), .nl acc', A'⟩ : Cl) :: (ds ++ cs7)) →
            Stp (own cs) G H (own ((⟨some (.ref D), .nl acc', A'⟩ : Cl) :: (ds ++ cs7))) G7 H7 → compDO x.bs vs g t m rest acc' (wipeS ρ7 vs) = some (out, ρ2) → W (i + 1) (x.items.length - (i + 1)) H7 := by
          intro cs7 G7 H7 acc' A' ρ7 p1 p2 p3 p4 p5
          obtain ⟨c8, q1, q2, q3, q4⟩ := enter_block (K := K) (mg := mg) (cs := cs7) (Res.right (cs := (⟨some (.ref D), .nl acc', A'⟩ : Cl) :: ds) p3) vs
          have st8 : Stp (own cs7) G7 H7 (own c8) G7 H7 := Stp.refl.weak q4
          have p3' : Res K mg G7 H7 (((⟨some (.ref D), .nl acc', A'⟩ : Cl) :: ds) ++ cs7) := p3
          exact ⟨rfl, hil, c8, G7, acc', A', ρ7, by rw [q1, p1, w4], by rw [q2, p2], Res.frame p3' st8 q3, Stp.trans p4 (Stp.under p3' st8), by rw [hrest, q2, p2]; exact p5⟩
        cases b4 with
        | false =>
          refine iteF ?_
          refine next cs5 G5 H5 acc A ρ4 l1' l2 rs6 s6 ?_
          simpa using hw
        | true =>
          refine iteT ?_
          simp only [if_true] at hw
          obtain ⟨⟨r6, ρ6⟩, h6, hw⟩ := Option.bind_eq_some_iff.mp hw
          obtain ⟨s7, h7, hw⟩ := Option.bind_eq_some_iff.mp hw
          dsimp only at hw
          split at hw
          · rename_i hlen
            refine ⟨cs5, G5, r6, ρ6, l1', rs5, by rw [l2]; exact h6, fun cs6 v6 B6 G6 H6 m1 m2 mb' rs6' st6 => ?_⟩
            have rs7 := Res.frame rs6 st6 rs6'
            have s7' := s6.trans (Stp.under rs6 st6)
            obtain ⟨e7, n7⟩ := ownR_ok h7
            rw [e7] at rs7 s7'
            have pp : List.Perm (((⟨some (.ref D), .nl acc, A⟩ : Cl) :: ds) ++ ((⟨some v6, s7, B6⟩ : Cl) :: cs6)) ((⟨some (.ref D), .nl acc, A⟩ : Cl) :: ⟨some v6, s7, B6⟩ :: (ds ++ cs6)) := List.Perm.cons _ List.perm_middle
            obtain ⟨ws, As, z1, z2, z3, rs8, st8⟩ := (rs7.perm pp).push n7
            subst z1
            refine ⟨ws, z2, by rw [z3]; exact hlen, ?_⟩
            exact next cs6 G6 _ (acc ++ [s7]) _ ρ6 m1 m2 rs8 (Stp.trans (s7'.perm (own_perm pp)) st8) hw
          · cases hw
      · cases hw
theorem se_compO {elt iter : Expr} {ifs : List Expr} {scope : Scope} {own' : List (Str × Nat)} {mi : MI} {g : D → List Sl → Option (List Sl)} {t : MT} {m : M} (js : List Nat) (hc : X.calm = true) (hN : X.N.Nodup) (hi : SI X js tg iter mi) (ok : BlkOk X.N X.env.scope scope own')
    (hg : ∀ (s : Shared) (H : Hp) (C : Addr) (cl : List (Str × Addr)) (fp : List Addr), SG (X.blk s H scope (compEnvC scope cl C X.env) fp) (fun i => i ∉ own'.map (·.2)) tg g) (ht : ∀ (s : Shared) (H : Hp) (C : Addr) (cl : List (Str × Addr)) (fp : List Addr), STs (X.blk s H scope (compEnvC scope cl C X.env) fp) ifs t)
    (he : ∀ (s : Shared) (H : Hp) (C : Addr) (cl : List (Str × Addr)) (fp : List Addr), SE (X.blk s H scope (compEnvC scope cl C X.env) fp) elt m) (hjs : ∀ j ∈ js, j ∉ own'.map (·.2) := by decide) (hs : ∀ x, foldedSetIterable iter X.env x = pure x := by intro _; rfl) :
    SE X (.ListComp elt [⟨tg, iter, ifs, 0⟩] scope pos) (mCompO mi (own'.map (·.2)) g t m) := PE.imp (pe_lc hc hN hi ok hg ht he hs) (rd_lcO hjs)
theorem ss_setLcO {i : Nat} {y : Str} {py spos : Pos} {elt iter : Expr} {ifs : List Expr} {scope : Scope} {own' : List (Str × Nat)} {mi : MI} {g : D → List Sl → Option (List Sl)} {t : MT} {m : M} (js : List Nat) (hc : X.calm = true) (hN : X.N.Nodup) (hy : X.N[i]? = some y) (hyl : X.env.scope.names.lookup y = some .local) (hP : ¬ P i)
    (hsw : swapsWith (.ListComp elt [⟨tg, iter, ifs, 0⟩] scope pos) (some (.Name y py)) spos.line X.env = pure true) (hi : SI X js tg iter mi) (ok : BlkOk X.N X.env.scope scope own')
    (hg : ∀ (s : Shared) (H : Hp) (C : Addr) (cl : List (Str × Addr)) (fp : List Addr), SG (X.blk s H scope (compEnvC scope cl C X.env) fp) (fun i => i ∉ own'.map (·.2)) tg g) (ht : ∀ (s : Shared) (H : Hp) (C : Addr) (cl : List (Str × Addr)) (fp : List Addr), STs (X.blk s H scope (compEnvC scope cl C X.env) fp) ifs t)
    (he : ∀ (s : Shared) (H : Hp) (C : Addr) (cl : List (Str × Addr)) (fp : List Addr), SE (X.blk s H scope (compEnvC scope cl C X.env) fp) elt m) (hjs : ∀ j ∈ js, j ∉ own'.map (·.2) := by decide) (hs : ∀ x, foldedSetIterable iter X.env x = pure x := by intro _; rfl) :
    SS X P (.Assign [.Name y py] (.ListComp elt [⟨tg, iter, ifs, 0⟩] scope pos) spos) (sSet i (mCompO mi (own'.map (·.2)) g t m)) := PS.imp (ps_setLc hc hN hy hyl hsw hi ok hg ht he hs) fun D σ H h => rd_lcO hjs σ H _ (rd_set hP D σ H h)
end
end
end FW

/-! y = xs[k]; y.m(e): an item of a list of own lists is changed under a name of its own -/
namespace FW
noncomputable section
open PySem L2
section
variable {X : Cx} {a b e o tg elt iter : Expr} {es : List Expr} {ma mb mi : M} {ms : MA} {pos p2 cpos apos spos : Pos} {K : PySem.W.Frag} {mg : Str → Option Value} {P : Nat → Prop} {st : Stmt} {rest : List Stmt} {sa sb : MS} {js : List Nat}
def sAlias (f : List D → List D → Option (D × List D)) (i q : Nat) (mi : M) (ms : MA) : MS := fun ρ => (mi (pk ρ)).bind fun x => match x.1 with
  | .val (.int k) => (ρ[q]?).bind fun _ => (ms (pk (ρ.set q .no))).bind fun y => (scR y.1).bind fun ds => match (ρ.set q .no)[i]? with
    | some (.nl ss) => (ixN ss.length k).bind fun j => match ss[j]? with
      | some (.ow xs) => (f xs ds).map fun w => (.nx, (ρ.set q .no).set i (.nl (ss.set j (.ow w.2))))
      | _ => none
    | _ => none
  | _ => none
theorem rd_alias {i q : Nat} {f : List D → List D → Option (D × List D)} {R : V → List V → Hp → VK → Prop} (hr : MutOk K mg f R) (hiq : q ≠ i) (hP : ¬ P q) : ∀ D σ H, tS K mg W P (sSeq (sAlias f i q mi ms) sb) D σ H →
    tSeq (tAsg (tOp (rIxL K) (tVar i) (tM K mg mi)) (gName q)) (tSeq (tDrop (tBM K "list" R (tVar q) (tMA K mg ms))) (tS K mg W P sb)) D σ H := fun D σ H h => by
  obtain ⟨cs, G, r, ρ', e1, rs, hm, k⟩ := h
  unfold sSeq at hm
  cases hx : sAlias f i q mi ms (slots cs) with
  | none => rw [hx] at hm; cases hm
  | some w0 =>
  rw [hx] at hm
  obtain ⟨kk0, ρ1⟩ := w0
  obtain ⟨⟨r1, ρa⟩, h1, hx⟩ := Option.bind_eq_some_iff.mp hx
  dsimp only at hx
  split at hx
  · rename_i kk
    obtain ⟨sq0, hsq, hx⟩ := Option.bind_eq_some_iff.mp hx
    obtain ⟨⟨r2, ρ2⟩, h2, hx⟩ := Option.bind_eq_some_iff.mp hx
    obtain ⟨ds, h3, hx⟩ := Option.bind_eq_some_iff.mp hx
    split at hx
    · rename_i ss ei
      obtain ⟨j, h4, hx⟩ := Option.bind_eq_some_iff.mp hx
      split at hx
      · rename_i xs ej
        obtain ⟨⟨z, xs'⟩, h5, hx⟩ := Option.map_eq_some_iff.mp hx
        cases hx
        dsimp only at hm
        subst e1
        rw [List.getElem?_set_ne hiq] at ei
        obtain ⟨a, ws, As, q1, q2, q3, q4, q5, q6⟩ := nl_cell rs ei
        obtain ⟨b, us, b1, b2, b3, b4, b5⟩ := q4.item (List.nodup_cons.mp q5).2 ej
        refine ⟨.ref a, q2, tM_lookS rs h1 rfl fun G1 H1 keep1 rs1 st1 => ?_⟩
        refine ⟨a, ws, kk, .ref b, rfl, rfl, SqL.of (keep1 _ _ q3 (by intro _ z; cases z)), by unfold atI; rw [q4.length, h4]; exact b1, ?_⟩
        -- the name stands for the item
        show tSeq (tDrop (tBM K "list" R (tVar q) (tMA K mg ms))) (tS K mg W P sb) D ((vals cs).set q (some (.ref b))) H1
        have rq : Res K mg G1 H1 (cs.set q ⟨some (.ref b), .no, []⟩) := (rs1.addNo (some (.ref b))).put q
        have sq : ∀ x ∈ own (cs.set q ⟨some (.ref b), .no, []⟩), x ∈ own cs := fun x hx => by simpa [own_cons] using own_put q x hx
        have ev : (vals cs).set q (some (.ref b)) = vals (cs.set q ⟨some (.ref b), .no, []⟩) := by rw [vals_set]
        have es : slots (cs.set q ⟨some (.ref b), .no, []⟩) = (slots cs).set q .no := by rw [slots_set]
        have eq1 : (cs.set q ⟨some (.ref b), .no, []⟩)[i]? = some ⟨some (.ref a), .nl ss, a :: As⟩ := by rw [List.getElem?_set_ne hiq]; exact q1
        rw [ev]
        have hl : q < cs.length := by
          have := (List.getElem?_eq_some_iff.mp hsq).1
          simpa using this
        have hql : (vals (cs.set q ⟨some (.ref b), .no, []⟩))[q]? = some (some (.ref b)) := by
          rw [← ev, List.getElem?_set_self (by simpa using hl)]
        refine ⟨.ref b, hql, .inl ⟨rfl, us, SqL.of (keep1 _ _ b3 (by intro _ z; cases z))⟩, tMA_look rq (by rw [es]; exact h2) h3 fun vs G2 H2 rv keep2 rs2 st2 => ?_⟩
        have kp : ∀ c o, H c = some o → (∀ ps, o ≠ .tbl ps) → H2 c = some o := fun c o q n => keep2 _ _ (keep1 _ _ q n) n
        have q4' : OwnL K mg G2 H2 ss ws As := q4.frame (fun _ _ e => st2.gs _ _ (st1.gs _ _ e)) fun c _ o q n => kp c o q n
        obtain ⟨b', us', d1, d2, d3, d4, d5⟩ := q4'.item (List.nodup_cons.mp q5).2 ej
        rw [b1] at d1
        cases d1
        refine hr xs ds xs' z G2 H2 b us' vs _ h5 d3 rs2.same (rs2.fr b (mem_own.mpr ⟨_, List.mem_of_getElem? eq1, by show b ∈ a :: As; simp [b2]⟩)) d4 (rv G2) fun u ws' hu hw => ?_
        have wr := Res.write (H' := upd H2 b (.lst ws')) (c' := ⟨some (.ref a), .nl (ss.set j (.ow xs')), a :: As⟩) rs2 eq1 (fun c hc => upd_ne fun z => hc (by
            show c ∈ a :: As
            rw [z]; simp [b2])) (.inr ⟨_, rfl, .nl (by
            rw [upd_ne fun z => (List.nodup_cons.mp q5).1 (by rw [z]; exact b2)]
            exact kp _ _ q3 (by intro _ z; cases z)) (d5 xs' ws' hw)⟩) rfl (fun c hc => by
            by_cases z : c = b
            · rw [z, upd_same]; simp
            · rw [upd_ne z]
              exact rs2.there c (mem_own.mpr ⟨_, List.mem_of_getElem? eq1, hc⟩))
        show tS K mg W P sb D (vals (cs.set q ⟨some (.ref b), .no, []⟩)) _
        have ev2 : vals ((cs.set q ⟨some (.ref b), .no, []⟩).set i ⟨some (.ref a), .nl (ss.set j (.ow xs')), a :: As⟩) = vals (cs.set q ⟨some (.ref b), .no, []⟩) := set_vals (c' := ⟨some (.ref a), .nl (ss.set j (.ow xs')), a :: As⟩) eq1 rfl
        refine ⟨_, _, r, ρ', ev2, wr.1, by rw [slots_set, es]; exact hm, fun cs3 v3 B3 G3 H3 l1 l2 l3 rs3 st3 => k cs3 v3 B3 G3 H3 l1 (by rw [l2]; simp) (fun x hx => ?_) rs3 ?_⟩
        · rw [l3 x hx, ← ev, List.getElem?_set_ne]
          rintro rfl
          exact hP hx
        · have s0 : Stp (own cs) G1 H1 (own (cs.set q ⟨some (.ref b), .no, []⟩)) G1 H1 := Stp.refl.weak sq
          exact st1.trans (s0.trans (st2.trans (wr.2.trans st3)))
      · cases hx
    · cases hx
  · cases hx
theorem sss_alias {f : List D → List D → Option (D × List D)} {R : V → List V → Hp → VK → Prop} {x y nm : Str} {id : String} {np yp yp2 pos3 : Pos} (i q : Nat) (slot : Slot "list" nm id) (hty : typeOf (.builtin id) = pure (.type "method_descriptor")) (hmt : MtR X id R) (hr : MutOk X.K X.mg f R)
    (hnd : X.N.Nodup) (hy : X.N[q]? = some y) (hly : Loc X.env.scope y) (hP : ¬ P q) (hiq : q ≠ i) (hb : SE X b mi) (ha : SA X (e :: es) ms) (hrest : SSs X P rest sb)
    (hN : X.N[i]? = some x := by rfl) (hv : Vis X.env.scope x := by first | exact Or.inl rfl | exact Or.inr (Or.inl rfl) | exact Or.inr (Or.inr rfl)) (hd : (x == ("__debug__" : Str)) = false := by decide) (hcd : (x == ("__classdict__" : Str)) = false := by decide) (hpi : PlainIx b := by exact fun _ _ => rfl)
    (hvy : Vis X.env.scope y := by first | exact Or.inl rfl | exact Or.inr (Or.inl rfl) | exact Or.inr (Or.inr rfl)) (hdy : (y == ("__debug__" : Str)) = false := by decide) (hcdy : (y == ("__classdict__" : Str)) = false := by decide)
    (hsw : swapsWith (.Subscript (.Name x np) b p2) (some (.Name y yp)) pos.line X.env = pure false := by rfl) (hf : X.fn y = true ∨ X.env.scope.names.lookup y = some .local := by first | exact .inl rfl | exact .inr rfl | assumption)
    (hbase : attributeBase (.Name y yp2) nm X.env (eval (.Name y yp2) X.env) = eval (.Name y yp2) X.env := by rfl)
    (hfew : ((backTo cpos (starEach (e :: es) X.env)).all (fun x => !x.1) && (backToKw cpos (keywordEach [] X.env)).all (fun x => x.1.isSome)
      && decide ((e :: es).length + ([] : List Keyword).length + (if ([] : List Keyword).isEmpty then 0 else 1) < 30)) = true := by rfl)
    (hline : (apos.endLine == cpos.line) = true := by rfl) (hs : starEach (e :: es) X.env = (false, eval e X.env) :: starEach es X.env := by rfl) (hplain : (backTo cpos (starEach es X.env)).any (·.1) = false := by rfl)
    (hsw2 : swapsWith (.Call (.Attribute (.Name y yp2) nm apos) (e :: es) [] cpos) none pos3.line X.env = pure false := by rfl) :
    SSs X P (.Assign [.Name y yp] (.Subscript (.Name x np) b p2) pos :: .Expr (.Call (.Attribute (.Name y yp2) nm apos) (e :: es) [] cpos) pos3 :: rest) (sSeq (sAlias f i q mi ms) sb) :=
  PSs.imp (pss_cons (ps_set hnd hy hly (pe_ix ix_list (pe_var hN hv hd hcd) hb hpi) hsw hf) (pss_cons (ps_expr (pe_bm PySem.F.plainAttrs_list slot hty hmt (pe_var hy hvy hdy hcdy) ha hbase hfew hline hs hplain) hsw2) hrest)) (rd_alias hr hiq hP)
end
end
end FW

/-! a comprehension of own lists, looked at only -/
namespace FW
noncomputable section
open PySem L2
section
variable {X : Cx} {a b c e o tg : Expr} {es : List Expr} {ma mb mc mo : M} {ms : MA} {pos p2 p cpos apos : Pos} {K : PySem.W.Frag} {mg : Str → Option Value} {P : Nat → Prop} {st : Stmt} {rest : List Stmt} {sa sb : MS} {js : List Nat}
theorem rd_peek {m : M} : ∀ σ H Q, tM K mg (mPeek m) σ H Q → tM K mg m σ H Q := fun σ H Q h => by
  obtain ⟨cs, G, r, ρ', e1, rs, hm, k⟩ := h
  obtain ⟨rfl, hf, hb, ρ1, h1⟩ := mPeek_some hm
  subst e1
  exact tM_look rs h1 hb hf fun v B G2 H' keep hB rs' st' => k cs v B G2 H' rfl rfl (fun j hj => absurd hj (hb j)) rs' st'
theorem ss_setLcP {i : Nat} {y : Str} {py spos : Pos} {elt iter : Expr} {ifs : List Expr} {scope : Scope} {own' : List (Str × Nat)} {mi : MI} {g : D → List Sl → Option (List Sl)} {t : MT} {m : M} (js : List Nat) (hc : X.calm = true) (hN : X.N.Nodup) (hy : X.N[i]? = some y) (hyl : X.env.scope.names.lookup y = some .local) (hP : ¬ P i)
    (hsw : swapsWith (.ListComp elt [⟨tg, iter, ifs, 0⟩] scope pos) (some (.Name y py)) spos.line X.env = pure true) (hi : SI X js tg iter mi) (ok : BlkOk X.N X.env.scope scope own')
    (hg : ∀ (s : Shared) (H : Hp) (C : Addr) (cl : List (Str × Addr)) (fp : List Addr), SG (X.blk s H scope (compEnvC scope cl C X.env) fp) (fun i => i ∉ own'.map (·.2)) tg g) (ht : ∀ (s : Shared) (H : Hp) (C : Addr) (cl : List (Str × Addr)) (fp : List Addr), STs (X.blk s H scope (compEnvC scope cl C X.env) fp) ifs t)
    (he : ∀ (s : Shared) (H : Hp) (C : Addr) (cl : List (Str × Addr)) (fp : List Addr), SE (X.blk s H scope (compEnvC scope cl C X.env) fp) elt m) (hjs : ∀ j ∈ js, j ∉ own'.map (·.2) := by decide) (hs : ∀ x, foldedSetIterable iter X.env x = pure x := by intro _; rfl) :
    SS X P (.Assign [.Name y py] (.ListComp elt [⟨tg, iter, ifs, 0⟩] scope pos) spos) (sSet i (mPeek (mCompO mi (own'.map (·.2)) g t m))) := PS.imp (ps_setLc hc hN hy hyl hsw hi ok hg ht he hs) fun D σ H h => rd_lcO hjs σ H _ (rd_peek σ H _ (rd_set hP D σ H h))
theorem ss_setLcQ {i : Nat} {y : Str} {py spos : Pos} {elt iter : Expr} {ifs : List Expr} {scope : Scope} {own' : List (Str × Nat)} {mi : MI} {g : D → List Sl → Option (List Sl)} {t : MT} {m : M} (js : List Nat) (hc : X.calm = true) (hN : X.N.Nodup) (hy : X.N[i]? = some y) (hyl : X.env.scope.names.lookup y = some .local) (hP : ¬ P i)
    (hsw : swapsWith (.ListComp elt [⟨tg, iter, ifs, 0⟩] scope pos) (some (.Name y py)) spos.line X.env = pure true) (hi : SI X js tg iter mi) (ok : BlkOk X.N X.env.scope scope own')
    (hg : ∀ (s : Shared) (H : Hp) (C : Addr) (cl : List (Str × Addr)) (fp : List Addr), SG (X.blk s H scope (compEnvC scope cl C X.env) fp) (fun i => i ∉ own'.map (·.2)) tg g) (ht : ∀ (s : Shared) (H : Hp) (C : Addr) (cl : List (Str × Addr)) (fp : List Addr), STs (X.blk s H scope (compEnvC scope cl C X.env) fp) ifs t)
    (he : ∀ (s : Shared) (H : Hp) (C : Addr) (cl : List (Str × Addr)) (fp : List Addr), SE (X.blk s H scope (compEnvC scope cl C X.env) fp) elt m) (hjs : ∀ j ∈ js, j ∉ own'.map (·.2) := by decide) (hs : ∀ x, foldedSetIterable iter X.env x = pure x := by intro _; rfl) :
    SS X P (.Assign [.Name y py] (.ListComp elt [⟨tg, iter, ifs, 0⟩] scope pos) spos) (sSet i (mPeek (mComp mi (own'.map (·.2)) g t m))) := PS.imp (ps_setLc hc hN hy hyl hsw hi ok hg ht he hs) fun D σ H h => rd_lc hjs σ H _ (rd_peek σ H _ (rd_set hP D σ H h))
end
/-! running -/
section
variable {ρ : List Sl} {ms : MA} {m mi a b : M} {t : MT}
@[simp] theorem r_lstO : mLstO ms ρ = (ms ρ).bind fun y => (ownA y.1).bind fun ss => ifc (ss.length ≤ sizeLine) (some (.own (.nl ss), y.2)) none := rfl
@[simp] theorem r_tupO : mTupO ms ρ = (ms ρ).bind fun y => (ownA y.1).bind fun ss => ifc (ss.length ≤ sizeLine) (some (.own (.nt ss), y.2)) none := rfl
@[simp] theorem r_ixO : mIxO a b ρ = (a ρ).bind fun x => match x.1 with
  | .own (.nl ss) => (b (pk x.2)).bind fun y => match y.1 with
    | .val (.int i) => (atI ss i).bind fun s => match s with
      | .no => none
      | s => some (.own s, x.2)
    | _ => none
  | _ => none := rfl
@[simp] theorem r_push (i : Nat) : mPush i m ρ = (m (pk ρ)).bind fun x => match x.1 with
  | .bor _ => none
  | r => if r.sl.flat = true then match ρ[i]? with
    | some (.nl ss) => ifc (ss.length < sizeLine) (some (.val .non, ρ.set i (.nl (ss ++ [r.sl])))) none
    | _ => none
    else none := rfl
@[simp] theorem r_mutIx (f : List D → List D → Option (D × List D)) (i : Nat) : mMutIx f i mi ms ρ = (mi (pk ρ)).bind fun x => match x.1 with
  | .val (.int k) => (ms (pk ρ)).bind fun y => (scR y.1).bind fun ds => match ρ[i]? with
    | some (.nl ss) => (ixN ss.length k).bind fun j => match ss[j]? with
      | some (.ow xs) => (f xs ds).map fun w => (.val w.1, ρ.set i (.nl (ss.set j (.ow w.2))))
      | _ => none
    | _ => none
  | _ => none := rfl
@[simp] theorem r_alias (f : List D → List D → Option (D × List D)) (i q : Nat) : sAlias f i q mi ms ρ = (mi (pk ρ)).bind fun x => match x.1 with
  | .val (.int k) => (ρ[q]?).bind fun _ => (ms (pk (ρ.set q .no))).bind fun y => (scR y.1).bind fun ds => match (ρ.set q .no)[i]? with
    | some (.nl ss) => (ixN ss.length k).bind fun j => match ss[j]? with
      | some (.ow xs) => (f xs ds).map fun w => (.nx, (ρ.set q .no).set i (.nl (ss.set j (.ow w.2))))
      | _ => none
    | _ => none
  | _ => none := rfl
@[simp] theorem r_compO (it : MI) (vs : List Nat) (g : D → List Sl → Option (List Sl)) : mCompO it vs g t a ρ = (it ρ).bind fun x => (compDO x.1.bs vs g t a x.1.items [] (wipeS x.2 vs)).map fun y => (.own (.nl y.1), y.2) := rfl
@[simp] theorem ownA_nil : ownA [] = some [] := rfl
@[simp] theorem ownA_val (d : D) (rs : List Rv) : ownA (.val d :: rs) = (ownA rs).map (.fz d :: ·) := rfl
@[simp] theorem ownA_ow (xs : List D) (rs : List Rv) : ownA (.own (.ow xs) :: rs) = (ownA rs).map (.ow xs :: ·) := rfl
@[simp] theorem ownA_nl (xs : List Sl) (rs : List Rv) : ownA (.own (.nl xs) :: rs) = (ownA rs).map (.nl xs :: ·) := rfl
@[simp] theorem scR_nil : scR [] = some [] := rfl
@[simp] theorem scR_int (i : Int) (rs : List Rv) : scR (.val (.int i) :: rs) = (scR rs).map (.int i :: ·) := rfl
@[simp] theorem scR_non (rs : List Rv) : scR (.val .non :: rs) = (scR rs).map (.non :: ·) := rfl
@[simp] theorem scR_str (i : Str) (rs : List Rv) : scR (.val (.str i) :: rs) = (scR rs).map (.str i :: ·) := rfl
@[simp] theorem scR_bl (i : Bool) (rs : List Rv) : scR (.val (.bl i) :: rs) = (scR rs).map (.bl i :: ·) := rfl
end
end
end FW

/-! owning lists, plainly -/
namespace FW
open PySem L2
@[simp] theorem sizeLt (n : Nat) (h : n < 1000000) : n < sizeLine := by rw [sizeLine_eq]; omega
@[simp] theorem toDL_nil : toDL [] = some [] := by unfold toDL; rfl
@[simp] theorem toDL_cons (s : Sl) (ss : List Sl) : toDL (s :: ss) = s.toD.bind fun d => (toDL ss).map (d :: ·) := by
  rw [toDL]
  cases s.toD <;> simp
  cases toDL ss <;> simp
@[simp] theorem toDL_app : ∀ (a b : List Sl), toDL (a ++ b) = (toDL a).bind fun x => (toDL b).map (x ++ ·)
  | [], b => by
    rw [List.nil_append, toDL_nil]
    cases toDL b <;> rfl
  | s :: a, b => by
    rw [List.cons_append, toDL_cons, toDL_cons, toDL_app a b]
    cases s.toD <;> simp
    cases toDL a <;> simp
    cases toDL b <;> simp
@[simp] theorem toDL_map (xss : List (List D)) : toDL (xss.map Sl.ow) = some (xss.map D.lst) := toDL_ows xss
@[simp] theorem toD_nl (ss : List Sl) : Sl.toD (.nl ss) = (toDL ss).map .lst := by rw [Sl.toD]
@[simp] theorem toD_nt (ss : List Sl) : Sl.toD (.nt ss) = (toDL ss).map .tup := by rw [Sl.toD]
@[simp] theorem pk_nl (ss : List Sl) : Sl.peek (.nl ss) = match toDL ss with
    | some ds => .fz (.lst ds)
    | none => .no := by
  unfold Sl.peek
  rw [toD_nl]
  cases toDL ss <;> rfl
@[simp] theorem pk_nt (ss : List Sl) : Sl.peek (.nt ss) = match toDL ss with
    | some ds => .fz (.tup ds)
    | none => .no := by
  unfold Sl.peek
  rw [toD_nt]
  cases toDL ss <;> rfl
@[simp] theorem flatL_nil : flatL [] = true := by unfold flatL; rfl
@[simp] theorem flatL_cons (s : Sl) (ss : List Sl) : flatL (s :: ss) = (s.flat && flatL ss) := by rw [flatL]
@[simp] theorem flatL_ints (xss : List (List Int)) : flatL (xss.map fun x => Sl.ow (dI x)) = true := by
  rw [flatL_iff]
  intro s hs
  obtain ⟨x, _, rfl⟩ := List.mem_map.mp hs
  simp [scV]
@[simp] theorem flatL_ints' (xss : List (List Int)) : flatL ((xss.map dI).map Sl.ow) = true := by
  rw [List.map_map]
  exact flatL_ints xss
theorem compO_run {bs : List (Nat × List D)} {vs : List Nat} {g : D → List Sl → Option (List Sl)} {t : MT} {m : M} {items : List D} {ρ : List Sl} (F : D → Option Sl) (hc : chk ρ bs) (hl : items.length ≤ 1000000)
    (hs : ∀ d ∈ items, ∃ ρ1 c ρ2, g d ρ = some ρ1 ∧ t ρ1 = some (c, ρ2) ∧ if c = true then ∃ r ρ3 x, m ρ2 = some (r, ρ3) ∧ ownR r = some x ∧ F d = some x ∧ wipeS ρ3 vs = ρ else F d = none ∧ wipeS ρ2 vs = ρ) :
    compDO bs vs g t m items [] ρ = some (items.filterMap F, ρ) := by
  have key : ∀ (its : List D) (acc : List Sl), (∀ d ∈ its, d ∈ items) → acc.length + its.length ≤ 1000000 → compDO bs vs g t m its acc ρ = some (acc ++ its.filterMap F, ρ) := by
    intro its
    induction its with
    | nil => intro acc _ _; unfold compDO; rw [if_pos hc]; simp
    | cons d its ih =>
      intro acc hm hn
      obtain ⟨ρ1, c, ρ2, a1, a2, a3⟩ := hs d (hm d (by simp))
      rw [List.length_cons] at hn
      unfold compDO
      rw [if_pos hc, a1]
      show (t ρ1).bind _ = _
      rw [a2]
      show (if c = true then _ else _) = _
      cases c with
      | true =>
        rw [if_pos rfl] at a3 ⊢
        obtain ⟨r, ρ3, x, b1, b2, b3, b4⟩ := a3
        rw [b1]
        show (ownR r).bind _ = _
        rw [b2]
        show (@ite _ (acc.length < sizeLine) (Classical.propDecidable _) (compDO bs vs g t m its (acc ++ [x]) (wipeS ρ3 vs)) none) = _
        have hz : acc.length < sizeLine := by
          show acc.length < 16777216
          omega
        rw [if_pos hz]
        show compDO bs vs g t m its (acc ++ [x]) (wipeS ρ3 vs) = _
        rw [b4, ih (acc ++ [x]) (fun e he => hm e (by simp [he])) (by rw [List.length_append, List.length_singleton]; omega)]
        simp [b3]
      | false =>
        rw [if_neg (by decide)] at a3 ⊢
        rw [a3.2, ih acc (fun e he => hm e (by simp [he])) (by omega)]
        simp [a3.1]
  have := key items [] (fun _ h => h) (by simpa using hl)
  simpa using this
end FW

/-! reversed(..) walked; the items of an own list changed one by one; own tuples taken apart -/
namespace FW
noncomputable section
open PySem L2
section
variable {X : Cx} {a b e o tg elt iter : Expr} {es : List Expr} {ma mb mi : M} {ms : MA} {pos p p2 cpos apos spos : Pos} {K : PySem.W.Frag} {mg : Str → Option Value} {P : Nat → Prop} {st : Stmt} {rest : List Stmt} {sa sb : MS} {js : List Nat}
def iRv (js : List Nat) (m : M) : MI := fun ρ => (m ρ).bind fun x => (srcOf js x.2 x.1).map fun y => (⟨y.1.reverse, y.2⟩, x.2)
theorem itok_rev {xs : List D} {bs : List (Nat × List D)} {ds : List Cl} {ws : L2.St} {a : Addr} (h : SrcL K mg xs bs ds js ws a) : ItOk K mg (Itv K a xs.length) ⟨xs.reverse, bs⟩ ds js ws where
  stop := fun i cs G H rs hck hw hi => by
    show xs.length ≤ i
    simpa using hi
  go := fun i cs G H rs hck hw hi => by
    obtain ⟨vs, q1, q2⟩ := h.at_ cs G H rs hck hw
    have hi : i < xs.reverse.length := hi
    rw [List.length_reverse] at hi
    have hv : xs.length - 1 - i < vs.length := by rw [q2.length]; omega
    exact ⟨hi, vs, vs[xs.length - 1 - i], q1, List.getElem?_eq_getElem hv⟩
  yld := fun i cs G H v H' d rs hck hw hi hy => by
    obtain ⟨vs, q1, q2⟩ := h.at_ cs G H rs hck hw
    obtain ⟨e, hy⟩ := hy
    subst e
    obtain ⟨d', e1, e2⟩ := q2.getV (hy vs q1)
    have hi : xs.reverse[i]? = some d := hi
    have hl : i < xs.length := by
      have := (List.getElem?_eq_some_iff.mp hi).1
      simpa using this
    rw [List.getElem?_reverse hl] at hi
    rw [hi] at e1; cases e1
    exact ⟨G, rs, Stp.refl, e2⟩
theorem si_rev (hg : Gl X "reversed") (hm : X.mg "reversed" = none) (ha : SE X a ma) (hs : starEach [a] X.env = [(false, eval a X.env)] := by rfl) : SI X js tg (.Call (.Name "reversed" p) [a] [] pos) (iRv js ma) := PI.imp (pi_reversed hg hm (pa_single ha hs) hs) fun σ H Q h => by
  obtain ⟨cs, G, x, ρ', e1, rs, hm, k⟩ := h
  obtain ⟨⟨r1, ρ1⟩, h1, hm⟩ := Option.bind_eq_some_iff.mp hm
  obtain ⟨⟨xs, bs⟩, h2, hm⟩ := Option.map_eq_some_iff.mp hm
  cases hm
  refine ⟨cs, G, r1, ρ1, e1, rs, h1, fun cs1 v B G1 H1 f1 f2 fb rs1 st1 => ?_⟩
  have rs1' : Res X.K X.mg G1 H1 ([(⟨some v, r1.sl, B⟩ : Cl)] ++ cs1) := rs1
  obtain ⟨a', q1, q2⟩ := srcL_of (bs' := bs) h2 rs1' f2 f1 List.mem_cons_self rfl rfl fb fun _ hq => hq
  obtain ⟨vs, q3, q4⟩ := q2.at_ cs1 G1 H1 rs1' (by rw [f2]; exact chk_src h2) (fun j _ => by rw [f1])
  refine ⟨a', vs, by rw [q1], q3, ?_⟩
  rw [q4.length]
  exact k cs1 [_] _ G1 H1 f1 f2 rs1' st1 (itok_rev q2)
/-! for x in xs: x.append(c) -/
def appAll (d : D) : List Sl → Option (List Sl)
  | [] => some []
  | .ow xs :: ss => @ite _ (xs.length < sizeLine) (Classical.propDecidable _) ((appAll d ss).map (.ow (xs ++ [d]) :: ·)) none
  | _ :: _ => none
theorem appAll_at {d : D} : ∀ {ss ss' : List Sl}, appAll d ss = some ss' → ss'.length = ss.length ∧ ∀ (j : Nat) (s : Sl), ss[j]? = some s → ∃ xs : List D, s = .ow xs ∧ xs.length < sizeLine ∧ ss'[j]? = some (.ow (xs ++ [d]))
  | [], ss', e => by
    cases e
    exact ⟨rfl, fun j s h => by simp at h⟩
  | s0 :: ss, ss', e => by
    unfold appAll at e
    split at e
    · cases ‹_ = []›
    · rename_i xs ss0 heq
      cases heq
      split at e
      · rename_i hl
        obtain ⟨r, e1, e2⟩ := Option.map_eq_some_iff.mp e
        subst e2
        obtain ⟨h1, h2⟩ := appAll_at e1
        refine ⟨by simp [h1], fun j s h => ?_⟩
        cases j with
        | zero =>
          have h : Sl.ow xs = s := by simpa using h
          subst h
          exact ⟨xs, rfl, hl, rfl⟩
        | succ j =>
          have h : ss[j]? = some s := by simpa using h
          obtain ⟨ys, f1, f2, f3⟩ := h2 j s h
          exact ⟨ys, f1, f2, by simpa using f3⟩
      · cases e
    · cases e
def sForApp (i q : Nat) (d : D) : MS := fun ρ => (ρ[q]?).bind fun _ => match ρ[i]? with
  | some (.nl ss) => (appAll d ss).map fun ss' => (.nx, (ρ.set q .no).set i (.nl ss'))
  | _ => none
theorem take_drop_set {α : Type} {l l' : List α} {j : Nat} {x : α} (hl : l'.length = l.length) (hx : l'[j]? = some x) : (l'.take j ++ l.drop j).set j x = l'.take (j + 1) ++ l.drop (j + 1) := by
  have hj := (List.getElem?_eq_some_iff.mp hx).1
  apply List.ext_getElem?
  intro m
  have lt : (l'.take j).length = j := by rw [List.length_take]; omega
  have lt2 : (l'.take (j + 1)).length = j + 1 := by rw [List.length_take]; omega
  by_cases z : m = j
  · subst z
    rw [List.getElem?_set_self (by rw [List.length_append, lt, List.length_drop]; omega), List.getElem?_append_left (by omega), List.getElem?_take_of_lt (by omega), hx]
  · rw [List.getElem?_set_ne (Ne.symm z)]
    by_cases h : m < j
    · rw [List.getElem?_append_left (by omega), List.getElem?_append_left (by omega), List.getElem?_take_of_lt h, List.getElem?_take_of_lt (by omega)]
    · rw [List.getElem?_append_right (by omega), List.getElem?_append_right (by omega), lt, lt2, List.getElem?_drop, List.getElem?_drop]
      congr 1; omega
theorem td_at {α : Type} {l l' : List α} {j : Nat} (hl : l'.length = l.length) (hj : j < l.length) : (l'.take j ++ l.drop j)[j]? = l[j]? := by
  have lt : (l'.take j).length = j := by rw [List.length_take]; omega
  rw [List.getElem?_append_right (by omega), lt, Nat.sub_self, List.getElem?_drop, Nat.add_zero]
theorem ss_forApp {x y : Str} {np yp yp2 pos3 : Pos} {c : Int} {jj : Nat} {kp : Pos} (i q : Nat) (hp : PassesOwn (model X.prog X.w) X.A X.env X.xe) (hc : X.calm = true) (hnd : X.N.Nodup) (hy : X.N[q]? = some y) (hly : Loc X.env.scope y) (hP : ¬ P q) (hPi : True) (hiq : q ≠ i)
    (hN : X.N[i]? = some x := by rfl) (hv : Vis X.env.scope x := by first | exact Or.inl rfl | exact Or.inr (Or.inl rfl) | exact Or.inr (Or.inr rfl)) (hd : (x == ("__debug__" : Str)) = false := by decide) (hcd : (x == ("__classdict__" : Str)) = false := by decide)
    (hvy : Vis X.env.scope y := by first | exact Or.inl rfl | exact Or.inr (Or.inl rfl) | exact Or.inr (Or.inr rfl)) (hdy : (y == ("__debug__" : Str)) = false := by decide) (hcdy : (y == ("__classdict__" : Str)) = false := by decide)
    (hf : X.fn y = true ∨ X.env.scope.names.lookup y = some .local := by first | exact .inl rfl | exact .inr rfl | assumption)
    (hbase : attributeBase (.Name y yp2) "append" X.env (eval (.Name y yp2) X.env) = eval (.Name y yp2) X.env := by rfl)
    (hfew : ((backTo cpos (starEach [.Constant (.int c) jj kp] X.env)).all (fun x => !x.1) && (backToKw cpos (keywordEach [] X.env)).all (fun x => x.1.isSome)
      && decide ([Expr.Constant (.int c) jj kp].length + ([] : List Keyword).length + (if ([] : List Keyword).isEmpty then 0 else 1) < 30)) = true := by rfl)
    (hline : (apos.endLine == cpos.line) = true := by rfl) (hs : starEach [.Constant (.int c) jj kp] X.env = (false, eval (.Constant (.int c) jj kp) X.env) :: starEach [] X.env := by rfl) (hplain : (backTo cpos (starEach [] X.env)).any (·.1) = false := by rfl)
    (hsw2 : swapsWith (.Call (.Attribute (.Name y yp2) "append" apos) [.Constant (.int c) jj kp] [] cpos) none pos3.line X.env = pure false := by rfl)
    (hfs : ∀ z, foldedSetIterable (.Name x np) X.env z = pure z := by intro _; rfl) :
    SS X P (.For (.Name y yp) (.Name x np) [.Expr (.Call (.Attribute (.Name y yp2) "append" apos) [.Constant (.int c) jj kp] [] cpos) pos3] [] pos) (sForApp i q (.int c)) :=
  PS.imp (ps_for hp hc (pi_list (pe_var hN hv hd hcd)) (pg_name hnd hy hly hf) (pss_one (ps_expr (pe_bm PySem.F.plainAttrs_list PySem.F.slot_list_append PySem.F.type_list_append mt_append (pe_var hy hvy hdy hcdy) (pa_single pe_int hs) hbase hfew hline hs hplain) hsw2)) hfs) fun D σ H h => by
    obtain ⟨cs, G, k, ρ', e1, rs, hm, kk⟩ := h
    obtain ⟨sq, hsq, hm⟩ := Option.bind_eq_some_iff.mp hm
    split at hm
    · rename_i ss ei
      obtain ⟨ss', h1, hm⟩ := Option.map_eq_some_iff.mp hm
      cases hm
      subst e1
      obtain ⟨a, ws, As, q1, q2, q3, q4, q5, q6⟩ := nl_cell rs ei
      obtain ⟨hl, hat⟩ := appAll_at h1
      refine ⟨.ref a, q2, a, rfl, ⟨ws, SqL.of q3⟩, ?_⟩
      have hql : q < cs.length := by
        have := (List.getElem?_eq_some_iff.mp hsq).1
        simpa using this
      obtain ⟨cs1, w1, w2, w3, w4⟩ := wipe1 rs q
      have lw : ws.length = ss.length := q4.length
      let W : Nat → Nat → L2.St → Hp → Prop := fun n m σ' H' => m = ss.length - n ∧ n ≤ ss.length ∧ ∃ cs' As', vals cs' = σ' ∧ cs'.length = cs.length ∧ (∀ j, P j → (vals cs')[j]? = (vals cs)[j]?) ∧ Res X.K X.mg G H' cs' ∧ Stp (own cs) G H (own cs') G H' ∧
        slots cs' = ((slots cs).set q .no).set i (.nl (ss'.take n ++ ss.drop n)) ∧ cs'[i]? = some ⟨some (.ref a), .nl (ss'.take n ++ ss.drop n), a :: As'⟩
      have ei' : ((slots cs).set q .no)[i]? = some (.nl ss) := by rw [List.getElem?_set_ne hiq]; exact ei
      have s0 : ((slots cs).set q .no).set i (.nl ss) = (slots cs).set q .no := by
        obtain ⟨hi, e⟩ := List.getElem?_eq_some_iff.mp ei'
        rw [← e, List.set_getElem_self]
      refine ⟨W, ⟨ss.length, rfl, Nat.zero_le _, cs1, ?_⟩, ?_⟩
      · have ei1 : (slots cs1)[i]? = some (.nl ss) := by rw [w2]; exact ei'
        obtain ⟨a1, ws1, As1, p1, p2, p3, p4, p5, p6⟩ := nl_cell w3 ei1
        have ea : a1 = a := by
          rw [w1, q2] at p2
          exact (V.ref.inj (Option.some.inj (Option.some.inj p2))).symm
        subst ea
        refine ⟨As1, w1, len_of w1, fun j hj => by rw [w1], w3, Stp.refl.weak w4, ?_, ?_⟩
        · rw [w2, List.take_zero, List.nil_append, List.drop_zero, s0]
        · rw [p1, List.take_zero, List.nil_append, List.drop_zero]
      · rintro n m σ' H' ⟨rfl, hn, cs2, As2, g1, g2, g3, g4, g5, g6, g7⟩
        subst g1
        have g6i : (slots cs2)[i]? = some (.nl (ss'.take n ++ ss.drop n)) := by rw [List.getElem?_map, g7]; rfl
        obtain ⟨a2, ws2, As3, p1, p2, p3, p4, p5, p6⟩ := nl_cell g4 g6i
        rw [g7] at p1
        have pe := Option.some.inj p1
        have ea : a2 = a := by
          have := congrArg Cl.v pe
          exact (V.ref.inj (Option.some.inj this)).symm
        have eA : As3 = As2 := by
          have := congrArg Cl.A pe
          exact ((List.cons.inj this).2).symm
        subst ea; subst eA
        have lmix : (ss'.take n ++ ss.drop n).length = ss.length := by rw [List.length_append, List.length_take, List.length_drop]; omega
        have lw2 : ws2.length = ss.length := by rw [p4.length, lmix]
        by_cases hlt : n < ss.length
        · obtain ⟨s, hs'⟩ : ∃ s, ss[n]? = some s := ⟨_, List.getElem?_eq_getElem hlt⟩
          obtain ⟨xs, rfl, hxl, hx'⟩ := hat n s hs'
          have hmix : (ss'.take n ++ ss.drop n)[n]? = some (.ow xs) := by rw [td_at hl hlt]; exact hs'
          obtain ⟨b, us, b1, b2, b3, b4, b5⟩ := p4.item (List.nodup_cons.mp p5).2 hmix
          refine .inr ⟨⟨ws2, .ref b, SqL.of p3, b1⟩, W (n + 1) (ss.length - (n + 1)), fun σ3 H3 w => ⟨_, by omega, w⟩, fun v H3 hy => ?_⟩
          obtain ⟨rfl, hy⟩ := hy
          have ev : v = .ref b := by
            have := hy ws2 (SqL.of p3)
            rw [b1] at this
            exact (Option.some.inj this).symm
          subst ev
          show tDrop _ _ ((vals cs2).set q (some (.ref b))) H3
          have rq : Res X.K X.mg G H3 (cs2.set q ⟨some (.ref b), .no, []⟩) := (g4.addNo (some (.ref b))).put q
          have sqs : ∀ x ∈ own (cs2.set q ⟨some (.ref b), .no, []⟩), x ∈ own cs2 := fun x hx => by simpa [own_cons] using own_put q x hx
          have evv : (vals cs2).set q (some (.ref b)) = vals (cs2.set q ⟨some (.ref b), .no, []⟩) := by rw [vals_set]
          have eq1 : (cs2.set q ⟨some (.ref b), .no, []⟩)[i]? = some ⟨some (.ref a2), .nl (ss'.take n ++ ss.drop n), a2 :: As3⟩ := by rw [List.getElem?_set_ne hiq]; exact g7
          rw [evv]
          have hqv : (vals (cs2.set q ⟨some (.ref b), .no, []⟩))[q]? = some (some (.ref b)) := by
            rw [← evv, List.getElem?_set_self (by simp [g2]; exact hql)]
          refine ⟨.ref b, hqv, .inl ⟨rfl, us, SqL.of b3⟩, b, us, .int c, rfl, rfl, b3, by rw [b4.length]; exact hxl, ?_⟩
          have wr := Res.write (H' := upd H3 b (.lst (us ++ [.int c]))) (c' := ⟨some (.ref a2), .nl ((ss'.take n ++ ss.drop n).set n (.ow (xs ++ [.int c]))), a2 :: As3⟩) rq eq1 (fun z hz => upd_ne fun y => hz (by
              show z ∈ a2 :: As3
              rw [y]; simp [b2])) (.inr ⟨_, rfl, .nl (by
              rw [upd_ne fun z => (List.nodup_cons.mp p5).1 (by rw [z]; exact b2)]
              exact p3) (b5 _ _ (b4.append (.cons (.int c) .nil)))⟩) rfl (fun z hz => by
              by_cases y : z = b
              · rw [y, upd_same]; simp
              · rw [upd_ne y]
                exact rq.there z (mem_own.mpr ⟨_, List.mem_of_getElem? eq1, hz⟩))
          rw [take_drop_set hl hx'] at wr
          have ev2 : vals ((cs2.set q ⟨some (.ref b), .no, []⟩).set i ⟨some (.ref a2), .nl (ss'.take (n + 1) ++ ss.drop (n + 1)), a2 :: As3⟩) = vals (cs2.set q ⟨some (.ref b), .no, []⟩) := set_vals (c' := ⟨some (.ref a2), .nl (ss'.take (n + 1) ++ ss.drop (n + 1)), a2 :: As3⟩) eq1 rfl
          refine ⟨rfl, hlt, _, As3, ev2, by simp [g2], fun j hj => ?_, wr.1, ?_, ?_, ?_⟩
          · rw [ev2, ← evv, List.getElem?_set_ne, g3 j hj]
            rintro rfl
            exact hP hj
          · have s1 : Stp (own cs2) G H3 (own (cs2.set q ⟨some (.ref b), .no, []⟩)) G H3 := Stp.refl.weak sqs
            exact g5.trans (s1.trans wr.2)
          · rw [slots_set, slots_set, g6]
            show ((((slots cs).set q .no).set i _).set q .no).set i _ = _
            rw [List.set_comm _ _ hiq.symm, List.set_set, List.set_set]
          · rw [List.getElem?_set_self]
            rw [List.length_set, g2]
            have := (List.getElem?_eq_some_iff.mp ei).1
            simpa using this
        · have en : n = ss.length := by omega
          subst en
          refine .inl ⟨⟨ws2, SqL.of p3, by omega⟩, ?_⟩
          refine KS.nx kk ?_ g2 g3 g4 g5
          rw [g6, List.drop_length, List.append_nil, ← hl, List.take_length]
    · cases hm
end
section
variable {ρ : List Sl} {m : M}
@[simp] theorem r_iRv (js : List Nat) : iRv js m ρ = (m ρ).bind fun x => (srcOf js x.2 x.1).map fun y => (⟨y.1.reverse, y.2⟩, x.2) := rfl
@[simp] theorem r_forApp (i q : Nat) (d : D) : sForApp i q d ρ = (ρ[q]?).bind fun _ => match ρ[i]? with
  | some (.nl ss) => (appAll d ss).map fun ss' => (.nx, (ρ.set q .no).set i (.nl ss'))
  | _ => none := rfl
theorem appAll_ows (d : D) : ∀ (xss : List (List D)), (∀ xs ∈ xss, xs.length < 1000000) → appAll d (xss.map Sl.ow) = some ((xss.map fun xs => xs ++ [d]).map Sl.ow)
  | [], _ => rfl
  | xs :: xss, h => by
    have h1 := h xs (by simp)
    have ih := appAll_ows d xss fun y hy => h y (by simp [hy])
    rw [List.map_cons, List.map_cons, List.map_cons]
    show (@ite _ (xs.length < sizeLine) (Classical.propDecidable _) ((appAll d (xss.map Sl.ow)).map (.ow (xs ++ [d]) :: ·)) none) = _
    rw [if_pos (by rw [sizeLine_eq]; omega), ih]; rfl
end
end
end FW

/-! an own tuple taken apart -/
namespace FW
noncomputable section
open PySem L2
section
variable {X : Cx} {a b e o tg elt iter : Expr} {es : List Expr} {ma mb mi : M} {ms : MA} {pos p p2 cpos apos spos : Pos} {K : PySem.W.Frag} {mg : Str → Option Value} {P : Nat → Prop} {st : Stmt} {rest : List Stmt} {sa sb : MS} {js : List Nat}
def unpS (ρ : List Sl) : List Nat → List Sl → Option (List Sl)
  | [], [] => some ρ
  | i :: is, s :: ss => unpS (ρ.set i s) is ss
  | _, _ => none
theorem unpS_len : ∀ {is : List Nat} {ss ρ ρ' : List Sl}, unpS ρ is ss = some ρ' → ss.length = is.length
  | [], [], _, _, _ => rfl
  | _ :: _, _ :: _, _, _, e => by
    unfold unpS at e
    simp [unpS_len e]
  | [], _ :: _, _, _, e => by unfold unpS at e; cases e
  | _ :: _, [], _, _, e => by unfold unpS at e; cases e
theorem unpS_ok {G H : Hp} : ∀ {is : List Nat} {ds : List Cl} {vs : List V} {cs : List Cl} {ρ' : List Sl} {Q : L2.St → Hp → Prop}, (∀ i ∈ is, ¬ P i) → Res K mg G H (ds ++ cs) → vals ds = vs.map some → unpS (slots cs) is (slots ds) = some ρ' →
    (∀ cs', slots cs' = ρ' → cs'.length = cs.length → (∀ j, P j → (vals cs')[j]? = (vals cs)[j]?) → Res K mg G H cs' → (∀ b ∈ own cs', b ∈ own (ds ++ cs)) → Q (vals cs') H) → gNames is vs (vals cs) H Q
  | [], [], vs, cs, ρ', Q, hP, rs, e1, e, k => by
    have : vs = [] := by cases vs <;> simp [vals] at e1 ⊢
    subst this
    cases e
    exact ⟨rfl, k cs rfl rfl (fun _ _ => rfl) rs fun _ h => h⟩
  | i :: is, c :: ds, vs, cs, ρ', Q, hP, rs, e1, e, k => by
    cases vs with
    | nil => simp [vals] at e1
    | cons v vs =>
      simp only [vals, List.map_cons, List.cons.injEq] at e1
      refine ⟨v, vs, rfl, ?_⟩
      show gNames is vs ((vals cs).set i (some v)) H Q
      have hp : List.Perm (c :: ds ++ cs) (ds ++ (c :: cs)) := List.perm_middle.symm
      have r1 := rs.perm hp
      have r2 : Res K mg G H (ds ++ cs.set i c) := Res.frame r1 (Stp.refl.weak (own_put i)) (r1.right.put i)
      have ev : (vals cs).set i (some v) = vals (cs.set i c) := by rw [vals_set, e1.1]
      rw [ev]
      have sub : ∀ b ∈ own (ds ++ cs.set i c), b ∈ own (c :: ds ++ cs) := fun b hb => by
        refine (own_perm hp).mem_iff.mpr ?_
        rw [own_append] at hb ⊢
        rcases List.mem_append.mp hb with z | z
        · exact List.mem_append_left _ z
        · exact List.mem_append_right _ (own_put i b z)
      refine unpS_ok (ds := ds) (fun j hj => hP j (by simp [hj])) r2 e1.2 (by rw [slots_set]; exact e) fun cs' f1 f2 f3 f4 f5 => k cs' f1 (by rw [f2, List.length_set]) (fun j hj => ?_) f4 fun b hb => sub b (f5 b hb)
      rw [f3 j hj, vals_set, List.getElem?_set_ne]
      rintro rfl
      exact hP i (by simp) hj
  | [], _ :: _, _, _, _, _, _, _, _, e, _ => by unfold unpS at e; cases e
  | _ :: _, [], _, _, _, _, _, _, _, e, _ => by unfold unpS at e; cases e
def sUnpO (is : List Nat) (m : M) : MS := fun ρ => (m ρ).bind fun x => match x.1 with
  | .own (.nt ss) => (unpS x.2 is ss).map fun ρ2 => (.nx, ρ2)
  | .bor i => match x.2[i]? with
    | some (.nt ss) => (unpS (x.2.set i .no) is ss).map fun ρ2 => (.nx, ρ2)
    | _ => none
  | _ => none
theorem ss_unpO {is : List Nat} {ts : List Expr} {kk : Nat} {tp : Pos} (hc : X.calm = true) (he : SE X e ma) (hg : PGs X ts (gNames is)) (hP : ∀ i ∈ is, ¬ P i) (hn : (assignEach ts X.env).length = is.length := by rfl) (hst : (assignEach ts X.env).findIdx? (·.1) = none := by rfl)
    (hs : swapsWithSole [.Tuple ts kk tp] e pos.line X.env = pure false := by rfl) (hw : swappedStores [.Tuple ts kk tp] e X.env = pure none := by rfl) (h1 : (assignEach [.Tuple ts kk tp] X.env).map (·.2) = [assign (.Tuple ts kk tp) X.env] := by rfl) :
    SS X P (.Assign [.Tuple ts kk tp] e pos) (sUnpO is ma) := PS.imp (ps_asg he (pg_tup hc hg hn hst) hs hw h1) fun D σ H h => by
  obtain ⟨cs, G, k, ρ', e1, rs, hm, q⟩ := h
  obtain ⟨⟨r1, ρ1⟩, h1, hm⟩ := Option.bind_eq_some_iff.mp hm
  refine ⟨cs, G, r1, ρ1, e1, rs, h1, fun cs1 v B G1 H1 f1 f2 fb rs1 st1 => ?_⟩
  subst e1
  have go : ∀ (cs2 : List Cl) (A : List Addr) (ss ρ2 : List Sl), vals cs2 = vals cs → Res X.K X.mg G1 H1 (⟨some v, .nt ss, A⟩ :: cs2) → Stp (own cs) G H (own (⟨some v, .nt ss, A⟩ :: cs2)) G1 H1 → unpS (slots cs2) is ss = some ρ2 → k = .nx → ρ2 = ρ' →
      (∃ a vs, v = .ref a ∧ SqT X.K H1 a vs ∧ vs.length = is.length ∧ gNames is vs (vals cs) H1 D.nx) := fun cs2 A ss ρ2 g1 g2 g3 g4 g5 g6 => by
    subst g5; subst g6
    obtain ⟨a, ws, ds, rfl, p1, p2, p3, p4, p5⟩ := g2.openedT
    have hl : ws.length = is.length := by rw [vals_len p2, p3, unpS_len g4]
    refine ⟨a, ws, rfl, SqT.of p1, hl, ?_⟩
    rw [← g1]
    refine unpS_ok (P := P) (ds := ds) hP p4 p2 (by rw [p3]; exact g4) fun cs' k1 k2 k3 k4 k5 => ?_
    exact KS.nx q k1 (k2.trans (len_of g1)) (fun j hj => by rw [k3 j hj, g1]) k4 ((g3.trans p5).weak k5)
  cases r1 with
  | val d => cases hm
  | own s =>
    dsimp only at hm
    split at hm
    · rename_i ss heq
      cases heq
      obtain ⟨ρ2, h2, hm⟩ := Option.map_eq_some_iff.mp hm
      cases hm
      exact go cs1 B ss _ f1 rs1 st1 (by rw [f2]; exact h2) rfl rfl
    · rename_i heq; cases heq
    · cases hm
  | bor i =>
    dsimp only at hm
    split at hm
    · rename_i ss es
      obtain ⟨ρ2, h2, hm⟩ := Option.map_eq_some_iff.mp hm
      cases hm
      have hv := fb i rfl
      rw [← f1] at hv
      obtain ⟨A, rs2, pm, g1⟩ := move_out rs1.tail (by rw [f2]; exact es) hv
      exact go (cs1.set i ⟨some v, .no, []⟩) A ss _ (g1.trans f1) rs2 (st1.back1.weak fun b hb => pm.mem_iff.mpr hb) (by rw [slots_set, f2]; exact h2) rfl rfl
    · cases hm
end
@[simp] theorem r_unpO {ρ : List Sl} {m : M} (is : List Nat) : sUnpO is m ρ = (m ρ).bind fun x => match x.1 with
  | .own (.nt ss) => (unpS x.2 is ss).map fun ρ2 => (.nx, ρ2)
  | .bor i => match x.2[i]? with
    | some (.nt ss) => (unpS (x.2.set i .no) is ss).map fun ρ2 => (.nx, ρ2)
    | _ => none
  | _ => none := rfl
@[simp] theorem unpS_nil (ρ : List Sl) : unpS ρ [] [] = some ρ := rfl
@[simp] theorem unpS_cons (ρ : List Sl) (i : Nat) (is : List Nat) (s : Sl) (ss : List Sl) : unpS ρ (i :: is) (s :: ss) = unpS (ρ.set i s) is ss := rfl
end
end FW

/-! len(set(xs)) -/
namespace FW
noncomputable section
open PySem L2
def ddp (ns : List Int) : List Int := PyProof.Rows.firstMet (fun i => ns.getD i 0) ns.length
def tLenSetA (K : PySem.W.Frag) (ta : TE) : TE := fun σ H Q => ta σ H fun x H1 => ∃ (l : Addr) (ns : List Int), x = .ref l ∧ SqL K H1 l (ns.map V.int) ∧ ns.length ≤ 4000 ∧ Q (.int ((ddp ns).length : Nat)) H1
open PySem.Spec PyProof.Rows in
theorem pe_lenSetA {X : Cx} {a : Expr} {ta : TE} {p p2 q pos : Pos} (hg : Gl X "len") (hm : X.mg "len" = none) (hg2 : Gl X "set") (hm2 : X.mg "set" = none) (ha : PE X a ta) (hc : X.calm = true := by rfl)
    (na : starEach [a] X.env = (false, eval a X.env) :: starEach [] X.env := by rfl) : PE X (.Call (.Name "len" p) [.Call (.Name "set" p2) [a] [] q] [] pos) (tLenSetA X.K ta) := by
  refine ⟨fun pins s σ H Q I h => ?_⟩
  refine Call_ (ld_blt I hg hm PySem.boot_len ?_)
  refine PyProof.Rows.callWith_builtin1 (PyProof.Rows.args_cons ?_ rfl) rfl rfl
  refine Call_ (ld_blt I hg2 hm2 PyProof.Rows.boot_set ?_)
  refine PyProof.Rows.callWith_type1 (PyProof.Rows.args_cons (thn (ha.run pins s σ H _ I h) fun v s1 ⟨x, H1, I1, r1, q1⟩ => PyProof.Rows.args_nil ?_) na) na rfl
  obtain ⟨l, ns, rfl, hq, hl, q1⟩ := q1
  cases r1
  obtain ⟨its, r, pl, hz⟩ := I1.list hq
  have hlen : its.toArray.size = ns.length := by rw [List.size_toArray, ← r.length, List.length_map]
  refine call_set_list (I1.ok.hd hc) pl.isList (by simpa using RZ.intsAre_vals r) (by rw [hlen]; unfold scanBound; omega) fun h' tk hS hk => ?_
  refine PyProof.Rows.args_nil ?_
  rw [hlen] at hS
  have hle : (ddp ns).length ≤ ns.length := PyProof.Rows.firstMet_length_le _ _
  obtain ⟨o, es, ep, t, ho, hex, hd, _, _, _, hf, hn⟩ := hS
  have I2 : Inv X pins σ H1 { s1 with heap := h', toks := tk } := I1.kept fun b o e => hk b o (Heap.lt_size e) e
  have hn' : es.size = (ddp ns).length := hn
  exact call_len_set ho hex hd hf (by rw [hn'] <;> omega) ⟨.int ((ddp ns).length : Nat), H1, I2.tok _, ⟨_, by rw [hn']⟩, q1⟩
def mLenSet (a : M) : M := fun ρ => (a ρ).bind fun x => (lsv x.2 x.1).bind fun xs => (ints? xs).bind fun ns => @ite _ (ns.length ≤ 4000) (Classical.propDecidable _) (some (.val (.int ((ddp ns).length : Nat)), x.2)) none
section
variable {X : Cx} {a : Expr} {ma : M} {p p2 q pos : Pos}
theorem b_lenSet (hm : X.mg "len" = none) (hm2 : X.mg "set" = none) (ha : SE X a ma) (hg : Gl X "len" := by rfl) (hg2 : Gl X "set" := by rfl) (hc : X.calm = true := by rfl) (na : starEach [a] X.env = (false, eval a X.env) :: starEach [] X.env := by rfl) :
    SE X (.Call (.Name "len" p) [.Call (.Name "set" p2) [a] [] q] [] pos) (mLenSet ma) := PE.imp (pe_lenSetA hg hm hg2 hm2 ha hc na) fun σ H Q h => by
  obtain ⟨cs, G, r, ρ', e1, rs, hm, k⟩ := h
  obtain ⟨⟨r1, ρ1⟩, h1, hm⟩ := Option.bind_eq_some_iff.mp hm
  obtain ⟨xs, h2, hm⟩ := Option.bind_eq_some_iff.mp hm
  obtain ⟨ns, h3, hm⟩ := Option.bind_eq_some_iff.mp hm
  split at hm
  · rename_i hl
    cases hm
    refine ⟨cs, G, r1, _, e1, rs, h1, fun cs1 v B G1 H1 f1 f2 fb rs1 st1 => ?_⟩
    obtain ⟨l, vs, p1, p2, p3⟩ := lsv_rep rs1.tail rs1.h1 rfl rfl (by rw [f1]; exact fb) (by rw [f2]; exact h2)
    have e3 := ints?_eq h3
    subst e3
    rw [Reps.ints p3] at p2
    exact ⟨l, ns, p1, p2, hl, Kn.fz k f1 f2 rs1.tail st1.back1 (.int _)⟩
  · cases hm
end
@[simp] theorem r_lenSet {ρ : List Sl} (a : M) : mLenSet a ρ = (a ρ).bind fun x => (lsv x.2 x.1).bind fun xs => (ints? xs).bind fun ns => ifc (ns.length ≤ 4000) (some (.val (.int ((ddp ns).length : Nat)), x.2)) none := rfl
/-! plainly -/
theorem fm_facts (f : Nat → Int) : ∀ i, (∀ x, x ∈ PyProof.Rows.firstMet f i ↔ x ∈ (List.range i).map f) ∧ ((PyProof.Rows.firstMet f i).length = i ↔ ((List.range i).map f).Nodup)
  | 0 => ⟨fun x => by simp [PyProof.Rows.firstMet_zero], by simp [PyProof.Rows.firstMet_zero]⟩
  | i + 1 => by
    obtain ⟨h1, h2⟩ := fm_facts f i
    have le := PyProof.Rows.firstMet_length_le f i
    rw [PyProof.Rows.firstMet_succ, List.range_succ, List.map_append]
    unfold PyProof.Rows.step_dedup
    by_cases hb : (PyProof.Rows.firstMet f i).any (· == f i) = true
    · rw [if_pos hb]
      have hm : f i ∈ PyProof.Rows.firstMet f i := by
        obtain ⟨x, hx, e⟩ := List.any_eq_true.mp hb
        have e : x = f i := by simpa using e
        rw [← e]; exact hx
      refine ⟨fun x => ?_, ⟨fun h => by omega, fun h => ?_⟩⟩
      · rw [h1, List.mem_append]
        constructor
        · exact .inl
        · rintro (z | z)
          · exact z
          · have z : x = f i := by simpa using z
            rw [z]; exact (h1 _).mp hm
      · exact absurd rfl ((List.nodup_append.mp h).2.2 _ ((h1 _).mp hm) (f i) (by simp))
    · rw [if_neg hb]
      have hm : f i ∉ PyProof.Rows.firstMet f i := fun hx => hb (List.any_eq_true.mpr ⟨_, hx, by simp⟩)
      refine ⟨fun x => by rw [List.mem_append, List.mem_append, h1]; simp, ?_⟩
      rw [List.length_append, List.length_singleton]
      constructor
      · intro h
        refine List.nodup_append.mpr ⟨h2.mp (by omega), by simp, fun x hx y hy e => ?_⟩
        have hy : y = f i := by simpa using hy
        subst e; rw [hy] at hx
        exact hm ((h1 _).mpr hx)
      · intro h
        have := h2.mpr (List.nodup_append.mp h).1
        omega
theorem ddp_nodup (ns : List Int) : (ddp ns).length = ns.length ↔ ns.Nodup := by
  unfold ddp
  rw [(fm_facts _ ns.length).2]
  have : (List.range ns.length).map (fun i => ns.getD i 0) = ns := by
    apply List.ext_getElem?
    intro i
    rw [List.getElem?_map]
    by_cases h : i < ns.length
    · rw [List.getElem?_range h, List.getElem?_eq_getElem h, Option.map_some, List.getD_eq_getElem?_getD, List.getElem?_eq_getElem h]; rfl
    · rw [List.getElem?_eq_none (by simpa using h), List.getElem?_eq_none (by omega)]; rfl
  rw [this]
end
end FW

/-! sorted(xs), xs a list of fewer than 64 pairs of ints from 0 on -/
namespace FW
noncomputable section
open PySem L2 PySem.W
def leP (p q : Int × Int) : Bool := decide (p.1 < q.1 ∨ (p.1 = q.1 ∧ p.2 ≤ q.2))
theorem leP_iff {p q : Int × Int} : leP p q = true ↔ (p.1 < q.1 ∨ (p.1 = q.1 ∧ p.2 ≤ q.2)) := by unfold leP; exact decide_eq_true_iff
theorem leP_trans (a b c : Int × Int) : leP a b = true → leP b c = true → leP a c = true := by
  rw [leP_iff, leP_iff, leP_iff]; omega
theorem leP_total (a b : Int × Int) : (leP a b || leP b a) = true := by
  rw [Bool.or_eq_true, leP_iff, leP_iff]; omega
def sortPs (ps : List (Int × Int)) : List (Int × Int) := ps.mergeSort leP
theorem sortPs_perm (ps : List (Int × Int)) : (sortPs ps).Perm ps := List.mergeSort_perm ps leP
theorem sortPs_pw (ps : List (Int × Int)) : (sortPs ps).Pairwise fun a b => leP a b = true := List.pairwise_mergeSort leP_trans leP_total ps
theorem pairs_unique {a b : List (Int × Int)} (h : a.Perm b) (h1 : a.Pairwise fun a b => leP a b = true) (h2 : b.Pairwise fun a b => leP a b = true) : a = b :=
  List.Perm.eq_of_pairwise (le := fun a b : Int × Int => leP a b = true) (fun x y _ _ hx hy => by
    rw [leP_iff] at hx hy
    exact Prod.ext (by omega) (by omega)) h1 h2 h
def OkP (ps : List (Int × Int)) : Prop := ps.length < 64 ∧ ∀ p ∈ ps, 0 ≤ p.1 ∧ 0 ≤ p.2
def sortPL (xs : List D) : Option Rv := (pairs? xs).bind fun ps => @ite _ (OkP ps) (Classical.propDecidable _) (some (.own (.ow ((sortPs ps).map pD)))) none
theorem r_sortPL {ps : List (Int × Int)} (h : OkP ps) : sortPL (ps.map pD) = some (.own (.ow ((sortPs ps).map pD))) := by
  unfold sortPL
  rw [pairs?_map]
  show @ite _ (OkP ps) (Classical.propDecidable _) _ _ = _
  rw [if_pos h]
section
variable {X : Cx} {K : PySem.W.Frag} {mg : Str → Option Value} {G H : Hp}
theorem rep_pair {p : Int × Int} {v : V} (h : Rep K mg H (pD p) v) : TupI K H v [p.1, p.2] := by
  cases h with
  | tup h1 h2 =>
    cases h2 with
    | cons a r =>
      cases a
      cases r with
      | cons b r =>
        cases b
        cases r
        exact ⟨_, rfl, h1⟩
theorem reps_perm {vs vs' : List V} (h : vs.Perm vs') : ∀ {ps : List (Int × Int)}, Reps K mg G (ps.map pD) vs → ∃ ps', ps.Perm ps' ∧ Reps K mg G (ps'.map pD) vs' := by
  induction h with
  | nil => intro ps h; exact ⟨ps, List.Perm.refl _, h⟩
  | cons x h ih =>
    intro ps r
    cases ps with
    | nil => cases r
    | cons p ps =>
      cases r with
      | cons a r =>
        obtain ⟨ps', h1, h2⟩ := ih r
        exact ⟨p :: ps', h1.cons p, .cons a h2⟩
  | swap x y l =>
    intro ps r
    cases ps with
    | nil => cases r
    | cons p ps =>
      cases ps with
      | nil => cases r with | cons a r => cases r
      | cons q ps =>
        cases r with
        | cons a r =>
          cases r with
          | cons b r => exact ⟨q :: p :: ps, List.Perm.swap _ _ _, .cons b (.cons a r)⟩
  | trans h1 h2 i1 i2 =>
    intro ps r
    obtain ⟨ps1, a1, a2⟩ := i1 r
    obtain ⟨ps2, b1, b2⟩ := i2 a2
    exact ⟨ps2, a1.trans b1, b2⟩
theorem code2 (B x y : Int) : TS.code B [x, y] = x * B + y := by
  show x * B ^ 1 + (y * B ^ 0 + 0) = x * B + y
  rw [Int.pow_succ, Int.pow_zero, Int.one_mul, Int.mul_one, Int.add_zero]
theorem code_le {B : Int} {p q : Int × Int} (hp : 0 ≤ p.2 ∧ p.2 < B) (hq : 0 ≤ q.2 ∧ q.2 < B) (h : TS.code B [p.1, p.2] ≤ TS.code B [q.1, q.2]) : leP p q = true := by
  rw [code2, code2] at h
  rw [leP_iff]
  rcases Int.lt_trichotomy p.1 q.1 with c | c | c
  · exact .inl c
  · rw [c] at h; exact .inr ⟨c, by omega⟩
  · have : (q.1 + 1) * B ≤ p.1 * B := Int.mul_le_mul_of_nonneg_right (by omega) (by omega)
    rw [Int.add_mul, Int.one_mul] at this
    omega
def bigP (ps : List (Int × Int)) : Int := (((ps.map fun p => p.1.toNat + p.2.toNat).sum + 1 : Nat) : Int)
theorem bigP_lt {ps : List (Int × Int)} {p : Int × Int} (h : p ∈ ps) : p.1 < bigP ps ∧ p.2 < bigP ps := by
  unfold bigP
  have : p.1.toNat + p.2.toNat ≤ (ps.map fun p => p.1.toNat + p.2.toNat).sum := by
    induction ps with
    | nil => simp at h
    | cons a l ih =>
      rw [List.map_cons, List.sum_cons]
      rcases List.mem_cons.mp h with rfl | h
      · omega
      · have := ih h; omega
  omega
def rSortP (K : PySem.W.Frag) : List V → Hp → VK → Prop := fun vs H Q => ∃ B, rSortU K 2 B vs H Q
theorem cr_sortP : CallR X (.builtin "sorted") (rSortP X.K) := by
  intro pins s σ H vs us Q I r h
  obtain ⟨B, h⟩ := h
  exact cr_sortT (d := 2) (B := B) (by decide) pins s σ H vs us Q I r h
theorem cr_sortPL : CrD K mg (bL sortPL) (rSortP K) := by
  intro cs rs vs G H r Q ha hf q
  unfold bL at hf
  split at hf
  · rename_i r1
    obtain ⟨xs, e1, hf⟩ := Option.bind_eq_some_iff.mp hf
    obtain ⟨a, ws, h1, h2, h3⟩ := ha.lsv (i := 0) rfl e1
    rw [one_arg ha.len h1]
    obtain ⟨ps, e2, hg⟩ := Option.bind_eq_some_iff.mp hf
    have := pairs?_eq e2
    subst this
    split at hg
    · rename_i ok
      cases hg
      have hH := h3.mono ha.res.same
      refine ⟨bigP ps, a, ws, rfl, h2, by have := h3.length; rw [List.length_map] at this; rw [this]; exact ok.1, fun x hx => ?_, fun ys p hp hw hn => ?_⟩
      · obtain ⟨i, hi⟩ := List.mem_iff_getElem?.mp hx
        obtain ⟨d, d1, d2⟩ := hH.getV hi
        rw [List.getElem?_map] at d1
        obtain ⟨pr, p1, rfl⟩ := Option.map_eq_some_iff.mp d1
        have pm := List.mem_of_getElem? p1
        refine ⟨[pr.1, pr.2], rep_pair d2, rfl, fun m hm => ?_⟩
        have b1 := bigP_lt pm
        have b2 := ok.2 pr pm
        simp at hm
        rcases hm with rfl | rfl
        · exact ⟨b2.1, b1.1⟩
        · exact ⟨b2.2, b1.2⟩
      · obtain ⟨ps', p1, p2⟩ := reps_perm hp.symm h3
        have p2H := p2.mono ha.res.same
        have srt : ps'.Pairwise fun a b => leP a b = true := by
          rw [List.pairwise_iff_getElem] at hw ⊢
          intro i j hi hj hij
          have ly : ys.length = ps'.length := by have := p2.length; rw [List.length_map] at this; exact this
          obtain ⟨v, v1, v2⟩ := p2H.get (i := i) (x := pD ps'[i]) (by rw [List.getElem?_map, List.getElem?_eq_getElem hi]; rfl)
          obtain ⟨w, w1, w2⟩ := p2H.get (i := j) (x := pD ps'[j]) (by rw [List.getElem?_map, List.getElem?_eq_getElem hj]; rfl)
          have ei : ys[i] = v := by rw [List.getElem?_eq_getElem (by omega)] at v1; exact Option.some.inj v1
          have ej : ys[j] = w := by rw [List.getElem?_eq_getElem (by omega)] at w1; exact Option.some.inj w1
          have h := hw i j (by omega) (by omega) hij _ _ (by rw [ei]; exact rep_pair v2) (by rw [ej]; exact rep_pair w2)
          have mi := p1.mem_iff.mpr (List.getElem_mem hi)
          have mj := p1.mem_iff.mpr (List.getElem_mem hj)
          exact code_le ⟨(ok.2 _ mi).2, (bigP_lt mi).2⟩ ⟨(ok.2 _ mj).2, (bigP_lt mj).2⟩ h
        have e : ps' = sortPs ps := pairs_unique (p1.symm.trans (sortPs_perm ps).symm) srt (sortPs_pw ps)
        rw [e] at p2
        exact q.l _ p _ rfl hn p2
    · cases hg
  · cases hf
variable {e : Expr} {ms : MA} {pos p : Pos}
theorem b_sortP (hm : X.mg "sorted" = none) (ha : SA X [e] ms) (hg : Gl X "sorted" := by rfl) (he : starEach [e] X.env = (false, eval e X.env) :: starEach [] X.env := by rfl) : SE X (.Call (.Name "sorted" p) [e] [] pos) (mCallB (bL sortPL) ms) :=
  se_callB cr_sortP cr_sortPL hg hm boot_sorted' ha (by decide) (by decide) he rfl
end
end
end FW

/-! what raises: statements, defs, calls at a statement's head -/
namespace FW
noncomputable section
open PySem L2
abbrev MFX := List Sl → Option ((Rv ⊕ Str) × List Sl)
section
variable {K : PySem.W.Frag} {mg : Str → Option Value} {G H G' H' : Hp} {W : L2.WX} {P : Nat → Prop}
theorem KS.ex {σ : L2.St} {cs cs' : List Cl} {ρ' : List Sl} {D : Ends} {c : Str} {C : Addr} (k : KS K mg W P σ cs G H (.ex c) ρ' D) (e1 : slots cs' = ρ') (e2 : cs'.length = cs.length) (e3 : ∀ i, P i → (vals cs')[i]? = σ[i]?) (rs : Res K mg G' H' cs') (x : Stp (own cs) G H (own cs') G' H') (hC : mg c = some (.ref C)) : W (.ref C) none (vals cs') H' :=
  k cs' .non [] G' H' e1 e2 e3 (rs.addFz .non) (x.weak fun b hb => by simpa [own_cons, Rv.sl, Ctl.rv] using hb) C hC
/-- a def that may raise -/
def spMX (K : PySem.W.Frag) (mg : Str → Option Value) (n : Nat) (m : MFX) : Sp := fun vs H Q E => ∃ cs G w outs, vals cs = vs.map some ∧ vs.length = n ∧ Res K mg G H cs ∧ m (slots cs) = some (w, outs) ∧ match w with
  | .inl r => (∀ j, r ≠ .bor j) ∧ ∀ cs' v B G' H', vals cs' = vs.map some → slots cs' = outs → Res K mg G' H' (⟨some v, r.sl, B⟩ :: cs') → Stp (own cs) G H (own (⟨some v, r.sl, B⟩ :: cs')) G' H' → Q v H'
  | .inr c => ∀ cs' G' H', vals cs' = vs.map some → slots cs' = outs → Res K mg G' H' cs' → Stp (own cs) G H (own cs') G' H' → ∀ C, mg c = some (.ref C) → E (.ref C) none H'
def retX : Ctl → Option (Rv ⊕ Str)
  | .ex c => some (.inr c)
  | k => (retOf k).map .inl
def mDefX (N : Nat) (pl : List Nat) (body : MS) : MFX := fun args => (body (args ++ List.replicate (N - args.length) .no)).bind fun x => (retX x.1).bind fun r => (outsOf pl 0 args x.2).map fun o => (r, o)
theorem body_okX {n N : Nat} {pl : List Nat} {names : List Str} {body : MS} {vs : List V} {Q : VK} {E : XK} (hW : ∀ cls d σ H, E cls d H → W cls d σ H) (hN : names.length = N) (h : spMX K mg n (mDefX N pl body) vs H Q E) (hpl : ∀ i ∈ pl, i < n := by decide) :
    tS K mg W (fun i => i ∈ pl) body { nx := fun _ H' => Q .non H', rt := Q } (L2.start names vs) H := by
  obtain ⟨cs, G, w, outs, e1, e2, rs, hm, k⟩ := h
  obtain ⟨⟨c, ρ'⟩, h1, hm⟩ := Option.bind_eq_some_iff.mp hm
  obtain ⟨r', h2, hm⟩ := Option.bind_eq_some_iff.mp hm
  obtain ⟨o, h3, hm⟩ := Option.map_eq_some_iff.mp hm
  cases hm
  have lc : cs.length = vs.length := by
    have := congrArg List.length e1
    simpa using this
  refine ⟨cs ++ List.replicate (N - cs.length) ⟨none, .no, []⟩, G, c, ρ', ?_, ?_, ?_, ?_⟩
  · unfold L2.start
    rw [hN]
    show List.map _ (cs ++ _) = _
    rw [List.map_append, List.map_replicate, ← e1, lc]
  · refine ⟨rs.same, fun d hd => ?_, by rw [own_append, own_nos, List.append_nil]; exact rs.nd, fun a ha => rs.fr a (by rw [own_append, own_nos, List.append_nil] at ha; exact ha), rs.tab⟩
    rcases List.mem_append.mp hd with z | z
    · exact rs.ok d z
    · have := (List.mem_replicate.mp z).2
      subst this
      exact .inl ⟨rfl, rfl⟩
  · show body (List.map _ (cs ++ _)) = _
    rw [List.map_append, List.map_replicate]
    simpa [slots] using h1
  · intro cs' v B G' H' f1 f2 f3 rs' st'
    have oeq : own (cs ++ List.replicate (N - cs.length) (⟨none, .no, []⟩ : Cl)) = own cs := by rw [own_append, own_nos, List.append_nil]
    rw [oeq] at st'
    obtain ⟨es, g1, g2, g3, g4⟩ := outs_ok (K := K) (mg := mg) (H := H) (as := cs) (cs' := cs') (i := 0) (pl := pl) st'.gs rs'.same rs.ok (fun d hd => rs'.ok d (by simp [hd])) (fun j hj hl => by
      rw [f3 j (by simpa using hj)]
      unfold L2.start
      rw [List.getElem?_append_left (by simpa [lc] using hl), ← e1]) (by rw [f1]; exact h3)
    have rs2 : Res K mg G' H' (⟨some v, c.rv.sl, B⟩ :: es) := by
      refine ⟨rs'.same, fun d hd => ?_, ?_, fun a ha => ?_, rs'.tab⟩
      · rcases List.mem_cons.mp hd with z | z
        · subst z; exact rs'.h1
        · exact g3 d z
      · have nd := rs'.nd
        rw [own_cons] at nd ⊢
        exact nd.sublist (List.Sublist.append (List.Sublist.refl _) g4)
      · refine rs'.fr a ?_
        rw [own_cons] at ha ⊢
        rcases List.mem_append.mp ha with z | z
        · exact List.mem_append_left _ z
        · exact List.mem_append_right _ (g4.subset z)
    have st2 : Stp (own cs) G H (own (⟨some v, c.rv.sl, B⟩ :: es)) G' H' := st'.weak fun b hb => by
      rw [own_cons] at hb ⊢
      rcases List.mem_append.mp hb with z | z
      · exact List.mem_append_left _ z
      · exact List.mem_append_right _ (g4.subset z)
    cases c with
    | nx =>
      cases h2
      obtain ⟨_, k⟩ := k
      obtain ⟨rp, _⟩ := rs'.val
      have := rp.non_iff
      subst this
      exact k es .non B G' H' (g1.trans e1) g2 rs2 st2
    | bk => cases h2
    | ct => cases h2
    | ex c =>
      cases h2
      exact fun C hC => hW _ _ _ _ (k es G' H' (g1.trans e1) g2 rs2.tail st2.back1 C hC)
    | rt r =>
      cases r with
      | bor j => cases h2
      | val d => cases h2; exact k.2 es v B G' H' (g1.trans e1) g2 rs2 st2
      | own s => cases h2; exact k.2 es v B G' H' (g1.trans e1) g2 rs2 st2
/-- arguments that wait are handed to a def that may raise -/
theorem handedX {n : Nat} {m : MFX} {cs ds : List Cl} {rs : List Rv} {vs : List V} {ss ρr outs : List Sl} {w : Rv ⊕ Str} {Q : VK} {E : XK} (h : Res K mg G H (ds ++ cs)) (hb : Bors (vals cs) rs vs) (e1 : vals ds = vs.map some) (e2 : slots ds = rs.map Rv.sl) (hn : vs.length = n)
    (ht : takeA (slots cs) rs = some (ss, ρr)) (hm : m ss = some (w, outs))
    (k : match w with
      | .inl r => (∀ j, r ≠ .bor j) ∧ ∀ cs' v B G' H', vals cs' = vals cs → slots cs' = putA rs outs ρr → Res K mg G' H' (⟨some v, r.sl, B⟩ :: cs') → Stp (own (ds ++ cs)) G H (own (⟨some v, r.sl, B⟩ :: cs')) G' H' → Q v H'
      | .inr c => ∀ cs' G' H', vals cs' = vals cs → slots cs' = putA rs outs ρr → Res K mg G' H' cs' → Stp (own (ds ++ cs)) G H (own cs') G' H' → ∀ C, mg c = some (.ref C) → E (.ref C) none H') : spMX K mg n m vs H Q E := by
  obtain ⟨as, cr, f1, f2, f3, f4, f5, f6⟩ := take_ok h hb e1 e2 ht
  have p0 : List.Perm (as ++ cr) (cr ++ as) := List.perm_append_comm
  have r0 := f5.perm p0
  refine ⟨as, G, w, outs, f1, hn, f5.left, by rw [f2]; exact hm, ?_⟩
  have fin : ∀ b, b ∈ own (as ++ cr) → b ∈ own (ds ++ cs) := fun b hb => f6 b hb
  cases w with
  | inl r =>
    refine ⟨k.1, fun as' v B G' H' g1 g2 rs' st' => ?_⟩
    have r1 := Res.frame r0 st' rs'
    have p1 : List.Perm (cr ++ ⟨some v, r.sl, B⟩ :: as') (⟨some v, r.sl, B⟩ :: (as' ++ cr)) := List.perm_middle.trans (List.Perm.cons _ List.perm_append_comm)
    have s1 := (Stp.under r0 st').perm (own_perm p1)
    obtain ⟨es, q1, q2, q3, q4⟩ := put_ok (r1.perm p1) (by rw [f3]; exact hb) g1
    refine k.2 es v B G' H' (q1.trans f3) (by rw [q2, g2, f4]) q3 ((s1.weak q4).more fun b hb => f6 b ?_)
    rw [own_append] at hb ⊢
    rcases List.mem_append.mp hb with z | z
    · exact List.mem_append_right _ z
    · exact List.mem_append_left _ z
  | inr c =>
    intro as' G' H' g1 g2 rs' st'
    have rsN := rs'.addFz .non
    have stN : Stp (own as) G H (own (⟨some .non, .fz .non, []⟩ :: as')) G' H' := st'.weak fun b hb => by simpa [own_cons] using hb
    have r1 := Res.frame r0 stN rsN
    have p1 : List.Perm (cr ++ ⟨some .non, .fz .non, []⟩ :: as') (⟨some .non, .fz .non, []⟩ :: (as' ++ cr)) := List.perm_middle.trans (List.Perm.cons _ List.perm_append_comm)
    have s1 := (Stp.under r0 stN).perm (own_perm p1)
    obtain ⟨es, q1, q2, q3, q4⟩ := put_ok (r1.perm p1) (by rw [f3]; exact hb) g1
    refine k es G' H' (q1.trans f3) (by rw [q2, g2, f4]) q3.tail (((s1.weak q4).more fun b hb => f6 b ?_).back1)
    rw [own_append] at hb ⊢
    rcases List.mem_append.mp hb with z | z
    · exact List.mem_append_right _ z
    · exact List.mem_append_left _ z
end
section
variable {X : Cx} {e : Expr} {es : List Expr} {ms : MA} {pos p spos : Pos} {P : Nat → Prop} {k n : Nat} {f C : Addr} {fd : FuncData} {ps : List Str} {m : MFX} {x : Str}
/-- raise X(..) -/
def sRaise (c : Str) : MS := fun ρ => some (.ex c, ρ)
theorem ss_raise {mk : Expr} (hc : X.calm = true) (gC : X.mg x = some (.ref C)) (hm : PMk X mk fun _ H Q => Q (.ref C) none H) : SS X P (.Raise (some mk) none pos) (sRaise x) := PS.imp (ps_raise hc (takes_wx X) hm) fun D σ H h => by
  obtain ⟨cs, G, k, ρ', e1, rs, hm, q⟩ := h
  cases hm
  subst e1
  exact KS.ex q rfl rfl (fun _ _ => rfl) rs Stp.refl gC
/-- f(..) alone, f may raise -/
def sCallX (m : MFX) (ms : MA) : MS := fun ρ => (ms ρ).bind fun y => (takeA y.2 y.1).bind fun z => (m z.1).bind fun w => match w.1 with
  | .inl (.bor _) => none
  | .inl _ => some (.nx, putA y.1 w.2 z.2)
  | .inr c => some (.ex c, putA y.1 w.2 z.2)
theorem ss_callX (F : FnOk X.prog X.w X.K X.mg X.base (L2.CX X.prog X.w) k f fd ps (spMX X.K X.mg n m)) (hr : Room k X.A) (hg : Gl X x) (hm : X.mg x = some (.ref f)) (hk : PySem.W.keepIn X.K (.ref f) = true) (hb : Binds X.K fd ps [])
    (ha : SA X (e :: es) ms) (hl : ∀ ρ y, ms ρ = some y → y.1.length = n) (hdb : (x == ("__debug__" : Str)) = false := by decide) (he : starEach (e :: es) X.env = (false, eval e X.env) :: starEach es X.env := by rfl) (hpl : (backTo pos (starEach es X.env)).any (·.1) = false := by rfl)
    (hs : swapsWith (.Call (.Name x p) (e :: es) [] pos) none spos.line X.env = pure false := by rfl) : SS X P (.Expr (.Call (.Name x p) (e :: es) [] pos) spos) (sCallX m ms) :=
  PS.imp (ps_expr (pe_callS F hr hg hm hk hb (fun σ => passAt (takes_wx X) σ) ha hdb he hpl) hs) fun D σ H h => by
    obtain ⟨cs, G, κ, ρ', e1, rs, hm, q⟩ := h
    obtain ⟨⟨r1, ρ1⟩, h1, hm⟩ := Option.bind_eq_some_iff.mp hm
    obtain ⟨⟨ss, ρr⟩, h2, hm⟩ := Option.bind_eq_some_iff.mp hm
    obtain ⟨⟨w, outs⟩, h3, hm⟩ := Option.bind_eq_some_iff.mp hm
    subst e1
    refine ⟨cs, G, r1, ρ1, rfl, rs, h1, fun cs1 ds vs G1 H1 f1 f2 fb f3 f4 rs1 st1 => ?_⟩
    subst f2
    rw [← f1] at fb
    refine handedX rs1 fb f3 f4 (by rw [bors_len fb]; exact hl _ _ h1) h2 h3 ?_
    cases w with
    | inl r =>
      have hr : (∀ j, r ≠ .bor j) ∧ κ = .nx ∧ ρ' = putA r1 outs ρr := by
        cases r with
        | bor j => cases hm
        | val d => cases hm; exact ⟨(fun j z => nomatch z), rfl, rfl⟩
        | own s => cases hm; exact ⟨(fun j z => nomatch z), rfl, rfl⟩
      obtain ⟨hr, q1, q2⟩ := hr
      subst q1; subst q2
      refine ⟨hr, fun cs' v B G' H' g1 g2 rs' st' => ?_⟩
      have := KS.nx q g2 (len_of (g1.trans f1)) (fun i _ => by rw [g1, f1]) rs'.tail ((st1.trans st').back1)
      rw [g1, f1] at this
      exact this
    | inr c =>
      cases hm
      intro cs' G' H' g1 g2 rs' st' C hC
      have := KS.ex q g2 (len_of (g1.trans f1)) (fun i _ => by rw [g1, f1]) rs' (st1.trans st') hC
      rw [g1, f1] at this
      exact this
end
end
end FW

/-! x = f(..), return f(..) where f may raise -/
namespace FW
noncomputable section
open PySem L2
section
variable {X : Cx} {e : Expr} {es : List Expr} {ms : MA} {pos p spos : Pos} {P : Nat → Prop} {k n : Nat} {f C : Addr} {fd : FuncData} {ps : List Str} {m : MFX} {x : Str}
def sX (fin : Rv → MS) (m : MFX) (ms : MA) : MS := fun ρ => (ms ρ).bind fun y => (takeA y.2 y.1).bind fun z => (m z.1).bind fun w => match w.1 with
  | .inl (.bor _) => none
  | .inl r => fin r (putA y.1 w.2 z.2)
  | .inr c => some (.ex c, putA y.1 w.2 z.2)
theorem rd_sX {fin : Rv → MS} {D : Ends} {σ : L2.St} {H : Hp} {Q : VK} (hl : ∀ ρ y, ms ρ = some y → y.1.length = n) (h : tS X.K X.mg (Wx X) P (sX fin m ms) D σ H)
    (hfin : ∀ (r : Rv) (cs' : List Cl) (v : V) (B : List Addr) (G' H' : Hp) (κ : Ctl) (ρ' : List Sl), fin r (slots cs') = some (κ, ρ') → (∀ j, r ≠ .bor j) → vals cs' = σ → Res X.K X.mg G' H' (⟨some v, r.sl, B⟩ :: cs') →
      (∀ cs2 v2 B2 G2 H2, slots cs2 = ρ' → cs2.length = cs'.length → (∀ i, P i → (vals cs2)[i]? = σ[i]?) → Res X.K X.mg G2 H2 (⟨some v2, κ.rv.sl, B2⟩ :: cs2) → Stp (own (⟨some v, r.sl, B⟩ :: cs')) G' H' (own (⟨some v2, κ.rv.sl, B2⟩ :: cs2)) G2 H2 → endOf X.mg (Wx X) D κ v2 (vals cs2) H2) → Q v H') :
    tCallS (spMX X.K X.mg n m) (WE (Wx X)) (tMA X.K X.mg ms) σ H Q := by
  obtain ⟨cs, G, κ, ρ', e1, rs, hm, q⟩ := h
  obtain ⟨⟨r1, ρ1⟩, h1, hm⟩ := Option.bind_eq_some_iff.mp hm
  obtain ⟨⟨ss, ρr⟩, h2, hm⟩ := Option.bind_eq_some_iff.mp hm
  obtain ⟨⟨w, outs⟩, h3, hm⟩ := Option.bind_eq_some_iff.mp hm
  subst e1
  refine ⟨cs, G, r1, ρ1, rfl, rs, h1, fun cs1 ds vs G1 H1 f1 f2 fb f3 f4 rs1 st1 => ?_⟩
  subst f2
  rw [← f1] at fb
  refine handedX rs1 fb f3 f4 (by rw [bors_len fb]; exact hl _ _ h1) h2 h3 ?_
  cases w with
  | inl r =>
    have hr : (∀ j, r ≠ .bor j) ∧ fin r (putA r1 outs ρr) = some (κ, ρ') := by
      cases r with
      | bor j => cases hm
      | val d => exact ⟨(fun j z => nomatch z), hm⟩
      | own s => exact ⟨(fun j z => nomatch z), hm⟩
    obtain ⟨hr, hf⟩ := hr
    refine ⟨hr, fun cs' v B G' H' g1 g2 rs' st' => hfin r cs' v B G' H' κ ρ' (by rw [g2]; exact hf) hr (g1.trans f1) rs' fun cs2 v2 B2 G2 H2 k1 k2 k3 k4 k5 => ?_⟩
    exact q cs2 v2 B2 G2 H2 k1 (k2.trans (len_of (g1.trans f1))) k3 k4 (st1.trans (st'.trans k5))
  | inr c =>
    cases hm
    intro cs' G' H' g1 g2 rs' st' C hC
    have := KS.ex q g2 (len_of (g1.trans f1)) (fun i _ => by rw [g1, f1]) rs' (st1.trans st') hC
    rw [g1, f1] at this
    exact this
def fSet (i : Nat) : Rv → MS := fun r ρ => (setR i ρ r).map fun ρ2 => (.nx, ρ2)
def fRet : Rv → MS := fun r ρ => some (.rt r, ρ)
theorem ss_setX {i : Nat} {y : Str} {py : Pos} (hN : X.N.Nodup) (hi : X.N[i]? = some y) (hx : Loc X.env.scope y) (hP : ¬ P i)
    (F : FnOk X.prog X.w X.K X.mg X.base (L2.CX X.prog X.w) k f fd ps (spMX X.K X.mg n m)) (hr : Room k X.A) (hg : Gl X x) (hm : X.mg x = some (.ref f)) (hk : PySem.W.keepIn X.K (.ref f) = true) (hb : Binds X.K fd ps [])
    (ha : SA X (e :: es) ms) (hl : ∀ ρ y, ms ρ = some y → y.1.length = n) (hdb : (x == ("__debug__" : Str)) = false := by decide) (he : starEach (e :: es) X.env = (false, eval e X.env) :: starEach es X.env := by rfl) (hpl : (backTo pos (starEach es X.env)).any (·.1) = false := by rfl)
    (hs : swapsWith (.Call (.Name x p) (e :: es) [] pos) (some (.Name y py)) spos.line X.env = pure false := by rfl) (hf : X.fn y = true ∨ X.env.scope.names.lookup y = some .local := by first | exact .inl rfl | exact .inr rfl | assumption) :
    SS X P (.Assign [.Name y py] (.Call (.Name x p) (e :: es) [] pos) spos) (sX (fSet i) m ms) :=
  PS.imp (ps_set hN hi hx (pe_callS F hr hg hm hk hb (fun σ => passAt (takes_wx X) σ) ha hdb he hpl) hs hf) fun D σ H h => rd_sX hl h fun r cs' v B G' H' κ ρ' e1 hr e2 rs q => by
    obtain ⟨ρ2, h2, hm⟩ := Option.map_eq_some_iff.mp e1
    cases hm
    obtain ⟨cs2, G2, g1, g2, rs2, st2⟩ := setR_ok (i := i) rs (fun j z => absurd z (hr j)) h2
    show D.nx (σ.set i (some v)) H'
    rw [← e2, ← g1]
    refine q cs2 .non [] G2 H' g2 ?_ (fun j hj => ?_) (rs2.addFz .non) (st2.weak fun b hb => by simpa [own_cons, Rv.sl, Ctl.rv] using hb)
    · have := congrArg List.length g1
      simpa only [List.length_map, List.length_set] using this
    · rw [g1, e2, List.getElem?_set_ne]
      rintro rfl
      exact hP hj
theorem ss_retX (F : FnOk X.prog X.w X.K X.mg X.base (L2.CX X.prog X.w) k f fd ps (spMX X.K X.mg n m)) (hr : Room k X.A) (hg : Gl X x) (hm : X.mg x = some (.ref f)) (hk : PySem.W.keepIn X.K (.ref f) = true) (hb : Binds X.K fd ps [])
    (ha : SA X (e :: es) ms) (hl : ∀ ρ y, ms ρ = some y → y.1.length = n) (hdb : (x == ("__debug__" : Str)) = false := by decide) (he : starEach (e :: es) X.env = (false, eval e X.env) :: starEach es X.env := by rfl) (hpl : (backTo pos (starEach es X.env)).any (·.1) = false := by rfl) :
    SS X P (.Return (some (.Call (.Name x p) (e :: es) [] pos)) spos) (sX fRet m ms) :=
  PS.imp (ps_ret (pe_callS F hr hg hm hk hb (fun σ => passAt (takes_wx X) σ) ha hdb he hpl)) fun D σ H h => rd_sX hl h fun r cs' v B G' H' κ ρ' e1 hr e2 rs q => by
    cases e1
    exact q cs' v B G' H' rfl rfl (fun _ _ => by rw [e2]) rs Stp.refl
end
end
end FW

/-! try: .. except X: suite -/
namespace FW
noncomputable section
open PySem L2
section
variable {X : Cx} {K : PySem.W.Frag} {mg : Str → Option Value} {P : Nat → Prop} {sb su : MS}
theorem endOf_mono {W W' : L2.WX} (hW : ∀ cls d σ H, W cls d σ H → W' cls d σ H) {D : Ends} {k : Ctl} {v : V} {σ : L2.St} {H : Hp} (h : endOf mg W D k v σ H) : endOf mg W' D k v σ H := by
  cases k with
  | ex c => exact fun C hC => hW _ _ _ _ (h C hC)
  | nx => exact h
  | bk => exact h
  | ct => exact h
  | rt r => exact h
theorem tS_mono {W W' : L2.WX} (hW : ∀ cls d σ H, W cls d σ H → W' cls d σ H) {D : Ends} {σ : L2.St} {H : Hp} (h : tS K mg W P sb D σ H) : tS K mg W' P sb D σ H := by
  obtain ⟨cs, G, k, ρ', e1, rs, hm, q⟩ := h
  exact ⟨cs, G, k, ρ', e1, rs, hm, fun cs' v B G' H' f1 f2 f3 rs' st' => endOf_mono hW (q cs' v B G' H' f1 f2 f3 rs' st')⟩
open Classical in
/-- the classes named at cs are caught -/
noncomputable def sTry (cs : List Str) (sb su : MS) : MS := fun ρ => (sb ρ).bind fun x => match x.1 with
  | .ex c => if c ∈ cs then (su x.2).bind fun y => match y.1 with
    | .ex _ => none
    | k => some (k, y.2)
    else none
  | k => some (k, x.2)
theorem ss_tryOnly {x : Str} {c : Value} {body suite : List Stmt} {b₀ : Stmt} {np pos pos' : Pos} (cs : List Str) (hs : X.stack = X.env :: X.outer) (hf : X.env.frame = some X.env.locals) (hc : Names X x c)
    (hcatch : ∀ c' ∈ cs, ∀ C, X.mg c' = some (.ref C) → PySem.W.exmOne X.K (.ref C) c = some true)
    (hb : ∀ (pn : List (Addr × Obj)) (xe : Value → Shared → Prop), PassesOwn (model X.prog X.w) X.A X.env xe → SSs (X.tr pn xe) P body sb)
    (hsu : ∀ (a : Addr) (oe : Obj) (pn : List (Addr × Obj)), SSs (X.suite a ((a, oe) :: pn)) P (b₀ :: suite) su) :
    SS X P (.Try body [.ExceptHandler (some (.Name x np)) none (b₀ :: suite) pos'] [] [] pos) (sTry cs sb su) :=
  PS.imp (ps_try_only (tb := fun W => tS X.K X.mg W P sb) (ts := fun _ _ _ => tS X.K X.mg (fun _ _ _ _ => False) P su) hs hf hc (takes_wx X)
    (fun W pn xe tk po => PSs.imp (hb pn xe po) fun D σ H h => tS_mono (fun _ _ _ _ w => wx_of tk w) h)
    (fun a oe cls d pn _ _ => PSs.imp (hsu a oe pn) fun D σ H h => tS_mono (fun _ _ _ _ w => w.elim) h)) fun D σ H h => by
    obtain ⟨cs0, G, k, ρ', e1, rs, hm, q⟩ := h
    obtain ⟨⟨k1, ρ1⟩, h1, hm⟩ := Option.bind_eq_some_iff.mp hm
    refine ⟨cs0, G, k1, ρ1, e1, rs, h1, fun cs1 v B G1 H1 f1 f2 f3 rs1 st1 => ?_⟩
    cases k1 with
    | nx => cases hm; exact q cs1 v B G1 H1 f1 f2 f3 rs1 st1
    | bk => cases hm; exact q cs1 v B G1 H1 f1 f2 f3 rs1 st1
    | ct => cases hm; exact q cs1 v B G1 H1 f1 f2 f3 rs1 st1
    | rt r => cases hm; exact q cs1 v B G1 H1 f1 f2 f3 rs1 st1
    | ex c' =>
      dsimp only at hm
      split at hm
      · rename_i hin
        obtain ⟨⟨k2, ρ2⟩, h2, hm⟩ := Option.bind_eq_some_iff.mp hm
        have hk : (∀ c, k2 ≠ .ex c) ∧ k = k2 ∧ ρ' = ρ2 := by
          cases k2 with
          | ex c => cases hm
          | nx => cases hm; exact ⟨(fun c z => nomatch z), rfl, rfl⟩
          | bk => cases hm; exact ⟨(fun c z => nomatch z), rfl, rfl⟩
          | ct => cases hm; exact ⟨(fun c z => nomatch z), rfl, rfl⟩
          | rt r => cases hm; exact ⟨(fun c z => nomatch z), rfl, rfl⟩
        obtain ⟨hk, q1, q2⟩ := hk
        subst q1; subst q2
        intro C hC
        refine ⟨true, hcatch c' hin C hC, fun _ a ha => ?_, fun z => nomatch z⟩
        refine ⟨cs1, G1, k, ρ', rfl, rs1.tail, by rw [f1]; exact h2, fun cs2 v2 B2 G2 H2 g1 g2 g3 rs2 st2 => ?_⟩
        have w := q cs2 v2 B2 G2 H2 g1 (g2.trans f2) (fun i hi => (g3 i hi).trans (f3 i hi)) rs2 (st1.back1.trans st2)
        cases k with
        | ex c => exact absurd rfl (hk c)
        | nx => exact w
        | bk => exact w
        | ct => exact w
        | rt r => exact w
      · cases hm
end
end
end FW

/-! max(a, b, c) of ints -/
namespace FW
noncomputable section
open PySem L2
def max3D : List Sl → List Rv → Option Rv := fun ρ rs => match rs with
  | [r1, r2, r3] => match dat ρ r1, dat ρ r2, dat ρ r3 with
    | some (.int a), some (.int b), some (.int c) => some (.val (.int (if b > a then (if c > b then c else b) else (if c > a then c else a))))
    | _, _, _ => none
  | _ => none
/-- except D catches C -/
theorem exm_of {K : PySem.W.Frag} {C D : Addr} (b : PySem.W.subIn K (.ref D) (.type "BaseException") = some true) (i : PySem.W.isClsIn K D = true) (t : PySem.W.typeIn K (.ref D) = some (.type "type")) (s : PySem.W.subIn K (.ref C) (.ref D) = some true) : PySem.W.exmOne K (.ref C) (.ref D) = some true := by
  unfold PySem.W.exmOne
  rw [if_pos (by rw [b]; rfl)]
  show (if ((PySem.W.clsIn K D).isSome && PySem.W.typeIn K (.ref D) == some (.type "type")) = true then PySem.W.subIn K (.ref C) (.ref D) else none) = some true
  rw [if_pos, s]
  unfold PySem.W.isClsIn at i
  rw [i, t]; rfl
section
variable {X : Cx} {K : PySem.W.Frag} {mg : Str → Option Value} {e1 e2 e3 : Expr} {ms : MA} {pos p : Pos}
def rMax3 : List V → Hp → VK → Prop := fun xs H Q => ∃ a b c, xs = [V.int a, V.int b, V.int c] ∧ Q (.int (if b > a then (if c > b then c else b) else (if c > a then c else a))) H
theorem call_max3 (hc : X.calm = true) : CallR X (.builtin "max") rMax3 := by
  intro pins s σ H xs us Q I r h
  obtain ⟨a, b, c, rfl, q⟩ := h
  cases r with
  | cons r1 r =>
    cases r with
    | cons r2 r =>
      cases r with
      | cons r3 r =>
        cases r
        obtain ⟨t1, rfl⟩ := r1
        obtain ⟨t2, rfl⟩ := r2
        obtain ⟨t3, rfl⟩ := r3
        refine max_three_ints (I.ok.hd hc) fun h' tk k => ⟨_, H, I.kept k, ?_, q⟩
        by_cases h1 : b > a
        · rw [if_pos h1, if_pos h1]
          by_cases h2 : c > b
          · rw [if_pos h2, if_pos h2]; exact ⟨_, rfl⟩
          · rw [if_neg h2, if_neg h2]; exact ⟨_, rfl⟩
        · rw [if_neg h1, if_neg h1]
          by_cases h2 : c > a
          · rw [if_pos h2, if_pos h2]; exact ⟨_, rfl⟩
          · rw [if_neg h2, if_neg h2]; exact ⟨_, rfl⟩
theorem cr_max3 : CrD K mg max3D rMax3 := by
  intro cs rs vs G H r Q ha hf q
  unfold max3D at hf
  split at hf
  · rename_i r1 r2 r3
    split at hf
    · rename_i a b c d1 d2 d3
      cases hf
      obtain ⟨v1, h1, k1⟩ := ha.dat (i := 0) rfl d1
      obtain ⟨v2, h2, k2⟩ := ha.dat (i := 1) rfl d2
      obtain ⟨v3, h3, k3⟩ := ha.dat (i := 2) rfl d3
      have l := ha.len
      have e : vs = [v1, v2, v3] := by
        match vs, l, h1, h2, h3 with
        | [a, b, c], _, h1, h2, h3 => simp at h1 h2 h3; subst h1; subst h2; subst h3; rfl
      subst e
      exact ⟨a, b, c, by rw [k1.int_iff, k2.int_iff, k3.int_iff], q.v _ _ rfl (.int _)⟩
    · cases hf
  · cases hf
theorem b_max3 (hc : X.calm = true) (hm : X.mg "max" = none) (ha : SA X [e1, e2, e3] ms) (hg : Gl X "max" := by rfl) (he : starEach [e1, e2, e3] X.env = (false, eval e1 X.env) :: starEach [e2, e3] X.env := by rfl) (hp : (backTo pos (starEach [e2, e3] X.env)).any (·.1) = false := by rfl) :
    SE X (.Call (.Name "max" p) [e1, e2, e3] [] pos) (mCallB max3D ms) := se_callB (call_max3 hc) cr_max3 hg hm boot_max' ha (by decide) (by decide) he hp
end
end
end FW

/-! sorted(range(n), key=lambda v: (-ys[v], v)) -/
namespace FW
open PySem PySem.Spec PyProof.Rows L2 LamX
/-- the parameters of a lambda of one name -/
abbrev lamArgs1 (x : Str) (p : Pos) : Arguments := ⟨[], [⟨x, none, p⟩], none, [], [], none, []⟩
/-- (-y[x], x) -/
abbrev lamBody (y x : Str) (p1 p2 p3 p4 p5 p6 : Pos) : Expr := .Tuple [.UnaryOp .USub (.Subscript (.Name y p1) (.Name x p2) p3) p4, .Name x p5] 0 p6
/-- one turn of the key: the call of the lambda -/
theorem lam_turn {P : Program} {w : World} {A : Around} {s : Shared} {f c' cc L : Addr} {q x y : Str} {scope : Scope} {p0 p1 p2 p3 p4 p5 p6 : Pos} {cl : List (Str × Addr)} {pm ctv : Value} {its : List Value} {n m : Int} {t tm : Tok}
    (hd : A.depth < recursionLimit) (lim : s.heap.NoLimit)
    (hf : s.heap.get? f = some (PySem.W.kla_obj "<lambda>" q (lamArgs1 x p0) (lamBody y x p1 p2 p3 p4 p5 p6) scope cl pm c' ctv))
    (hc : s.heap.CodeRec (.ref c') q) (hk : scope.kind = .function) (hco : scope.isCoroutine = false) (hge : scope.isGenerator = false) (hx : scope.names.lookup x = some .local) (hy : scope.names.lookup y = some .free) (hn : ∀ z ∈ scope.names, z.2 ≠ .cell)
    (hcl : cl.lookup y = some cc) (hcell : s.heap.IsCell cc (some (.ref L))) (hl : s.heap.IsList L its.toArray) (h0 : 0 ≤ n) (hfit : n < 2 ^ 63) (hi : its[n.toNat]? = some (.int m tm))
    (hb : ∀ (cv : Value) (v : Value), bindArgs (PySem.W.kla_fn "<lambda>" q (lamArgs1 x p0) (lamBody y x p1 p2 p3 p4 p5 p6) scope cl pm cv ctv) ⟨[v], []⟩ = pure [(x, v)])
    (dx : (x == ("__debug__" : Str)) = false := by decide) (dy : (y == ("__debug__" : Str)) = false := by decide) (cy : (y == ("__classdict__" : Str)) = false := by decide) :
    wpAny (model P w) A (call (.ref f) [.int n t]) (PySem.W.KeyPure (.tuple [.int (-m), .int n]) s) (fun _ _ => False) s := by
  refine wpAny_call (codeAny_mono (R := fun r s' => ∃ u, r = .ok (.ret u) ∧ PySem.W.KeyPure (.tuple [.int (-m), .int n]) s u s') ?_ fun r s' hq => ?_)
  · refine PySem.W.kla_callFunE hd hf rfl hco hge rfl hc ?_
    rw [hb]
    refine wpAny_pure (wpAny_newFunctionEnv hn (fun z hz => by rw [List.mem_singleton.mp hz]; exact hx) (fun h₁ hns hsb => ?_) hk)
    have kp : ∀ b o, s.heap.get? b = some o → h₁.get? b = some o := fun b o e => hsb.extBut b o (Nat.ne_of_lt (Heap.lt_size e)) (Heap.get?_push_of_some _ e)
    refine ⟨lim.keeps kp, PySem.W.kla_codeExpr ?_⟩
    refine wpAny_Tuple_spliced ?_
    have e2 : backTo p6 (starEach [.UnaryOp .USub (.Subscript (.Name y p1) (.Name x p2) p3) p4, .Name x p5] (PySem.W.envX q scope s.heap.objs.size f (.ref c') cl)) = (false, eval (.UnaryOp .USub (.Subscript (.Name y p1) (.Name x p2) p3) p4) (PySem.W.envX q scope s.heap.objs.size f (.ref c') cl)) :: (false, eval (.Name x p5) (PySem.W.envX q scope s.heap.objs.size f (.ref c') cl)) :: [] := rfl
    rw [show newEnv scope s.heap.objs.size _ _ _ _ _ _ _ = PySem.W.envX q scope s.heap.objs.size f (.ref c') cl from rfl]
    rw [e2]
    have lx : ∀ {A' : Around} {E' : Value → Shared → Prop} {s' : Shared} {tk : Nat} {Q : Value → Shared → Prop} {pp : Pos}, s' = { s with heap := h₁, toks := tk } → Q (.int n t) s' → wpAny (model P w) A' (eval (.Name x pp) (PySem.W.envX q scope s.heap.objs.size f (.ref c') cl)) Q E' s' := by
      intro A' E' s' tk Q pp es hQ
      subst es
      exact wpAny_Name (wpAny_loadName_local hk hx hns (by simp [List.lookup]) hQ) dx
    refine Calls.spliced_cons (wpAny_UnaryOp (Subscript_ (wpAny_Name (wpAny_loadName_free hk hy hcl (hcell.keeps kp) ?_ cy) dy)))
    refine lx rfl ?_
    obtain ⟨ol, l1, l2, l3⟩ := hl
    refine item_listR (items := its.toArray) ⟨ol, kp _ _ l1, l2, l3⟩ h0 hfit (x := .int m tm) (by simpa using hi) ?_
    refine neg_int ?_
    refine Calls.spliced_cons (lx rfl ?_)
    refine Calls.spliced_nil ⟨by rw [sizeLine_eq]; simp, ?_⟩
    refine ⟨_, rfl, _, _, rfl, fun b o e => Heap.get?_push_of_some _ (kp b o e), ?_⟩
    exact .tuple (Heap.get?_push_size _ rfl) rfl rfl (.cons (.int _ _) (.cons (.int _ _) .nil))
  · obtain ⟨u, rfl, hu⟩ := hq
    exact hu

/-- sorted over a range of ints, by a key that is called once an item -/
theorem sorted_rgKey {P : Program} {w : World} {A : Around} {E : Value → Shared → Prop} {s : Shared} {r fa : Addr} {n : Nat} {tt u v : Tok} {Q : Value → Shared → Prop} {k : Nat → PyData}
    (hh : A.handled = none) (hr : IsRange s.heap r 0 n 1 tt u v) (hsm : Builtin.Range.small 0 n 1 = true) (hL : n ≤ 2 ^ 24)
    (hal : PySem.W.AllAlike ((List.range n).map k)) (hk : PySem.W.Sortable ((List.range n).map k)) (hu : ∀ i, A.units + 2 + (k i).depth < cLine)
    (turn : ∀ (i : Nat) (t : Tok), i < n → ∀ (h : Heap) (tk : Nat), (∀ b o, s.heap.get? b = some o → h.get? b = some o) →
      wpAny (model P w) A.in1.in1 (call (.ref fa) [.int i t]) (PySem.W.KeyPure (k i) { s with heap := h, toks := tk }) (fun _ _ => False) { s with heap := h, toks := tk })
    (q : ∀ (out : List Value) (c : Nat) (h1 h' : Heap) (tk : Nat), (∀ b o, s.heap.get? b = some o → h1.get? b = some o) → (∀ b o, h1.get? b = some o → h'.get? b = some o) → h'.get? h1.objs.size = some (seqObj "list" (List.toArray out) c) → PySem.W.EachIs (fun v (i : Nat) => ∃ t, v = Value.int i t) out ((List.range n).mergeSort (PySem.W.dataLe false k)) →
      Q (.ref h1.objs.size) { s with heap := h', toks := tk }) :
    wpAny (model P w) A (call (.builtin "sorted") [.ref r] [(Str.ofString "key", .ref fa)]) Q E s := by
  refine call_function_entry_kw kind_sorted plain_sorted entry_sorted (PyProof.Rows.ksk_s1 _ _) ?_
  unfold Builtin.«sorted»
  refine wpAny_bind (m := checkCount "sorted" 1 1 _) (wpAny_pure ?_)
  have hn : Builtin.Range.rangeSize 0 n 1 = n := by
    have := rangeSize_nat 0 n
    simpa using this
  refine wpAny_bind (collect_range (A := A.in1) hh hr hsm hn hL fun h' tk acc kp hi => ?_)
  obtain ⟨hsz, hit⟩ := hi
  have hlen : acc.toList.length = n := by rw [Array.length_toList]; exact hsz
  have hL2 : n ≤ sizeLine := by rw [sizeLine_eq]; omega
  refine wpAny_bind (wpAny_newList ?_ (by rw [hlen]; exact hL2))
  have hat : (h'.push (seqObj "list" acc.toList.toArray 0)).get? h'.objs.size = some (seqObj "list" acc.toList.toArray 0) := Heap.get?_push_size _ rfl
  show wpAny _ _ _ _ _ { s with heap := h'.push (seqObj "list" acc.toList.toArray 0), toks := tk }
  have kp2 : ∀ b o, h'.get? b = some o → (h'.push (seqObj "list" acc.toList.toArray 0)).get? b = some o := fun b o e => Heap.get?_push_of_some _ e
  have each : PySem.W.EachIs (fun v (i : Nat) => ∃ t, v = Value.int i t) acc.toList (List.range n) := by
    have go : ∀ (l : List Value) (j : Nat), (∀ i v, l[i]? = some v → ∃ t, v = Value.int (0 + ((j + i : Nat) : Int) * 1) t) → PySem.W.EachIs (fun v (i : Nat) => ∃ t, v = Value.int i t) l (List.range' j l.length) := by
      intro l
      induction l with
      | nil => intro j _; exact .nil
      | cons v l ih =>
        intro j h
        refine .cons ?_ (ih (j + 1) fun i v e => ?_)
        · obtain ⟨t, e⟩ := h 0 v rfl
          exact ⟨t, by rw [e, Int.zero_add, Int.mul_one]; rfl⟩
        · obtain ⟨t, e⟩ := h (i + 1) v (by simpa using e)
          exact ⟨t, by rw [e, show j + (i + 1) = j + 1 + i by omega]⟩
    have := go acc.toList 0 fun i v e => by
      obtain ⟨t, e⟩ := hit i v (by rw [← Array.getElem?_toList]; exact e)
      exact ⟨t, by rw [Nat.zero_add]; exact e⟩
    rw [hlen] at this
    rw [List.range_eq_range']
    exact this
  refine wpAny_bind (wpAny_holding (wpAny_call_entry_kw slot_list_sort ⟨_, hat, rfl⟩ entry_list_sort ?body (PyProof.Rows.ksk_l1 _ _)))
  case body =>
    rw [PyProof.Rows.ksk_t1]
    refine PySem.W.keyH_tree (kz := (List.range n).map k) (vs := acc.toList) (s := { s with heap := h'.push (seqObj "list" acc.toList.toArray 0), toks := tk }) hat (by rw [List.length_map, List.length_range, hlen]) (by rw [hlen]; exact hL2) hal hk (fun d hd => ?_)
      (fun i v d hv hd h2 tk2 kb => ?_) (fun h3 tk3 out c kb hD ko => ?_)
    · obtain ⟨i, _, rfl⟩ := List.mem_map.mp hd
      exact hu i
    · have hi : i < n := by
        have := (List.getElem?_eq_some_iff.mp hv).1
        rw [hlen] at this
        exact this
      have hd : k i = d := by
        rw [List.getElem?_map, List.getElem?_range hi] at hd
        exact Option.some.inj hd
      subst hd
      obtain ⟨t, e⟩ := hit i v (by rw [← Array.getElem?_toList]; exact hv)
      have e : v = Value.int i t := by rw [e, Int.zero_add, Int.mul_one]
      subst e
      exact turn i t hi h2 tk2 fun b o e => kb b o (Nat.ne_of_lt (Heap.lt_size (kp b o e))) (kp2 b o (kp b o e))
    · refine ⟨_, rfl, wpAny_pure ⟨_, rfl, ?_⟩⟩
      exact q out c h' h3 tk3 kp (fun b o e => kb b o (Nat.ne_of_lt (Heap.lt_size e)) (kp2 b o e)) hD (PySem.W.keyedOut_each k ko each)

/-- the lambda made, and what its table tells from then on -/
theorem lam_make3 {X : Cx} {pins : List (Addr × Obj)} {σ : L2.St} {H : Hp} {s : Shared} {c P : Addr} {pa : Arguments} {bd : Expr} {sc : Scope} {pos : Pos} {E : Value → Shared → Prop} {Q : Value → Shared → Prop} {ps : Array Value} (I : Inv X pins σ H s)
    (TB : TabB X.base X.mg c P) (hcode : X.env.code = .ref c) (hdef : defaultsOf pa X.env = ([], [])) (hfr : ∀ y ∈ sc.names, y.2 = .free → ∃ c, X.env.cells.lookup y.1 = some c) (tP : H P = some (.tbl ps)) (tr : TriplesOk ps.toList)
    (tell : ∀ (pos : Pos) (cv : Value), codeAmong pos ps.toList = some cv → ∃ c, cv = .ref c ∧ H c = some (CodeO c (X.env.qual ++ "<lambda>")))
    (h : ∀ (f c' : Addr) (pm ctv : Value) (H1 : Hp) (s' : Shared), Inv X pins σ H1 s' → H1 c' = some (CodeO c' (X.env.qual ++ "<lambda>")) →
      (H1 = H ∨ (H c' = none ∧ ∃ more : Array Value, H1 = upd (upd H P (.tbl (ps ++ more))) c' (CodeO c' (X.env.qual ++ "<lambda>")) ∧ TriplesOk (ps ++ more).toList ∧ ∀ (p' : Pos) (cv : Value), codeAmong p' (ps ++ more).toList = some cv → codeAmong p' ps.toList = some cv ∨ cv = .ref c')) →
      (∀ b o, b ≠ P → s.heap.get? b = some o → s'.heap.get? b = some o) → s'.heap.get? f = some (PySem.W.kla_obj "<lambda>" (X.env.qual ++ "<lambda>") pa bd sc (cloFrom X.env.cells sc.names []) pm c' ctv) → Q (.ref f) s') :
    wpAny (model X.prog X.w) X.A (eval (.Lambda pa bd sc pos) X.env) Q E s := by
  refine PySem.W.kla_eval hdef ?_
  have bm := TB.bm.keeps I.bk
  have at_P := I.hok P _ tP
  cases q : codeAmong pos ps.toList with
  | some cv =>
    obtain ⟨c1, e1, e2⟩ := tell pos cv q
    subst e1
    exact PySem.W.kla_makeFunctionHit (mg := X.mg) (c := c) (P := P) (ps := ps) (closure_ok hfr) I.ok.glob (I.mod.glob.keeps I.bk) hcode (TB.code.keeps I.bk) at_P tr q bm fun ctv hp tk ext _ =>
      h hp.objs.size c1 _ ctv H _ (I.kept fun b o e => Heap.get?_push_of_some _ (ext b o e)) e2 (.inl rfl) (fun b o _ e => Heap.get?_push_of_some _ (ext b o e)) (Heap.get?_push_size _ rfl)
  | none =>
    refine PySem.W.kla_makeFunction (mg := X.mg) (c := c) (P := P) (ps := ps) (closure_ok hfr) I.ok.glob (I.mod.glob.keeps I.bk) hcode (TB.code.keeps I.bk) at_P tr q TB.gP bm fun c1 ctv hp tk ext ge lt rec1 tab => ?_
    obtain ⟨c2, oc, vs, t, e2, r1, r2, r3⟩ := rec1
    cases e2
    have el : (ps ++ #[rawInt pos.line, rawInt pos.col, .ref c1]).toList = ps.toList ++ [rawInt pos.line, rawInt pos.col, .ref c1] := by simp
    have J := inv_table (t' := tk) (more := #[rawInt pos.line, rawInt pos.col, .ref c1]) (h' := hp.push (PySem.W.kla_obj "<lambda>" (X.env.qual ++ "<lambda>") pa bd sc (cloFrom X.env.cells sc.names []) ((X.mg "__name__").getD .none) c1 ctv)) I tP
      (fun b o hb e => Heap.get?_push_of_some _ (ext b o hb e)) (Heap.get?_push_of_some _ tab) ge (q := X.env.qual ++ "<lambda>") ⟨oc, vs, t, Heap.get?_push_of_some _ r1, r2, r3⟩
    exact h hp.objs.size c1 _ ctv _ _ J upd_same (.inr ⟨I.hok.fresh ge, _, rfl, by rw [el]; exact PySem.TriplesOk_snoc _ _ _ _ tr, fun p' cv e => among_app _ tr (by rw [← el]; exact e)⟩) (fun b o hb e => Heap.get?_push_of_some _ (ext b o hb e)) (Heap.get?_push_size _ rfl)

/-- the keys: the greatest first, of equal ones the least number -/
def keyLe (ms : List Int) (p q : Nat) : Bool := decide (-(ms.getD p 0) < -(ms.getD q 0) ∨ (-(ms.getD p 0) = -(ms.getD q 0) ∧ (p : Int) ≤ (q : Int)))
def sortK (ms : List Int) (n : Nat) : List Nat := (List.range n).mergeSort (keyLe ms)
/-- the table grows by the code object of one name -/
def TabRel (P : Addr) (q : Str) (ps : Array Value) (H H1 : Hp) : Prop :=
  H1 = H ∨ ∃ (c' : Addr) (more : Array Value), H c' = none ∧ H1 = upd (upd H P (.tbl (ps ++ more))) c' (CodeO c' q) ∧ TriplesOk (ps ++ more).toList ∧ ∀ (p' : Pos) (cv : Value), codeAmong p' (ps ++ more).toList = some cv → codeAmong p' ps.toList = some cv ∨ cv = .ref c'
def tSortKey (K : PySem.W.Frag) (P : Addr) (q : Str) (j : Nat) (ta : TE) : TE := fun σ H Q => tRg1 ta σ H fun z x H1 => z = 0 ∧ ∃ (n : Nat) (L : Addr) (ms : List Int) (ps : Array Value), x = (n : Int) ∧ n ≤ ms.length ∧ ms.length ≤ 16777216 ∧ σ[j]? = some (some (.ref L)) ∧ SqL K H1 L (ms.map V.int) ∧
  H1 P = some (.tbl ps) ∧ TriplesOk ps.toList ∧ (∀ (pos : Pos) (cv : Value), codeAmong pos ps.toList = some cv → ∃ c, cv = .ref c ∧ H1 c = some (CodeO c q)) ∧ ∀ H2 p, TabRel P q ps H1 H2 → H2 p = none → Q (.ref p) (upd H2 p (.lst ((sortK ms n).map fun (i : Nat) => V.int i)))
theorem each_vals {out : List Value} {is : List Nat} (e : PySem.W.EachIs (fun v (i : Nat) => ∃ t, v = Value.int i t) out is) : Vals (is.map fun (i : Nat) => V.int i) out := by
  induction e with
  | nil => exact .nil
  | cons h _ ih => obtain ⟨t, rfl⟩ := h; exact .cons ⟨t, rfl⟩ ih
/-- sorted(range(a), key=lambda x: (-y[x], x)) -/
theorem pe_sortKey {X : Cx} {c P : Addr} {x y : Str} {sc : Scope} {a : Expr} {ta : TE} {j k : Nat} {p0 p1 p2 p3 p4 p5 p6 p7 p8 rp sp lp kp : Pos} (hcalm : X.calm = true) (hr : Room k X.A) (hg : Gl X "sorted") (hm : X.mg "sorted" = none) (hgr : Gl X "range") (hmr : X.mg "range" = none)
    (TB : TabB X.base X.mg c P) (hcode : X.env.code = .ref c) (hN : X.N[j]? = some y) (hcy : X.env.scope.names.lookup y = some .cell)
    (hk : sc.kind = .function) (hco : sc.isCoroutine = false) (hge : sc.isGenerator = false) (hx : sc.names.lookup x = some .local) (hy : sc.names.lookup y = some .free) (hn : ∀ z ∈ sc.names, z.2 ≠ .cell) (hfy : ∀ z ∈ sc.names, z.2 = .free → z.1 = y)
    (hb : ∀ (q : Str) (cl : List (Str × Addr)) (pm ctv : Value) (cv : Value) (v : Value), bindArgs (PySem.W.kla_fn "<lambda>" q (lamArgs1 x p0) (lamBody y x p1 p2 p3 p4 p5 p6) sc cl pm cv ctv) ⟨[v], []⟩ = pure [(x, v)])
    (ha : PE X a ta) (na : starEach [a] X.env = (false, eval a X.env) :: starEach [] X.env := by rfl)
    (he : backTo sp (starEach [.Call (.Name "range" rp) [a] [] p7] X.env) = (false, eval (.Call (.Name "range" rp) [a] [] p7) X.env) :: backTo sp (starEach [] X.env) := by rfl) (hpl : (backTo sp (starEach [.Call (.Name "range" rp) [a] [] p7] X.env)).any (·.1) = false := by rfl)
    (dx : (x == ("__debug__" : Str)) = false := by decide) (dy : (y == ("__debug__" : Str)) = false := by decide) (cy : (y == ("__classdict__" : Str)) = false := by decide) :
    PE X (.Call (.Name "sorted" p8) [.Call (.Name "range" rp) [a] [] p7] [⟨some (Str.ofString "key"), .Lambda (lamArgs1 x p0) (lamBody y x p1 p2 p3 p4 p5 p6) sc lp, kp⟩] sp) (tSortKey X.K P (X.env.qual ++ "<lambda>") j ta) := by
  refine ⟨fun pins s σ H Q I h => ?_⟩
  refine wpAny_Call_Name_kw (ld_blt I hg hm boot_sorted ?_)
  refine PyProof.Rows.callWith_kw ?_ he hpl
  rw [he]
  unfold tSortKey at h
  refine Calls.spliced_cons (thn (prg_1 hgr hmr ha na pins s σ H _ I h) fun v0 s1 ⟨r, a0, b0, t, u, v, H1, er, hrg, I1, ea, n, L, ms, ps, ex, hnm, hml, hσ, hq, tP, tr, tell, q⟩ => Calls.spliced_nil ?_)
  subst er; subst ea; subst ex
  have hfr : ∀ z ∈ sc.names, z.2 = .free → ∃ c, X.env.cells.lookup z.1 = some c := fun z hz e => by
    rw [hfy z hz e]; exact I.ok.has y (.inl hcy)
  show wpAny _ _ (evalAll [do let v ← eval (.Lambda (lamArgs1 x p0) (lamBody y x p1 p2 p3 p4 p5 p6) sc lp) X.env; standAt sp; pure v]) _ _ s1
  refine wpAny_evalAll_cons (wpAny_bind (lam_make3 I1 TB hcode rfl hfr tP tr tell fun f c' pm ctv H2 s2 I2 co rel kp2 hf => wpAny_bind (wpAny_standAt (wpAny_pure (wpAny_evalAll_nil ?_)))))
  show wpAny _ _ (call (.builtin "sorted") [.ref r] [(Str.ofString "key", .ref f)]) _ _ s2
  have rP : r ≠ P := fun z => by
    have eP : s1.heap.get? P = some { cls := .none, data := .fields ps } := I1.hok P _ tP
    rw [← z, hrg] at eP
    cases eP
  have ext : ∀ b o, H1 b = some o → (∀ ps, o ≠ .tbl ps) → H2 b = some o := fun b o e no => by
    rcases rel with e2 | ⟨cn, more, e2, _, _⟩
    · rw [e2]; exact e
    · rw [e2, upd_ne (ne_of_none e cn), upd_ne fun z => no ps (Option.some.inj (e.symm.trans (by rw [z]; exact tP)))]
      exact e
  have sq2 : SqL X.K H2 L (ms.map V.int) := by
    rcases hq with (h1 | ⟨o, h1⟩) | h1
    · exact .inl (.inl (ext _ _ h1 (by intro _ z; cases z)))
    · exact .inl (.inr ⟨o, ext _ _ h1 (by intro _ z; cases z)⟩)
    · exact .inr h1
  obtain ⟨its, rv, hl, hz⟩ := I2.list sq2
  have hlen := rv.length
  rw [List.length_map] at hlen
  obtain ⟨mm, hns, hloc⟩ := I2.loc
  obtain ⟨uL, ruL, hcase⟩ := hloc j y (.ref L) hN hσ (.inr (.inl hcy))
  have ruL : uL = .ref L := ruL
  subst ruL
  obtain ⟨cc, hcc, hcell⟩ : ∃ cc, X.env.cells.lookup y = some cc ∧ s2.heap.IsCell cc (some (.ref L)) := by
    rcases hcase with ⟨hk', _⟩ | ⟨_, cc, h1, h2⟩
    · have hk' : X.env.scope.names.lookup y = some .local := hk'
      rw [hcy] at hk'; cases hk'
    · exact ⟨cc, h1, h2⟩
  have hcl : (cloFrom X.env.cells sc.names []).lookup y = some cc := by
    obtain ⟨c2, h2⟩ := mem_lookup (cloFrom_has (cells := X.env.cells) (acc := []) (PySem.mem_of_lookup hy))
    rw [h2]
    rcases cloFrom_mem (PySem.mem_of_lookup h2) with hm | ⟨_, h3⟩
    · cases hm
    · rw [h3, hcc]; rfl
  obtain ⟨⟨oc, vs, tq, k1, k2, k3⟩, _, _⟩ := I2.hok c' _ co
  refine sorted_rgKey (k := fun i => .tuple [.int (-(ms.getD i 0)), .int i]) (n := n) (I2.ok.hd hcalm) (kp2 r _ rP hrg) (small_one (by decide) (by decide) (by omega) (by omega)) (by omega) ?_ ?_ (fun i => ?_) (fun i ti hi h2 tk2 kk => ?_) (fun out c2 g1 g2 tk3 ka kb hat each => ?_)
  · intro d hd d' hd'
    obtain ⟨i, _, rfl⟩ := List.mem_map.mp hd
    obtain ⟨i', _, rfl⟩ := List.mem_map.mp hd'
    rfl
  · refine .inl fun d hd => ?_
    obtain ⟨i, _, rfl⟩ := List.mem_map.mp hd
    exact ⟨_, _, rfl⟩
  · have := hr.un
    have e : (PyData.tuple [PyData.int (-ms.getD i 0), PyData.int (i : Int)]).depth = 1 := by simp [PyData.depth, PyData.depthAll]
    rw [e]
    omega
  · have him : i < ms.length := by omega
    obtain ⟨vi, hvi, rvi⟩ := rv.get (i := i) (x := V.int (ms.getD i 0)) (by rw [List.getElem?_map, List.getElem?_eq_getElem him, List.getD_eq_getElem?_getD, List.getElem?_eq_getElem him]; rfl)
    obtain ⟨tm, rfl⟩ := rvi
    obtain ⟨ol, l1, l2, l3⟩ := hl.isList
    refine lam_turn (s := { s2 with heap := h2, toks := tk2 }) (A := X.A.in1.in1) (cc := cc) (L := L) (its := its) (x := x) (y := y) hr.depth (I2.nolimit.keeps kk) (kk _ _ hf) ⟨c', oc, vs, tq, rfl, kk _ _ k1, k2, k3⟩ hk hco hge hx hy hn hcl (hcell.keeps kk) ⟨ol, kk _ _ l1, l2, l3⟩ (by omega) (by omega) (by simpa using hvi) (fun cv v => hb _ _ _ _ _ _) dx dy cy
  · have J := I2.kept (t' := tk3) ka
    have J2 := J.laid (h' := g2) (t' := tk3) (o := .lst ((sortK ms n).map fun (i : Nat) => V.int i)) kb (Nat.le_refl _) (show ObjOk X.prog X.w _ _ _ (.lst _) from ⟨?_, out, c2, ?_, hat⟩)
    · exact ⟨.ref g1.objs.size, _, J2, rfl, q H2 g1.objs.size (by
        rcases rel with e2 | ⟨cn, more, e2, r1, r2⟩
        · exact .inl e2
        · exact .inr ⟨c', more, cn, e2, r1, r2⟩) (J.hok.fresh (Nat.le_refl _))⟩
    · rw [List.length_map]
      unfold sortK
      rw [List.length_mergeSort, List.length_range, sizeLine_eq]
      omega
    · have e : PySem.W.dataLe false (fun (i : Nat) => PyData.tuple [.int (-(ms.getD i 0)), .int i]) = keyLe ms := by
        rw [PySem.W.dataLe_ii (fun i => -(ms.getD i 0)) (fun (i : Nat) => (i : Int))]
        rfl
      rw [e] at each
      exact each_vals each

section
variable {K : PySem.W.Frag} {mg : Str → Option Value} {G H : Hp} {cs : List Cl}
/-- the world behind a lambda made -/
theorem Res.lamNew {x : Str} {P : Addr} {H2 : Hp} (rs : Res K mg G H cs) (hx : x ∈ (["best_order", "division"] : List Str)) (tf : TabFn K mg x P) (hne : ∀ x' ∈ (["best_order", "division"] : List Str), x' ≠ x → ∀ P', TabFn K mg x' P' → P' ≠ P)
    {ps : Array Value} (tP : H P = some (.tbl ps)) (tell : ∀ (pos : Pos) (cv : Value), codeAmong pos ps.toList = some cv → ∃ c, cv = .ref c ∧ G c = some (CodeO c (x ++ ".<locals>.<lambda>"))) (rel : TabRel P (x ++ ".<locals>.<lambda>") ps H H2) :
    ∃ G2, Res K mg G2 H2 cs ∧ Stp (own cs) G H (own cs) G2 H2 := by
  rcases rel with e | ⟨c', more, cn, e, tr, tl⟩
  · subst e
    exact ⟨G, rs, Stp.refl⟩
  · have gP : G P = none := by
      cases q : G P with
      | none => rfl
      | some o =>
        have := rs.same P o q
        rw [tP] at this
        cases this
        exact absurd q (rs.tab.gt P _)
    have gc : G c' = none := rs.same.free cn
    have Pc : P ≠ c' := fun z => by rw [← z, tP] at cn; cases cn
    have nP : ∀ b ∈ own cs, b ≠ P := fun b hb z => rs.noTbl b hb ps (by rw [z]; exact tP)
    have at_ : ∀ b, b ≠ P → b ≠ c' → H2 b = H b := fun b h1 h2 => by rw [e, upd_ne h2, upd_ne h1]
    have eP : H2 P = some (.tbl (ps ++ more)) := by rw [e, upd_ne Pc, upd_same]
    have ec : H2 c' = some (CodeO c' (x ++ ".<locals>.<lambda>")) := by rw [e, upd_same]
    have kp : ∀ b o, H b = some o → (∀ ps, o ≠ .tbl ps) → H2 b = some o := fun b o q n => by
      rw [at_ b (fun z => n ps (Option.some.inj (q.symm.trans (by rw [z]; exact tP)))) (ne_of_none q cn)]
      exact q
    have sG : Same G (upd G c' (CodeO c' (x ++ ".<locals>.<lambda>"))) := sameUpdG gc
    refine ⟨upd G c' (CodeO c' (x ++ ".<locals>.<lambda>")), ⟨fun b o q => ?_, fun c hc => (rs.ok c hc).frame sG fun a ha o q n => kp a o q n, rs.nd, fun a ha => ?_, fun b qs q => ?_, fun x' hx' P' tf' => ?_⟩, fun b o _ q n => kp b o q n, sG, fun b _ hb => ?_, fun b hb => ?_, fun b hb => .inl hb⟩
    · by_cases hb : b = c'
      · subst hb; rw [upd_same] at q; rw [ec]; exact q
      · rw [upd_ne hb] at q
        exact kp b o (rs.same b o q) fun ps z => rs.tab.gt b ps (by rw [q, z])
    · rw [upd_ne fun z => rs.there a ha (by rw [z]; exact cn)]
      exact rs.fr a ha
    · by_cases hb : b = c'
      · subst hb; rw [upd_same] at q; unfold CodeO at q; cases q
      · rw [upd_ne hb] at q; exact rs.tab.gt b qs q
    · by_cases hxx : x' = x
      · subst hxx
        have := tf'.one tf
        subst this
        refine ⟨ps ++ more, eP, tr, fun pos cv q => ?_⟩
        rcases tl pos cv q with z | z
        · obtain ⟨c0, e1, e2⟩ := tell pos cv z
          exact ⟨c0, e1, sG _ _ e2⟩
        · exact ⟨c', z, upd_same⟩
      · obtain ⟨qs, h1, h2, h3⟩ := rs.tab.tat x' hx' P' tf'
        refine ⟨qs, ?_, h2, fun pos cv q => ?_⟩
        · rw [at_ P' (hne x' hx' hxx P' tf') fun z => by rw [z, cn] at h1; cases h1]
          exact h1
        · obtain ⟨c0, e1, e2⟩ := h3 pos cv q
          exact ⟨c0, e1, sG _ _ e2⟩
    · rw [upd_ne fun z => hb (by rw [z]; exact cn)]
    · by_cases h1 : b = P
      · rw [h1, eP]; simp
      · rw [at_ b h1 fun z => hb (by rw [z]; exact cn)]; exact hb
def lsI (ρ : List Sl) (j : Nat) : Option (List Int) := (lsv ρ (.bor j)).bind ints?
/-- sorted(range(a), key=lambda v: (-y[v], v)), y in slot j -/
noncomputable def mSortKey (j : Nat) (a : M) : M := fun ρ => match a ρ with
  | some (.val (.int n), ρ') => (lsI ρ' j).bind fun ms => @ite _ (0 ≤ n ∧ n ≤ ms.length ∧ ms.length ≤ 16777216) (Classical.propDecidable _) (some (.own (.ow ((sortK ms n.toNat).map fun (i : Nat) => D.int i)), ρ')) none
  | _ => none
end
theorem se_sortKey {X : Cx} {c P : Addr} {x y : Str} {sc : Scope} {a : Expr} {ma : M} {k : Nat} {p0 p1 p2 p3 p4 p5 p6 p7 p8 rp sp lp kp : Pos} (x0 : Str) (j : Nat) (hcalm : X.calm = true) (hr : Room k X.A) (hm : X.mg "sorted" = none) (hmr : X.mg "range" = none)
    (TB : TabB X.base X.mg c P) (hcode : X.env.code = .ref c) (hx0 : x0 ∈ (["best_order", "division"] : List Str)) (tf : TabFn X.K X.mg x0 P) (hne : ∀ x' ∈ (["best_order", "division"] : List Str), x' ≠ x0 → ∀ P', TabFn X.K X.mg x' P' → P' ≠ P)
    (hq : X.env.qual ++ "<lambda>" = x0 ++ ".<locals>.<lambda>") (ha : SE X a ma)
    (hb : ∀ (q : Str) (cl : List (Str × Addr)) (pm ctv : Value) (cv : Value) (v : Value), bindArgs (PySem.W.kla_fn "<lambda>" q (lamArgs1 x p0) (lamBody y x p1 p2 p3 p4 p5 p6) sc cl pm cv ctv) ⟨[v], []⟩ = pure [(x, v)])
    (hg : Gl X "sorted" := by rfl) (hgr : Gl X "range" := by rfl) (hN : X.N[j]? = some y := by rfl) (hcy : X.env.scope.names.lookup y = some .cell := by rfl)
    (hk : sc.kind = .function := by rfl) (hco : sc.isCoroutine = false := by rfl) (hge : sc.isGenerator = false := by rfl) (hx : sc.names.lookup x = some .local := by rfl) (hy : sc.names.lookup y = some .free := by rfl) (hn : ∀ z ∈ sc.names, z.2 ≠ .cell := by decide +kernel) (hfy : ∀ z ∈ sc.names, z.2 = .free → z.1 = y := by decide +kernel)
    (na : starEach [a] X.env = (false, eval a X.env) :: starEach [] X.env := by rfl)
    (he : backTo sp (starEach [.Call (.Name "range" rp) [a] [] p7] X.env) = (false, eval (.Call (.Name "range" rp) [a] [] p7) X.env) :: backTo sp (starEach [] X.env) := by rfl) (hpl : (backTo sp (starEach [.Call (.Name "range" rp) [a] [] p7] X.env)).any (·.1) = false := by rfl)
    (dx : (x == ("__debug__" : Str)) = false := by decide) (dy : (y == ("__debug__" : Str)) = false := by decide) (cy : (y == ("__classdict__" : Str)) = false := by decide) :
    SE X (.Call (.Name "sorted" p8) [.Call (.Name "range" rp) [a] [] p7] [⟨some (Str.ofString "key"), .Lambda (lamArgs1 x p0) (lamBody y x p1 p2 p3 p4 p5 p6) sc lp, kp⟩] sp) (mSortKey j ma) :=
  PE.imp (pe_sortKey (j := j) hcalm hr hg hm hgr hmr TB hcode hN hcy hk hco hge hx hy hn hfy hb ha na he hpl dx dy cy) fun σ H Q h => by
  obtain ⟨cs, G, r, ρ', e1, rs, hm, kk⟩ := h
  unfold mSortKey at hm
  split at hm
  · rename_i n ρ1 ea
    obtain ⟨ms, hms, hm⟩ := Option.bind_eq_some_iff.mp hm
    split at hm
    · rename_i hbd
      cases hm
      refine ⟨cs, G, _, _, e1, rs, ea, fun cs1 v B G1 H1 f1 f2 fb rs1 st1 => ?_⟩
      obtain ⟨rp', rfl⟩ := rs1.val
      obtain ⟨xs, hls, hin⟩ := Option.bind_eq_some_iff.mp hms
      have := ints?_eq hin
      subst this
      have rs2 := rs1.tail
      have st2 := st1.back1
      obtain ⟨sl, hsl, hl2⟩ := Option.bind_eq_some_iff.mp hls
      have hsl : ρ'[j]? = some sl := hsl
      rw [← f2] at hsl
      obtain ⟨cc, hcc, ecc⟩ := cell_at hsl
      obtain ⟨vL, hvL⟩ : ∃ vL, cc.v = some vL := by
        rcases rs2.ok cc (List.mem_of_getElem? hcc) with ⟨z, _⟩ | ⟨v, hv, _⟩
        · rw [ecc] at z; subst z; cases hl2
        · exact ⟨v, hv⟩
      have hσ : (vals cs1)[j]? = some (some vL) := by rw [List.getElem?_map, hcc]; show some cc.v = _; rw [hvL]
      obtain ⟨L, ws, eL, hS, hR⟩ := lsv_rep (c := ⟨some vL, .no, []⟩) (r := .bor j) (v := vL) rs2 (.inl ⟨rfl, rfl⟩) rfl rfl (fun i z => by cases z; exact hσ) (by rw [f2]; exact hls)
      subst eL
      have := hR.ints
      subst this
      obtain ⟨ps, tP, tr, tell⟩ := rs2.tab.tat x0 hx0 P tf
      refine ⟨n, rp'.int_iff, rfl, n.toNat, L, ms, ps, by omega, by omega, hbd.2.2, by rw [← f1]; exact hσ, hS, tP, tr, fun pos cv e => ?_, fun H2 p rel hp => ?_⟩
      · obtain ⟨c0, e1, e2⟩ := tell pos cv e
        rw [hq]
        exact ⟨c0, e1, rs2.same _ _ e2⟩
      · rw [hq] at rel
        obtain ⟨G2, rs3, st3⟩ := rs2.lamNew hx0 tf hne tP tell rel
        refine Kn.newL kk f1 f2 rs3 (st2.trans st3) ?_ hp
        have := Reps.of_ints (K := X.K) (mg := X.mg) (G := G2) ((sortK ms n.toNat).map fun (i : Nat) => (i : Int))
        simpa [List.map_map, Function.comp_def] using this
    · cases hm
  · cases hm
/-- a def whose code object is known -/
theorem okC {P : Program} {w : World} {K : PySem.W.Frag} {mg : Str → Option Value} {base : Heap} {x qual : Str} {st : Stmt} {f : Addr} {fd : FuncData} {N ps : List Str} {k : Nat} {sp : Sp} (F : Fun K x qual st f fd) (S : FnScope N ps (defScope st)) (len : ∀ vs H Q E, sp vs H Q E → vs.length = ps.length)
    (hb : ∀ (cd : Value) (A : Around) (outer : List Env) (s : Shared) (H : Hp) (vs : List V) (Q : VK) (E : XK), fd.code = cd → Room k (A.deeper (envOfC qual (defScope st) s.heap.objs.size f cd)) → sp vs H Q E →
      ∃ t, PSs (cxOf CX0 P w K mg base N qual (defScope st) f cd A outer s H E).nox (defBody st) t ∧ t { nx := fun _ H' => Q .non H', rt := Q } (start N vs) H) : FnOk P w K mg base CX0 (k + 1) f fd ps sp := by
  obtain ⟨_, _, _, _, _, _, cd, _, _, e, look, hcd⟩ := F.ex
  subst e
  exact fn_of look hcd S len fun A outer s H vs Q E r1 r2 => (hb cd A outer s H vs Q E rfl r1 r2).imp fun t z => ⟨z.1.nox, z.2⟩
end FW

/-! the end of a law whose program may make lambdas -/
namespace FW
open PySem PySem.Spec PyProof.Rows L2 LamX
/-- the table of the def y stands empty -/
def TabAt (mg : Str → Option Value) (h : Heap) (y : Str) : Prop := ∃ (a : Addr) (o : Obj) (fd : FuncData) (c P : Addr), mg y = some (.ref a) ∧ h.get? a = some o ∧ o.data = .func fd ∧ fd.code = .ref c ∧ PySem.W.CodeHd h c P ∧ h.get? P = some { cls := .none, data := .fields #[] }
theorem walk_tabs {l : PySem.W.OpenLaw} {n k : Nat} {q : Program} {loose : List Str} {XP : (Str → Option Value) → Heap → Prop} {YP : World → Heap → Prop} {d : DefRec} {K : Params → PySem.W.Frag} {CX : World → CXT} {x : Str} (ys : List Str) (hn : l.most = some n) (hn2 : n ≤ sizeLine) (hdf : d.params.defaults = []) (hr : Room k callerA)
    (there : ∀ y ∈ ys, ((recsOf q).any fun e => e.name == y) = true) (hY : ∀ (w : World) (h : Heap), YP w h → (K w.params).In h)
    (F : ∀ (w : World) (mg : Str → Option Value) (fa : Addr) (h : Heap), (K w.params).In h → h.Ns mainGlobals mg → mg d.name = some (.ref fa) → (∀ y ∈ ys, TabAt mg h y) → LawAtS l w (K w.params) (CX w) k n x mg fa h)
    (out : ∀ (w : World) (H : Hp) (s : Shared) (e : Value) (s' : Shared), CX w [] H s (fun _ _ _ => False) e s' → False) :
    PySem.W.WalkO q loose XP YP l.row.toRowW d [] (fun f vs => PySem.call f vs) := Att.attach_callB hn hdf fun w s₀ s₁ mg mb fa o pm cd doc a vs ns G Y ho hd hcd hmg hobj hints hlen hbits hg => by
  have at_ : ∀ y ∈ ys, TabAt mg s₁.heap y := fun y hy => by
    obtain ⟨e, e1, e2⟩ := List.any_eq_true.mp (there y hy)
    have e2 : e.name = y := beq_iff_eq.mp e2
    obtain ⟨f1, o1, fd1, c1, P1, t1, t2, t3, t4, t5, t6⟩ := G.T.tab e e1
    exact ⟨f1, o1, fd1, c1, P1, by rw [← e2]; exact t1, t2, t3, t4, PySem.W.CodeHd.of t5 t6, t6.2⟩
  obtain ⟨fd, cs, sp, z1, z2, z3, z4, z5, z6⟩ := F w mg fa s₁.heap (hY w _ Y) G.T.g hmg at_
  exact law_callTs (hY w _ Y) G.T.g G.T.b G.T.builtins G.T.nolimit hg z1 z2 z3 G.T.bmain hobj hints (Nat.le_trans hlen hn2) hr z6 z4 (fun H hH hS => z5 H a ns hlen hbits hH hS) fun H e s' => out w H s₁ e s'
/-- the table that the fragment tells -/
theorem TabAt.of {K : PySem.W.Frag} {mg : Str → Option Value} {h : Heap} {y : Str} (t : TabAt mg h y) (X : K.In h) {f c P : Addr} {o : Obj} {fd : FuncData} {e : Value} {dd : Option Addr} {vs : Array Value} {sl : Array (Option Value)} (m : mg y = some (.ref f)) (l : K.lookup f = some o) (d : o.data = .func fd) (hc : fd.code = .ref c)
    (lc : K.lookup c = some ⟨e, dd, .fields vs, sl⟩) (hP : vs[11]? = some (.ref P)) : PySem.W.CodeHd h c P ∧ h.get? P = some { cls := .none, data := .fields #[] } := by
  obtain ⟨a', o', fd', c', P', b1, b2, b3, b4, b5, b6⟩ := t
  rw [m] at b1; cases b1
  rw [X _ _ l] at b2; cases b2
  rw [d] at b3; cases b3
  rw [hc] at b4; cases b4
  obtain ⟨oc, vc, file, tf, flags, tg, inF, text, tt, q1, q2, q3, q4, q5⟩ := b5
  have g := X _ _ lc
  rw [q1] at g; cases g
  cases q3
  rw [hP] at q4; cases q4
  exact ⟨⟨_, vs, file, tf, flags, tg, inF, text, tt, q1, q2, rfl, hP, q5⟩, b6⟩
/-- the world at the law's entry -/
theorem res0 {K : PySem.W.Frag} {mg : Str → Option Value} {H : Hp} {a : Addr} {ns : List Int} (hS : SqL K H a (ns.map V.int)) (ht : ∀ x ∈ (["best_order", "division"] : List Str), ∀ P, TabFn K mg x P → H P = some (.tbl #[])) :
    ∃ G, Res K mg G H [⟨some (.ref a), .fz (.scr (ns.map D.int)), []⟩] := by
  have hG : ∀ b o, H b = some o → (∀ ps, o ≠ .tbl ps) → (match H b with | some (.tbl _) => none | o => o) = some o := fun b o e n => by
    rw [e]
    cases o with
    | tbl ps => exact absurd rfl (n ps)
    | _ => rfl
  refine ⟨fun b => match H b with | some (.tbl _) => none | o => o, ⟨fun b o e => ?_, fun c hc => ?_, by simp [own], fun b hb => by simp [own] at hb, fun b ps e => ?_, fun x hx P hP => ⟨#[], ht x hx P hP, True.intro, fun pos cv e => ?_⟩⟩⟩
  · have e : (match H b with | some (.tbl _) => none | o => o) = some o := e
    split at e
    · cases e
    · exact e
  · have : c = ⟨some (.ref a), .fz (.scr (ns.map D.int)), []⟩ := by simpa using hc
    subst this
    refine .inr ⟨_, rfl, .fz (.scr ?_ (.of_ints ns))⟩
    rcases hS with (h1 | ⟨o, h1⟩) | h1
    · exact .inl (.inl (hG _ _ h1 (by intro _ z; cases z)))
    · exact .inl (.inr ⟨o, hG _ _ h1 (by intro _ z; cases z)⟩)
    · exact .inr h1
  · have e : (match H b with | some (.tbl _) => none | o => o) = some (.tbl ps) := e
    split at e
    · cases e
    · rename_i h; exact h ps e
  · have e : codeAmong pos [] = some cv := e
    simp [codeAmong] at e
end FW

/-! xs.pop() of a list that owns its items -/
namespace FW
open PySem PySem.Spec PyProof.Rows L2
section
variable {K : PySem.W.Frag} {mg : Str → Option Value} {G H G' H' : Hp} {cs : List Cl}
theorem OwnL.unsnoc : ∀ {ss : List Sl} {s : Sl} {vs : List V} {As : List Addr}, OwnL K mg G H (ss ++ [s]) vs As → ∃ ws y A0 B, vs = ws ++ [y] ∧ As = A0 ++ B ∧ OwnL K mg G H ss ws A0 ∧ Own K mg G H s y B
  | [], s, _, _, .cons h .nil => ⟨[], _, [], _, rfl, by simp, .nil, h⟩
  | s0 :: ss, s, _, _, .cons h r => by
    obtain ⟨ws, y, A0, B, e1, e2, e3, e4⟩ := OwnL.unsnoc (ss := ss) r
    subst e1; subst e2
    exact ⟨_ :: ws, y, _ ++ A0, B, rfl, by simp, .cons h e3, e4⟩
/-- the last item taken -/
theorem Res.popped {a : Addr} {ss : List Sl} {s : Sl} {A : List Addr} (h : Res K mg G H (⟨some (.ref a), .nl (ss ++ [s]), A⟩ :: cs)) :
    ∃ ws y As B, A = a :: (As ++ B) ∧ H a = some (.lst (ws ++ [y])) ∧ Res K mg G (upd H a (.lst ws)) (⟨some y, s, B⟩ :: ⟨some (.ref a), .nl ss, a :: As⟩ :: cs) ∧
      Stp (own (⟨some (.ref a), .nl (ss ++ [s]), A⟩ :: cs)) G H (own (⟨some y, s, B⟩ :: ⟨some (.ref a), .nl ss, a :: As⟩ :: cs)) G (upd H a (.lst ws)) := by
  have o : Own K mg G H (.nl (ss ++ [s])) (.ref a) A := h.h1.own rfl rfl (by simp)
  cases o with
  | nl q r =>
    rename_i vs As0
    obtain ⟨ws, y, As, B, e1, e2, r1, r2⟩ := r.unsnoc
    subst e1; subst e2
    have n := h.nd
    have en : own ((⟨some (.ref a), .nl (ss ++ [s]), a :: (As ++ B)⟩ : Cl) :: cs) = a :: (As ++ (B ++ own cs)) := by rw [own_cons]; simp
    have en2 : own ((⟨some y, s, B⟩ : Cl) :: ⟨some (.ref a), .nl ss, a :: As⟩ :: cs) = B ++ (a :: (As ++ own cs)) := by rw [own_cons, own_cons]; rfl
    have pm : List.Perm (B ++ (a :: (As ++ own cs))) (a :: (As ++ (B ++ own cs))) := by
      refine List.perm_middle.trans (List.Perm.cons _ ?_)
      rw [← List.append_assoc, ← List.append_assoc]
      exact List.Perm.append_right _ List.perm_append_comm
    rw [en] at n
    have na := (List.nodup_cons.mp n).1
    have kp : ∀ b, b ≠ a → ∀ u, H b = some u → upd H a (.lst ws) b = some u := fun b hb u e => by rw [upd_ne hb]; exact e
    have fr : ∀ b, b ∈ a :: (As ++ (B ++ own cs)) → G b = none := fun b hb => h.fr b (by rw [en]; exact hb)
    refine ⟨ws, y, As, B, rfl, q, ⟨fun b u e => ?_, fun c hc => ?_, by rw [en2]; exact pm.nodup_iff.mpr n, fun b hb => fr b (pm.mem_iff.mp (by rw [en2] at hb; exact hb)), h.tab.upd (h.noTbl a (by rw [en]; simp))⟩, ⟨fun b u hb e _ => ?_, fun _ _ e => e, fun _ _ _ => rfl, fun b hb => ?_, fun b hb => .inl (by rw [en]; exact pm.mem_iff.mp (by rw [en2] at hb; exact hb))⟩⟩
    · exact kp b (fun z => by rw [z, fr a (by simp)] at e; cases e) u (h.same b u e)
    · rcases List.mem_cons.mp hc with z | z
      · subst z
        exact .inr ⟨_, rfl, r2.frame (fun _ _ e => e) fun b hb u e _ => kp b (fun z => na (by rw [← z]; simp [hb])) u e⟩
      · rcases List.mem_cons.mp z with z | z
        · subst z
          exact .inr ⟨_, rfl, .nl upd_same (r1.frame (fun _ _ e => e) fun b hb u e _ => kp b (fun z => na (by rw [← z]; simp [hb])) u e)⟩
        · exact (h.tail.ok c z).frame (fun _ _ e => e) fun b hb u e _ => kp b (fun y => na (by rw [← y]; exact List.mem_append_right _ (List.mem_append_right _ (mem_own.mpr ⟨c, z, hb⟩)))) u e
    · exact kp b (fun z => hb (by rw [en, z]; simp)) u e
    · by_cases z : b = a
      · rw [z, upd_same]; simp
      · rw [upd_ne z]; exact hb
/-- xs.pop() -/
def mPopO (i : Nat) : M := fun ρ => match ρ[i]? with
  | some (.nl ss) => match ss.getLast? with
    | some .no => none
    | some s => some (.own s, ρ.set i (.nl ss.dropLast))
    | none => none
  | _ => none
theorem rd_popO {i : Nat} : ∀ σ H Q, tM K mg (mPopO i) σ H Q → tBM0 K "list" rPop (tVar i) σ H Q := fun σ H Q h => by
  obtain ⟨cs, G, r, ρ', e1, rs, hm, k⟩ := h
  unfold mPopO at hm
  split at hm
  · rename_i ss ei
    have hm : ∃ s, ss.getLast? = some s ∧ s ≠ .no ∧ some (Rv.own s, (slots cs).set i (.nl ss.dropLast)) = some (r, ρ') := by
      cases e : ss.getLast? with
      | none => rw [e] at hm; cases hm
      | some s =>
        rw [e] at hm
        cases s with
        | no => cases hm
        | _ => exact ⟨_, rfl, by simp, hm⟩
    obtain ⟨s, hs, hno, hm⟩ := hm
    cases hm
    subst e1
    have es : ss = ss.dropLast ++ [s] := by
      obtain ⟨l, e⟩ := List.getLast?_eq_some_iff.mp hs
      rw [e, List.dropLast_concat]
    obtain ⟨a, ws, As, q1, q2, q3, q4, q5, q6⟩ := nl_cell rs ei
    obtain ⟨l1, l2, el, es2⟩ := split_at q1
    subst el
    have pp : List.Perm (l1 ++ (⟨some (.ref a), .nl ss, a :: As⟩ : Cl) :: l2) ((⟨some (.ref a), .nl ss, a :: As⟩ : Cl) :: (l1 ++ l2)) := List.perm_middle
    have rs2 := rs.perm pp
    rw [es] at rs2
    obtain ⟨ws1, y, As1, B, z1, z2, rs3, st3⟩ := rs2.popped
    rw [q3] at z2
    cases z2
    refine ⟨.ref a, q2, .inl ⟨rfl, _, SqL.of q3⟩, a, ws1 ++ [y], y, rfl, rfl, q3, by simp, ?_⟩
    rw [List.dropLast_concat]
    have pq : List.Perm ((⟨some y, s, B⟩ : Cl) :: ⟨some (.ref a), .nl ss.dropLast, a :: As1⟩ :: (l1 ++ l2)) (⟨some y, s, B⟩ :: (l1 ++ (⟨some (.ref a), .nl ss.dropLast, a :: As1⟩ : Cl) :: l2)) := List.Perm.cons _ List.perm_middle.symm
    have ex : (l1 ++ (⟨some (.ref a), .nl ss, a :: As⟩ : Cl) :: l2).set i ⟨some (.ref a), .nl ss.dropLast, a :: As1⟩ = l1 ++ (⟨some (.ref a), .nl ss.dropLast, a :: As1⟩ : Cl) :: l2 := set_mid es2
    refine k (l1 ++ (⟨some (.ref a), .nl ss.dropLast, a :: As1⟩ : Cl) :: l2) y B G _ ?_ ?_ (fun j hj => nomatch hj) (rs3.perm pq) (Stp.perm ?_ (own_perm pq))
    · simp [vals]
    · rw [← ex, slots_set]
    · have st4 : Stp (own (⟨some (.ref a), .nl ss, a :: As⟩ :: (l1 ++ l2))) G H (own ((⟨some y, s, B⟩ : Cl) :: ⟨some (.ref a), .nl ss.dropLast, a :: As1⟩ :: (l1 ++ l2))) G (upd H a (.lst ws1)) := by
        rw [← es] at st3; exact st3
      exact st4.more fun b hb => (own_perm pp).mem_iff.mpr hb
  · cases hm
end
theorem se_popO {X : Cx} {x : Str} {np apos cpos : Pos} (i : Nat)
    (hN : X.N[i]? = some x := by rfl) (hv : Vis X.env.scope x := by first | exact Or.inl rfl | exact Or.inr (Or.inl rfl) | exact Or.inr (Or.inr rfl)) (hd : (x == ("__debug__" : Str)) = false := by decide) (hcd : (x == ("__classdict__" : Str)) = false := by decide)
    (hbase : attributeBase (.Name x np) "pop" X.env (eval (.Name x np) X.env) = eval (.Name x np) X.env := by rfl) (hline : (apos.endLine == cpos.line) = true := by rfl) :
    SE X (.Call (.Attribute (.Name x np) "pop" apos) [] [] cpos) (mPopO i) :=
  PE.imp (pe_bm0 PySem.F.plainAttrs_list PySem.F.slot_list_pop PySem.F.type_list_pop mt_pop (pe_var hN hv hd hcd) hbase hline) rd_popO
@[simp] theorem r_popO {ρ : List Sl} (i : Nat) : mPopO i ρ = match ρ[i]? with
  | some (.nl ss) => match ss.getLast? with
    | some .no => none
    | some s => some (.own s, ρ.set i (.nl ss.dropLast))
    | none => none
  | _ => none := rfl
@[simp] theorem r_sortKey {ρ : List Sl} (j : Nat) (a : M) : mSortKey j a ρ = match a ρ with
  | some (.val (.int n), ρ') => (lsI ρ' j).bind fun ms => @ite _ (0 ≤ n ∧ n ≤ ms.length ∧ ms.length ≤ 16777216) (Classical.propDecidable _) (some (.own (.ow ((sortK ms n.toNat).map fun (i : Nat) => D.int i)), ρ')) none
  | _ => none := rfl
end FW

/-! try: .. except X as n: .. : the exception is tracked from its landing on -/
namespace FW
open PySem PySem.Spec PyProof.Rows L2
section
variable {X : Cx} {pins : List (Addr × Obj)} {σ : L2.St} {H : Hp} {s : Shared}
/-- the exception at a is known from now on -/
theorem inv_track {a C : Addr} {oe : Obj} {vs : Array Value} {d : Option Addr} (I : Inv X pins σ H s) (he : s.heap.get? a = some oe) (hz : Zc (.ref C) d oe) (hd : oe.data = .fields vs) (na : H a = none) (nL : a ≠ X.env.locals) (nP : ∀ p ∈ X.pn ++ pins, p.1 ≠ a)
    (n0 : X.s_0.heap.get? a = none) : Inv X pins σ (upd H a (ExcO a C d)) s := by
  have ne : ∀ b u, H b = some u → upd H a (ExcO a C d) b = some u := fun b u e => by rw [upd_ne (ne_of_none e na)]; exact e
  have nn : ∀ b, b ≠ a → H b = none → upd H a (ExcO a C d) b = none := fun b h e => by rw [upd_ne h]; exact e
  refine ⟨I.ok, I.os, I.bare, ⟨I.base.keep, I.base.slot, fun b o e n x => ?_, I.base.there, fun b xs e => ne _ _ (I.base.tups b xs e), fun b o u e => ne _ _ (I.base.frzs b o u e), fun b ps e => ?_⟩, I.loc, I.cell, nn _ nL.symm I.free, fun x c e => ?_, fun p hp => ?_, fun b u e => ?_, I.len⟩
  · exact nn _ (fun z => by rw [z, n0] at e; cases e) (I.base.free b o e n x)
  · obtain ⟨more, q⟩ := I.base.tbls b ps e
    exact ⟨more, ne _ _ q⟩
  · refine nn _ (fun z => ?_) (I.freeC x c e)
    obtain ⟨v, o, ho, hc⟩ := I.cell x c e
    rw [z, he] at ho
    cases ho
    rw [hd] at hc
    cases hc
  · obtain ⟨p1, p2, p3, p4, p5⟩ := I.pin p hp
    exact ⟨p1, nn _ (nP p hp) p2, p3, p4, p5⟩
  · by_cases hb : b = a
    · subst hb
      rw [upd_same] at e
      cases e
      refine ⟨⟨oe, he, hz.1, hz.2, vs, hd⟩, ⟨oe, he⟩, fun h1 h2 ⟨o, q1, q2⟩ st => ⟨o, st _ q1, q2⟩⟩
    · rw [upd_ne hb] at e
      exact (I.hok b u e).stay (fun d v _ q => q) (fun d q => ne _ _ q) fun d xs q => ne _ _ q
/-- the context of a suite in which the exception is tracked -/
theorem inv_suiteT {a : Addr} (I : Inv X pins σ H s) : Inv (X.suite a (X.pn ++ pins)) [] σ H s :=
  ⟨I.ok.suite _ _, I.os, I.bare, I.base, I.loc, I.cell, I.free, I.freeC, fun p hp => I.pin p (by rw [List.append_nil] at hp; exact hp), I.hok, I.len⟩
theorem inv_unsuiteT {a : Addr} {more : List (Addr × Obj)} (I : Inv (X.suite a (X.pn ++ pins)) more σ H s) (ok : X.Ok) : Inv X pins σ H s :=
  ⟨ok, I.os, I.bare, I.base, I.loc, I.cell, I.free, I.freeC, fun p hp => I.pin p (List.mem_append_left _ hp), I.hok, I.len⟩
end
/-- a clause: its class, its name's slot, its suite's reading -/
structure Cls1 where
  c : Value
  i : Option Nat
  ts : Addr → Addr → Option Addr → TS
def dropE (D : Ends) : Option Nat → Ends
  | none => D
  | some i => { nx := fun σ H => D.nx (σ.set i none) H, rt := D.rt, bk := fun σ H => D.bk (σ.set i none) H, ct := fun σ H => D.ct (σ.set i none) H }
def held (σ : L2.St) (a : Addr) : Option Nat → L2.St
  | none => σ
  | some i => σ.set i (some (.ref a))
/-- what the clauses wish of an exception -/
def wCl (K : PySem.W.Frag) (Wout : L2.WX) (D : Ends) : List Cls1 → L2.WX
  | [] => Wout
  | k :: r => fun cls d σ H => ∃ b, PySem.W.exmOne K cls k.c = some b ∧ (b = true → ∃ C, cls = .ref C ∧ ∀ a, H a = none → k.ts a C d (dropE D k.i) (held σ a k.i) (upd H a (ExcO a C d))) ∧ (b = false → wCl K Wout D r cls d σ H)
inductive ClOk (X : Cx) : List ExceptHandler → List Cls1 → Prop
  | nil : ClOk X [] []
  | one {x : Str} {c : Value} {ts : Addr → Addr → Option Addr → TS} {b₀ : Stmt} {suite : List Stmt} {np pos' : Pos} {hds : List ExceptHandler} {l : List Cls1} (hc : Names X x c)
      (hsu : ∀ (a C : Addr) (d : Option Addr) (pn : List (Addr × Obj)), PSs (X.suite a pn) (b₀ :: suite) (ts a C d)) (r : ClOk X hds l) : ClOk X (.ExceptHandler (some (.Name x np)) none (b₀ :: suite) pos' :: hds) (⟨c, none, ts⟩ :: l)
  | as_ {x n : Str} {c : Value} {i : Nat} {ts : Addr → Addr → Option Addr → TS} {b₀ : Stmt} {suite : List Stmt} {np pos' : Pos} {hds : List ExceptHandler} {l : List Cls1} (hc : Names X x c) (hN : X.N.Nodup) (hi : X.N[i]? = some n) (hln : X.env.kindOf n = some .local)
      (hsu : ∀ (a C : Addr) (d : Option Addr) (pn : List (Addr × Obj)), PSs (X.suite a pn) (b₀ :: suite) (ts a C d)) (r : ClOk X hds l) : ClOk X (.ExceptHandler (some (.Name x np)) (some n) (b₀ :: suite) pos' :: hds) (⟨c, some i, ts⟩ :: l)
section
variable {X : Cx} {body : List Stmt} {k₀ : ExceptHandler} {ks : List ExceptHandler} {l : List Cls1} {pos : Pos} {tb : L2.WX → TS} {Wout : L2.WX}
theorem ps_tryC (hex : X.ex = []) (hs : X.stack = X.env :: X.outer) (hf : X.env.frame = some X.env.locals) (tk : Takes X Wout)
    (hb : ∀ (W : L2.WX) (pn : List (Addr × Obj)) (xe : Value → Shared → Prop), Takes (X.tr pn xe) W → PassesOwn (model X.prog X.w) X.A X.env xe → PSs (X.tr pn xe) body (tb W)) (hh : ClOk X (k₀ :: ks) l) :
    PS X (.Try body (k₀ :: ks) [] [] pos) (fun D σ H => tb (wCl X.K Wout D l) D σ H) := by
  refine ⟨fun pins s σ H D I go => wpAny_Try_except (wpAny_mono ((hb (wCl X.K Wout D l) (X.pn ++ pins) (fun e u1 => wpAny (model X.prog X.w) X.A (noteFrame e X.env) (fun _ u2 => wpAny (model X.prog X.w) X.A (setFlight e none) (fun _ u3 =>
    wpAny (model X.prog X.w) X.A (handleBy e X.env (k₀ :: ks)) (SP X pins D) X.xe u3) X.xe u2) X.xe u1) (fun u s' xx => ?_) PassesOwn.looking).run [] s σ H D (I.toTry _) go) (fun f s1 hsp => ?_) (fun e s1 he => he))⟩
  · have ok := I.ok
    have hA : X.A.frames = some (X.env :: X.outer) := by rw [ok.frames, hs]
    obtain ⟨a, B, sI, qs, σ', H', cls, d, rfl, J0, nb, up, sky, na, os, ag, w⟩ := xx
    have J1 : Inv X pins σ' H' sI := J0.ofTry ok
    have sk1 : Sky B (X.env :: X.outer) a (Zc cls d) X.env.locals s'.heap := by rw [← hs]; exact sky
    refine Sky.land Zc.steady hA hf sk1 fun g3 fl3 up3 => ?_
    have J3 : Inv X pins σ' H' { s' with heap := g3 } := J1.landed nb fl3.1 (up.trans up3) os ag
    obtain ⟨o3, v3, at3, z3, d3⟩ := fl3.there
    have aB : B.get? a = none := fl3.2.1
    have offS : a ∉ frs (X.env :: X.outer) := fun hm => by
      obtain ⟨_, o', e', hnf⟩ := fl3.2.2.1.mem hm
      rw [at3] at e'; cases e'
      exact hnf _ d3
    have nL : a ≠ X.env.locals := fun z => offS (List.mem_filterMap.mpr ⟨X.env, List.mem_cons_self, by rw [hf, z]⟩)
    have nF : a ∉ X.fs := fun hm => by
      obtain ⟨e, he, q⟩ := List.mem_filterMap.mp hm
      exact offS (List.mem_filterMap.mpr ⟨e, List.mem_cons_of_mem _ he, q⟩)
    have aI : ∀ o, sI.heap.get? a = some o → False := fun o e => by
      have := nb a o e (by rw [hs]; exact offS)
      rw [aB] at this; cases this
    have a0 : X.s_0.heap.get? a = none := by
      cases q : X.s_0.heap.get? a with
      | none => rfl
      | some o =>
        obtain ⟨o', e⟩ := J1.base.there a o q (by rw [hex]; simp)
        exact (aI o' e).elim
    have nP : ∀ p ∈ X.pn ++ pins, p.1 ≠ a := fun p hp z => by
      obtain ⟨p1, _⟩ := J1.pin p hp
      rw [z] at p1
      exact aI _ p1
    have each : ∀ {hds : List ExceptHandler} {l : List Cls1}, ClOk X hds l → wCl X.K Wout D l cls d σ' H' → wpAny (model X.prog X.w) X.A (handleBy (.ref a) X.env hds) (SP X pins D) X.xe { s' with heap := g3 } := by
      intro hds l hk
      induction hk with
      | nil =>
        intro w
        refine wpAny_handleBy_nil ?_
        obtain ⟨f1, f2, f3, oe, us, T, oT, tx, y1, y2, y3, y4, y5⟩ := id fl3
        unfold PySem.passOn
        refine wpAny_bind (wpAny_field y1 y3 y4 ?_)
        rw [if_neg (show ¬ ((Value.ref T == Value.none) = true) from by simp)]
        have out : wpAny (model X.prog X.w) X.A (setFlight (.ref a) X.env.frame) (fun _ u4 => wpAny (model X.prog X.w) X.A (throw (.ref a) : Sem Flow) (SP X pins D) X.xe u4) X.xe { s' with heap := g3 } := by
          rw [hf]
          refine HandSPX.setFlight_upZ fl3 fun g4 hh4 up4 => wpAny_throw (tk _ _ ?_)
          exact ⟨a, B, sI, pins, σ', H', cls, d, rfl, J1, nb, (up.trans up3).trans up4, .inr (.inr (by rw [hs]; exact hh4)), na, os, ag, w⟩
        first | exact wpAny_bind (wpAny_pure (wpAny_bind out)) | exact wpAny_bind out
      | @one x c ts b₀ suite np pos' hds2 l2 hc hsu r ih =>
        intro w
        obtain ⟨b, hb1, hyes, hno⟩ := w
        refine wpAny_handleBy_cons (codeAny_handlers_test ?_) (by intro q; cases q)
        have LT : PySem.W.Looks (model X.prog X.w) g3 (typeOf (.ref a)) cls := fun A Q E s k q => wpAny_typeOf_ref (k _ _ at3) (by rw [z3.1]; exact q)
        have S3 := inv_suiteT (a := a) J3
        have ask : ∀ {Q : Value → Shared → Prop} {E : Value → Shared → Prop}, Q c { s' with heap := g3 } → wpAny (model X.prog X.w) (X.A.mark (some (.ref a))) (eval (.Name x np) X.env) Q E { s' with heap := g3 } := fun {Q E} q => by
          obtain ⟨hg, hdbg, hm | ⟨hm, hv, hnn⟩⟩ := hc
          · exact ld_glob (X := X.suite a (X.pn ++ pins)) S3 hg hm q hdbg
          · exact ld_blt (X := X.suite a (X.pn ++ pins)) S3 hg hm hv q hnn hdbg
        refine ask ((PySem.W.exm_one (M := model X.prog X.w) J3.kIn LT hb1).here ?_)
        cases b with
        | false => exact ih (hno rfl)
        | true =>
          obtain ⟨C, eC, hts⟩ := hyes rfl
          subst eC
          refine codeAny_handlers_suite (HandSPX.lands_againZ fl3 fun g4 fl4 up4 => ?_)
          have J4 : Inv X pins σ' H' { s' with heap := g4 } := J1.landed nb fl4.1 ((up.trans up3).trans up4) os ag
          obtain ⟨o4, v4, at4, z4, d4⟩ := fl4.there
          have T4 := inv_suiteT (a := a) (inv_track J4 at4 z4 d4 na nL nP a0)
          refine wpAny_mono ((hsu a C d (X.pn ++ pins)).run [] _ _ _ _ T4 (hts a na)) (fun f s6 hsp => ?_) (fun _ _ z => False.elim z)
          cases f with
          | next => exact let ⟨σ6, H6, S6, q6⟩ := hsp; ⟨_, _, inv_unsuiteT S6 ok, q6⟩
          | brk => exact let ⟨σ6, H6, S6, q6⟩ := hsp; ⟨_, _, inv_unsuiteT S6 ok, q6⟩
          | cont => exact let ⟨σ6, H6, S6, q6⟩ := hsp; ⟨_, _, inv_unsuiteT S6 ok, q6⟩
          | ret u => exact let ⟨v6, σ6, H6, S6, r6, q6⟩ := hsp; ⟨_, _, _, inv_unsuiteT S6 ok, r6, q6⟩
      | @as_ x n c i ts b₀ suite np pos' hds2 l2 hc hN hi hln hsu r ih =>
        intro w
        obtain ⟨b, hb1, hyes, hno⟩ := w
        refine wpAny_handleBy_cons (codeAny_handlers_test ?_) (by intro q; cases q)
        have LT : PySem.W.Looks (model X.prog X.w) g3 (typeOf (.ref a)) cls := fun A Q E s k q => wpAny_typeOf_ref (k _ _ at3) (by rw [z3.1]; exact q)
        have S3 := inv_suiteT (a := a) J3
        have ask : ∀ {Q : Value → Shared → Prop} {E : Value → Shared → Prop}, Q c { s' with heap := g3 } → wpAny (model X.prog X.w) (X.A.mark (some (.ref a))) (eval (.Name x np) X.env) Q E { s' with heap := g3 } := fun {Q E} q => by
          obtain ⟨hg, hdbg, hm | ⟨hm, hv, hnn⟩⟩ := hc
          · exact ld_glob (X := X.suite a (X.pn ++ pins)) S3 hg hm q hdbg
          · exact ld_blt (X := X.suite a (X.pn ++ pins)) S3 hg hm hv q hnn hdbg
        refine ask ((PySem.W.exm_one (M := model X.prog X.w) J3.kIn LT hb1).here ?_)
        cases b with
        | false => exact ih (hno rfl)
        | true =>
          obtain ⟨C, eC, hts⟩ := hyes rfl
          subst eC
          refine codeAny_handlers_suite_as (HandSPX.lands_againZ fl3 fun g4 fl4 up4 => ?_)
          have J4 : Inv X pins σ' H' { s' with heap := g4 } := J1.landed nb fl4.1 ((up.trans up3).trans up4) os ag
          obtain ⟨o4, v4, at4, z4, d4⟩ := fl4.there
          have T4 := inv_suiteT (a := a) (inv_track J4 at4 z4 d4 na nL nP a0)
          refine store_ok (X := X.suite a (X.pn ++ pins)) (v := .ref a) T4 hN hi (.inl hln) rfl (fun s5 S5 => ?_) (.inr hln)
          refine wpAny_mono ((hsu a C d (X.pn ++ pins)).run [] s5 _ _ _ S5 (hts a na)) (fun f s6 hsp => ?_) (fun _ _ z => False.elim z)
          cases f with
          | next => exact let ⟨σ6, H6, S6, q6⟩ := hsp; gone_ok (inv_unsuiteT S6 ok) hN hi hln fun s7 J7 => ⟨_, _, J7, q6⟩
          | brk => exact let ⟨σ6, H6, S6, q6⟩ := hsp; gone_ok (inv_unsuiteT S6 ok) hN hi hln fun s7 J7 => ⟨_, _, J7, q6⟩
          | cont => exact let ⟨σ6, H6, S6, q6⟩ := hsp; gone_ok (inv_unsuiteT S6 ok) hN hi hln fun s7 J7 => ⟨_, _, J7, q6⟩
          | ret u => exact let ⟨v6, σ6, H6, S6, r6, q6⟩ := hsp; gone_ok (inv_unsuiteT S6 ok) hN hi hln fun s7 J7 => ⟨_, _, _, J7, r6, q6⟩
    exact each hh w
  · cases f with
    | next =>
      obtain ⟨σ', H', J', q⟩ := hsp
      exact wpAny_execs_nil ⟨σ', H', J'.ofTry I.ok, q⟩
    | brk => exact let ⟨σ', H', J', q⟩ := hsp; ⟨σ', H', J'.ofTry I.ok, q⟩
    | cont => exact let ⟨σ', H', J', q⟩ := hsp; ⟨σ', H', J'.ofTry I.ok, q⟩
    | ret u => exact let ⟨v, σ', H', J', r, q⟩ := hsp; ⟨v, σ', H', J'.ofTry I.ok, r, q⟩
end
end FW

/-! try: .. except C as n: .. except D: .. -/
namespace FW
noncomputable section
open PySem L2
/-- a clause: which of the raised classes it catches, its name's slot, its suite -/
abbrev MCl := List (Str × Bool) × Option Nat × MS
def atSl (ρ : List Sl) (c : Str) : Option Nat → List Sl
  | none => ρ
  | some i => ρ.set i (.fz (.exc c none))
def offSl (ρ : List Sl) : Option Nat → List Sl
  | none => ρ
  | some i => ρ.set i .no
def clRun (c : Str) : List MCl → MS
  | [], ρ => some (.ex c, ρ)
  | k :: l, ρ => match k.1.lookup c with
    | some true => (k.2.2 (atSl ρ c k.2.1)).bind fun y => match y.1 with
      | .ex _ => none
      | z => some (z, offSl y.2 k.2.1)
    | some false => clRun c l ρ
    | none => none
def sTryC (sb : MS) (l : List MCl) : MS := fun ρ => (sb ρ).bind fun x => match x.1 with
  | .ex c => clRun c l x.2
  | k => some (k, x.2)
theorem lookup_mem {α : Type} {c : Str} {b : α} : ∀ {l : List (Str × α)}, l.lookup c = some b → (c, b) ∈ l
  | [], h => by cases h
  | (d, x) :: l, h => by
    rw [List.lookup_cons] at h
    by_cases e : (c == d) = true
    · rw [e] at h; cases h
      rw [beq_iff_eq.mp e]; exact List.mem_cons_self
    · have e' : (c == d) = false := by simpa using e
      rw [e'] at h
      exact List.mem_cons_of_mem _ (lookup_mem h)
/-- what f answers for the classes of the table -/
def TabE (mg : Str → Option Value) (tab : List (Str × Bool)) (f : Value → Option Bool) : Prop := ∀ p ∈ tab, ∀ C, mg p.1 = some (.ref C) → f (.ref C) = some p.2
theorem TabE.nil {mg : Str → Option Value} {f : Value → Option Bool} : TabE mg [] f := fun _ h => by cases h
theorem TabE.cons {mg : Str → Option Value} {f : Value → Option Bool} {c : Str} {C : Addr} {b : Bool} {tab : List (Str × Bool)} (hC : mg c = some (.ref C)) (h : f (.ref C) = some b) (r : TabE mg tab f) : TabE mg ((c, b) :: tab) f := fun p hp D hD => by
  rcases List.mem_cons.mp hp with e | e
  · subst e
    cases hC.symm.trans hD
    exact h
  · exact r p e D hD
section
variable {X : Cx} {K : PySem.W.Frag} {mg : Str → Option Value} {P : Nat → Prop} {sb : MS}
/-- the readings of the clauses and their mirrors -/
inductive ClM (K : PySem.W.Frag) (mg : Str → Option Value) (P : Nat → Prop) : List Cls1 → List MCl → Prop
  | nil : ClM K mg P [] []
  | cons {v : Value} {i : Option Nat} {cs : List (Str × Bool)} {su : MS} {l : List Cls1} {ml : List MCl} (hc : TabE mg cs fun t => PySem.W.exmOne K t v) (hP : ∀ j, i = some j → ¬ P j) (r : ClM K mg P l ml) :
      ClM K mg P (⟨v, i, fun _ _ _ => tS K mg (fun _ _ _ _ => False) P su⟩ :: l) ((cs, i, su) :: ml)
theorem cl_ok {W : L2.WX} {D : Ends} {c : Str} {C : Addr} (hC : mg c = some (.ref C)) : ∀ {l : List Cls1} {ml : List MCl}, ClM K mg P l ml → ∀ {σ : L2.St} {cs : List Cl} {G H : Hp} {k : Ctl} {ρ' : List Sl}, clRun c ml (slots cs) = some (k, ρ') → Res K mg G H cs → (∀ i, P i → (vals cs)[i]? = σ[i]?) →
    KS K mg W P σ cs G H k ρ' D → wCl K W D l (.ref C) none (vals cs) H
  | _, _, .nil, σ, cs, G, H, k, ρ', hm, rs, hσ, q => by
    cases hm
    exact KS.ex q rfl rfl hσ rs Stp.refl hC
  | _, _, @ClM.cons _ _ _ v i cs0 su l ml hc hP r, σ, cs, G, H, k, ρ', hm, rs, hσ, q => by
    unfold clRun at hm
    cases hl : cs0.lookup c with
    | none => rw [show (cs0, i, su).1 = cs0 from rfl, hl] at hm; cases hm
    | some b =>
    rw [show (cs0, i, su).1 = cs0 from rfl, hl] at hm
    refine ⟨_, hc _ (lookup_mem hl) C hC, fun hb => ?_, fun hb => ?_⟩
    · have hb : b = true := hb
      subst hb
      obtain ⟨⟨k2, ρ2⟩, h2, hm⟩ := Option.bind_eq_some_iff.mp hm
      have hk : (∀ c, k2 ≠ .ex c) ∧ k = k2 ∧ ρ' = offSl ρ2 i := by
        cases k2 with
        | ex c => cases hm
        | nx => cases hm; exact ⟨(fun c z => nomatch z), rfl, rfl⟩
        | bk => cases hm; exact ⟨(fun c z => nomatch z), rfl, rfl⟩
        | ct => cases hm; exact ⟨(fun c z => nomatch z), rfl, rfl⟩
        | rt r => cases hm; exact ⟨(fun c z => nomatch z), rfl, rfl⟩
      obtain ⟨hk, q1, q2⟩ := hk
      subst q1; subst q2
      refine ⟨C, rfl, fun a na => ?_⟩
      have ga : G a = none := Same.none rs.same na
      have r1 : Res K mg (upd G a (ExcO a C none)) (upd H a (ExcO a C none)) cs := rs.newG na
      have s1 : Stp (own cs) G H (own cs) (upd G a (ExcO a C none)) (upd H a (ExcO a C none)) := Stp.allocG na ga
      have rp : Rep K mg (upd G a (ExcO a C none)) (.exc c none) (.ref a) := .exc hC upd_same
      cases i with
      | none =>
        refine ⟨cs, _, k, ρ2, rfl, r1, h2, fun cs2 v2 B2 G2 H2 g1 g2 g3 rs2 st2 => ?_⟩
        have w := q cs2 v2 B2 G2 H2 g1 g2 (fun j hj => (g3 j hj).trans (hσ j hj)) rs2 (s1.trans st2)
        cases k with
        | ex c => exact absurd rfl (hk c)
        | nx => exact w
        | bk => exact w
        | ct => exact w
        | rt r => exact w
      | some i =>
        have r2 := (r1.addFz rp).put i
        have s2 := s1.weak (A2 := own (cs.set i ⟨some (.ref a), .fz (.exc c none), []⟩)) fun b hb => by
          have := own_put i b hb
          simpa [own_cons] using this
        refine ⟨cs.set i ⟨some (.ref a), .fz (.exc c none), []⟩, _, k, ρ2, vals_set, r2, by rw [slots_set]; exact h2, fun cs2 v2 B2 G2 H2 g1 g2 g3 rs2 st2 => ?_⟩
        have r3 := (rs2.addNo none).put (i + 1)
        have r3' : Res K mg G2 H2 (⟨some v2, k.rv.sl, B2⟩ :: cs2.set i ⟨none, .no, []⟩) := r3
        have s3 := (s2.trans st2).weak (A2 := own (⟨some v2, k.rv.sl, B2⟩ :: cs2.set i ⟨none, .no, []⟩)) fun b hb => by
          have := own_put (c := ⟨none, .no, []⟩) (cs := ⟨some v2, k.rv.sl, B2⟩ :: cs2) (i + 1) b hb
          simpa [own_cons] using this
        have w := q (cs2.set i ⟨none, .no, []⟩) v2 B2 G2 H2 (by rw [slots_set, g1]; rfl) (by rw [List.length_set, g2, List.length_set]) (fun j hj => by
          have ne : i ≠ j := fun z => hP i rfl (z ▸ hj)
          rw [vals_set, List.getElem?_set_ne ne, g3 j hj]
          show ((vals cs).set i _)[j]? = _
          rw [List.getElem?_set_ne ne]
          exact hσ j hj) r3' s3
        have e : vals (cs2.set i ⟨none, .no, []⟩) = (vals cs2).set i none := vals_set
        rw [e] at w
        cases k with
        | ex c => exact absurd rfl (hk c)
        | nx => exact w
        | bk => exact w
        | ct => exact w
        | rt r => exact w
    · have hb : b = false := hb
      subst hb
      exact cl_ok hC r hm rs hσ q
/-- clauses: syntax and mirrors -/
def CA (X : Cx) (P : Nat → Prop) (hds : List ExceptHandler) (ml : List MCl) : Prop := ∃ l, ClOk X hds l ∧ ClM X.K X.mg P l ml
theorem su_ok {a : Addr} {pn : List (Addr × Obj)} {sts : List Stmt} {m : MS} (h : SSs (X.suite a pn) P sts m) : PSs (X.suite a pn) sts (tS X.K X.mg (fun _ _ _ _ => False) P m) :=
  PSs.imp h fun D σ H h => tS_mono (fun _ _ _ _ w => w.elim) h
theorem ca_nil : CA X P [] [] := ⟨[], .nil, .nil⟩
theorem ca_one {x : Str} {c : Value} {b₀ : Stmt} {suite : List Stmt} {np pos' : Pos} {hds : List ExceptHandler} {ml : List MCl} {cs : List (Str × Bool)} {su : MS} (hc : Names X x c) (ht : TabE X.mg cs fun t => PySem.W.exmOne X.K t c)
    (hsu : ∀ (a : Addr) (pn : List (Addr × Obj)), SSs (X.suite a pn) P (b₀ :: suite) su) (r : CA X P hds ml) : CA X P (.ExceptHandler (some (.Name x np)) none (b₀ :: suite) pos' :: hds) ((cs, none, su) :: ml) := by
  obtain ⟨l, r1, r2⟩ := r
  exact ⟨_, .one (ts := fun _ _ _ => tS X.K X.mg (fun _ _ _ _ => False) P su) hc (fun a C d pn => su_ok (hsu a pn)) r1, .cons ht (fun _ z => nomatch z) r2⟩
theorem ca_as {x n : Str} {c : Value} {i : Nat} {b₀ : Stmt} {suite : List Stmt} {np pos' : Pos} {hds : List ExceptHandler} {ml : List MCl} {cs : List (Str × Bool)} {su : MS} (hN : X.N.Nodup) (hi : X.N[i]? = some n) (hP : ¬ P i) (hc : Names X x c) (ht : TabE X.mg cs fun t => PySem.W.exmOne X.K t c)
    (hsu : ∀ (a : Addr) (pn : List (Addr × Obj)), SSs (X.suite a pn) P (b₀ :: suite) su) (r : CA X P hds ml) (hln : X.env.kindOf n = some .local := by rfl) : CA X P (.ExceptHandler (some (.Name x np)) (some n) (b₀ :: suite) pos' :: hds) ((cs, some i, su) :: ml) := by
  obtain ⟨l, r1, r2⟩ := r
  exact ⟨_, .as_ (ts := fun _ _ _ => tS X.K X.mg (fun _ _ _ _ => False) P su) hc hN hi hln (fun a C d pn => su_ok (hsu a pn)) r1, .cons ht (fun j e => by cases e; exact hP) r2⟩
theorem ss_tryC {body : List Stmt} {k₀ : ExceptHandler} {ks : List ExceptHandler} {ml : List MCl} {pos : Pos} (hex : X.ex = []) (hs : X.stack = X.env :: X.outer) (hf : X.env.frame = some X.env.locals)
    (hb : ∀ (pn : List (Addr × Obj)) (xe : Value → Shared → Prop), PassesOwn (model X.prog X.w) X.A X.env xe → SSs (X.tr pn xe) P body sb) (hh : CA X P (k₀ :: ks) ml) :
    SS X P (.Try body (k₀ :: ks) [] [] pos) (sTryC sb ml) := by
  obtain ⟨l, hh, hm⟩ := hh
  exact PS.imp (ps_tryC (tb := fun W => tS X.K X.mg W P sb) hex hs hf (takes_wx X) (fun W pn xe tk po => PSs.imp (hb pn xe po) fun D σ H h => tS_mono (fun _ _ _ _ w => wx_of tk w) h) hh) fun D σ H h => by
    obtain ⟨cs0, G, k, ρ', e1, rs, hm1, q⟩ := h
    obtain ⟨⟨k1, ρ1⟩, h1, hm2⟩ := Option.bind_eq_some_iff.mp hm1
    refine ⟨cs0, G, k1, ρ1, e1, rs, h1, fun cs1 v B G1 H1 f1 f2 f3 rs1 st1 => ?_⟩
    cases k1 with
    | nx => cases hm2; exact q cs1 v B G1 H1 f1 f2 f3 rs1 st1
    | bk => cases hm2; exact q cs1 v B G1 H1 f1 f2 f3 rs1 st1
    | ct => cases hm2; exact q cs1 v B G1 H1 f1 f2 f3 rs1 st1
    | rt r => cases hm2; exact q cs1 v B G1 H1 f1 f2 f3 rs1 st1
    | ex c' =>
      intro C hC
      refine cl_ok (σ := σ) hC hm (by rw [f1]; exact hm2) rs1.tail f3 fun cs2 v2 B2 G2 H2 g1 g2 g3 rs2 st2 => ?_
      exact q cs2 v2 B2 G2 H2 g1 (g2.trans f2) g3 rs2 (st1.back1.trans st2)
end
end
end FW

/-! isinstance(e, C), isinstance(e, (C, D, ..)), e a caught exception -/
namespace FW
noncomputable section
open PySem L2
def isE (tab : List (Str × Bool)) : D → Option D
  | .exc c none => (tab.lookup c).map D.bl
  | _ => none
/-- what the classes of the table answer -/
def IsE (K : PySem.W.Frag) (mg : Str → Option Value) (tab : List (Str × Bool)) (f : Value → Option Bool) : Prop := ∀ p ∈ tab, ∀ C, mg p.1 = some (.ref C) → ExcC K C ∧ f (.ref C) = some p.2
theorem IsE.nil {K : PySem.W.Frag} {mg : Str → Option Value} {f : Value → Option Bool} : IsE K mg [] f := fun _ h => by cases h
theorem IsE.cons {K : PySem.W.Frag} {mg : Str → Option Value} {f : Value → Option Bool} {c : Str} {C : Addr} {b : Bool} {tab : List (Str × Bool)} (hC : mg c = some (.ref C)) (x : ExcC K C) (h : f (.ref C) = some b) (r : IsE K mg tab f) : IsE K mg ((c, b) :: tab) f := fun p hp D hD => by
  rcases List.mem_cons.mp hp with e | e
  · subst e
    cases hC.symm.trans hD
    exact ⟨x, h⟩
  · exact r p e D hD
theorem kit_yes {K : PySem.W.Frag} {C D : Addr} (hd : PySem.W.hasDictIn K D = true) (ty : PySem.W.typeIn K (.ref D) = some (.type "type")) (sb : PySem.W.subIn K (.ref C) (.ref D) = some true) : PySem.W.kitOne K (.ref C) (.ref D) = some true := by
  obtain ⟨cd, hc, _⟩ := PySem.W.any_some hd
  unfold PySem.W.kitOne PySem.W.kitCls
  by_cases e : (Value.ref C == Value.ref D) = true
  · rw [if_pos e]
  · rw [if_neg e]; simp [hc, ty, sb]
theorem kit_val {K : PySem.W.Frag} {C : Addr} (sb : PySem.W.subIn K (.ref C) (.type "ValueError") = some true) : PySem.W.kitOne K (.ref C) (.type "ValueError") = some true := by
  unfold PySem.W.kitOne PySem.W.kitCls
  rw [if_neg (by simp)]
  dsimp only
  rw [if_pos (by decide +kernel), sb]
theorem any_nil {K : PySem.W.Frag} {t : Value} : PySem.W.kitAny K t [] = some false := rfl
theorem any_no {K : PySem.W.Frag} {t c : Value} {r : List Value} {b : Option Bool} (h : PySem.W.kitOne K t c = some false) (h2 : PySem.W.kitAny K t r = b) : PySem.W.kitAny K t (c :: r) = b := by
  unfold PySem.W.kitAny; rw [h]; exact h2
theorem any_yes {K : PySem.W.Frag} {t c : Value} {r : List Value} (h : PySem.W.kitOne K t c = some true) : PySem.W.kitAny K t (c :: r) = some true := by
  unfold PySem.W.kitAny; rw [h]
section
variable {X : Cx} {a : Expr} {ma : M} {pos p p2 tp : Pos} {c : Str} {tab : List (Str × Bool)}
theorem exc_inst {pins : List (Addr × Obj)} {σ : L2.St} {H : Hp} {s : Shared} {a D : Addr} (I : Inv X pins σ H s) (h : H a = some (ExcO a D none)) : ∃ oe, PySem.W.InstAt s.heap a oe D none := by
  obtain ⟨⟨oe, he, h1, h2, vs, hv⟩, _⟩ := (show ObjOk X.prog X.w H s.heap a (ExcO a D none) from I.hok a _ h)
  obtain ⟨oc, od, oda, osl⟩ := oe
  dsimp only at h1 h2 hv
  subst h1 h2 hv
  exact ⟨_, he, rfl, rfl, trivial⟩
def rIsX (K : PySem.W.Frag) : List V → Hp → VK → Prop := fun xs H Q => ∃ (a D : Addr) (c : V) (cv : Value) (b : Bool), xs = [.ref a, c] ∧ H a = some (ExcO a D none) ∧ ExcC K D ∧ ClsV c cv ∧ PySem.W.kitOne K (.ref D) cv = some b ∧ Q (.bl b) H
def rIsXT (K : PySem.W.Frag) : List V → Hp → VK → Prop := fun xs H Q => ∃ (a D tp : Addr) (cs : List V) (us : List Value) (b : Bool), xs = [.ref a, .ref tp] ∧ H a = some (ExcO a D none) ∧ ExcC K D ∧ H tp = some (.tup cs) ∧ Paired ClsV cs us ∧ PySem.W.kitAny K (.ref D) us = some b ∧ Q (.bl b) H
theorem call_isX : CallR X (.builtin "isinstance") (rIsX X.K) := by
  intro pins s σ H xs us Q I r h
  obtain ⟨a, D, c, cv, b, rfl, ha, C, k, e, q⟩ := h
  obtain ⟨u1, u2, rfl, r1, r2⟩ := vals2 r
  have e2 := k.eq r2
  subst e2
  cases (show u1 = Value.ref a from r1)
  obtain ⟨oe, J⟩ := exc_inst I ha
  exact PySem.W.kia_one (PySem.W.handS_kitx_exc C.hg C.hk C.hs C.hd C.ha C.hn C.ht C.hm) I.kIn J e (fun z => nomatch z) fun tk => ⟨.bl b, H, I.tok tk, rfl, q⟩
theorem call_isXT : CallR X (.builtin "isinstance") (rIsXT X.K) := by
  intro pins s σ H xs us Q I r h
  obtain ⟨a, D, tp, cs, ws, b, rfl, ha, C, hT, k, e, q⟩ := h
  obtain ⟨u1, u2, rfl, r1, r2⟩ := vals2 r
  cases (show u2 = Value.ref tp from r2)
  cases (show u1 = Value.ref a from r1)
  obtain ⟨oe, J⟩ := exc_inst I ha
  obtain ⟨_, its, rv, o, h1, h2, n, h3⟩ := (show ObjOk X.prog X.w H s.heap tp (.tup cs) from I.hok tp _ hT)
  have e3 := ClsV.all k rv
  subst e3
  obtain ⟨oc, od, dt, sl⟩ := o
  simp only at h2 h3
  subst h2 h3
  exact PySem.W.kia_tup (PySem.W.handS_kitx_exc C.hg C.hk C.hs C.hd C.ha C.hn C.ht C.hm) I.kIn J h1 e (fun z => nomatch z) fun tk => ⟨.bl b, H, I.tok tk, rfl, q⟩
theorem isE_ok {K : PySem.W.Frag} {mg : Str → Option Value} {H : Hp} {f : Value → Option Bool} {x z : D} {v : V} (ic : IsE K mg tab f) (e : isE tab x = some z) (r : Rep K mg H x v) : ∃ a C b, v = .ref a ∧ z = .bl b ∧ H a = some (ExcO a C none) ∧ ExcC K C ∧ f (.ref C) = some b := by
  cases x with
  | exc c o =>
    cases o with
    | some _ => cases e
    | none =>
      obtain ⟨b, hb, e⟩ := Option.map_eq_some_iff.mp e
      cases e
      cases r with
      | exc m h =>
        obtain ⟨q1, q2⟩ := ic _ (lookup_mem hb) _ m
        exact ⟨_, _, _, rfl, rfl, h, q1, q2⟩
  | _ => cases e
/-- names of classes -/
inductive ClNm (X : Cx) : List Expr → List V → List Value → Prop
  | nil : ClNm X [] [] []
  | own {c : Str} {C : Addr} {p : Pos} {es : List Expr} {vs : List V} {us : List Value} (hC : X.mg c = some (.ref C)) (r : ClNm X es vs us) (hg : Gl X c := by rfl) (hd : (c == ("__debug__" : Str)) = false := by decide)
      (he : starEach (.Name c p :: es) X.env = (false, eval (.Name c p) X.env) :: starEach es X.env := by rfl) : ClNm X (.Name c p :: es) (.ref C :: vs) (.ref C :: us)
theorem ClNm.pa {es : List Expr} {vs : List V} {us : List Value} (h : ClNm X es vs us) : PA X es (fun _ H Q => Q vs H) ∧ Paired ClsV vs us := by
  induction h with
  | nil => exact ⟨pa_nil, .nil⟩
  | own hC r hg hd he ih => exact ⟨pa_cons (C8.pe_gc (v := .ref _) hg ⟨_, hC, rfl⟩ hd) ih.1 he, .cons (.own _) ih.2⟩
theorem se_isE {C : Addr} (hm : X.mg "isinstance" = none) (hC : X.mg c = some (.ref C)) (ic : IsE X.K X.mg tab fun t => PySem.W.kitOne X.K t (.ref C)) (ha : SE X a ma) (hg : Gl X "isinstance" := by rfl) (hgC : Gl X c := by rfl) (hd : (c == ("__debug__" : Str)) = false := by decide)
    (he : starEach (a :: [.Name c p2]) X.env = (false, eval a X.env) :: starEach [.Name c p2] X.env := by rfl) (hpl : (backTo pos (starEach [.Name c p2] X.env)).any (·.1) = false := by rfl) :
    SE X (.Call (.Name "isinstance" p) [a, .Name c p2] [] pos) (mUn (isE tab) ma) := by
  refine PE.imp (pe_callB call_isX hg hm boot_isinstance' (pa_cons ha (pa_cons (C8.pe_gc (v := .ref C) hgC ⟨_, hC, rfl⟩ hd) pa_nil) he) (by decide) (by decide) he hpl) fun σ H Q h => ?_
  show tM X.K X.mg ma σ H fun x H1 => rIsX X.K [x, .ref C] H1 Q
  refine rd_un (f := isE tab) (R := fun x H1 Q => rIsX X.K [x, .ref C] H1 Q) (fun x z H v Q hz rp q => ?_) σ H Q h
  obtain ⟨a, D, b, rfl, rfl, h1, h2, h3⟩ := isE_ok ic hz rp
  exact ⟨a, D, _, _, b, rfl, h1, h2, .own _, h3, q _ rfl⟩
theorem se_isEV (hm : X.mg "isinstance" = none) (hV : X.mg "ValueError" = none) (ic : IsE X.K X.mg tab fun t => PySem.W.kitOne X.K t (.type "ValueError")) (ha : SE X a ma) (hg : Gl X "isinstance" := by rfl) (hgC : Gl X "ValueError" := by rfl)
    (he : starEach (a :: [.Name "ValueError" p2]) X.env = (false, eval a X.env) :: starEach [.Name "ValueError" p2] X.env := by rfl) (hpl : (backTo pos (starEach [.Name "ValueError" p2] X.env)).any (·.1) = false := by rfl) :
    SE X (.Call (.Name "isinstance" p) [a, .Name "ValueError" p2] [] pos) (mUn (isE tab) ma) := by
  refine PE.imp (pe_callB call_isX hg hm boot_isinstance' (pa_cons ha (pa_cons (pe_bltn (v := .ty "ValueError") (u := .type "ValueError") hgC hV (by decide) rfl) pa_nil) he) (by decide) (by decide) he hpl) fun σ H Q h => ?_
  show tM X.K X.mg ma σ H fun x H1 => rIsX X.K [x, .ty "ValueError"] H1 Q
  refine rd_un (f := isE tab) (R := fun x H1 Q => rIsX X.K [x, .ty "ValueError"] H1 Q) (fun x z H v Q hz rp q => ?_) σ H Q h
  obtain ⟨a, D, b, rfl, rfl, h1, h2, h3⟩ := isE_ok ic hz rp
  exact ⟨a, D, _, _, b, rfl, h1, h2, .ty _, h3, q _ rfl⟩
theorem se_isET {es : List Expr} {vs : List V} {us : List Value} {x1} (hm : X.mg "isinstance" = none) (hn : ClNm X es vs us) (hl : vs.length ≤ sizeLine) (ic : IsE X.K X.mg tab fun t => PySem.W.kitAny X.K t us) (ha : SE X a ma) (hg : Gl X "isinstance" := by rfl)
    (he : starEach (a :: [.Tuple es x1 tp]) X.env = (false, eval a X.env) :: starEach [.Tuple es x1 tp] X.env := by rfl) (hpl : (backTo pos (starEach [.Tuple es x1 tp] X.env)).any (·.1) = false := by rfl) 
    (he2 : starEach [.Tuple es x1 tp] X.env = (false, eval (.Tuple es x1 tp) X.env) :: starEach [] X.env := by rfl) :
    SE X (.Call (.Name "isinstance" p) [a, .Tuple es x1 tp] [] pos) (mUn (isE tab) ma) := by
  obtain ⟨pa, pd⟩ := hn.pa
  refine PE.imp (pe_callB call_isXT hg hm boot_isinstance' (pa_cons ha (pa_cons (pe_tup pa) pa_nil he2) he) (by decide) (by decide) he hpl) fun σ H Q h => ?_
  show tM X.K X.mg ma σ H fun x H1 => vs.length ≤ sizeLine ∧ ∀ p, H1 p = none → rIsXT X.K [x, .ref p] (upd H1 p (.tup vs)) Q
  obtain ⟨cs, G, r, ρ', e1, rs, hm, k⟩ := h
  obtain ⟨⟨r1, ρ1⟩, h1, hm⟩ := Option.bind_eq_some_iff.mp hm
  obtain ⟨d, hd, hm⟩ := Option.bind_eq_some_iff.mp hm
  obtain ⟨z, hz, hm⟩ := Option.map_eq_some_iff.mp hm
  cases hm
  refine ⟨cs, G, r1, ρ1, e1, rs, h1, fun cs1 v B G1 H1 f1 f2 fb rs1 st1 => ⟨hl, fun q hq => ?_⟩⟩
  subst f1; subst f2
  obtain ⟨a, D, b, rfl, rfl, h1, h2, h3⟩ := isE_ok ic hz (dat_rep rs1.tail rs1.h1 rfl rfl fb hd)
  have ne : a ≠ q := fun e => by rw [e, hq] at h1; cases h1
  refine ⟨a, D, q, vs, us, b, rfl, by rw [upd_ne ne]; exact h1, h2, upd_same, pd, h3, ?_⟩
  exact Kn.fz k rfl rfl (rs1.tail.keepH hq) (st1.back1.trans ((Stp.alloc hq).weak fun b hb => List.mem_cons_of_mem _ hb)) (.bl b)
end
@[simp] theorem r_isE (tab : List (Str × Bool)) (c : Str) : isE tab (.exc c none) = (tab.lookup c).map D.bl := rfl
end
end FW

/-! isinstance(x, T), T a built-in class, x plain or an object of the own class c; a, b = f(..) where f may raise -/
namespace FW
noncomputable section
open PySem L2
def isTyR (T : TyN) (c : Str) : D → Option D
  | .obj c' _ => @ite _ (c' = c) (Classical.propDecidable _) (some (.bl false)) none
  | d => isTy T d
theorem kit_tyno {K : PySem.W.Frag} {C : Addr} (T : TyN) (sb : PySem.W.subIn K (.ref C) (.type T.name) = some false) : PySem.W.kitOne K (.ref C) (.type T.name) = some false := by
  unfold PySem.W.kitOne PySem.W.kitCls
  rw [if_neg (by simp)]
  dsimp only
  rw [if_pos (by cases T <;> decide +kernel), sb]
section
variable {X : Cx} {a : Expr} {ma : M} {pos p p2 : Pos} {C : Addr} {c : Str}
theorem se_isTyR (T : TyN) (hm : X.mg "isinstance" = none) (hmT : X.mg (Str.ofString T.name) = none) (hvT : bootBuiltins (Str.ofString T.name) = some (.type T.name)) (hC : X.mg c = some (.ref C)) (ic : IsC X.K C) (hno : PySem.W.kitOne X.K (.ref C) (.type T.name) = some false) (ha : SE X a ma) (hg : Gl X "isinstance" := by rfl) (hgT : Gl X (Str.ofString T.name) := by rfl)
    (hnT : Str.ofString T.name ≠ "__name__" := by decide) (hdT : (Str.ofString T.name == ("__debug__" : Str)) = false := by decide)
    (he : starEach (a :: [.Name (Str.ofString T.name) p2]) X.env = (false, eval a X.env) :: starEach [.Name (Str.ofString T.name) p2] X.env := by rfl) (hpl : (backTo pos (starEach [.Name (Str.ofString T.name) p2] X.env)).any (·.1) = false := by rfl) :
    SE X (.Call (.Name "isinstance" p) [a, .Name (Str.ofString T.name) p2] [] pos) (mUn (isTyR T c) ma) := by
  refine PE.imp (pe_callB call_isi hg hm boot_isinstance' (pa_cons ha (pa_cons (pe_bltn (v := .ty T.name) hgT hmT hvT rfl hnT hdT) pa_nil) he) (by decide) (by decide) he hpl) fun σ H Q h => ?_
  show tM X.K X.mg ma σ H fun x H1 => rIsi X.K [x, .ty T.name] H1 Q
  refine rd_un (f := isTyR T c) (R := fun x H1 Q => rIsi X.K [x, .ty T.name] H1 Q) (fun x z H v Q hz rp q => ?_) σ H Q h
  have plain : isTy T x = some z → rIsi X.K [v, .ty T.name] H Q := fun hz => by
    obtain ⟨t, b, e1, e2, e3⟩ := kit_all T x z hz
    subst e2
    exact ⟨v, .ty T.name, .type t, .type T.name, b, rfl, .ty _, tyOf_ok rp e1, kit_ty e3, q _ rfl⟩
  cases x with
  | obj c' fs =>
    have hz : @ite _ (c' = c) (Classical.propDecidable _) (some (D.bl false)) none = some z := hz
    split at hz
    · rename_i hc
      cases hz
      subst hc
      cases rp with
      | obj m h _ =>
        rw [hC] at m
        cases m
        exact ⟨_, .ty T.name, _, .type T.name, false, rfl, .ty _, .base (.ins h ic.ins.cl ic.ins.ha ic.ins.hn ic.ins.htk ic.ins.hm), hno, q _ rfl⟩
    · cases hz
  | non => exact plain hz
  | bl _ => exact plain hz
  | int _ => exact plain hz
  | str _ => exact plain hz
  | lst _ => exact plain hz
  | scr _ => exact plain hz
  | tup _ => exact plain hz
  | dct _ => exact plain hz
  | exc _ _ => exact plain hz
end
@[simp] theorem r_tyR_obj (T : TyN) (c c' : Str) (fs : List (Str × D)) : isTyR T c (.obj c' fs) = ifc (c' = c) (some (.bl false)) none := rfl
@[simp] theorem r_tyR_non (T : TyN) (c : Str) : isTyR T c .non = isTy T .non := rfl
@[simp] theorem r_tyR_bl (T : TyN) (c : Str) (b : Bool) : isTyR T c (.bl b) = isTy T (.bl b) := rfl
@[simp] theorem r_tyR_int (T : TyN) (c : Str) (b : Int) : isTyR T c (.int b) = isTy T (.int b) := rfl
@[simp] theorem r_tyR_str (T : TyN) (c : Str) (b : Str) : isTyR T c (.str b) = isTy T (.str b) := rfl
@[simp] theorem r_tyR_lst (T : TyN) (c : Str) (b : List D) : isTyR T c (.lst b) = isTy T (.lst b) := rfl
@[simp] theorem r_tyR_tup (T : TyN) (c : Str) (b : List D) : isTyR T c (.tup b) = isTy T (.tup b) := rfl
@[simp] theorem r_tyR_dct (T : TyN) (c : Str) (b : List (Key × D)) : isTyR T c (.dct b) = isTy T (.dct b) := rfl
@[simp] theorem r_ty_list_dct (b : List (Key × D)) : isTy .list (.dct b) = some (.bl false) := rfl
@[simp] theorem r_ty_int_dct (b : List (Key × D)) : isTy .int (.dct b) = some (.bl false) := rfl
@[simp] theorem r_ty_bool_dct (b : List (Key × D)) : isTy .bool (.dct b) = some (.bl false) := rfl
@[simp] theorem r_ty_tuple_dct (b : List (Key × D)) : isTy .tuple (.dct b) = some (.bl false) := rfl
section
variable {X : Cx} {e : Expr} {es : List Expr} {ms : MA} {pos p spos tpos : Pos} {P : Nat → Prop} {k n kk : Nat} {f C : Addr} {fd : FuncData} {ps : List Str} {m : MFX} {x : Str}
/-- a, b = f(..): what f answers is a frozen tuple -/
def fUnp (is : List Nat) : Rv → MS := fun r ρ => (tpv ρ r).bind fun ds => (unp ρ is ds).map fun ρ2 => (.nx, ρ2)
theorem ss_unpX {is : List Nat} {ts : List Expr} (hc : X.calm = true) (hgs : PGs X ts (gNames is)) (hP : ∀ i ∈ is, ¬ P i) (hnn : (assignEach ts X.env).length = is.length) (hst : (assignEach ts X.env).findIdx? (·.1) = none)
    (F : FnOk X.prog X.w X.K X.mg X.base (L2.CX X.prog X.w) k f fd ps (spMX X.K X.mg n m)) (hr : Room k X.A) (hg : Gl X x) (hm : X.mg x = some (.ref f)) (hk : PySem.W.keepIn X.K (.ref f) = true) (hb : Binds X.K fd ps [])
    (ha : SA X (e :: es) ms) (hl : ∀ ρ y, ms ρ = some y → y.1.length = n) (hdb : (x == ("__debug__" : Str)) = false := by decide) (he : starEach (e :: es) X.env = (false, eval e X.env) :: starEach es X.env := by rfl) (hpl : (backTo pos (starEach es X.env)).any (·.1) = false := by rfl)
    (hs : swapsWithSole [.Tuple ts kk tpos] (.Call (.Name x p) (e :: es) [] pos) spos.line X.env = pure false := by rfl) (hw : swappedStores [.Tuple ts kk tpos] (.Call (.Name x p) (e :: es) [] pos) X.env = pure none := by rfl)
    (h1 : (assignEach [.Tuple ts kk tpos] X.env).map (·.2) = [assign (.Tuple ts kk tpos) X.env] := by rfl) :
    SS X P (.Assign [.Tuple ts kk tpos] (.Call (.Name x p) (e :: es) [] pos) spos) (sX (fUnp is) m ms) :=
  PS.imp (ps_asg (pe_callS F hr hg hm hk hb (fun σ => passAt (takes_wx X) σ) ha hdb he hpl) (pg_tup hc hgs hnn hst) hs hw h1) fun D σ H h => rd_sX hl h fun r cs' v B G' H' κ ρ' e1 hr e2 rs q => by
    obtain ⟨ds, h2, hm⟩ := Option.bind_eq_some_iff.mp e1
    obtain ⟨ρ2, h3, hm⟩ := Option.map_eq_some_iff.mp hm
    cases hm
    obtain ⟨a, vs, p1, p2, p3⟩ := tpv_rep rs.tail rs.h1 rfl rfl (fun j z => absurd z (hr j)) h2
    refine ⟨a, vs, p1, p2, by rw [p3.length, unp_len h3], ?_⟩
    rw [← e2]
    refine unp_ok hP rs.tail p3 h3 fun cs2 g1 g2 g3 g4 g5 => ?_
    show D.nx (vals cs2) H'
    exact q cs2 .non [] G' H' g1 g2 (fun i hi => by rw [g3 i hi, e2]) (g4.addFz .non) (Stp.refl.weak fun b hb => by rw [own_cons]; exact List.mem_append_right _ (g5 b (by simpa [own_cons, Ctl.rv, Rv.sl] using hb)))
end
end
end FW

/-! tuple(xs) of a list -/
namespace FW
noncomputable section
open PySem L2
def mTupOf (m : M) : M := fun ρ => (m ρ).bind fun x => (lsv x.2 x.1).map fun xs => (.val (.tup xs), x.2)
section
variable {X : Cx} {a : Expr} {ma : M} {pos p : Pos}
theorem se_tupOf (hm : X.mg "tuple" = none) (ha : SE X a ma) (hg : Gl X "tuple" := by rfl) (na : starEach [a] X.env = (false, eval a X.env) :: starEach [] X.env := by rfl) : SE X (.Call (.Name "tuple" p) [a] [] pos) (mTupOf ma) := PE.imp (pe_tupleOf hg hm ha na) fun σ H Q h => by
  obtain ⟨cs, G, r, ρ', e1, rs, hm, k⟩ := h
  obtain ⟨⟨r1, ρ1⟩, h1, hm⟩ := Option.bind_eq_some_iff.mp hm
  obtain ⟨xs, h2, hm⟩ := Option.map_eq_some_iff.mp hm
  cases hm
  refine ⟨cs, G, r1, ρ1, e1, rs, h1, fun cs1 v B G1 H1 f1 f2 fb rs1 st1 => ?_⟩
  subst f1; subst f2
  obtain ⟨q, vs, rfl, p2, p3⟩ := lsv_rep rs1.tail rs1.h1 rfl rfl fb h2
  exact .inl ⟨q, vs, rfl, p2, fun p hp => (Fin.of k rfl rfl rs1.tail st1.back1).t _ p _ rfl hp p3⟩
end
@[simp] theorem r_tupOf (m : M) (ρ : List Sl) : mTupOf m ρ = (m ρ).bind fun x => (lsv x.2 x.1).map fun xs => (.val (.tup xs), x.2) := rfl
end
end FW

/-! xs.remove(text), texts alone -/
namespace FW
noncomputable section
open PySem PySem.Spec PyProof.Rows L2
def eqsk (k : Str) (v : Value) : Bool := match v with
  | .str n _ => n == k
  | _ => false
theorem strs_get : ∀ {ns : List Str} {us : List Value}, Vals (ns.map V.str) us → us.length = ns.length ∧ ∀ (j : Nat) (u : Value), us[j]? = some u → ∃ s t, ns[j]? = some s ∧ u = .str s t
  | [], us, r => by
    rw [List.map_nil] at r
    cases r
    exact ⟨rfl, fun j u h => by simp at h⟩
  | n :: ns, us, r => by
    rw [List.map_cons] at r
    cases r with
    | cons r1 r2 =>
      obtain ⟨t, rfl⟩ := r1
      obtain ⟨l, g⟩ := strs_get r2
      refine ⟨by simp [l], fun j u h => ?_⟩
      cases j with
      | zero => simp at h; subst h; exact ⟨n, t, rfl, rfl⟩
      | succ j =>
        obtain ⟨s, t, h1, h2⟩ := g j u (by simpa using h)
        exact ⟨s, t, by simpa using h1, h2⟩
theorem erase_mapS : ∀ (l : List Str) (j : Nat), (l.map V.str).eraseIdx j = (l.eraseIdx j).map V.str
  | [], j => by simp
  | a :: r, 0 => by simp
  | a :: r, j + 1 => by
    have ih := erase_mapS r j
    simp [ih]
def rRemS : V → List V → Hp → VK → Prop := fun x xs H Q => ∃ (l : Addr) (ns : List Str) (k : Str) (j : Nat), x = .ref l ∧ xs = [.str k] ∧ H l = some (.lst (ns.map V.str)) ∧ ns[j]? = some k ∧ (∀ m : Nat, m < j → ns[m]? ≠ some k) ∧ Q .non (upd H l (.lst ((ns.eraseIdx j).map V.str)))
theorem mt_removeS {X : Cx} : MtM X "list.remove" rRemS := by
  intro pins s σ H x xs v us Q I rx rxs h
  obtain ⟨l, ns, k, j, rfl, rfl, hH, hj, hno, q⟩ := h
  cases rx
  obtain ⟨u, rfl, ru⟩ := rxs.one
  obtain ⟨t, rfl⟩ := ru
  obtain ⟨z, its, n, r, hl, e⟩ := I.lstM hH
  obtain ⟨hl2, hg⟩ := strs_get r
  rw [List.length_map] at hl z
  have hjn : j < ns.length := (List.getElem?_eq_some_iff.mp hj).1
  have hjl : j < its.toArray.size := by rw [List.size_toArray]; omega
  have at_ : ∀ (m : Nat) (hm : m < its.toArray.size), ∃ s t, ns[m]? = some s ∧ its.toArray[m] = .str s t := fun m hm => by
    have hm' : m < its.length := by simpa using hm
    obtain ⟨s, t, h1, h2⟩ := hg m _ (List.getElem?_eq_getElem hm')
    exact ⟨s, t, h1, by simpa using h2⟩
  refine call_meets PySem.F.slot_list_remove ⟨_, e, rfl⟩ PySem.F.entry_list_remove (PySem.F.args_list_remove_2 _ _)
    (MeetsSeq.list_remove l its.toArray n (.str k t) (eqsk k) (fun y hy => ?_) j hjl ?_ ?_ (by rw [List.size_toArray]; omega)) ⟨e, ?_⟩
  · have hy' : y ∈ its := by simpa using hy
    obtain ⟨m, hm⟩ := List.getElem?_of_mem hy'
    obtain ⟨s, t', _, h2⟩ := hg m y hm
    subst h2
    exact eqGives_str s k t' t
  · obtain ⟨s, t', h1, h2⟩ := at_ j hjl
    rw [hj] at h1
    cases h1
    rw [h2]
    exact beq_self_eq_true k
  · intro m hm hmj
    obtain ⟨s, t', h1, h2⟩ := at_ m hm
    rw [h2]
    refine beq_eq_false_iff_ne.mpr fun e2 => hno m hmj ?_
    rw [h1, e2]
  · have rr := r.eraseIdx j
    rw [erase_mapS] at rr
    refine ⟨.non, _, I.lset (its' := its.eraseIdx j) (t' := s.toks) hH e ?_ rr ?_, rfl, q⟩
    · show its.toArray.eraseIdxIfInBounds j = (its.eraseIdx j).toArray
      rw [List.eraseIdxIfInBounds_toArray]
    · have z2 := len_erase ns j
      rw [List.length_map]
      omega
/-- remove of a text that is there, texts alone -/
def remSF : List D → List D → Option (D × List D) := fun xs ds => match ds with
  | [.str i] => (strs? xs).bind fun ns => (ns.findIdx? (· == i)).map fun j => (.non, (ns.eraseIdx j).map .str)
  | _ => none
theorem mu_removeS {K : PySem.W.Frag} {mg : Str → Option Value} : MutOk K mg remSF rRemS := fun xs ds xs' z G H a ws vs Q e hH _ _ rp rq k => by
  unfold remSF at e
  split at e
  · rename_i i
    obtain ⟨ns, e1, e⟩ := Option.bind_eq_some_iff.mp e
    obtain ⟨j, e2, e⟩ := Option.map_eq_some_iff.mp e
    cases e
    have := strs?_eq e1
    subst this
    rw [rp.strs] at hH
    cases rq with
    | cons r1 r2 =>
      cases r2
      have := r1.str_iff
      subst this
      obtain ⟨hj, h1, h2⟩ := List.findIdx?_eq_some_iff_getElem.mp e2
      refine ⟨a, ns, i, j, rfl, rfl, hH, ?_, fun m hm hz => ?_, k _ _ .non (Reps.of_strs _)⟩
      · rw [List.getElem?_eq_getElem hj]
        simpa using h1
      · obtain ⟨hm', ez⟩ := List.getElem?_eq_some_iff.mp hz
        have := h2 m hm
        simp [ez] at this
  · cases e
@[simp] theorem r_remSF (xs : List D) (i : Str) : remSF xs [.str i] = (strs? xs).bind fun ns => (ns.findIdx? (· == i)).map fun j => (.non, (ns.eraseIdx j).map .str) := rfl
end
end FW

/-! objects of own classes with owned fields: made, methods, properties, len, fields read -/
namespace FW
noncomputable section
open PySem L2

/-- the class and the fields' names of an object -/
def Sl.hd : Sl → Option (Str × List Str)
  | .fz (.obj c fs) => some (c, fs.map (·.1))
  | .ob c fs => some (c, fs.map (·.1))
  | _ => none
/-- a frozen field -/
def Sl.fldq (f : Str) : Sl → Option (Str × D)
  | .fz (.obj c fs) => (fs.lookup f).map fun d => (c, d)
  | .ob c fs => match fs.lookup f with
    | some (.fz d) => some (c, d)
    | _ => none
  | _ => none
/-- a field that is a list -/
def Sl.fll (f : Str) : Sl → Option (Str × List D)
  | .fz (.obj c fs) => match fs.lookup f with
    | some (.lst xs) => some (c, xs)
    | _ => none
  | .ob c fs => match fs.lookup f with
    | some (.ow xs) => some (c, xs)
    | _ => none
  | _ => none
section
variable {K : PySem.W.Frag} {mg : Str → Option Value} {G H G' H' : Hp}
theorem repF_names : ∀ {ds : List (Str × D)} {fvs : List (Str × V)}, RepF K mg G ds fvs → fvs.map (·.1) = ds.map (·.1)
  | _, _, .nil => rfl
  | _, _, .cons _ q => by simp [repF_names q]
theorem ownF_names : ∀ {ds : List (Str × Sl)} {fvs : List (Str × V)} {As : List Addr}, OwnF K mg G H ds fvs As → fvs.map (·.1) = ds.map (·.1)
  | _, _, _, .nil => rfl
  | _, _, _, .cons _ q => by simp [ownF_names q]
theorem look_none {f : Str} : ∀ {fvs : List (Str × V)}, f ∉ fvs.map (·.1) → fvs.lookup f = none
  | [], _ => rfl
  | (g, x) :: r, h => by
    rw [List.lookup_cons]
    have : (f == g) = false := by
      rw [beq_eq_false_iff_ne]
      rintro rfl
      exact h (by simp)
    rw [this]
    exact look_none fun z => h (by simp at z ⊢; exact .inr z)
theorem hd_own {s : Sl} {v : V} {A : List Addr} {c : Str} {ns : List Str} (sm : Same G H) (o : Own K mg G H s v A) (e : s.hd = some (c, ns)) : ∃ a C dx fvs, v = .ref a ∧ H a = some (.ins C dx fvs) ∧ mg c = some (.ref C) ∧ fvs.map (·.1) = ns := by
  unfold Sl.hd at e
  split at e
  · cases e
    cases o with
    | fz rp => cases rp with
      | obj m h r => exact ⟨_, _, _, _, rfl, sm _ _ h, m, repF_names r⟩
  · cases e
    cases o with
    | ob m h q => exact ⟨_, _, _, _, rfl, h, m, ownF_names q⟩
  · cases e
theorem ownF_at {f : Str} {s : Sl} : ∀ {fs : List (Str × Sl)} {fvs : List (Str × V)} {As : List Addr}, OwnF K mg G H fs fvs As → fs.lookup f = some s → ∃ v A1, fvs.lookup f = some v ∧ Own K mg G H s v A1 ∧ ∀ b ∈ A1, b ∈ As
  | _, _, _, .nil, e => by cases e
  | (g, x) :: r, _, _, .cons h q, e => by
    rw [List.lookup_cons] at e ⊢
    split at e
    · cases e; exact ⟨_, _, rfl, h, fun b hb => List.mem_append_left _ hb⟩
    · obtain ⟨v, A1, e1, e2, e3⟩ := ownF_at q e
      exact ⟨v, A1, e1, e2, fun b hb => List.mem_append_right _ (e3 b hb)⟩
theorem fldq_own {s : Sl} {v : V} {A : List Addr} {c f : Str} {d : D} (sm : Same G H) (o : Own K mg G H s v A) (e : s.fldq f = some (c, d)) : ∃ a C dx fvs v', v = .ref a ∧ H a = some (.ins C dx fvs) ∧ mg c = some (.ref C) ∧ fvs.lookup f = some v' ∧ Rep K mg G d v' := by
  unfold Sl.fldq at e
  split at e
  · obtain ⟨d', e1, e2⟩ := Option.map_eq_some_iff.mp e
    cases e2
    cases o with
    | fz rp => cases rp with
      | obj m h r =>
        obtain ⟨v', q1, q2⟩ := repF_lookup r e1
        exact ⟨_, _, _, _, _, rfl, sm _ _ h, m, q1, q2⟩
  · split at e
    · rename_i d' e1
      cases e
      cases o with
      | ob m h q =>
        obtain ⟨v', A1, q1, q2, _⟩ := ownF_at q e1
        cases q2 with
        | fz rp => exact ⟨_, _, _, _, _, rfl, h, m, q1, rp⟩
    · cases e
  · cases e
theorem fll_own {s : Sl} {v : V} {A : List Addr} {c f : Str} {xs : List D} (sm : Same G H) (o : Own K mg G H s v A) (e : s.fll f = some (c, xs)) : ∃ a C dx fvs b ws, v = .ref a ∧ H a = some (.ins C dx fvs) ∧ mg c = some (.ref C) ∧ fvs.lookup f = some (.ref b) ∧ Rd H b (.lst ws) ∧ Reps K mg G xs ws := by
  unfold Sl.fll at e
  split at e
  · split at e
    · rename_i xs' e1
      cases e
      cases o with
      | fz rp => cases rp with
        | obj m h r =>
          obtain ⟨v', q1, q2⟩ := repF_lookup r e1
          cases q2 with
          | lst h1 h2 => exact ⟨_, _, _, _, _, _, rfl, sm _ _ h, m, q1, same_rd sm h1, h2⟩
    · cases e
  · split at e
    · rename_i xs' e1
      cases e
      cases o with
      | ob m h q =>
        obtain ⟨v', A1, q1, q2, _⟩ := ownF_at q e1
        cases q2 with
        | ow h1 h2 => exact ⟨_, _, _, _, _, _, rfl, h, m, q1, Rd.of h1, h2⟩
    · cases e
  · cases e
theorem rd_keep {b : Addr} {ws : List V} (keep : ∀ b o, H b = some o → (∀ ps, o ≠ .tbl ps) → H' b = some o) (h : Rd H b (.lst ws)) : Rd H' b (.lst ws) := by
  rcases h with h | ⟨o, h⟩
  · exact .inl (keep _ _ h (by intro _ z; cases z))
  · exact .inr ⟨o, keep _ _ h (by intro _ z; cases z)⟩
/-- a look at a slice's part -/
theorem tP_look {cs : List Cl} {m : MP} {o : Option Int} {ρ1 : List Sl} {Q : Option Int → Hp → Prop} (rs : Res K mg G H cs) (hm : m (pk (slots cs)) = some (o, ρ1))
    (k : ∀ G2 H', (∀ b o, H b = some o → (∀ ps, o ≠ .tbl ps) → H' b = some o) → Res K mg G2 H' cs → Stp (own cs) G H (own cs) G2 H' → Q o H') : tP K mg m (vals cs) H Q := by
  obtain ⟨csf, e1, e2, e3, rf⟩ := rs.peek
  refine ⟨csf, _, o, ρ1, e1, rf, by rw [e2]; exact hm, fun cs' G' H' f1 f2 rs' st' => ?_⟩
  have keep : ∀ b o, H b = some o → (∀ ps, o ≠ .tbl ps) → H' b = some o := fun b o q n => st'.keep b o (by rw [e3]; simp) q n
  rw [e3] at st'
  obtain ⟨G2, r2, s0, g2n⟩ := rs.looked st' rs'
  exact k G2 H' keep r2 s0
/-- a new object and its __init__: the fields stay owned -/
theorem handedO {n : Nat} {m : MF} {cs ds : List Cl} {rs : List Rv} {vs : List V} {ss ρr outs : List Sl} {fs : List (Str × Sl)} {Q : VK} {E : XK} {c c' : Str} {C x dx : Addr} (h : Res K mg G H (ds ++ cs)) (hb : Bors (vals cs) rs vs) (e1 : vals ds = vs.map some) (e2 : slots ds = rs.map Rv.sl) (hn : vs.length + 1 = n)
    (hx : H x = none) (hd : H dx = none) (hne : dx ≠ x) (hC : mg c = some (.ref C))
    (ht : takeA (slots cs) rs = some (ss, ρr)) (hm : m (.ob c [] :: ss) = some (.val .non, .ob c' fs :: outs))
    (k : ∀ cs' B G' H', vals cs' = vals cs → slots cs' = putA rs outs ρr → Res K mg G' H' (⟨some (.ref x), .ob c' fs, B⟩ :: cs') → Stp (own (ds ++ cs)) G H (own ((⟨some (.ref x), .ob c' fs, B⟩ : Cl) :: cs')) G' H' → Q (.ref x) H') :
    spM K mg n m (.ref x :: vs) (upd (upd H dx (.own x)) x (.ins C dx [])) (fun v H2 => v = .non ∧ Q (.ref x) H2) E := by
  obtain ⟨as, cr, f1, f2, f3, f4, f5, f6⟩ := take_ok h hb e1 e2 ht
  have r1 := f5.keepH (o := .own x) hd
  have hx' : upd H dx (.own x) x = none := by rw [upd_ne (Ne.symm hne)]; exact hx
  have r2 := Res.newO (dx := dx) r1 hx' hC
  have s0 : Stp (own (as ++ cr)) G H (own ((⟨some (.ref x), .ob c [], [x]⟩ : Cl) :: (as ++ cr))) G (upd (upd H dx (.own x)) x (.ins C dx [])) := (Stp.allocU hd).trans (by
    rw [own_cons]
    exact Stp.alloc hx')
  refine ⟨⟨some (.ref x), .ob c [], [x]⟩ :: as, G, .val .non, .ob c' fs :: outs, by simp [vals]; exact f1, by simp [hn], Res.left (ds := cr) (by exact r2), by show m (.ob c [] :: slots as) = _; rw [f2]; exact hm, (fun j z => nomatch z), fun cs2 v B G' H' g1 g2 rs' st' => ?_⟩
  cases cs2 with
  | nil => simp [vals] at g1
  | cons c0 as' =>
    obtain ⟨v0, s0', B0⟩ := c0
    simp only [vals, List.map_cons, List.cons.injEq] at g1
    simp only [slots, List.map_cons, List.cons.injEq] at g2
    obtain ⟨g1, g1'⟩ := g1
    obtain ⟨g2, g2'⟩ := g2
    have g1 : v0 = some (.ref x) := g1
    have g2 : s0' = .ob c' fs := g2
    subst g1; subst g2
    obtain ⟨rp, rfl⟩ := rs'.val
    have vn := rp.non_iff
    refine ⟨vn, ?_⟩
    have p0 : List.Perm ((⟨some (.ref x), .ob c [], [x]⟩ : Cl) :: (as ++ cr)) (cr ++ ((⟨some (.ref x), .ob c [], [x]⟩ : Cl) :: as)) := by
      rw [← List.cons_append]
      exact List.perm_append_comm
    have r3 := r2.perm p0
    have r4 := Res.frame r3 st' rs'
    have st4 := Stp.under r3 st'
    have p1 : List.Perm (cr ++ (⟨some v, .fz .non, []⟩ : Cl) :: (⟨some (.ref x), .ob c' fs, B0⟩ : Cl) :: as') ((⟨some v, .fz .non, []⟩ : Cl) :: ((⟨some (.ref x), .ob c' fs, B0⟩ : Cl) :: (as' ++ cr))) := List.perm_middle.trans (List.Perm.cons _ (by
      rw [← List.cons_append]
      exact List.perm_append_comm))
    have r5 := (r4.perm p1).tail
    obtain ⟨es, q1, q2, q3, q4⟩ := put_ok (rs := rs) (vs := vs) r5 (by rw [f3]; exact hb) g1'
    refine k es B0 G' H' (q1.trans f3) (by rw [q2]; show putA rs (slots as') (slots cr) = _; rw [f4, show slots as' = outs from g2']) q3 ?_
    have z1 := (s0.perm (own_perm p0)).trans (st4.perm (own_perm p1))
    have z2 : Stp (own (as ++ cr)) G H (own ((⟨some (.ref x), .ob c' fs, B0⟩ : Cl) :: (as' ++ cr))) G' H' := z1.weak fun b hb => by rw [own_cons]; exact List.mem_append_right _ hb
    exact (z2.weak q4).more fun b hb => f6 b hb
/-- a slot's content set aside -/
theorem Res.hide {cs : List Cl} {c : Cl} {i : Nat} (h : Res K mg G H cs) (e : cs[i]? = some c) : Res K mg G H (c :: cs.set i ⟨c.v, .no, []⟩) ∧ ∀ b, b ∈ own (c :: cs.set i ⟨c.v, .no, []⟩) ↔ b ∈ own cs := by
  obtain ⟨l1, l2, rfl, hl⟩ := split_at e
  rw [set_mid hl]
  have hp : Res K mg G H (c :: (l1 ++ l2)) := h.perm List.perm_middle
  have h2 : Res K mg G H ((⟨c.v, .no, []⟩ : Cl) :: c :: (l1 ++ l2)) := hp.addNo c.v
  have p : List.Perm ((⟨c.v, .no, []⟩ : Cl) :: c :: (l1 ++ l2)) (c :: (l1 ++ (⟨c.v, .no, []⟩ : Cl) :: l2)) := (List.Perm.swap _ _ _).trans (List.Perm.cons _ List.perm_middle.symm)
  refine ⟨h2.perm p, fun b => ?_⟩
  rw [← (own_perm p).mem_iff, own_cons, List.nil_append, ← (own_perm (List.perm_middle (a := c) (l₁ := l1) (l₂ := l2))).mem_iff]
/-- a cell rewritten with what another one owned -/
theorem Res.rewrite {cs : List Cl} {c0 c c' : Cl} {i : Nat} (h : Res K mg G H (c0 :: cs)) (e : cs[i]? = some c) (hA : ∀ b, b ∉ c.A → H' b = H b) (ok : ClR K mg G H' c') (nd : c'.A.Nodup) (sub : ∀ b ∈ c'.A, b ∈ c.A ∨ b ∈ c0.A) (live : ∀ b ∈ c.A, H' b ≠ none) :
    Res K mg G H' (cs.set i c') ∧ Stp (own (c0 :: cs)) G H (own (cs.set i c')) G H' := by
  obtain ⟨l1, l2, rfl, hl⟩ := split_at e
  rw [set_mid hl]
  have p1 : List.Perm (c0 :: (l1 ++ c :: l2)) (c0 :: c :: (l1 ++ l2)) := List.Perm.cons _ List.perm_middle
  have hp := h.perm p1
  have n := hp.nd
  rw [own_cons, own_cons] at n
  obtain ⟨n0, n12, d0⟩ := List.nodup_append.mp n
  obtain ⟨n1, n2, d1⟩ := List.nodup_append.mp n12
  have hm : ∀ b, b ∈ c.A → b ∈ own (c0 :: (l1 ++ c :: l2)) := fun b hb => mem_own.mpr ⟨c, by simp, hb⟩
  have hs : ∀ b ∈ c'.A, b ∈ own (c0 :: c :: (l1 ++ l2)) := fun b hb => by
    rw [own_cons, own_cons]
    rcases sub b hb with z | z
    · exact List.mem_append_right _ (List.mem_append_left _ z)
    · exact List.mem_append_left _ z
  have fresh : ∀ b ∈ own (l1 ++ l2), b ∉ c'.A := fun b hb z => by
    rcases sub b z with q | q
    · exact d1 b q b hb rfl
    · exact d0 b q b (List.mem_append_right _ hb) rfl
  have tb := hp.tabAt (H' := H') fun b hb => hA b fun z => hb (by rw [own_cons, own_cons]; exact List.mem_append_right _ (List.mem_append_left _ z))
  have r : Res K mg G H' (c' :: (l1 ++ l2)) := by
    refine ⟨fun b o q => ?_, fun d hd => ?_, ?_, fun a ha => ?_, tb⟩
    · have nb : b ∉ c.A := fun z => by rw [h.fr b (hm b z)] at q; cases q
      rw [hA b nb]
      exact h.same b o q
    · rcases List.mem_cons.mp hd with z | z
      · subst z; exact ok
      · exact (hp.ok d (by simp [z])).frame (fun _ _ q => q) fun a ha o q _ => by
          rw [hA a fun z2 => d1 a z2 a (mem_own.mpr ⟨d, z, ha⟩) rfl]
          exact q
    · rw [own_cons]
      exact List.nodup_append.mpr ⟨nd, n2, fun a ha b hb e => by subst e; exact fresh a hb ha⟩
    · rw [own_cons] at ha
      rcases List.mem_append.mp ha with z | z
      · exact hp.fr a (hs a z)
      · exact hp.fr a (by rw [own_cons, own_cons]; exact List.mem_append_right _ (List.mem_append_right _ z))
  refine ⟨r.perm List.perm_middle.symm, ⟨fun b o hb q _ => ?_, fun _ _ q => q, fun _ _ _ => rfl, fun b hb => ?_, fun b hb => .inl ?_⟩⟩
  · rw [hA b fun z => hb (hm b z)]; exact q
  · by_cases z : b ∈ c.A
    · exact live b z
    · rw [hA b z]; exact hb
  · have hb' := (own_perm (List.perm_middle (a := c') (l₁ := l1) (l₂ := l2))).mem_iff.mp hb
    rw [own_cons] at hb'
    refine (own_perm p1).mem_iff.mpr ?_
    rcases List.mem_append.mp hb' with z | z
    · exact hs b z
    · rw [own_cons, own_cons]; exact List.mem_append_right _ (List.mem_append_right _ z)
/-- a field stored, owned or frozen -/
theorem ownF_set {f : Str} {s : Sl} {v : V} {B : List Addr} (o : Own K mg G H' s v B) : ∀ {fs : List (Str × Sl)} {fvs : List (Str × V)} {As : List Addr}, OwnF K mg G H fs fvs As → (∀ a ∈ As, H' a = H a) → (B ++ As).Nodup →
    ∃ As', OwnF K mg G H' (putS f s fs) (putF f v fvs) As' ∧ As'.Nodup ∧ ∀ b ∈ As', b ∈ As ∨ b ∈ B
  | _, _, _, .nil, k, n => ⟨B ++ [], .cons o .nil, n, fun b hb => .inr (by simpa using hb)⟩
  | (g, x) :: r, (_, y) :: rv, _, .cons (A := A) (As := As) h q, k, n => by
    have n' : (B ++ As).Nodup := (List.Sublist.append_left (List.sublist_append_right A As) B).nodup n
    unfold putS putF
    by_cases hg : g = f
    · rw [if_pos hg, if_pos hg]
      refine ⟨B ++ As, .cons o (OwnF.frame (fun _ _ z => z) q fun a ha o e _ => by rw [k a (List.mem_append_right _ ha)]; exact e), n', fun b hb => ?_⟩
      rcases List.mem_append.mp hb with z | z
      · exact .inr z
      · exact .inl (List.mem_append_right _ z)
    · rw [if_neg hg, if_neg hg]
      obtain ⟨As', q1, q2, q3⟩ := ownF_set o q (fun a ha => k a (List.mem_append_right _ ha)) n'
      refine ⟨A ++ As', .cons (Own.frame (fun _ _ z => z) h fun a ha o e _ => by rw [k a (List.mem_append_left _ ha)]; exact e) q1, ?_, fun b hb => ?_⟩
      · obtain ⟨m1, m2, m3⟩ := List.nodup_append.mp n
        obtain ⟨m4, m5, m6⟩ := List.nodup_append.mp m2
        refine List.nodup_append.mpr ⟨m4, q2, fun a ha b hb e => ?_⟩
        subst e
        rcases q3 a hb with z | z
        · exact m6 a ha a z rfl
        · exact m3 a z a (List.mem_append_left _ ha) rfl
      · rcases List.mem_append.mp hb with z | z
        · exact .inl (List.mem_append_left _ z)
        · exact (q3 b z).imp (List.mem_append_right _) id
theorem ownF_upd {f : Str} {xs xs' : List D} {b : Addr} {ws' : List V} (hw : Reps K mg G xs' ws') : ∀ {fs : List (Str × Sl)} {fvs : List (Str × V)} {As : List Addr}, OwnF K mg G H fs fvs As → fs.lookup f = some (.ow xs) → fvs.lookup f = some (.ref b) → As.Nodup → OwnF K mg G (upd H b (.lst ws')) (putS f (.ow xs') fs) fvs As
  | _, _, _, .nil, e1, e2, n => by cases e1
  | (g, s) :: r, (_, v) :: rv, _, .cons (A := A) (As := As) h q, e1, e2, n => by
    obtain ⟨n1, n2, n3⟩ := List.nodup_append.mp n
    unfold putS
    by_cases hg : g = f
    · subst hg
      rw [if_pos rfl]
      rw [List.lookup_cons, show (g == g) = true from beq_self_eq_true g] at e1 e2
      cases e1
      cases e2
      cases h with
      | ow h1 h2 => exact .cons (A := [b]) (.ow upd_same hw) (q.frame (fun _ _ z => z) fun a ha o e _ => by rw [upd_ne (by rintro rfl; exact n3 a (by simp) a ha rfl)]; exact e)
    · rw [if_neg hg]
      have hne : (f == g) = false := by
        rw [beq_eq_false_iff_ne]
        exact fun z => hg z.symm
      rw [List.lookup_cons, hne] at e1 e2
      obtain ⟨v', A1, q1, q2, q3⟩ := ownF_at q e1
      have e2 : List.lookup f rv = some (V.ref b) := e2
      rw [e2] at q1
      cases q1
      cases q2 with
      | ow h1 h2 =>
        have hb : b ∈ As := q3 b (by simp)
        exact .cons (h.frame (fun _ _ z => z) fun a ha o e _ => by rw [upd_ne (by rintro rfl; exact n3 a ha a hb rfl)]; exact e) (ownF_upd hw q e1 e2 n2)
end
def Sl.isS : Sl → Bool
  | .no => false
  | _ => true
/-! the mirrors -/
def mMakeO (c : Str) (m : MF) (ms : MA) : M := fun ρ => (ms ρ).bind fun y => (takeA y.2 y.1).bind fun z => (m (.ob c [] :: z.1)).bind fun w => match w.1, w.2 with
  | .val .non, .ob c' fs :: outs => some (.own (.ob c' fs), putA y.1 outs z.2)
  | _, _ => none
def mMethN (c nm : Str) (m : MF) (o : M) (ms : MA) : M := fun ρ => (o ρ).bind fun x => (rsl x.2 x.1).bind fun s => s.hd.bind fun p => @ite _ (p.1 = c ∧ nm ∉ p.2) (Classical.propDecidable _) ((ms x.2).bind fun y => (takeA y.2 (x.1 :: y.1)).bind fun z => (m z.1).bind fun w => match w.1 with
  | .bor _ => none
  | r => some (r, putA (x.1 :: y.1) w.2 z.2)) none
def mPropN (c : Str) (m : MF) (o : M) : M := fun ρ => (o ρ).bind fun x => (rsl x.2 x.1).bind fun s => s.hd.bind fun p => @ite _ (p.1 = c) (Classical.propDecidable _) ((takeA x.2 [x.1]).bind fun z => (m z.1).bind fun w => match w.1 with
  | .bor _ => none
  | r => some (r, putA [x.1] w.2 z.2)) none
def mLenON (c : Str) (m : MF) (o : M) : M := fun ρ => (mPropN c m o ρ).bind fun x => match x.1 with
  | .val (.int n) => @ite _ (0 ≤ n ∧ n < 2 ^ 63) (Classical.propDecidable _) (some (.val (.int n), x.2)) none
  | _ => none
def mFldN (cl : List Str) (f : Str) (a : M) : M := fun ρ => (a ρ).bind fun x => (rsl x.2 x.1).bind fun s => (s.fldq f).bind fun p => @ite _ (p.1 ∈ cl) (Classical.propDecidable _) (some (.val p.2, x.2)) none
/-- o.f[k] of a list in a field; the index is looked at -/
def mFldIx (cl : List Str) (f : Str) (a mk : M) : M := fun ρ => (a ρ).bind fun x => (rsl x.2 x.1).bind fun s => (s.fll f).bind fun p => @ite _ (p.1 ∈ cl) (Classical.propDecidable _) ((mk (pk x.2)).bind fun y => match y.1 with
  | .val (.int k) => (atI p.2 k).map fun d => (.val d, x.2)
  | _ => none) none
def mFldSl (cl : List Str) (f : Str) (a : M) (lo hi : MP) : M := fun ρ => (a ρ).bind fun x => (rsl x.2 x.1).bind fun s => (s.fll f).bind fun p => @ite _ (p.1 ∈ cl) (Classical.propDecidable _) ((lo (pk x.2)).bind fun y => (hi (pk x.2)).bind fun z => some (.own (.ow (cutA p.2 y.1 z.1)), x.2)) none
def sSetFldO (cl : List Str) (i : Nat) (f : Str) (m : M) : MS := fun ρ => (m ρ).bind fun x => match x.1 with
  | .bor _ => none
  | r => match x.2[i]? with
    | some (.ob c fs) => @ite _ (c ∈ cl ∧ fs.length < 1000 ∧ r.sl.isS = true) (Classical.propDecidable _) (some (.nx, x.2.set i (.ob c (putS f r.sl fs)))) none
    | _ => none
/-- o.f.m(..) for a list that the field f of slot i owns -/
def mFldMut (F : List D → List D → Option (D × List D)) (cl : List Str) (i : Nat) (f : Str) (ms : MA) : M := fun ρ => match ρ[i]? with
  | some (.ob c fs) => match fs.lookup f with
    | some (.ow xs) => @ite _ (c ∈ cl) (Classical.propDecidable _) ((ms (ρ.set i .no)).bind fun y => (frzA y.2 y.1).bind fun z => (F xs z.1).map fun w => (.val w.1, z.2.set i (.ob c (putS f (.ow w.2) fs)))) none
    | _ => none
  | _ => none
end
end FW

/-! own objects with owned fields: the readings -/
namespace FW
noncomputable section
open PySem L2
section
variable {X : Cx} {a b c e o tg : Expr} {es : List Expr} {ma mb mc mo mk : M} {ms : MA} {pos p2 p cpos apos : Pos} {P : Nat → Prop} {k n : Nat} {fa C : Addr} {fd : FuncData} {ps : List Str} {m : MF} {x : Str} {cl : List Str} {f cn nm : Str}
theorem rd_makeO (hC : X.mg cn = some (.ref C)) (hl : ∀ ρ y, ms ρ = some y → y.1.length + 1 = n) : ∀ σ H Q, tM X.K X.mg (mMakeO cn m ms) σ H Q → tMake C (spM X.K X.mg n m) [] E0 (tMA X.K X.mg ms) σ H Q := fun σ H Q h => by
  obtain ⟨cs, G, r, ρ', e1, rs, hm, k⟩ := h
  obtain ⟨⟨r1, ρ1⟩, h1, hm⟩ := Option.bind_eq_some_iff.mp hm
  obtain ⟨⟨ss, ρr⟩, h2, hm⟩ := Option.bind_eq_some_iff.mp hm
  obtain ⟨⟨r2, outs⟩, h3, hm⟩ := Option.bind_eq_some_iff.mp hm
  dsimp only at hm
  split at hm
  · rename_i c' fs outs' he1 he2
    cases hm
    refine ⟨cs, G, r1, ρ1, e1, rs, h1, fun cs1 es vs G1 H1 f1 f2 fb f3 f4 rs1 st1 => ?_⟩
    subst f2
    intro xx dx hx hd hne
    rw [List.append_nil]
    refine handedO rs1 (by rw [f1]; exact fb) f3 f4 (by rw [bors_len fb]; exact hl _ _ h1) hx hd hne hC h2 h3 fun cs2 B G2 H2 g1 g2 rs2 st2 => ?_
    exact k cs2 _ B G2 H2 (g1.trans f1) g2 (fun j z => nomatch z) rs2 (st1.trans st2)
  · cases hm
theorem se_makeO (Mk_ : Mk X.K C fa) (F : FnOk X.prog X.w X.K X.mg X.base CX0 k fa fd ps (spM X.K X.mg n m)) (hr : Room (k + 1) X.A) (hg : Gl X x) (hm : X.mg x = some (.ref C)) (hb : Binds X.K fd ps [])
    (ha : SA X (e :: es) ms) (hl : ∀ ρ y, ms ρ = some y → y.1.length + 1 = n) (hdb : (x == ("__debug__" : Str)) = false := by decide) (he : starEach (e :: es) X.env = (false, eval e X.env) :: starEach es X.env := by rfl) (hpl : (backTo pos (starEach es X.env)).any (·.1) = false := by rfl) :
    SE X (.Call (.Name x p) (e :: es) [] pos) (mMakeO x m ms) := PE.imp (pe_make Mk_ F hr hg hm hb .nil pass0 ha hdb he hpl) (rd_makeO hm hl)
theorem rd_methN (hC : X.mg cn = some (.ref C)) (hl : ∀ ρ y, ms ρ = some y → y.1.length + 1 = n) : ∀ σ H Q, tM X.K X.mg (mMethN cn nm m mo ms) σ H Q → tMeth C nm (spM X.K X.mg n m) [] E0 (tM X.K X.mg mo) (tMA X.K X.mg ms) σ H Q := fun σ H Q h => by
  obtain ⟨cs, G, r, ρ', e1, rs, hm0, k⟩ := h
  obtain ⟨⟨r1, ρ1⟩, h1, hm1⟩ := Option.bind_eq_some_iff.mp hm0
  obtain ⟨s, h2, hm2⟩ := Option.bind_eq_some_iff.mp hm1
  obtain ⟨⟨c0, fs⟩, h3, hm3⟩ := Option.bind_eq_some_iff.mp hm2
  by_cases hc : c0 = cn ∧ nm ∉ fs
  · dsimp only at hm3
    rw [if_pos hc] at hm3
    obtain ⟨hc1, hc2⟩ := hc
    subst hc1
    obtain ⟨⟨r2, ρ2⟩, h4, hm⟩ := Option.bind_eq_some_iff.mp hm3
    obtain ⟨⟨ss, ρr⟩, h5, hm⟩ := Option.bind_eq_some_iff.mp hm
    obtain ⟨⟨r3, outs⟩, h6, hm⟩ := Option.bind_eq_some_iff.mp hm
    have hr : (∀ j, r3 ≠ .bor j) ∧ r = r3 ∧ ρ' = putA (r1 :: r2) outs ρr := by
      cases r3 with
      | bor j => cases hm
      | val d => cases hm; exact ⟨(fun j z => nomatch z), rfl, rfl⟩
      | own s => cases hm; exact ⟨(fun j z => nomatch z), rfl, rfl⟩
    obtain ⟨hr, q1, q2⟩ := hr
    subst q1; subst q2
    refine ⟨cs, G, r1, ρ1, e1, rs, h1, fun cs1 v B G1 H1 f1 f2 fb rs1 st1 => ?_⟩
    subst f2
    obtain ⟨A, ow⟩ := rsl_own rs1.tail rs1.h1 rfl rfl (by rw [f1]; exact fb) h2 (by rintro rfl; cases h3)
    obtain ⟨a', C', dx, fvs, q1, q2, q3, q4⟩ := hd_own rs1.tail.same ow h3
    rw [hC] at q3
    cases q3
    refine ⟨a', dx, fvs, q1, q2, look_none (by rw [q4]; exact hc2), cs1, G1, r2, ρ2, f1, rs1.tail, h4, fun cs2 es vs G2 H2 g1 g2 gb g3 g4 rs2 st2 => ?_⟩
    subst g2
    rw [List.append_nil]
    have rA := Res.frame (ds := [_]) rs1 st2 rs2
    have sA := st1.trans (Stp.under (ds := [_]) rs1 st2)
    refine handed (ds := ⟨some v, r1.sl, B⟩ :: es) (rs := r1 :: r2) (vs := v :: vs) (by exact rA) (by rw [g1]; exact ⟨fb, gb⟩) (by show some v :: vals es = _; rw [g3]; rfl) (by show r1.sl :: slots es = _; rw [g4]; rfl) (by simp [bors_len gb]; exact hl _ _ h4) h5 h6 hr fun cs3 w B3 G3 H3 k1 k2 rs3 st3 => ?_
    exact k cs3 w B3 G3 H3 (k1.trans g1) k2 (fun j z => absurd z (hr j)) rs3 (sA.trans st3)
  · dsimp only at hm3
    rw [if_neg hc] at hm3
    cases hm3
theorem se_methN {pl : Sem Bool} (cc : Cls X.K C) (hm : Meth X.K C nm fa) (hC : X.mg cn = some (.ref C)) (F : FnOk X.prog X.w X.K X.mg X.base CX0 k fa fd ps (spM X.K X.mg n m)) (hr : Room k X.A) (hb : Binds X.K fd ps []) (ho : SE X o mo)
    (ha : SA X (e :: es) ms) (hl : ∀ ρ y, ms ρ = some y → y.1.length + 1 = n)
    (hst : starEach (e :: es) X.env = (false, eval e X.env) :: starEach es X.env := by rfl) (hpl : (backTo pos (starEach es X.env)).any (·.1) = false := by rfl)
    (ht : eval (.Call (.Attribute o nm apos) (e :: es) [] pos) X.env = (do
      let ov ← eval o X.env
      standAt apos.atName
      let (f, first) ← holding [ov] (getMethod ov nm pl)
      callWith pos f first (backTo pos (starEach (e :: es) X.env)) (backToKw pos (keywordEach [] X.env))) := by rfl) :
    SE X (.Call (.Attribute o nm apos) (e :: es) [] pos) (mMethN cn nm m mo ms) := PE.imp (pe_meth ho cc hm F hr hb .nil pass0 ha hst hpl ht) (rd_methN hC hl)
theorem se_methN0 {pl : Sem Bool} (cc : Cls X.K C) (hm : Meth X.K C nm fa) (hC : X.mg cn = some (.ref C)) (F : FnOk X.prog X.w X.K X.mg X.base CX0 k fa fd ps (spM X.K X.mg 1 m)) (hr : Room k X.A) (hb : Binds X.K fd ps []) (ho : SE X o mo)
    (ht : eval (.Call (.Attribute o nm apos) [] [] pos) X.env = (do
      let ov ← eval o X.env
      standAt apos.atName
      let (f, first) ← holding [ov] (getMethod ov nm pl)
      callWith pos f first (backTo pos (starEach [] X.env)) (backToKw pos (keywordEach [] X.env))) := by rfl) :
    SE X (.Call (.Attribute o nm apos) [] [] pos) (mMethN cn nm m mo aNil) := PE.imp (pe_meth0 ho cc hm F hr hb .nil pass0 ht) fun σ H Q h => by
  have := rd_methN (n := 1) hC (fun ρ y h => by cases h; rfl) σ H Q h
  obtain ⟨cs, G, r, ρ', e1, rs, hm, k⟩ := this
  refine ⟨cs, G, r, ρ', e1, rs, hm, fun cs' v B G' H' f1 f2 fb rs' st' => ?_⟩
  obtain ⟨a', dx, fs, q1, q2, q3, q4⟩ := k cs' v B G' H' f1 f2 fb rs' st'
  refine ⟨a', dx, fs, q1, q2, q3, ?_⟩
  obtain ⟨cs1, G1, r1, ρ1, g1, g2, g3, g4⟩ := q4
  cases g3
  exact g4 cs1 [] [] G1 H' g1 rfl trivial rfl rfl g2 Stp.refl
theorem rd_propN (hC : X.mg cn = some (.ref C)) : ∀ σ H Q, tM X.K X.mg (mPropN cn m mo) σ H Q → tProp C (spM X.K X.mg 1 m) [] E0 (tM X.K X.mg mo) σ H Q := fun σ H Q h => by
  obtain ⟨cs, G, r, ρ', e1, rs, hm0, k⟩ := h
  obtain ⟨⟨r1, ρ1⟩, h1, hm1⟩ := Option.bind_eq_some_iff.mp hm0
  obtain ⟨s, h2, hm2⟩ := Option.bind_eq_some_iff.mp hm1
  obtain ⟨⟨c0, fs⟩, h3, hm3⟩ := Option.bind_eq_some_iff.mp hm2
  by_cases hc1 : c0 = cn
  · dsimp only at hm3
    rw [if_pos hc1] at hm3
    subst hc1
    obtain ⟨⟨ss, ρr⟩, h5, hm⟩ := Option.bind_eq_some_iff.mp hm3
    obtain ⟨⟨r3, outs⟩, h6, hm⟩ := Option.bind_eq_some_iff.mp hm
    have hr : (∀ j, r3 ≠ .bor j) ∧ r = r3 ∧ ρ' = putA [r1] outs ρr := by
      cases r3 with
      | bor j => cases hm
      | val d => cases hm; exact ⟨(fun j z => nomatch z), rfl, rfl⟩
      | own s => cases hm; exact ⟨(fun j z => nomatch z), rfl, rfl⟩
    obtain ⟨hr, q1, q2⟩ := hr
    subst q1; subst q2
    refine ⟨cs, G, r1, ρ1, e1, rs, h1, fun cs1 v B G1 H1 f1 f2 fb rs1 st1 => ?_⟩
    subst f2
    obtain ⟨A, ow⟩ := rsl_own rs1.tail rs1.h1 rfl rfl (by rw [f1]; exact fb) h2 (by rintro rfl; cases h3)
    obtain ⟨a', C', dx, fvs, q1, q2, q3, q4⟩ := hd_own rs1.tail.same ow h3
    rw [hC] at q3
    cases q3
    subst q1
    refine ⟨a', dx, fvs, rfl, q2, ?_⟩
    refine handed (ds := [⟨some (.ref a'), r1.sl, B⟩]) (rs := [r1]) (vs := [.ref a']) (by exact rs1) (by rw [f1]; exact ⟨fb, trivial⟩) rfl rfl rfl h5 h6 hr fun cs3 w B3 G3 H3 k1 k2 rs3 st3 => ?_
    exact k cs3 w B3 G3 H3 (k1.trans f1) k2 (fun j z => absurd z (hr j)) rs3 (st1.trans st3)
  · dsimp only at hm3
    rw [if_neg hc1] at hm3
    cases hm3
theorem se_propN {pa : Addr} (cc : Cls X.K C) (hp : PropOf X.K C f pa fa) (hC : X.mg cn = some (.ref C)) (F : FnOk X.prog X.w X.K X.mg X.base CX0 k fa fd ps (spM X.K X.mg 1 m)) (hr : Room (k + 1) X.A) (hb : Binds X.K fd ps []) (ho : SE X o mo)
    (hab : attributeBase o f X.env (eval o X.env) = eval o X.env := by rfl) : SE X (.Attribute o f pos) (mPropN cn m mo) := PE.imp (pe_prop ho cc hp F hr hb .nil pass0 hab) (rd_propN hC)
theorem b_lenON (hz : X.mg "len" = none) (hC : X.mg cn = some (.ref C)) (hs : PySem.W.findIn X.K (.ref C) "__len__" = some (some (.ref fa))) (hf : PySem.W.isFn X.K (.ref fa) = true) (F : FnOk X.prog X.w X.K X.mg X.base CX0 k fa fd ps (spM X.K X.mg 1 m)) (hr : Room (k + 1) X.A) (hb : Binds X.K fd ps [])
    (ho : SE X o mo) (hg : Gl X "len" := by rfl) (he : starEach [o] X.env = (false, eval o X.env) :: starEach [] X.env := by rfl) : SE X (.Call (.Name "len" p) [o] [] pos) (mLenON cn m mo) := PE.imp (pe_callB (call_lenO F hr hb hs hf) hg hz PySem.boot_len (sa_cons ho sa_nil he) (by decide) (by decide) he rfl) fun σ H Q h => by
  obtain ⟨cs, G, r, ρ', e1, rs, hm, k⟩ := h
  obtain ⟨⟨r1, ρ1⟩, h1, hm⟩ := Option.bind_eq_some_iff.mp hm
  dsimp only at hm
  split at hm
  · rename_i n
    split at hm
    · rename_i hn
      cases hm
      have tp := rd_propN hC σ H (fun v H' => ∃ n, v = .int n ∧ (0 ≤ n ∧ n < 2 ^ 63) ∧ Q (.int n) H') ⟨cs, G, .val (.int n), _, e1, rs, h1, fun cs' v B G' H' f1 f2 fb rs' st' => by
        obtain ⟨rp, hB⟩ := rs'.val
        have := rp.int_iff
        subst this
        exact ⟨n, rfl, hn, k cs' _ B G' H' f1 f2 fb rs' st'⟩⟩
      obtain ⟨cs1, G1, r2, ρ2, f1, rs1, g1, k1⟩ := tp
      refine ⟨cs1, G1, [r2], ρ2, f1, rs1, by show (mo _).bind _ = _; rw [g1]; rfl, fun cs2 ds vs G2 H2 j1 j2 jb j3 j4 rs2 st2 => ?_⟩
      cases vs with
      | nil => exact jb.elim
      | cons v vs =>
        cases vs with
        | cons _ _ => exact jb.2.elim
        | nil =>
          cases ds with
          | nil => simp [slots] at j4
          | cons d ds =>
            cases ds with
            | cons _ _ => simp [slots] at j4
            | nil =>
              obtain ⟨dv, dsl, dB⟩ := d
              have e3 : dv = some v := by simpa [vals] using j3
              have e4 : dsl = r2.sl := by simpa [slots] using j4
              subst e3; subst e4
              obtain ⟨a, dx, fs, q1, q2, q3⟩ := k1 cs2 v dB G2 H2 j1 j2 jb.1 rs2 st2
              subst q1
              exact ⟨a, dx, fs, rfl, q2, q3⟩
    · cases hm
  · cases hm
theorem se_fldN (hC : ClsF X.K X.mg cl f) (ha : SE X a ma) (hb : attributeBase a f X.env (eval a X.env) = eval a X.env := by rfl) : SE X (.Attribute a f pos) (mFldN cl f ma) := PE.imp (pe_fld ha hb) fun σ H Q h => by
  obtain ⟨cs, G, r, ρ', e1, rs, hm, k⟩ := h
  obtain ⟨⟨r1, ρ1⟩, h1, hm⟩ := Option.bind_eq_some_iff.mp hm
  obtain ⟨s, h2, hm⟩ := Option.bind_eq_some_iff.mp hm
  obtain ⟨⟨c0, d⟩, h3, hm⟩ := Option.bind_eq_some_iff.mp hm
  split at hm
  · rename_i hc
    cases hm
    refine ⟨cs, G, r1, _, e1, rs, h1, fun cs1 v B G1 H1 f1 f2 fb rs1 st1 => ?_⟩
    subst f2
    obtain ⟨A, ow⟩ := rsl_own rs1.tail rs1.h1 rfl rfl (by rw [f1]; exact fb) h2 (by rintro rfl; cases h3)
    obtain ⟨a', C, dx, fvs, v', q1, q2, q3, q5, q6⟩ := fldq_own rs1.tail.same ow h3
    obtain ⟨C', g1, g2, g3⟩ := hC c0 hc
    rw [q3] at g1
    cases g1
    refine ⟨a', C, dx, fvs, v', q1, q2, g2, g3, q5, ?_⟩
    exact k cs1 _ [] G1 H1 f1 rfl (fun j z => nomatch z) (rs1.tail.addFz q6) (st1.weak fun b hb => by
      rw [own_cons] at hb ⊢
      exact List.mem_append_right _ (by simpa using hb))
  · cases hm
theorem se_fldIx (hC : ClsF X.K X.mg cl f) (ha : SE X a ma) (hk : SE X b mk) (hs : PlainIx b := by exact fun _ _ => rfl) (hb : attributeBase a f X.env (eval a X.env) = eval a X.env := by rfl) : SE X (.Subscript (.Attribute a f p2) b pos) (mFldIx cl f ma mk) := PE.imp (pe_ix ix_list (pe_fld ha hb) hk hs) fun σ H Q h => by
  obtain ⟨cs, G, r, ρ', e1, rs, hm, k⟩ := h
  obtain ⟨⟨r1, ρ1⟩, h1, hm⟩ := Option.bind_eq_some_iff.mp hm
  obtain ⟨s, h2, hm⟩ := Option.bind_eq_some_iff.mp hm
  obtain ⟨⟨c0, xs⟩, h3, hm⟩ := Option.bind_eq_some_iff.mp hm
  dsimp only at hm
  split at hm
  · rename_i hc
    obtain ⟨⟨rk, ρk⟩, h4, hm⟩ := Option.bind_eq_some_iff.mp hm
    dsimp only at hm
    split at hm
    · rename_i i
      obtain ⟨d, h5, hm⟩ := Option.map_eq_some_iff.mp hm
      cases hm
      refine ⟨cs, G, r1, _, e1, rs, h1, fun cs1 v B G1 H1 f1 f2 fb rs1 st1 => ?_⟩
      subst f2
      obtain ⟨A, ow⟩ := rsl_own rs1.tail rs1.h1 rfl rfl (by rw [f1]; exact fb) h2 (by rintro rfl; cases h3)
      obtain ⟨a', C, dx, fvs, b', ws, q1, q2, q3, q5, q6, q7⟩ := fll_own rs1.tail.same ow h3
      obtain ⟨C', g1, g2, g3⟩ := hC c0 hc
      rw [q3] at g1
      cases g1
      refine ⟨a', C, dx, fvs, .ref b', q1, q2, g2, g3, q5, ?_⟩
      subst f1
      refine tM_lookS (u := .int i) rs1.tail h4 rfl fun G2 H2 keep rs2 st2 => ?_
      obtain ⟨y, y1, y2⟩ := q7.at h5
      refine ⟨b', ws, i, y, rfl, rfl, .inl (rd_keep keep q6), y1, ?_⟩
      exact Kn.fz k rfl rfl rs2 (st1.back1.trans st2) (y2.mono st2.gs)
    · cases hm
  · cases hm
theorem se_fldSl {lo hi : Option Expr} {ml mh : MP} {p3 : Pos} (hC : ClsF X.K X.mg cl f) (ha : SE X a ma) (hl : SPo X lo ml) (hh : SPo X hi mh) (hb : attributeBase a f X.env (eval a X.env) = eval a X.env := by rfl) : SE X (.Subscript (.Attribute a f p3) (.Slice lo hi none p2) pos) (mFldSl cl f ma ml mh) := PE.imp (pe_slice sl_list (pe_fld ha hb) hl hh) fun σ H Q h => by
  obtain ⟨cs, G, r, ρ', e1, rs, hm, k⟩ := h
  obtain ⟨⟨r1, ρ1⟩, h1, hm⟩ := Option.bind_eq_some_iff.mp hm
  obtain ⟨s, h2, hm⟩ := Option.bind_eq_some_iff.mp hm
  obtain ⟨⟨c0, xs⟩, h3, hm⟩ := Option.bind_eq_some_iff.mp hm
  dsimp only at hm
  split at hm
  · rename_i hc
    obtain ⟨⟨o1, ρ2⟩, h4, hm⟩ := Option.bind_eq_some_iff.mp hm
    obtain ⟨⟨o2, ρ3⟩, h5, hm⟩ := Option.bind_eq_some_iff.mp hm
    cases hm
    refine ⟨cs, G, r1, _, e1, rs, h1, fun cs1 v B G1 H1 f1 f2 fb rs1 st1 => ?_⟩
    subst f2
    obtain ⟨A, ow⟩ := rsl_own rs1.tail rs1.h1 rfl rfl (by rw [f1]; exact fb) h2 (by rintro rfl; cases h3)
    obtain ⟨a', C, dx, fvs, b', ws, q1, q2, q3, q5, q6, q7⟩ := fll_own rs1.tail.same ow h3
    obtain ⟨C', g1, g2, g3⟩ := hC c0 hc
    rw [q3] at g1
    cases g1
    refine ⟨a', C, dx, fvs, .ref b', q1, q2, g2, g3, q5, ?_⟩
    subst f1
    refine tP_look rs1.tail h4 fun G2 H2 keep rs2 st2 => ?_
    refine tP_look rs2 h5 fun G3 H3 keep3 rs3 st3 => ?_
    refine ⟨b', ws, rfl, .inl (rd_keep keep3 (rd_keep keep q6)), fun p hp => ?_⟩
    exact Kn.newL k rfl rfl rs3 (st1.back1.trans (st2.trans st3)) (((q7.mono st2.gs).mono st3.gs).cut _ _) hp
  · cases hm
/-- a field stored: owned, or frozen -/
theorem ss_setFldO (i : Nat) (hC : ClsF X.K X.mg cl f) {np tp : Pos} (he : SE X e ma)
    (hN : X.N[i]? = some x := by rfl) (hv : Vis X.env.scope x := by first | exact Or.inl rfl | exact Or.inr (Or.inl rfl) | exact Or.inr (Or.inr rfl)) (hd : (x == ("__debug__" : Str)) = false := by decide) (hcd : (x == ("__classdict__" : Str)) = false := by decide)
    (hs : swapsWith e (some (.Attribute (.Name x np) f tp)) pos.line X.env = pure false := by rfl) :
    SS X P (.Assign [.Attribute (.Name x np) f tp] e pos) (sSetFldO cl i f ma) := PS.imp (ps_fld (pe_var hN hv hd hcd) he hs) fun D σ H h => by
  obtain ⟨cs, G, kk, ρ', e1, rs, hm, q⟩ := h
  obtain ⟨⟨r1, ρ1⟩, h1, hm⟩ := Option.bind_eq_some_iff.mp hm
  have main : ∀ c0 fs, (∀ j, r1 ≠ .bor j) → ρ1[i]? = some (.ob c0 fs) → c0 ∈ cl → fs.length < 1000 → r1.sl.isS = true → kk = .nx → ρ' = ρ1.set i (.ob c0 (putS f r1.sl fs)) → tM X.K X.mg ma σ H fun y H1 => tVar i σ H1 fun x' H2 => ∃ a C dx fs, x' = .ref a ∧ H2 a = some (.ins C dx fs) ∧ Cls X.K C ∧ NoAttr X.K C f ∧ fs.length < 1000 ∧ D.nx σ (upd H2 a (.ins C dx (putF f y fs))) := by
    intro c0 fs hr ex hc hlen hns ek er
    subst ek; subst er; subst e1
    refine ⟨cs, G, r1, ρ1, rfl, rs, h1, fun cs1 v B G1 H1 f1 f2 fb rs1 st1 => ?_⟩
    subst f2
    obtain ⟨⟨o, s', A⟩, e5, e6⟩ := cell_at ex
    have e6 : s' = .ob c0 fs := e6
    subst e6
    have cl1 := rs1.tail.ok _ (List.mem_of_getElem? e5)
    rcases cl1 with ⟨z, _⟩ | ⟨w, hw, o'⟩
    · cases z
    have hw : o = some w := hw
    subst hw
    have o' : Own X.K X.mg G1 H1 (.ob c0 fs) w A := o'
    have hnd : (B ++ A).Nodup := by
      have n := rs1.nd
      rw [own_cons] at n
      obtain ⟨l1, l2, e7, hl⟩ := split_at e5
      rw [e7] at n
      have hsub : (B ++ A).Sublist (B ++ own (l1 ++ ⟨some w, .ob c0 fs, A⟩ :: l2)) := by
        refine List.Sublist.append_left ?_ B
        rw [own_append, own_cons]
        exact (List.sublist_append_left A _).trans (List.sublist_append_right _ _)
      exact hsub.nodup n
    cases o' with
    | ob hmg h2 h3 =>
      rename_i a' C dx fvs As
      obtain ⟨C', g1, g2, g3⟩ := hC c0 hc
      rw [hmg] at g1
      cases g1
      have ln : fvs.length < 1000 := by
        have := congrArg List.length (ownF_names h3)
        simp at this; omega
      refine ⟨.ref a', by rw [← f1, List.getElem?_map, e5]; rfl, a', C, dx, fvs, rfl, h2, g2, g3, ln, ?_⟩
      have nd2 : (B ++ As).Nodup ∧ a' ∉ B ∧ a' ∉ As := by
        obtain ⟨n1, n2, n3⟩ := List.nodup_append.mp hnd
        have n4 := List.nodup_cons.mp n2
        refine ⟨List.nodup_append.mpr ⟨n1, n4.2, fun x hx y hy => n3 x hx y (List.mem_cons_of_mem _ hy)⟩, fun z => n3 a' z a' List.mem_cons_self rfl, n4.1⟩
      have hv1 : Own X.K X.mg G1 H1 r1.sl v B := by
        rcases rs1.h1 with ⟨z1, z2⟩ | ⟨u, hu, o⟩
        · have z1 : r1.sl = .no := z1
          rw [z1] at hns
          cases hns
        · have hu : some v = some u := hu
          cases hu
          exact o
      have hv2 : Own X.K X.mg G1 (upd H1 a' (.ins C dx (putF f v fvs))) r1.sl v B := hv1.frame (fun _ _ z => z) fun b hb o e _ => by
        rw [upd_ne (by rintro rfl; exact nd2.2.1 hb)]; exact e
      obtain ⟨As', k1, k2, k3⟩ := ownF_set (f := f) hv2 h3 (fun b hb => upd_ne (by rintro rfl; exact nd2.2.2 hb)) nd2.1
      have wr := Res.rewrite (H' := upd H1 a' (.ins C dx (putF f v fvs))) (c' := ⟨some (.ref a'), .ob c0 (putS f r1.sl fs), a' :: As'⟩) rs1 e5 (fun b hb => upd_ne (by rintro rfl; exact hb List.mem_cons_self)) (.inr ⟨_, rfl, .ob hmg upd_same k1⟩)
        (List.nodup_cons.mpr ⟨fun z => by rcases k3 _ z with z | z; exact nd2.2.2 z; exact nd2.2.1 z, k2⟩)
        (fun b hb => by
          rcases List.mem_cons.mp hb with z | z
          · subst z; exact .inl List.mem_cons_self
          · exact (k3 b z).imp (List.mem_cons_of_mem _) id)
        (fun b hb => by
          by_cases z : b = a'
          · subst z; rw [upd_same]; simp
          · rw [upd_ne z]
            exact rs1.tail.there b (mem_own.mpr ⟨_, List.mem_of_getElem? e5, hb⟩))
      have ev : vals (cs1.set i ⟨some (.ref a'), .ob c0 (putS f r1.sl fs), a' :: As'⟩) = vals cs := by rw [set_vals (c' := ⟨some (.ref a'), .ob c0 (putS f r1.sl fs), a' :: As'⟩) e5 rfl, f1]
      have z := KS.nx q slots_set (len_of ev) (fun _ _ => by rw [ev]) wr.1 (st1.trans wr.2)
      rw [ev] at z
      exact z
  cases r1 with
  | bor j => cases hm
  | val d =>
    dsimp only at hm
    split at hm
    · rename_i c0 fs ex
      split at hm
      · rename_i hc
        cases hm
        exact main c0 fs (fun j z => nomatch z) ex hc.1 hc.2.1 hc.2.2 rfl rfl
      · cases hm
    · cases hm
  | own s =>
    dsimp only at hm
    split at hm
    · rename_i c0 fs ex
      split at hm
      · rename_i hc
        cases hm
        exact main c0 fs (fun j z => nomatch z) ex hc.1 hc.2.1 hc.2.2 rfl rfl
      · cases hm
    · cases hm
end
end
end FW

/-! a list in a field changed by its methods; running -/
namespace FW
noncomputable section
open PySem L2
section
variable {X : Cx} {e : Expr} {es : List Expr} {ms : MA} {cpos apos p2 : Pos} {cl : List Str} {f : Str} {K : PySem.W.Frag} {mg : Str → Option Value}
theorem rd_fldMut {i : Nat} {F : List D → List D → Option (D × List D)} {R : V → List V → Hp → VK → Prop} (hC : ClsF X.K X.mg cl f) (hr : MutOk X.K X.mg F R) : ∀ σ H Q, tM X.K X.mg (mFldMut F cl i f ms) σ H Q → tBM X.K "list" R (tFld X.K (tVar i) f) (tMA X.K X.mg ms) σ H Q := fun σ H Q h => by
  obtain ⟨cs, G, r, ρ', e1, rs, hm, k⟩ := h
  unfold mFldMut at hm
  split at hm
  · rename_i c0 fs ex
    split at hm
    · rename_i xs el
      split at hm
      · rename_i hc
        obtain ⟨⟨r2, ρ2⟩, h2, hm⟩ := Option.bind_eq_some_iff.mp hm
        obtain ⟨⟨zs, ρ3⟩, h3, hm⟩ := Option.bind_eq_some_iff.mp hm
        obtain ⟨⟨z, xs'⟩, h4, hm⟩ := Option.map_eq_some_iff.mp hm
        cases hm
        subst e1
        obtain ⟨⟨o, s', A⟩, e5, e6⟩ := cell_at ex
        have e6 : s' = .ob c0 fs := e6
        subst e6
        rcases rs.ok _ (List.mem_of_getElem? e5) with ⟨z, _⟩ | ⟨w, hw, o'⟩
        · cases z
        have hw : o = some w := hw
        subst hw
        have o' : Own X.K X.mg G H (.ob c0 fs) w A := o'
        obtain ⟨hid, hmem⟩ := rs.hide e5
        cases o' with
        | ob hmg q2 q3 =>
          rename_i a' C dx fvs As
          obtain ⟨C', g1, g2, g3⟩ := hC c0 hc
          rw [hmg] at g1
          cases g1
          obtain ⟨v', A1, q4, q5, q6⟩ := ownF_at q3 el
          cases q5 with
          | ow q7 q8 =>
            rename_i b' ws
            refine ⟨.ref a', by rw [List.getElem?_map, e5]; rfl, a', C, dx, fvs, .ref b', rfl, q2, g2, g3, q4, .inl ⟨rfl, ws, SqL.of q7⟩, ?_⟩
            refine ⟨cs.set i ⟨some (.ref a'), .no, []⟩, G, r2, ρ2, by rw [set_vals (c' := ⟨some (.ref a'), .no, []⟩) e5 rfl], hid.tail, by rw [slots_set]; exact h2, fun cs2 ds vs G2 H2 j1 j2 jb j3 j4 rs2 st2 => ?_⟩
            subst j2
            obtain ⟨cs3, G3, k1, k2, rp, rs3, st3⟩ := frzA_ok rs2 (by rw [j1]; exact jb) j3 j4 h3
            subst k2
            have st23 := st2.trans st3
            have rA := Res.frame (ds := [_]) hid st23 rs3
            have sA := Stp.under (ds := [_]) hid st23
            have nA : ∀ b ∈ (a' :: As), b ∉ own (cs.set i ⟨some (.ref a'), .no, []⟩) := fun b hb hb2 => by
              have n := hid.nd
              rw [own_cons] at n
              exact (List.nodup_append.mp n).2.2 b hb b hb2 rfl
            have kp : ∀ b ∈ (a' :: As), ∀ o, H b = some o → (∀ ps, o ≠ .tbl ps) → H2 b = some o := fun b hb o e n => st23.keep b o (nA b hb) e n
            have p3 : H2 b' = some (.lst ws) := kp b' (List.mem_cons_of_mem _ (q6 b' (by simp))) _ q7 (by intro _ z; cases z)
            have p2' : H2 a' = some (.ins C dx fvs) := kp a' List.mem_cons_self _ q2 (by intro _ z; cases z)
            have gb : G3 b' = none := rA.fr b' (by rw [List.singleton_append, own_cons]; exact List.mem_append_left _ (List.mem_cons_of_mem _ (q6 b' (by simp))))
            have hn := hid.nd
            rw [own_cons] at hn
            have hn1 := (List.nodup_append.mp hn).1
            have nab : b' ≠ a' := fun z => by
              have := (List.nodup_cons.mp hn1).1
              rw [← z] at this
              exact this (q6 b' (by simp))
            refine hr xs zs xs' z G3 H2 b' ws vs Q h4 p3 rs3.same gb (q8.mono st23.gs) rp fun u ws' hu hw => ?_
            have q3' : OwnF X.K X.mg G3 H2 fs fvs As := q3.frame st23.gs fun b hb o e n => kp b (List.mem_cons_of_mem _ hb) o e n
            have o2 : OwnF X.K X.mg G3 (upd H2 b' (.lst ws')) (putS f (.ow xs') fs) fvs As := ownF_upd hw q3' el q4 (List.nodup_cons.mp hn1).2
            have rA' : Res X.K X.mg G3 H2 ((⟨some (.ref a'), .ob c0 fs, a' :: As⟩ : Cl) :: cs3) := rA
            have rP := Res.put rA' i
            have i_lt : i < cs3.length := by
              have h1 := len_of (k1.trans j1)
              rw [h1]
              exact (List.getElem?_eq_some_iff.mp e5).1
            have e7 : (cs3.set i ⟨some (.ref a'), .ob c0 fs, a' :: As⟩)[i]? = some ⟨some (.ref a'), .ob c0 fs, a' :: As⟩ := by rw [List.getElem?_set_self i_lt]
            have wr := Res.write (H' := upd H2 b' (.lst ws')) (c' := ⟨some (.ref a'), .ob c0 (putS f (.ow xs') fs), a' :: As⟩) rP e7 (fun b hb => upd_ne (by
                rintro rfl
                exact hb (List.mem_cons_of_mem _ (q6 b (by simp))))) (.inr ⟨_, rfl, .ob hmg (by rw [upd_ne nab.symm]; exact p2') o2⟩) rfl (fun b hb => by
              by_cases z : b = b'
              · subst z; rw [upd_same]; simp
              · rw [upd_ne z]
                exact rP.there b (mem_own.mpr ⟨_, List.mem_of_getElem? e7, hb⟩))
            have sP : Stp (own cs) G H (own (cs3.set i ⟨some (.ref a'), .ob c0 fs, a' :: As⟩)) G3 H2 := (sA.weak (own_put i)).more fun b hb => (hmem b).mp hb
            rw [List.set_set] at wr
            exact Kn.fz k (by
              rw [vals_set]
              have : vals cs3 = vals cs := by rw [k1, j1]
              rw [this]
              refine List.ext_getElem? fun n => ?_
              rw [List.getElem?_set]
              split
              · rename_i hn; subst hn
                rw [List.getElem?_map, e5]
                split
                · rfl
                · rename_i hl
                  exact absurd (by simpa using (List.getElem?_eq_some_iff.mp e5).1) hl
              · rfl) (by rw [slots_set]) wr.1 (sP.trans wr.2) hu
      · cases hm
    · cases hm
  · cases hm
theorem se_fldMut {x : Str} {np : Pos} {nm : Str} {id : String} {R : V → List V → Hp → VK → Prop} {F : List D → List D → Option (D × List D)} (i : Nat) (slot : Slot "list" nm id) (hty : typeOf (.builtin id) = pure (.type "method_descriptor")) (hmt : MtR X id R) (hr : MutOk X.K X.mg F R) (hC : ClsF X.K X.mg cl f) (ha : SA X (e :: es) ms)
    (hN : X.N[i]? = some x := by rfl) (hv : Vis X.env.scope x := by first | exact Or.inl rfl | exact Or.inr (Or.inl rfl) | exact Or.inr (Or.inr rfl)) (hd : (x == ("__debug__" : Str)) = false := by decide) (hcd : (x == ("__classdict__" : Str)) = false := by decide)
    (hab : attributeBase (.Name x np) f X.env (eval (.Name x np) X.env) = eval (.Name x np) X.env := by rfl)
    (hbase : attributeBase (.Attribute (.Name x np) f p2) nm X.env (eval (.Attribute (.Name x np) f p2) X.env) = eval (.Attribute (.Name x np) f p2) X.env := by rfl)
    (hfew : ((backTo cpos (starEach (e :: es) X.env)).all (fun x => !x.1) && (backToKw cpos (keywordEach [] X.env)).all (fun x => x.1.isSome)
      && decide ((e :: es).length + ([] : List Keyword).length + (if ([] : List Keyword).isEmpty then 0 else 1) < 30)) = true := by rfl)
    (hline : (apos.endLine == cpos.line) = true := by rfl) (hs : starEach (e :: es) X.env = (false, eval e X.env) :: starEach es X.env := by rfl) (hplain : (backTo cpos (starEach es X.env)).any (·.1) = false := by rfl) :
    SE X (.Call (.Attribute (.Attribute (.Name x np) f p2) nm apos) (e :: es) [] cpos) (mFldMut F cl i f ms) :=
  PE.imp (pe_bm PySem.F.plainAttrs_list slot hty hmt (pe_fld (pe_var hN hv hd hcd) hab) ha hbase hfew hline hs hplain) (rd_fldMut hC hr)
end
section
variable {ρ : List Sl} {a b : M} {ms : MA} {lo hi : MP}
@[simp] theorem r_hd_obj (c : Str) (fs : List (Str × D)) : Sl.hd (.fz (.obj c fs)) = some (c, fs.map (·.1)) := rfl
@[simp] theorem r_hd_ob (c : Str) (fs : List (Str × Sl)) : Sl.hd (.ob c fs) = some (c, fs.map (·.1)) := rfl
@[simp] theorem r_fldq_obj (f c : Str) (fs : List (Str × D)) : Sl.fldq f (.fz (.obj c fs)) = (fs.lookup f).map fun d => (c, d) := rfl
@[simp] theorem r_fldq_ob (f c : Str) (fs : List (Str × Sl)) : Sl.fldq f (.ob c fs) = match fs.lookup f with
    | some (.fz d) => some (c, d)
    | _ => none := rfl
@[simp] theorem r_fll_obj (f c : Str) (fs : List (Str × D)) : Sl.fll f (.fz (.obj c fs)) = match fs.lookup f with
    | some (.lst xs) => some (c, xs)
    | _ => none := rfl
@[simp] theorem r_fll_ob (f c : Str) (fs : List (Str × Sl)) : Sl.fll f (.ob c fs) = match fs.lookup f with
    | some (.ow xs) => some (c, xs)
    | _ => none := rfl
@[simp] theorem r_makeO (c : Str) (m : MF) : mMakeO c m ms ρ = (ms ρ).bind fun y => (takeA y.2 y.1).bind fun z => (m (.ob c [] :: z.1)).bind fun w => match w.1, w.2 with
  | .val .non, .ob c' fs :: outs => some (.own (.ob c' fs), putA y.1 outs z.2)
  | _, _ => none := rfl
@[simp] theorem r_methN (c nm : Str) (m : MF) : mMethN c nm m a ms ρ = (a ρ).bind fun x => (rsl x.2 x.1).bind fun s => s.hd.bind fun p => ifc (p.1 = c ∧ nm ∉ p.2) ((ms x.2).bind fun y => (takeA y.2 (x.1 :: y.1)).bind fun z => (m z.1).bind fun w => match w.1 with
  | .bor _ => none
  | r => some (r, putA (x.1 :: y.1) w.2 z.2)) none := rfl
@[simp] theorem r_propN (c : Str) (m : MF) : mPropN c m a ρ = (a ρ).bind fun x => (rsl x.2 x.1).bind fun s => s.hd.bind fun p => ifc (p.1 = c) ((takeA x.2 [x.1]).bind fun z => (m z.1).bind fun w => match w.1 with
  | .bor _ => none
  | r => some (r, putA [x.1] w.2 z.2)) none := rfl
@[simp] theorem r_lenON (c : Str) (m : MF) : mLenON c m a ρ = (mPropN c m a ρ).bind fun x => match x.1 with
  | .val (.int n) => ifc (0 ≤ n ∧ n < 2 ^ 63) (some (.val (.int n), x.2)) none
  | _ => none := rfl
@[simp] theorem r_fldN (cl : List Str) (f : Str) : mFldN cl f a ρ = (a ρ).bind fun x => (rsl x.2 x.1).bind fun s => (s.fldq f).bind fun p => ifc (p.1 ∈ cl) (some (.val p.2, x.2)) none := rfl
@[simp] theorem r_fldIx (cl : List Str) (f : Str) : mFldIx cl f a b ρ = (a ρ).bind fun x => (rsl x.2 x.1).bind fun s => (s.fll f).bind fun p => ifc (p.1 ∈ cl) ((b (pk x.2)).bind fun y => match y.1 with
  | .val (.int k) => (atI p.2 k).map fun d => (.val d, x.2)
  | _ => none) none := rfl
@[simp] theorem r_fldSl (cl : List Str) (f : Str) : mFldSl cl f a lo hi ρ = (a ρ).bind fun x => (rsl x.2 x.1).bind fun s => (s.fll f).bind fun p => ifc (p.1 ∈ cl) ((lo (pk x.2)).bind fun y => (hi (pk x.2)).bind fun z => some (.own (.ow (cutA p.2 y.1 z.1)), x.2)) none := rfl
@[simp] theorem r_setFldO (cl : List Str) (i : Nat) (f : Str) : sSetFldO cl i f a ρ = (a ρ).bind fun x => match x.1 with
  | .bor _ => none
  | r => match x.2[i]? with
    | some (.ob c fs) => ifc (c ∈ cl ∧ fs.length < 1000 ∧ r.sl.isS = true) (some (.nx, x.2.set i (.ob c (putS f r.sl fs)))) none
    | _ => none := rfl
@[simp] theorem r_fldMut (F : List D → List D → Option (D × List D)) (cl : List Str) (i : Nat) (f : Str) : mFldMut F cl i f ms ρ = match ρ[i]? with
  | some (.ob c fs) => match fs.lookup f with
    | some (.ow xs) => ifc (c ∈ cl) ((ms (ρ.set i .no)).bind fun y => (frzA y.2 y.1).bind fun z => (F xs z.1).map fun w => (.val w.1, z.2.set i (.ob c (putS f (.ow w.2) fs)))) none
    | _ => none
  | _ => none := rfl
end
end
end FW

/-! methods by keywords, by defaults; methods that may raise -/
namespace FW
noncomputable section
open PySem L2
/-- o.m(..) with what is raised wished for at the caller's slots -/
def tMS (C : Addr) (m : Str) (sp : Sp) (E : L2.St → XK) (ta : TE) (t : TA) : TE := fun σ H Q => ta σ H fun x H1 => ∃ a dx fs, x = .ref a ∧ H1 a = some (.ins C dx fs) ∧ fs.lookup m = none ∧ t σ H1 fun vs H2 => sp (x :: vs) H2 Q (E σ)
section
variable {X : Cx} {CX : CXT} {k : Nat} {f C : Addr} {fd : FuncData} {ps ks : List Str} {sp : Sp} {E : L2.St → XK} {m : Str} {pos apos : Pos} {e o : Expr} {es : List Expr} {kws : List Keyword} {ta : TE} {t : TA} {dvs : List V} {ds : List Value}
theorem pass0S (σ : L2.St) : PassesAt CX0 X σ E0 := fun _ _ _ _ _ _ h => h.elim
theorem pe_mS {pl : Sem Bool} (he : PE X o ta) (c : Cls X.K C) (hm : Meth X.K C m f) (F : FnOk X.prog X.w X.K X.mg X.base CX k f fd ps sp) (hr : Room k X.A) (hb : Binds X.K fd ps []) (hx : ∀ σ, PassesAt CX X σ (E σ)) (ha : PA X (e :: es) t)
    (hst : starEach (e :: es) X.env = (false, eval e X.env) :: starEach es X.env := by rfl) (hpl : (backTo pos (starEach es X.env)).any (·.1) = false := by rfl)
    (ht : eval (.Call (.Attribute o m apos) (e :: es) [] pos) X.env = (do
      let ov ← eval o X.env
      standAt apos.atName
      let (f, first) ← holding [ov] (getMethod ov m pl)
      callWith pos f first (backTo pos (starEach (e :: es) X.env)) (backToKw pos (keywordEach [] X.env))) := by rfl) :
    PE X (.Call (.Attribute o m apos) (e :: es) [] pos) (tMS C m sp E ta t) := by
  refine ⟨fun pn s0 ρ W0 K0 inv wish => ?_⟩
  refine PySem.W.methodCall_KW (pl := pl) (thn (he.run pn s0 ρ W0 _ inv wish) fun w s1 ⟨recv, W1, inv1, rrec, ad, dct, flds, erec, ead, lk, wish1⟩ => ?_) ht
  subst erec
  have ew : w = Value.ref ad := rrec
  subst ew
  refine getmeth_ok inv1 ead c hm lk ?_
  refine PySem.W.callWith_K (first := [.ref ad]) (h₀ := X.base) inv.ok.mod.kin hm.kp (thn (ha.run pos pn s1 ρ W1 _ inv1 wish1) fun argv s2 ⟨avs, W2, inv2, rel, wish2⟩ => ⟨inv2.kIn, ?_⟩) hst hpl
  exact run_fnS (us := .ref ad :: argv) (vs := .ref ad :: avs) F hr hb (hx ρ) inv2 (.cons rfl rel) wish2
/-- o.m() where the rest is a def's keyword-only defaults -/
theorem pe_mSD {pl : Sem Bool} (he : PE X o ta) (c : Cls X.K C) (hm : Meth X.K C m f) (F : FnOk X.prog X.w X.K X.mg X.base CX k f fd ps sp) (hr : Room k X.A) (hb : ∃ ds, Vals dvs ds ∧ Binds X.K fd ps ds) (hx : ∀ σ, PassesAt CX X σ (E σ))
    (ht : eval (.Call (.Attribute o m apos) [] [] pos) X.env = (do
      let ov ← eval o X.env
      standAt apos.atName
      let (f, first) ← holding [ov] (getMethod ov m pl)
      callWith pos f first (backTo pos (starEach [] X.env)) (backToKw pos (keywordEach [] X.env))) := by rfl) :
    PE X (.Call (.Attribute o m apos) [] [] pos) (tMS C m sp E ta (fun _ H Q => Q dvs H)) := by
  obtain ⟨ds, hd, hb⟩ := hb
  refine ⟨fun pn s0 ρ W0 K0 inv wish => ?_⟩
  refine PySem.W.methodCall_KW (pl := pl) (thn (he.run pn s0 ρ W0 _ inv wish) fun w s1 ⟨recv, W1, inv1, rrec, ad, dct, flds, erec, ead, lk, wish1⟩ => ?_) ht
  subst erec
  have ew : w = Value.ref ad := rrec
  subst ew
  refine getmeth_ok inv1 ead c hm lk ?_
  exact PySem.W.callWith_K0 (first := [.ref ad]) inv1.kIn hm.kp (run_fnSD (us := [.ref ad]) (vs := [.ref ad]) F hr hb hd (hx ρ) inv1 (.cons rfl .nil) wish1)
/-- o.m(k = v, ..) -/
theorem pe_mSK {pl : Sem Bool} (he : PE X o ta) (c : Cls X.K C) (hm : Meth X.K C m f) (F : FnOk X.prog X.w X.K X.mg X.base CX k f fd ps sp) (hr : Room k X.A) (hb : KBn X.K fd ps 1 ks (fun us ws => us ++ ws) (fun vs zs => vs ++ zs)) (hx : ∀ σ, PassesAt CX X σ (E σ)) (hkw : PK X kws t)
    (hlen : ∀ σ H Q, t σ H Q → t σ H fun vs H1 => vs.length = ks.length ∧ Q vs H1)
    (hall : (backToKw pos (keywordEach kws X.env)).all (·.1.isSome) = true := by rfl) (hks : (backToKw pos (keywordEach kws X.env)).filterMap (·.1) = ks := by rfl)
    (hpl : ((backTo pos (starEach [] X.env)).any (·.1) || (backToKw pos (keywordEach kws X.env)).any (·.1.isNone)) = false := by rfl)
    (ht : eval (.Call (.Attribute o m apos) [] kws pos) X.env = (do
      let ov ← eval o X.env
      standAt apos.atName
      let (f, first) ← holding [ov] (getMethod ov m pl)
      callWith pos f first (backTo pos (starEach [] X.env)) (backToKw pos (keywordEach kws X.env))) := by rfl) :
    PE X (.Call (.Attribute o m apos) [] kws pos) (tMS C m sp E ta t) := by
  refine ⟨fun pn s0 ρ W0 K0 inv wish => ?_⟩
  refine PySem.W.methodCall_KW (pl := pl) (thn (he.run pn s0 ρ W0 _ inv wish) fun w s1 ⟨recv, W1, inv1, rrec, ad, dct, flds, erec, ead, lk, wish1⟩ => ?_) ht
  subst erec
  have ew : w = Value.ref ad := rrec
  subst ew
  refine getmeth_ok inv1 ead c hm lk ?_
  refine PySem.W.callWith_KW0 (first := [.ref ad]) (h₀ := X.base) inv.ok.mod.kin hm.kp hall (thn (hkw.run pos pn s1 ρ W1 _ inv1 (hlen _ _ _ wish1)) fun kwv s2 ⟨kvs, W2, inv2, rel, len2, wish2⟩ => ⟨inv2.kIn, ?_⟩) hpl
  rw [hks]
  have rec1 : Vals [V.ref ad] [Value.ref ad] := .cons rfl .nil
  refine wpAny_call (codeAny_mono (F.run X.A X.stack s2 W2 ⟨[.ref ad], ks.zip kwv⟩ ([Value.ref ad] ++ kwv) ([V.ref ad] ++ kvs) K0 (E ρ) hr inv2.env0 (hb.to s2 [.ref ad] kwv inv2.kIn rfl (rel.length.symm.trans len2)) (hb.rel rec1 rel) wish2) fun out s3 hout => ?_)
  cases out with
  | error err => exact hx ρ pn W2 s2 err s3 inv2 hout
  | ok flow =>
    cases flow with
    | ret val => exact inv2.after hout
    | next => exact hout.elim
    | brk => exact hout.elim
    | cont => exact hout.elim
end
/-! the mirrors' readings -/
section
variable {X : Cx} {a b c e o tg call : Expr} {es : List Expr} {kws : List Keyword} {ma mb mc mo mk : M} {ms : MA} {pos p2 p cpos apos spos kpos : Pos} {P : Nat → Prop} {k n : Nat} {fa C : Addr} {fd : FuncData} {ps ks : List Str} {m : MF} {mX : MFX} {x : Str} {f cn nm : Str} {nmo : Option Str}
theorem sk_nil : PK X [] (tMA X.K X.mg aNil) := ⟨fun pos pins s σ H Q I h => pk_nil.run pos pins s σ H Q I (by
  obtain ⟨cs, G, r, ρ', e1, rs, hm, k⟩ := h
  cases hm
  exact k cs [] [] G H e1 rfl trivial rfl rfl rs Stp.refl)⟩
theorem sk_cons {ms : MA} (ha : SE X a ma) (hr : PK X kws (tMA X.K X.mg ms)) : PK X (⟨nmo, a, kpos⟩ :: kws) (tMA X.K X.mg (aCons ma ms)) := ⟨fun pos pins s σ H Q I h => (pk_cons ha hr).run pos pins s σ H Q I (by
  obtain ⟨cs, G, r, ρ', e1, rs, hm, k⟩ := h
  obtain ⟨⟨r1, ρ1⟩, h1, hm⟩ := Option.bind_eq_some_iff.mp hm
  obtain ⟨⟨rs2, ρ2⟩, h2, hm⟩ := Option.map_eq_some_iff.mp hm
  cases hm
  refine ⟨cs, G, r1, ρ1, e1, rs, h1, fun cs1 v B G1 H1 f1 f2 fb rs1 st1 => ?_⟩
  refine ⟨cs1, G1, rs2, ρ2, f1, rs1.tail, by rw [f2]; exact h2, fun cs2 ds vs G2 H2 g1 g2 gb g3 g4 rs2 st2 => ?_⟩
  refine k cs2 (⟨some v, r1.sl, B⟩ :: ds) (v :: vs) G2 H2 g1 g2 ⟨fb, gb⟩ ?_ ?_ (Res.frame (ds := [_]) rs1 st2 rs2) (st1.trans (Stp.under (ds := [_]) rs1 st2))
  · show some v :: vals ds = _; rw [g3]; rfl
  · show r1.sl :: slots ds = _; rw [g4]; rfl)⟩
theorem tMA_len {j : Nat} (hl : ∀ ρ y, ms ρ = some y → y.1.length = j) : ∀ σ H Q, tMA X.K X.mg ms σ H Q → tMA X.K X.mg ms σ H fun vs H1 => vs.length = j ∧ Q vs H1 := fun σ H Q h => by
  obtain ⟨cs, G, r, ρ', e1, rs, hm, k⟩ := h
  exact ⟨cs, G, r, ρ', e1, rs, hm, fun cs' ds vs G' H' g1 g2 gb g3 g4 rs' st' => ⟨by rw [bors_len gb]; exact hl _ _ hm, k cs' ds vs G' H' g1 g2 gb g3 g4 rs' st'⟩⟩
/-- a written default -/
theorem tMA_int {i : Int} : ∀ σ H Q, tMA X.K X.mg (aCons (mC (.int i)) aNil) σ H Q → Q [.int i] H := fun σ H Q h => by
  obtain ⟨cs, G, r, ρ', e1, rs, hm, k⟩ := h
  have hm : some (([Rv.val (.int i)] : List Rv), slots cs) = some (r, ρ') := hm
  cases hm
  exact k cs [⟨some (.int i), .fz (.int i), []⟩] [.int i] G H e1 rfl ⟨fun j z => (nomatch z), trivial⟩ rfl rfl (rs.addFz (.int i)) (Stp.refl.weak fun b hb => by simpa [own_cons] using hb)
/-- a plain method by its call's reading -/
theorem se_mN (h : PE X call (tMS C nm (spM X.K X.mg n m) (fun _ => E0) (tM X.K X.mg mo) (tMA X.K X.mg ms))) (hC : X.mg cn = some (.ref C)) (hl : ∀ ρ y, ms ρ = some y → y.1.length + 1 = n) : SE X call (mMethN cn nm m mo ms) := PE.imp h fun σ H Q q => by
  have q2 := rd_methN hC hl σ H Q q
  obtain ⟨cs, G, r, ρ', e1, rs, hm, k⟩ := q2
  refine ⟨cs, G, r, ρ', e1, rs, hm, fun cs' v B G' H' f1 f2 fb rs' st' => ?_⟩
  obtain ⟨a', dx, fs, q1, q2, q3, q4⟩ := k cs' v B G' H' f1 f2 fb rs' st'
  refine ⟨a', dx, fs, q1, q2, q3, ?_⟩
  obtain ⟨cs1, G1, r1, ρ1, g1, g2, g3, g4⟩ := q4
  refine ⟨cs1, G1, r1, ρ1, g1, g2, g3, fun cs2 ds vs G2 H2 j1 j2 jb j3 j4 rs2 st2 => ?_⟩
  have := g4 cs2 ds vs G2 H2 j1 j2 jb j3 j4 rs2 st2
  dsimp only at this
  rw [List.append_nil] at this
  exact this
/-- o.m(..) that may raise -/
def sMX (fin : Rv → MS) (c nm : Str) (m : MFX) (o : M) (ms : MA) : MS := fun ρ => (o ρ).bind fun x => (rsl x.2 x.1).bind fun s => s.hd.bind fun p => @ite _ (p.1 = c ∧ nm ∉ p.2) (Classical.propDecidable _) ((ms x.2).bind fun y => (takeA y.2 (x.1 :: y.1)).bind fun z => (m z.1).bind fun w => match w.1 with
  | .inl (.bor _) => none
  | .inl r => fin r (putA (x.1 :: y.1) w.2 z.2)
  | .inr c' => some (.ex c', putA (x.1 :: y.1) w.2 z.2)) none
def fNx : Rv → MS := fun _ ρ => some (.nx, ρ)
theorem rd_sMX {fin : Rv → MS} {D : Ends} {σ : L2.St} {H : Hp} {Q : VK} (hC : X.mg cn = some (.ref C)) (hl : ∀ ρ y, ms ρ = some y → y.1.length + 1 = n) (h : tS X.K X.mg (Wx X) P (sMX fin cn nm mX mo ms) D σ H)
    (hfin : ∀ (r : Rv) (cs' : List Cl) (v : V) (B : List Addr) (G' H' : Hp) (κ : Ctl) (ρ' : List Sl), fin r (slots cs') = some (κ, ρ') → (∀ j, r ≠ .bor j) → vals cs' = σ → Res X.K X.mg G' H' (⟨some v, r.sl, B⟩ :: cs') →
      (∀ cs2 v2 B2 G2 H2, slots cs2 = ρ' → cs2.length = cs'.length → (∀ i, P i → (vals cs2)[i]? = σ[i]?) → Res X.K X.mg G2 H2 (⟨some v2, κ.rv.sl, B2⟩ :: cs2) → Stp (own (⟨some v, r.sl, B⟩ :: cs')) G' H' (own (⟨some v2, κ.rv.sl, B2⟩ :: cs2)) G2 H2 → endOf X.mg (Wx X) D κ v2 (vals cs2) H2) → Q v H') :
    tMS C nm (spMX X.K X.mg n mX) (WE (Wx X)) (tM X.K X.mg mo) (tMA X.K X.mg ms) σ H Q := by
  obtain ⟨cs, G, κ, ρ', e1, rs, hm0, q⟩ := h
  obtain ⟨⟨r1, ρ1⟩, h1, hm1⟩ := Option.bind_eq_some_iff.mp hm0
  obtain ⟨s, h2, hm2⟩ := Option.bind_eq_some_iff.mp hm1
  obtain ⟨⟨c0, fs⟩, h3, hm3⟩ := Option.bind_eq_some_iff.mp hm2
  by_cases hc : c0 = cn ∧ nm ∉ fs
  · dsimp only at hm3
    rw [if_pos hc] at hm3
    obtain ⟨hc1, hc2⟩ := hc
    subst hc1
    obtain ⟨⟨r2, ρ2⟩, h4, hm⟩ := Option.bind_eq_some_iff.mp hm3
    obtain ⟨⟨ss, ρr⟩, h5, hm⟩ := Option.bind_eq_some_iff.mp hm
    obtain ⟨⟨w, outs⟩, h6, hm⟩ := Option.bind_eq_some_iff.mp hm
    subst e1
    refine ⟨cs, G, r1, ρ1, rfl, rs, h1, fun cs1 v B G1 H1 f1 f2 fb rs1 st1 => ?_⟩
    subst f2
    obtain ⟨A, ow⟩ := rsl_own rs1.tail rs1.h1 rfl rfl (by rw [f1]; exact fb) h2 (by rintro rfl; cases h3)
    obtain ⟨a', C', dx, fvs, q1, q2, q3, q4⟩ := hd_own rs1.tail.same ow h3
    rw [hC] at q3
    cases q3
    refine ⟨a', dx, fvs, q1, q2, look_none (by rw [q4]; exact hc2), cs1, G1, r2, ρ2, f1, rs1.tail, h4, fun cs2 es vs G2 H2 g1 g2 gb g3 g4 rs2 st2 => ?_⟩
    subst g2
    have rA := Res.frame (ds := [_]) rs1 st2 rs2
    have sA := st1.trans (Stp.under (ds := [_]) rs1 st2)
    refine handedX (ds := ⟨some v, r1.sl, B⟩ :: es) (rs := r1 :: r2) (vs := v :: vs) (by exact rA) (by rw [g1]; exact ⟨fb, gb⟩) (by show some v :: vals es = _; rw [g3]; rfl) (by show r1.sl :: slots es = _; rw [g4]; rfl) (by simp [bors_len gb]; exact hl _ _ h4) h5 h6 ?_
    cases w with
    | inl r =>
      have hr : (∀ j, r ≠ .bor j) ∧ fin r (putA (r1 :: r2) outs ρr) = some (κ, ρ') := by
        cases r with
        | bor j => cases hm
        | val d => exact ⟨(fun j z => nomatch z), hm⟩
        | own s => exact ⟨(fun j z => nomatch z), hm⟩
      obtain ⟨hr, hf⟩ := hr
      refine ⟨hr, fun cs' v' B' G' H' j1 j2 rs' st' => hfin r cs' v' B' G' H' κ ρ' (by rw [j2]; exact hf) hr (j1.trans g1) rs' fun cs2 v2 B2 G2 H2 k1 k2 k3 k4 k5 => ?_⟩
      exact q cs2 v2 B2 G2 H2 k1 (k2.trans (len_of (j1.trans g1))) k3 k4 (sA.trans (st'.trans k5))
    | inr c' =>
      cases hm
      intro cs' G' H' j1 j2 rs' st' C'' hC''
      have := KS.ex q j2 (len_of (j1.trans g1)) (fun i _ => by rw [j1, g1]) rs' (sA.trans st') hC''
      rw [j1, g1] at this
      exact this
  · dsimp only at hm3
    rw [if_neg hc] at hm3
    cases hm3
theorem ss_exprMX (h : PE X call (tMS C nm (spMX X.K X.mg n mX) (WE (Wx X)) (tM X.K X.mg mo) (tMA X.K X.mg ms))) (hC : X.mg cn = some (.ref C)) (hl : ∀ ρ y, ms ρ = some y → y.1.length + 1 = n)
    (hs : swapsWith call none spos.line X.env = pure false := by rfl) : SS X P (.Expr call spos) (sMX fNx cn nm mX mo ms) := PS.imp (ps_expr h hs) fun D σ H h => rd_sMX hC hl h fun r cs' v B G' H' κ ρ' e1 hr e2 rs q => by
  cases e1
  show D.nx σ H'
  rw [← e2]
  exact q cs' .non [] G' H' rfl rfl (fun _ _ => by rw [e2]) (rs.tail.addFz .non) (Stp.refl.weak fun b hb => by
    rw [own_cons] at hb ⊢
    exact List.mem_append_right _ (by simpa [Rv.sl, Ctl.rv] using hb))
theorem ss_setMX {i : Nat} {y : Str} {py : Pos} (hN : X.N.Nodup) (hi : X.N[i]? = some y) (hx : Loc X.env.scope y) (hP : ¬ P i) (h : PE X call (tMS C nm (spMX X.K X.mg n mX) (WE (Wx X)) (tM X.K X.mg mo) (tMA X.K X.mg ms))) (hC : X.mg cn = some (.ref C)) (hl : ∀ ρ y, ms ρ = some y → y.1.length + 1 = n)
    (hs : swapsWith call (some (.Name y py)) spos.line X.env = pure false := by rfl) (hf : X.fn y = true ∨ X.env.scope.names.lookup y = some .local := by first | exact .inl rfl | exact .inr rfl | assumption) : SS X P (.Assign [.Name y py] call spos) (sMX (fSet i) cn nm mX mo ms) :=
  PS.imp (ps_set hN hi hx h hs hf) fun D σ H h => rd_sMX hC hl h fun r cs' v B G' H' κ ρ' e1 hr e2 rs q => by
    obtain ⟨ρ2, h2, hm⟩ := Option.map_eq_some_iff.mp e1
    cases hm
    obtain ⟨cs2, G2, g1, g2, rs2, st2⟩ := setR_ok (i := i) rs (fun j z => absurd z (hr j)) h2
    show D.nx (σ.set i (some v)) H'
    rw [← e2, ← g1]
    refine q cs2 .non [] G2 H' g2 ?_ (fun j hj => ?_) (rs2.addFz .non) (st2.weak fun b hb => by simpa [own_cons, Rv.sl, Ctl.rv] using hb)
    · have := congrArg List.length g1
      simpa only [List.length_map, List.length_set] using this
    · rw [g1, e2, List.getElem?_set_ne]
      rintro rfl
      exact hP hj
theorem ss_retMX (h : PE X call (tMS C nm (spMX X.K X.mg n mX) (WE (Wx X)) (tM X.K X.mg mo) (tMA X.K X.mg ms))) (hC : X.mg cn = some (.ref C)) (hl : ∀ ρ y, ms ρ = some y → y.1.length + 1 = n) : SS X P (.Return (some call) spos) (sMX fRet cn nm mX mo ms) :=
  PS.imp (ps_ret h) fun D σ H h => rd_sMX hC hl h fun r cs' v B G' H' κ ρ' e1 hr e2 rs q => by
    cases e1
    exact q cs' v B G' H' rfl rfl (fun _ _ => by rw [e2]) rs Stp.refl
/-- the three forms of a call -/
theorem pm_args {CX : CXT} {sp : Sp} {E : L2.St → XK} {pl : Sem Bool} (cc : Cls X.K C) (hm : Meth X.K C nm fa) (F : FnOk X.prog X.w X.K X.mg X.base CX k fa fd ps sp) (hr : Room k X.A) (hb : Binds X.K fd ps []) (hx : ∀ σ, PassesAt CX X σ (E σ)) (ho : SE X o mo) (ha : SA X (e :: es) ms)
    (hst : starEach (e :: es) X.env = (false, eval e X.env) :: starEach es X.env := by rfl) (hpl : (backTo pos (starEach es X.env)).any (·.1) = false := by rfl)
    (ht : eval (.Call (.Attribute o nm apos) (e :: es) [] pos) X.env = (do
      let ov ← eval o X.env
      standAt apos.atName
      let (f, first) ← holding [ov] (getMethod ov nm pl)
      callWith pos f first (backTo pos (starEach (e :: es) X.env)) (backToKw pos (keywordEach [] X.env))) := by rfl) :
    PE X (.Call (.Attribute o nm apos) (e :: es) [] pos) (tMS C nm sp E (tM X.K X.mg mo) (tMA X.K X.mg ms)) := pe_mS ho cc hm F hr hb hx ha hst hpl ht
theorem pm_none {CX : CXT} {sp : Sp} {E : L2.St → XK} {pl : Sem Bool} (cc : Cls X.K C) (hm : Meth X.K C nm fa) (F : FnOk X.prog X.w X.K X.mg X.base CX k fa fd ps sp) (hr : Room k X.A) (hb : Binds X.K fd ps []) (hx : ∀ σ, PassesAt CX X σ (E σ)) (ho : SE X o mo)
    (ht : eval (.Call (.Attribute o nm apos) [] [] pos) X.env = (do
      let ov ← eval o X.env
      standAt apos.atName
      let (f, first) ← holding [ov] (getMethod ov nm pl)
      callWith pos f first (backTo pos (starEach [] X.env)) (backToKw pos (keywordEach [] X.env))) := by rfl) :
    PE X (.Call (.Attribute o nm apos) [] [] pos) (tMS C nm sp E (tM X.K X.mg mo) (tMA X.K X.mg aNil)) := PE.imp (pe_mSD (dvs := []) ho cc hm F hr ⟨[], .nil, hb⟩ hx ht) fun σ H Q h => by
  obtain ⟨cs, G, r, ρ', e1, rs, hm, k⟩ := h
  refine ⟨cs, G, r, ρ', e1, rs, hm, fun cs' v B G' H' f1 f2 fb rs' st' => ?_⟩
  obtain ⟨a', dx, fs, q1, q2, q3, q4⟩ := k cs' v B G' H' f1 f2 fb rs' st'
  refine ⟨a', dx, fs, q1, q2, q3, ?_⟩
  obtain ⟨cs1, G1, r1, ρ1, g1, g2, g3, g4⟩ := q4
  cases g3
  exact g4 cs1 [] [] G1 H' g1 rfl trivial rfl rfl g2 Stp.refl
theorem pm_dflt {CX : CXT} {sp : Sp} {E : L2.St → XK} {pl : Sem Bool} {i : Int} (cc : Cls X.K C) (hm : Meth X.K C nm fa) (F : FnOk X.prog X.w X.K X.mg X.base CX k fa fd ps sp) (hr : Room k X.A) (hb : ∃ ds, Vals [.int i] ds ∧ Binds X.K fd ps ds) (hx : ∀ σ, PassesAt CX X σ (E σ)) (ho : SE X o mo)
    (ht : eval (.Call (.Attribute o nm apos) [] [] pos) X.env = (do
      let ov ← eval o X.env
      standAt apos.atName
      let (f, first) ← holding [ov] (getMethod ov nm pl)
      callWith pos f first (backTo pos (starEach [] X.env)) (backToKw pos (keywordEach [] X.env))) := by rfl) :
    PE X (.Call (.Attribute o nm apos) [] [] pos) (tMS C nm sp E (tM X.K X.mg mo) (tMA X.K X.mg (aCons (mC (.int i)) aNil))) := PE.imp (pe_mSD ho cc hm F hr hb hx ht) fun σ H Q h => by
  obtain ⟨cs, G, r, ρ', e1, rs, hm, k⟩ := h
  refine ⟨cs, G, r, ρ', e1, rs, hm, fun cs' v B G' H' f1 f2 fb rs' st' => ?_⟩
  obtain ⟨a', dx, fs, q1, q2, q3, q4⟩ := k cs' v B G' H' f1 f2 fb rs' st'
  exact ⟨a', dx, fs, q1, q2, q3, tMA_int _ _ _ q4⟩
theorem pm_kw {CX : CXT} {sp : Sp} {E : L2.St → XK} {pl : Sem Bool} (cc : Cls X.K C) (hm : Meth X.K C nm fa) (F : FnOk X.prog X.w X.K X.mg X.base CX k fa fd ps sp) (hr : Room k X.A) (hb : KBn X.K fd ps 1 ks (fun us ws => us ++ ws) (fun vs zs => vs ++ zs)) (hx : ∀ σ, PassesAt CX X σ (E σ)) (ho : SE X o mo) (hkw : PK X kws (tMA X.K X.mg ms)) (hl : ∀ ρ y, ms ρ = some y → y.1.length = ks.length)
    (hall : (backToKw pos (keywordEach kws X.env)).all (·.1.isSome) = true := by rfl) (hks : (backToKw pos (keywordEach kws X.env)).filterMap (·.1) = ks := by rfl)
    (hpl : ((backTo pos (starEach [] X.env)).any (·.1) || (backToKw pos (keywordEach kws X.env)).any (·.1.isNone)) = false := by rfl)
    (ht : eval (.Call (.Attribute o nm apos) [] kws pos) X.env = (do
      let ov ← eval o X.env
      standAt apos.atName
      let (f, first) ← holding [ov] (getMethod ov nm pl)
      callWith pos f first (backTo pos (starEach [] X.env)) (backToKw pos (keywordEach kws X.env))) := by rfl) :
    PE X (.Call (.Attribute o nm apos) [] kws pos) (tMS C nm sp E (tM X.K X.mg mo) (tMA X.K X.mg ms)) := pe_mSK ho cc hm F hr hb hx hkw (tMA_len hl) hall hks hpl ht
end
section
variable {ρ : List Sl} {a : M} {ms : MA}
@[simp] theorem r_sMX (fin : Rv → MS) (c nm : Str) (m : MFX) : sMX fin c nm m a ms ρ = (a ρ).bind fun x => (rsl x.2 x.1).bind fun s => s.hd.bind fun p => ifc (p.1 = c ∧ nm ∉ p.2) ((ms x.2).bind fun y => (takeA y.2 (x.1 :: y.1)).bind fun z => (m z.1).bind fun w => match w.1 with
  | .inl (.bor _) => none
  | .inl r => fin r (putA (x.1 :: y.1) w.2 z.2)
  | .inr c' => some (.ex c', putA (x.1 :: y.1) w.2 z.2)) none := rfl
@[simp] theorem r_fNx (r : Rv) : fNx r ρ = some (.nx, ρ) := rfl
end
end
end FW

/-! texts: methods, f-strings, int of a text, a text walked, a module's constants -/
namespace FW
noncomputable section
open PySem L2
section
variable {K : PySem.W.Frag} {mg : Str → Option Value}
/-- a text's method of one argument -/
def mTm (f : List Sl → Str → Rv → Option Rv) (o e : M) : M := fun ρ => (o ρ).bind fun x => match dat x.2 x.1 with
  | some (.str a) => (e x.2).bind fun y => (f y.2 a y.1).map fun z => (z, y.2)
  | _ => none
def TmOk (K : PySem.W.Frag) (mg : Str → Option Value) (f : List Sl → Str → Rv → Option Rv) (R : V → List V → Hp → VK → Prop) : Prop :=
  ∀ (cs : List Cl) (c2 : Cl) (a : Str) (r2 z : Rv) (G H : Hp) (w : V) (Q : VK), Res K mg G H cs → ClR K mg G H c2 → c2.v = some w → c2.s = r2.sl → Bor (vals cs) r2 w → f (slots cs) a r2 = some z → Fin K mg G H z Q → R (.str a) [w] H Q
theorem rd_tm {mo me : M} {f : List Sl → Str → Rv → Option Rv} {R : V → List V → Hp → VK → Prop} (hr : TmOk K mg f R) : ∀ σ H Q, tM K mg (mTm f mo me) σ H Q → tM1 R (tM K mg mo) (tM K mg me) σ H Q := fun σ H Q h => by
  obtain ⟨cs, G, r, ρ', e1, rs, hm, k⟩ := h
  obtain ⟨⟨r1, ρ1⟩, h1, hm⟩ := Option.bind_eq_some_iff.mp hm
  dsimp only at hm
  split at hm
  · rename_i a ea
    obtain ⟨⟨r2, ρ2⟩, h2, hm⟩ := Option.bind_eq_some_iff.mp hm
    obtain ⟨z, hz, hm⟩ := Option.map_eq_some_iff.mp hm
    cases hm
    refine ⟨cs, G, r1, ρ1, e1, rs, h1, fun cs1 v B1 G1 H1 f1 f2 fb rs1 st1 => ?_⟩
    subst f2
    have hv := (dat_rep rs1.tail rs1.h1 rfl rfl (by rw [f1]; exact fb) ea).str_iff
    subst hv
    refine ⟨⟨a, rfl⟩, cs1, G1, r2, ρ2, f1, rs1.tail, h2, fun cs2 w B2 G2 H2 g1 g2 gb rs2 st2 => ?_⟩
    subst g2
    have rA := Res.frame (ds := [_]) rs1 st2 rs2
    have sA := st1.trans (Stp.under (ds := [_]) rs1 st2)
    exact hr cs2 _ a r2 _ G2 H2 w Q rs2.tail rs2.h1 rfl rfl (by rw [g1]; exact gb) hz (Fin.of k g1 rfl rs2.tail (sA.weak fun b hb => by
      show b ∈ own (_ :: _ :: cs2)
      rw [own_cons, own_cons]; exact List.mem_append_right _ (List.mem_append_right _ hb)))
  · cases hm
def joinF (ρ : List Sl) (a : Str) (y : Rv) : Option Rv := (sqv ρ y).bind fun xs => (strs? xs).bind fun ys => @ite _ ((ys.map (·.length)).sum + ys.length * a.length ≤ 16777216) (Classical.propDecidable _) (some (.val (.str (Txt.join a ys)))) none
theorem tm_join {K : PySem.W.Frag} : TmOk K mg joinF (fun x xs H Q => ∃ a p, ∃ ys : List Str, x = .str a ∧ xs = [.ref p] ∧ (SqL K H p (ys.map V.str) ∨ SqT K H p (ys.map V.str)) ∧ (ys.map (·.length)).sum + ys.length * a.length ≤ 16777216 ∧ Q (.str (Txt.join a ys)) H) := fun cs c2 a r2 z G H w Q rs o2 v2 s2 b2 hz q => by
  obtain ⟨xs, e1, hz⟩ := Option.bind_eq_some_iff.mp hz
  obtain ⟨ys, e2, hz⟩ := Option.bind_eq_some_iff.mp hz
  split at hz
  · rename_i hl
    cases hz
    obtain ⟨p, vs, h1, h2, h3⟩ := sqv_rep rs o2 v2 s2 b2 e1
    rw [strs?_eq e2] at h3
    have := h3.strs
    subst this
    exact ⟨a, p, ys, rfl, by rw [h1], h2, hl, q.v _ _ rfl (.str _)⟩
  · cases hz
def splitF (ρ : List Sl) (a : Str) (y : Rv) : Option Rv := match dat ρ y with
  | some (.str b) => @ite _ ((b.length == 0) = false ∧ a.length + 2 ≤ sizeLine) (Classical.propDecidable _) (some (.own (.ow ((Txt.split a b).map .str)))) none
  | _ => none
theorem tm_split {K : PySem.W.Frag} : TmOk K mg splitF (fun x xs H Q => ∃ a b, x = .str a ∧ xs = [.str b] ∧ (b.length == 0) = false ∧ a.length + 2 ≤ sizeLine ∧ rNewStrs (Txt.split a b) H Q) := fun cs c2 a r2 z G H w Q rs o2 v2 s2 b2 hz q => by
  unfold splitF at hz
  split at hz
  · rename_i b e1
    split at hz
    · rename_i hl
      cases hz
      have := (dat_rep rs o2 v2 s2 b2 e1).str_iff
      subst this
      exact ⟨a, b, rfl, rfl, hl.1, hl.2, fun p hp => q.l _ p _ rfl hp (Reps.of_strs _)⟩
    · cases hz
  · cases hz
def partF (ρ : List Sl) (a : Str) (y : Rv) : Option Rv := match dat ρ y with
  | some (.str b) => @ite _ ((b.length == 0) = false ∧ a.length ≤ sizeLine) (Classical.propDecidable _) (some (.val (.tup [.str (Txt.partition a b).1, .str (Txt.partition a b).2.1, .str (Txt.partition a b).2.2]))) none
  | _ => none
theorem tm_part {K : PySem.W.Frag} : TmOk K mg partF (fun x xs H Q => ∃ a b, x = .str a ∧ xs = [.str b] ∧ (b.length == 0) = false ∧ a.length ≤ sizeLine ∧ ∀ p, H p = none → Q (.ref p) (upd H p (.tup [.str (Txt.partition a b).1, .str (Txt.partition a b).2.1, .str (Txt.partition a b).2.2]))) := fun cs c2 a r2 z G H w Q rs o2 v2 s2 b2 hz q => by
  unfold partF at hz
  split at hz
  · rename_i b e1
    split at hz
    · rename_i hl
      cases hz
      have := (dat_rep rs o2 v2 s2 b2 e1).str_iff
      subst this
      exact ⟨a, b, rfl, rfl, hl.1, hl.2, fun p hp => q.t _ p _ rfl hp (.cons (.str _) (.cons (.str _) (.cons (.str _) .nil)))⟩
    · cases hz
  · cases hz
def findF (ρ : List Sl) (a : Str) (y : Rv) : Option Rv := match dat ρ y with
  | some (.str b) => some (.val (.int (Txt.find a b)))
  | _ => none
theorem tm_find {K : PySem.W.Frag} : TmOk K mg findF (fun x xs H Q => ∃ a b, x = .str a ∧ xs = [.str b] ∧ Q (.int (Txt.find a b)) H) := fun cs c2 a r2 z G H w Q rs o2 v2 s2 b2 hz q => by
  unfold findF at hz
  split at hz
  · rename_i b e1
    cases hz
    have := (dat_rep rs o2 v2 s2 b2 e1).str_iff
    subst this
    exact ⟨a, b, rfl, rfl, q.v _ _ rfl (.int _)⟩
  · cases hz
def countF (ρ : List Sl) (a : Str) (y : Rv) : Option Rv := match dat ρ y with
  | some (.str b) => some (.val (.int (Txt.count a b)))
  | _ => none
theorem tm_count {K : PySem.W.Frag} : TmOk K mg countF (fun x xs H Q => ∃ a b, x = .str a ∧ xs = [.str b] ∧ Q (.int (Txt.count a b)) H) := fun cs c2 a r2 z G H w Q rs o2 v2 s2 b2 hz q => by
  unfold countF at hz
  split at hz
  · rename_i b e1
    cases hz
    have := (dat_rep rs o2 v2 s2 b2 e1).str_iff
    subst this
    exact ⟨a, b, rfl, rfl, q.v _ _ rfl (.int _)⟩
  · cases hz
end
section
variable {X : Cx} {a b e o : Expr} {ma mb me mo : M} {ms : MA} {pos p apos : Pos} {js : List Nat} {tg : Expr} {x : Str}
theorem se_join (ho : SE X o mo) (he : SE X e me) (hs : starEach [e] X.env = [(false, eval e X.env)] := by rfl) (hbase : attributeBase o "join" X.env (eval o X.env) = eval o X.env := by rfl) (hline : (apos.endLine == pos.line) = true := by rfl) : SE X (.Call (.Attribute o "join" apos) [e] [] pos) (mTm joinF mo me) := PE.imp (pe_join ho he hs hbase hline) (rd_tm tm_join)
theorem se_split (ho : SE X o mo) (he : SE X e me) (hs : starEach [e] X.env = [(false, eval e X.env)] := by rfl) (hbase : attributeBase o "split" X.env (eval o X.env) = eval o X.env := by rfl) (hline : (apos.endLine == pos.line) = true := by rfl) : SE X (.Call (.Attribute o "split" apos) [e] [] pos) (mTm splitF mo me) := PE.imp (pe_split ho he hs hbase hline) (rd_tm tm_split)
theorem se_part (ho : SE X o mo) (he : SE X e me) (hs : starEach [e] X.env = [(false, eval e X.env)] := by rfl) (hbase : attributeBase o "partition" X.env (eval o X.env) = eval o X.env := by rfl) (hline : (apos.endLine == pos.line) = true := by rfl) : SE X (.Call (.Attribute o "partition" apos) [e] [] pos) (mTm partF mo me) := PE.imp (pe_partition ho he hs hbase hline) (rd_tm tm_part)
theorem se_findT (ho : SE X o mo) (he : SE X e me) (hs : starEach [e] X.env = [(false, eval e X.env)] := by rfl) (hbase : attributeBase o "find" X.env (eval o X.env) = eval o X.env := by rfl) (hline : (apos.endLine == pos.line) = true := by rfl) : SE X (.Call (.Attribute o "find" apos) [e] [] pos) (mTm findF mo me) := PE.imp (pe_m1 F.slot_str_find F.type_str_find mt_find ho he hs hbase hline) (rd_tm tm_find)
theorem se_countT (ho : SE X o mo) (he : SE X e me) (hs : starEach [e] X.env = [(false, eval e X.env)] := by rfl) (hbase : attributeBase o "count" X.env (eval o X.env) = eval o X.env := by rfl) (hline : (apos.endLine == pos.line) = true := by rfl) : SE X (.Call (.Attribute o "count" apos) [e] [] pos) (mTm countF mo me) := PE.imp (pe_m1 F.slot_str_count F.type_str_count mt_count ho he hs hbase hline) (rd_tm tm_count)
def mUpper (o : M) : M := fun ρ => (o ρ).bind fun x => match dat x.2 x.1 with
  | some (.str a) => @ite _ (a.length ≤ 5592405) (Classical.propDecidable _) (some (.val (.str (Txt.upper a)), x.2)) none
  | _ => none
theorem se_upper (ho : SE X o mo) (hbase : attributeBase o "upper" X.env (eval o X.env) = eval o X.env := by rfl) (hline : (apos.endLine == pos.line) = true := by rfl) : SE X (.Call (.Attribute o "upper" apos) [] [] pos) (mUpper mo) := PE.imp (pe_upper ho hbase hline) fun σ H Q h => by
  obtain ⟨cs, G, r, ρ', e1, rs, hm, k⟩ := h
  obtain ⟨⟨r1, ρ1⟩, h1, hm⟩ := Option.bind_eq_some_iff.mp hm
  dsimp only at hm
  split at hm
  · rename_i a ea
    split at hm
    · rename_i hl
      cases hm
      refine ⟨cs, G, r1, _, e1, rs, h1, fun cs1 v B1 G1 H1 f1 f2 fb rs1 st1 => ?_⟩
      subst f2
      have hv := (dat_rep rs1.tail rs1.h1 rfl rfl (by rw [f1]; exact fb) ea).str_iff
      subst hv
      exact ⟨⟨a, rfl⟩, a, rfl, rfl, hl, Kn.fz k f1 rfl rs1.tail st1.back1 (.str _)⟩
    · cases hm
  · cases hm
/-! f-strings -/
def mFmt (m : M) : M := fun ρ => (m ρ).bind fun x => match dat x.2 x.1 with
  | some (.str y) => @ite _ (y.length ≤ sizeLine) (Classical.propDecidable _) (some (.val (.str y), x.2)) none
  | some (.int i) => @ite _ (i.natAbs.log2 < 1920) (Classical.propDecidable _) (some (.val (.str (toString i)), x.2)) none
  | _ => none
theorem se_fmt (he : SE X e me) : SE X (.FormattedValue e (-1) none pos) (mFmt me) := PE.imp (pe_fmt he) fun σ H Q h => by
  obtain ⟨cs, G, r, ρ', e1, rs, hm, k⟩ := h
  obtain ⟨⟨r1, ρ1⟩, h1, hm⟩ := Option.bind_eq_some_iff.mp hm
  dsimp only at hm
  split at hm
  · rename_i y ea
    split at hm
    · rename_i hl
      cases hm
      refine ⟨cs, G, r1, _, e1, rs, h1, fun cs1 v B1 G1 H1 f1 f2 fb rs1 st1 => ?_⟩
      subst f2
      have hv := (dat_rep rs1.tail rs1.h1 rfl rfl (by rw [f1]; exact fb) ea).str_iff
      exact .inl ⟨y, hv, hl, Kn.fz k f1 rfl rs1.tail st1.back1 (.str _)⟩
    · cases hm
  · rename_i i ea
    split at hm
    · rename_i hl
      cases hm
      refine ⟨cs, G, r1, _, e1, rs, h1, fun cs1 v B1 G1 H1 f1 f2 fb rs1 st1 => ?_⟩
      subst f2
      have hv := (dat_rep rs1.tail rs1.h1 rfl rfl (by rw [f1]; exact fb) ea).int_iff
      exact .inr ⟨i, hv, hl, Kn.fz k f1 rfl rs1.tail st1.back1 (.str _)⟩
    · cases hm
  · cases hm
inductive SJ (X : Cx) : List Expr → List M → Prop where
  | nil : SJ X [] []
  | cons {e : Expr} {t : M} {es : List Expr} {ts : List M} (h : SE X e t) (r : SJ X es ts) : SJ X (e :: es) (t :: ts)
theorem SJ.pj {es : List Expr} {ms : List M} (h : SJ X es ms) : PJ X es (ms.map (tM X.K X.mg)) := by
  induction h with
  | nil => exact .nil
  | cons h r ih => exact .cons h ih
def fsR : List M → Str → List Sl → Option (Str × List Sl)
  | [], acc, ρ => some (acc, ρ)
  | m :: ms, acc, ρ => (m ρ).bind fun x => match x.1 with
    | .val (.str y) => @ite _ ((acc ++ y).length ≤ sizeLine) (Classical.propDecidable _) (fsR ms (acc ++ y) x.2) none
    | _ => none
def mFs (ms : List M) : M := fun ρ => (fsR ms Str.empty ρ).map fun y => (.val (.str y.1), y.2)
theorem rd_fs : ∀ (ms : List M) (acc : Str) (cs : List Cl) (G H : Hp) (σ : L2.St) (out : Str) (ρ' : List Sl) (Q : Str → Hp → Prop), vals cs = σ → Res X.K X.mg G H cs → fsR ms acc (slots cs) = some (out, ρ') →
    (∀ cs' G' H', vals cs' = σ → slots cs' = ρ' → Res X.K X.mg G' H' cs' → Stp (own cs) G H (own cs') G' H' → Q out H') → tJs (ms.map (tM X.K X.mg)) acc σ H Q
  | [], acc, cs, G, H, σ, out, ρ', Q, e1, rs, hm, k => by
    cases hm
    exact k cs G H e1 rfl rs Stp.refl
  | m :: ms, acc, cs, G, H, σ, out, ρ', Q, e1, rs, hm, k => by
    unfold fsR at hm
    obtain ⟨⟨r1, ρ1⟩, h1, hm⟩ := Option.bind_eq_some_iff.mp hm
    dsimp only at hm
    split at hm
    · rename_i y
      split at hm
      · rename_i hl
        refine ⟨cs, G, _, ρ1, e1, rs, h1, fun cs1 v B1 G1 H1 f1 f2 fb rs1 st1 => ?_⟩
        subst f2
        obtain ⟨rp, rfl⟩ := rs1.val
        refine ⟨y, rp.str_iff, hl, rd_fs ms (acc ++ y) cs1 G1 H1 σ out ρ' Q f1 rs1.tail hm fun cs' G' H' g1 g2 rs' st' => k cs' G' H' g1 g2 rs' (st1.back1.trans st')⟩
      · cases hm
    · cases hm
theorem se_fs {v1 v2 : Expr} {rest : List Expr} {ms : List M} (h : SJ X (v1 :: v2 :: rest) ms) : SE X (.JoinedStr (v1 :: v2 :: rest) pos) (mFs ms) := PE.imp (pe_joined h.pj) fun σ H Q q => by
  obtain ⟨cs, G, r, ρ', e1, rs, hm, k⟩ := q
  obtain ⟨⟨out, ρ1⟩, h1, hm⟩ := Option.map_eq_some_iff.mp hm
  cases hm
  exact rd_fs ms _ cs G H σ out _ _ e1 rs h1 fun cs' G' H' g1 g2 rs' st' => Kn.fz k g1 g2 rs' st' (.str _)
/-! int of a text -/
def intSD : D → Option D
  | .str a => (PySem.intText? a).bind fun n => @ite _ (a.length ≤ 640) (Classical.propDecidable _) (some (.int n)) none
  | _ => none
theorem cr_intS {K : PySem.W.Frag} {mg : Str → Option Value} : CrD K mg (b1 intSD) (fun xs H Q => ∃ a n, xs = [.str a] ∧ PySem.intText? a = some n ∧ a.length ≤ 640 ∧ Q (.int n) H) := cr_b1 fun x z H v Q e rx q => by
  unfold intSD at e; split at e
  · obtain ⟨n, e1, e2⟩ := Option.bind_eq_some_iff.mp e
    split at e2
    · cases e2; exact ⟨_, n, by rw [rx.str_iff], e1, by assumption, q _ rfl⟩
    · cases e2
  · cases e
theorem b_intS (hm : X.mg "int" = none) (ha : SA X [e] ms) (hg : Gl X "int" := by rfl) (he : starEach [e] X.env = (false, eval e X.env) :: starEach [] X.env := by rfl) : SE X (.Call (.Name "int" p) [e] [] pos) (mCallB (b1 intSD) ms) := se_callTy call_int_str cr_intS hg hm boot_int' ha (by decide) (by decide) he rfl
/-! a module's constants -/
theorem se_gstr {z : Str} (hg : Gl X x) (h : ∃ t, X.mg x = some (.str z t)) (hd : (x == ("__debug__" : Str)) = false := by decide) : SE X (.Name x pos) (mC (.str z)) := by
  obtain ⟨t, h⟩ := h
  exact PE.imp (pe_glob (v := .str z) hg h ⟨_, rfl⟩ hd) (rd_const rfl)
theorem se_gint {i : Int} (hg : Gl X x) (h : ∃ t, X.mg x = some (.int i t)) (hd : (x == ("__debug__" : Str)) = false := by decide) : SE X (.Name x pos) (mC (.int i)) := by
  obtain ⟨t, h⟩ := h
  exact PE.imp (pe_glob (v := .int i) hg h ⟨_, rfl⟩ hd) (rd_const rfl)
/-- a tuple of texts -/
def TupC (K : PySem.W.Frag) (mg : Str → Option Value) (x : Str) (ys : List Str) : Prop := ∃ a, mg x = some (.ref a) ∧ ∀ H, SqT K H a (ys.map V.str)
theorem se_gtup {ys : List Str} (hg : Gl X x) (h : TupC X.K X.mg x ys) (hd : (x == ("__debug__" : Str)) = false := by decide) : SE X (.Name x pos) (mC (.tup (ys.map .str))) := by
  obtain ⟨a, h1, h2⟩ := h
  refine PE.imp (pe_glob (v := .ref a) hg h1 rfl hd) fun σ H Q h => ?_
  obtain ⟨cs, G, r, ρ', e1, rs, hm, k⟩ := h
  cases hm
  exact Kn.fz k e1 rfl rs Stp.refl (.tup (h2 G) (Reps.of_strs ys))
end
section
variable {ρ : List Sl} {a b : M}
@[simp] theorem r_tm (f : List Sl → Str → Rv → Option Rv) : mTm f a b ρ = (a ρ).bind fun x => match dat x.2 x.1 with
  | some (.str s) => (b x.2).bind fun y => (f y.2 s y.1).map fun z => (z, y.2)
  | _ => none := rfl
@[simp] theorem r_joinF (s : Str) (y : Rv) : joinF ρ s y = (sqv ρ y).bind fun xs => (strs? xs).bind fun ys => ifc ((ys.map (·.length)).sum + ys.length * s.length ≤ 16777216) (some (.val (.str (Txt.join s ys)))) none := rfl
@[simp] theorem r_splitF (s : Str) (y : Rv) : splitF ρ s y = match dat ρ y with
  | some (.str b) => ifc ((b.length == 0) = false ∧ s.length + 2 ≤ sizeLine) (some (.own (.ow ((Txt.split s b).map .str)))) none
  | _ => none := rfl
@[simp] theorem r_partF (s : Str) (y : Rv) : partF ρ s y = match dat ρ y with
  | some (.str b) => ifc ((b.length == 0) = false ∧ s.length ≤ sizeLine) (some (.val (.tup [.str (Txt.partition s b).1, .str (Txt.partition s b).2.1, .str (Txt.partition s b).2.2]))) none
  | _ => none := rfl
@[simp] theorem r_findF (s : Str) (y : Rv) : findF ρ s y = match dat ρ y with
  | some (.str b) => some (.val (.int (Txt.find s b)))
  | _ => none := rfl
@[simp] theorem r_countF (s : Str) (y : Rv) : countF ρ s y = match dat ρ y with
  | some (.str b) => some (.val (.int (Txt.count s b)))
  | _ => none := rfl
@[simp] theorem r_upper : mUpper a ρ = (a ρ).bind fun x => match dat x.2 x.1 with
  | some (.str s) => ifc (s.length ≤ 5592405) (some (.val (.str (Txt.upper s)), x.2)) none
  | _ => none := rfl
@[simp] theorem r_fmt : mFmt a ρ = (a ρ).bind fun x => match dat x.2 x.1 with
  | some (.str y) => ifc (y.length ≤ sizeLine) (some (.val (.str y), x.2)) none
  | some (.int i) => ifc (i.natAbs.log2 < 1920) (some (.val (.str (toString i)), x.2)) none
  | _ => none := rfl
@[simp] theorem r_fs0 (acc : Str) : fsR [] acc ρ = some (acc, ρ) := rfl
@[simp] theorem r_fs1 (m : M) (ms : List M) (acc : Str) : fsR (m :: ms) acc ρ = (m ρ).bind fun x => match x.1 with
    | .val (.str y) => ifc ((acc ++ y).length ≤ sizeLine) (fsR ms (acc ++ y) x.2) none
    | _ => none := rfl
@[simp] theorem r_fs (ms : List M) : mFs ms ρ = (fsR ms Str.empty ρ).map fun y => (.val (.str y.1), y.2) := rfl
end
end
end FW

/-! a list of any kind, repeated -/
namespace FW
noncomputable section
open PySem L2
open PyProof.Rows in
theorem op_repR {X : Cx} : OpR X (binaryOp .Mult) (fun x y H Q => ∃ l k xs, x = .ref l ∧ y = .int k ∧ Rd H l (.lst xs) ∧ -(2 ^ 63) ≤ k ∧ k < 2 ^ 63 ∧ xs.length * k.toNat ≤ sizeLine ∧ ∀ p, H p = none → Q (.ref p) (upd H p (.lst (List.replicate k.toNat xs).flatten))) := by
  intro pn s0 ρ W a b va vb K0 inv ra rb wish
  obtain ⟨ad, n, vs, ea, eb, known, lo, hi, room, ok⟩ := wish
  subst ea
  subst eb
  cases ra
  obtain ⟨tk, et⟩ := rb
  subst et
  obtain ⟨small, items, cap, rel, there⟩ := known.ok inv.hok
  have len : vs.length = items.length := rel.length
  have fit1 : items.toArray.size * n.toNat ≤ sizeLine := by
    rw [List.size_toArray, ← len]
    exact room
  have fit2 : ¬ items.toArray.size * n.toNat > (2 ^ 63 - 1) / 8 := fun z => by
    have big : (sizeLine : Nat) ≤ (2 ^ 63 - 1) / 8 := by decide
    omega
  have fit3 : ¬ (!Builtin.List.listFitsIndex n) = true := by
    rw [fitsIndex_both lo hi]; decide
  have fit4 : ¬ Builtin.List.listTooLong (items.toArray.size * n.toNat) = true := by
    rw [notLongL fit1]; decide
  have all : List.foldl (fun u v => u ++ v) #[] (List.replicate (if items.toArray.isEmpty = true then 0 else n.toNat) items.toArray) = (List.replicate n.toNat items).flatten.toArray := by
    have go : ∀ j : Nat, List.foldl (fun u v => u ++ v) #[] (List.replicate j items.toArray) = (List.replicate j items).flatten.toArray := fun j => by
      simpa using foldl_rep items j []
    cases items with
    | nil => rw [go]; simp
    | cons i r => rw [go, if_neg (by simp)]
  have plain := AutoListH.list___mul___list_int_3 ad items.toArray cap n tk fit3 fit2 fit4
  have swapped := int___rmul___int_list n tk ad items.toArray cap
  refine wpAny_binaryOp_repeat_ref (T := "list") (U := "int") (by decide) ⟨_, there, rfl⟩ (fun z => typeIs_int z n tk) noFill_list_mul
    F.fills_int_mul F.slot_int_rmul repeat_list F.slot_int_index.lookup ?_
  refine call_meets F.slot_int_rmul (typeIs_int s0 n tk) F.entry_int_rmul (F.args_int_rmul_2 _ _) swapped ⟨there, rfl, ⟨_, there, rfl⟩, ?_⟩
  refine call_meets F.slot_list_mul ⟨_, there, rfl⟩ F.entry_list_mul (F.args_list_mul_2 _ _) plain ⟨there, ?_⟩
  rw [all]
  have room2 : (List.replicate n.toNat vs).flatten.length ≤ sizeLine := by
    rw [PyProof.Rows.lm_len_rep_flat, Nat.mul_comm]; exact room
  exact ⟨.ref _, _, inv.lnew (t' := s0.toks) (rel.rep n.toNat) room2, rfl, ok _ inv.fresh⟩
section
variable {X : Cx} {a b : Expr} {ma mb : M} {pos : Pos} {K : PySem.W.Frag} {mg : Str → Option Value}
def mulR (ρ : List Sl) (x y : Rv) : Option Rv := match dat ρ y with
  | some (.int k) => (lrv ρ x).bind fun xs => @ite _ (-(2 ^ 63) ≤ k ∧ k < 2 ^ 63 ∧ xs.length * k.toNat ≤ sizeLine) (Classical.propDecidable _) (some (.own (.ow (List.replicate k.toNat xs).flatten))) none
  | _ => none
theorem op2_mulR : Op2' K mg mulR (fun x y H Q => ∃ l k xs, x = .ref l ∧ y = .int k ∧ Rd H l (.lst xs) ∧ -(2 ^ 63) ≤ k ∧ k < 2 ^ 63 ∧ xs.length * k.toNat ≤ sizeLine ∧ ∀ p, H p = none → Q (.ref p) (upd H p (.lst (List.replicate k.toNat xs).flatten))) := fun cs c1 c2 r1 r2 z G H v w Q rs o1 v1 s1 b1 o2 v2 s2 b2 hz q => by
  unfold mulR at hz
  split at hz
  · rename_i k e2
    obtain ⟨xs, e1, hz⟩ := Option.bind_eq_some_iff.mp hz
    split at hz
    · rename_i hl
      cases hz
      obtain ⟨l, vs, f1, g1, k1⟩ := lrv_rep rs o1 v1 s1 b1 e1
      exact ⟨l, k, vs, f1, (dat_rep rs o2 v2 s2 b2 e2).int_iff, g1, hl.1, hl.2.1, by rw [k1.length]; exact hl.2.2, fun p hp => q.l _ p _ rfl hp (k1.flat _)⟩
    · cases hz
  · cases hz
theorem se_mulR (ha : SE X a ma) (hb : SE X b mb) : SE X (.BinOp a .Mult b pos) (mBin2 mulR ma mb) := se_bin2 op_repR op2_mulR ha hb
@[simp] theorem r_mulR {ρ : List Sl} (x y : Rv) : mulR ρ x y = match dat ρ y with
  | some (.int k) => (lrv ρ x).bind fun xs => ifc (-(2 ^ 63) ≤ k ∧ k < 2 ^ 63 ∧ xs.length * k.toNat ≤ sizeLine) (some (.own (.ow (List.replicate k.toNat xs).flatten))) none
  | _ => none := rfl
end
end
end FW

/-! x = y: what y owns passes to x, y is not looked at again -/
namespace FW
noncomputable section
open PySem L2
section
variable {X : Cx} {e : Expr}
def mMv (i : Nat) : M := fun ρ => match ρ[i]? with
  | some (.ow xs) => some (.own (.ow xs), ρ.set i .no)
  | _ => none
theorem rd_mv {K : PySem.W.Frag} {mg : Str → Option Value} (i : Nat) : ∀ σ H Q, tM K mg (mMv i) σ H Q → tM K mg (mVar i) σ H Q := fun σ H Q h => by
  obtain ⟨cs, G, r, ρ', e1, rs, hm, k⟩ := h
  unfold mMv at hm
  split at hm
  · rename_i xs es
    cases hm
    have hv0 : mVar i (slots cs) = some (.bor i, slots cs) := by
      unfold mVar
      rw [es]
    refine ⟨cs, G, .bor i, slots cs, e1, rs, hv0, fun cs1 v B G1 H1 f1 f2 fb rs1 st1 => ?_⟩
    have hv := fb i rfl
    rw [← f1] at hv
    obtain ⟨A, rs2, p2, g1⟩ := move_out rs1.tail (by rw [f2]; exact es) hv
    refine k _ v A G1 H1 (by rw [g1, f1]) ?_ (fun j hj => by cases hj) rs2 (st1.back1.weak fun b hb => p2.mem_iff.mpr hb)
    rw [slots_set, f2]
  · cases hm
theorem se_mv {i : Nat} (h : SE X e (mVar i)) : SE X e (mMv i) := PE.imp h (rd_mv i)
@[simp] theorem r_mv {ρ : List Sl} (i : Nat) : mMv i ρ = match ρ[i]? with
  | some (.ow xs) => some (.own (.ow xs), ρ.set i .no)
  | _ => none := rfl
end
end
end FW

/-! f(o.g, ..): what a field of an own object holds is lent to a call -/
namespace FW
noncomputable section
open PySem L2
section
variable {K : PySem.W.Frag} {mg : Str → Option Value} {G H G' H' : Hp}
theorem ownF_open {f : Str} {s : Sl} : ∀ {fs : List (Str × Sl)} {fvs : List (Str × V)} {As : List Addr}, OwnF K mg G H fs fvs As → fs.lookup f = some s → ∃ v A1 R, fvs.lookup f = some v ∧ Own K mg G H s v A1 ∧ List.Perm As (A1 ++ R) ∧
    ∀ (G' H' : Hp) (s' : Sl) (A1' : List Addr), Same G G' → (∀ a ∈ R, ∀ o, H a = some o → (∀ ps, o ≠ .tbl ps) → H' a = some o) → Own K mg G' H' s' v A1' → ∃ As', OwnF K mg G' H' (putS f s' fs) fvs As' ∧ List.Perm As' (A1' ++ R)
  | _, _, _, .nil, e => by cases e
  | (g, x) :: r, (_, y) :: rv, _, .cons (A := A) (As := As) h q, e => by
    rw [List.lookup_cons] at e ⊢
    by_cases hg : (f == g) = true
    · rw [hg] at e ⊢
      cases e
      refine ⟨y, A, As, rfl, h, List.Perm.refl _, fun G' H' s' A1' sg fr o => ⟨A1' ++ As, ?_, List.Perm.refl _⟩⟩
      have : putS f s' ((g, s) :: r) = (g, s') :: r := by simp [putS, eq_of_beq hg]
      rw [this]
      exact .cons o (OwnF.frame sg q fr)
    · have hg' : (f == g) = false := by simpa using hg
      rw [hg'] at e ⊢
      obtain ⟨v, A1, R, e1, e2, e3, e4⟩ := ownF_open q e
      refine ⟨v, A1, A ++ R, e1, e2, ?_, fun G' H' s' A1' sg fr o => ?_⟩
      · refine (List.Perm.append_left A e3).trans ?_
        rw [← List.append_assoc, ← List.append_assoc]
        exact List.Perm.append_right R List.perm_append_comm
      · obtain ⟨As', k1, k2⟩ := e4 G' H' s' A1' sg (fun a ha => fr a (List.mem_append_right _ ha)) o
        refine ⟨A ++ As', ?_, ?_⟩
        · have : putS f s' ((g, x) :: r) = (g, x) :: putS f s' r := by
            have hne : ¬ f = g := by simpa using hg'
            simp [putS, hne, Ne.symm hne]
          rw [this]
          exact .cons (Own.frame sg h fun a ha => fr a (List.mem_append_left _ ha)) k1
        · refine (List.Perm.append_left A k2).trans ?_
          rw [← List.append_assoc, ← List.append_assoc]
          exact List.Perm.append_right R List.perm_append_comm
/-- an own object opened at a field, and closed behind a step -/
theorem Res.openF {cs : List Cl} {o : Option V} {c f : Str} {fs : List (Str × Sl)} {s : Sl} {A : List Addr} (h : Res K mg G H (⟨o, .ob c fs, A⟩ :: cs)) (e : fs.lookup f = some s) :
    ∃ a C dx fvs v A1, o = some (.ref a) ∧ mg c = some (.ref C) ∧ H a = some (.ins C dx fvs) ∧ fvs.lookup f = some v ∧ Res K mg G H (⟨some v, s, A1⟩ :: cs) ∧ (∀ b ∈ own ((⟨some v, s, A1⟩ : Cl) :: cs), b ∈ own ((⟨o, .ob c fs, A⟩ : Cl) :: cs)) ∧
      ∀ (G' H' : Hp) (s' : Sl) (A1' : List Addr) (cs' : List Cl), s' ≠ .no → Res K mg G' H' (⟨some v, s', A1'⟩ :: cs') → Stp (own ((⟨some v, s, A1⟩ : Cl) :: cs)) G H (own ((⟨some v, s', A1'⟩ : Cl) :: cs')) G' H' →
        ∃ A', Res K mg G' H' (⟨o, .ob c (putS f s' fs), A'⟩ :: cs') ∧ Stp (own ((⟨o, .ob c fs, A⟩ : Cl) :: cs)) G H (own ((⟨o, .ob c (putS f s' fs), A'⟩ : Cl) :: cs')) G' H' := by
  rcases h.h1 with ⟨z, _⟩ | ⟨w, hw, ow⟩
  · cases z
  have hw : o = some w := hw
  subst hw
  have ow : Own K mg G H (.ob c fs) w A := ow
  cases ow with
  | ob hm h2 h3 =>
    rename_i a C dx fvs As
    obtain ⟨v, A1, R, e1, e2, e3, e4⟩ := ownF_open h3 e
    have nd := h.nd
    rw [own_cons] at nd
    have nd : (a :: As ++ own cs).Nodup := nd
    have p : List.Perm (a :: As ++ own cs) (a :: (R ++ (A1 ++ own cs))) := by
      rw [List.cons_append]
      refine List.Perm.cons a ?_
      refine (List.Perm.append_right _ (e3.trans List.perm_append_comm)).trans ?_
      rw [List.append_assoc]
    have nd2 := p.nodup_iff.mp nd
    obtain ⟨na, nd3⟩ := List.nodup_cons.mp nd2
    obtain ⟨nR, n1, dj⟩ := List.nodup_append.mp nd3
    have mem : ∀ b, b ∈ own ((⟨some (.ref a), .ob c fs, a :: As⟩ : Cl) :: cs) ↔ b ∈ a :: (R ++ (A1 ++ own cs)) := fun b => by
      rw [own_cons]; exact p.mem_iff
    have sub : ∀ b ∈ A1 ++ own cs, b ∈ own ((⟨some (.ref a), .ob c fs, a :: As⟩ : Cl) :: cs) := fun b hb => (mem b).mpr (List.mem_cons_of_mem _ (List.mem_append_right _ hb))
    have r1 : Res K mg G H (⟨some v, s, A1⟩ :: cs) := by
      refine ⟨h.same, fun d hd => ?_, by rw [own_cons]; exact n1, fun b hb => h.fr b (sub b (by rwa [own_cons] at hb)), h.tab⟩
      rcases List.mem_cons.mp hd with z | z
      · subst z; exact .inr ⟨v, rfl, e2⟩
      · exact h.ok d (List.mem_cons_of_mem _ z)
    refine ⟨a, C, dx, fvs, v, A1, rfl, hm, h2, e1, r1, fun b hb => sub b (by rwa [own_cons] at hb), fun G' H' s' A1' cs' hs rs' st' => ?_⟩
    have out : ∀ b ∈ a :: R, b ∉ own ((⟨some v, s, A1⟩ : Cl) :: cs) := fun b hb z => by
      rw [own_cons] at z
      have z : b ∈ A1 ++ own cs := z
      rcases List.mem_cons.mp hb with q | q
      · subst q; exact na (List.mem_append_right _ z)
      · exact dj b q b z rfl
    have inn : ∀ b ∈ a :: R, b ∈ own ((⟨some (.ref a), .ob c fs, a :: As⟩ : Cl) :: cs) := fun b hb => (mem b).mpr (by
      rcases List.mem_cons.mp hb with q | q
      · subst q; exact List.mem_cons_self
      · exact List.mem_cons_of_mem _ (List.mem_append_left _ q))
    have there : ∀ b ∈ a :: R, H b ≠ none := fun b hb => h.there b (inn b hb)
    have ov : Own K mg G' H' s' v A1' := by
      rcases rs'.h1 with ⟨z, _⟩ | ⟨u, hu, q⟩
      · exact absurd z hs
      · have hu : some v = some u := hu
        cases hu
        exact q
    obtain ⟨As', k1, k2⟩ := e4 G' H' s' A1' st'.gs (fun b hb q hq nt => st'.keep b q (out b (List.mem_cons_of_mem _ hb)) hq nt) ov
    have ha' : H' a = some (.ins C dx fvs) := st'.keep a _ (out a List.mem_cons_self) h2 (by intro _ z; cases z)
    have n' := rs'.nd
    rw [own_cons] at n'
    have n' : (A1' ++ own cs').Nodup := n'
    have p' : List.Perm (a :: As' ++ own cs') (a :: (R ++ (A1' ++ own cs'))) := by
      rw [List.cons_append]
      refine List.Perm.cons a ?_
      refine (List.Perm.append_right _ (k2.trans List.perm_append_comm)).trans ?_
      rw [List.append_assoc]
    have ap : ∀ b ∈ a :: R, b ∉ A1' ++ own cs' := fun b hb z => by
      rcases st'.sub b (by rw [own_cons]; exact z) with q | q
      · exact out b hb q
      · exact there b hb q
    refine ⟨a :: As', ⟨rs'.same, fun d hd => ?_, ?_, fun b hb => ?_, rs'.tab⟩, ⟨fun b q hb => st'.keep b q fun z => hb (sub b (by rwa [own_cons] at z)), st'.gs, fun b hb => st'.gn b fun z => hb (sub b (by rwa [own_cons] at z)), st'.live, fun b hb => ?_⟩⟩
    · rcases List.mem_cons.mp hd with z | z
      · subst z; exact .inr ⟨_, rfl, .ob hm ha' k1⟩
      · exact rs'.ok d (List.mem_cons_of_mem _ z)
    · rw [own_cons]
      refine p'.nodup_iff.mpr (List.nodup_cons.mpr ⟨fun z => ?_, List.nodup_append.mpr ⟨nR, n', fun x hx y hy q => by subst q; exact ap x (List.mem_cons_of_mem _ hx) hy⟩⟩)
      rcases List.mem_append.mp z with q | q
      · exact na (List.mem_append_left _ q)
      · exact ap a List.mem_cons_self q
    · rw [own_cons] at hb
      have hb := p'.mem_iff.mp hb
      have g : b ∈ a :: R → G' b = none := fun q => by
        rw [st'.gn b (out b q) (there b q)]
        exact h.fr b (inn b q)
      rcases List.mem_cons.mp hb with q | q
      · exact g (by rw [q]; exact List.mem_cons_self)
      · rcases List.mem_append.mp q with q | q
        · exact g (List.mem_cons_of_mem _ q)
        · exact rs'.fr b (by rw [own_cons]; exact q)
    · rw [own_cons] at hb
      have hb := p'.mem_iff.mp hb
      rcases List.mem_cons.mp hb with q | q
      · exact .inl (inn b (by rw [q]; exact List.mem_cons_self))
      · rcases List.mem_append.mp q with q | q
        · exact .inl (inn b (List.mem_cons_of_mem _ q))
        · exact (st'.sub b (by rw [own_cons]; exact q)).imp (fun z => sub b (by rwa [own_cons] at z)) id
theorem addFzs {cs : List Cl} : ∀ {ds : List D} {us : List V}, Reps K mg G ds us → Res K mg G H cs → ∃ ez : List Cl, vals ez = us.map some ∧ slots ez = ds.map Sl.fz ∧ own ez = [] ∧ Res K mg G H (ez ++ cs)
  | _, _, .nil, r => ⟨[], rfl, rfl, rfl, r⟩
  | d :: _, u :: _, .cons h q, r => by
    obtain ⟨ez, e1, e2, e3, e4⟩ := addFzs q r
    exact ⟨⟨some u, .fz d, []⟩ :: ez, by simp only [vals, List.map_cons] at e1 ⊢; rw [e1], by simp only [slots, List.map_cons] at e2 ⊢; rw [e2], by rw [own_cons, e3]; rfl, e4.addFz h⟩
theorem scR_len : ∀ {rs : List Rv} {ds : List D}, scR rs = some ds → ds.length = rs.length
  | [], _, h => by cases h; rfl
  | .val d :: rs, _, h => by
    unfold scR at h
    split at h
    · obtain ⟨es, e1, e2⟩ := Option.map_eq_some_iff.mp h
      cases e2
      simp [scR_len e1]
    · cases h
  | .own _ :: _, _, h => by cases h
  | .bor _ :: _, _, h => by cases h
def mCallF (cl : List Str) (i : Nat) (f : Str) (m : MF) (ms : MA) : M := fun ρ => match ρ[i]? with
  | some (.ob c fs) => @ite _ (c ∈ cl) (Classical.propDecidable _) ((fs.lookup f).bind fun s => (ms (pk ρ)).bind fun y => (scR y.1).bind fun ds => (m (s :: ds.map Sl.fz)).bind fun w => match w.1 with
    | .bor _ => none
    | r => match w.2 with
      | s' :: _ => if s'.isS = true then some (r, ρ.set i (.ob c (putS f s' fs))) else none
      | [] => none) none
  | _ => none
end
section
variable {X : Cx} {e : Expr} {es : List Expr} {ms : MA} {pos p np ap : Pos} {k n : Nat} {fa : Addr} {fd : FuncData} {ps : List Str} {m : MF} {x y : Str} {cl : List Str} {f : Str} {i : Nat}
theorem rd_callF (hC : ClsF X.K X.mg cl f) (hl : ∀ ρ y, ms ρ = some y → y.1.length + 1 = n) : ∀ σ H Q, tM X.K X.mg (mCallF cl i f m ms) σ H Q → tCons (tFld X.K (tVar i) f) (tMA X.K X.mg ms) σ H fun vs H1 => spM X.K X.mg n m (vs ++ []) H1 Q E0 := fun σ H Q h => by
  obtain ⟨cs, G, r, ρ', e1, rs, hm, kk⟩ := h
  subst e1
  unfold mCallF at hm
  split at hm
  · rename_i c fs ex
    split at hm
    · rename_i hc
      obtain ⟨s, h1, hm⟩ := Option.bind_eq_some_iff.mp hm
      obtain ⟨⟨ra, ρ1⟩, h2, hm⟩ := Option.bind_eq_some_iff.mp hm
      obtain ⟨ds, h3, hm⟩ := Option.bind_eq_some_iff.mp hm
      obtain ⟨⟨r0, outs⟩, h4, hm⟩ := Option.bind_eq_some_iff.mp hm
      have main : ∃ s' outs', outs = s' :: outs' ∧ (∀ j, r0 ≠ .bor j) ∧ s'.isS = true ∧ r = r0 ∧ ρ' = (slots cs).set i (.ob c (putS f s' fs)) := by
        cases r0 with
        | bor j => cases hm
        | val d =>
          cases outs with
          | nil => cases hm
          | cons s' outs' =>
            dsimp only at hm
            split at hm
            · rename_i hs; cases hm; exact ⟨s', outs', rfl, (fun j z => nomatch z), hs, rfl, rfl⟩
            · cases hm
        | own d =>
          cases outs with
          | nil => cases hm
          | cons s' outs' =>
            dsimp only at hm
            split at hm
            · rename_i hs; cases hm; exact ⟨s', outs', rfl, (fun j z => nomatch z), hs, rfl, rfl⟩
            · cases hm
      obtain ⟨s', outs', q1, hr, hs, q2, q3⟩ := main
      subst q1; subst q2; subst q3
      have hs' : s' ≠ .no := fun z => by rw [z] at hs; cases hs
      obtain ⟨⟨o, t, A⟩, e5, e6⟩ := cell_at ex
      have e6 : t = .ob c fs := e6
      subst e6
      obtain ⟨rh, _⟩ := rs.hide e5
      obtain ⟨a, C, dx, fvs, v, A0, ho, hmg, hH, hlk, _, _, _⟩ := rh.openF h1
      have ho : o = some (.ref a) := ho
      subst ho
      obtain ⟨C', g1, g2, g3⟩ := hC c hc
      rw [hmg] at g1
      cases g1
      refine ⟨.ref a, by rw [List.getElem?_map, e5]; rfl, a, C, dx, fvs, v, rfl, hH, g2, g3, hlk, ?_⟩
      refine tMA_look rs h2 h3 fun us G2 H2 hreps keep rs2 st2 => ?_
      obtain ⟨rh2, ih2⟩ := rs2.hide e5
      obtain ⟨a2, C2, dx2, fvs2, v2, A1, ho2, hmg2, hH2, hlk2, r1, _, close⟩ := rh2.openF h1
      have ho2 : a = a2 := by have := Option.some.inj ho2; cases this; rfl
      subst ho2
      have k2 := keep a _ hH (by intro _ z; cases z)
      rw [k2] at hH2
      cases hH2
      rw [hlk] at hlk2
      cases hlk2
      obtain ⟨ez, z1, z2, z3, z4⟩ := addFzs (hreps G2) r1
      have p0 : List.Perm (ez ++ (⟨some v, s, A1⟩ : Cl) :: cs.set i ⟨some (.ref a), .no, []⟩) (((⟨some v, s, A1⟩ : Cl) :: ez) ++ cs.set i ⟨some (.ref a), .no, []⟩) := List.perm_middle
      generalize hcr : cs.set i ⟨some (.ref a), .no, []⟩ = cr at *
      have r2 := z4.perm p0
      rw [List.append_nil]
      have lus : us.length + 1 = n := by
        rw [← hl _ _ h2, ← scR_len h3, (hreps G2).length]
      refine ⟨(⟨some v, s, A1⟩ : Cl) :: ez, G2, r, s' :: outs', by simp only [vals, List.map_cons] at z1 ⊢; rw [z1], by simpa using lus, r2.left, by
        show m (s :: slots ez) = _
        rw [z2]; exact h4, hr, fun as' w B G' H' y1 y2 rs' st' => ?_⟩
      cases as' with
      | nil => simp [slots] at y2
      | cons c0 ez' =>
        obtain ⟨v0, s0, A1'⟩ := c0
        simp only [vals, List.map_cons, List.cons.injEq] at y1
        simp only [slots, List.map_cons, List.cons.injEq] at y2
        obtain ⟨y1, y1'⟩ := y1
        obtain ⟨y2, y2'⟩ := y2
        have y1 : v0 = some v := y1
        have y2 : s0 = s' := y2
        subst y1; subst y2
        have r0 := r2.perm List.perm_append_comm
        have r3 := Res.frame r0 st' rs'
        have s3 := Stp.under r0 st'
        have pp : List.Perm (cr ++ ((⟨some w, r.sl, B⟩ : Cl) :: (⟨some v, s0, A1'⟩ : Cl) :: ez')) (ez' ++ ((⟨some v, s0, A1'⟩ : Cl) :: (⟨some w, r.sl, B⟩ : Cl) :: cr)) := by
          refine List.perm_append_comm.trans ?_
          refine (List.Perm.swap _ _ _).trans ?_
          refine List.Perm.trans ?_ List.perm_middle.symm
          exact List.Perm.cons _ List.perm_middle.symm
        have r4 := (r3.perm pp).right
        have s4 : Stp (own ((⟨some v, s, A1⟩ : Cl) :: cr)) G2 H2 (own ((⟨some v, s0, A1'⟩ : Cl) :: (⟨some w, r.sl, B⟩ : Cl) :: cr)) G' H' := (s3.weak fun b hb => (own_perm pp).mem_iff.mpr (by rw [own_append]; exact List.mem_append_right _ hb)).more fun b hb => by
          rw [own_append, own_cons, z3] at hb
          rw [own_cons]
          rcases List.mem_append.mp hb with z | z
          · exact List.mem_append_right _ z
          · exact List.mem_append_left _ (by simpa using z)
        obtain ⟨A', r5, s5⟩ := close G' H' s0 A1' (⟨some w, r.sl, B⟩ :: cr) hs' r4 s4
        have r6 := r5.put (i + 1)
        have e7 : ((⟨some w, r.sl, B⟩ : Cl) :: cr).set (i + 1) ⟨some (.ref a), .ob c (putS f s0 fs), A'⟩ = (⟨some w, r.sl, B⟩ : Cl) :: cs.set i ⟨some (.ref a), .ob c (putS f s0 fs), A'⟩ := by
          rw [List.set_cons_succ, ← hcr, List.set_set]
        rw [e7] at r6
        have s6 := (s5.weak fun b hb => own_put (c := ⟨some (.ref a), .ob c (putS f s0 fs), A'⟩) (cs := (⟨some w, r.sl, B⟩ : Cl) :: cr) (i + 1) b (by rw [e7]; exact hb)).more (A2 := own cs) fun b hb => (ih2 b).mp hb
        exact kk (cs.set i ⟨some (.ref a), .ob c (putS f s0 fs), A'⟩) w B G' H' (set_vals e5 rfl) (by rw [slots_set]) (fun j z => absurd z (hr j)) r6 (st2.trans s6)
    · cases hm
  · cases hm
/-- f(o.g, e, ..): the object in a field is lent -/
theorem se_callF (F : FnOk X.prog X.w X.K X.mg X.base CX0 k fa fd ps (spM X.K X.mg n m)) (hr : Room k X.A) (hg : Gl X x) (hm : X.mg x = some (.ref fa)) (hk : PySem.W.keepIn X.K (.ref fa) = true) (hb : Binds X.K fd ps []) (hC : ClsF X.K X.mg cl f)
    (ha : SA X es ms) (hl : ∀ ρ y, ms ρ = some y → y.1.length + 1 = n)
    (hN : X.N[i]? = some y := by rfl) (hv : Vis X.env.scope y := by first | exact Or.inl rfl | exact Or.inr (Or.inl rfl) | exact Or.inr (Or.inr rfl)) (hd : (y == ("__debug__" : Str)) = false := by decide) (hcd : (y == ("__classdict__" : Str)) = false := by decide)
    (hba : attributeBase (.Name y np) f X.env (eval (.Name y np) X.env) = eval (.Name y np) X.env := by rfl)
    (hdb : (x == ("__debug__" : Str)) = false := by decide) (he : starEach (.Attribute (.Name y np) f ap :: es) X.env = (false, eval (.Attribute (.Name y np) f ap) X.env) :: starEach es X.env := by rfl) (hpl : (backTo pos (starEach es X.env)).any (·.1) = false := by rfl) :
    SE X (.Call (.Name x p) (.Attribute (.Name y np) f ap :: es) [] pos) (mCallF cl i f m ms) := PE.imp (pe_call F hr hg hm hk hb .nil pass0 (pa_cons (pe_fld (pe_var hN hv hd hcd) hba) ha he) hdb he hpl) (rd_callF hC hl)
@[simp] theorem r_callF {ρ : List Sl} (cl : List Str) (i : Nat) (f : Str) (m : MF) : mCallF cl i f m ms ρ = match ρ[i]? with
  | some (.ob c fs) => ifc (c ∈ cl) ((fs.lookup f).bind fun s => (ms (pk ρ)).bind fun y => (scR y.1).bind fun ds => (m (s :: ds.map Sl.fz)).bind fun w => match w.1 with
    | .bor _ => none
    | r => match w.2 with
      | s' :: _ => if s'.isS = true then some (r, ρ.set i (.ob c (putS f s' fs))) else none
      | [] => none) none
  | _ => none := rfl
end
end
end FW
namespace FW
noncomputable section
open PySem L2
section
variable {X : Cx} {pos p : Pos} {k : Nat} {fa C : Addr} {fd : FuncData} {ps : List Str} {m : MF} {x : Str}
theorem se_makeO0 (Mk_ : Mk X.K C fa) (F : FnOk X.prog X.w X.K X.mg X.base CX0 k fa fd ps (spM X.K X.mg 1 m)) (hr : Room (k + 1) X.A) (hg : Gl X x) (hm : X.mg x = some (.ref C)) (hb : Binds X.K fd ps [])
    (hdb : (x == ("__debug__" : Str)) = false := by decide) : SE X (.Call (.Name x p) [] [] pos) (mMakeO x m aNil) := PE.imp (pe_make0 Mk_ F hr hg hm hb .nil pass0 hdb) fun σ H Q h => by
  obtain ⟨cs, G, rs, ρ', e1, rs', hm', kk⟩ := rd_makeO (n := 1) hm (fun ρ y h => by cases h; rfl) σ H Q h
  cases hm'
  exact kk cs [] [] G H e1 rfl trivial rfl rfl rs' Stp.refl
end
end
end FW
namespace FW
noncomputable section
open PySem L2
/-! str of an int or None -/
theorem call_str_no {X : Cx} : CallR X (.type "str") (fun xs H Q => xs = [.non] ∧ Q (.str "None") H) := by
  intro pins s σ H xs us Q I r h
  obtain ⟨rfl, q⟩ := h
  obtain ⟨u, rfl, r1⟩ := vals1 r
  cases r1
  exact PySem.P.str_of_none ⟨.str _, H, I.tok _, ⟨_, rfl⟩, q⟩
def strND : D → Option D
  | .non => some (.str "None")
  | d => strD d
theorem cr_strN {K : PySem.W.Frag} {mg : Str → Option Value} : CrD K mg (b1 strND) (fun xs H Q => (∃ i, xs = [.int i] ∧ i.natAbs.log2 < 1920 ∧ Q (.str (toString i)) H) ∨ (xs = [.non] ∧ Q (.str "None") H)) := cr_b1 fun x z H v Q e rx q => by
  unfold strND at e
  split at e
  · cases e
    cases rx
    exact .inr ⟨rfl, q _ rfl⟩
  · unfold strD at e
    split at e
    · split at e
      · cases e; exact .inl ⟨_, by rw [rx.int_iff], by assumption, q _ rfl⟩
      · cases e
    · cases e
section
variable {X : Cx} {e : Expr} {ms : MA} {pos p : Pos}
theorem b_strN (hm : X.mg "str" = none) (ha : SA X [e] ms) (hg : Gl X "str" := by rfl) (he : starEach [e] X.env = (false, eval e X.env) :: starEach [] X.env := by rfl) : SE X (.Call (.Name "str" p) [e] [] pos) (mCallB (b1 strND) ms) := se_callTy (CallR.or call_str_int call_str_no) cr_strN hg hm boot_str' ha (by decide) (by decide) he rfl
end
@[simp] theorem r_strND_non : strND .non = some (.str "None") := rfl
@[simp] theorem r_strND_int (i : Int) : strND (.int i) = strD (.int i) := rfl
end
end FW

namespace Law
open PySem L2 FW

noncomputable def lb__law_spread_1 : MS :=
  (sSeq (sSet 1 (mBin modD (mCallB (b1 intD) (aCons (mBin2 addV (mBin2 addV (mBin2 addV (mBin2 mulV (mVar 1) (mVar 1)) (mBin2 mulV (mBin2 addV (mBin2 mulV (mC (.int 2)) (mVar 3)) (mC (.int 3))) (mVar 1))) (mBin2 mulV (mC (.int 101)) (mVar 3))) (mC (.int 7))) aNil)) (mC (.int 1152921504606846883))))
    (sSeq (sSet 1 (mBin modD (mCallB (b1 intD) (aCons (mBin2 addV (mBin2 mulV (mBin2 mulV (mVar 1) (mVar 1)) (mVar 1)) (mVar 3)) aNil)) (mC (.int 2305843009213693951))))
    (sSet 2 (mBin2 addV (mBin2 mulV (mVar 2) (mC (.int 2305843009213693951))) (mVar 1)))))

noncomputable def bd__law_spread : MS :=
  (sSeq (sSet 1 (mBin2 addV (mBin modD (mCallB (b1 intD) (aCons (mVar 0) aNil)) (mC (.int 1152921504606846883))) (mC (.int 3))))
    (sSeq (sSet 2 (mC (.int 1)))
    (sSeq (sFor (iR1 (aCons (mC (.int 12)) aNil)) [3] (gN 3) lb__law_spread_1)
    (sRet [0] (mVar 2)))))
noncomputable def m__law_spread : MF := mDef 4 [0] bd__law_spread

noncomputable def lb__law_pool_1 : MS :=
  (sSeq (sSet 3 (mBin subD (mVar 2) (mBin powD (mC (.int 10)) (mC (.int 18)))))
    (sSeq (sIf (mB (mBin ltD (mVar 3) (mC (.int 0)))) (sSet 3 (mCall m__law_spread (aCons (mVar 2) aNil))) sNil)
    (sSet 1 (mBin2 addV (mBin2 mulV (mVar 1) (mC (.int 1000033))) (mVar 3)))))

noncomputable def bd__law_pool : MS :=
  (sSeq (sSet 1 (mC (.int 0)))
    (sSeq (sFor (iAny [0] (mVar 0)) [2, 3] (gN 2) lb__law_pool_1)
    (sRet [0] (mLst (aCons (mVar 1) aNil)))))
noncomputable def m__law_pool : MF := mDef 4 [0] bd__law_pool

noncomputable def bd__law_take : MS :=
  (sSeq (sSet 2 (mBin modD (mCallB (b1 intD) (aCons (mBin2 ixV (mVar 0) (mC (.int 0))) aNil)) (mVar 1)))
    (sSeq (sSetIx 0 (mC (.int 0)) (mBin divD (mBin2 ixV (mVar 0) (mC (.int 0))) (mVar 1)))
    (sRet [0, 1] (mVar 2))))
noncomputable def m__law_take : MF := mDef 3 [0, 1] bd__law_take

noncomputable def lb__law_longer_1 : MS :=
  (sExpr (mMut apF 2 (aCons (mBin2 addV (mBin2 addV (mSl (mVar 0) mNoP (mP (mVar 3))) (mLst (aCons (mBin2 addV (mBin2 addV (mSl (mVar 4) mNoP (mP (mVar 5))) (mLst (aCons (mVar 1) aNil))) (mSl (mVar 4) (mP (mVar 5)) mNoP)) aNil))) (mSl (mVar 0) (mP (mBin2 addV (mVar 3) (mC (.int 1)))) mNoP)) aNil)))

noncomputable def lb__law_longer_2 : MS :=
  (sSeq (sSet 4 (mBin2 ixV (mVar 0) (mVar 3)))
    (sFor (iR1 (aCons (mBin2 addV (mCallB lenD (aCons (mVar 4) aNil)) (mC (.int 1))) aNil)) [] (gN 5) lb__law_longer_1))

noncomputable def bd__law_longer : MS :=
  (sSeq (sSet 2 (mLst aNil))
    (sSeq (sFor (iR1 (aCons (mCallB lenD (aCons (mVar 0) aNil)) aNil)) [3, 4, 5] (gN 3) lb__law_longer_2)
    (sRet [0, 1] (mVar 2))))
noncomputable def m__law_longer : MF := mDef 6 [0, 1] bd__law_longer

noncomputable def ce__law_divisions_1 : M :=
  (mLst aNil)

noncomputable def lb__law_divisions_2 : MS :=
  (sExpr (mMut extF 4 (aCons (mCall m__law_longer (aCons (mVar 5) (aCons (mVar 3) aNil))) aNil)))

noncomputable def lb__law_divisions_3 : MS :=
  (sSeq (sSet 4 (mLst aNil))
    (sSeq (sFor (iAny [2] (mVar 2)) [] (gN 5) lb__law_divisions_2)
    (sSet 2 (mCallB listD (aCons (mVar 4) aNil)))))

noncomputable def bd__law_divisions : MS :=
  (sSeq (sSet 2 (mLst (aCons (mComp (iR1 (aCons (mVar 1) aNil)) [6] (gN 6) tTrue ce__law_divisions_1) aNil)))
    (sSeq (sFor (iR1 (aCons (mVar 0) aNil)) [3, 4, 5] (gN 3) lb__law_divisions_3)
    (sRet [0, 1] (mVar 2))))
noncomputable def m__law_divisions : MF := mDef 7 [0, 1] bd__law_divisions

noncomputable def lb__law_sum_1 : MS :=
  (sSeq (sSet 4 (mBin2 addV (mVar 4) (mBin2 ixV (mVar 0) (mVar 5))))
    (sSet 2 (mBin2 addV (mVar 2) (mVar 4))))

noncomputable def lb__law_sum_2 : MS :=
  (sSeq (sSet 4 (mC (.int 0)))
    (sFor (iAny [3] (mVar 3)) [] (gN 5) lb__law_sum_1))

noncomputable def bd__law_sum : MS :=
  (sSeq (sSet 2 (mC (.int 0)))
    (sSeq (sFor (iAny [1] (mVar 1)) [3, 4, 5] (gN 3) lb__law_sum_2)
    (sRet [0, 1] (mVar 2))))
noncomputable def m__law_sum : MF := mDef 6 [0, 1] bd__law_sum

noncomputable def lb_division_sum_1 : MS :=
  (sSeq (sAug addI 4 (mBin2 ixV (mVar 0) (mVar 5)))
    (sAug addI 2 (mVar 4)))

noncomputable def lb_division_sum_2 : MS :=
  (sSeq (sSet 4 (mC (.int 0)))
    (sFor (iAny [3] (mVar 3)) [] (gN 5) lb_division_sum_1))

noncomputable def bd_division_sum : MS :=
  (sSeq (sSet 2 (mC (.int 0)))
    (sSeq (sFor (iAny [1] (mVar 1)) [3, 4, 5] (gN 3) lb_division_sum_2)
    (sRet [0, 1] (mVar 2))))
noncomputable def m_division_sum : MF := mDef 6 [0, 1] bd_division_sum

noncomputable def bd__law_is_integer : MS :=
  (sRet [0] (mAnd (mUn (isTy .int) (mVar 0)) (mNot (mUn (isTy .bool) (mVar 0)))))
noncomputable def m__law_is_integer : MF := mDef 1 [0] bd__law_is_integer

noncomputable def ce_least_sum_1 : M :=
  (mBin2 mulV (mBin2 addV (mBin divD (mVar 3) (mVar 1)) (mC (.int 1))) (mVar 4))

noncomputable def bd_least_sum : MS :=
  (sSeq (sSet 2 (mSortR (aCons (mVar 0) aNil)))
    (sRet [0, 1] (mCallB (bL sumL) (aCons (mComp (iE [2] (aCons (mVar 2) aNil)) [3, 4] (gT [3, 4]) tTrue ce_least_sum_1) aNil))))
noncomputable def m_least_sum : MF := mDef 5 [0, 1] bd_least_sum

noncomputable def ce_division_1 : M :=
  (mLst aNil)

noncomputable def lb_division_2 : MS :=
  (sExpr (mMutIx insF 2 (mBin modD (mVar 4) (mVar 1)) (aCons (mC (.int 0)) (aCons (mVar 5) aNil))))

noncomputable def bd_division : MS :=
  (sSeq (sSet 2 (mCompO (iR1 (aCons (mVar 1) aNil)) [6] (gN 6) tTrue ce_division_1))
    (sSeq (sSet 3 (mSortKey 0 (mCallB lenD (aCons (mVar 0) aNil))))
    (sSeq (sFor (iE [3] (aCons (mVar 3) aNil)) [4, 5] (gT [4, 5]) lb_division_2)
    (sRet [0, 1] (mVar 2)))))
noncomputable def m_division : MF := mDef 7 [0, 1] bd_division

noncomputable def lb__law_is_division_1 : MS :=
  (sSeq (sIf (tOrM (tNotM (mB (mUn (isTy .int) (mVar 5)))) (mB (mUn (isTy .bool) (mVar 5)))) (sRet [0, 1, 2] (mC (.bl false))) sNil)
    (sExpr (mMut apF 3 (aCons (mVar 5) aNil))))

noncomputable def lb__law_is_division_2 : MS :=
  (sSeq (sIf (tNotM (mB (mUn (isTy .list) (mVar 4)))) (sRet [0, 1, 2] (mC (.bl false))) sNil)
    (sFor (iAny [4] (mVar 4)) [] (gN 5) lb__law_is_division_1))

noncomputable def bd__law_is_division : MS :=
  (sSeq (sIf (tOrM (tNotM (mB (mUn (isTy .list) (mVar 2)))) (mB (mBin (eqD true) (mCallB lenD (aCons (mVar 2) aNil)) (mVar 1)))) (sRet [0, 1, 2] (mC (.bl false))) sNil)
    (sSeq (sSet 3 (mLst aNil))
    (sSeq (sFor (iAny [2] (mVar 2)) [4, 5] (gN 4) lb__law_is_division_2)
    (sRet [0, 1, 2] (mBin (eqD false) (mCallB (bL sortAny) (aCons (mVar 3) aNil)) (mListR1 (mCallB lenD (aCons (mVar 0) aNil))))))))
noncomputable def m__law_is_division : MF := mDef 6 [0, 1, 2] bd__law_is_division

noncomputable def ce_law_1 : M :=
  (mBin2 addV (mC (.int 1)) (mCall m__law_take (aCons (mVar 1) (aCons (mVar 2) aNil))))

noncomputable def ce_law_2 : M :=
  (mCall m__law_sum (aCons (mVar 5) (aCons (mVar 12) aNil)))

noncomputable def ce_law_3 : M :=
  (mCallB listD (aCons (mVar 13) aNil))

noncomputable def lb_law_4 : MS :=
  (sSeq (sSet 9 (mCall m_division_sum (aCons (mVar 6) (aCons (mComp (iAny [] (mBin2 ixV (mVar 7) (mVar 4))) [13] (gN 13) tTrue ce_law_3) aNil))))
    (sIf (tOrM (tNotM (mB (mCall m__law_is_integer (aCons (mVar 9) aNil)))) (mB (mBin (eqD true) (mVar 9) (mBin2 ixV (mVar 8) (mVar 4))))) (sRet [0] (mC (.bl false))) sNil))

noncomputable def bd_law : MS :=
  (sSeq (sSet 1 (mCall m__law_pool (aCons (mVar 0) aNil)))
    (sSeq (sSet 2 (mBin2 ixV (mLst (aCons (mC (.int 60)) (aCons (mC (.int 4)) (aCons (mC (.int 4)) aNil)))) (mCall m__law_take (aCons (mVar 1) (aCons (mC (.int 3)) aNil)))))
    (sSeq (sSet 3 (mBin2 addV (mC (.int 1)) (mCall m__law_take (aCons (mVar 1) (aCons (mC (.int 3)) aNil)))))
    (sSeq (sSet 5 (mComp (iR1 (aCons (mCall m__law_take (aCons (mVar 1) (aCons (mC (.int 5)) aNil))) aNil)) [4] (gN 4) tTrue ce_law_1))
    (sSeq (sSet 6 (mCallB listD (aCons (mVar 5) aNil)))
    (sSeq (sSet 7 (mCall m__law_divisions (aCons (mCallB lenD (aCons (mVar 5) aNil)) (aCons (mVar 3) aNil))))
    (sSeq (sSet 8 (mComp (iAny [7] (mVar 7)) [12] (gN 12) tTrue ce_law_2))
    (sSeq (sFor (iR1 (aCons (mCallB lenD (aCons (mVar 7) aNil)) aNil)) [4, 9] (gN 4) lb_law_4)
    (sSeq (sSet 10 (mCall m_least_sum (aCons (mVar 6) (aCons (mVar 3) aNil))))
    (sSeq (sSet 11 (mFrz (mCall m_division (aCons (mVar 6) (aCons (mVar 3) aNil)))))
    (sSeq (sIf (tOrM (tNotM (mB (mCall m__law_is_integer (aCons (mVar 10) aNil)))) (tOrM (mB (mBin (eqD true) (mVar 10) (mCallB (bL minL) (aCons (mVar 8) aNil)))) (tNotM (mB (mCall m__law_is_division (aCons (mVar 5) (aCons (mVar 3) (aCons (mVar 11) aNil)))))))) (sRet [0] (mC (.bl false))) sNil)
    (sRet [0] (mAnd (mBin (eqD false) (mCall m__law_sum (aCons (mVar 5) (aCons (mVar 11) aNil))) (mVar 10)) (mBin (eqD false) (mVar 6) (mVar 5)))))))))))))))
noncomputable def m_law : MF := mDef 14 [0] bd_law

end Law

namespace Law
open PySem L2 FW

def PoolB (p : List D) : Prop := ∃ a : Int, p = [.int a] ∧ 0 ≤ a
theorem mok64 {i j : Int} (h : 0 ≤ i ∧ i < 2 ^ 64 ∨ 0 ≤ j ∧ j < 2 ^ 64) : IntMulOk i j := by
  rcases h with h | h
  · exact mulOk_l (by omega) (by omega)
  · exact mulOk_r (by omega) (by omega)
theorem mokN {i j : Int} (h0 : 0 ≤ i) (h1 : i < 2 ^ 400) (h2 : 0 ≤ j) (h3 : j < 2 ^ 400) : IntMulOk i j := mulOk (a := 400) (b := 400) (by omega) (by omega)
theorem mul_lt {i j : Int} {a b : Nat} (h0 : 0 ≤ i) (h1 : i < 2 ^ a) (h2 : 0 ≤ j) (h3 : j < 2 ^ b) : 0 ≤ i * j ∧ i * j < 2 ^ (a + b) := by
  refine ⟨Int.mul_nonneg h0 h2, ?_⟩
  rw [Int.pow_add]
  exact Int.lt_of_le_of_lt (Int.mul_le_mul_of_nonneg_left (Int.le_of_lt h3) h0) (Int.mul_lt_mul_of_pos_right h1 (Int.pow_pos (by decide)))
theorem take_ok {s : List D} {m : Int} (h : PoolB s) (h0 : 0 < m) (h1 : m < 2 ^ 200) : ∃ r s', m__law_take [.ow s, .fz (.int m)] = some (.val (.int r), [.ow s', .fz (.int m)]) ∧ 0 ≤ r ∧ r < m ∧ PoolB s' := by
  obtain ⟨a, rfl, a0⟩ := h
  have dv := r_div1 a h0 h1
  refine ⟨a % m, [.int (a / m)], ?_, Int.emod_nonneg _ (by omega), Int.emod_lt_of_pos _ h0, _, rfl, Int.ediv_nonneg a0 (by omega)⟩
  simp -implicitDefEqProofs [m__law_take, bd__law_take, h0, dv]
theorem spread_ok (c : Int) : ∃ t : Int, m__law_spread [.fz (.int c)] = some (.val (.int t), [.fz (.int c)]) ∧ 0 ≤ t := by
  have s0 := Int.emod_nonneg c (show (1152921504606846883 : Int) ≠ 0 by decide)
  have s1 := Int.emod_lt_of_pos c (show (0 : Int) < 1152921504606846883 by decide)
  obtain ⟨ρ', e, sd, t, a1, a2, a3, rfl⟩ := for_all (bs := []) (rst := [3]) (g := gN 3) (b := lb__law_spread_1) (items := rgD 0 12) (ρ := [.fz (.int c), .fz (.int (c % 1152921504606846883 + 3)), .fz (.int 1), .no])
    (fun i ρ => ∃ sd t : Int, 0 ≤ sd ∧ sd < 2 ^ 62 ∧ 0 ≤ t ∧ ρ = [.fz (.int c), .fz (.int sd), .fz (.int t), .no])
    ⟨_, _, by omega, by omega, by decide, rfl⟩ (fun _ _ _ _ => chk_nil) (fun i d ρ hi ⟨sd, t, h1, h2, h3, h4⟩ => by
      subst h4
      obtain ⟨hl, rfl⟩ := rgD_at hi
      have q1 : IntMulOk sd sd := mok64 (by omega)
      have q2 : IntMulOk (2 : Int) (i : Int) := mok64 (by omega)
      have q3 : IntMulOk (2 * (i : Int) + 3) sd := mok64 (by omega)
      have q4 : IntMulOk (101 : Int) (i : Int) := mok64 (by omega)
      obtain ⟨x, hx⟩ : ∃ x, (sd * sd + (2 * (i : Int) + 3) * sd + 101 * (i : Int) + 7) % 1152921504606846883 = x := ⟨_, rfl⟩
      have x0 : 0 ≤ x := by rw [← hx]; exact Int.emod_nonneg _ (by decide)
      have x1 : x < 1152921504606846883 := by rw [← hx]; exact Int.emod_lt_of_pos _ (by decide)
      have q5 : IntMulOk x x := mok64 (by omega)
      have q6 : IntMulOk (x * x) x := mok64 (by omega)
      obtain ⟨y, hy⟩ : ∃ y, (x * x * x + (i : Int)) % 2305843009213693951 = y := ⟨_, rfl⟩
      have y0 : 0 ≤ y := by rw [← hy]; exact Int.emod_nonneg _ (by decide)
      have y1 : y < 2305843009213693951 := by rw [← hy]; exact Int.emod_lt_of_pos _ (by decide)
      have q7 : IntMulOk t 2305843009213693951 := mok64 (by omega)
      refine ⟨_, .nx, [.fz (.int c), .fz (.int y), .fz (.int (t * 2305843009213693951 + y)), .fz (.int (0 + (i : Int)))], rfl, ?_, .inl rfl, y, _, y0, by omega, by omega, rfl⟩
      simp -implicitDefEqProofs [lb__law_spread_1, q1, q2, q3, q4, hx, q5, q6, hy, q7])
  refine ⟨t, ?_, a3⟩
  simp -implicitDefEqProofs [m__law_spread, bd__law_spread, e]
theorem pool_ok (ns : List Int) : ∃ s, m__law_pool [.fz (.scr (dI ns))] = some (.own (.ow s), [.fz (.scr (dI ns))]) ∧ PoolB s := by
  obtain ⟨ρ', e, t, a1, rfl⟩ := for_all (bs := []) (rst := [2, 3]) (g := gN 2) (b := lb__law_pool_1) (items := dI ns) (ρ := [.fz (.scr (dI ns)), .fz (.int 0), .no, .no])
    (fun i ρ => ∃ t : Int, 0 ≤ t ∧ ρ = [.fz (.scr (dI ns)), .fz (.int t), .no, .no])
    ⟨_, by decide, rfl⟩ (fun _ _ _ _ => chk_nil) (fun i d ρ hi ⟨t, h1, h2⟩ => by
      subst h2
      rw [List.getElem?_map] at hi
      obtain ⟨c, hc, rfl⟩ := Option.map_eq_some_iff.mp hi
      have q1 : IntMulOk t 1000033 := mok64 (by omega)
      obtain ⟨sp, e1, e2⟩ := spread_ok c
      by_cases hb : c - 1000000000000000000 < 0
      · refine ⟨_, .nx, [.fz (.scr (dI ns)), .fz (.int (t * 1000033 + sp)), .fz (.int c), .fz (.int sp)], rfl, ?_, .inl rfl, _, by omega, rfl⟩
        simp -implicitDefEqProofs [lb__law_pool_1, q1, e1, hb]
      · refine ⟨_, .nx, [.fz (.scr (dI ns)), .fz (.int (t * 1000033 + (c - 1000000000000000000))), .fz (.int c), .fz (.int (c - 1000000000000000000))], rfl, ?_, .inl rfl, _, by omega, rfl⟩
        simp -implicitDefEqProofs [lb__law_pool_1, q1, hb])
  refine ⟨[.int t], ?_, t, rfl, a1⟩
  simp -implicitDefEqProofs [m__law_pool, bd__law_pool, e]

def IsL (s : Sl) (xs : List D) : Prop := s = .ow xs ∨ s = .fz (.lst xs)

def dst (ws : List Int) (s : Int × Int) (p : Int) : Int × Int := (s.1 + (s.2 + ws.getD p.toNat 0), s.2 + ws.getD p.toNat 0)
def dl (ws : List Int) (tot : Int) (l : List Int) : Int × Int := l.foldl (dst ws) (tot, 0)
def dsm (ws : List Int) (L : List (List Int)) : Int := L.foldl (fun tot l => (dl ws tot l).1) 0
abbrev dL (L : List (List Int)) : List D := L.map fun l => .lst (dI l)
abbrev Val (n : Nat) (L : List (List Int)) : Prop := ∀ l ∈ L, ∀ p ∈ l, 0 ≤ p ∧ p < n
theorem dst_at {ws : List Int} {p : Int} (h : 0 ≤ p ∧ p < ws.length) : atI (dI ws) p = some (.int (ws.getD p.toNat 0)) := by
  rw [atI_pos h.1 (by simp; omega), List.getElem?_map, List.getD_eq_getElem?_getD, List.getElem?_eq_getElem (by omega)]; rfl
theorem tk_snoc {α : Type} {l : List α} {i : Nat} {x : α} (h : l[i]? = some x) : l.take (i + 1) = l.take i ++ [x] := by rw [List.take_add_one, h]; rfl
theorem lsum_ok {ws : List Int} {L : List (List Int)} (hv : Val ws.length L) (s1 : Sl) (h1 : IsL s1 (dL L)) :
    m__law_sum [.ow (dI ws), s1] = some (.val (.int (dsm ws L)), [.ow (dI ws), s1]) := by
  have f : ∀ bs, (∀ i, chk [.ow (dI ws), s1, .fz (.int i), .no, .no, .no] bs) → forD bs [3, 4, 5] (gN 3) lb__law_sum_2 (dL L) [.ow (dI ws), s1, .fz (.int 0), .no, .no, .no] = some (.nx, [.ow (dI ws), s1, .fz (.int (dsm ws L)), .no, .no, .no]) := fun bs hc => by
    have f := for_eq (bs := bs) (rst := [3, 4, 5]) (g := gN 3) (b := lb__law_sum_2) (items := dL L) (fun i => [.ow (dI ws), s1, .fz (.int (dsm ws (L.take i))), .no, .no, .no]) (fun i _ => hc _) (fun i d hi => by
      rw [List.getElem?_map] at hi
      obtain ⟨l, hl, rfl⟩ := Option.map_eq_some_iff.mp hi
      have hvl := hv l (List.mem_of_getElem? hl)
      have e : dsm ws (L.take (i + 1)) = (dl ws (dsm ws (L.take i)) l).1 := by
        rw [tk_snoc hl]; unfold dsm; rw [List.foldl_append]; rfl
      rw [e]
      generalize dsm ws (L.take i) = tot
      have f2 := for_eq (bs := []) (rst := []) (g := gN 5) (b := lb__law_sum_1) (items := dI l) (fun j => [.ow (dI ws), s1, .fz (.int ((l.take j).foldl (dst ws) (tot, 0)).1), .fz (.lst (dI l)), .fz (.int ((l.take j).foldl (dst ws) (tot, 0)).2), if j = 0 then .no else .fz (.int (l.getD (j - 1) 0))]) (fun _ _ => chk_nil) (fun j d hj => by
        rw [List.getElem?_map] at hj
        obtain ⟨p, hp, rfl⟩ := Option.map_eq_some_iff.mp hj
        have a1 := dst_at (hvl p (List.mem_of_getElem? hp))
        have e : (l.take (j + 1)).foldl (dst ws) (tot, 0) = dst ws ((l.take j).foldl (dst ws) (tot, 0)) p := by rw [tk_snoc hp, List.foldl_append]; rfl
        have e2 : l.getD (j + 1 - 1) 0 = p := by rw [Nat.add_sub_cancel, List.getD_eq_getElem?_getD, hp]; rfl
        rw [e, e2, if_neg (show ¬ j + 1 = 0 by omega)]
        have e3 : ∀ st : Int × Int, dst ws st p = (st.1 + (st.2 + ws.getD p.toNat 0), st.2 + ws.getD p.toNat 0) := fun _ => rfl
        rw [e3]
        generalize (l.take j).foldl (dst ws) (tot, 0) = st
        obtain ⟨x, y⟩ := st
        generalize ws.getD p.toNat 0 = w at *
        dsimp only
        generalize (if j = 0 then Sl.no else .fz (.int (l.getD (j - 1) 0))) = junk
        exact ⟨_, [.ow (dI ws), s1, .fz (.int (x + (y + w))), .fz (.lst (dI l)), .fz (.int (y + w)), .fz (.int p)], rfl, by simp -implicitDefEqProofs [lb__law_sum_1, a1], rfl⟩)
      simp only [List.length_map, List.take_length, List.take_zero, List.foldl_nil] at f2
      rw [if_pos trivial] at f2
      unfold dl
      generalize (if l.length = 0 then Sl.no else .fz (.int (l.getD (l.length - 1) 0))) = junk at f2
      generalize l.foldl (dst ws) (tot, 0) = st at *
      exact ⟨_, [.ow (dI ws), s1, .fz (.int st.1), .fz (.lst (dI l)), .fz (.int st.2), junk], rfl, by simp -implicitDefEqProofs [lb__law_sum_2, f2], rfl⟩)
    simp only [List.take_zero, List.length_map, List.take_length] at f
    exact f
  rcases h1 with rfl | rfl
  · have g := f [(1, dL L)] (fun i => by simp)
    generalize dL L = LL at *
    simp -implicitDefEqProofs [m__law_sum, bd__law_sum, g]
  · have g := f [] (fun i => chk_nil)
    generalize dL L = LL at *
    simp -implicitDefEqProofs [m__law_sum, bd__law_sum, g]
theorem int_ok (i : Int) : m__law_is_integer [.fz (.int i)] = some (.val (.bl true), [.fz (.int i)]) := by simp -implicitDefEqProofs [m__law_is_integer, bd__law_is_integer]
theorem self_dL (L : List (List Int)) : Self (.lst (dL L)) (.list (L.map fun l => .list (l.map .int))) ∧ (PyData.list (L.map fun l => .list (l.map .int))).depth ≤ 2 := self_map (f := fun l => .lst (dI l)) (g := fun l => .list (l.map .int)) 1 (by decide) fun a _ => self_ints a

theorem dsum_ok {ws : List Int} {L : List (List Int)} (hv : Val ws.length L) (s1 : Sl) (h1 : IsL s1 (dL L)) :
    m_division_sum [.ow (dI ws), s1] = some (.val (.int (dsm ws L)), [.ow (dI ws), s1]) := by
  have f : ∀ bs, (∀ i, chk [.ow (dI ws), s1, .fz (.int i), .no, .no, .no] bs) → forD bs [3, 4, 5] (gN 3) lb_division_sum_2 (dL L) [.ow (dI ws), s1, .fz (.int 0), .no, .no, .no] = some (.nx, [.ow (dI ws), s1, .fz (.int (dsm ws L)), .no, .no, .no]) := fun bs hc => by
    have f := for_eq (bs := bs) (rst := [3, 4, 5]) (g := gN 3) (b := lb_division_sum_2) (items := dL L) (fun i => [.ow (dI ws), s1, .fz (.int (dsm ws (L.take i))), .no, .no, .no]) (fun i _ => hc _) (fun i d hi => by
      rw [List.getElem?_map] at hi
      obtain ⟨l, hl, rfl⟩ := Option.map_eq_some_iff.mp hi
      have hvl := hv l (List.mem_of_getElem? hl)
      have e : dsm ws (L.take (i + 1)) = (dl ws (dsm ws (L.take i)) l).1 := by
        rw [tk_snoc hl]; unfold dsm; rw [List.foldl_append]; rfl
      rw [e]
      generalize dsm ws (L.take i) = tot
      have f2 := for_eq (bs := []) (rst := []) (g := gN 5) (b := lb_division_sum_1) (items := dI l) (fun j => [.ow (dI ws), s1, .fz (.int ((l.take j).foldl (dst ws) (tot, 0)).1), .fz (.lst (dI l)), .fz (.int ((l.take j).foldl (dst ws) (tot, 0)).2), if j = 0 then .no else .fz (.int (l.getD (j - 1) 0))]) (fun _ _ => chk_nil) (fun j d hj => by
        rw [List.getElem?_map] at hj
        obtain ⟨p, hp, rfl⟩ := Option.map_eq_some_iff.mp hj
        have a1 := dst_at (hvl p (List.mem_of_getElem? hp))
        have e : (l.take (j + 1)).foldl (dst ws) (tot, 0) = dst ws ((l.take j).foldl (dst ws) (tot, 0)) p := by rw [tk_snoc hp, List.foldl_append]; rfl
        have e2 : l.getD (j + 1 - 1) 0 = p := by rw [Nat.add_sub_cancel, List.getD_eq_getElem?_getD, hp]; rfl
        rw [e, e2, if_neg (show ¬ j + 1 = 0 by omega)]
        have e3 : ∀ st : Int × Int, dst ws st p = (st.1 + (st.2 + ws.getD p.toNat 0), st.2 + ws.getD p.toNat 0) := fun _ => rfl
        rw [e3]
        generalize (l.take j).foldl (dst ws) (tot, 0) = st
        obtain ⟨x, y⟩ := st
        generalize ws.getD p.toNat 0 = w at *
        dsimp only
        generalize (if j = 0 then Sl.no else .fz (.int (l.getD (j - 1) 0))) = junk
        exact ⟨_, [.ow (dI ws), s1, .fz (.int (x + (y + w))), .fz (.lst (dI l)), .fz (.int (y + w)), .fz (.int p)], rfl, by simp -implicitDefEqProofs [lb_division_sum_1, a1], rfl⟩)
      simp only [List.length_map, List.take_length, List.take_zero, List.foldl_nil] at f2
      rw [if_pos trivial] at f2
      unfold dl
      generalize (if l.length = 0 then Sl.no else .fz (.int (l.getD (l.length - 1) 0))) = junk at f2
      generalize l.foldl (dst ws) (tot, 0) = st at *
      exact ⟨_, [.ow (dI ws), s1, .fz (.int st.1), .fz (.lst (dI l)), .fz (.int st.2), junk], rfl, by simp -implicitDefEqProofs [lb_division_sum_2, f2], rfl⟩)
    simp only [List.take_zero, List.length_map, List.take_length] at f
    exact f
  rcases h1 with rfl | rfl
  · have g := f [(1, dL L)] (fun i => by simp)
    generalize dL L = LL at *
    simp -implicitDefEqProofs [m_division_sum, bd_division_sum, g]
  · have g := f [] (fun i => chk_nil)
    generalize dL L = LL at *
    simp -implicitDefEqProofs [m_division_sum, bd_division_sum, g]

/-! the division: who is dealt out, to whom, and the sum -/
theorem keyLe_tr (ms : List Int) (a b c : Nat) (h1 : keyLe ms a b = true) (h2 : keyLe ms b c = true) : keyLe ms a c = true := by
  unfold keyLe at *
  simp only [decide_eq_true_eq] at *
  omega
theorem keyLe_tot (ms : List Int) (a b : Nat) : (keyLe ms a b || keyLe ms b a) = true := by
  unfold keyLe
  simp only [Bool.or_eq_true, decide_eq_true_eq]
  omega
theorem sortK_perm (ms : List Int) (n : Nat) : (sortK ms n).Perm (List.range n) := List.mergeSort_perm _ _
theorem sortK_len (ms : List Int) (n : Nat) : (sortK ms n).length = n := by rw [(sortK_perm ms n).length_eq, List.length_range]
theorem sortK_pw (ms : List Int) (n : Nat) : (sortK ms n).Pairwise fun a b => keyLe ms a b = true := List.pairwise_mergeSort (keyLe_tr ms) (keyLe_tot ms) _
theorem range_getD (ms : List Int) : (List.range ms.length).map (fun p => ms.getD p 0) = ms := by
  apply List.ext_getElem
  · simp
  · intro i h1 h2
    simp at h1
    simp [List.getD_eq_getElem?_getD, h1]
theorem sortK_works (ms : List Int) : (sortK ms ms.length).map (fun p => ms.getD p 0) = sortDn ms := by
  refine dn_unique ?_ ?_ (sortDn_pw ms)
  · have h := (sortK_perm ms ms.length).map (fun p => ms.getD p 0)
    rw [range_getD] at h
    exact h.trans (sortDn_perm ms).symm
  · rw [List.pairwise_map]
    refine (sortK_pw ms ms.length).imp fun {a b} h => ?_
    unfold keyLe at h
    simp only [decide_eq_true_eq] at h
    omega
theorem sortK_mem {ms : List Int} {n p : Nat} (h : p ∈ sortK ms n) : p < n := by
  have := (sortK_perm ms n).mem_iff.mp h
  exact List.mem_range.mp this
def deal (k : Nat) (o : List Nat) : Nat → List (List Int)
  | 0 => List.replicate k []
  | i + 1 => (deal k o i).set (i % k) ((o.getD i 0 : Int) :: (deal k o i).getD (i % k) [])
theorem deal_s (k : Nat) (o : List Nat) (i : Nat) : deal k o (i + 1) = (deal k o i).set (i % k) ((o.getD i 0 : Int) :: (deal k o i).getD (i % k) []) := rfl
theorem deal_len (k : Nat) (o : List Nat) : ∀ i, (deal k o i).length = k
  | 0 => by simp [deal]
  | i + 1 => by unfold deal; rw [List.length_set, deal_len k o i]
theorem deal_row {k : Nat} (h0 : 0 < k) (h6 : k ≤ 6) (o : List Nat) : ∀ i j, j < k → ((deal k o i).getD j []).length = (i + k - 1 - j) / k
  | 0, j, hj => by
    have e : (deal k o 0).getD j [] = [] := by
      unfold deal
      rw [List.getD_eq_getElem?_getD, List.getElem?_replicate]
      split <;> rfl
    rw [e]
    rcases (show k = 1 ∨ k = 2 ∨ k = 3 ∨ k = 4 ∨ k = 5 ∨ k = 6 by omega) with z | z | z | z | z | z <;> subst z <;> simp <;> omega
  | i + 1, j, hj => by
    unfold deal
    have hl : i % k < (deal k o i).length := by rw [deal_len]; exact Nat.mod_lt _ h0
    have ih := deal_row h0 h6 o i
    by_cases e : i % k = j
    · rw [List.getD_eq_getElem?_getD, ← e, List.getElem?_set_self hl]
      show ((_ : Int) :: _).length = _
      rw [List.length_cons, ih _ (Nat.mod_lt _ h0)]
      rcases (show k = 1 ∨ k = 2 ∨ k = 3 ∨ k = 4 ∨ k = 5 ∨ k = 6 by omega) with z | z | z | z | z | z <;> subst z <;> omega
    · rw [List.getD_eq_getElem?_getD, List.getElem?_set_ne e, ← List.getD_eq_getElem?_getD, ih j hj]
      rcases (show k = 1 ∨ k = 2 ∨ k = 3 ∨ k = 4 ∨ k = 5 ∨ k = 6 by omega) with z | z | z | z | z | z <;> subst z <;> omega
theorem deal_mod {k : Nat} (h0 : 0 < k) (h6 : k ≤ 6) (o : List Nat) (i : Nat) : ((deal k o i).getD (i % k) []).length = i / k := by
  rw [deal_row h0 h6 o i _ (Nat.mod_lt _ h0)]
  rcases (show k = 1 ∨ k = 2 ∨ k = 3 ∨ k = 4 ∨ k = 5 ∨ k = 6 by omega) with z | z | z | z | z | z <;> subst z <;> omega
theorem set_flat {α : Type} : ∀ {L : List (List α)} {j : Nat} (x : α), j < L.length → ((L.set j (x :: L.getD j [])).flatten).Perm (x :: L.flatten)
  | l :: L, 0, x, h => by simp
  | l :: L, j + 1, x, h => by
    have ih := set_flat (L := L) (j := j) x (by simpa using h)
    have e : (l :: L).getD (j + 1) [] = L.getD j [] := by simp
    rw [e, List.set_cons_succ, List.flatten_cons, List.flatten_cons]
    exact (List.Perm.append_left l ih).trans List.perm_middle
theorem deal_perm {k : Nat} (h0 : 0 < k) {o : List Nat} : ∀ i, i ≤ o.length → ((deal k o i).flatten).Perm ((o.take i).map fun (p : Nat) => (p : Int))
  | 0, _ => by
    have : (deal k o 0).flatten = [] := by simp [deal]
    rw [this]; simp
  | i + 1, h => by
    unfold deal
    refine (set_flat _ (by rw [deal_len]; exact Nat.mod_lt _ h0)).trans ?_
    have hi : i < o.length := h
    rw [List.take_add_one, List.getElem?_eq_getElem hi, List.getD_eq_getElem?_getD, List.getElem?_eq_getElem hi, List.map_append]
    exact ((deal_perm h0 i (by omega)).cons _).trans (by simpa using (List.perm_append_singleton _ _).symm)
theorem deal_mem {k : Nat} (h0 : 0 < k) {o : List Nat} {i : Nat} (hi : i ≤ o.length) {l : List Int} (hl : l ∈ deal k o i) {p : Int} (hp : p ∈ l) : ∃ q ∈ o, p = (q : Int) := by
  have h := (deal_perm h0 i hi).mem_iff.mp (List.mem_flatten.mpr ⟨l, hl, hp⟩)
  obtain ⟨q, hq, rfl⟩ := List.mem_map.mp h
  exact ⟨q, List.mem_of_mem_take hq, rfl⟩
/-! finishing times -/
def fin (ws : List Int) : Int → List Int → Int
  | _, [] => 0
  | t, p :: l => (t + ws.getD p.toNat 0) + fin ws (t + ws.getD p.toNat 0) l
theorem fin_c (ws : List Int) (t p : Int) (l : List Int) : fin ws t (p :: l) = (t + ws.getD p.toNat 0) + fin ws (t + ws.getD p.toNat 0) l := rfl
theorem fin_add (ws : List Int) (s : Int) : ∀ (l : List Int) (t : Int), fin ws (t + s) l = fin ws t l + s * l.length
  | [], t => by simp [fin]
  | p :: l, t => by
    rw [fin_c, fin_c, show t + s + ws.getD p.toNat 0 = t + ws.getD p.toNat 0 + s by omega, fin_add ws s l]
    rw [List.length_cons]
    push_cast
    rw [Int.mul_add]
    omega
theorem dl_fin (ws : List Int) : ∀ (l : List Int) (tot t : Int), (l.foldl (dst ws) (tot, t)).1 = tot + fin ws t l
  | [], tot, t => by simp [fin]
  | p :: l, tot, t => by
    rw [List.foldl_cons]
    show (l.foldl (dst ws) (tot + (t + ws.getD p.toNat 0), t + ws.getD p.toNat 0)).1 = _
    rw [dl_fin ws l, fin_c]
    omega
theorem dsm_fin (ws : List Int) : ∀ (L : List (List Int)) (tot : Int), L.foldl (fun tot l => (dl ws tot l).1) tot = tot + (L.map (fin ws 0)).sum
  | [], tot => by simp
  | l :: L, tot => by
    rw [List.foldl_cons, dsm_fin ws L, List.map_cons, List.sum_cons]
    unfold dl
    rw [dl_fin]
    omega
theorem dsm_eq (ws : List Int) (L : List (List Int)) : dsm ws L = (L.map (fin ws 0)).sum := by
  unfold dsm
  rw [dsm_fin]; omega
theorem fin_cons (ws : List Int) (p : Int) (l : List Int) : fin ws 0 (p :: l) = fin ws 0 l + ws.getD p.toNat 0 * (l.length + 1) := by
  rw [fin_c]
  have h := fin_add ws (ws.getD p.toNat 0) l 0
  rw [h, Int.zero_add, Int.mul_add]
  omega
theorem sum_set {f : List Int → Int} : ∀ {L : List (List Int)} {j : Nat} (x : List Int), j < L.length → ((L.set j x).map f).sum = (L.map f).sum - f (L.getD j []) + f x
  | l :: L, 0, x, h => by simp; omega
  | l :: L, j + 1, x, h => by
    have ih := sum_set (f := f) (L := L) (j := j) x (by simpa using h)
    have e : (l :: L).getD (j + 1) [] = L.getD j [] := by simp
    rw [e, List.set_cons_succ, List.map_cons, List.map_cons, List.sum_cons, List.sum_cons, ih]
    omega
def due (k : Nat) (l : List Int) : Int := ((List.range l.length).map fun i => l.getD i 0 * (((i / k : Nat) : Int) + 1)).sum
theorem due_snoc (k : Nat) (l : List Int) (x : Int) : due k (l ++ [x]) = due k l + x * (((l.length / k : Nat) : Int) + 1) := by
  unfold due
  rw [List.length_append, List.length_singleton, List.range_succ, List.map_append, List.sum_append]
  congr 1
  · congr 1
    refine List.map_congr_left fun i hi => ?_
    have := List.mem_range.mp hi
    rw [List.getD_eq_getElem?_getD, List.getElem?_append_left this, ← List.getD_eq_getElem?_getD]
  · simp
theorem deal_sum {ws : List Int} {k : Nat} (h0 : 0 < k) (h6 : k ≤ 6) {o : List Nat} : ∀ i, i ≤ o.length → dsm ws (deal k o i) = due k ((o.take i).map fun p => ws.getD p 0)
  | 0, _ => by
    rw [dsm_eq]
    have : ∀ n, ((List.replicate n ([] : List Int)).map (fin ws 0)).sum = 0 := fun n => by
      induction n with
      | zero => rfl
      | succ n ih => rw [List.replicate_succ, List.map_cons, List.sum_cons, ih]; rfl
    unfold deal
    rw [this]; rfl
  | i + 1, h => by
    have hi : i < o.length := h
    have ih := deal_sum (ws := ws) h0 h6 (o := o) i (by omega)
    rw [dsm_eq] at ih ⊢
    unfold deal
    rw [sum_set _ (by rw [deal_len]; exact Nat.mod_lt _ h0), fin_cons, ih, List.take_add_one, List.getElem?_eq_getElem hi, List.map_append]
    show _ = due k (_ ++ [ws.getD o[i] 0])
    rw [due_snoc, List.length_map, List.length_take, Nat.min_eq_left (by omega), deal_mod h0 h6]
    rw [List.getD_eq_getElem?_getD (l := o), List.getElem?_eq_getElem hi]
    show _ - _ + (_ + ws.getD ((o[i] : Int)).toNat 0 * _) = _
    rw [Int.toNat_natCast]
    omega
theorem deal_due {ws : List Int} {k : Nat} (h0 : 0 < k) (h6 : k ≤ 6) : dsm ws (deal k (sortK ws ws.length) ws.length) = due k (sortDn ws) := by
  rw [deal_sum h0 h6 _ (by rw [sortK_len]; exact Nat.le_refl _), List.take_of_length_le (by rw [sortK_len]; exact Nat.le_refl _), sortK_works]

/-! division -/
theorem lsI_isL {ws : List Int} {s : Sl} (h : IsL s (dI ws)) (r : List Sl) : lsI (s :: r) 0 = some ws := by
  rcases h with rfl | rfl <;> simp [lsI, lsv, rsl, Sl.ls]
theorem enum_at {o : List Int} {i : Nat} {d : D} (h : (enumD (dI o))[i]? = some d) : ∃ p, o[i]? = some p ∧ d = .tup [.int (i : Int), .int p] := by
  unfold enumD at h
  rw [List.getElem?_map, List.getElem?_zipIdx, List.getElem?_map] at h
  cases e : o[i]? with
  | none => rw [e] at h; cases h
  | some p => rw [e] at h; refine ⟨p, rfl, ?_⟩; simp at h; exact h.symm
theorem enumD_len (xs : List D) : (enumD xs).length = xs.length := by unfold enumD; simp
abbrev nlS (L : List (List Int)) : List Sl := (L.map dI).map Sl.ow
theorem division_ok {ws : List Int} {k : Nat} (h0 : 0 < k) (h6 : k ≤ 6) (hl : ws.length ≤ 1000) (s : Sl) (hs : IsL s (dI ws)) :
    m_division [s, .fz (.int k)] = some (.own (.nl (nlS (deal k (sortK ws ws.length) ws.length))), [s, .fz (.int k)]) := by
  have c0 := compO_run (bs := []) (vs := [6]) (g := gN 6) (t := tTrue) (m := ce_division_1) (items := rgD 0 k) (ρ := [s, .fz (.int k), .no, .no, .no, .no, .no])
    (fun d => some (.ow [])) chk_nil (by simp; omega) (fun d hd => ⟨_, true, _, rfl, rfl, .own (.ow []), [s, .fz (.int k), .no, .no, .no, .no, .fz d], .ow [], by simp -implicitDefEqProofs [ce_division_1], rfl, rfl, rfl⟩)
  have w : (rgD 0 k).filterMap (fun d => some (Sl.ow [])) = nlS (List.replicate k []) := by
    simp [rgD_eq, Function.comp_def, List.map_const']
  rw [w] at c0
  obtain ⟨o, ho⟩ : ∃ o, sortK ws ws.length = o := ⟨_, rfl⟩
  have ol : o.length = ws.length := by rw [← ho, sortK_len]
  obtain ⟨oi, hoi⟩ : ∃ oi : List Int, o.map (fun (p : Nat) => (p : Int)) = oi := ⟨_, rfl⟩
  have od : o.map (fun (i : Nat) => D.int i) = dI oi := by
    rw [← hoi]
    show _ = List.map D.int (List.map _ o)
    rw [List.map_map]; rfl
  have oil : oi.length = ws.length := by rw [← hoi, List.length_map, ol]
  have f : forD [(3, dI oi)] [4, 5] (gT [4, 5]) lb_division_2 (enumD (dI oi)) [s, .fz (.int k), .nl (nlS (List.replicate k [])), .ow (dI oi), .no, .no, .no] =
      some (.nx, [s, .fz (.int k), .nl (nlS (deal k o ws.length)), .ow (dI oi), .no, .no, .no]) := by
    have f := for_eq (bs := [(3, dI oi)]) (rst := [4, 5]) (g := gT [4, 5]) (b := lb_division_2) (items := enumD (dI oi)) (fun i => [s, .fz (.int k), .nl (nlS (deal k o i)), .ow (dI oi), .no, .no, .no]) (fun i _ => by simp) (fun i d hi => by
      obtain ⟨p, hp, rfl⟩ := enum_at hi
      have hil : i < ws.length := by have := (List.getElem?_eq_some_iff.mp hp).1; omega
      obtain ⟨pn, hpn⟩ : ∃ pn : Nat, o.getD i 0 = pn ∧ p = (pn : Int) := by
        refine ⟨_, rfl, ?_⟩
        rw [← hoi, List.getElem?_map, List.getElem?_eq_getElem (by omega)] at hp
        rw [List.getD_eq_getElem?_getD, List.getElem?_eq_getElem (by omega)]
        exact (Option.some.inj hp).symm
      obtain ⟨hpn1, rfl⟩ := hpn
      have hj : i % k < k := Nat.mod_lt _ h0
      have dl := deal_len k o i
      have b1 : (nlS (deal k o i))[i % k]? = some (.ow (dI ((deal k o i).getD (i % k) []))) := by
        rw [List.getElem?_map, List.getElem?_map, List.getD_eq_getElem?_getD, List.getElem?_eq_getElem (by omega)]; rfl
      have b2 : (nlS (deal k o i)).set (i % k) (.ow (.int pn :: dI ((deal k o i).getD (i % k) []))) = nlS (deal k o (i + 1)) := by
        rw [deal_s]
        show _ = List.map Sl.ow (List.map dI (List.set _ _ _))
        rw [List.map_set, List.map_set, hpn1]; rfl
      have b4 : (dI ((deal k o i).getD (i % k) [])).length < 1000000 := by
        rw [List.length_map, deal_mod h0 h6]
        have := Nat.div_le_self i k
        omega
      have b5 : toDL (nlS (deal k o i)) = some (((deal k o i).map dI).map D.lst) := toDL_ows _
      have b6 : (nlS (deal k o i)).length = k := by simp [dl]
      have b3 : ixN k ((i : Int) % (k : Int)) = some (i % k) := by
        rw [← Int.natCast_emod, ixN_pos (by omega) (by omega), Int.toNat_natCast]
      have b8 : insF (dI ((deal k o i).getD (i % k) [])) [.int 0, .int pn] = some (.non, .int pn :: dI ((deal k o i).getD (i % k) [])) := by
        have h : (dI ((deal k o i).getD (i % k) [])).length < sizeLine ∧ (0 : Int) ≤ 0 ∧ (0 : Int) < 2 ^ 63 := ⟨by rw [sizeLine_eq]; omega, by decide, by decide⟩
        rw [r_insF]
        unfold ifc
        rw [if_pos h]; rfl
      have kd : 0 < (k : Int) ∧ (k : Int).natAbs.log2 < 9000 := div_ok (by omega) (by omega)
      rw [← b2]
      generalize dI ((deal k o i).getD (i % k) []) = qd at *
      generalize nlS (deal k o i) = QQ at *
      generalize ((deal k o i).map dI).map D.lst = DD at *
      refine ⟨_, [s, .fz (.int k), .nl (QQ.set (i % k) (.ow (.int pn :: qd))), .ow (dI oi), .fz (.int i), .fz (.int pn), .no], rfl, ?_, rfl⟩
      generalize dI oi = OO at *
      rcases hs with rfl | rfl <;> simp -implicitDefEqProofs [lb_division_2, b5, b6, b3, b1, b8, kd, h0])
    simp only [enumD_len, List.length_map, oil] at f
    exact f
  have l1 := lsI_isL hs [.fz (.int k), .nl (nlS (List.replicate k [])), .no, .no, .no, .no]
  have g : -4611686018427387904 ≤ (k : Int) ∧ (k : Int) < 4611686018427387904 := by omega
  have g2 : (0 : Int) ≤ (ws.length : Int) ∧ (ws.length : Int) ≤ ws.length ∧ ws.length ≤ 16777216 := by omega
  have lw : ws.length < 1000000 := by omega
  rw [ho]
  generalize nlS (deal k o ws.length) = R1 at *
  generalize nlS (List.replicate k []) = R0 at *
  rcases hs with rfl | rfl
  · simp -implicitDefEqProofs [m_division, bd_division, c0, l1, g, g2, ho, od, f]
  · simp -implicitDefEqProofs [m_division, bd_division, c0, l1, g, g2, ho, od, f]

/-! k52 -/
theorem comp_due {bs : List (Nat × List D)} {vs : List Nat} {g : D → List Sl → Option (List Sl)} {m : M} {items : List D} {ρ : List Sl} {l : List Int} {k : Nat} (hc : chk ρ bs) (hl : items.length = l.length) (hl2 : l.length ≤ 1000000)
    (hs : ∀ (i : Nat) (x : Int) (d : D), l[i]? = some x → items[i]? = some d → ∃ ρ1 ρ3, g d ρ = some ρ1 ∧ m ρ1 = some (.val (.int (x * (((i / k : Nat) : Int) + 1))), ρ3) ∧ wipeS ρ3 vs = ρ) :
    ∃ out : List Int, compD bs vs g tTrue m items [] ρ = some (dI out, ρ) ∧ out.sum = due k l := by
  obtain ⟨out, ρ', e, e1, e2⟩ := comp_run (bs := bs) (vs := vs) (g := g) (t := tTrue) (m := m) (items := items) (ρ := ρ) (fun i acc r => acc = dI ((List.range i).map fun i => l.getD i 0 * (((i / k : Nat) : Int) + 1)) ∧ r = ρ) ⟨rfl, rfl⟩ (fun i acc r _ h => by rw [h.2]; exact hc) (by omega)
    (fun i acc r h => by rw [h.1]; simp) fun i d acc r hi h => by
      obtain ⟨h1, h2⟩ := h
      subst h1; subst h2
      have hil : i < l.length := by rw [← hl]; exact (List.getElem?_eq_some_iff.mp hi).1
      obtain ⟨ρ1, ρ3, a1, a2, a3⟩ := hs i l[i] d (List.getElem?_eq_getElem hil) hi
      refine ⟨ρ1, true, ρ1, a1, rfl, ?_⟩
      rw [if_pos rfl]
      refine ⟨_, ρ3, _, ρ3, a2, rfl, ?_, a3⟩
      rw [List.range_succ, List.map_append]
      show _ = List.map D.int (_ ++ _)
      rw [List.map_append]
      congr 1
      show _ = [D.int (l.getD i 0 * _)]
      rw [List.getD_eq_getElem?_getD, List.getElem?_eq_getElem hil]; rfl
  subst e2
  refine ⟨_, by rw [e, e1], ?_⟩
  rw [hl]; rfl
theorem dn_at {ws : List Int} (hw : ∀ w ∈ ws, 1 ≤ w ∧ w ≤ 60) {i : Nat} {x : Int} (h : (sortDn ws)[i]? = some x) : 1 ≤ x ∧ x ≤ 60 ∧ i < ws.length :=
  ⟨(hw x (sortDn_mem.mp (List.mem_of_getElem? h))).1, (hw x (sortDn_mem.mp (List.mem_of_getElem? h))).2, by have := (List.getElem?_eq_some_iff.mp h).1; simpa using this⟩
theorem least_ok {ws : List Int} {k : Nat} (h0 : 0 < k) (h6 : k ≤ 6) (hl : ws.length ≤ 1000) (hw : ∀ w ∈ ws, 1 ≤ w ∧ w ≤ 60) (s : Sl) (hs : IsL s (dI ws)) :
    m_least_sum [s, .fz (.int k)] = some (.val (.int (due k (sortDn ws))), [s, .fz (.int k)]) := by
  have kd : 0 < (k : Int) ∧ (k : Int).natAbs.log2 < 9000 := div_ok (by omega) (by omega)
  have kl : k.log2 < 9000 := by simpa using kd.2
  obtain ⟨out, c1, c2⟩ := comp_due (bs := [(2, dI (sortDn ws))]) (vs := [3, 4]) (g := gT [3, 4]) (m := ce_least_sum_1) (items := enumD (dI (sortDn ws))) (ρ := [s, .fz (.int k), .ow (dI (sortDn ws)), .no, .no]) (l := sortDn ws) (k := k) (by simp) (by rw [enumD_len]; simp) (by simp; omega) (fun i x d h1 h2 => by
    obtain ⟨p, hp, rfl⟩ := enum_at h2
    rw [h1] at hp
    cases hp
    obtain ⟨x1, x2, il⟩ := dn_at hw h1
    have q1 : IntMulOk ((i : Int) / (k : Int) + 1) x := mok64 (.inr (by omega))
    generalize dI (sortDn ws) = W at *
    refine ⟨_, [s, .fz (.int k), .ow W, .fz (.int i), .fz (.int x)], rfl, ?_, rfl⟩
    have cm : ((i : Int) / (k : Int) + 1) * x = x * (((i / k : Nat) : Int) + 1) := by rw [Int.mul_comm, Int.natCast_ediv]
    rw [← cm]
    rcases hs with rfl | rfl <;> simp -implicitDefEqProofs [ce_least_sum_1, kl, h0, q1])
  have e : sortDL (dI ws) = some (.own (.ow (dI (sortDn ws)))) := sortDL_dI ws
  have e2 : sumL (dI out) = some (.val (.int out.sum)) := sumL_dI out
  rw [c2] at e2
  have lw : ws.length ≤ 1000000 := by omega
  generalize dI out = OO at *
  generalize dI (sortDn ws) = W at *
  rcases hs with rfl | rfl
  · simp -implicitDefEqProofs [m_least_sum, bd_least_sum, e, c1, e2, lw]
  · simp -implicitDefEqProofs [m_least_sum, bd_least_sum, e, c1, e2, lw]

theorem isdivO_ok {ws : List Int} {k : Nat} {L : List (List Int)} (hk : L.length = k) (hp : L.flatten.Perm ((List.range ws.length).map fun (p : Nat) => (p : Int))) (hl : ws.length ≤ 1000) :
    m__law_is_division [.ow (dI ws), .fz (.int k), .fz (.lst (dL L))] = some (.val (.bl true), [.ow (dI ws), .fz (.int k), .fz (.lst (dL L))]) := by
  have flen : L.flatten.length = ws.length := by rw [hp.length_eq]; simp
  have f := for_eq (bs := []) (rst := [4, 5]) (g := gN 4) (b := lb__law_is_division_2) (items := dL L) (fun i => [.ow (dI ws), .fz (.int k), .fz (.lst (dL L)), .ow (dI (L.take i).flatten), .no, .no]) (fun i _ => chk_nil) (fun i d hi => by
    rw [List.getElem?_map] at hi
    obtain ⟨l, hl', rfl⟩ := Option.map_eq_some_iff.mp hi
    have tl : (L.take i).flatten.length + l.length ≤ ws.length := by
      rw [← flen]
      have : (L.take (i + 1)).flatten.length ≤ L.flatten.length := by
        have e := congrArg List.flatten (List.take_append_drop (i + 1) L)
        rw [List.flatten_append] at e
        have := congrArg List.length e
        rw [List.length_append] at this
        omega
      rw [tk_snoc hl', List.flatten_append, List.length_append] at this
      simpa using this
    rw [tk_snoc hl', List.flatten_append]
    simp only [List.flatten_cons, List.flatten_nil, List.append_nil]
    generalize (L.take i).flatten = F at *
    have f2 := for_eq (bs := []) (rst := []) (g := gN 5) (b := lb__law_is_division_1) (items := dI l) (fun j => [.ow (dI ws), .fz (.int k), .fz (.lst (dL L)), .ow (dI (F ++ l.take j)), .fz (.lst (dI l)), if j = 0 then .no else .fz (.int (l.getD (j - 1) 0))]) (fun _ _ => chk_nil) (fun j d hj => by
      rw [List.getElem?_map] at hj
      obtain ⟨p, hp', rfl⟩ := Option.map_eq_some_iff.mp hj
      have e2 : l.getD (j + 1 - 1) 0 = p := by rw [Nat.add_sub_cancel, List.getD_eq_getElem?_getD, hp']; rfl
      have jl := (List.getElem?_eq_some_iff.mp hp').1
      rw [e2, if_neg (show ¬ j + 1 = 0 by omega), tk_snoc hp']
      have lt : (dI (F ++ l.take j)).length < 1000000 := by rw [List.length_map, List.length_append, List.length_take]; omega
      have e3 : dI (F ++ (l.take j ++ [p])) = dI (F ++ l.take j) ++ [.int p] := by simp
      rw [e3]
      generalize dI (F ++ l.take j) = A at *
      generalize dI ws = WW at *
      generalize dL L = LL at *
      generalize (if j = 0 then Sl.no else .fz (.int (l.getD (j - 1) 0))) = junk
      exact ⟨_, [.ow WW, .fz (.int k), .fz (.lst LL), .ow (A ++ [.int p]), .fz (.lst (dI l)), .fz (.int p)], rfl, by simp -implicitDefEqProofs [lb__law_is_division_1, lt], rfl⟩)
    simp only [List.length_map, List.take_length, List.take_zero, List.append_nil] at f2
    rw [if_pos trivial] at f2
    generalize (if l.length = 0 then Sl.no else .fz (.int (l.getD (l.length - 1) 0))) = junk at f2
    generalize dI (F ++ l) = A at *
    generalize dI F = B at *
    generalize dI ws = WW at *
    generalize dL L = LL at *
    exact ⟨_, [.ow WW, .fz (.int k), .fz (.lst LL), .ow A, .fz (.lst (dI l)), junk], rfl, by simp -implicitDefEqProofs [lb__law_is_division_2, f2], rfl⟩)
  simp only [List.take_zero, List.flatten_nil, List.length_map, List.take_length] at f
  have e1 : sortAny (dI L.flatten) = some (.own (.ow (dI (sortUp L.flatten)))) := sortAny_dI L.flatten
  have e2 : sortUp L.flatten = (List.range ws.length).map fun (p : Nat) => (p : Int) := up_unique ((sortUp_perm _).trans hp) (sortUp_pw _) (by
    rw [List.pairwise_map]
    exact List.pairwise_lt_range.imp fun h => by omega)
  rw [e2] at e1
  have e3 : rgD 0 ws.length = dI ((List.range ws.length).map fun (p : Nat) => (p : Int)) := by rw [rgD_eq]; simp
  have q : eqD false (.lst (dI ((List.range ws.length).map fun (p : Nat) => (p : Int)))) (.lst (dI ((List.range ws.length).map fun (p : Nat) => (p : Int)))) = some (.bl (decide (((List.range ws.length).map fun (p : Nat) => (p : Int)) = ((List.range ws.length).map fun (p : Nat) => (p : Int))) != false)) := eqD_ints false ((List.range ws.length).map fun (p : Nat) => (p : Int)) ((List.range ws.length).map fun (p : Nat) => (p : Int))
  have lk : (dL L).length = k := by simp [hk]
  have g : -4611686018427387904 ≤ (ws.length : Int) ∧ (ws.length : Int) < 4611686018427387904 ∧ ws.length ≤ 16777216 := by omega
  have wl : (dI ws).length = ws.length := by simp
  have nl : dI ([] : List Int) = [] := rfl
  rw [nl] at f
  generalize dI ((List.range ws.length).map fun (p : Nat) => (p : Int)) = R at *
  generalize dI L.flatten = FF at *
  generalize dI ws = WW at *
  generalize dL L = LL at *
  simp -implicitDefEqProofs [m__law_is_division, bd__law_is_division, f, e1, e3, q, lk, g, wl]

/-! comprehensions over a mapped list -/
theorem comp_filL {α : Type} {bs : List (Nat × List D)} {vs : List Nat} {gg : D → List Sl → Option (List Sl)} {t : MT} {m : M} {ρ : List Sl} {l : List α} (f : α → D) (b : α → Bool) (g : α → D) (hc : chk ρ bs) (hl : l.length ≤ 1000000)
    (hs : ∀ a ∈ l, ∃ ρ1 ρ2, gg (f a) ρ = some ρ1 ∧ t ρ1 = some (b a, ρ2) ∧ (b a = false → wipeS ρ2 vs = ρ) ∧ (b a = true → ∃ r ρ3 ρ4, m ρ2 = some (r, ρ3) ∧ frz1 ρ3 r = some (g a, ρ4) ∧ wipeS ρ4 vs = ρ)) :
    compD bs vs gg t m (l.map f) [] ρ = some ((l.filter b).map g, ρ) := by
  obtain ⟨out, ρ', e, e1, e2⟩ := comp_run (bs := bs) (vs := vs) (g := gg) (t := t) (m := m) (items := l.map f) (ρ := ρ) (fun i acc r => acc = ((l.take i).filter b).map g ∧ r = ρ) ⟨by simp, rfl⟩ (fun i acc r _ h => by rw [h.2]; exact hc) (by rw [List.length_map]; exact hl)
    (fun i acc r h => by
      rw [h.1, List.length_map]
      have := List.length_filter_le b (l.take i)
      rw [List.length_take] at this
      omega) fun i d acc r hi h => by
      obtain ⟨h1, h2⟩ := h
      subst h1; subst h2
      rw [List.getElem?_map] at hi
      obtain ⟨a, ha, rfl⟩ := Option.map_eq_some_iff.mp hi
      obtain ⟨ρ1, ρ2, g1, g2, g3, g4⟩ := hs a (List.mem_of_getElem? ha)
      have e : l.take (i + 1) = l.take i ++ [a] := by rw [List.take_add_one, ha]; rfl
      refine ⟨ρ1, b a, ρ2, g1, g2, ?_⟩
      cases hb : b a with
      | true =>
        rw [if_pos rfl]
        obtain ⟨x, ρ3, ρ4, q1, q2, q3⟩ := g4 hb
        exact ⟨x, ρ3, _, ρ4, q1, q2, by rw [e, List.filter_append, List.map_append]; simp [hb], q3⟩
      | false =>
        rw [if_neg (by decide)]
        exact ⟨by rw [e, List.filter_append]; simp [hb], g3 hb⟩
  subst e2
  rw [e, e1, List.length_map, List.take_length]
theorem comp_mapL {α : Type} {bs : List (Nat × List D)} {vs : List Nat} {gg : D → List Sl → Option (List Sl)} {m : M} {ρ : List Sl} {l : List α} (f g : α → D) (hc : chk ρ bs) (hl : l.length ≤ 1000000)
    (hs : ∀ a ∈ l, ∃ ρ1 r ρ3 ρ4, gg (f a) ρ = some ρ1 ∧ m ρ1 = some (r, ρ3) ∧ frz1 ρ3 r = some (g a, ρ4) ∧ wipeS ρ4 vs = ρ) :
    compD bs vs gg tTrue m (l.map f) [] ρ = some (l.map g, ρ) := by
  have h := comp_filL (bs := bs) (vs := vs) (gg := gg) (t := tTrue) (m := m) (ρ := ρ) (l := l) f (fun _ => true) g hc hl (fun a ha => by
    obtain ⟨ρ1, r, ρ3, ρ4, h1, h2, h3, h4⟩ := hs a ha
    exact ⟨ρ1, ρ1, h1, rfl, (fun h => by cases h), (fun _ => ⟨r, ρ3, ρ4, h2, h3, h4⟩)⟩)
  have e : l.filter (fun _ => true) = l := List.filter_eq_self.mpr fun _ _ => rfl
  rw [h, e]

/-! the sum by turns by levels; no lists of so many hands have less -/
theorem drop_least : ∀ {s : List Int} {m : Nat} {A B : List Int}, s.Pairwise (· ≥ ·) → (∀ x ∈ s, 0 ≤ x) → (A ++ B).Perm s → A.length ≤ m → (s.drop m).sum ≤ B.sum
  | s, 0, A, B, hp, hn, h, hl => by
    have : A = [] := by
      cases A with
      | nil => rfl
      | cons a A => simp at hl
    subst this
    have := perm_sum h
    rw [List.nil_append] at this
    rw [List.drop_zero]
    omega
  | [], m + 1, A, B, hp, hn, h, hl => by
    have e := h.eq_nil
    have : B = [] := by
      cases B with
      | nil => rfl
      | cons b B => simp at e
    subst this; simp
  | x :: t, m + 1, A, B, hp, hn, h, hl => by
    rw [List.drop_succ_cons]
    have ht := List.pairwise_cons.mp hp
    have hx0 := hn x (by simp)
    have hnt : ∀ y ∈ t, 0 ≤ y := fun y hy => hn y (by simp [hy])
    have hx : x ∈ A ++ B := h.mem_iff.mpr (by simp)
    rcases List.mem_append.mp hx with z | z
    · obtain ⟨A', hA⟩ : ∃ A', A.Perm (x :: A') := ⟨A.erase x, List.perm_cons_erase z⟩
      have h2 : (A' ++ B).Perm t := ((hA.append_right B).symm.trans h).cons_inv
      have := hA.length_eq
      rw [List.length_cons] at this
      exact drop_least ht.2 hnt h2 (by omega)
    · obtain ⟨B', hB⟩ : ∃ B', B.Perm (x :: B') := ⟨B.erase x, List.perm_cons_erase z⟩
      have sB := perm_sum hB
      rw [List.sum_cons] at sB
      have h2 : (A ++ B').Perm t := (List.perm_middle.symm.trans ((hB.symm.append_left A).trans h)).cons_inv
      cases A with
      | nil => have := drop_least (m := m) (A := []) ht.2 hnt h2 (by simp); omega
      | cons a A' =>
        have ha : a ≤ x := ht.1 a (h2.mem_iff.mp (by simp))
        have h3 : (A' ++ (a :: B')).Perm t := List.perm_middle.trans h2
        rw [List.length_cons] at hl
        have := drop_least (m := m) ht.2 hnt h3 (by omega)
        rw [List.sum_cons] at this; omega
theorem sum_none (N : Nat) : ((List.range N).map fun _ => (0 : Int)).sum = 0 := by
  induction N with
  | zero => rfl
  | succ N ih => rw [List.range_succ, List.map_append, List.sum_append, ih]; rfl
theorem sum_upto (x : Int) (q : Nat) : ∀ N : Nat, ((List.range N).map fun j => if j ≤ q then x else 0).sum = x * ((min N (q + 1) : Nat) : Int)
  | 0 => by simp
  | N + 1 => by
    rw [List.range_succ, List.map_append, List.sum_append, sum_upto x q N]
    show _ + ((if N ≤ q then x else 0) + 0) = _
    by_cases h : N ≤ q
    · rw [if_pos h, Nat.min_eq_left (by omega), Nat.min_eq_left (by omega)]; push_cast; rw [Int.mul_add]; omega
    · rw [if_neg h, Nat.min_eq_right (by omega), Nat.min_eq_right (by omega)]; omega
theorem sum_plus (l : List Nat) (f g : Nat → Int) : (l.map fun j => f j + g j).sum = (l.map f).sum + (l.map g).sum := by
  induction l with
  | nil => rfl
  | cons a l ih => rw [List.map_cons, List.sum_cons, ih, List.map_cons, List.map_cons, List.sum_cons, List.sum_cons]; omega
theorem sum_mono {l : List Nat} {f g : Nat → Int} (h : ∀ j ∈ l, f j ≤ g j) : (l.map f).sum ≤ (l.map g).sum := by
  induction l with
  | nil => exact Int.le_refl _
  | cons a l ih =>
    have h1 := h a (by simp)
    have h2 := ih fun j hj => h j (by simp [hj])
    rw [List.map_cons, List.map_cons, List.sum_cons, List.sum_cons]; omega
def lay (k N : Nat) (r : List Int) : Int := ((List.range N).map fun j => (r.drop (j * k)).sum).sum
theorem drop_snoc (l : List Int) (x : Int) (m : Nat) : ((l ++ [x]).drop m).sum = (l.drop m).sum + if m ≤ l.length then x else 0 := by
  by_cases h : m ≤ l.length
  · rw [List.drop_append_of_le_length h, List.sum_append, if_pos h]; simp
  · rw [List.drop_eq_nil_of_le (by simp; omega), List.drop_eq_nil_of_le (by omega), if_neg h]; simp
theorem due_lay {k : Nat} (h0 : 0 < k) {N : Nat} (r : List Int) : r.length ≤ N → due k r = lay k N r := by
  induction r using snocRec with
  | h0 =>
    intro _
    have e := sum_none N
    unfold due lay
    simp only [List.drop_nil, List.sum_nil, e]
    rfl
  | h l x ih =>
    intro h
    rw [List.length_append, List.length_singleton] at h
    rw [due_snoc, ih (by omega)]
    unfold lay
    have e : ∀ j, ((l ++ [x]).drop (j * k)).sum = (l.drop (j * k)).sum + if j ≤ l.length / k then x else 0 := fun j => by
      rw [drop_snoc]
      congr 1
      have := Nat.le_div_iff_mul_le (x := j) (y := l.length) h0
      by_cases c : j * k ≤ l.length
      · rw [if_pos c, if_pos (this.mpr c)]
      · rw [if_neg c, if_neg fun z => c (this.mp z)]
    simp only [e]
    rw [sum_plus, sum_upto, Nat.min_eq_right (by have := Nat.div_le_self l.length k; omega)]
    push_cast
    rfl
def vals (ws : List Int) (l : List Int) : List Int := l.map fun p => ws.getD p.toNat 0
theorem fin_due (ws : List Int) : ∀ l, fin ws 0 l = due 1 (vals ws l).reverse
  | [] => rfl
  | p :: l => by
    rw [fin_cons, fin_due ws l]
    show _ = due 1 (ws.getD p.toNat 0 :: vals ws l).reverse
    rw [List.reverse_cons, due_snoc, List.length_reverse]
    unfold vals
    rw [List.length_map, Nat.div_one]
theorem sum_swap (N : Nat) (f : List Int → Nat → Int) : ∀ R : List (List Int), (R.map fun r => ((List.range N).map (f r)).sum).sum = ((List.range N).map fun j => (R.map fun r => f r j).sum).sum
  | [] => (sum_none N).symm
  | r :: R => by
    have ih := sum_swap N f R
    simp only [List.map_cons, List.sum_cons]
    rw [ih, ← sum_plus]
theorem flat_td (j : Nat) : ∀ R : List (List Int), ((R.map (List.take j)).flatten ++ (R.map (List.drop j)).flatten).Perm R.flatten
  | [] => .refl _
  | r :: R => by
    have ih := flat_td j R
    simp only [List.map_cons, List.flatten_cons]
    generalize (R.map (List.take j)).flatten = FT at *
    generalize (R.map (List.drop j)).flatten = FD at *
    have h1 : ((r.take j ++ FT) ++ (r.drop j ++ FD)).Perm ((r.take j ++ r.drop j) ++ (FT ++ FD)) := by
      simp only [List.append_assoc]
      refine List.Perm.append_left _ ?_
      rw [← List.append_assoc, ← List.append_assoc]
      exact List.perm_append_comm.append_right _
    rw [List.take_append_drop] at h1
    exact h1.trans (ih.append_left r)
theorem take_flat_len (j : Nat) : ∀ R : List (List Int), ((R.map (List.take j)).flatten).length ≤ R.length * j
  | [] => by simp
  | r :: R => by
    have ih := take_flat_len j R
    simp only [List.map_cons, List.flatten_cons, List.length_append, List.length_take, List.length_cons]
    rw [Nat.add_mul]
    omega
theorem flat_sum : ∀ R : List (List Int), R.flatten.sum = (R.map List.sum).sum
  | [] => rfl
  | r :: R => by rw [List.flatten_cons, List.sum_append, flat_sum R, List.map_cons, List.sum_cons]
theorem due_rows {s : List Int} {k : Nat} (h0 : 0 < k) (hp : s.Pairwise (· ≥ ·)) (hn : ∀ x ∈ s, 0 ≤ x) {R : List (List Int)} (hR : R.flatten.Perm s) (hk : R.length ≤ k) : due k s ≤ (R.map (due 1)).sum := by
  rw [due_lay h0 s (Nat.le_refl _)]
  have e : ∀ r ∈ R, due 1 r = lay 1 s.length r := fun r hr => due_lay (by decide) r (by
    have := (List.sublist_flatten_of_mem hr).length_le
    have := hR.length_eq
    omega)
  rw [List.map_congr_left e]
  unfold lay
  rw [sum_swap]
  refine sum_mono fun j hj => ?_
  have t1 := flat_td (j * 1) R
  have t2 := take_flat_len (j * 1) R
  have t3 := drop_least (m := j * k) hp hn (t1.trans hR) (by
    refine Nat.le_trans t2 ?_
    rw [Nat.mul_one, Nat.mul_comm]
    exact Nat.mul_le_mul_left _ hk)
  rw [flat_sum, List.map_map] at t3
  exact t3
theorem flat_rev (f : List Int → List Int) : ∀ L : List (List Int), ((L.map fun l => (f l).reverse).flatten).Perm ((L.map f).flatten)
  | [] => .refl _
  | l :: L => by
    simp only [List.map_cons, List.flatten_cons]
    exact (List.reverse_perm _).append (flat_rev f L)
theorem flat_vals (ws : List Int) : ∀ L : List (List Int), (L.map (vals ws)).flatten = vals ws L.flatten
  | [] => rfl
  | l :: L => by
    rw [List.map_cons, List.flatten_cons, flat_vals ws L, List.flatten_cons]
    unfold vals
    rw [List.map_append]
theorem vals_all (ws : List Int) : vals ws ((List.range ws.length).map fun (p : Nat) => (p : Int)) = ws := by
  unfold vals
  rw [List.map_map]
  have h := range_getD ws
  refine Eq.trans ?_ h
  refine List.map_congr_left fun p _ => ?_
  show ws.getD ((p : Int)).toNat 0 = _
  rw [Int.toNat_natCast]
theorem dsm_ge {ws : List Int} {k : Nat} (h0 : 0 < k) (hn : ∀ w ∈ ws, 0 ≤ w) {L : List (List Int)} (hL : L.flatten.Perm ((List.range ws.length).map fun (p : Nat) => (p : Int))) (hk : L.length ≤ k) : due k (sortDn ws) ≤ dsm ws L := by
  rw [dsm_eq]
  have e : L.map (fin ws 0) = (L.map fun l => (vals ws l).reverse).map (due 1) := by
    rw [List.map_map]
    exact List.map_congr_left fun l _ => fin_due ws l
  rw [e]
  refine due_rows h0 (sortDn_pw ws) (fun x hx => hn x (sortDn_mem.mp hx)) ?_ (by rw [List.length_map]; exact hk)
  refine (flat_rev (vals ws) L).trans ?_
  rw [flat_vals]
  have h := hL.map fun p => ws.getD p.toNat 0
  have e2 := vals_all ws
  unfold vals at e2 ⊢
  rw [e2] at h
  exact h.trans (sortDn_perm ws).symm

/-! k54: all divisions -/
abbrev dLL (R : List (List (List Int))) : List D := R.map fun L => .lst (dL L)
def lg1 (L : List (List Int)) (p : Int) (h q : Nat) : List (List Int) := L.take h ++ [(L.getD h []).take q ++ [p] ++ (L.getD h []).drop q] ++ L.drop (h + 1)
def lgh (L : List (List Int)) (p : Int) (h : Nat) : List (List (List Int)) := (List.range ((L.getD h []).length + 1)).map (lg1 L p h)
def lgr (L : List (List Int)) (p : Int) : List (List (List Int)) := (List.range L.length).flatMap (lgh L p)
def rws (k : Nat) : Nat → List (List (List Int))
  | 0 => [List.replicate k []]
  | i + 1 => (rws k i).flatMap fun L => lgr L i
abbrev Dv (k n : Nat) (L : List (List Int)) : Prop := L.length = k ∧ L.flatten.Perm ((List.range n).map fun (p : Nat) => (p : Int))
theorem lg1_split {L : List (List Int)} {p : Int} {h q : Nat} (hh : h < L.length) : (lg1 L p h q).length = L.length ∧ ((lg1 L p h q).flatten).Perm (p :: L.flatten) := by
  have e : L = L.take h ++ (L.getD h [] :: L.drop (h + 1)) := by
    have x1 := List.take_append_drop h L
    have x2 : L.drop h = L.getD h [] :: L.drop (h + 1) := by
      rw [List.drop_eq_getElem_cons hh, List.getD_eq_getElem?_getD, List.getElem?_eq_getElem hh]; rfl
    rw [x2] at x1
    exact x1.symm
  unfold lg1
  constructor
  · simp; omega
  · have e2 : (L.take h ++ (L.getD h [] :: L.drop (h + 1))).flatten = L.flatten := by rw [← e]
    rw [← e2]
    generalize L.getD h [] = l
    generalize L.take h = A
    generalize L.drop (h + 1) = B
    rw [List.append_assoc, List.singleton_append, List.flatten_append, List.flatten_append, List.flatten_cons, List.flatten_cons]
    have e3 : l.take q ++ l.drop q = l := List.take_append_drop q l
    have h1 : (l.take q ++ [p] ++ l.drop q).Perm (p :: l) := by
      rw [List.append_assoc, List.singleton_append]
      refine List.perm_middle.trans ?_
      rw [e3]
    refine (List.Perm.append_left _ (h1.append_right _)).trans ?_
    rw [List.cons_append]
    exact List.perm_middle
theorem lgr_mem {L M : List (List Int)} {p : Int} (h : M ∈ lgr L p) : M.length = L.length ∧ (M.flatten).Perm (p :: L.flatten) := by
  unfold lgr lgh at h
  obtain ⟨i, hi, h⟩ := List.mem_flatMap.mp h
  obtain ⟨q, hq, rfl⟩ := List.mem_map.mp h
  exact lg1_split (List.mem_range.mp hi)
theorem rws_dv (k : Nat) : ∀ n, ∀ L ∈ rws k n, Dv k n L
  | 0, L, h => by
    rw [show rws k 0 = [List.replicate k []] from rfl, List.mem_singleton] at h
    subst h
    refine ⟨by simp, ?_⟩
    have : (List.replicate k ([] : List Int)).flatten = [] := by simp
    rw [this]; simp
  | n + 1, M, h => by
    obtain ⟨L, hL, hM⟩ := List.mem_flatMap.mp (show M ∈ (rws k n).flatMap fun L => lgr L n from h)
    obtain ⟨d1, d2⟩ := rws_dv k n L hL
    obtain ⟨m1, m2⟩ := lgr_mem hM
    refine ⟨by rw [m1, d1], m2.trans ?_⟩
    rw [List.range_succ, List.map_append]
    exact (d2.cons _).trans (by simpa using (List.perm_append_singleton _ _).symm)
theorem rws_all (k : Nat) : ∀ n, ∀ L, Dv k n L → L ∈ rws k n
  | 0, L, ⟨h1, h2⟩ => by
    rw [show rws k 0 = [List.replicate k []] from rfl, List.mem_singleton]
    have e : L.flatten = [] := h2.eq_nil
    rw [← h1]
    refine List.eq_replicate_iff.mpr ⟨rfl, fun l hl => ?_⟩
    have := (List.flatten_eq_nil_iff.mp e) l hl
    exact this
  | n + 1, M, ⟨h1, h2⟩ => by
    show M ∈ (rws k n).flatMap fun L => lgr L n
    rw [List.range_succ, List.map_append] at h2
    have hm : (n : Int) ∈ M.flatten := h2.mem_iff.mpr (by simp)
    obtain ⟨l, hl, hn⟩ := List.mem_flatten.mp hm
    obtain ⟨a, b, rfl⟩ := List.append_of_mem hn
    obtain ⟨A, B, rfl⟩ := List.append_of_mem hl
    have g : (A ++ (a ++ b) :: B).getD A.length [] = a ++ b := by rw [List.getD_eq_getElem?_getD, List.getElem?_append_right (Nat.le_refl _)]; simp
    have e : lg1 (A ++ (a ++ b) :: B) n A.length a.length = A ++ (a ++ (n : Int) :: b) :: B := by
      unfold lg1
      rw [g]
      simp
    have hA : A.length < (A ++ (a ++ b) :: B).length := by simp
    obtain ⟨s1, s2⟩ := lg1_split (p := (n : Int)) (q := a.length) hA
    rw [e] at s1 s2
    refine List.mem_flatMap.mpr ⟨A ++ (a ++ b) :: B, rws_all k n _ ⟨by rw [← s1]; exact h1, ?_⟩, ?_⟩
    · have x : (((List.range n).map fun (p : Nat) => (p : Int)) ++ [(n : Int)]).Perm ((n : Int) :: ((List.range n).map fun (p : Nat) => (p : Int))) := List.perm_append_singleton _ _
      exact (s2.symm.trans (h2.trans x)).cons_inv
    · unfold lgr lgh
      refine List.mem_flatMap.mpr ⟨A.length, List.mem_range.mpr hA, ?_⟩
      rw [g]
      exact List.mem_map.mpr ⟨a.length, List.mem_range.mpr (by simp; omega), e⟩
theorem lgr_len {L : List (List Int)} (p : Int) {m : Nat} : m ≤ L.length → ((List.range m).flatMap (lgh L p)).length = (L.take m).flatten.length + m := by
  induction m with
  | zero => intro _; simp
  | succ m ih =>
    intro h
    rw [List.range_succ, List.flatMap_append, List.length_append, ih (by omega)]
    have e : L.take (m + 1) = L.take m ++ [L.getD m []] := by
      rw [List.take_add_one, List.getElem?_eq_getElem (by omega), List.getD_eq_getElem?_getD, List.getElem?_eq_getElem (by omega)]; rfl
    rw [e, List.flatten_append, List.length_append]
    simp [lgh]
    omega
theorem rws_len {k : Nat} (hk : k ≤ 3) : ∀ n, n ≤ 4 → (rws k n).length ≤ 7 ^ n
  | 0, _ => by simp [rws]
  | n + 1, h => by
    have ih := rws_len hk n (by omega)
    have e : ∀ L ∈ rws k n, (lgr L n).length ≤ 7 := fun L hL => by
      obtain ⟨d1, d2⟩ := rws_dv k n L hL
      have h1 := lgr_len (L := L) n (Nat.le_refl _)
      rw [List.take_length] at h1
      have h2 := d2.length_eq
      rw [List.length_map, List.length_range] at h2
      unfold lgr
      omega
    show ((rws k n).flatMap fun L => lgr L n).length ≤ _
    have : ∀ R : List (List (List Int)), (∀ L ∈ R, (lgr L n).length ≤ 7) → (R.flatMap fun L => lgr L n).length ≤ R.length * 7 := fun R => by
      induction R with
      | nil => intro _; simp
      | cons L R ih2 =>
        intro h
        have a := h L (by simp)
        have b := ih2 fun M hM => h M (by simp [hM])
        rw [List.flatMap_cons, List.length_append, List.length_cons]
        omega
    have := this _ e
    rw [Nat.pow_succ]
    omega

/-! k54: mirrors -/
theorem longer_ok {L : List (List Int)} {p : Int} (hl : L.length ≤ 10) (hf : L.flatten.length ≤ 10) : m__law_longer [.fz (.lst (dL L)), .fz (.int p)] = some (.own (.ow (dLL (lgr L p))), [.fz (.lst (dL L)), .fz (.int p)]) := by
  have f := for_eq (bs := []) (rst := [3, 4, 5]) (g := gN 3) (b := lb__law_longer_2) (items := rgD 0 L.length) (fun i => [.fz (.lst (dL L)), .fz (.int p), .ow (dLL ((List.range i).flatMap (lgh L p))), .no, .no, .no]) (fun i _ => chk_nil) (fun i d hi => by
    obtain ⟨hil, rfl⟩ := rgD_at hi
    rw [Int.zero_add]
    have xl := lgr_len (L := L) p (Nat.le_of_lt hil)
    have xl2 : (L.take i).flatten.length ≤ 10 := by
      have e := congrArg List.flatten (List.take_append_drop i L)
      rw [List.flatten_append] at e
      have := congrArg List.length e
      rw [List.length_append] at this
      omega
    obtain ⟨l, hl'⟩ : ∃ l, L.getD i [] = l := ⟨_, rfl⟩
    have ll : l.length ≤ 10 := by
      have : l ∈ L := by rw [← hl', List.getD_eq_getElem?_getD, List.getElem?_eq_getElem hil]; exact List.getElem_mem hil
      have := (List.sublist_flatten_of_mem this).length_le
      omega
    have a1 : atI (dL L) (i : Int) = some (.lst (dI l)) := by
      rw [atI_pos (by omega) (by simp; omega), Int.toNat_natCast, List.getElem?_map, ← hl', List.getD_eq_getElem?_getD, List.getElem?_eq_getElem hil]; rfl
    have e1 : (List.range (i + 1)).flatMap (lgh L p) = (List.range i).flatMap (lgh L p) ++ (List.range (l.length + 1)).map (lg1 L p i) := by
      rw [List.range_succ, List.flatMap_append, ← hl']; simp [lgh]
    rw [e1]
    generalize (List.range i).flatMap (lgh L p) = X at *
    have f2 := for_eq (bs := []) (rst := []) (g := gN 5) (b := lb__law_longer_1) (items := rgD 0 (l.length + 1)) (fun q => [.fz (.lst (dL L)), .fz (.int p), .ow (dLL (X ++ (List.range q).map (lg1 L p i))), .fz (.int i), .fz (.lst (dI l)), if q = 0 then .no else .fz (.int ((q - 1 : Nat) : Int))]) (fun _ _ => chk_nil) (fun q d hq => by
      obtain ⟨hql, rfl⟩ := rgD_at hq
      rw [Int.zero_add, if_neg (show ¬ q + 1 = 0 by omega), Nat.add_sub_cancel]
      have c1 : cutA (dI l) none (some (q : Int)) = dI (l.take q) := by rw [cut_ns _ (by omega), Int.toNat_natCast]; exact List.map_take.symm
      have c2 : cutA (dI l) (some (q : Int)) none = dI (l.drop q) := by rw [cut_sn _ (by omega), Int.toNat_natCast]; exact List.map_drop.symm
      have c3 : cutA (dL L) none (some (i : Int)) = dL (L.take i) := by rw [cut_ns _ (by omega), Int.toNat_natCast]; exact List.map_take.symm
      have c4 : cutA (dL L) (some ((i : Int) + 1)) none = dL (L.drop (i + 1)) := by
        rw [cut_sn _ (by omega), show ((i : Int) + 1).toNat = i + 1 by omega]; exact List.map_drop.symm
      have k1 : (dI (l.take q)).length + 1 ≤ sizeLine := by rw [sizeLine_eq]; simp; omega
      have k2 : (dI (l.take q)).length + 1 + (dI (l.drop q)).length ≤ sizeLine := by rw [sizeLine_eq]; simp; omega
      have k3 : (dL (L.take i)).length + 1 ≤ sizeLine := by rw [sizeLine_eq]; simp; omega
      have k4 : (dL (L.take i)).length + 1 + (dL (L.drop (i + 1))).length ≤ sizeLine := by rw [sizeLine_eq]; simp; omega
      have k5 : (dLL (X ++ (List.range q).map (lg1 L p i))).length < 1000000 := by simp; omega
      have h1 : dI (l.take q) ++ (.int p :: dI (l.drop q)) = dI (l.take q ++ [p] ++ l.drop q) := by simp
      have h2 : dL (L.take i) ++ (.lst (dI (l.take q ++ [p] ++ l.drop q)) :: dL (L.drop (i + 1))) = dL (lg1 L p i q) := by unfold lg1; rw [hl']; simp
      have h3 : dLL (X ++ (List.range (q + 1)).map (lg1 L p i)) = dLL (X ++ (List.range q).map (lg1 L p i)) ++ [.lst (dL (lg1 L p i q))] := by rw [List.range_succ]; simp
      rw [h3]
      generalize dLL (X ++ (List.range q).map (lg1 L p i)) = AC at *
      generalize dL (lg1 L p i q) = TT at *
      generalize dI (l.take q ++ [p] ++ l.drop q) = EE at *
      generalize dI (l.take q) = A0 at *
      generalize dI (l.drop q) = B0 at *
      generalize dL (L.take i) = A1 at *
      generalize dL (L.drop (i + 1)) = B1 at *
      generalize dI l = l0 at *
      generalize dL L = L0 at *
      generalize (if q = 0 then Sl.no else .fz (.int ((q - 1 : Nat) : Int))) = junk
      exact ⟨_, [.fz (.lst L0), .fz (.int p), .ow (AC ++ [.lst TT]), .fz (.int i), .fz (.lst l0), .fz (.int q)], rfl, by simp -implicitDefEqProofs [lb__law_longer_1, c1, c2, c3, c4, k1, k2, k3, k4, k5, h1, h2], rfl⟩)
    simp only [rgD_len] at f2
    rw [if_pos trivial, if_neg (show ¬ l.length + 1 = 0 by omega), List.range_zero, List.map_nil, List.append_nil] at f2
    have g : -4611686018427387904 ≤ (l.length : Int) + 1 ∧ (l.length : Int) + 1 < 4611686018427387904 := by omega
    have g0 : ((l.length : Int) + 1).toNat = l.length + 1 := by omega
    have dl : (dI l).length = l.length := by simp
    generalize dLL (X ++ (List.range (l.length + 1)).map (lg1 L p i)) = Z at *
    generalize dLL X = Y at *
    generalize dI l = l0 at *
    generalize dL L = L0 at *
    exact ⟨_, [.fz (.lst L0), .fz (.int p), .ow Z, .fz (.int i), .fz (.lst l0), .fz (.int ((l.length + 1 - 1 : Nat) : Int))], rfl, by simp -implicitDefEqProofs [lb__law_longer_2, a1, dl, g, g0, f2], rfl⟩)
  simp only [rgD_len] at f
  have g : -4611686018427387904 ≤ (L.length : Int) ∧ (L.length : Int) < 4611686018427387904 := by omega
  have dl : (dL L).length = L.length := by simp
  have f : forD [] [3, 4, 5] (gN 3) lb__law_longer_2 (rgD 0 L.length) [.fz (.lst (dL L)), .fz (.int p), .ow [], .no, .no, .no] = some (.nx, [.fz (.lst (dL L)), .fz (.int p), .ow (dLL (lgr L p)), .no, .no, .no]) := f
  generalize dLL (lgr L p) = Z at *
  generalize dL L = L0 at *
  simp -implicitDefEqProofs [m__law_longer, bd__law_longer, dl, g, f]
theorem divisions_ok {k n : Nat} (hk : k ≤ 3) (hn : n ≤ 4) : m__law_divisions [.fz (.int n), .fz (.int k)] = some (.own (.ow (dLL (rws k n))), [.fz (.int n), .fz (.int k)]) := by
  have c0 : compD [] [6] (gN 6) tTrue ce__law_divisions_1 (rgD 0 k) [] [.fz (.int n), .fz (.int k), .no, .no, .no, .no, .no] = some (dL (List.replicate k []), [.fz (.int n), .fz (.int k), .no, .no, .no, .no, .no]) := by
    have h := comp_map (bs := []) (vs := [6]) (g := gN 6) (t := tTrue) (m := ce__law_divisions_1) (items := rgD 0 k) (ρ := [.fz (.int n), .fz (.int k), .no, .no, .no, .no, .no]) (fun _ => some (.lst [])) chk_nil (by simp; omega) (fun d hd => by
      refine ⟨_, true, _, rfl, rfl, ?_⟩
      rw [if_pos rfl]
      exact ⟨.own (.ow []), [.fz (.int n), .fz (.int k), .no, .no, .no, .no, .fz d], _, _, by simp -implicitDefEqProofs [ce__law_divisions_1], rfl, rfl, rfl⟩)
    rw [h]
    have : (rgD 0 k).filterMap (fun _ => some (D.lst [])) = dL (List.replicate k []) := by
      rw [List.filterMap_eq_map']
      simp [rgD_eq, List.map_const', Function.comp_def]
    rw [this]
  have f := for_eq (bs := []) (rst := [3, 4, 5]) (g := gN 3) (b := lb__law_divisions_3) (items := rgD 0 n) (fun i => [.fz (.int n), .fz (.int k), .ow (dLL (rws k i)), .no, .no, .no, .no]) (fun i _ => chk_nil) (fun i d hi => by
    obtain ⟨hil, rfl⟩ := rgD_at hi
    rw [Int.zero_add]
    obtain ⟨R, hR⟩ : ∃ R, rws k i = R := ⟨_, rfl⟩
    have e : rws k (i + 1) = R.flatMap fun L => lgr L i := by rw [← hR]; rfl
    have dv : ∀ L ∈ R, Dv k i L := fun L hL => rws_dv k i L (by rw [hR]; exact hL)
    have le7 : ∀ L ∈ R, (lgr L i).length ≤ 7 := fun L hL => by
      obtain ⟨d1, d2⟩ := dv L hL
      have h1 := lgr_len (L := L) i (Nat.le_refl _)
      rw [List.take_length] at h1
      have h2 := d2.length_eq
      rw [List.length_map, List.length_range] at h2
      unfold lgr
      omega
    have bnd : ∀ j, ((R.take j).flatMap fun L => lgr L i).length ≤ j * 7 := fun j => by
      induction j with
      | zero => simp
      | succ j ih =>
        rw [List.take_add_one, List.flatMap_append, List.length_append]
        cases h : R[j]? with
        | none => show _ + 0 ≤ _; omega
        | some L =>
          have := le7 L (List.mem_of_getElem? h)
          have e : (some L).toList.flatMap (fun L => lgr L i) = lgr L i := by simp
          rw [e]
          omega
    have Rl : R.length ≤ 2401 := by
      have := rws_len hk i (by omega)
      rw [hR] at this
      exact Nat.le_trans this (Nat.le_trans (Nat.pow_le_pow_right (by decide) (show i ≤ 4 by omega)) (by decide))
    rw [e, hR]
    have f2 := for_eq (bs := [(2, dLL R)]) (rst := []) (g := gN 5) (b := lb__law_divisions_2) (items := dLL R) (fun j => [.fz (.int n), .fz (.int k), .ow (dLL R), .fz (.int i), .ow (dLL ((R.take j).flatMap fun L => lgr L i)), if j = 0 then .no else .fz (.lst (dL (R.getD (j - 1) []))), .no]) (fun _ _ => by simp) (fun j d hj => by
      rw [List.getElem?_map] at hj
      obtain ⟨L, hL, rfl⟩ := Option.map_eq_some_iff.mp hj
      have jl : j < R.length := (List.getElem?_eq_some_iff.mp hL).1
      obtain ⟨d1, d2⟩ := dv L (List.mem_of_getElem? hL)
      have d3 := d2.length_eq
      rw [List.length_map, List.length_range] at d3
      have g1 := longer_ok (L := L) (p := (i : Int)) (by omega) (by omega)
      have e2 : R.getD (j + 1 - 1) [] = L := by rw [Nat.add_sub_cancel, List.getD_eq_getElem?_getD, hL]; rfl
      have e3 : dLL ((R.take (j + 1)).flatMap fun L => lgr L i) = dLL ((R.take j).flatMap fun L => lgr L i) ++ dLL (lgr L i) := by
        rw [List.take_add_one, hL, List.flatMap_append]; simp
      have b1 := bnd j
      have b2 := le7 L (List.mem_of_getElem? hL)
      have k1 : (dLL ((R.take j).flatMap fun L => lgr L i)).length + (dLL (lgr L i)).length ≤ sizeLine := by
        rw [sizeLine_eq, List.length_map, List.length_map]; omega
      rw [e2, e3, if_neg (show ¬ j + 1 = 0 by omega)]
      generalize (if j = 0 then Sl.no else .fz (.lst (dL (R.getD (j - 1) [])))) = junk
      generalize dLL ((R.take j).flatMap fun L => lgr L i) = AC at *
      generalize dLL (lgr L i) = Y at *
      generalize dLL R = RR at *
      generalize dL L = LL at *
      exact ⟨_, [.fz (.int n), .fz (.int k), .ow RR, .fz (.int i), .ow (AC ++ Y), .fz (.lst LL), .no], rfl, by simp -implicitDefEqProofs [lb__law_divisions_2, g1, k1], rfl⟩)
    simp only [List.length_map, List.take_length] at f2
    rw [if_pos trivial] at f2
    have b1 := bnd R.length
    rw [List.take_length] at b1
    have k1 : (dLL (R.flatMap fun L => lgr L i)).length < 1000000 := by rw [List.length_map]; omega
    have k2 : (dLL (R.flatMap fun L => lgr L i)).length ≤ 1000000 := by omega
    have f2 : forD [(2, dLL R)] [] (gN 5) lb__law_divisions_2 (dLL R) [.fz (.int n), .fz (.int k), .ow (dLL R), .fz (.int i), .ow [], .no, .no] = some (.nx, [.fz (.int n), .fz (.int k), .ow (dLL R), .fz (.int i), .ow (dLL (R.flatMap fun L => lgr L i)), if R.length = 0 then .no else .fz (.lst (dL (R.getD (R.length - 1) []))), .no]) := f2
    generalize (if R.length = 0 then Sl.no else .fz (.lst (dL (R.getD (R.length - 1) [])))) = junk at *
    generalize dLL (R.flatMap fun L => lgr L i) = Y at *
    generalize dLL R = RR at *
    exact ⟨_, [.fz (.int n), .fz (.int k), .ow Y, .fz (.int i), .ow Y, junk, .no], rfl, by simp -implicitDefEqProofs [lb__law_divisions_3, f2, k1, k2], rfl⟩)
  simp only [rgD_len] at f
  have f : forD [] [3, 4, 5] (gN 3) lb__law_divisions_3 (rgD 0 n) [.fz (.int n), .fz (.int k), .ow [.lst (dL (List.replicate k []))], .no, .no, .no, .no] = some (.nx, [.fz (.int n), .fz (.int k), .ow (dLL (rws k n)), .no, .no, .no, .no]) := f
  have g : -4611686018427387904 ≤ (n : Int) ∧ (n : Int) < 4611686018427387904 := by omega
  have g' : -4611686018427387904 ≤ (k : Int) ∧ (k : Int) < 4611686018427387904 := by omega
  generalize dLL (rws k n) = Z at *
  generalize dL (List.replicate k []) = Y at *
  simp -implicitDefEqProofs [m__law_divisions, bd__law_divisions, c0, g, g', f]

/-! k54: the law -/
theorem dv_val {k n : Nat} {L : List (List Int)} (h : Dv k n L) : Val n L := fun l hl p hp => by
  have := h.2.mem_iff.mp (List.mem_flatten.mpr ⟨l, hl, hp⟩)
  obtain ⟨q, hq, rfl⟩ := List.mem_map.mp this
  have := List.mem_range.mp hq
  omega
theorem law_true (ns : List Int) (h1 : ns.length ≤ 63) (h2 : ∀ z ∈ ns, Builtin.Int.intBits z ≤ 1048576) : ∃ o, m_law [.fz (.scr (ns.map D.int))] = some (.val (.bl true), o) := by
  obtain ⟨s0, e0, p0⟩ := pool_ok ns
  obtain ⟨r1, s1, e1, a1, b1, p1⟩ := take_ok p0 (m := 3) (by decide) (by decide)
  obtain ⟨A, hA, hA', hA''⟩ : ∃ A : Int, atI [D.int 60, .int 4, .int 4] r1 = some (.int A) ∧ 0 < A ∧ A ≤ 60 := by
    rcases (show r1 = 0 ∨ r1 = 1 ∨ r1 = 2 by omega) with z | z | z <;> subst z <;> exact ⟨_, rfl, by decide, by decide⟩
  obtain ⟨r2, s2, e2, a2, b2, p2⟩ := take_ok p1 (m := 3) (by decide) (by decide)
  obtain ⟨k, hk⟩ : ∃ k : Nat, 1 + r2 = k := ⟨(1 + r2).toNat, by omega⟩
  obtain ⟨r3, s3, e3, a3, b3, p3⟩ := take_ok p2 (m := 5) (by decide) (by decide)
  obtain ⟨c, rfl⟩ : ∃ c : Nat, r3 = c := ⟨r3.toNat, by omega⟩
  obtain ⟨out, ρ', c1, ws, s4, g1, g2, g3, g4, g5⟩ := comp_run (bs := []) (vs := [4]) (g := gN 4) (t := tTrue) (m := ce_law_1) (items := rgD 0 c) (ρ := [.fz (.scr (dI ns)), .ow s3, .fz (.int A), .fz (.int k), .no, .no, .no, .no, .no, .no, .no, .no, .no, .no])
    (fun i acc ρ => ∃ ws s, acc = dI ws ∧ ws.length = i ∧ (∀ w ∈ ws, 1 ≤ w ∧ w ≤ 60) ∧ PoolB s ∧ ρ = [.fz (.scr (dI ns)), .ow s, .fz (.int A), .fz (.int k), .no, .no, .no, .no, .no, .no, .no, .no, .no, .no]) ⟨[], s3, rfl, rfl, by simp, p3, rfl⟩ (fun _ _ _ _ _ => chk_nil) (by simp; omega)
    (fun i acc ρ ⟨ws, s, q1, q2, _⟩ => by rw [q1]; simp; omega) (fun i d acc ρ hi ⟨ws, s, q1, q2, q3, q4, q5⟩ => by
      obtain ⟨hl, rfl⟩ := rgD_at hi
      subst q1; subst q5
      obtain ⟨x, s', x1, x2, x3, x4⟩ := take_ok q4 hA' (by omega)
      refine ⟨_, true, _, rfl, rfl, ?_⟩
      rw [if_pos rfl]
      refine ⟨.val (.int (1 + x)), [.fz (.scr (dI ns)), .ow s', .fz (.int A), .fz (.int k), .fz (.int (0 + (i : Int))), .no, .no, .no, .no, .no, .no, .no, .no, .no], .int (1 + x), _, ?_, rfl, ws ++ [1 + x], s', by simp, by simp [q2], ?_, x4, rfl⟩
      · simp -implicitDefEqProofs [ce_law_1, x1]
      · intro w hw
        rcases List.mem_append.mp hw with z | z
        · exact q3 w z
        · rw [List.mem_singleton.mp z]; omega)
  subst g1; subst g5
  rw [rgD_len] at g2
  have k0 : 0 < k := by omega
  have k3 : k ≤ 3 := by omega
  obtain ⟨n, hn⟩ : ∃ n, ws.length = n := ⟨_, rfl⟩
  have n4 : n ≤ 4 := by omega
  have dv0 := divisions_ok k3 n4
  obtain ⟨R, hR⟩ : ∃ R, rws k n = R := ⟨_, rfl⟩
  have Rd : ∀ L ∈ R, Dv k n L := fun L hL => rws_dv k n L (by rw [hR]; exact hL)
  have Ra : ∀ L, Dv k n L → L ∈ R := fun L hL => by rw [← hR]; exact rws_all k n L hL
  have Rl : R.length ≤ 2401 := by
    have := rws_len k3 n n4
    rw [hR] at this
    exact Nat.le_trans this (Nat.le_trans (Nat.pow_le_pow_right (by decide) n4) (by decide))
  rw [hR] at dv0
  obtain ⟨sm, hsm⟩ : ∃ sm, R.map (dsm ws) = sm := ⟨_, rfl⟩
  have hLz : ∀ L ∈ R, ∀ l ∈ L, l.length ≤ 4 := fun L hL l hl => by
    have h := (Rd L hL).2.length_eq
    rw [List.length_map, List.length_range] at h
    have := (List.sublist_flatten_of_mem hl).length_le
    omega
  have cS := comp_mapL (bs := [(7, dLL R)]) (vs := [12]) (gg := gN 12) (m := ce_law_2) (l := R) (ρ := [.fz (.scr (dI ns)), .ow s4, .fz (.int A), .fz (.int k), .no, .ow (dI ws), .ow (dI ws), .ow (dLL R), .no, .no, .no, .no, .no, .no])
    (fun L => .lst (dL L)) (fun L => .int (dsm ws L)) (by simp) (by omega) (fun L hL => by
      have v : Val ws.length L := by rw [hn]; exact dv_val (Rd L hL)
      have l1 := lsum_ok v (.fz (.lst (dL L))) (.inr rfl)
      generalize dsm ws L = x at *
      generalize dL L = LL at *
      generalize dLL R = RR at *
      generalize dI ws = WW at *
      exact ⟨_, .val (.int x), [.fz (.scr (dI ns)), .ow s4, .fz (.int A), .fz (.int k), .no, .ow WW, .ow WW, .ow RR, .no, .no, .no, .no, .fz (.lst LL), .no], _, rfl, by simp -implicitDefEqProofs [ce_law_2, l1], rfl, rfl⟩)
  have es : R.map (fun L => D.int (dsm ws L)) = dI sm := by
    rw [← hsm]
    show _ = List.map D.int (List.map _ _)
    rw [List.map_map]; rfl
  rw [es, show R.map (fun L => D.lst (dL L)) = dLL R from rfl] at cS
  have f := for_same (bs := []) (rst := [4, 9]) (g := gN 4) (b := lb_law_4) (items := rgD 0 R.length) (ρ := [.fz (.scr (dI ns)), .ow s4, .fz (.int A), .fz (.int k), .no, .ow (dI ws), .ow (dI ws), .ow (dLL R), .ow (dI sm), .no, .no, .no, .no, .no]) chk_nil (fun d hd => by
    obtain ⟨i, hi⟩ := List.getElem?_of_mem hd
    obtain ⟨hil, rfl⟩ := rgD_at hi
    rw [Int.zero_add]
    obtain ⟨L, hL⟩ : ∃ L, R[i]? = some L := ⟨_, List.getElem?_eq_getElem hil⟩
    have hm := List.mem_of_getElem? hL
    have v : Val ws.length L := by rw [hn]; exact dv_val (Rd L hm)
    have d1 := dsum_ok v (.ow (dL L)) (.inl rfl)
    have io := int_ok (dsm ws L)
    have a1 : atI (dLL R) (i : Int) = some (.lst (dL L)) := by
      rw [atI_pos (by omega) (by simp; omega), Int.toNat_natCast, List.getElem?_map, hL]; rfl
    have a2 : atI (dI sm) (i : Int) = some (.int (dsm ws L)) := by
      rw [← hsm, atI_pos (by omega) (by simp; omega), Int.toNat_natCast, List.getElem?_map, List.getElem?_map, hL]; rfl
    have lk : L.length = k := (Rd L hm).1
    have cc := comp_mapL (bs := []) (vs := [13]) (gg := gN 13) (m := ce_law_3) (l := L) (ρ := [.fz (.scr (dI ns)), .ow s4, .fz (.int A), .fz (.int k), .fz (.int i), .ow (dI ws), .ow (dI ws), .ow (dLL R), .ow (dI sm), .no, .no, .no, .no, .no])
      (fun l => .lst (dI l)) (fun l => .lst (dI l)) chk_nil (by omega) (fun l hl => by
        have lt : l.length ≤ 1000000 := by have := hLz L hm l hl; omega
        have lt2 : l.length < 1000000 := by have := hLz L hm l hl; omega
        exact ⟨_, .own (.ow (dI l)), [.fz (.scr (dI ns)), .ow s4, .fz (.int A), .fz (.int k), .fz (.int i), .ow (dI ws), .ow (dI ws), .ow (dLL R), .ow (dI sm), .no, .no, .no, .no, .fz (.lst (dI l))], _, rfl, by simp -implicitDefEqProofs [ce_law_3, lt, lt2], rfl, rfl⟩)
    have cc : compD [] [13] (gN 13) tTrue ce_law_3 (dL L) [] [.fz (.scr (dI ns)), .ow s4, .fz (.int A), .fz (.int k), .fz (.int i), .ow (dI ws), .ow (dI ws), .ow (dLL R), .ow (dI sm), .no, .no, .no, .no, .no] = some (dL L, [.fz (.scr (dI ns)), .ow s4, .fz (.int A), .fz (.int k), .fz (.int i), .ow (dI ws), .ow (dI ws), .ow (dLL R), .ow (dI sm), .no, .no, .no, .no, .no]) := cc
    generalize dsm ws L = x at *
    generalize dL L = LL at *
    generalize dI sm = SM at *
    generalize dLL R = RR at *
    generalize dI ws = WW at *
    exact ⟨_, [.fz (.scr (dI ns)), .ow s4, .fz (.int A), .fz (.int k), .fz (.int i), .ow WW, .ow WW, .ow RR, .ow SM, .fz (.int x), .no, .no, .no, .no], rfl, by simp -implicitDefEqProofs [lb_law_4, a1, cc, d1, io, a2], rfl⟩)
  -- the least
  obtain ⟨L, hL⟩ : ∃ L, deal k (sortK ws ws.length) ws.length = L := ⟨_, rfl⟩
  have Ll : L.length = k := by rw [← hL, deal_len]
  have Lp : L.flatten.Perm ((List.range ws.length).map fun (p : Nat) => (p : Int)) := by
    rw [← hL]
    have h := deal_perm k0 (o := sortK ws ws.length) ws.length (by rw [sortK_len]; exact Nat.le_refl _)
    rw [List.take_of_length_le (by rw [sortK_len]; exact Nat.le_refl _)] at h
    exact h.trans ((sortK_perm ws ws.length).map _)
  have Lv : Val ws.length L := by rw [hn]; exact dv_val ⟨Ll, by rw [← hn]; exact Lp⟩
  have Ls : dsm ws L = due k (sortDn ws) := by rw [← hL]; exact deal_due k0 (by omega)
  have nn : ∀ w ∈ ws, 0 ≤ w := fun w hw => by have := g3 w hw; omega
  have mn : minL (dI sm) = some (.val (.int (due k (sortDn ws)))) := by
    refine minL_int (List.min?_eq_some_iff.mpr ⟨?_, ?_⟩)
    · rw [← hsm]
      exact List.mem_map.mpr ⟨L, Ra L ⟨Ll, by rw [← hn]; exact Lp⟩, Ls⟩
    · intro b hb
      rw [← hsm] at hb
      obtain ⟨M, hM, rfl⟩ := List.mem_map.mp hb
      obtain ⟨m1, m2⟩ := Rd M hM
      exact dsm_ge k0 nn (by rw [hn]; exact m2) (Nat.le_of_eq m1)
  have d1 := least_ok k0 (by omega) (by omega) g3 (.ow (dI ws)) (.inl rfl)
  have d2 := int_ok (due k (sortDn ws))
  have d3 := division_ok k0 (by omega) (by omega) (.ow (dI ws)) (.inl rfl)
  rw [hL] at d3
  have d4 := isdivO_ok (ws := ws) Ll Lp (by omega)
  have d5 := lsum_ok Lv (.fz (.lst (dL L))) (.inr rfl)
  rw [Ls] at d5
  have n1 : toDL (nlS L) = some (dL L) := by
    have e : nlS L = (L.map dI).map Sl.ow := rfl
    rw [e, toDL_ows]
    have e2 : dL L = List.map D.lst (L.map dI) := by rw [List.map_map]; rfl
    rw [e2]
  have q1' : eqD false (.lst (dI ws)) (.lst (dI ws)) = some (.bl (decide (ws = ws) != false)) := eqD_ints false ws ws
  have g : -4611686018427387904 ≤ (c : Int) ∧ (c : Int) < 4611686018427387904 := by omega
  have g' : -4611686018427387904 ≤ (R.length : Int) ∧ (R.length : Int) < 4611686018427387904 := by omega
  have wl : (dI ws).length = n := by simp [hn]
  have rl : (dLL R).length = R.length := by simp
  have lw : (dI ws).length ≤ 1000000 := by simp; omega
  have lw2 : (dI ws).length < 1000000 := by simp; omega
  generalize nlS L = NL at *
  generalize dL L = DL at *
  generalize dI sm = SM at *
  generalize dLL R = RR at *
  generalize due k (sortDn ws) = x at *
  generalize dI ws = WW at *
  refine ⟨[.fz (.scr (dI ns))], ?_⟩
  simp -implicitDefEqProofs [m_law, bd_law, e0, e1, hA, e2, hk, e3, g, c1, lw, lw2, wl, dv0, cS, rl, g', f, d1, d2, d3, n1, mn, d4, d5, q1']

end Law

namespace Law
open PySem L2 FW
def top (i : Nat) : Stmt := PySem.Challenge.pw_fewestwait_k54_whole_least_sum_of_all_di.main.body.getD i (.Pass ⟨0, 0, 0, 0⟩)
abbrev s__law_spread : Stmt := top 5
abbrev N__law_spread : List Str := ["cell", "seed", "total", "k"]
theorem sc__law_spread : FnScope N__law_spread ["cell"] (defScope s__law_spread) := ⟨rfl, rfl, rfl, by decide +kernel, rfl, by decide +kernel, by decide +kernel⟩
abbrev s__law_pool : Stmt := top 6
abbrev N__law_pool : List Str := ["script", "total", "cell", "part"]
theorem sc__law_pool : FnScope N__law_pool ["script"] (defScope s__law_pool) := ⟨rfl, rfl, rfl, by decide +kernel, rfl, by decide +kernel, by decide +kernel⟩
abbrev s__law_take : Stmt := top 7
abbrev N__law_take : List Str := ["pool", "size", "drawn"]
theorem sc__law_take : FnScope N__law_take ["pool", "size"] (defScope s__law_take) := ⟨rfl, rfl, rfl, by decide +kernel, rfl, by decide +kernel, by decide +kernel⟩
abbrev s__law_longer : Stmt := top 11
abbrev N__law_longer : List Str := ["lists", "person", "found", "hand", "people", "place"]
theorem sc__law_longer : FnScope N__law_longer ["lists", "person"] (defScope s__law_longer) := ⟨rfl, rfl, rfl, by decide +kernel, rfl, by decide +kernel, by decide +kernel⟩
abbrev s__law_divisions : Stmt := top 12
abbrev N__law_divisions : List Str := ["many", "hands", "rows", "person", "longer", "lists", "hand"]
theorem sc__law_divisions : FnScope N__law_divisions ["many", "hands"] (defScope s__law_divisions) := ⟨rfl, rfl, rfl, by decide +kernel, rfl, by decide +kernel, by decide +kernel⟩
abbrev s__law_sum : Stmt := top 9
abbrev N__law_sum : List Str := ["works", "lists", "total", "people", "end", "person"]
theorem sc__law_sum : FnScope N__law_sum ["works", "lists"] (defScope s__law_sum) := ⟨rfl, rfl, rfl, by decide +kernel, rfl, by decide +kernel, by decide +kernel⟩
abbrev s_division_sum : Stmt := top 2
abbrev N_division_sum : List Str := ["works", "lists", "total", "people", "time", "person"]
theorem sc_division_sum : FnScope N_division_sum ["works", "lists"] (defScope s_division_sum) := ⟨rfl, rfl, rfl, by decide +kernel, rfl, by decide +kernel, by decide +kernel⟩
abbrev s__law_is_integer : Stmt := top 8
abbrev N__law_is_integer : List Str := ["actual"]
theorem sc__law_is_integer : FnScope N__law_is_integer ["actual"] (defScope s__law_is_integer) := ⟨rfl, rfl, rfl, by decide +kernel, rfl, by decide +kernel, by decide +kernel⟩
abbrev s_least_sum : Stmt := top 3
abbrev N_least_sum : List Str := ["works", "hands", "order", "place", "work"]
theorem sc_least_sum : FnScope N_least_sum ["works", "hands"] (defScope s_least_sum) := ⟨rfl, rfl, rfl, by decide +kernel, rfl, by decide +kernel, by decide +kernel⟩
abbrev s_division : Stmt := top 1
abbrev N_division : List Str := ["works", "hands", "lists", "order", "place", "person", "hand"]
theorem sc_division : FnScope N_division ["works", "hands"] (defScope s_division) := ⟨rfl, rfl, rfl, by decide +kernel, rfl, by decide +kernel, by decide +kernel⟩
abbrev s__law_is_division : Stmt := top 10
abbrev N__law_is_division : List Str := ["works", "hands", "lists", "found", "people", "person"]
theorem sc__law_is_division : FnScope N__law_is_division ["works", "hands", "lists"] (defScope s__law_is_division) := ⟨rfl, rfl, rfl, by decide +kernel, rfl, by decide +kernel, by decide +kernel⟩
abbrev s_law : Stmt := top 13
abbrev N_law : List Str := ["script", "pool", "limit", "hands", "k", "works", "passed", "rows", "sums", "actual", "least", "found", "lists", "people"]
theorem sc_law : FnScope N_law ["script"] (defScope s_law) := ⟨rfl, rfl, rfl, by decide +kernel, rfl, by decide +kernel, by decide +kernel⟩
structure Ads where
  a__law_spread : Addr
  fd__law_spread : FuncData
  a__law_pool : Addr
  fd__law_pool : FuncData
  a__law_take : Addr
  fd__law_take : FuncData
  a__law_longer : Addr
  fd__law_longer : FuncData
  a__law_divisions : Addr
  fd__law_divisions : FuncData
  a__law_sum : Addr
  fd__law_sum : FuncData
  a_division_sum : Addr
  fd_division_sum : FuncData
  a__law_is_integer : Addr
  fd__law_is_integer : FuncData
  a_least_sum : Addr
  fd_least_sum : FuncData
  a_division : Addr
  fd_division : FuncData
  a__law_is_division : Addr
  fd__law_is_division : FuncData
  a_law : Addr
  fd_law : FuncData
  k_division : Addr
  t_division : Addr
structure Txt (K : PySem.W.Frag) (mg : Str → Option Value) (A : Ads) : Prop where
  F__law_spread : Fun K "_law_spread" "_law_spread" s__law_spread A.a__law_spread A.fd__law_spread
  g__law_spread : mg "_law_spread" = some (.ref A.a__law_spread)
  b__law_spread : Binds K A.fd__law_spread ["cell"] []
  F__law_pool : Fun K "_law_pool" "_law_pool" s__law_pool A.a__law_pool A.fd__law_pool
  g__law_pool : mg "_law_pool" = some (.ref A.a__law_pool)
  b__law_pool : Binds K A.fd__law_pool ["script"] []
  F__law_take : Fun K "_law_take" "_law_take" s__law_take A.a__law_take A.fd__law_take
  g__law_take : mg "_law_take" = some (.ref A.a__law_take)
  b__law_take : Binds K A.fd__law_take ["pool", "size"] []
  F__law_longer : Fun K "_law_longer" "_law_longer" s__law_longer A.a__law_longer A.fd__law_longer
  g__law_longer : mg "_law_longer" = some (.ref A.a__law_longer)
  b__law_longer : Binds K A.fd__law_longer ["lists", "person"] []
  F__law_divisions : Fun K "_law_divisions" "_law_divisions" s__law_divisions A.a__law_divisions A.fd__law_divisions
  g__law_divisions : mg "_law_divisions" = some (.ref A.a__law_divisions)
  b__law_divisions : Binds K A.fd__law_divisions ["many", "hands"] []
  F__law_sum : Fun K "_law_sum" "_law_sum" s__law_sum A.a__law_sum A.fd__law_sum
  g__law_sum : mg "_law_sum" = some (.ref A.a__law_sum)
  b__law_sum : Binds K A.fd__law_sum ["works", "lists"] []
  F_division_sum : Fun K "division_sum" "division_sum" s_division_sum A.a_division_sum A.fd_division_sum
  g_division_sum : mg "division_sum" = some (.ref A.a_division_sum)
  b_division_sum : Binds K A.fd_division_sum ["works", "lists"] []
  F__law_is_integer : Fun K "_law_is_integer" "_law_is_integer" s__law_is_integer A.a__law_is_integer A.fd__law_is_integer
  g__law_is_integer : mg "_law_is_integer" = some (.ref A.a__law_is_integer)
  b__law_is_integer : Binds K A.fd__law_is_integer ["actual"] []
  F_least_sum : Fun K "least_sum" "least_sum" s_least_sum A.a_least_sum A.fd_least_sum
  g_least_sum : mg "least_sum" = some (.ref A.a_least_sum)
  b_least_sum : Binds K A.fd_least_sum ["works", "hands"] []
  F_division : Fun K "division" "division" s_division A.a_division A.fd_division
  g_division : mg "division" = some (.ref A.a_division)
  b_division : Binds K A.fd_division ["works", "hands"] []
  F__law_is_division : Fun K "_law_is_division" "_law_is_division" s__law_is_division A.a__law_is_division A.fd__law_is_division
  g__law_is_division : mg "_law_is_division" = some (.ref A.a__law_is_division)
  b__law_is_division : Binds K A.fd__law_is_division ["works", "hands", "lists"] []
  F_law : Fun K "law" "law" s_law A.a_law A.fd_law
  g_law : mg "law" = some (.ref A.a_law)
  b_law : Binds K A.fd_law ["script"] []
  z_bool : mg "bool" = none
  z_enumerate : mg "enumerate" = none
  z_int : mg "int" = none
  z_isinstance : mg "isinstance" = none
  z_len : mg "len" = none
  z_list : mg "list" = none
  z_min : mg "min" = none
  z_range : mg "range" = none
  z_sorted : mg "sorted" = none
  z_sum : mg "sum" = none
  fc_division : A.fd_division.code = .ref A.k_division
  tf_division : TabFn K mg "division" A.t_division
  tn_division : ∀ x' ∈ (["best_order", "division"] : List Str), x' ≠ "division" → ∀ P', TabFn K mg x' P' → P' ≠ A.t_division
structure TabsB (base : Heap) (mg : Str → Option Value) (A : Ads) : Prop where
  b_division : LamX.TabB base mg A.k_division A.t_division
section
variable {P : Program} {w : World} {K : PySem.W.Frag} {mg : Str → Option Value} {base : Heap} {A : Ads}
theorem ok__law_spread (T : Txt K mg A) (B : TabsB base mg A) : FnOk P w K mg base CX0 1 A.a__law_spread A.fd__law_spread ["cell"] (spM K mg 1 m__law_spread) := by
  refine T.F__law_spread.ok sc__law_spread (fun vs H Q E h => ?_) (fun cdv A' outer s H vs Q E hr h => ⟨tS K mg (Wx (cxOf CX0 P w K mg base N__law_spread "_law_spread" (defScope s__law_spread) A.a__law_spread cdv A' outer s H E).nox) (fun i => i ∈ ([0] : List Nat)) bd__law_spread, ?_, body_ok rfl h⟩)
  · obtain ⟨_, _, _, _, _, e, _⟩ := h
    exact e
  · have d : SSs (cxOf CX0 P w K mg base N__law_spread "_law_spread" (defScope s__law_spread) A.a__law_spread cdv A' outer s H E).nox (fun i => i ∈ ([0] : List Nat)) (defBody s__law_spread) bd__law_spread :=
      (ss_cons (ss_set (i := 1) sc__law_spread.nd rfl (by first | exact Or.inl rfl | exact Or.inr rfl) (by decide) (se_add (se_mod (b_int T.z_int (sa_cons (se_var (i := 0)) sa_nil)) se_int) se_int))
    (ss_cons (ss_set (i := 2) sc__law_spread.nd rfl (by first | exact Or.inl rfl | exact Or.inr rfl) (by decide) se_int)
    (ss_cons (ss_for (js := []) (rst := [3]) PassesOwn.never rfl (si_range1 rfl T.z_range (sa_cons se_int sa_nil)) (sg_name (i := 3) sc__law_spread.nd rfl (by first | exact Or.inl rfl | exact Or.inr rfl) (by decide)) (ss_cons (ss_set (i := 1) sc__law_spread.nd rfl (by first | exact Or.inl rfl | exact Or.inr rfl) (by decide) (se_mod (b_int T.z_int (sa_cons (se_add (se_add (se_add (se_mul (se_var (i := 1)) (se_var (i := 1))) (se_mul (se_add (se_mul se_int (se_var (i := 3))) se_int) (se_var (i := 1)))) (se_mul se_int (se_var (i := 3)))) se_int) sa_nil)) se_int))
    (ss_cons (ss_set (i := 1) sc__law_spread.nd rfl (by first | exact Or.inl rfl | exact Or.inr rfl) (by decide) (se_mod (b_int T.z_int (sa_cons (se_add (se_mul (se_mul (se_var (i := 1)) (se_var (i := 1))) (se_var (i := 1))) (se_var (i := 3))) sa_nil)) se_int))
    (ss_one (ss_set (i := 2) sc__law_spread.nd rfl (by first | exact Or.inl rfl | exact Or.inr rfl) (by decide) (se_add (se_mul (se_var (i := 2)) se_int) (se_var (i := 1))))))))
    (ss_one (ss_ret [0] (se_var (i := 2)))))))
    exact d

theorem ok__law_pool (T : Txt K mg A) (B : TabsB base mg A) : FnOk P w K mg base CX0 2 A.a__law_pool A.fd__law_pool ["script"] (spM K mg 1 m__law_pool) := by
  refine T.F__law_pool.ok sc__law_pool (fun vs H Q E h => ?_) (fun cdv A' outer s H vs Q E hr h => ⟨tS K mg (Wx (cxOf CX0 P w K mg base N__law_pool "_law_pool" (defScope s__law_pool) A.a__law_pool cdv A' outer s H E).nox) (fun i => i ∈ ([0] : List Nat)) bd__law_pool, ?_, body_ok rfl h⟩)
  · obtain ⟨_, _, _, _, _, e, _⟩ := h
    exact e
  · have d : SSs (cxOf CX0 P w K mg base N__law_pool "_law_pool" (defScope s__law_pool) A.a__law_pool cdv A' outer s H E).nox (fun i => i ∈ ([0] : List Nat)) (defBody s__law_pool) bd__law_pool :=
      (ss_cons (ss_set (i := 1) sc__law_pool.nd rfl (by first | exact Or.inl rfl | exact Or.inr rfl) (by decide) se_int)
    (ss_cons (ss_for (js := [0]) (rst := [2, 3]) PassesOwn.never rfl (si_any (se_var (i := 0))) (sg_name (i := 2) sc__law_pool.nd rfl (by first | exact Or.inl rfl | exact Or.inr rfl) (by decide)) (ss_cons (ss_set (i := 3) sc__law_pool.nd rfl (by first | exact Or.inl rfl | exact Or.inr rfl) (by decide) (se_sub (se_var (i := 2)) (se_pow se_int se_int)))
    (ss_cons (ss_if (st_lt (se_var (i := 3)) se_int) (ss_one (ss_set (i := 3) sc__law_pool.nd rfl (by first | exact Or.inl rfl | exact Or.inr rfl) (by decide) (se_call (ok__law_spread T B) (hr.mono (by decide)) rfl T.g__law_spread T.F__law_spread.kp T.b__law_spread (sa_cons (se_var (i := 2)) sa_nil) (aCons_len aNil_len)))) ss_nil)
    (ss_one (ss_set (i := 1) sc__law_pool.nd rfl (by first | exact Or.inl rfl | exact Or.inr rfl) (by decide) (se_add (se_mul (se_var (i := 1)) se_int) (se_var (i := 3))))))))
    (ss_one (ss_ret [0] (se_lst (sa_cons (se_var (i := 1)) sa_nil))))))
    exact d

theorem ok__law_take (T : Txt K mg A) (B : TabsB base mg A) : FnOk P w K mg base CX0 1 A.a__law_take A.fd__law_take ["pool", "size"] (spM K mg 2 m__law_take) := by
  refine T.F__law_take.ok sc__law_take (fun vs H Q E h => ?_) (fun cdv A' outer s H vs Q E hr h => ⟨tS K mg (Wx (cxOf CX0 P w K mg base N__law_take "_law_take" (defScope s__law_take) A.a__law_take cdv A' outer s H E).nox) (fun i => i ∈ ([0, 1] : List Nat)) bd__law_take, ?_, body_ok rfl h⟩)
  · obtain ⟨_, _, _, _, _, e, _⟩ := h
    exact e
  · have d : SSs (cxOf CX0 P w K mg base N__law_take "_law_take" (defScope s__law_take) A.a__law_take cdv A' outer s H E).nox (fun i => i ∈ ([0, 1] : List Nat)) (defBody s__law_take) bd__law_take :=
      (ss_cons (ss_set (i := 2) sc__law_take.nd rfl (by first | exact Or.inl rfl | exact Or.inr rfl) (by decide) (se_mod (b_int T.z_int (sa_cons (se_ix (se_var (i := 0)) se_int) sa_nil)) (se_var (i := 1))))
    (ss_cons (ss_setIx 0 (se_div (se_ix (se_var (i := 0)) se_int) (se_var (i := 1))) se_int)
    (ss_one (ss_ret [0, 1] (se_var (i := 2))))))
    exact d

theorem ok__law_longer (T : Txt K mg A) (B : TabsB base mg A) : FnOk P w K mg base CX0 1 A.a__law_longer A.fd__law_longer ["lists", "person"] (spM K mg 2 m__law_longer) := by
  refine T.F__law_longer.ok sc__law_longer (fun vs H Q E h => ?_) (fun cdv A' outer s H vs Q E hr h => ⟨tS K mg (Wx (cxOf CX0 P w K mg base N__law_longer "_law_longer" (defScope s__law_longer) A.a__law_longer cdv A' outer s H E).nox) (fun i => i ∈ ([0, 1] : List Nat)) bd__law_longer, ?_, body_ok rfl h⟩)
  · obtain ⟨_, _, _, _, _, e, _⟩ := h
    exact e
  · have d : SSs (cxOf CX0 P w K mg base N__law_longer "_law_longer" (defScope s__law_longer) A.a__law_longer cdv A' outer s H E).nox (fun i => i ∈ ([0, 1] : List Nat)) (defBody s__law_longer) bd__law_longer :=
      (ss_cons (ss_set (i := 2) sc__law_longer.nd rfl (by first | exact Or.inl rfl | exact Or.inr rfl) (by decide) (se_lst sa_nil))
    (ss_cons (ss_for (js := []) (rst := [3, 4, 5]) PassesOwn.never rfl (si_range1 rfl T.z_range (sa_cons (b_len T.z_len (sa_cons (se_var (i := 0)) sa_nil)) sa_nil)) (sg_name (i := 3) sc__law_longer.nd rfl (by first | exact Or.inl rfl | exact Or.inr rfl) (by decide)) (ss_cons (ss_set (i := 4) sc__law_longer.nd rfl (by first | exact Or.inl rfl | exact Or.inr rfl) (by decide) (se_ix (se_var (i := 0)) (se_var (i := 3))))
    (ss_one (ss_for (js := []) (rst := []) PassesOwn.never rfl (si_range1 rfl T.z_range (sa_cons (se_add (b_len T.z_len (sa_cons (se_var (i := 4)) sa_nil)) se_int) sa_nil)) (sg_name (i := 5) sc__law_longer.nd rfl (by first | exact Or.inl rfl | exact Or.inr rfl) (by decide)) (ss_one (ss_expr (se_mut 2 PySem.F.slot_list_append PySem.F.type_list_append mt_append mu_append (sa_cons (se_add (se_add (se_sl (se_var (i := 0)) sp_none (sp_some (se_var (i := 3)))) (se_lst (sa_cons (se_add (se_add (se_sl (se_var (i := 4)) sp_none (sp_some (se_var (i := 5)))) (se_lst (sa_cons (se_var (i := 1)) sa_nil))) (se_sl (se_var (i := 4)) (sp_some (se_var (i := 5))) sp_none)) sa_nil))) (se_sl (se_var (i := 0)) (sp_some (se_add (se_var (i := 3)) se_int)) sp_none)) sa_nil))))))))
    (ss_one (ss_ret [0, 1] (se_var (i := 2))))))
    exact d

theorem ok__law_divisions (T : Txt K mg A) (B : TabsB base mg A) : FnOk P w K mg base CX0 2 A.a__law_divisions A.fd__law_divisions ["many", "hands"] (spM K mg 2 m__law_divisions) := by
  refine T.F__law_divisions.ok sc__law_divisions (fun vs H Q E h => ?_) (fun cdv A' outer s H vs Q E hr h => ⟨tS K mg (Wx (cxOf CX0 P w K mg base N__law_divisions "_law_divisions" (defScope s__law_divisions) A.a__law_divisions cdv A' outer s H E).nox) (fun i => i ∈ ([0, 1] : List Nat)) bd__law_divisions, ?_, body_ok rfl h⟩)
  · obtain ⟨_, _, _, _, _, e, _⟩ := h
    exact e
  · have d : SSs (cxOf CX0 P w K mg base N__law_divisions "_law_divisions" (defScope s__law_divisions) A.a__law_divisions cdv A' outer s H E).nox (fun i => i ∈ ([0, 1] : List Nat)) (defBody s__law_divisions) bd__law_divisions :=
      (ss_cons (ss_set (i := 2) sc__law_divisions.nd rfl (by first | exact Or.inl rfl | exact Or.inr rfl) (by decide) (se_lst (sa_cons (se_comp (own' := [("hand", 6)]) [] rfl sc__law_divisions.nd (si_range1 rfl T.z_range (sa_cons (se_var (i := 1)) sa_nil)) (blkOk_by (own := [("hand", 6)]) (N := N__law_divisions) (sc := defScope s__law_divisions) (by decide +kernel)) (fun _ _ _ _ _ => (sg_name (i := 6) sc__law_divisions.nd rfl (by first | exact Or.inl rfl | exact Or.inr rfl) (by decide))) (fun _ _ _ _ _ => sts_nil) (fun _ _ _ _ _ => (se_lst sa_nil))) sa_nil)))
    (ss_cons (ss_for (js := []) (rst := [3, 4, 5]) PassesOwn.never rfl (si_range1 rfl T.z_range (sa_cons (se_var (i := 0)) sa_nil)) (sg_name (i := 3) sc__law_divisions.nd rfl (by first | exact Or.inl rfl | exact Or.inr rfl) (by decide)) (ss_cons (ss_set (i := 4) sc__law_divisions.nd rfl (by first | exact Or.inl rfl | exact Or.inr rfl) (by decide) (se_lst sa_nil))
    (ss_cons (ss_for (js := [2]) (rst := []) PassesOwn.never rfl (si_any (se_var (i := 2))) (sg_name (i := 5) sc__law_divisions.nd rfl (by first | exact Or.inl rfl | exact Or.inr rfl) (by decide)) (ss_one (ss_expr (se_mut 4 PySem.F.slot_list_extend PySem.F.type_list_extend mt_extR mu_extend (sa_cons (se_call (ok__law_longer T B) (hr.mono (by decide)) rfl T.g__law_longer T.F__law_longer.kp T.b__law_longer (sa_cons (se_var (i := 5)) (sa_cons (se_var (i := 3)) sa_nil)) (aCons_len (aCons_len aNil_len))) sa_nil)))))
    (ss_one (ss_set (i := 2) sc__law_divisions.nd rfl (by first | exact Or.inl rfl | exact Or.inr rfl) (by decide) (b_list T.z_list (sa_cons (se_var (i := 4)) sa_nil)))))))
    (ss_one (ss_ret [0, 1] (se_var (i := 2))))))
    exact d

theorem ok__law_sum (T : Txt K mg A) (B : TabsB base mg A) : FnOk P w K mg base CX0 1 A.a__law_sum A.fd__law_sum ["works", "lists"] (spM K mg 2 m__law_sum) := by
  refine T.F__law_sum.ok sc__law_sum (fun vs H Q E h => ?_) (fun cdv A' outer s H vs Q E hr h => ⟨tS K mg (Wx (cxOf CX0 P w K mg base N__law_sum "_law_sum" (defScope s__law_sum) A.a__law_sum cdv A' outer s H E).nox) (fun i => i ∈ ([0, 1] : List Nat)) bd__law_sum, ?_, body_ok rfl h⟩)
  · obtain ⟨_, _, _, _, _, e, _⟩ := h
    exact e
  · have d : SSs (cxOf CX0 P w K mg base N__law_sum "_law_sum" (defScope s__law_sum) A.a__law_sum cdv A' outer s H E).nox (fun i => i ∈ ([0, 1] : List Nat)) (defBody s__law_sum) bd__law_sum :=
      (ss_cons (ss_set (i := 2) sc__law_sum.nd rfl (by first | exact Or.inl rfl | exact Or.inr rfl) (by decide) se_int)
    (ss_cons (ss_for (js := [1]) (rst := [3, 4, 5]) PassesOwn.never rfl (si_any (se_var (i := 1))) (sg_name (i := 3) sc__law_sum.nd rfl (by first | exact Or.inl rfl | exact Or.inr rfl) (by decide)) (ss_cons (ss_set (i := 4) sc__law_sum.nd rfl (by first | exact Or.inl rfl | exact Or.inr rfl) (by decide) se_int)
    (ss_one (ss_for (js := [3]) (rst := []) PassesOwn.never rfl (si_any (se_var (i := 3))) (sg_name (i := 5) sc__law_sum.nd rfl (by first | exact Or.inl rfl | exact Or.inr rfl) (by decide)) (ss_cons (ss_set (i := 4) sc__law_sum.nd rfl (by first | exact Or.inl rfl | exact Or.inr rfl) (by decide) (se_add (se_var (i := 4)) (se_ix (se_var (i := 0)) (se_var (i := 5)))))
    (ss_one (ss_set (i := 2) sc__law_sum.nd rfl (by first | exact Or.inl rfl | exact Or.inr rfl) (by decide) (se_add (se_var (i := 2)) (se_var (i := 4))))))))))
    (ss_one (ss_ret [0, 1] (se_var (i := 2))))))
    exact d

theorem ok_division_sum (T : Txt K mg A) (B : TabsB base mg A) : FnOk P w K mg base CX0 1 A.a_division_sum A.fd_division_sum ["works", "lists"] (spM K mg 2 m_division_sum) := by
  refine T.F_division_sum.ok sc_division_sum (fun vs H Q E h => ?_) (fun cdv A' outer s H vs Q E hr h => ⟨tS K mg (Wx (cxOf CX0 P w K mg base N_division_sum "division_sum" (defScope s_division_sum) A.a_division_sum cdv A' outer s H E).nox) (fun i => i ∈ ([0, 1] : List Nat)) bd_division_sum, ?_, body_ok rfl h⟩)
  · obtain ⟨_, _, _, _, _, e, _⟩ := h
    exact e
  · have d : SSs (cxOf CX0 P w K mg base N_division_sum "division_sum" (defScope s_division_sum) A.a_division_sum cdv A' outer s H E).nox (fun i => i ∈ ([0, 1] : List Nat)) (defBody s_division_sum) bd_division_sum :=
      (ss_cons (ss_set (i := 2) sc_division_sum.nd rfl (by first | exact Or.inl rfl | exact Or.inr rfl) (by decide) se_int)
    (ss_cons (ss_for (js := [1]) (rst := [3, 4, 5]) PassesOwn.never rfl (si_any (se_var (i := 1))) (sg_name (i := 3) sc_division_sum.nd rfl (by first | exact Or.inl rfl | exact Or.inr rfl) (by decide)) (ss_cons (ss_set (i := 4) sc_division_sum.nd rfl (by first | exact Or.inl rfl | exact Or.inr rfl) (by decide) se_int)
    (ss_one (ss_for (js := [3]) (rst := []) PassesOwn.never rfl (si_any (se_var (i := 3))) (sg_name (i := 5) sc_division_sum.nd rfl (by first | exact Or.inl rfl | exact Or.inr rfl) (by decide)) (ss_cons (ss_aug 4 ip_add op2_addI (by decide) sc_division_sum.nd rfl (by first | exact Or.inl rfl | exact Or.inr rfl) (se_ix (se_var (i := 0)) (se_var (i := 5))))
    (ss_one (ss_aug 2 ip_add op2_addI (by decide) sc_division_sum.nd rfl (by first | exact Or.inl rfl | exact Or.inr rfl) (se_var (i := 4)))))))))
    (ss_one (ss_ret [0, 1] (se_var (i := 2))))))
    exact d

theorem ok__law_is_integer (T : Txt K mg A) (B : TabsB base mg A) : FnOk P w K mg base CX0 1 A.a__law_is_integer A.fd__law_is_integer ["actual"] (spM K mg 1 m__law_is_integer) := by
  refine T.F__law_is_integer.ok sc__law_is_integer (fun vs H Q E h => ?_) (fun cdv A' outer s H vs Q E hr h => ⟨tS K mg (Wx (cxOf CX0 P w K mg base N__law_is_integer "_law_is_integer" (defScope s__law_is_integer) A.a__law_is_integer cdv A' outer s H E).nox) (fun i => i ∈ ([0] : List Nat)) bd__law_is_integer, ?_, body_ok rfl h⟩)
  · obtain ⟨_, _, _, _, _, e, _⟩ := h
    exact e
  · have d : SSs (cxOf CX0 P w K mg base N__law_is_integer "_law_is_integer" (defScope s__law_is_integer) A.a__law_is_integer cdv A' outer s H E).nox (fun i => i ∈ ([0] : List Nat)) (defBody s__law_is_integer) bd__law_is_integer :=
      (ss_one (ss_ret [0] (se_and (b_isTy .int T.z_isinstance T.z_int boot_int' (se_var (i := 0))) (se_and1 (se_not (b_isTy .bool T.z_isinstance T.z_bool boot_bool' (se_var (i := 0))))))))
    exact d

theorem ok_least_sum (T : Txt K mg A) (B : TabsB base mg A) : FnOk P w K mg base CX0 1 A.a_least_sum A.fd_least_sum ["works", "hands"] (spM K mg 2 m_least_sum) := by
  refine T.F_least_sum.ok sc_least_sum (fun vs H Q E h => ?_) (fun cdv A' outer s H vs Q E hr h => ⟨tS K mg (Wx (cxOf CX0 P w K mg base N_least_sum "least_sum" (defScope s_least_sum) A.a_least_sum cdv A' outer s H E).nox) (fun i => i ∈ ([0, 1] : List Nat)) bd_least_sum, ?_, body_ok rfl h⟩)
  · obtain ⟨_, _, _, _, _, e, _⟩ := h
    exact e
  · have d : SSs (cxOf CX0 P w K mg base N_least_sum "least_sum" (defScope s_least_sum) A.a_least_sum cdv A' outer s H E).nox (fun i => i ∈ ([0, 1] : List Nat)) (defBody s_least_sum) bd_least_sum :=
      (ss_cons (ss_set (i := 2) sc_least_sum.nd rfl (by first | exact Or.inl rfl | exact Or.inr rfl) (by decide) (b_sortedR T.z_sorted (sa_cons (se_var (i := 0)) sa_nil)))
    (ss_one (ss_ret [0, 1] (b_sum rfl T.z_sum (sa_cons (se_comp (own' := [("place", 3), ("work", 4)]) [2] rfl sc_least_sum.nd (si_enum rfl T.z_enumerate (sa_cons (se_var (i := 2)) sa_nil)) (blkOk_by (own := [("place", 3), ("work", 4)]) (N := N_least_sum) (sc := defScope s_least_sum) (by decide +kernel)) (fun _ _ _ _ _ => (sg_tup (is := [3, 4]) rfl (pgs_cons (pg_name (i := 3) sc_least_sum.nd rfl (by first | exact Or.inl rfl | exact Or.inr rfl)) (pgs_cons (pg_name (i := 4) sc_least_sum.nd rfl (by first | exact Or.inl rfl | exact Or.inr rfl)) pgs_nil)) (by decide))) (fun _ _ _ _ _ => sts_nil) (fun _ _ _ _ _ => (se_mul (se_add (se_div (se_var (i := 3)) (se_var (i := 1))) se_int) (se_var (i := 4))))) sa_nil)))))
    exact d

theorem ok_division (T : Txt K mg A) (B : TabsB base mg A) : FnOk P w K mg base CX0 1 A.a_division A.fd_division ["works", "hands"] (spM K mg 2 m_division) := by
  refine okC T.F_division sc_division (fun vs H Q E h => ?_) (fun cdv A' outer s H vs Q E hcd hr h => ⟨tS K mg (Wx (cxOf CX0 P w K mg base N_division "division" (defScope s_division) A.a_division cdv A' outer s H E).nox) (fun i => i ∈ ([0, 1] : List Nat)) bd_division, ?_, body_ok rfl h⟩)
  · obtain ⟨_, _, _, _, _, e, _⟩ := h
    exact e
  · have d : SSs (cxOf CX0 P w K mg base N_division "division" (defScope s_division) A.a_division cdv A' outer s H E).nox (fun i => i ∈ ([0, 1] : List Nat)) (defBody s_division) bd_division :=
      (ss_cons (ss_setLcO (i := 2) (own' := [("hand", 6)]) [] rfl sc_division.nd rfl rfl (by decide) (sw_true rfl rfl rfl (by decide +kernel)) (si_range1 rfl T.z_range (sa_cons (se_var (i := 1)) sa_nil)) (blkOk_by (own := [("hand", 6)]) (N := N_division) (sc := defScope s_division) (by decide +kernel)) (fun _ _ _ _ _ => (sg_name (i := 6) sc_division.nd rfl (by first | exact Or.inl rfl | exact Or.inr rfl) (by decide))) (fun _ _ _ _ _ => sts_nil) (fun _ _ _ _ _ => (se_lst sa_nil)))
    (ss_cons (ss_set (i := 3) sc_division.nd rfl (by first | exact Or.inl rfl | exact Or.inr rfl) (by decide) (se_sortKey "division" 0 rfl hr T.z_sorted T.z_range B.b_division (hcd.symm.trans T.fc_division) (by first | exact List.mem_cons_self | exact List.mem_cons_of_mem _ List.mem_cons_self) T.tf_division T.tn_division (by rfl) (b_len T.z_len (sa_cons (se_var (i := 0)) sa_nil)) (fun _ _ _ _ _ _ => rfl)))
    (ss_cons (ss_for (js := [3]) (rst := [4, 5]) PassesOwn.never rfl (si_enum rfl T.z_enumerate (sa_cons (se_var (i := 3)) sa_nil)) (sg_tup (is := [4, 5]) rfl (pgs_cons (pg_name (i := 4) sc_division.nd rfl (by first | exact Or.inl rfl | exact Or.inr rfl)) (pgs_cons (pg_name (i := 5) sc_division.nd rfl (by first | exact Or.inl rfl | exact Or.inr rfl)) pgs_nil)) (by decide)) (ss_one (ss_expr (se_mutIx 2 PySem.F.slot_list_insert PySem.F.type_list_insert mt_insert mu_insert (se_mod (se_var (i := 4)) (se_var (i := 1))) (sa_cons se_int (sa_cons (se_var (i := 5)) sa_nil))))))
    (ss_one (ss_ret [0, 1] (se_var (i := 2)))))))
    exact d

theorem ok__law_is_division (T : Txt K mg A) (B : TabsB base mg A) : FnOk P w K mg base CX0 1 A.a__law_is_division A.fd__law_is_division ["works", "hands", "lists"] (spM K mg 3 m__law_is_division) := by
  refine T.F__law_is_division.ok sc__law_is_division (fun vs H Q E h => ?_) (fun cdv A' outer s H vs Q E hr h => ⟨tS K mg (Wx (cxOf CX0 P w K mg base N__law_is_division "_law_is_division" (defScope s__law_is_division) A.a__law_is_division cdv A' outer s H E).nox) (fun i => i ∈ ([0, 1, 2] : List Nat)) bd__law_is_division, ?_, body_ok rfl h⟩)
  · obtain ⟨_, _, _, _, _, e, _⟩ := h
    exact e
  · have d : SSs (cxOf CX0 P w K mg base N__law_is_division "_law_is_division" (defScope s__law_is_division) A.a__law_is_division cdv A' outer s H E).nox (fun i => i ∈ ([0, 1, 2] : List Nat)) (defBody s__law_is_division) bd__law_is_division :=
      (ss_cons (ss_if (st_bool (sw_or (st_not (st_val (b_isTy .list T.z_isinstance T.z_list boot_list' (se_var (i := 2))))) (sw_or1 (st_ne hr.units (b_len T.z_len (sa_cons (se_var (i := 2)) sa_nil)) (se_var (i := 1)))))) (ss_one (ss_ret [0, 1, 2] se_bl)) ss_nil)
    (ss_cons (ss_set (i := 3) sc__law_is_division.nd rfl (by first | exact Or.inl rfl | exact Or.inr rfl) (by decide) (se_lst sa_nil))
    (ss_cons (ss_for (js := [2]) (rst := [4, 5]) PassesOwn.never rfl (si_any (se_var (i := 2))) (sg_name (i := 4) sc__law_is_division.nd rfl (by first | exact Or.inl rfl | exact Or.inr rfl) (by decide)) (ss_cons (ss_if (st_not (st_val (b_isTy .list T.z_isinstance T.z_list boot_list' (se_var (i := 4))))) (ss_one (ss_ret [0, 1, 2] se_bl)) ss_nil)
    (ss_one (ss_for (js := [4]) (rst := []) PassesOwn.never rfl (si_any (se_var (i := 4))) (sg_name (i := 5) sc__law_is_division.nd rfl (by first | exact Or.inl rfl | exact Or.inr rfl) (by decide)) (ss_cons (ss_if (st_bool (sw_or (st_not (st_val (b_isTy .int T.z_isinstance T.z_int boot_int' (se_var (i := 5))))) (sw_or1 (st_val (b_isTy .bool T.z_isinstance T.z_bool boot_bool' (se_var (i := 5))))))) (ss_one (ss_ret [0, 1, 2] se_bl)) ss_nil)
    (ss_one (ss_expr (se_mut 3 PySem.F.slot_list_append PySem.F.type_list_append mt_append mu_append (sa_cons (se_var (i := 5)) sa_nil)))))))))
    (ss_one (ss_ret [0, 1, 2] (se_eq hr.units (b_sorted T.z_sorted (sa_cons (se_var (i := 3)) sa_nil)) (b_listR1 rfl T.z_list T.z_range (b_len T.z_len (sa_cons (se_var (i := 0)) sa_nil)))))))))
    exact d

theorem ok_law (T : Txt K mg A) (B : TabsB base mg A) : FnOk P w K mg base CX0 3 A.a_law A.fd_law ["script"] (spM K mg 1 m_law) := by
  refine T.F_law.ok sc_law (fun vs H Q E h => ?_) (fun cdv A' outer s H vs Q E hr h => ⟨tS K mg (Wx (cxOf CX0 P w K mg base N_law "law" (defScope s_law) A.a_law cdv A' outer s H E).nox) (fun i => i ∈ ([0] : List Nat)) bd_law, ?_, body_ok rfl h⟩)
  · obtain ⟨_, _, _, _, _, e, _⟩ := h
    exact e
  · have d : SSs (cxOf CX0 P w K mg base N_law "law" (defScope s_law) A.a_law cdv A' outer s H E).nox (fun i => i ∈ ([0] : List Nat)) (defBody s_law) bd_law :=
      (ss_cons (ss_set (i := 1) sc_law.nd rfl (by first | exact Or.inl rfl | exact Or.inr rfl) (by decide) (se_call (ok__law_pool T B) (hr.mono (by decide)) rfl T.g__law_pool T.F__law_pool.kp T.b__law_pool (sa_cons (se_var (i := 0)) sa_nil) (aCons_len aNil_len)))
    (ss_cons (ss_set (i := 2) sc_law.nd rfl (by first | exact Or.inl rfl | exact Or.inr rfl) (by decide) (se_ix (se_lst (sa_cons se_int (sa_cons se_int (sa_cons se_int sa_nil)))) (se_call (ok__law_take T B) (hr.mono (by decide)) rfl T.g__law_take T.F__law_take.kp T.b__law_take (sa_cons (se_var (i := 1)) (sa_cons se_int sa_nil)) (aCons_len (aCons_len aNil_len)))))
    (ss_cons (ss_set (i := 3) sc_law.nd rfl (by first | exact Or.inl rfl | exact Or.inr rfl) (by decide) (se_add se_int (se_call (ok__law_take T B) (hr.mono (by decide)) rfl T.g__law_take T.F__law_take.kp T.b__law_take (sa_cons (se_var (i := 1)) (sa_cons se_int sa_nil)) (aCons_len (aCons_len aNil_len)))))
    (ss_cons (ss_set (i := 5) sc_law.nd rfl (by first | exact Or.inl rfl | exact Or.inr rfl) (by decide) (se_comp (own' := [("k", 4)]) [] rfl sc_law.nd (si_range1 rfl T.z_range (sa_cons (se_call (ok__law_take T B) (hr.mono (by decide)) rfl T.g__law_take T.F__law_take.kp T.b__law_take (sa_cons (se_var (i := 1)) (sa_cons se_int sa_nil)) (aCons_len (aCons_len aNil_len))) sa_nil)) (blkOk_by (own := [("k", 4)]) (N := N_law) (sc := defScope s_law) (by decide +kernel)) (fun _ _ _ _ _ => (sg_name (i := 4) sc_law.nd rfl (by first | exact Or.inl rfl | exact Or.inr rfl) (by decide))) (fun _ _ _ _ _ => sts_nil) (fun _ _ _ _ _ => (se_add se_int (se_call (ok__law_take T B) (hr.mono (by decide)) rfl T.g__law_take T.F__law_take.kp T.b__law_take (sa_cons (se_var (i := 1)) (sa_cons (se_var (i := 2)) sa_nil)) (aCons_len (aCons_len aNil_len)))))))
    (ss_cons (ss_set (i := 6) sc_law.nd rfl (by first | exact Or.inl rfl | exact Or.inr rfl) (by decide) (b_list T.z_list (sa_cons (se_var (i := 5)) sa_nil)))
    (ss_cons (ss_set (i := 7) sc_law.nd rfl (by first | exact Or.inl rfl | exact Or.inr rfl) (by decide) (se_call (ok__law_divisions T B) (hr.mono (by decide)) rfl T.g__law_divisions T.F__law_divisions.kp T.b__law_divisions (sa_cons (b_len T.z_len (sa_cons (se_var (i := 5)) sa_nil)) (sa_cons (se_var (i := 3)) sa_nil)) (aCons_len (aCons_len aNil_len))))
    (ss_cons (ss_setLc (i := 8) (own' := [("lists", 12)]) [7] rfl sc_law.nd rfl rfl (by decide) (sw_true rfl rfl rfl (by decide +kernel)) (si_any (se_var (i := 7))) (blkOk_by (own := [("lists", 12)]) (N := N_law) (sc := defScope s_law) (by decide +kernel)) (fun _ _ _ _ _ => (sg_name (i := 12) sc_law.nd rfl (by first | exact Or.inl rfl | exact Or.inr rfl) (by decide))) (fun _ _ _ _ _ => sts_nil) (fun _ _ _ _ _ => (se_call (ok__law_sum T B) (hr.mono (by decide)) rfl T.g__law_sum T.F__law_sum.kp T.b__law_sum (sa_cons (se_var (i := 5)) (sa_cons (se_var (i := 12)) sa_nil)) (aCons_len (aCons_len aNil_len)))))
    (ss_cons (ss_for (js := []) (rst := [4, 9]) PassesOwn.never rfl (si_range1 rfl T.z_range (sa_cons (b_len T.z_len (sa_cons (se_var (i := 7)) sa_nil)) sa_nil)) (sg_name (i := 4) sc_law.nd rfl (by first | exact Or.inl rfl | exact Or.inr rfl) (by decide)) (ss_cons (ss_set (i := 9) sc_law.nd rfl (by first | exact Or.inl rfl | exact Or.inr rfl) (by decide) (se_call (ok_division_sum T B) (hr.mono (by decide)) rfl T.g_division_sum T.F_division_sum.kp T.b_division_sum (sa_cons (se_var (i := 6)) (sa_cons (se_comp (own' := [("people", 13)]) [] rfl sc_law.nd (si_any (se_ix (se_var (i := 7)) (se_var (i := 4)))) (blkOk_by (own := [("people", 13)]) (N := N_law) (sc := defScope s_law) (by decide +kernel)) (fun _ _ _ _ _ => (sg_name (i := 13) sc_law.nd rfl (by first | exact Or.inl rfl | exact Or.inr rfl) (by decide))) (fun _ _ _ _ _ => sts_nil) (fun _ _ _ _ _ => (b_list T.z_list (sa_cons (se_var (i := 13)) sa_nil)))) sa_nil)) (aCons_len (aCons_len aNil_len))))
    (ss_one (ss_if (st_bool (sw_or (st_not (st_val (se_call (ok__law_is_integer T B) (hr.mono (by decide)) rfl T.g__law_is_integer T.F__law_is_integer.kp T.b__law_is_integer (sa_cons (se_var (i := 9)) sa_nil) (aCons_len aNil_len)))) (sw_or1 (st_ne hr.units (se_var (i := 9)) (se_ix (se_var (i := 8)) (se_var (i := 4))))))) (ss_one (ss_ret [0] se_bl)) ss_nil))))
    (ss_cons (ss_set (i := 10) sc_law.nd rfl (by first | exact Or.inl rfl | exact Or.inr rfl) (by decide) (se_call (ok_least_sum T B) (hr.mono (by decide)) rfl T.g_least_sum T.F_least_sum.kp T.b_least_sum (sa_cons (se_var (i := 6)) (sa_cons (se_var (i := 3)) sa_nil)) (aCons_len (aCons_len aNil_len))))
    (ss_cons (ss_set (i := 11) sc_law.nd rfl (by first | exact Or.inl rfl | exact Or.inr rfl) (by decide) (se_frz (se_call (ok_division T B) (hr.mono (by decide)) rfl T.g_division T.F_division.kp T.b_division (sa_cons (se_var (i := 6)) (sa_cons (se_var (i := 3)) sa_nil)) (aCons_len (aCons_len aNil_len)))))
    (ss_cons (ss_if (st_bool (sw_or (st_not (st_val (se_call (ok__law_is_integer T B) (hr.mono (by decide)) rfl T.g__law_is_integer T.F__law_is_integer.kp T.b__law_is_integer (sa_cons (se_var (i := 10)) sa_nil) (aCons_len aNil_len)))) (sw_or (st_ne hr.units (se_var (i := 10)) (b_min rfl T.z_min (sa_cons (se_var (i := 8)) sa_nil))) (sw_or1 (st_not (st_val (se_call (ok__law_is_division T B) (hr.mono (by decide)) rfl T.g__law_is_division T.F__law_is_division.kp T.b__law_is_division (sa_cons (se_var (i := 5)) (sa_cons (se_var (i := 3)) (sa_cons (se_var (i := 11)) sa_nil))) (aCons_len (aCons_len (aCons_len aNil_len)))))))))) (ss_one (ss_ret [0] se_bl)) ss_nil)
    (ss_one (ss_ret [0] (se_and (se_eq hr.units (se_call (ok__law_sum T B) (hr.mono (by decide)) rfl T.g__law_sum T.F__law_sum.kp T.b__law_sum (sa_cons (se_var (i := 5)) (sa_cons (se_var (i := 11)) sa_nil)) (aCons_len (aCons_len aNil_len))) (se_var (i := 10))) (se_and1 (se_eq hr.units (se_var (i := 6)) (se_var (i := 5))))))))))))))))))
    exact d

end
end Law

namespace Law
open PySem L2 FW
def spLaw (K : PySem.W.Frag) (cs : List (Addr × Addr)) : Sp := fun vs H Q _ => ∃ (a : Addr) (ns : List Int), vs = [.ref a] ∧ ns.length ≤ 63 ∧ (∀ z ∈ ns, Builtin.Int.intBits z ≤ 1048576) ∧ (∀ p ∈ cs, H p.2 = some (.tbl #[])) ∧ SqL K H a (ns.map V.int) ∧ ∀ H', Q (.bl true) H'
theorem spLaw_of {K : PySem.W.Frag} {mg : Str → Option Value} {cs : List (Addr × Addr)} (ht : ∀ x ∈ (["best_order", "division"] : List Str), ∀ P, TabFn K mg x P → ∃ p ∈ cs, p.2 = P) (vs : List V) (H : Hp) (Q : VK) (E : XK) (h : spLaw K cs vs H Q E) : spM K mg 1 m_law vs H Q E := by
  obtain ⟨a, ns, rfl, h1, h2, hT, hS, hq⟩ := h
  obtain ⟨o, e⟩ := law_true ns h1 h2
  obtain ⟨G, rs0⟩ := res0 (mg := mg) hS fun x hx P hP => let ⟨p, hp, ep⟩ := ht x hx P hP; by rw [← ep]; exact hT p hp
  refine ⟨[⟨some (.ref a), .fz (.scr (ns.map D.int)), []⟩], G, _, o, rfl, rfl, rs0, e, (fun j z => nomatch z), fun cs' v B G' H' f1 f2 rs st => ?_⟩
  rw [rs.val.1.bl_iff]
  exact hq _
theorem all_mk {l : PySem.W.OpenLaw} {w : World} {K : PySem.W.Frag} {h : Heap} {mg : Str → Option Value} {fa : Addr} (X : K.In h) (G : h.Ns mainGlobals mg) (hfa : mg "law" = some (.ref fa)) (tabs : ∀ y ∈ (["division"] : List Str), TabAt mg h y)
    {od__law_spread an__law_spread : Option Addr} {sl__law_spread : Array (Option Value)} {oc__law_spread kV__law_spread dc__law_spread pm__law_spread cd__law_spread ct__law_spread : Value} {f__law_spread : Addr}
    (a__law_spread : PySem.W.nsIn K mainGlobals "_law_spread" = some (some (.ref f__law_spread))) (l__law_spread : K.lookup f__law_spread = some ⟨oc__law_spread, od__law_spread, .func (PySem.W.fnOf "_law_spread" "_law_spread" (defArgs s__law_spread) (defBody s__law_spread) (defScope s__law_spread) .none kV__law_spread dc__law_spread pm__law_spread an__law_spread cd__law_spread ct__law_spread), sl__law_spread⟩) (c__law_spread : PySem.W.codeIn K cd__law_spread "_law_spread" = true) (k__law_spread : PySem.W.keepIn K (.ref f__law_spread) = true)
    {od__law_pool an__law_pool : Option Addr} {sl__law_pool : Array (Option Value)} {oc__law_pool kV__law_pool dc__law_pool pm__law_pool cd__law_pool ct__law_pool : Value} {f__law_pool : Addr}
    (a__law_pool : PySem.W.nsIn K mainGlobals "_law_pool" = some (some (.ref f__law_pool))) (l__law_pool : K.lookup f__law_pool = some ⟨oc__law_pool, od__law_pool, .func (PySem.W.fnOf "_law_pool" "_law_pool" (defArgs s__law_pool) (defBody s__law_pool) (defScope s__law_pool) .none kV__law_pool dc__law_pool pm__law_pool an__law_pool cd__law_pool ct__law_pool), sl__law_pool⟩) (c__law_pool : PySem.W.codeIn K cd__law_pool "_law_pool" = true) (k__law_pool : PySem.W.keepIn K (.ref f__law_pool) = true)
    {od__law_take an__law_take : Option Addr} {sl__law_take : Array (Option Value)} {oc__law_take kV__law_take dc__law_take pm__law_take cd__law_take ct__law_take : Value} {f__law_take : Addr}
    (a__law_take : PySem.W.nsIn K mainGlobals "_law_take" = some (some (.ref f__law_take))) (l__law_take : K.lookup f__law_take = some ⟨oc__law_take, od__law_take, .func (PySem.W.fnOf "_law_take" "_law_take" (defArgs s__law_take) (defBody s__law_take) (defScope s__law_take) .none kV__law_take dc__law_take pm__law_take an__law_take cd__law_take ct__law_take), sl__law_take⟩) (c__law_take : PySem.W.codeIn K cd__law_take "_law_take" = true) (k__law_take : PySem.W.keepIn K (.ref f__law_take) = true)
    {od__law_longer an__law_longer : Option Addr} {sl__law_longer : Array (Option Value)} {oc__law_longer kV__law_longer dc__law_longer pm__law_longer cd__law_longer ct__law_longer : Value} {f__law_longer : Addr}
    (a__law_longer : PySem.W.nsIn K mainGlobals "_law_longer" = some (some (.ref f__law_longer))) (l__law_longer : K.lookup f__law_longer = some ⟨oc__law_longer, od__law_longer, .func (PySem.W.fnOf "_law_longer" "_law_longer" (defArgs s__law_longer) (defBody s__law_longer) (defScope s__law_longer) .none kV__law_longer dc__law_longer pm__law_longer an__law_longer cd__law_longer ct__law_longer), sl__law_longer⟩) (c__law_longer : PySem.W.codeIn K cd__law_longer "_law_longer" = true) (k__law_longer : PySem.W.keepIn K (.ref f__law_longer) = true)
    {od__law_divisions an__law_divisions : Option Addr} {sl__law_divisions : Array (Option Value)} {oc__law_divisions kV__law_divisions dc__law_divisions pm__law_divisions cd__law_divisions ct__law_divisions : Value} {f__law_divisions : Addr}
    (a__law_divisions : PySem.W.nsIn K mainGlobals "_law_divisions" = some (some (.ref f__law_divisions))) (l__law_divisions : K.lookup f__law_divisions = some ⟨oc__law_divisions, od__law_divisions, .func (PySem.W.fnOf "_law_divisions" "_law_divisions" (defArgs s__law_divisions) (defBody s__law_divisions) (defScope s__law_divisions) .none kV__law_divisions dc__law_divisions pm__law_divisions an__law_divisions cd__law_divisions ct__law_divisions), sl__law_divisions⟩) (c__law_divisions : PySem.W.codeIn K cd__law_divisions "_law_divisions" = true) (k__law_divisions : PySem.W.keepIn K (.ref f__law_divisions) = true)
    {od__law_sum an__law_sum : Option Addr} {sl__law_sum : Array (Option Value)} {oc__law_sum kV__law_sum dc__law_sum pm__law_sum cd__law_sum ct__law_sum : Value} {f__law_sum : Addr}
    (a__law_sum : PySem.W.nsIn K mainGlobals "_law_sum" = some (some (.ref f__law_sum))) (l__law_sum : K.lookup f__law_sum = some ⟨oc__law_sum, od__law_sum, .func (PySem.W.fnOf "_law_sum" "_law_sum" (defArgs s__law_sum) (defBody s__law_sum) (defScope s__law_sum) .none kV__law_sum dc__law_sum pm__law_sum an__law_sum cd__law_sum ct__law_sum), sl__law_sum⟩) (c__law_sum : PySem.W.codeIn K cd__law_sum "_law_sum" = true) (k__law_sum : PySem.W.keepIn K (.ref f__law_sum) = true)
    {od_division_sum an_division_sum : Option Addr} {sl_division_sum : Array (Option Value)} {oc_division_sum kV_division_sum dc_division_sum pm_division_sum cd_division_sum ct_division_sum : Value} {f_division_sum : Addr}
    (a_division_sum : PySem.W.nsIn K mainGlobals "division_sum" = some (some (.ref f_division_sum))) (l_division_sum : K.lookup f_division_sum = some ⟨oc_division_sum, od_division_sum, .func (PySem.W.fnOf "division_sum" "division_sum" (defArgs s_division_sum) (defBody s_division_sum) (defScope s_division_sum) .none kV_division_sum dc_division_sum pm_division_sum an_division_sum cd_division_sum ct_division_sum), sl_division_sum⟩) (c_division_sum : PySem.W.codeIn K cd_division_sum "division_sum" = true) (k_division_sum : PySem.W.keepIn K (.ref f_division_sum) = true)
    {od__law_is_integer an__law_is_integer : Option Addr} {sl__law_is_integer : Array (Option Value)} {oc__law_is_integer kV__law_is_integer dc__law_is_integer pm__law_is_integer cd__law_is_integer ct__law_is_integer : Value} {f__law_is_integer : Addr}
    (a__law_is_integer : PySem.W.nsIn K mainGlobals "_law_is_integer" = some (some (.ref f__law_is_integer))) (l__law_is_integer : K.lookup f__law_is_integer = some ⟨oc__law_is_integer, od__law_is_integer, .func (PySem.W.fnOf "_law_is_integer" "_law_is_integer" (defArgs s__law_is_integer) (defBody s__law_is_integer) (defScope s__law_is_integer) .none kV__law_is_integer dc__law_is_integer pm__law_is_integer an__law_is_integer cd__law_is_integer ct__law_is_integer), sl__law_is_integer⟩) (c__law_is_integer : PySem.W.codeIn K cd__law_is_integer "_law_is_integer" = true) (k__law_is_integer : PySem.W.keepIn K (.ref f__law_is_integer) = true)
    {od_least_sum an_least_sum : Option Addr} {sl_least_sum : Array (Option Value)} {oc_least_sum kV_least_sum dc_least_sum pm_least_sum cd_least_sum ct_least_sum : Value} {f_least_sum : Addr}
    (a_least_sum : PySem.W.nsIn K mainGlobals "least_sum" = some (some (.ref f_least_sum))) (l_least_sum : K.lookup f_least_sum = some ⟨oc_least_sum, od_least_sum, .func (PySem.W.fnOf "least_sum" "least_sum" (defArgs s_least_sum) (defBody s_least_sum) (defScope s_least_sum) .none kV_least_sum dc_least_sum pm_least_sum an_least_sum cd_least_sum ct_least_sum), sl_least_sum⟩) (c_least_sum : PySem.W.codeIn K cd_least_sum "least_sum" = true) (k_least_sum : PySem.W.keepIn K (.ref f_least_sum) = true)
    {od_division an_division : Option Addr} {sl_division : Array (Option Value)} {oc_division kV_division dc_division pm_division ct_division : Value} {f_division : Addr}
    {k_division t_division : Addr} {e_division : Value} {dd_division : Option Addr} {vs_division : Array Value} {s2_division : Array (Option Value)} (a_division : PySem.W.nsIn K mainGlobals "division" = some (some (.ref f_division))) (l_division : K.lookup f_division = some ⟨oc_division, od_division, .func (PySem.W.fnOf "division" "division" (defArgs s_division) (defBody s_division) (defScope s_division) .none kV_division dc_division pm_division an_division (.ref k_division) ct_division), sl_division⟩) (c_division : PySem.W.codeIn K (.ref k_division) "division" = true) (k2_division : PySem.W.keepIn K (.ref f_division) = true) (lc_division : K.lookup k_division = some ⟨e_division, dd_division, .fields vs_division, s2_division⟩) (lt_division : vs_division[11]? = some (.ref t_division)) (ln_division : K.lookup t_division = none)
    {od__law_is_division an__law_is_division : Option Addr} {sl__law_is_division : Array (Option Value)} {oc__law_is_division kV__law_is_division dc__law_is_division pm__law_is_division cd__law_is_division ct__law_is_division : Value} {f__law_is_division : Addr}
    (a__law_is_division : PySem.W.nsIn K mainGlobals "_law_is_division" = some (some (.ref f__law_is_division))) (l__law_is_division : K.lookup f__law_is_division = some ⟨oc__law_is_division, od__law_is_division, .func (PySem.W.fnOf "_law_is_division" "_law_is_division" (defArgs s__law_is_division) (defBody s__law_is_division) (defScope s__law_is_division) .none kV__law_is_division dc__law_is_division pm__law_is_division an__law_is_division cd__law_is_division ct__law_is_division), sl__law_is_division⟩) (c__law_is_division : PySem.W.codeIn K cd__law_is_division "_law_is_division" = true) (k__law_is_division : PySem.W.keepIn K (.ref f__law_is_division) = true)
    {od_law an_law : Option Addr} {sl_law : Array (Option Value)} {oc_law kV_law dc_law pm_law cd_law ct_law : Value} {f_law : Addr}
    (a_law : PySem.W.nsIn K mainGlobals "law" = some (some (.ref f_law))) (l_law : K.lookup f_law = some ⟨oc_law, od_law, .func (PySem.W.fnOf "law" "law" (defArgs s_law) (defBody s_law) (defScope s_law) .none kV_law dc_law pm_law an_law cd_law ct_law), sl_law⟩) (c_law : PySem.W.codeIn K cd_law "law" = true) (k_law : PySem.W.keepIn K (.ref f_law) = true)
    (z_bool : PySem.W.nsIn K mainGlobals "bool" = some none)
    (z_enumerate : PySem.W.nsIn K mainGlobals "enumerate" = some none)
    (z_int : PySem.W.nsIn K mainGlobals "int" = some none)
    (z_isinstance : PySem.W.nsIn K mainGlobals "isinstance" = some none)
    (z_len : PySem.W.nsIn K mainGlobals "len" = some none)
    (z_list : PySem.W.nsIn K mainGlobals "list" = some none)
    (z_min : PySem.W.nsIn K mainGlobals "min" = some none)
    (z_range : PySem.W.nsIn K mainGlobals "range" = some none)
    (z_sorted : PySem.W.nsIn K mainGlobals "sorted" = some none)
    (z_sum : PySem.W.nsIn K mainGlobals "sum" = some none)
    (nb_best_order : PySem.W.nsIn K mainGlobals "best_order" = some none) :
    LamX.LawAtS l w K CX0 3 63 "script" mg fa h := by
  have e := (PySem.W.mg_of X G a_law).symm.trans hfa
  cases e
  have F__law_spread := fun_mk (st := s__law_spread) l__law_spread c__law_spread k__law_spread
  have b__law_spread := F__law_spread.binds (ps := ["cell"]) fun _ _ _ _ _ _ us hl => match us, hl with | [_], _ => rfl
  have F__law_pool := fun_mk (st := s__law_pool) l__law_pool c__law_pool k__law_pool
  have b__law_pool := F__law_pool.binds (ps := ["script"]) fun _ _ _ _ _ _ us hl => match us, hl with | [_], _ => rfl
  have F__law_take := fun_mk (st := s__law_take) l__law_take c__law_take k__law_take
  have b__law_take := F__law_take.binds (ps := ["pool", "size"]) fun _ _ _ _ _ _ us hl => match us, hl with | [_, _], _ => rfl
  have F__law_longer := fun_mk (st := s__law_longer) l__law_longer c__law_longer k__law_longer
  have b__law_longer := F__law_longer.binds (ps := ["lists", "person"]) fun _ _ _ _ _ _ us hl => match us, hl with | [_, _], _ => rfl
  have F__law_divisions := fun_mk (st := s__law_divisions) l__law_divisions c__law_divisions k__law_divisions
  have b__law_divisions := F__law_divisions.binds (ps := ["many", "hands"]) fun _ _ _ _ _ _ us hl => match us, hl with | [_, _], _ => rfl
  have F__law_sum := fun_mk (st := s__law_sum) l__law_sum c__law_sum k__law_sum
  have b__law_sum := F__law_sum.binds (ps := ["works", "lists"]) fun _ _ _ _ _ _ us hl => match us, hl with | [_, _], _ => rfl
  have F_division_sum := fun_mk (st := s_division_sum) l_division_sum c_division_sum k_division_sum
  have b_division_sum := F_division_sum.binds (ps := ["works", "lists"]) fun _ _ _ _ _ _ us hl => match us, hl with | [_, _], _ => rfl
  have F__law_is_integer := fun_mk (st := s__law_is_integer) l__law_is_integer c__law_is_integer k__law_is_integer
  have b__law_is_integer := F__law_is_integer.binds (ps := ["actual"]) fun _ _ _ _ _ _ us hl => match us, hl with | [_], _ => rfl
  have F_least_sum := fun_mk (st := s_least_sum) l_least_sum c_least_sum k_least_sum
  have b_least_sum := F_least_sum.binds (ps := ["works", "hands"]) fun _ _ _ _ _ _ us hl => match us, hl with | [_, _], _ => rfl
  have F_division := fun_mk (st := s_division) l_division c_division k2_division
  have b_division := F_division.binds (ps := ["works", "hands"]) fun _ _ _ _ _ _ us hl => match us, hl with | [_, _], _ => rfl
  have F__law_is_division := fun_mk (st := s__law_is_division) l__law_is_division c__law_is_division k__law_is_division
  have b__law_is_division := F__law_is_division.binds (ps := ["works", "hands", "lists"]) fun _ _ _ _ _ _ us hl => match us, hl with | [_, _, _], _ => rfl
  have F_law := fun_mk (st := s_law) l_law c_law k_law
  have b_law := F_law.binds (ps := ["script"]) fun _ _ _ _ _ _ us hl => match us, hl with | [_], _ => rfl
  have tf_division : TabFn K mg "division" t_division := ⟨f_division, _, _, k_division, _, _, _, _, PySem.W.mg_of X G a_division, l_division, rfl, rfl, lc_division, lt_division⟩
  have tb_division := TabAt.of (tabs "division" (by first | exact List.mem_cons_self | exact List.mem_cons_of_mem _ List.mem_cons_self)) X (PySem.W.mg_of X G a_division) l_division rfl rfl lc_division lt_division
  have ht : ∀ x ∈ (["best_order", "division"] : List Str), ∀ P, TabFn K mg x P → ∃ p ∈ ([(k_division, t_division)] : List (Addr × Addr)), p.2 = P := by
    intro x hx P hP
    rcases List.mem_cons.mp hx with e | hx
    · subst e; obtain ⟨_, _, _, _, _, _, _, _, z, _⟩ := hP; rw [PySem.W.mg_none_of X G nb_best_order] at z; cases z
    · have e := List.mem_singleton.mp hx
      subst e; exact ⟨_, (by first | exact List.mem_cons_self | exact List.mem_cons_of_mem _ List.mem_cons_self), (hP.one tf_division).symm⟩
  have T : Txt K mg ⟨f__law_spread, _, f__law_pool, _, f__law_take, _, f__law_longer, _, f__law_divisions, _, f__law_sum, _, f_division_sum, _, f__law_is_integer, _, f_least_sum, _, f_division, _, f__law_is_division, _, fa, _, k_division, t_division⟩ := ⟨F__law_spread, PySem.W.mg_of X G a__law_spread, b__law_spread, F__law_pool, PySem.W.mg_of X G a__law_pool, b__law_pool, F__law_take, PySem.W.mg_of X G a__law_take, b__law_take, F__law_longer, PySem.W.mg_of X G a__law_longer, b__law_longer, F__law_divisions, PySem.W.mg_of X G a__law_divisions, b__law_divisions, F__law_sum, PySem.W.mg_of X G a__law_sum, b__law_sum, F_division_sum, PySem.W.mg_of X G a_division_sum, b_division_sum, F__law_is_integer, PySem.W.mg_of X G a__law_is_integer, b__law_is_integer, F_least_sum, PySem.W.mg_of X G a_least_sum, b_least_sum, F_division, PySem.W.mg_of X G a_division, b_division, F__law_is_division, PySem.W.mg_of X G a__law_is_division, b__law_is_division, F_law, PySem.W.mg_of X G a_law, b_law, PySem.W.mg_none_of X G z_bool, PySem.W.mg_none_of X G z_enumerate, PySem.W.mg_none_of X G z_int, PySem.W.mg_none_of X G z_isinstance, PySem.W.mg_none_of X G z_len, PySem.W.mg_none_of X G z_list, PySem.W.mg_none_of X G z_min, PySem.W.mg_none_of X G z_range, PySem.W.mg_none_of X G z_sorted, PySem.W.mg_none_of X G z_sum, rfl, tf_division, (by
    intro x' hx hne P' hP
    rcases List.mem_cons.mp hx with e | hx
    · subst e; obtain ⟨_, _, _, _, _, _, _, _, z, _⟩ := hP; rw [PySem.W.mg_none_of X G nb_best_order] at z; cases z
    · have e := List.mem_singleton.mp hx
      subst e; exact absurd rfl hne)⟩
  exact ⟨_, [(k_division, t_division)], spLaw K [(k_division, t_division)], List.forall_mem_cons.2 ⟨tb_division.2, List.forall_mem_nil _⟩, List.forall_mem_cons.2 ⟨ln_division, List.forall_mem_nil _⟩, List.forall_mem_cons.2 ⟨tb_division.1, List.forall_mem_nil _⟩, fun s v => .of_eq rfl, fun H a ns h1 h2 hT hS => ⟨a, ns, rfl, h1, h2, hT, hS, fun _ => rfl⟩, fun base hb1 hb2 hb3 => (ok_law T ⟨hb3 (k_division, t_division) (by first | exact List.mem_cons_self | exact List.mem_cons_of_mem _ List.mem_cons_self)⟩).imp (spLaw_of ht)⟩
theorem walk {l : PySem.W.OpenLaw} {q : Program} {loose : List Str} {XP : (Str → Option Value) → Heap → Prop} {YP : World → Heap → Prop} {d : DefRec} {K : Params → PySem.W.Frag} (hn : l.most = some 63) (hdf : d.params.defaults = [])
    (there : ∀ y ∈ (["division"] : List Str), ((PyProof.Rows.recsOf q).any fun e => e.name == y) = true) (hY : ∀ (w : World) (h : Heap), YP w h → (K w.params).In h)
    (F : ∀ (w : World) (mg : Str → Option Value) (fa : Addr) (h : Heap), (K w.params).In h → h.Ns mainGlobals mg → mg d.name = some (.ref fa) → (∀ y ∈ (["division"] : List Str), TabAt mg h y) → LamX.LawAtS l w (K w.params) CX0 3 63 "script" mg fa h) :
    PySem.W.WalkO q loose XP YP l.row.toRowW d [] (fun f vs => PySem.call f vs) := walk_tabs (CX := fun _ => CX0) ["division"] hn (by decide) hdf ⟨rfl, by decide, by decide⟩ there hY F fun _ _ _ _ _ z => z
end Law

open PySem PySem.W PyProof.Rows in
set_option maxRecDepth 100000 in
set_option maxHeartbeats 0 in
theorem PySem.Challenge.cw_fewestwait_k54_whole_least_sum_of_all_di_holds : PySem.Challenge.rw_fewestwait_k54_whole_least_sum_of_all_di.Holds := by
  w_on; o_law; k_head; (case hw => w_witness2)
  k_fill
  refine Law.walk (l := PySem.Challenge.rw_fewestwait_k54_whole_least_sum_of_all_di) rfl rfl (by decide +kernel) (fun w h Y => by first | exact PySem.W.kIn_of Y | exact PySem.W.km_in_of Y) ?F
  case F =>
    intro w mg fa h KX G hmg tabs
    refine' Law.all_mk KX G hmg tabs ?a__law_spread ?l__law_spread ?c__law_spread ?k__law_spread ?a__law_pool ?l__law_pool ?c__law_pool ?k__law_pool ?a__law_take ?l__law_take ?c__law_take ?k__law_take ?a__law_longer ?l__law_longer ?c__law_longer ?k__law_longer ?a__law_divisions ?l__law_divisions ?c__law_divisions ?k__law_divisions ?a__law_sum ?l__law_sum ?c__law_sum ?k__law_sum ?a_division_sum ?l_division_sum ?c_division_sum ?k_division_sum ?a__law_is_integer ?l__law_is_integer ?c__law_is_integer ?k__law_is_integer ?a_least_sum ?l_least_sum ?c_least_sum ?k_least_sum ?a_division ?l_division ?c_division ?k2_division ?lc_division ?lt_division ?ln_division ?a__law_is_division ?l__law_is_division ?c__law_is_division ?k__law_is_division ?a_law ?l_law ?c_law ?k_law ?z_bool ?z_enumerate ?z_int ?z_isinstance ?z_len ?z_list ?z_min ?z_range ?z_sorted ?z_sum ?nb_best_order
    (case a__law_spread => k_is)
    (case l__law_spread => k_is)
    (case c__law_spread => k_is)
    (case k__law_spread => k_is)
    (case a__law_pool => k_is)
    (case l__law_pool => k_is)
    (case c__law_pool => k_is)
    (case k__law_pool => k_is)
    (case a__law_take => k_is)
    (case l__law_take => k_is)
    (case c__law_take => k_is)
    (case k__law_take => k_is)
    (case a__law_longer => k_is)
    (case l__law_longer => k_is)
    (case c__law_longer => k_is)
    (case k__law_longer => k_is)
    (case a__law_divisions => k_is)
    (case l__law_divisions => k_is)
    (case c__law_divisions => k_is)
    (case k__law_divisions => k_is)
    (case a__law_sum => k_is)
    (case l__law_sum => k_is)
    (case c__law_sum => k_is)
    (case k__law_sum => k_is)
    (case a_division_sum => k_is)
    (case l_division_sum => k_is)
    (case c_division_sum => k_is)
    (case k_division_sum => k_is)
    (case a__law_is_integer => k_is)
    (case l__law_is_integer => k_is)
    (case c__law_is_integer => k_is)
    (case k__law_is_integer => k_is)
    (case a_least_sum => k_is)
    (case l_least_sum => k_is)
    (case c_least_sum => k_is)
    (case k_least_sum => k_is)
    (case a_division => k_is)
    (case l_division => k_is)
    (case c_division => k_is)
    (case k2_division => k_is)
    (case lc_division => k_is)
    (case lt_division => first | rfl | k_is | decide +kernel)
    (case ln_division => first | rfl | k_is | decide +kernel)
    (case a__law_is_division => k_is)
    (case l__law_is_division => k_is)
    (case c__law_is_division => k_is)
    (case k__law_is_division => k_is)
    (case a_law => k_is)
    (case l_law => k_is)
    (case c_law => k_is)
    (case k_law => k_is)
    (case z_bool => k_is)
    (case z_enumerate => k_is)
    (case z_int => k_is)
    (case z_isinstance => k_is)
    (case z_len => k_is)
    (case z_list => k_is)
    (case z_min => k_is)
    (case z_range => k_is)
    (case z_sorted => k_is)
    (case z_sum => k_is)
    (case nb_best_order => k_is)

