import PyProof.Rows.All
import Wide.All
import OpenK.AllK
import Wide.FinOn
import HandS.ForMost
import HandS.ForExc
import HandS.Evl
import HandS.Flow
import HandS.IsInst
import HandS.CallSlots
import HandS.TryMany
import HandS.ExcInit
import HandS.ExcField
import HandS.Nested
import HandS.NestedK
import HandS.TupAny
import HandS.TupMul
import HandS.Wide
import HandS.Conv
import HandS.Zip
import HandS.Iter
import HandS.ClsMeth
import KE.KExcSuper
import KE.KStateDown
import HandS.HeadHook1
import HandS.HeadHook2
import HandS.Head0
import HandS.Head1
import HandS.Head2
import HandS.HeadEnd
import HandS.EndBits
import HandS.MakeKw
import PySem.Challenge.RW_sharesunseen_k08_editions_of_a_shelf
set_option Elab.async false
set_option linter.all false
set_option maxRecDepth 100000
set_option maxHeartbeats 4000000
namespace DL
open PySem PySem.Spec L2

/-! ## 1. Data, cells, stores -/
/-- a datum: lst, tup, ins never change; rol: a list that is read alone (the script, a constant of the top); exc: an error that an except suite holds; m n: the n-th cell of the store -/
inductive D where
  | non | bl (b : Bool) | int (i : Int) | str (x : Str)
  | lst (xs : List D) | tup (xs : List D)
  | rol (xs : List D)
  | ins (C : Addr) (fs : List (Str × D))
  | cv (v : V)
  | exc (a dx C : Addr) (fs : List (Str × D))
  | m (n : Nat)
instance : Inhabited D := ⟨.non⟩
/-- what may change -/
inductive Cell where
  | lst (xs : List D)
  | ins (C : Addr) (fs : List (Str × D))
abbrev Sto := Nat → Option Cell
def put (S : Sto) (n : Nat) (c : Cell) : Sto := fun k => if k = n then some c else S k
def del (S : Sto) (n : Nat) : Sto := fun k => if k = n then none else S k
theorem put_same {S : Sto} {n : Nat} {c : Cell} : put S n c n = some c := if_pos rfl
theorem put_ne {S : Sto} {n k : Nat} {c : Cell} (h : k ≠ n) : put S n c k = S k := if_neg h
theorem del_same {S : Sto} {n : Nat} : del S n n = none := if_pos rfl
theorem del_ne {S : Sto} {n k : Nat} (h : k ≠ n) : del S n k = S k := if_neg h
theorem put_put {S : Sto} {n : Nat} {c c' : Cell} : put (put S n c) n c' = put S n c' := by
  funext k
  unfold put
  by_cases h : k = n
  · rw [if_pos h, if_pos h]
  · rw [if_neg h, if_neg h, if_neg h]
/-- fewer cells, the same content -/
def Sub (S' S : Sto) : Prop := ∀ n c, S' n = some c → S n = some c
theorem Sub.refl (S : Sto) : Sub S S := fun _ _ h => h
theorem Sub.trans {S S' S'' : Sto} (a : Sub S S') (b : Sub S' S'') : Sub S S'' := fun n c h => b n c (a n c h)
theorem Sub.put {S S' : Sto} {n : Nat} {c : Cell} (a : Sub S S') (h : S n = none) : Sub S (put S' n c) := fun k d e => by
  have hk : k ≠ n := fun z => by rw [z, h] at e; cases e
  rw [put_ne hk]
  exact a k d e
theorem Sub.del {S S' : Sto} {n : Nat} (a : Sub S S') (h : S n = none) : Sub S (del S' n) := fun k d e => by
  have hk : k ≠ n := fun z => by rw [z, h] at e; cases e
  rw [del_ne hk]
  exact a k d e
abbrev Lo := List (Option D)
abbrev Am := Nat → Option Addr
structure Err where
  C : Addr
  fs : List (Str × D)

/-! ## 2. What a value stands for -/
section
variable (K : PySem.W.Frag) (I : Hp) (α : Am)
mutual
inductive Rp : V → D → Prop
  | non : Rp .non .non
  | bl (b) : Rp (.bl b) (.bl b)
  | int (i) : Rp (.int i) (.int i)
  | str (x) : Rp (.str x) (.str x)
  | lst {p vs ds} (h : I p = some (.lst vs)) (r : RpL vs ds) : Rp (.ref p) (.lst ds)
  | rol {p vs ds} (h : SqL K I p vs) (r : RpL vs ds) : Rp (.ref p) (.rol ds)
  | tup {p vs ds} (h : SqT K I p vs) (r : RpL vs ds) : Rp (.ref p) (.tup ds)
  | ins {p C dx vs fs} (h : I p = some (.ins C dx vs)) (r : RpF vs fs) : Rp (.ref p) (.ins C fs)
  | cv (v) : Rp v (.cv v)
  | exc {a dx C vs fs} (h : I dx = some (.xd vs)) (r : RpF vs fs) : Rp (.ref a) (.exc a dx C fs)
  | m {p n} (h : α n = some p) : Rp (.ref p) (.m n)
inductive RpL : List V → List D → Prop
  | nil : RpL [] []
  | cons {v d vs ds} (h : Rp v d) (r : RpL vs ds) : RpL (v :: vs) (d :: ds)
inductive RpF : List (Str × V) → List (Str × D) → Prop
  | nil : RpF [] []
  | cons {f v d vs ds} (h : Rp v d) (r : RpF vs ds) : RpF ((f, v) :: vs) ((f, d) :: ds)
end
end
section
variable {K : PySem.W.Frag} {I I' : Hp} {α α' : Am}
def HpLe (I I' : Hp) : Prop := ∀ p o, I p = some o → I' p = some o
theorem SqL.le {p : Addr} {vs : List V} (h : SqL K I p vs) (e : HpLe I I') : SqL K I' p vs := Evl.ex_l e h
theorem SqT.le {p : Addr} {vs : List V} (h : SqT K I p vs) (e : HpLe I I') : SqT K I' p vs := Evl.ex_t e h
mutual
theorem Rp.le (e : HpLe I I') (a : ∀ n p, α n = some p → α' n = some p) : ∀ {v d}, Rp K I α v d → Rp K I' α' v d
  | _, _, .non => .non
  | _, _, .bl b => .bl b
  | _, _, .int i => .int i
  | _, _, .str x => .str x
  | _, _, .lst h r => .lst (e _ _ h) (RpL.le e a r)
  | _, _, .rol h r => .rol (SqL.le h e) (RpL.le e a r)
  | _, _, .tup h r => .tup (SqT.le h e) (RpL.le e a r)
  | _, _, .ins h r => .ins (e _ _ h) (RpF.le e a r)
  | _, _, .cv v => .cv v
  | _, _, .exc h r => .exc (e _ _ h) (RpF.le e a r)
  | _, _, .m h => .m (a _ _ h)
theorem RpL.le (e : HpLe I I') (a : ∀ n p, α n = some p → α' n = some p) : ∀ {vs ds}, RpL K I α vs ds → RpL K I' α' vs ds
  | _, _, .nil => .nil
  | _, _, .cons h r => .cons (Rp.le e a h) (RpL.le e a r)
theorem RpF.le (e : HpLe I I') (a : ∀ n p, α n = some p → α' n = some p) : ∀ {vs ds}, RpF K I α vs ds → RpF K I' α' vs ds
  | _, _, .nil => .nil
  | _, _, .cons h r => .cons (Rp.le e a h) (RpF.le e a r)
end
theorem RpL.length : ∀ {vs : List V} {ds : List D}, RpL K I α vs ds → vs.length = ds.length
  | _, _, .nil => rfl
  | _, _, .cons _ r => congrArg (· + 1) (RpL.length r)
theorem RpF.length : ∀ {vs : List (Str × V)} {ds : List (Str × D)}, RpF K I α vs ds → vs.length = ds.length
  | _, _, .nil => rfl
  | _, _, .cons _ r => congrArg (· + 1) (RpF.length r)
theorem RpL.get : ∀ {vs : List V} {ds : List D} {i : Nat} {d : D}, RpL K I α vs ds → ds[i]? = some d → ∃ v, vs[i]? = some v ∧ Rp K I α v d
  | _, _, _, _, .nil, e => by simp at e
  | _, _, 0, d, .cons h _, e => by
    simp at e
    subst e
    exact ⟨_, rfl, h⟩
  | _, _, i + 1, d, .cons _ r, e => by
    obtain ⟨v, h1, h2⟩ := RpL.get (i := i) r (by simpa using e)
    exact ⟨v, by simpa using h1, h2⟩
theorem RpL.get' : ∀ {vs : List V} {ds : List D} {i : Nat} {v : V}, RpL K I α vs ds → vs[i]? = some v → ∃ d, ds[i]? = some d ∧ Rp K I α v d
  | _, _, _, _, .nil, e => by simp at e
  | _, _, 0, d, .cons h _, e => by
    simp at e
    subst e
    exact ⟨_, rfl, h⟩
  | _, _, i + 1, d, .cons _ r, e => by
    obtain ⟨v, h1, h2⟩ := RpL.get' (i := i) r (by simpa using e)
    exact ⟨v, by simpa using h1, h2⟩
theorem RpL.append : ∀ {vs : List V} {ds : List D} {ws es}, RpL K I α vs ds → RpL K I α ws es → RpL K I α (vs ++ ws) (ds ++ es)
  | _, _, _, _, .nil, s => s
  | _, _, _, _, .cons h r, s => .cons h (RpL.append r s)
theorem RpL.take : ∀ {vs : List V} {ds : List D} (n : Nat), RpL K I α vs ds → RpL K I α (vs.take n) (ds.take n)
  | _, _, 0, _ => .nil
  | _, _, _ + 1, .nil => .nil
  | _, _, n + 1, .cons h r => .cons h (RpL.take n r)
theorem RpL.drop : ∀ {vs : List V} {ds : List D} (n : Nat), RpL K I α vs ds → RpL K I α (vs.drop n) (ds.drop n)
  | _, _, 0, r => r
  | _, _, _ + 1, .nil => .nil
  | _, _, n + 1, .cons _ r => RpL.drop n r
theorem RpL.set : ∀ {vs : List V} {ds : List D} (n : Nat) {v d}, RpL K I α vs ds → Rp K I α v d → RpL K I α (vs.set n v) (ds.set n d)
  | _, _, _, _, _, .nil, _ => .nil
  | _, _, 0, _, _, .cons _ r, q => .cons q r
  | _, _, n + 1, _, _, .cons h r, q => .cons h (RpL.set n r q)
theorem RpL.reverse : ∀ {vs : List V} {ds : List D}, RpL K I α vs ds → RpL K I α vs.reverse ds.reverse
  | _, _, .nil => .nil
  | _, _, .cons h r => by
    rw [List.reverse_cons, List.reverse_cons]
    exact (RpL.reverse r).append (.cons h .nil)
theorem RpL.replicate {v d} (h : Rp K I α v d) : ∀ n : Nat, RpL K I α (List.replicate n v) (List.replicate n d)
  | 0 => .nil
  | n + 1 => by
    rw [List.replicate_succ, List.replicate_succ]
    exact .cons h (RpL.replicate h n)
theorem RpL.one {v d} (h : Rp K I α v d) : RpL K I α [v] [d] := .cons h .nil
theorem RpF.lookup : ∀ {vs : List (Str × V)} {ds : List (Str × D)} {f : Str} {d : D}, RpF K I α vs ds → ds.lookup f = some d → ∃ v, vs.lookup f = some v ∧ Rp K I α v d
  | _, _, _, _, .nil, e => by cases e
  | _, _, f, d, .cons (f := g) h r, e => by
    rw [List.lookup_cons] at e ⊢
    cases hg : f == g with
    | true =>
      rw [hg] at e
      cases e
      exact ⟨_, rfl, h⟩
    | false =>
      rw [hg] at e
      exact RpF.lookup r e
theorem RpF.lookupN : ∀ {vs : List (Str × V)} {ds : List (Str × D)} {f : Str}, RpF K I α vs ds → ds.lookup f = none → vs.lookup f = none
  | _, _, _, .nil, e => rfl
  | _, _, f, .cons (f := g) h r, e => by
    rw [List.lookup_cons] at e ⊢
    cases hg : f == g with
    | true =>
      rw [hg] at e
      cases e
    | false =>
      rw [hg] at e
      exact RpF.lookupN r e
/-- flat values -/
theorem Rp.int' {v : V} {i : Int} (h : Rp K I α v (.int i)) : v = .int i := by cases h; rfl
theorem Rp.bl' {v : V} {i : Bool} (h : Rp K I α v (.bl i)) : v = .bl i := by cases h; rfl
theorem Rp.str' {v : V} {i : Str} (h : Rp K I α v (.str i)) : v = .str i := by cases h; rfl
theorem Rp.non' {v : V} (h : Rp K I α v .non) : v = .non := by cases h; rfl
theorem Rp.cv' {v u : V} (h : Rp K I α v (.cv u)) : v = u := by cases h; rfl
theorem Rp.lst' {v : V} {ds : List D} (h : Rp K I α v (.lst ds)) : ∃ p vs, v = .ref p ∧ I p = some (.lst vs) ∧ RpL K I α vs ds := by
  cases h with
  | lst h r => exact ⟨_, _, rfl, h, r⟩
theorem Rp.rol' {v : V} {ds : List D} (h : Rp K I α v (.rol ds)) : ∃ p vs, v = .ref p ∧ SqL K I p vs ∧ RpL K I α vs ds := by
  cases h with
  | rol h r => exact ⟨_, _, rfl, h, r⟩
theorem Rp.tup' {v : V} {ds : List D} (h : Rp K I α v (.tup ds)) : ∃ p vs, v = .ref p ∧ SqT K I p vs ∧ RpL K I α vs ds := by
  cases h with
  | tup h r => exact ⟨_, _, rfl, h, r⟩
theorem Rp.ins' {v : V} {C : Addr} {fs : List (Str × D)} (h : Rp K I α v (.ins C fs)) : ∃ p dx vs, v = .ref p ∧ I p = some (.ins C dx vs) ∧ RpF K I α vs fs := by
  cases h with
  | ins h r => exact ⟨_, _, _, rfl, h, r⟩
theorem Rp.m' {v : V} {n : Nat} (h : Rp K I α v (.m n)) : ∃ p, v = .ref p ∧ α n = some p := by
  cases h with
  | m h => exact ⟨_, rfl, h⟩
theorem rpl_ints : ∀ ns : List Int, RpL K I α (ns.map V.int) (ns.map D.int)
  | [] => .nil
  | n :: r => .cons (.int n) (rpl_ints r)
end

/-! ## 3. The world: frozen heap, cells' addresses, store, heap -/
structure Wd where
  I : Hp
  α : Am
  S : Sto
  H : Hp
def CellR (K : PySem.W.Frag) (I : Hp) (α : Am) : Cell → HO → Prop
  | .lst ds, o => ∃ vs, o = .lst vs ∧ RpL K I α vs ds
  | .ins C fs, o => ∃ dx vs, o = .ins C dx vs ∧ RpF K I α vs fs
structure Ok (K : PySem.W.Frag) (w : Wd) : Prop where
  sub : HpLe w.I w.H
  cel : ∀ n c, w.S n = some c → ∃ p o, w.α n = some p ∧ w.H p = some o ∧ w.I p = none ∧ CellR K w.I w.α c o
  inj : ∀ n m p, w.S n ≠ none → w.S m ≠ none → w.α n = some p → w.α m = some p → n = m
  fin : ∃ N : Nat, ∀ n, N ≤ n → w.α n = none
structure Le (w w' : Wd) : Prop where
  ii : HpLe w.I w'.I
  aa : ∀ n p, w.α n = some p → w'.α n = some p
  hh : ∀ p o, w.H p = some o → (∀ n, w.S n ≠ none → w.α n ≠ some p) → w'.H p = some o
  there : ∀ p, w.H p ≠ none → w'.H p ≠ none
  newI : ∀ p, w'.I p ≠ none → w.I p ≠ none ∨ w.H p = none ∨ ∃ n, w.S n ≠ none ∧ w.α n = some p
  newA : ∀ n p, w'.α n = some p → w.α n = some p ∨ (w.α n = none ∧ w.H p = none)
  dom : ∀ n, w'.S n ≠ none → w.S n ≠ none ∨ w.α n = none
theorem Le.refl (w : Wd) : Le w w := ⟨fun _ _ h => h, fun _ _ h => h, fun _ _ h _ => h, fun _ h => h, fun _ h => .inl h, fun _ _ h => .inl h, fun _ h => .inl h⟩
theorem Le.trans {w w1 w2 : Wd} (a : Le w w1) (b : Le w1 w2) : Le w w2 := by
  have back : ∀ p, w1.H p = none → w.H p = none := fun p h => by
    cases e : w.H p with
    | none => rfl
    | some o => exact absurd h (a.there p (by rw [e]; simp))
  refine ⟨fun p o h => b.ii p o (a.ii p o h), fun n p h => b.aa n p (a.aa n p h), fun p o h hn => ?_, fun p h => b.there p (a.there p h), fun p h => ?_, fun n p h => ?_, fun n h => ?_⟩
  · refine b.hh p o (a.hh p o h hn) fun n hs he => ?_
    rcases a.newA n p he with z | ⟨_, z⟩
    · rcases a.dom n hs with q | q
      · exact hn n q z
      · rw [q] at z; cases z
    · rw [h] at z; cases z
  · rcases b.newI p h with z | z | ⟨n, hs, z⟩
    · exact a.newI p z
    · exact .inr (.inl (back p z))
    · rcases a.newA n p z with y | ⟨_, y⟩
      · rcases a.dom n hs with q | q
        · exact .inr (.inr ⟨n, q, y⟩)
        · rw [q] at y; cases y
      · exact .inr (.inl y)
  · rcases b.newA n p h with z | ⟨z, y⟩
    · exact a.newA n p z
    · refine .inr ⟨?_, back p y⟩
      cases e : w.α n with
      | none => rfl
      | some q => rw [a.aa n q e] at z; cases z
  · rcases b.dom n h with z | z
    · exact a.dom n z
    · refine .inr ?_
      cases e : w.α n with
      | none => rfl
      | some q => rw [a.aa n q e] at z; cases z
theorem Rp.up {K : PySem.W.Frag} {w w' : Wd} {v : V} {d : D} (h : Rp K w.I w.α v d) (l : Le w w') : Rp K w'.I w'.α v d := Rp.le l.ii l.aa h
theorem RpL.up {K : PySem.W.Frag} {w w' : Wd} {v : List V} {d : List D} (h : RpL K w.I w.α v d) (l : Le w w') : RpL K w'.I w'.α v d := RpL.le l.ii l.aa h
theorem RpF.up {K : PySem.W.Frag} {w w' : Wd} {v : List (Str × V)} {d : List (Str × D)} (h : RpF K w.I w.α v d) (l : Le w w') : RpF K w'.I w'.α v d := RpF.le l.ii l.aa h
/-- read in the frozen heap, read in the heap -/
theorem Ok.sqL {K : PySem.W.Frag} {w : Wd} (ok : Ok K w) {p : Addr} {vs : List V} (h : SqL K w.I p vs) : SqL K w.H p vs := SqL.le h ok.sub
theorem Ok.sqT {K : PySem.W.Frag} {w : Wd} (ok : Ok K w) {p : Addr} {vs : List V} (h : SqT K w.I p vs) : SqT K w.H p vs := SqT.le h ok.sub
/-- a new frozen object -/
def Wd.lay (w : Wd) (p : Addr) (o : HO) : Wd := ⟨upd w.I p o, w.α, w.S, upd w.H p o⟩
theorem HpLe.upd {I : Hp} {p : Addr} {o : HO} (h : I p = none) : HpLe I (upd I p o) := fun q u e => by
  have hq : q ≠ p := fun z => by rw [z, h] at e; cases e
  rw [upd_ne hq]
  exact e
theorem CellR.le {K : PySem.W.Frag} {I I' : Hp} {α α' : Am} (e : HpLe I I') (a : ∀ n p, α n = some p → α' n = some p) : ∀ {c : Cell} {o : HO}, CellR K I α c o → CellR K I' α' c o
  | .lst _, _, ⟨vs, h, r⟩ => ⟨vs, h, r.le e a⟩
  | .ins _ _, _, ⟨dx, vs, h, r⟩ => ⟨dx, vs, h, r.le e a⟩
section
variable {K : PySem.W.Frag} {w : Wd} {p : Addr} {o : HO}
theorem Ok.noI (ok : Ok K w) (h : w.H p = none) : w.I p = none := by
  cases e : w.I p with
  | none => rfl
  | some u => rw [ok.sub p u e] at h; cases h
theorem Ok.lay (ok : Ok K w) (h : w.H p = none) : Ok K (w.lay p o) := by
  have hI := ok.noI h
  refine ⟨fun q u e => ?_, fun n c e => ?_, ok.inj, ok.fin⟩
  · have e : upd w.I p o q = some u := e
    show upd w.H p o q = some u
    by_cases hq : q = p
    · rw [hq, upd_same] at e ⊢
      exact e
    · rw [upd_ne hq] at e ⊢
      exact ok.sub q u e
  · obtain ⟨q, u, h1, h2, h3, h4⟩ := ok.cel n c e
    have hq : q ≠ p := fun z => by rw [z, h] at h2; cases h2
    exact ⟨q, u, h1, (upd_ne hq).trans h2, (upd_ne hq).trans h3, h4.le (HpLe.upd hI) fun _ _ z => z⟩
theorem Le.lay (ok : Ok K w) (h : w.H p = none) : Le w (w.lay p o) := by
  have hI := ok.noI h
  refine ⟨HpLe.upd hI, fun _ _ z => z, fun q u e _ => ?_, fun q e => ?_, fun q e => ?_, fun _ _ z => .inl z, fun _ z => .inl z⟩
  · have hq : q ≠ p := fun z => by rw [z, h] at e; cases e
    exact (upd_ne hq).trans e
  · show upd w.H p o q ≠ none
    by_cases hq : q = p
    · rw [hq, upd_same]; simp
    · rw [upd_ne hq]; exact e
  · have e : upd w.I p o q ≠ none := e
    by_cases hq : q = p
    · rw [hq]; exact .inr (.inl h)
    · rw [upd_ne hq] at e; exact .inl e
/-- an object that stands beside (its own dict, a rest): tracked, not known -/
def Wd.side (w : Wd) (H' : Hp) : Wd := ⟨w.I, w.α, w.S, H'⟩
theorem Ok.side {H' : Hp} (ok : Ok K w) (e : HpLe w.H H') : Ok K (w.side H') :=
  ⟨fun q u z => e q u (ok.sub q u z), fun n c z => by
    obtain ⟨q, u, h1, h2, h3, h4⟩ := ok.cel n c z
    exact ⟨q, u, h1, e q u h2, h3, h4⟩, ok.inj, ok.fin⟩
theorem Le.side {H' : Hp} (e : HpLe w.H H') : Le w (w.side H') :=
  ⟨fun _ _ z => z, fun _ _ z => z, fun q u z _ => e q u z, fun q z => by
    cases hq : w.H q with
    | none => exact absurd hq z
    | some u =>
      show H' q ≠ none
      rw [e q u hq]; simp, fun _ z => .inl z, fun _ _ z => .inl z, fun _ z => .inl z⟩
/-- a new cell n at p -/
def Wd.cell (w : Wd) (n : Nat) (p : Addr) (c : Cell) (o : HO) : Wd := ⟨w.I, fun k => if k = n then some p else w.α k, put w.S n c, upd w.H p o⟩
theorem Wd.cell_α {n k : Nat} {c : Cell} {q : Addr} (h : w.α n = none) (e : w.α k = some q) : (w.cell n p c o).α k = some q := by
  have hk : k ≠ n := fun z => by rw [z, h] at e; cases e
  show (if k = n then some p else w.α k) = some q
  rw [if_neg hk]
  exact e
theorem Ok.cell {n : Nat} {c : Cell} (ok : Ok K w) (h : w.H p = none) (hn : w.α n = none) (r : CellR K w.I (w.cell n p c o).α c o) : Ok K (w.cell n p c o) := by
  have hI := ok.noI h
  refine ⟨fun q u e => ?_, fun k c' e => ?_, fun k j q hk hj ek ej => ?_, ?_⟩
  · have hq : q ≠ p := fun z => by rw [z] at e; have e : w.I p = some u := e; rw [hI] at e; cases e
    exact (upd_ne hq).trans (ok.sub q u e)
  · have e : put w.S n c k = some c' := e
    by_cases hk : k = n
    · subst hk
      rw [put_same] at e
      cases e
      exact ⟨p, o, if_pos rfl, upd_same, hI, r⟩
    · rw [put_ne hk] at e
      obtain ⟨q, u, h1, h2, h3, h4⟩ := ok.cel k c' e
      have hq : q ≠ p := fun z => by rw [z, h] at h2; cases h2
      exact ⟨q, u, (if_neg hk).trans h1, (upd_ne hq).trans h2, h3, h4.le (fun _ _ z => z) fun _ _ z => Wd.cell_α hn z⟩
  · have ek : (if k = n then some p else w.α k) = some q := ek
    have ej : (if j = n then some p else w.α j) = some q := ej
    have noA : ∀ i, put w.S n c i ≠ none → i ≠ n → w.α i ≠ some p := fun i hi hin z => by
      rw [put_ne hin] at hi
      cases hs : w.S i with
      | none => exact hi hs
      | some ci =>
        obtain ⟨q', u, h1, h2, _⟩ := ok.cel i ci hs
        rw [z] at h1
        cases h1
        rw [h] at h2
        cases h2
    by_cases h1 : k = n
    · by_cases h2 : j = n
      · rw [h1, h2]
      · rw [if_pos h1] at ek
        rw [if_neg h2] at ej
        cases ek
        exact absurd ej (noA j hj h2)
    · by_cases h2 : j = n
      · rw [if_pos h2] at ej
        rw [if_neg h1] at ek
        cases ej
        exact absurd ek (noA k hk h1)
      · rw [if_neg h1] at ek
        rw [if_neg h2] at ej
        exact ok.inj k j q (by have z : put w.S n c k ≠ none := hk; rwa [put_ne h1] at z) (by have z : put w.S n c j ≠ none := hj; rwa [put_ne h2] at z) ek ej
  · obtain ⟨N, hN⟩ := ok.fin
    refine ⟨max N (n + 1), fun k hk => ?_⟩
    show (if k = n then some p else w.α k) = none
    rw [if_neg (by omega)]
    exact hN k (by omega)
theorem Le.cell {n : Nat} {c : Cell} (h : w.H p = none) (hn : w.α n = none) : Le w (w.cell n p c o) := by
  refine ⟨fun _ _ z => z, fun _ _ z => Wd.cell_α hn z, fun q u e _ => ?_, fun q e => ?_, fun _ z => .inl z, fun k q e => ?_, fun k e => ?_⟩
  · have hq : q ≠ p := fun z => by rw [z, h] at e; cases e
    exact (upd_ne hq).trans e
  · show upd w.H p o q ≠ none
    by_cases hq : q = p
    · rw [hq, upd_same]; simp
    · rw [upd_ne hq]; exact e
  · have e : (if k = n then some p else w.α k) = some q := e
    by_cases hk : k = n
    · rw [if_pos hk] at e
      cases e
      rw [hk]
      exact .inr ⟨hn, h⟩
    · rw [if_neg hk] at e
      exact .inl e
  · have e : put w.S n c k ≠ none := e
    by_cases hk : k = n
    · rw [hk]; exact .inr hn
    · rw [put_ne hk] at e
      exact .inl e
theorem Ok.free (ok : Ok K w) : ∃ n, w.α n = none ∧ w.S n = none := by
  obtain ⟨N, h⟩ := ok.fin
  refine ⟨N, h N (Nat.le_refl _), ?_⟩
  cases e : w.S N with
  | none => rfl
  | some c =>
    obtain ⟨q, u, h1, _⟩ := ok.cel N c e
    rw [h N (Nat.le_refl _)] at h1
    cases h1
/-- the cell n changes -/
def Wd.set (w : Wd) (n : Nat) (p : Addr) (c : Cell) (o : HO) : Wd := ⟨w.I, w.α, put w.S n c, upd w.H p o⟩
theorem Ok.set {n : Nat} {c c0 : Cell} (ok : Ok K w) (hs : w.S n = some c0) (hp : w.α n = some p) (r : CellR K w.I w.α c o) : Ok K (w.set n p c o) := by
  obtain ⟨p', u0, a1, a2, a3, a4⟩ := ok.cel n c0 hs
  rw [hp] at a1
  cases a1
  refine ⟨fun q u e => ?_, fun k c' e => ?_, fun k j q hk hj ek ej => ?_, ok.fin⟩
  · have hq : q ≠ p := fun z => by rw [z] at e; have e : w.I p = some u := e; rw [a3] at e; cases e
    exact (upd_ne hq).trans (ok.sub q u e)
  · have e : put w.S n c k = some c' := e
    by_cases hk : k = n
    · subst hk
      rw [put_same] at e
      cases e
      exact ⟨p, o, hp, upd_same, a3, r⟩
    · rw [put_ne hk] at e
      obtain ⟨q, u, h1, h2, h3, h4⟩ := ok.cel k c' e
      have hq : q ≠ p := fun z => hk (ok.inj k n p (by rw [e]; simp) (by rw [hs]; simp) (by rw [← z]; exact h1) hp)
      exact ⟨q, u, h1, (upd_ne hq).trans h2, h3, h4⟩
  · have nn : ∀ i, put w.S n c i ≠ none → w.S i ≠ none := fun i hi => by
      by_cases h : i = n
      · rw [h, hs]; simp
      · rwa [put_ne h] at hi
    exact ok.inj k j q (nn k hk) (nn j hj) ek ej
theorem Le.set {n : Nat} {c c0 : Cell} (hs : w.S n = some c0) (hp : w.α n = some p) : Le w (w.set n p c o) := by
  refine ⟨fun _ _ z => z, fun _ _ z => z, fun q u e hq => ?_, fun q e => ?_, fun _ z => .inl z, fun _ _ z => .inl z, fun k e => ?_⟩
  · have hq' : q ≠ p := fun z => hq n (by rw [hs]; simp) (by rw [z]; exact hp)
    exact (upd_ne hq').trans e
  · show upd w.H p o q ≠ none
    by_cases hq : q = p
    · rw [hq, upd_same]; simp
    · rw [upd_ne hq]; exact e
  · have e : put w.S n c k ≠ none := e
    by_cases hk : k = n
    · rw [hk, hs]; exact .inl (by simp)
    · rw [put_ne hk] at e
      exact .inl e
/-- the cell n is frozen -/
def Wd.frz (w : Wd) (n : Nat) (p : Addr) (o : HO) : Wd := ⟨upd w.I p o, w.α, del w.S n, w.H⟩
theorem Ok.frz {n : Nat} {c0 : Cell} (ok : Ok K w) (hs : w.S n = some c0) (hp : w.α n = some p) (ho : w.H p = some o) : Ok K (w.frz n p o) := by
  obtain ⟨p', u0, a1, a2, a3, a4⟩ := ok.cel n c0 hs
  rw [hp] at a1
  cases a1
  refine ⟨fun q u e => ?_, fun k c' e => ?_, fun k j q hk hj ek ej => ?_, ok.fin⟩
  · have e : upd w.I p o q = some u := e
    by_cases hq : q = p
    · rw [hq, upd_same] at e
      cases e
      rw [hq]; exact ho
    · rw [upd_ne hq] at e
      exact ok.sub q u e
  · have e : del w.S n k = some c' := e
    by_cases hk : k = n
    · rw [hk, del_same] at e; cases e
    · rw [del_ne hk] at e
      obtain ⟨q, u, h1, h2, h3, h4⟩ := ok.cel k c' e
      have hq : q ≠ p := fun z => hk (ok.inj k n p (by rw [e]; simp) (by rw [hs]; simp) (by rw [← z]; exact h1) hp)
      exact ⟨q, u, h1, h2, (upd_ne hq).trans h3, h4.le (HpLe.upd a3) fun _ _ z => z⟩
  · have nn : ∀ i, del w.S n i ≠ none → w.S i ≠ none := fun i hi => by
      by_cases h : i = n
      · rw [h, hs]; simp
      · rwa [del_ne h] at hi
    exact ok.inj k j q (nn k hk) (nn j hj) ek ej
theorem Le.frz {n : Nat} {c0 : Cell} (ok : Ok K w) (hs : w.S n = some c0) (hp : w.α n = some p) : Le w (w.frz n p o) := by
  obtain ⟨p', u0, a1, a2, a3, a4⟩ := ok.cel n c0 hs
  rw [hp] at a1
  cases a1
  refine ⟨HpLe.upd a3, fun _ _ z => z, fun _ _ e _ => e, fun _ e => e, fun q e => ?_, fun _ _ z => .inl z, fun k e => ?_⟩
  · have e : upd w.I p o q ≠ none := e
    by_cases hq : q = p
    · rw [hq]; exact .inr (.inr ⟨n, by rw [hs]; simp, hp⟩)
    · rw [upd_ne hq] at e
      exact .inl e
  · have e : del w.S n k ≠ none := e
    by_cases hk : k = n
    · rw [hk, hs]; exact .inl (by simp)
    · rw [del_ne hk] at e
      exact .inl e
/-- cells dropped -/
def Wd.drop (w : Wd) (S : Sto) : Wd := ⟨w.I, w.α, S, w.H⟩
theorem Ok.drop {S : Sto} (ok : Ok K w) (h : Sub S w.S) : Ok K (w.drop S) := by
  have nn : ∀ i, S i ≠ none → w.S i ≠ none := fun i hi => by
    cases e : S i with
    | none => exact absurd e hi
    | some c => rw [h i c e]; simp
  exact ⟨ok.sub, fun n c e => ok.cel n c (h n c e), fun n m p a b => ok.inj n m p (nn n a) (nn m b), ok.fin⟩
theorem Le.drop {S : Sto} (h : Sub S w.S) : Le w (w.drop S) :=
  ⟨fun _ _ z => z, fun _ _ z => z, fun _ _ e _ => e, fun _ e => e, fun _ z => .inl z, fun _ _ z => .inl z, fun n e => .inl (by
    cases q : S n with
    | none => exact absurd q e
    | some c => rw [h n c q]; simp)⟩
end
end DL

set_option maxHeartbeats 4000000
namespace DL
open PySem PySem.Spec L2
/-! ## 4. Readings over data, and what they are worth over the heap -/
abbrev DE := Lo → Sto → (D → Sto → Prop) → (Err → Sto → Prop) → Prop
abbrev DA := Lo → Sto → (List D → Sto → Prop) → (Err → Sto → Prop) → Prop
abbrev DT := Lo → Sto → (Bool → Sto → Prop) → (Err → Sto → Prop) → Prop
structure DEnds where
  nx : Lo → Sto → Prop
  rt : D → Sto → Prop
  bk : Lo → Sto → Prop
  ct : Lo → Sto → Prop
  ex : Err → Lo → Sto → Prop
abbrev DS := DEnds → Lo → Sto → Prop
abbrev DFn := List D → Sto → (D → Sto → Prop) → (Err → Sto → Prop) → Prop

def LoR (K : PySem.W.Frag) (w : Wd) (σ : L2.St) (δ : Lo) : Prop := σ.length = δ.length ∧ ∀ (i : Nat) (d : D), δ[i]? = some (some d) → ∃ v, σ[i]? = some (some v) ∧ Rp K w.I w.α v d
def ErR (K : PySem.W.Frag) (w : Wd) (er : Err) (dx : Addr) : Prop := ∃ vs, w.I dx = some (.xd vs) ∧ RpF K w.I w.α vs er.fs
def eC (K : PySem.W.Frag) (W : WX) (σ : L2.St) (w : Wd) (Ed : Err → Sto → Prop) : Prop := ∀ er w' dx, Ed er w'.S → Le w w' → Ok K w' → ErR K w' er dx → W (.ref er.C) (some dx) σ w'.H
section
variable {K : PySem.W.Frag} {W : WX} {w w' : Wd} {σ : L2.St} {δ : Lo} {Ed : Err → Sto → Prop}
theorem LoR.up (h : LoR K w σ δ) (l : Le w w') : LoR K w' σ δ := ⟨h.1, fun i d e => by
  obtain ⟨v, a, r⟩ := h.2 i d e
  exact ⟨v, a, r.up l⟩⟩
theorem LoR.set (h : LoR K w σ δ) (i : Nat) {v : V} {d : D} (r : Rp K w.I w.α v d) : LoR K w (σ.set i (some v)) (δ.set i (some d)) := by
  refine ⟨by rw [List.length_set, List.length_set]; exact h.1, fun j e hj => ?_⟩
  by_cases hij : i = j
  · subst hij
    by_cases hi : i < δ.length
    · rw [List.getElem?_set_self hi] at hj
      cases hj
      exact ⟨v, by rw [List.getElem?_set_self (by rw [h.1]; exact hi)], r⟩
    · rw [List.getElem?_eq_none (by rw [List.length_set]; omega)] at hj
      cases hj
  · rw [List.getElem?_set_ne hij] at hj ⊢
    exact h.2 j e hj
theorem LoR.non (h : LoR K w σ δ) (i : Nat) {o : Option V} : LoR K w (σ.set i o) (δ.set i none) := by
  refine ⟨by rw [List.length_set, List.length_set]; exact h.1, fun j e hj => ?_⟩
  by_cases hij : i = j
  · subst hij
    by_cases hi : i < δ.length
    · rw [List.getElem?_set_self hi] at hj
      cases hj
    · rw [List.getElem?_eq_none (by rw [List.length_set]; omega)] at hj
      cases hj
  · rw [List.getElem?_set_ne hij] at hj ⊢
    exact h.2 j e hj
theorem eC.up (h : eC K W σ w Ed) (l : Le w w') : eC K W σ w' Ed := fun er w2 dx a b c d => h er w2 dx a (l.trans b) c d
end
def toE (K : PySem.W.Frag) (W : WX) (t : DE) : TE := fun σ H Q => ∃ (w : Wd) (δ : Lo) (Qd : D → Sto → Prop) (Ed : Err → Sto → Prop), w.H = H ∧ Ok K w ∧ LoR K w σ δ ∧ t δ w.S Qd Ed ∧
  (∀ d v w', Qd d w'.S → Le w w' → Ok K w' → Rp K w'.I w'.α v d → Q v w'.H) ∧ eC K W σ w Ed
def toA (K : PySem.W.Frag) (W : WX) (t : DA) : TA := fun σ H Q => ∃ (w : Wd) (δ : Lo) (Qd : List D → Sto → Prop) (Ed : Err → Sto → Prop), w.H = H ∧ Ok K w ∧ LoR K w σ δ ∧ t δ w.S Qd Ed ∧
  (∀ ds vs w', Qd ds w'.S → Le w w' → Ok K w' → RpL K w'.I w'.α vs ds → Q vs w'.H) ∧ eC K W σ w Ed
def toT (K : PySem.W.Frag) (W : WX) (t : DT) : TT := fun σ H Q => ∃ (w : Wd) (δ : Lo) (Qd : Bool → Sto → Prop) (Ed : Err → Sto → Prop), w.H = H ∧ Ok K w ∧ LoR K w σ δ ∧ t δ w.S Qd Ed ∧
  (∀ b w', Qd b w'.S → Le w w' → Ok K w' → Q b w'.H) ∧ eC K W σ w Ed
/-- a new list, not yet frozen, not yet a cell -/
def toF (K : PySem.W.Frag) (W : WX) (t : DA) : TE := fun σ H Q => ∃ (w : Wd) (δ : Lo) (Qd : List D → Sto → Prop) (Ed : Err → Sto → Prop), w.H = H ∧ Ok K w ∧ LoR K w σ δ ∧ t δ w.S Qd Ed ∧
  (∀ ds vs p w', Qd ds w'.S → Le w w' → Ok K w' → RpL K w'.I w'.α vs ds → w'.H p = some (.lst vs) → w.H p = none → w'.I p = none → (∀ n, w'.S n ≠ none → w'.α n ≠ some p) → Q (.ref p) w'.H) ∧ eC K W σ w Ed
theorem pimp {X : Cx} {e : Expr} {t t' : TE} (h : PE X e t) (f : ∀ σ H Q, t' σ H Q → t σ H Q) : PE X e t' := ⟨fun pins s σ H Q I q => h.run pins s σ H Q I (f _ _ _ q)⟩
theorem pimpA {X : Cx} {e : List Expr} {t t' : TA} (h : PA X e t) (f : ∀ σ H Q, t' σ H Q → t σ H Q) : PA X e t' := ⟨fun pos pins s σ H Q I q => h.run pos pins s σ H Q I (f _ _ _ q)⟩
theorem pimpT {X : Cx} {e : Expr} {t t' : TT} (h : PT X e t) (f : ∀ σ H Q, t' σ H Q → t σ H Q) : PT X e t' := ⟨fun pins s σ H Q I q => h.run pins s σ H Q I (f _ _ _ q)⟩
theorem pimpW {X : Cx} {e : Expr} {t t' : TT} (h : PW X e t) (f : ∀ σ H Q, t' σ H Q → t σ H Q) : PW X e t' := ⟨fun wh pins s σ H Q I q => h.run wh pins s σ H Q I (f _ _ _ q)⟩

/-! ### names, constants -/
def dVar (i : Nat) : DE := fun δ S Q _ => match δ[i]? with
  | some (some d) => Q d S
  | _ => False
def dC (d : D) : DE := fun _ S Q _ => Q d S
section
variable {X : Cx} {W : WX}
theorem toE_var {K : PySem.W.Frag} {i : Nat} (σ : L2.St) (H : Hp) (Q : VK) (h : toE K W (dVar i) σ H Q) : tVar i σ H Q := by
  obtain ⟨w, δ, Qd, Ed, rfl, ok, lo, t, q, _⟩ := h
  unfold dVar at t
  split at t
  · rename_i d hd
    obtain ⟨v, e, r⟩ := lo.2 i d hd
    exact ⟨v, e, q d v w t (.refl w) ok r⟩
  · exact t.elim
theorem de_var (i : Nat) {x : Str} {pos : Pos} (hN : X.N[i]? = some x := by rfl) (hv : Vis X.env.scope x := by first | exact Or.inl rfl | exact Or.inr (Or.inl rfl) | exact Or.inr (Or.inr rfl)) (hd : (x == ("__debug__" : Str)) = false := by decide)
    (hcd : (x == ("__classdict__" : Str)) = false := by decide) : PE X (.Name x pos) (toE X.K W (dVar i)) := pimp (pv i hN hv hd hcd) toE_var
theorem toE_c {K : PySem.W.Frag} {v : V} {d : D} (r : ∀ I α, Rp K I α v d) (σ : L2.St) (H : Hp) (Q : VK) (h : toE K W (dC d) σ H Q) : tC v σ H Q := by
  obtain ⟨w, δ, Qd, Ed, rfl, ok, lo, t, q, _⟩ := h
  exact q d v w t (.refl w) ok (r _ _)
theorem de_int {i j pos} : PE X (.Constant (.int i) j pos) (toE X.K W (dC (.int i))) := pimp pe_int (toE_c fun _ _ => .int i)
theorem de_bl {b j pos} : PE X (.Constant (.bool b) j pos) (toE X.K W (dC (.bl b))) := pimp pe_bl (toE_c fun _ _ => .bl b)
theorem de_non {j pos} : PE X (.Constant .none j pos) (toE X.K W (dC .non)) := pimp pe_non (toE_c fun _ _ => .non)
theorem de_str {x j pos} : PE X (.Constant (.str x) j pos) (toE X.K W (dC (.str x))) := pimp pe_str (toE_c fun _ _ => .str x)
theorem de_glob {x : Str} {v : V} {u : Value} {d : D} {pos : Pos} (hg : Gl X x) (hm : X.mg x = some u) (r : RelV v u) (rd : ∀ I α, Rp X.K I α v d) (hd : (x == ("__debug__" : Str)) = false := by decide) : PE X (.Name x pos) (toE X.K W (dC d)) :=
  pimp (pe_glob hg hm r hd) (toE_c rd)
theorem de_bltn {x : Str} {v : V} {u : Value} {pos : Pos} (hg : Gl X x) (hm : X.mg x = none) (hv : bootBuiltins x = some u) (r : RelV v u) (hn : x ≠ "__name__" := by decide) (hd : (x == ("__debug__" : Str)) = false := by decide) : PE X (.Name x pos) (toE X.K W (dC (.cv v))) :=
  pimp (pe_bltn hg hm hv r hn hd) (toE_c fun _ _ => .cv v)
end

/-! ### operators -/
abbrev DOp := Sto → D → D → (D → Prop) → Prop
/-- the operator's rule over the heap keeps what is said over data -/
def SemOp (K : PySem.W.Frag) (r : R2) (f : DOp) : Prop := ∀ (w : Wd) (x y : V) (d e : D) (Qd : D → Prop) (Q : VK), Ok K w → Rp K w.I w.α x d → Rp K w.I w.α y e → f w.S d e Qd →
  (∀ z v w', Qd z → Le w w' → w'.S = w.S → Ok K w' → Rp K w'.I w'.α v z → Q v w'.H) → r x y w.H Q
def dBin (f : DOp) (a b : DE) : DE := fun δ S Q E => a δ S (fun x S1 => b δ S1 (fun y S2 => f S2 x y fun z => Q z S2) E) E
theorem toE_bin {K : PySem.W.Frag} {W : WX} {r : R2} {f : DOp} (hs : SemOp K r f) {a b : DE} (σ : L2.St) (H : Hp) (Q : VK) (h : toE K W (dBin f a b) σ H Q) : tOp r (toE K W a) (toE K W b) σ H Q := by
  obtain ⟨w, δ, Qd, Ed, rfl, ok, lo, t, q, ec⟩ := h
  refine ⟨w, δ, _, Ed, rfl, ok, lo, t, fun x v w1 t1 l1 ok1 r1 => ?_, ec⟩
  refine ⟨w1, δ, _, Ed, rfl, ok1, lo.up l1, t1, fun y u w2 t2 l2 ok2 r2 => ?_, ec.up l1⟩
  refine hs w2 v u x y _ Q ok2 (r1.up l2) r2 t2 fun z v3 w3 h3 l3 e3 ok3 r3 => ?_
  exact q z v3 w3 (by rw [e3]; exact h3) ((l1.trans l2).trans l3) ok3 r3
section
variable {X : Cx} {W : WX} {a b : Expr} {ta tb : DE} {pos : Pos}
theorem de_bin {op : Operator} {r : R2} {f : DOp} (ho : OpR X (binaryOp op) r) (hs : SemOp X.K r f) (ha : PE X a (toE X.K W ta)) (hb : PE X b (toE X.K W tb)) : PE X (.BinOp a op b pos) (toE X.K W (dBin f ta tb)) := pimp (pe_op ho ha hb) (toE_bin hs)
theorem de_cmp {op : CmpOp} {r : R2} {f : DOp} (ho : OpR X (compareOp op) r) (hs : SemOp X.K r f) (ha : PE X a (toE X.K W ta)) (hb : PE X b (toE X.K W tb)) (hm : behindInMarks op b = false) : PE X (.Compare a [op] [b] pos) (toE X.K W (dBin f ta tb)) :=
  pimp (pe_cmpR ho ha hb hm) (toE_bin hs)
theorem de_ix {r : R2} {f : DOp} (ho : IxR X r) (hs : SemOp X.K r f) (ha : PE X a (toE X.K W ta)) (hb : PE X b (toE X.K W tb)) (hp : PlainIx b) : PE X (.Subscript a b pos) (toE X.K W (dBin f ta tb)) := pimp (pe_ix ho ha hb hp) (toE_bin hs)
/-- the value of a test is a bool -/
def dB (t : DE) : DT := fun δ S Q E => t δ S (fun d S1 => match d with
  | .bl b => Q b S1
  | _ => False) E
theorem toT_test {K : PySem.W.Frag} {t : DE} (σ : L2.St) (H : Hp) (Q : Bool → Hp → Prop) (h : toT K W (dB t) σ H Q) : tTest (toE K W t) σ H Q := by
  obtain ⟨w, δ, Qd, Ed, rfl, ok, lo, t, q, ec⟩ := h
  refine ⟨w, δ, _, Ed, rfl, ok, lo, t, fun x v w1 t1 l1 ok1 r1 => ?_, ec⟩
  cases x with
  | bl b =>
    cases r1
    exact ⟨b, rfl, q b w1 t1 l1 ok1⟩
  | _ => exact t1.elim
theorem tTest_mono {t t' : TE} (f : ∀ σ H Q, t' σ H Q → t σ H Q) (σ : L2.St) (H : Hp) (Q : Bool → Hp → Prop) (h : tTest t' σ H Q) : tTest t σ H Q := f _ _ _ h
theorem dt_cmp {op : CmpOp} {r : R2} {f : DOp} (ho : OpR X (compareOp op) r) (hs : SemOp X.K r f) (ha : PE X a (toE X.K W ta)) (hb : PE X b (toE X.K W tb)) (hm : behindInMarks op b = false) : PT X (.Compare a [op] [b] pos) (toT X.K W (dB (dBin f ta tb))) :=
  pimpT (pt_cmpR ho ha hb hm) fun σ H Q h => tTest_mono (toE_bin hs) σ H Q (toT_test σ H Q h)
end
/-- one place -/
abbrev DUn := Sto → D → (D → Prop) → Prop
def SemUn (K : PySem.W.Frag) (r : V → Hp → VK → Prop) (f : DUn) : Prop := ∀ (w : Wd) (x : V) (d : D) (Qd : D → Prop) (Q : VK), Ok K w → Rp K w.I w.α x d → f w.S d Qd →
  (∀ z v w', Qd z → Le w w' → w'.S = w.S → Ok K w' → Rp K w'.I w'.α v z → Q v w'.H) → r x w.H Q
def dUn (f : DUn) (a : DE) : DE := fun δ S Q E => a δ S (fun x S1 => f S1 x fun z => Q z S1) E
theorem toE_un {K : PySem.W.Frag} {W : WX} {r : V → Hp → VK → Prop} {f : DUn} (hs : SemUn K r f) {a : DE} (σ : L2.St) (H : Hp) (Q : VK) (h : toE K W (dUn f a) σ H Q) : tUn r (toE K W a) σ H Q := by
  obtain ⟨w, δ, Qd, Ed, rfl, ok, lo, t, q, ec⟩ := h
  refine ⟨w, δ, _, Ed, rfl, ok, lo, t, fun x v w1 t1 l1 ok1 r1 => ?_, ec⟩
  refine hs w1 v x _ Q ok1 r1 t1 fun z v3 w3 h3 l3 e3 ok3 r3 => ?_
  exact q z v3 w3 (by rw [e3]; exact h3) (l1.trans l3) ok3 r3

/-! ### arguments, calls of what stands on the heap alone -/
def dNil : DA := fun _ S Q _ => Q [] S
def dCons (a : DE) (r : DA) : DA := fun δ S Q E => a δ S (fun x S1 => r δ S1 (fun xs S2 => Q (x :: xs) S2) E) E
section
variable {X : Cx} {W : WX} {e : Expr} {es : List Expr} {te : DE} {ta : DA} {pos : Pos}
theorem da_nil : PA X [] (toA X.K W dNil) := pimpA pa_nil fun σ H Q h => by
  obtain ⟨w, δ, Qd, Ed, rfl, ok, lo, t, q, _⟩ := h
  exact q [] [] w t (.refl w) ok .nil
theorem da_cons (ha : PE X e (toE X.K W te)) (hr : PA X es (toA X.K W ta)) (hs : starEach (e :: es) X.env = (false, eval e X.env) :: starEach es X.env := by rfl) : PA X (e :: es) (toA X.K W (dCons te ta)) := pimpA (pa_cons ha hr hs) fun σ H Q h => by
  obtain ⟨w, δ, Qd, Ed, rfl, ok, lo, t, q, ec⟩ := h
  refine ⟨w, δ, _, Ed, rfl, ok, lo, t, fun x v w1 t1 l1 ok1 r1 => ?_, ec⟩
  refine ⟨w1, δ, _, Ed, rfl, ok1, lo.up l1, t1, fun y u w2 t2 l2 ok2 r2 => ?_, ec.up l1⟩
  exact q (x :: y) (v :: u) w2 t2 (l1.trans l2) ok2 (.cons (r1.up l2) r2)
end
abbrev DCl := Sto → List D → (D → Prop) → Prop
def SemCl (K : PySem.W.Frag) (r : List V → Hp → VK → Prop) (f : DCl) : Prop := ∀ (w : Wd) (xs : List V) (ds : List D) (Qd : D → Prop) (Q : VK), Ok K w → RpL K w.I w.α xs ds → f w.S ds Qd →
  (∀ z v w', Qd z → Le w w' → w'.S = w.S → Ok K w' → Rp K w'.I w'.α v z → Q v w'.H) → r xs w.H Q
def dCl (f : DCl) (a : DA) : DE := fun δ S Q E => a δ S (fun xs S1 => f S1 xs fun z => Q z S1) E
theorem toE_cl {K : PySem.W.Frag} {W : WX} {r : List V → Hp → VK → Prop} {f : DCl} (hs : SemCl K r f) {a : DA} (σ : L2.St) (H : Hp) (Q : VK) (h : toE K W (dCl f a) σ H Q) : tCB r (toA K W a) σ H Q := by
  obtain ⟨w, δ, Qd, Ed, rfl, ok, lo, t, q, ec⟩ := h
  refine ⟨w, δ, _, Ed, rfl, ok, lo, t, fun x v w1 t1 l1 ok1 r1 => ?_, ec⟩
  refine hs w1 v x _ Q ok1 r1 t1 fun z v3 w3 h3 l3 e3 ok3 r3 => ?_
  exact q z v3 w3 (by rw [e3]; exact h3) (l1.trans l3) ok3 r3
section
variable {X : Cx} {W : WX} {e : Expr} {es : List Expr} {ta : DA} {p pos : Pos} {x : Str} {id T : String} {r : List V → Hp → VK → Prop} {f : DCl}
theorem de_callB (hc : CallR X (.builtin id) r) (hs : SemCl X.K r f) (hg : Gl X x) (hm : X.mg x = none) (hv : bootBuiltins x = some (.builtin id)) (ha : PA X (e :: es) (toA X.K W ta)) (hn : x ≠ "__name__" := by decide) (hdb : (x == ("__debug__" : Str)) = false := by decide)
    (he : starEach (e :: es) X.env = (false, eval e X.env) :: starEach es X.env := by rfl) (hpl : (backTo pos (starEach es X.env)).any (·.1) = false := by rfl) : PE X (.Call (.Name x p) (e :: es) [] pos) (toE X.K W (dCl f ta)) :=
  pimp (pe_callB hc hg hm hv ha hn hdb he hpl) (toE_cl hs)
theorem de_callTy (hc : CallR X (.type T) r) (hs : SemCl X.K r f) (hg : Gl X x) (hm : X.mg x = none) (hv : bootBuiltins x = some (.type T)) (ha : PA X (e :: es) (toA X.K W ta)) (hn : x ≠ "__name__" := by decide) (hdb : (x == ("__debug__" : Str)) = false := by decide)
    (he : starEach (e :: es) X.env = (false, eval e X.env) :: starEach es X.env := by rfl) (hpl : (backTo pos (starEach es X.env)).any (·.1) = false := by rfl) : PE X (.Call (.Name x p) (e :: es) [] pos) (toE X.K W (dCl f ta)) :=
  pimp (pe_callTy hc hg hm hv ha hn hdb he hpl) (toE_cl hs)
end

/-! ### displays -/
def dTup (a : DA) : DE := fun δ S Q E => a δ S (fun xs S1 => xs.length ≤ sizeLine ∧ Q (.tup xs) S1) E
def dLst (a : DA) : DA := fun δ S Q E => a δ S (fun xs S1 => xs.length ≤ sizeLine ∧ Q xs S1) E
/-- a new list as a datum; as a cell -/
def dFz (a : DA) : DE := fun δ S Q E => a δ S (fun xs S1 => Q (.lst xs) S1) E
def dNew (a : DA) : DE := fun δ S Q E => a δ S (fun xs S1 => ∀ n, S1 n = none → Q (.m n) (put S1 n (.lst xs))) E
section
variable {X : Cx} {W : WX} {es : List Expr} {ta : DA} {pos : Pos}
theorem de_tup {x1} (h : PA X es (toA X.K W ta)) : PE X (.Tuple es x1 pos) (toE X.K W (dTup ta)) := pimp (pe_tup h) fun σ H Q h => by
  obtain ⟨w, δ, Qd, Ed, rfl, ok, lo, t, q, ec⟩ := h
  refine ⟨w, δ, _, Ed, rfl, ok, lo, t, fun xs vs w1 t1 l1 ok1 r1 => ⟨by rw [r1.length]; exact t1.1, fun p hp => ?_⟩, ec⟩
  refine q (.tup xs) (.ref p) (w1.lay p (.tup vs)) t1.2 (l1.trans (.lay ok1 hp)) (ok1.lay hp) ?_
  exact .tup (SqT.of upd_same) (r1.up (.lay ok1 hp))
theorem df_lst (h : PA X es (toA X.K W ta)) : PE X (.List es pos) (toF X.K W (dLst ta)) := pimp (pe_lst h) fun σ H Q h => by
  obtain ⟨w, δ, Qd, Ed, rfl, ok, lo, t, q, ec⟩ := h
  refine ⟨w, δ, _, Ed, rfl, ok, lo, t, fun xs vs w1 t1 l1 ok1 r1 => ⟨by rw [r1.length]; exact t1.1, fun p hp => ?_⟩, ec⟩
  have e : HpLe w1.H (upd w1.H p (.lst vs)) := HpLe.upd hp
  refine q xs vs p (w1.side (upd w1.H p (.lst vs))) t1.2 (l1.trans (.side e)) (ok1.side e) r1 upd_same ?_ (ok1.noI hp) fun n hn hα => ?_
  · cases z : w.H p with
    | none => rfl
    | some o => exact absurd hp (l1.there p (by rw [z]; simp))
  · cases z : w1.S n with
    | none => exact hn z
    | some c =>
      obtain ⟨q', u, h1, h2, _⟩ := ok1.cel n c z
      have hα' : w1.α n = some p := hα
      rw [h1] at hα'
      cases hα'
      rw [hp] at h2
      cases h2
end
section
variable {K : PySem.W.Frag} {w : Wd} {p : Addr} {vs : List V}
/-- an object that stands beside is known from now on -/
theorem Ok.know {o : HO} (ok : Ok K w) (hp : w.H p = some o) (hI : w.I p = none) (hn : ∀ n, w.S n ≠ none → w.α n ≠ some p) : Ok K ⟨upd w.I p o, w.α, w.S, w.H⟩ := by
  refine ⟨fun q u e => ?_, fun n c e => ?_, ok.inj, ok.fin⟩
  · have e : upd w.I p o q = some u := e
    by_cases hq : q = p
    · rw [hq, upd_same] at e
      cases e
      rw [hq]; exact hp
    · rw [upd_ne hq] at e
      exact ok.sub q u e
  · obtain ⟨q, u, h1, h2, h3, h4⟩ := ok.cel n c e
    have hq : q ≠ p := fun z => hn n (by have e : w.S n = some c := e; rw [e]; simp) (by rw [← z]; exact h1)
    exact ⟨q, u, h1, h2, (upd_ne hq).trans h3, h4.le (HpLe.upd hI) fun _ _ z => z⟩
/-- .. a cell from now on -/
theorem Ok.grip {n : Nat} {c : Cell} {o : HO} (ok : Ok K w) (hp : w.H p = some o) (hI : w.I p = none) (hα : w.α n = none) (hn : ∀ n, w.S n ≠ none → w.α n ≠ some p)
    (r : CellR K w.I (fun k => if k = n then some p else w.α k) c o) : Ok K ⟨w.I, fun k => if k = n then some p else w.α k, put w.S n c, w.H⟩ := by
  have up : ∀ k q, w.α k = some q → (if k = n then some p else w.α k) = some q := fun k q e => by
    have hk : k ≠ n := fun z => by rw [z, hα] at e; cases e
    rw [if_neg hk]; exact e
  refine ⟨ok.sub, fun k c' e => ?_, fun k j q hk hj ek ej => ?_, ?_⟩
  · have e : put w.S n c k = some c' := e
    by_cases hk : k = n
    · subst hk
      rw [put_same] at e
      cases e
      exact ⟨p, o, if_pos rfl, hp, hI, r⟩
    · rw [put_ne hk] at e
      obtain ⟨q, u, h1, h2, h3, h4⟩ := ok.cel k c' e
      exact ⟨q, u, (if_neg hk).trans h1, h2, h3, h4.le (fun _ _ z => z) up⟩
  · have ek : (if k = n then some p else w.α k) = some q := ek
    have ej : (if j = n then some p else w.α j) = some q := ej
    have hk : put w.S n c k ≠ none := hk
    have hj : put w.S n c j ≠ none := hj
    by_cases h1 : k = n
    · by_cases h2 : j = n
      · rw [h1, h2]
      · rw [if_pos h1] at ek
        rw [if_neg h2] at ej
        rw [put_ne h2] at hj
        cases ek
        exact absurd ej (hn j hj)
    · by_cases h2 : j = n
      · rw [if_pos h2] at ej
        rw [if_neg h1] at ek
        rw [put_ne h1] at hk
        cases ej
        exact absurd ek (hn k hk)
      · rw [if_neg h1] at ek
        rw [if_neg h2] at ej
        rw [put_ne h1] at hk
        rw [put_ne h2] at hj
        exact ok.inj k j q hk hj ek ej
  · obtain ⟨N, hN⟩ := ok.fin
    refine ⟨max N (n + 1), fun k hk => ?_⟩
    show (if k = n then some p else w.α k) = none
    rw [if_neg (by omega)]
    exact hN k (by omega)
end
section
variable {X : Cx} {W : WX} {e : Expr} {ta : DA} {pos : Pos}
theorem Le.newly {K : PySem.W.Frag} {w w1 : Wd} {p : Addr} {I' : Hp} {α' : Am} {S' : Sto} (l : Le w w1) (h0 : w.H p = none) (hI : ∀ q u, w1.I q = some u → I' q = some u) (hI2 : ∀ q, I' q ≠ none → w1.I q ≠ none ∨ q = p)
    (hα : ∀ n q, w1.α n = some q → α' n = some q) (hα2 : ∀ n q, α' n = some q → w1.α n = some q ∨ (w1.α n = none ∧ q = p)) (hS : ∀ n, S' n ≠ none → w1.S n ≠ none ∨ w1.α n = none) : Le w ⟨I', α', S', w1.H⟩ := by
  refine ⟨fun q u z => hI q u (l.ii q u z), fun n q z => hα n q (l.aa n q z), l.hh, l.there, fun q z => ?_, fun n q z => ?_, fun n z => ?_⟩
  · rcases hI2 q z with y | y
    · exact l.newI q y
    · rw [y]; exact .inr (.inl h0)
  · rcases hα2 n q z with y | ⟨y, y2⟩
    · exact l.newA n q y
    · refine .inr ⟨?_, by rw [y2]; exact h0⟩
      cases e : w.α n with
      | none => rfl
      | some q' => rw [l.aa n q' e] at y; cases y
  · rcases hS n z with y | y
    · exact l.dom n y
    · refine .inr ?_
      cases e : w.α n with
      | none => rfl
      | some q' => rw [l.aa n q' e] at y; cases y
theorem de_fz (h : PE X e (toF X.K W ta)) : PE X e (toE X.K W (dFz ta)) := pimp h fun σ H Q h => by
  obtain ⟨w, δ, Qd, Ed, rfl, ok, lo, t, q, ec⟩ := h
  refine ⟨w, δ, _, Ed, rfl, ok, lo, t, fun xs vs p w1 t1 l1 ok1 r1 hp h0 hI hn => ?_, ec⟩
  refine q (.lst xs) (.ref p) ⟨upd w1.I p (.lst vs), w1.α, w1.S, w1.H⟩ t1 ?_ (ok1.know hp hI hn) (.lst upd_same (r1.le (HpLe.upd hI) fun _ _ z => z))
  refine l1.newly (K := X.K) h0 (HpLe.upd hI) (fun q' z => ?_) (fun _ _ z => z) (fun _ _ z => .inl z) fun _ z => .inl z
  by_cases hq : q' = p
  · exact .inr hq
  · rw [upd_ne hq] at z; exact .inl z
theorem de_new (h : PE X e (toF X.K W ta)) : PE X e (toE X.K W (dNew ta)) := pimp h fun σ H Q h => by
  obtain ⟨w, δ, Qd, Ed, rfl, ok, lo, t, q, ec⟩ := h
  refine ⟨w, δ, _, Ed, rfl, ok, lo, t, fun xs vs p w1 t1 l1 ok1 r1 hp h0 hI hn => ?_, ec⟩
  obtain ⟨n, hα, hS⟩ := ok1.free
  have up : ∀ k q, w1.α k = some q → (if k = n then some p else w1.α k) = some q := fun k q e => by
    have hk : k ≠ n := fun z => by rw [z, hα] at e; cases e
    rw [if_neg hk]; exact e
  refine q (.m n) (.ref p) ⟨w1.I, fun k => if k = n then some p else w1.α k, put w1.S n (.lst xs), w1.H⟩ (t1 n hS) ?_ (ok1.grip hp hI hα hn ⟨vs, rfl, r1.le (fun _ _ z => z) up⟩) (.m (if_pos rfl))
  refine l1.newly (K := X.K) h0 (fun _ _ z => z) (fun _ z => .inl z) up (fun k q' z => ?_) fun k z => ?_
  · have z : (if k = n then some p else w1.α k) = some q' := z
    by_cases hk : k = n
    · rw [if_pos hk] at z
      cases z
      rw [hk]
      exact .inr ⟨hα, rfl⟩
    · rw [if_neg hk] at z
      exact .inl z
  · have z : put w1.S n (.lst xs) k ≠ none := z
    by_cases hk : k = n
    · rw [hk]; exact .inr hα
    · rw [put_ne hk] at z
      exact .inl z
end
end DL

set_option maxHeartbeats 4000000
namespace DL
open PySem PySem.Spec L2
/-! ## 5. The operators on data -/
/-- a list that may stand beside another one in +, * -/
def asL (S : Sto) : D → Option (List D)
  | .lst ds => some ds
  | .m n => match S n with
    | some (.lst ds) => some ds
    | _ => none
  | _ => none
/-- a list that is read -/
def asR (S : Sto) : D → Option (List D)
  | .lst ds => some ds
  | .rol ds => some ds
  | .m n => match S n with
    | some (.lst ds) => some ds
    | _ => none
  | _ => none
def opt {A : Type} (o : Option A) (k : A → Prop) : Prop := match o with
  | some a => k a
  | none => False
section
variable {K : PySem.W.Frag} {w w' : Wd} {v : V} {d : D} {ds : List D}
theorem Ok.celL (ok : Ok K w) {n : Nat} (h : w.S n = some (.lst ds)) : ∃ p vs, w.α n = some p ∧ w.H p = some (.lst vs) ∧ RpL K w.I w.α vs ds := by
  obtain ⟨p, o, h1, h2, _, vs, rfl, r⟩ := ok.cel n _ h
  exact ⟨p, vs, h1, h2, r⟩
theorem asL_sem (ok : Ok K w) (r : Rp K w.I w.α v d) (h : asL w.S d = some ds) : ∃ p vs, v = .ref p ∧ w.H p = some (.lst vs) ∧ RpL K w.I w.α vs ds := by
  cases d with
  | lst xs =>
    cases h
    obtain ⟨p, vs, rfl, hp, r⟩ := r.lst'
    exact ⟨p, vs, rfl, ok.sub _ _ hp, r⟩
  | m n =>
    unfold asL at h
    cases e : w.S n with
    | none => simp [e] at h
    | some c =>
      cases c with
      | ins => simp [e] at h
      | lst xs =>
        simp only [e] at h
        cases h
        obtain ⟨p, rfl, hp⟩ := r.m'
        obtain ⟨q, vs, h1, h2, h3⟩ := ok.celL e
        rw [hp] at h1
        cases h1
        exact ⟨p, vs, rfl, h2, h3⟩
  | _ => cases h
theorem asR_sem (ok : Ok K w) (r : Rp K w.I w.α v d) (h : asR w.S d = some ds) : ∃ p vs, v = .ref p ∧ SqL K w.H p vs ∧ RpL K w.I w.α vs ds := by
  cases d with
  | rol xs =>
    cases h
    obtain ⟨p, vs, rfl, hp, r⟩ := r.rol'
    exact ⟨p, vs, rfl, ok.sqL hp, r⟩
  | lst xs =>
    obtain ⟨p, vs, e, hp, r⟩ := asL_sem ok r (d := .lst xs) (by exact h)
    exact ⟨p, vs, e, SqL.of hp, r⟩
  | m n =>
    obtain ⟨p, vs, e, hp, r⟩ := asL_sem ok r (d := .m n) (by exact h)
    exact ⟨p, vs, e, SqL.of hp, r⟩
  | _ => cases h
theorem opt_of {A : Type} {o : Option A} {k : A → Prop} (h : opt o k) : ∃ a, o = some a ∧ k a := by
  cases o with
  | none => exact h.elim
  | some a => exact ⟨a, rfl, h⟩
/-- new frozen objects -/
theorem lay_tup {Qd : D → Prop} {Q : VK} {p : Addr} {vs : List V} (ok : Ok K w) (r : RpL K w.I w.α vs ds) (h : Qd (.tup ds)) (q : ∀ z v w', Qd z → Le w w' → w'.S = w.S → Ok K w' → Rp K w'.I w'.α v z → Q v w'.H) (hp : w.H p = none) : Q (.ref p) (upd w.H p (.tup vs)) :=
  q (.tup ds) (.ref p) (w.lay p (.tup vs)) h (.lay ok hp) rfl (ok.lay hp) (.tup (SqT.of upd_same) (r.up (.lay ok hp)))
theorem lay_lst {Qd : D → Prop} {Q : VK} {p : Addr} {vs : List V} (ok : Ok K w) (r : RpL K w.I w.α vs ds) (h : Qd (.lst ds)) (q : ∀ z v w', Qd z → Le w w' → w'.S = w.S → Ok K w' → Rp K w'.I w'.α v z → Q v w'.H) (hp : w.H p = none) : Q (.ref p) (upd w.H p (.lst vs)) :=
  q (.lst ds) (.ref p) (w.lay p (.lst vs)) h (.lay ok hp) rfl (ok.lay hp) (.lst upd_same (r.up (.lay ok hp)))
end
/-! ### arithmetic -/
def oAdd : DOp := fun S x y k => match x with
  | .int i => (match y with | .int j => k (.int (i + j)) | _ => False)
  | .str a => (match y with | .str b => a.length + b.length ≤ sizeLine ∧ k (.str (a ++ b)) | _ => False)
  | .tup a => (match y with | .tup b => a.length + b.length ≤ sizeLine ∧ k (.tup (a ++ b)) | _ => False)
  | .lst a => opt (asL S y) fun b => a.length + b.length ≤ sizeLine ∧ k (.lst (a ++ b))
  | .m n => opt (asL S (.m n)) fun a => opt (asL S y) fun b => a.length + b.length ≤ sizeLine ∧ k (.lst (a ++ b))
  | _ => False
def rAddU (K : PySem.W.Frag) : R2 := fun x y H Q => rI0 (fun i j => .int (i + j)) x y H Q ∨ (∃ i j, x = .str i ∧ y = .str j ∧ i.length + j.length ≤ sizeLine ∧ Q (.str (i ++ j)) H) ∨ rCatA K x y H Q ∨ rCat x y H Q
theorem op_addU {X : Cx} : OpR X (binaryOp .Add) (rAddU X.K) := op_add.or (op_add_str.or (op_catA.or op_cat))
theorem catL_sem {K : PySem.W.Frag} {w : Wd} {x y : V} {d e : D} {a b : List D} {Qd : D → Prop} {Q : VK} (ok : Ok K w) (rx : Rp K w.I w.α x d) (ry : Rp K w.I w.α y e) (ha : asL w.S d = some a) (hb : asL w.S e = some b)
    (hl : a.length + b.length ≤ sizeLine) (h : Qd (.lst (a ++ b))) (q : ∀ z v w', Qd z → Le w w' → w'.S = w.S → Ok K w' → Rp K w'.I w'.α v z → Q v w'.H) : rCat x y w.H Q := by
  obtain ⟨p, vs, rfl, hp, r1⟩ := asL_sem ok rx ha
  obtain ⟨p2, vs2, rfl, hp2, r2⟩ := asL_sem ok ry hb
  exact ⟨p, p2, vs, vs2, rfl, rfl, hp, hp2, by rw [r1.length, r2.length]; exact hl, fun t ht => lay_lst ok (r1.append r2) h q ht⟩
theorem sem_add {K : PySem.W.Frag} : SemOp K (rAddU K) oAdd := by
  intro w x y d e Qd Q ok rx ry h q
  cases d with
  | int i =>
    cases e with
    | int j =>
      cases rx; cases ry
      exact .inl ⟨i, j, rfl, rfl, q _ _ w h (.refl w) rfl ok (.int _)⟩
    | _ => exact h.elim
  | str a =>
    cases e with
    | str b =>
      cases rx; cases ry
      exact .inr (.inl ⟨a, b, rfl, rfl, h.1, q _ _ w h.2 (.refl w) rfl ok (.str _)⟩)
    | _ => exact h.elim
  | tup a =>
    cases e with
    | tup b =>
      obtain ⟨p, vs, rfl, hp, r1⟩ := rx.tup'
      obtain ⟨p2, vs2, rfl, hp2, r2⟩ := ry.tup'
      obtain ⟨hl, h⟩ := h
      refine .inr (.inr (.inl ⟨p, p2, vs, vs2, rfl, rfl, ok.sqT hp, ok.sqT hp2, by rw [r1.length, r2.length]; exact hl, fun e1 => ?_, fun _ e2 => ?_, fun _ _ t ht => lay_tup ok (r1.append r2) h q ht⟩))
      · subst e1
        cases r1
        exact q _ _ w h (.refl w) rfl ok (.tup hp2 r2)
      · subst e2
        cases r2
        rw [List.append_nil] at h
        exact q _ _ w h (.refl w) rfl ok (.tup hp r1)
    | _ => exact h.elim
  | lst a =>
    obtain ⟨b, hb, hl, h⟩ := opt_of h
    exact .inr (.inr (.inr (catL_sem ok rx ry rfl hb hl h q)))
  | m n =>
    obtain ⟨a, ha, h⟩ := opt_of h
    obtain ⟨b, hb, hl, h⟩ := opt_of h
    exact .inr (.inr (.inr (catL_sem ok rx ry ha hb hl h q)))
  | _ => exact h.elim
/-- two ints, a side condition -/
def oI (C : Int → Int → Prop) (g : Int → Int → Int) : DOp := fun _ x y k => match x with
  | .int i => (match y with | .int j => C i j ∧ k (.int (g i j)) | _ => False)
  | _ => False
def oI0 (g : Int → Int → Int) : DOp := fun _ x y k => match x with
  | .int i => (match y with | .int j => k (.int (g i j)) | _ => False)
  | _ => False
def oC0 (g : Int → Int → Bool) : DOp := fun _ x y k => match x with
  | .int i => (match y with | .int j => k (.bl (g i j)) | _ => False)
  | _ => False
theorem sem_I {K : PySem.W.Frag} {C : Int → Int → Prop} {g : Int → Int → Int} : SemOp K (rI C fun i j => .int (g i j)) (oI C g) := by
  intro w x y d e Qd Q ok rx ry h q
  cases d with
  | int i =>
    cases e with
    | int j =>
      cases rx; cases ry
      exact ⟨i, j, rfl, rfl, h.1, q _ _ w h.2 (.refl w) rfl ok (.int _)⟩
    | _ => exact h.elim
  | _ => exact h.elim
theorem sem_I0 {K : PySem.W.Frag} {g : Int → Int → Int} : SemOp K (rI0 fun i j => .int (g i j)) (oI0 g) := by
  intro w x y d e Qd Q ok rx ry h q
  cases d with
  | int i =>
    cases e with
    | int j =>
      cases rx; cases ry
      exact ⟨i, j, rfl, rfl, q _ _ w h (.refl w) rfl ok (.int _)⟩
    | _ => exact h.elim
  | _ => exact h.elim
theorem sem_C0 {K : PySem.W.Frag} {g : Int → Int → Bool} : SemOp K (rI0 fun i j => .bl (g i j)) (oC0 g) := by
  intro w x y d e Qd Q ok rx ry h q
  cases d with
  | int i =>
    cases e with
    | int j =>
      cases rx; cases ry
      exact ⟨i, j, rfl, rfl, q _ _ w h (.refl w) rfl ok (.bl _)⟩
    | _ => exact h.elim
  | _ => exact h.elim
/-- a * b: ints, one below 2^64 or both together below a million bits; a list times an int; a tuple times an int from 2 to 1000 -/
def oMul : DOp := fun S x y k => match x with
  | .int i => (match y with | .int j => (CMul i j ∨ CMulW i j) ∧ k (.int (i * j)) | _ => False)
  | .tup a => (match y with | .int j => a ≠ [] ∧ 2 ≤ j ∧ j ≤ 1000 ∧ a.length ≤ 1000 ∧ k (.tup (List.replicate j.toNat a).flatten) | _ => False)
  | .lst a => (match y with | .int j => -(2 ^ 63) ≤ j ∧ j < 2 ^ 63 ∧ a.length * j.toNat ≤ sizeLine ∧ k (.lst (List.replicate j.toNat a).flatten) | _ => False)
  | _ => False
def rMulU (K : PySem.W.Frag) : R2 := fun x y H Q => rI CMul (fun i j => .int (i * j)) x y H Q ∨ rI CMulW (fun i j => .int (i * j)) x y H Q ∨ rRep x y H Q ∨ rRepT K x y H Q
theorem op_mulU {X : Cx} : OpR X (binaryOp .Mult) (rMulU X.K) := op_mul.or (op_mulW.or (op_rep.or op_repT))
theorem RpL.flat {K : PySem.W.Frag} {I : Hp} {α : Am} {vs : List V} {ds : List D} (r : RpL K I α vs ds) : ∀ n : Nat, RpL K I α (List.replicate n vs).flatten (List.replicate n ds).flatten
  | 0 => .nil
  | n + 1 => by
    rw [List.replicate_succ, List.replicate_succ, List.flatten_cons, List.flatten_cons]
    exact r.append (RpL.flat r n)
theorem sem_mul {K : PySem.W.Frag} : SemOp K (rMulU K) oMul := by
  intro w x y d e Qd Q ok rx ry h q
  cases d with
  | int i =>
    cases e with
    | int j =>
      cases rx; cases ry
      obtain ⟨hc | hc, h⟩ := h
      · exact .inl ⟨i, j, rfl, rfl, hc, q _ _ w h (.refl w) rfl ok (.int _)⟩
      · exact .inr (.inl ⟨i, j, rfl, rfl, hc, q _ _ w h (.refl w) rfl ok (.int _)⟩)
    | _ => exact h.elim
  | tup a =>
    cases e with
    | int j =>
      cases ry
      obtain ⟨h0, h2, h3, h4, h⟩ := h
      obtain ⟨p, vs, rfl, hp, r1⟩ := rx.tup'
      refine .inr (.inr (.inr ⟨p, j, vs, rfl, rfl, ok.sqT hp, fun z => ?_, h2, h3, by rw [r1.length]; exact h4, fun t ht => lay_tup ok (r1.flat _) h q ht⟩))
      subst z
      cases r1
      exact h0 rfl
    | _ => exact h.elim
  | lst a =>
    cases e with
    | int j =>
      cases ry
      obtain ⟨h0, h2, h3, h⟩ := h
      obtain ⟨p, vs, rfl, hp, r1⟩ := rx.lst'
      exact .inr (.inr (.inl ⟨p, j, vs, rfl, rfl, ok.sub _ _ hp, h0, h2, by rw [r1.length]; exact h3, fun t ht => lay_lst ok (r1.flat _) h q ht⟩))
    | _ => exact h.elim
  | _ => exact h.elim
def oNeg : DUn := fun _ x k => match x with
  | .int i => k (.int (-i))
  | _ => False
theorem sem_neg {K : PySem.W.Frag} : SemUn K (rU fun i => .int (-i)) oNeg := by
  intro w x d Qd Q ok rx h q
  cases d with
  | int i =>
    cases rx
    exact ⟨i, rfl, q _ _ w h (.refl w) rfl ok (.int _)⟩
  | _ => exact h.elim
/-! ### == -/
mutual
def pyOf : D → PyData
  | .non => .none
  | .bl b => .bool b
  | .int i => .int i
  | .str x => .str x
  | .lst xs => .list (pyOfL xs)
  | .rol xs => .list (pyOfL xs)
  | .tup xs => .tuple (pyOfL xs)
  | _ => .dict []
def pyOfL : List D → List PyData
  | [] => []
  | d :: ds => pyOf d :: pyOfL ds
end
/-- no dict, no object, no cell within -/
abbrev shp (d : PyData) : Prop := SeqAt.shaped d = true
theorem canLay_dict {kvs : List (PyData × PyData)} : PyData.canLay0 (.dict kvs) = false := rfl
mutual
theorem dp_of {K : PySem.W.Frag} {I H : Hp} {α : Am} (e : HpLe I H) : ∀ (d : D) (v : V), Rp K I α v d → (pyOf d).canLay0 = true → Dp K H v (pyOf d)
  | .non, _, r, _ => by cases r; exact .non
  | .bl b, _, r, _ => by cases r; exact .bl b
  | .int i, _, r, _ => by cases r; exact .int i
  | .str x, _, r, _ => by cases r; exact .str x
  | .lst xs, _, r, h => by
    obtain ⟨p, vs, rfl, hp, r⟩ := r.lst'
    exact .lst (SqL.of (e _ _ hp)) (dps_of e xs vs r h)
  | .rol xs, _, r, h => by
    obtain ⟨p, vs, rfl, hp, r⟩ := r.rol'
    exact .lst (SqL.le hp e) (dps_of e xs vs r h)
  | .tup xs, _, r, h => by
    obtain ⟨p, vs, rfl, hp, r⟩ := r.tup'
    exact .tup (SqT.le hp e) (dps_of e xs vs r h)
  | .ins _ _, _, _, h => nomatch h
  | .cv _, _, _, h => nomatch h
  | .exc _ _ _ _, _, _, h => nomatch h
  | .m _, _, _, h => nomatch h
theorem dps_of {K : PySem.W.Frag} {I H : Hp} {α : Am} (e : HpLe I H) : ∀ (ds : List D) (vs : List V), RpL K I α vs ds → PyData.canLayAll0 (pyOfL ds) = true → DpAll K H vs (pyOfL ds)
  | [], _, r, _ => by cases r; exact .nil
  | d :: ds, _, r, h => by
    cases r with
    | cons r1 r2 =>
      have h' : (pyOf d).canLay0 = true ∧ PyData.canLayAll0 (pyOfL ds) = true := by simpa [pyOfL, PyData.canLayAll0] using h
      exact .cons (dp_of e d _ r1 h'.1) (dps_of e ds _ r2 h'.2)
end
/-- a list that is a cell of plain data -/
def pyS (S : Sto) (d : D) : PyData := match d with
  | .m n => (match S n with
    | some (.lst ds) => .list (pyOfL ds)
    | _ => .dict [])
  | _ => pyOf d
theorem dpS_of {K : PySem.W.Frag} {w : Wd} {v : V} {d : D} (ok : Ok K w) (r : Rp K w.I w.α v d) (h : shp (pyS w.S d)) : Dp K w.H v (pyS w.S d) := by
  have hl := SeqAt.canLay_of_shaped h
  cases d with
  | m n =>
    unfold pyS at hl ⊢
    cases e : w.S n with
    | none => simp only [e] at hl; cases hl
    | some c =>
      cases c with
      | ins => simp only [e] at hl; cases hl
      | lst ds =>
        simp only [e] at hl ⊢
        obtain ⟨p, rfl, hp⟩ := r.m'
        obtain ⟨q, vs, h1, h2, h3⟩ := ok.celL e
        rw [hp] at h1
        cases h1
        exact .lst (SqL.of h2) (dps_of ok.sub ds vs h3 hl)
  | _ => exact dp_of ok.sub _ v r hl
/-- flat against flat: nothing is asked; else both plain data of bounded depth -/
def oEq (neg : Bool) : DOp := fun S x y k => match x, y with
  | .int i, .int j => k (.bl (neg ^^ (i == j)))
  | .bl i, .bl j => k (.bl (neg ^^ (i == j)))
  | .str i, .str j => k (.bl (neg ^^ (i == j)))
  | .non, .non => k (.bl (neg ^^ true))
  | _, _ => shp (pyS S x) ∧ shp (pyS S y) ∧ k (.bl (neg ^^ PyData.eqv (pyS S x) (pyS S y)))
def rEqU (K : PySem.W.Frag) : R2 := fun x y H Q => rEq x y H Q ∨ rEqD K x y H Q
def rNeU (K : PySem.W.Frag) : R2 := fun x y H Q => rNe x y H Q ∨ rNeD K x y H Q
theorem op_eqU {X : Cx} (hu : X.A.units + 64 < cLine) : OpR X (compareOp .Eq) (rEqU X.K) := op_eq.or (op_eqD hu)
theorem op_neU {X : Cx} (hu : X.A.units + 64 < cLine) : OpR X (compareOp .NotEq) (rNeU X.K) := op_ne.or (op_neD hu)
theorem sem_eq {K : PySem.W.Frag} : SemOp K (rEqU K) (oEq false) := by
  intro w x y d e Qd Q ok rx ry h q
  have go : ∀ b, Qd (.bl b) → Q (.bl b) w.H := fun b hb => q _ _ w hb (.refl w) rfl ok (.bl b)
  unfold oEq at h
  split at h
  · cases rx; cases ry
    exact .inl ⟨rfl, by rw [dec_int]; exact go _ (by simpa using h)⟩
  · cases rx; cases ry
    exact .inl ⟨rfl, by rw [dec_bl]; exact go _ (by simpa using h)⟩
  · cases rx; cases ry
    exact .inl ⟨rfl, by rw [dec_str]; exact go _ (by simpa using h)⟩
  · cases rx; cases ry
    exact .inl ⟨rfl, by rw [decide_eq_true rfl]; exact go _ (by simpa using h)⟩
  · obtain ⟨h1, h2, h⟩ := h
    exact .inr ⟨_, _, dpS_of ok rx h1, dpS_of ok ry h2, h1, h2, go _ (by simpa using h)⟩
theorem sem_ne {K : PySem.W.Frag} : SemOp K (rNeU K) (oEq true) := by
  intro w x y d e Qd Q ok rx ry h q
  have go : ∀ b, Qd (.bl b) → Q (.bl b) w.H := fun b hb => q _ _ w hb (.refl w) rfl ok (.bl b)
  unfold oEq at h
  split at h
  · cases rx; cases ry
    exact .inl ⟨rfl, by rw [dec_int]; exact go _ (by simpa using h)⟩
  · cases rx; cases ry
    exact .inl ⟨rfl, by rw [dec_bl]; exact go _ (by simpa using h)⟩
  · cases rx; cases ry
    exact .inl ⟨rfl, by rw [dec_str]; exact go _ (by simpa using h)⟩
  · cases rx; cases ry
    exact .inl ⟨rfl, by rw [decide_eq_true rfl]; exact go _ (by simpa using h)⟩
  · obtain ⟨h1, h2, h⟩ := h
    exact .inr ⟨_, _, dpS_of ok rx h1, dpS_of ok ry h2, h1, h2, go _ (by simpa using h)⟩
/-! ### is None -/
def isN : D → Option Bool
  | .non => some true
  | .cv _ => none
  | _ => some false
def oIsN (neg : Bool) : DOp := fun _ x y k => match y with
  | .non => opt (isN x) fun b => k (.bl (neg ^^ b))
  | _ => False
theorem isN_sem {K : PySem.W.Frag} {I : Hp} {α : Am} {v : V} {d : D} {b : Bool} (r : Rp K I α v d) (h : isN d = some b) : decide (v = .non) = b := by
  cases r <;> first | (cases h; rfl) | cases h
theorem sem_isN {K : PySem.W.Frag} : SemOp K (fun x y H Q => y = .non ∧ Q (.bl (decide (x = .non))) H) (oIsN false) := by
  intro w x y d e Qd Q ok rx ry h q
  cases e with
  | non =>
    obtain ⟨b, hb, h⟩ := opt_of h
    cases ry
    refine ⟨rfl, ?_⟩
    rw [isN_sem rx hb]
    exact q _ _ w (by simpa using h) (.refl w) rfl ok (.bl b)
  | _ => exact h.elim
theorem sem_notN {K : PySem.W.Frag} : SemOp K (fun x y H Q => y = .non ∧ Q (.bl (!decide (x = .non))) H) (oIsN true) := by
  intro w x y d e Qd Q ok rx ry h q
  cases e with
  | non =>
    obtain ⟨b, hb, h⟩ := opt_of h
    cases ry
    refine ⟨rfl, ?_⟩
    rw [isN_sem rx hb]
    exact q _ _ w (by simpa using h) (.refl w) rfl ok (.bl _)
  | _ => exact h.elim
/-! ### in -/
def flatD : D → Bool
  | .non => true
  | .bl _ => true
  | .int _ => true
  | .str _ => true
  | _ => false
def eqFlat : D → D → Bool
  | .non, .non => true
  | .bl a, .bl b => a == b
  | .bl a, .int b => (if a then 1 else 0) == b
  | .int a, .bl b => a == (if b then 1 else 0)
  | .int a, .int b => a == b
  | .str a, .str b => a == b
  | _, _ => false
def inD (x : D) (xs : List D) : Bool := xs.any fun y => eqFlat y x
def asSq (S : Sto) : D → Option (List D)
  | .tup ds => some ds
  | d => asR S d
theorem flat_sem {K : PySem.W.Frag} {I : Hp} {α : Am} {v : V} {d : D} (r : Rp K I α v d) (h : flatD d = true) : flatV v = true := by
  cases r <;> first | rfl | cases h
theorem eqFlat_sem {K : PySem.W.Frag} {I : Hp} {α : Am} {v u : V} {d e : D} (r : Rp K I α v d) (s : Rp K I α u e) (h : flatD d = true) (g : flatD e = true) : eqV v u = eqFlat d e := by
  cases r <;> first | (cases s <;> first | rfl | exact absurd g Bool.false_ne_true) | exact absurd h Bool.false_ne_true
theorem inD_sem {K : PySem.W.Frag} {I : Hp} {α : Am} {v : V} {d : D} (r : Rp K I α v d) (h : flatD d = true) : ∀ {vs : List V} {ds : List D}, RpL K I α vs ds → ds.all flatD = true → vs.all flatV = true ∧ inV v vs = inD d ds
  | _, _, .nil, _ => ⟨rfl, rfl⟩
  | _, _, .cons (v := u) (d := e) (vs := vs) (ds := ds) q s, g => by
    have g' : flatD e = true ∧ ds.all flatD = true := by simpa using g
    obtain ⟨h1, h2⟩ := inD_sem r h s g'.2
    refine ⟨by rw [List.all_cons, flat_sem q g'.1, h1]; rfl, ?_⟩
    unfold inV inD at h2 ⊢
    rw [List.any_cons, List.any_cons, h2, eqFlat_sem q r g'.1 h]
def oIn (neg : Bool) : DOp := fun S x y k => match y with
  | .str b => (match x with | .str a => k (.bl (neg ^^ !(Builtin.Str.occurrences b a 0 b.length 1).isEmpty)) | _ => False)
  | _ => opt (asSq S y) fun ds => flatD x = true ∧ ds.all flatD = true ∧ k (.bl (neg ^^ inD x ds))
theorem asSq_sem {K : PySem.W.Frag} {w : Wd} {v : V} {d : D} {ds : List D} (ok : Ok K w) (r : Rp K w.I w.α v d) (h : asSq w.S d = some ds) : ∃ p vs, v = .ref p ∧ (SqL K w.H p vs ∨ SqT K w.H p vs) ∧ RpL K w.I w.α vs ds := by
  cases d with
  | tup xs =>
    cases h
    obtain ⟨p, vs, rfl, hp, r⟩ := r.tup'
    exact ⟨p, vs, rfl, .inr (ok.sqT hp), r⟩
  | _ =>
    obtain ⟨p, vs, e, hp, r⟩ := asR_sem ok r h
    exact ⟨p, vs, e, .inl hp, r⟩
def rInU (K : PySem.W.Frag) : R2 := fun x y H Q => rIn K false x y H Q ∨ ∃ i j, x = .str i ∧ y = .str j ∧ Q (.bl (!(Builtin.Str.occurrences j i 0 j.length 1).isEmpty)) H
def rNotInU (K : PySem.W.Frag) : R2 := fun x y H Q => rIn K true x y H Q ∨ ∃ i j, x = .str i ∧ y = .str j ∧ Q (.bl (!(!(Builtin.Str.occurrences j i 0 j.length 1).isEmpty))) H
theorem op_inU {X : Cx} : OpR X (compareOp .In) (rInU X.K) := op_in_seq.or op_in_str
theorem op_notInU {X : Cx} : OpR X (compareOp .NotIn) (rNotInU X.K) := op_notIn_seq.or L2.op_notIn_str
theorem sem_in {K : PySem.W.Frag} : SemOp K (rInU K) (oIn false) := by
  intro w x y d e Qd Q ok rx ry h q
  have sq : opt (asSq w.S e) (fun ds => flatD d = true ∧ ds.all flatD = true ∧ Qd (.bl (false ^^ inD d ds))) → rIn K false x y w.H Q := fun h => by
    obtain ⟨ds, hd, h1, h2, h⟩ := opt_of h
    obtain ⟨p, vs, rfl, hp, r⟩ := asSq_sem ok ry hd
    obtain ⟨g1, g2⟩ := inD_sem rx h1 r h2
    refine ⟨p, vs, rfl, hp, flat_sem rx h1, g1, ?_⟩
    rw [g2]
    exact q _ _ w (by simpa using h) (.refl w) rfl ok (.bl _)
  cases e with
  | str b =>
    cases d with
    | str a =>
      cases rx; cases ry
      exact .inr ⟨a, b, rfl, rfl, q _ _ w (by simpa [oIn] using h) (.refl w) rfl ok (.bl _)⟩
    | _ => exact h.elim
  | _ => exact .inl (sq h)
theorem sem_notIn {K : PySem.W.Frag} : SemOp K (rNotInU K) (oIn true) := by
  intro w x y d e Qd Q ok rx ry h q
  have sq : opt (asSq w.S e) (fun ds => flatD d = true ∧ ds.all flatD = true ∧ Qd (.bl (true ^^ inD d ds))) → rIn K true x y w.H Q := fun h => by
    obtain ⟨ds, hd, h1, h2, h⟩ := opt_of h
    obtain ⟨p, vs, rfl, hp, r⟩ := asSq_sem ok ry hd
    obtain ⟨g1, g2⟩ := inD_sem rx h1 r h2
    refine ⟨p, vs, rfl, hp, flat_sem rx h1, g1, ?_⟩
    rw [g2]
    exact q _ _ w (by simpa using h) (.refl w) rfl ok (.bl _)
  cases e with
  | str b =>
    cases d with
    | str a =>
      cases rx; cases ry
      exact .inr ⟨a, b, rfl, rfl, q _ _ w (by simpa [oIn] using h) (.refl w) rfl ok (.bl _)⟩
    | _ => exact h.elim
  | _ => exact .inl (sq h)
/-! ### items, slices, len -/
def oIx : DOp := fun S x y k => match y with
  | .int i => (match x with
    | .str z => z.length ≤ sizeLine ∧ opt (atI z.cps.toList i) fun c => k (.str ⟨#[c]⟩)
    | _ => opt (asSq S x) fun ds => opt (atI ds i) k)
  | _ => False
theorem atI_sem {K : PySem.W.Frag} {I : Hp} {α : Am} {vs : List V} {ds : List D} {i : Int} {d : D} (r : RpL K I α vs ds) (h : atI ds i = some d) : ∃ v, atI vs i = some v ∧ Rp K I α v d := by
  unfold atI at h ⊢
  rw [r.length]
  cases e : ixN ds.length i with
  | none => rw [e] at h; cases h
  | some j =>
    rw [e] at h
    exact r.get h
theorem sem_ix {K : PySem.W.Frag} : SemOp K (rIx K) oIx := by
  intro w x y d e Qd Q ok rx ry h q
  cases e with
  | int i =>
    cases ry
    have sq : opt (asSq w.S d) (fun ds => opt (atI ds i) Qd) → rIx K x (.int i) w.H Q := fun h => by
      obtain ⟨ds, hd, h⟩ := opt_of h
      obtain ⟨z, hz, h⟩ := opt_of h
      obtain ⟨p, vs, rfl, hp, r⟩ := asSq_sem ok rx hd
      obtain ⟨v, hv, rv⟩ := atI_sem r hz
      rcases hp with hp | hp
      · exact .inl ⟨p, vs, i, v, rfl, rfl, hp, hv, q _ _ w h (.refl w) rfl ok rv⟩
      · exact .inr (.inl ⟨p, vs, i, v, rfl, rfl, hp, hv, q _ _ w h (.refl w) rfl ok rv⟩)
    cases d with
    | str z =>
      cases rx
      obtain ⟨hl, h⟩ := h
      obtain ⟨c, hc, h⟩ := opt_of h
      exact .inr (.inr ⟨z, i, c, rfl, rfl, hl, hc, q _ _ w h (.refl w) rfl ok (.str _)⟩)
    | _ => exact sq h
  | _ => exact h.elim
/-- the items of xs[lo:hi] -/
def cutD (xs : List D) (lo hi : Option Int) : List D := (xs.drop (HT.sIx xs.length 0 lo)).take (HT.sIx xs.length xs.length hi - HT.sIx xs.length 0 lo)
theorem cut_sem {K : PySem.W.Frag} {I : Hp} {α : Am} {vs : List V} {ds : List D} {lo hi : Option Int} (r : RpL K I α vs ds) : RpL K I α (cutV vs lo hi) (cutD ds lo hi) := by
  unfold cutV cutD
  rw [r.length]
  exact (r.drop _).take _
abbrev DO := Lo → Sto → (Option Int → Sto → Prop) → (Err → Sto → Prop) → Prop
def dNoP : DO := fun _ S Q _ => Q none S
def dPart (t : DE) : DO := fun δ S Q E => t δ S (fun d S1 => match d with
  | .int i => Q (some i) S1
  | _ => False) E
def toO (K : PySem.W.Frag) (W : WX) (t : DO) : TO := fun σ H Q => ∃ (w : Wd) (δ : Lo) (Qd : Option Int → Sto → Prop) (Ed : Err → Sto → Prop), w.H = H ∧ Ok K w ∧ LoR K w σ δ ∧ t δ w.S Qd Ed ∧
  (∀ o w', Qd o w'.S → Le w w' → Ok K w' → Q o w'.H) ∧ eC K W σ w Ed
section
variable {X : Cx} {W : WX} {e : Expr} {te : DE} {tl th : DO} {lo hi : Option Expr} {p2 pos : Pos}
theorem do_none : PO X none (toO X.K W dNoP) := ⟨fun pins s σ H Q I h => po_none.run pins s σ H Q I (by
  obtain ⟨w, δ, Qd, Ed, rfl, ok, lo, t, q, _⟩ := h
  exact q none w t (.refl w) ok)⟩
theorem do_some (h : PE X e (toE X.K W te)) : PO X (some e) (toO X.K W (dPart te)) := ⟨fun pins s σ H Q I hh => (po_some h).run pins s σ H Q I (by
  obtain ⟨w, δ, Qd, Ed, rfl, ok, lo, t, q, ec⟩ := hh
  refine ⟨w, δ, _, Ed, rfl, ok, lo, t, fun d v w1 t1 l1 ok1 r1 => ?_, ec⟩
  cases d with
  | int i =>
    cases r1
    exact ⟨i, rfl, q _ w1 t1 l1 ok1⟩
  | _ => exact t1.elim)⟩
/-- x[lo:hi]: of a tuple, of a text, of a list (a new one) -/
def dSl (te : DE) (tl th : DO) : DE := fun δ S Q E => te δ S (fun x S1 => tl δ S1 (fun l S2 => th δ S2 (fun h S3 => match x with
  | .tup ds => Q (.tup (cutD ds l h)) S3
  | .str z => z.length ≤ sizeLine ∧ Q (.str (cutS z l h)) S3
  | _ => opt (asR S3 x) fun ds => Q (.lst (cutD ds l h)) S3) E) E) E
def rSlU (K : PySem.W.Frag) : V → Option Int → Option Int → Hp → VK → Prop := fun x l h H Q => rSlA K x l h H Q ∨ rSlL K x l h H Q ∨ rSlS x l h H Q
theorem SlR.or {r r' : V → Option Int → Option Int → Hp → VK → Prop} (a : SlR X r) (b : SlR X r') : SlR X fun x l h H Q => r x l h H Q ∨ r' x l h H Q := fun pins s σ H x v vl vu lo hi sl Q I rx hs pl pu h => by
  rcases h with h | h
  · exact a pins s σ H x v vl vu lo hi sl Q I rx hs pl pu h
  · exact b pins s σ H x v vl vu lo hi sl Q I rx hs pl pu h
theorem sl_U : SlR X (rSlU X.K) := SlR.or sl_tupA (SlR.or sl_list sl_str)
end
end DL

set_option maxHeartbeats 4000000
namespace DL
open PySem PySem.Spec L2
/-! ## 6. Slices, tests, built-ins, attributes -/
section
variable {X : Cx} {W : WX} {e a b c : Expr} {te ta tb tc : DE} {tl th : DO} {lo hi : Option Expr} {p2 pos : Pos}
theorem de_sl (he : PE X e (toE X.K W te)) (hl : PO X lo (toO X.K W tl)) (hh : PO X hi (toO X.K W th)) : PE X (.Subscript e (.Slice lo hi none p2) pos) (toE X.K W (dSl te tl th)) := pimp (pe_slice sl_U he hl hh) fun σ H Q h => by
  obtain ⟨w, δ, Qd, Ed, rfl, ok, lo, t, q, ec⟩ := h
  refine ⟨w, δ, _, Ed, rfl, ok, lo, t, fun d v w1 t1 l1 ok1 r1 => ?_, ec⟩
  refine ⟨w1, δ, _, Ed, rfl, ok1, lo.up l1, t1, fun o1 w2 t2 l2 ok2 => ?_, ec.up l1⟩
  refine ⟨w2, δ, _, Ed, rfl, ok2, (lo.up l1).up l2, t2, fun o2 w3 t3 l3 ok3 => ?_, (ec.up l1).up l2⟩
  have r3 := (r1.up l2).up l3
  have l := (l1.trans l2).trans l3
  have fin : ∀ z v w', Qd z w'.S → Le w3 w' → Ok X.K w' → Rp X.K w'.I w'.α v z → Q v w'.H := fun z v w' a b c d => q z v w' a (l.trans b) c d
  have ls : opt (asR w3.S d) (fun ds => Qd (.lst (cutD ds o1 o2)) w3.S) → rSlU X.K v o1 o2 w3.H Q := fun h => by
    obtain ⟨ds, hd, h⟩ := opt_of h
    obtain ⟨p, vs, rfl, hp, r⟩ := asR_sem ok3 r3 hd
    exact .inr (.inl ⟨p, vs, rfl, hp, fun t ht => lay_lst (Qd := fun z => Qd z w3.S) ok3 (cut_sem r) h (fun z v w' a b c d e => fin z v w' (by rw [c]; exact a) b d e) ht⟩)
  cases d with
  | tup ds =>
    obtain ⟨p, vs, rfl, hp, r⟩ := r3.tup'
    refine .inl ⟨p, vs, rfl, ok3.sqT hp, fun hw => ?_, fun _ t ht => lay_tup (Qd := fun z => Qd z w3.S) ok3 (cut_sem r) t3 (fun z v w' a b c d e => fin z v w' (by rw [c]; exact a) b d e) ht⟩
    have e1 : cutD ds o1 o2 = ds := by
      unfold cutD
      rw [r.length] at hw
      rw [hw.1, hw.2, List.drop_zero, Nat.sub_zero, List.take_length]
    have t3 : Qd (.tup (cutD ds o1 o2)) w3.S := t3
    rw [e1] at t3
    exact fin _ _ w3 t3 (.refl w3) ok3 r3
  | str z =>
    cases r3
    exact .inr (.inr ⟨z, rfl, t3.1, fin _ _ w3 t3.2 (.refl w3) ok3 (.str _)⟩)
  | _ => exact ls t3
/-! ### truth -/
def tru (S : Sto) (d : D) (k : Bool → Prop) : Prop := match d with
  | .non => k false
  | .bl b => k b
  | .int i => k (i != 0)
  | .str y => y.length ≤ sizeLine ∧ k ((y.length : Int) != 0)
  | _ => opt (asSq S d) fun ds => k (!ds.isEmpty)
theorem RpL.isEmpty {K : PySem.W.Frag} {I : Hp} {α : Am} {vs : List V} {ds : List D} (r : RpL K I α vs ds) : vs.isEmpty = ds.isEmpty := by
  cases r <;> rfl
theorem tru_sem {K : PySem.W.Frag} {w : Wd} {v : V} {d : D} {k : Bool → Prop} (ok : Ok K w) (r : Rp K w.I w.α v d) (h : tru w.S d k) : ∃ b, TruV K v w.H b ∧ k b := by
  have sq : opt (asSq w.S d) (fun ds => k (!ds.isEmpty)) → ∃ b, TruV K v w.H b ∧ k b := fun h => by
    obtain ⟨ds, hd, h⟩ := opt_of h
    obtain ⟨p, vs, rfl, hp, r⟩ := asSq_sem ok r hd
    refine ⟨_, ?_, h⟩
    rcases hp with hp | hp
    · exact .inl ⟨vs, hp, by rw [r.isEmpty]⟩
    · exact .inr (.inl ⟨vs, hp, by rw [r.isEmpty]⟩)
  cases d with
  | non => cases r; exact ⟨false, rfl, h⟩
  | bl b => cases r; exact ⟨b, rfl, h⟩
  | int i => cases r; exact ⟨_, rfl, h⟩
  | str y => cases r; exact ⟨_, ⟨h.1, rfl⟩, h.2⟩
  | _ => exact sq h
def dTru (t : DE) : DT := fun δ S Q E => t δ S (fun d S1 => tru S1 d fun b => Q b S1) E
theorem dt_tru (ha : PE X a (toE X.K W ta)) (he : ∀ whole, isTrue a X.env whole = (do let v ← whole; standAt a.pos; holding [v] (truthy v)) := by intro _; rfl) : PT X a (toT X.K W (dTru ta)) := pimpT (pt_truth ha he) fun σ H Q h => by
  obtain ⟨w, δ, Qd, Ed, rfl, ok, lo, t, q, ec⟩ := h
  refine ⟨w, δ, _, Ed, rfl, ok, lo, t, fun d v w1 t1 l1 ok1 r1 => ?_, ec⟩
  obtain ⟨b, hb, h⟩ := tru_sem ok1 r1 t1
  exact ⟨b, hb, q b w1 h l1 ok1⟩
/-! ### and, or, not; if else -/
def cnd (b : Bool) (A B : Prop) : Prop := match b with
  | true => A
  | false => B
theorem cnd_ite {b : Bool} {A B : Prop} (h : cnd b A B) : if b = true then A else B := by
  cases b with
  | true => rw [if_pos rfl]; exact h
  | false => rw [if_neg Bool.false_ne_true]; exact h
def dAnd (t u : DT) : DT := fun δ S Q E => t δ S (fun b S1 => cnd b (u δ S1 Q E) (Q false S1)) E
def dOr (t u : DT) : DT := fun δ S Q E => t δ S (fun b S1 => cnd b (Q true S1) (u δ S1 Q E)) E
def dNot (t : DT) : DT := fun δ S Q E => t δ S (fun b S1 => Q (!b) S1) E
variable {tA tB : DT} {rest : List Expr}
theorem dt_not (h : PT X a (toT X.K W tA)) : PT X (.UnaryOp .Not a pos) (toT X.K W (dNot tA)) := pimpT (pt_not h) fun σ H Q h => by
  obtain ⟨w, δ, Qd, Ed, rfl, ok, lo, t, q, ec⟩ := h
  exact ⟨w, δ, _, Ed, rfl, ok, lo, t, fun b w1 t1 l1 ok1 => q _ w1 t1 l1 ok1, ec⟩
theorem dw_and1 (h : PT X a (toT X.K W tA)) : PW X (.BoolOp .And [a] pos) (toT X.K W tA) := pw_and1 h
theorem dw_or1 (h : PT X a (toT X.K W tA)) : PW X (.BoolOp .Or [a] pos) (toT X.K W tA) := pw_or1 h
theorem dw_and (ha : PT X a (toT X.K W tA)) (hb : PW X (.BoolOp .And (b :: rest) pos) (toT X.K W tB)) : PW X (.BoolOp .And (a :: b :: rest) pos) (toT X.K W (dAnd tA tB)) := pimpW (pw_and ha hb) fun σ H Q h => by
  obtain ⟨w, δ, Qd, Ed, rfl, ok, lo, t, q, ec⟩ := h
  refine ⟨w, δ, _, Ed, rfl, ok, lo, t, fun b w1 t1 l1 ok1 => cnd_ite ?_, ec⟩
  cases b with
  | true => exact ⟨w1, δ, _, Ed, rfl, ok1, lo.up l1, t1, fun b w2 t2 l2 ok2 => q _ w2 t2 (l1.trans l2) ok2, ec.up l1⟩
  | false => exact q _ w1 t1 l1 ok1
theorem dw_or (ha : PT X a (toT X.K W tA)) (hb : PW X (.BoolOp .Or (b :: rest) pos) (toT X.K W tB)) : PW X (.BoolOp .Or (a :: b :: rest) pos) (toT X.K W (dOr tA tB)) := pimpW (pw_or ha hb) fun σ H Q h => by
  obtain ⟨w, δ, Qd, Ed, rfl, ok, lo, t, q, ec⟩ := h
  refine ⟨w, δ, _, Ed, rfl, ok, lo, t, fun b w1 t1 l1 ok1 => cnd_ite ?_, ec⟩
  cases b with
  | true => exact q _ w1 t1 l1 ok1
  | false => exact ⟨w1, δ, _, Ed, rfl, ok1, lo.up l1, t1, fun b w2 t2 l2 ok2 => q _ w2 t2 (l1.trans l2) ok2, ec.up l1⟩
theorem dt_w (h : PW X e (toT X.K W tA)) : PT X e (toT X.K W tA) := h.pt
/-- as values, by truth -/
def dAndV (t u : DE) : DE := fun δ S Q E => t δ S (fun d S1 => tru S1 d fun b => cnd b (u δ S1 Q E) (Q d S1)) E
def dOrV (t u : DE) : DE := fun δ S Q E => t δ S (fun d S1 => tru S1 d fun b => cnd b (Q d S1) (u δ S1 Q E)) E
def dNotV (t : DE) : DE := fun δ S Q E => t δ S (fun d S1 => tru S1 d fun b => Q (.bl (!b)) S1) E
theorem de_one {op} (h : PE X a (toE X.K W ta)) : PE X (.BoolOp op [a] pos) (toE X.K W ta) := pe_one h
theorem de_and (ha : PE X a (toE X.K W ta)) (hb : PE X (.BoolOp .And (b :: rest) pos) (toE X.K W tb)) : PE X (.BoolOp .And (a :: b :: rest) pos) (toE X.K W (dAndV ta tb)) := pimp (pe_andT ha hb) fun σ H Q h => by
  obtain ⟨w, δ, Qd, Ed, rfl, ok, lo, t, q, ec⟩ := h
  refine ⟨w, δ, _, Ed, rfl, ok, lo, t, fun d v w1 t1 l1 ok1 r1 => ?_, ec⟩
  obtain ⟨b, hb, h⟩ := tru_sem ok1 r1 t1
  refine ⟨b, hb, cnd_ite ?_⟩
  cases b with
  | true => exact ⟨w1, δ, _, Ed, rfl, ok1, lo.up l1, h, fun d v w2 t2 l2 ok2 r2 => q _ _ w2 t2 (l1.trans l2) ok2 r2, ec.up l1⟩
  | false => exact q _ _ w1 h l1 ok1 r1
theorem de_or (ha : PE X a (toE X.K W ta)) (hb : PE X (.BoolOp .Or (b :: rest) pos) (toE X.K W tb)) : PE X (.BoolOp .Or (a :: b :: rest) pos) (toE X.K W (dOrV ta tb)) := pimp (pe_orT ha hb) fun σ H Q h => by
  obtain ⟨w, δ, Qd, Ed, rfl, ok, lo, t, q, ec⟩ := h
  refine ⟨w, δ, _, Ed, rfl, ok, lo, t, fun d v w1 t1 l1 ok1 r1 => ?_, ec⟩
  obtain ⟨b, hb, h⟩ := tru_sem ok1 r1 t1
  refine ⟨b, hb, cnd_ite ?_⟩
  cases b with
  | true => exact q _ _ w1 h l1 ok1 r1
  | false => exact ⟨w1, δ, _, Ed, rfl, ok1, lo.up l1, h, fun d v w2 t2 l2 ok2 r2 => q _ _ w2 t2 (l1.trans l2) ok2 r2, ec.up l1⟩
theorem de_not (ha : PE X a (toE X.K W ta)) : PE X (.UnaryOp .Not a pos) (toE X.K W (dNotV ta)) := pimp (pe_notT ha) fun σ H Q h => by
  obtain ⟨w, δ, Qd, Ed, rfl, ok, lo, t, q, ec⟩ := h
  refine ⟨w, δ, _, Ed, rfl, ok, lo, t, fun d v w1 t1 l1 ok1 r1 => ?_, ec⟩
  obtain ⟨b, hb, h⟩ := tru_sem ok1 r1 t1
  exact ⟨b, hb, q _ _ w1 h l1 ok1 (.bl _)⟩
def dIfE (c : DT) (t u : DE) : DE := fun δ S Q E => c δ S (fun b S1 => cnd b (t δ S1 Q E) (u δ S1 Q E)) E
theorem de_ifE (hc : PT X c (toT X.K W tA)) (ha : PE X a (toE X.K W ta)) (hb : PE X b (toE X.K W tb)) : PE X (.IfExp c a b pos) (toE X.K W (dIfE tA ta tb)) := pimp (pe_ifExp hc ha hb) fun σ H Q h => by
  obtain ⟨w, δ, Qd, Ed, rfl, ok, lo, t, q, ec⟩ := h
  refine ⟨w, δ, _, Ed, rfl, ok, lo, t, fun b w1 t1 l1 ok1 => cnd_ite ?_, ec⟩
  cases b with
  | true => exact ⟨w1, δ, _, Ed, rfl, ok1, lo.up l1, t1, fun d v w2 t2 l2 ok2 r2 => q _ _ w2 t2 (l1.trans l2) ok2 r2, ec.up l1⟩
  | false => exact ⟨w1, δ, _, Ed, rfl, ok1, lo.up l1, t1, fun d v w2 t2 l2 ok2 r2 => q _ _ w2 t2 (l1.trans l2) ok2 r2, ec.up l1⟩
/-! ### a < b < c -/
def dChain (f g : DOp) (ta tb tc : DE) : DE := fun δ S Q E => ta δ S (fun x S1 => tb δ S1 (fun y S2 => f S2 x y fun z => match z with
  | .bl k => cnd k (tc δ S2 (fun u S3 => g S3 y u fun z => Q z S3) E) (Q (.bl false) S2)
  | _ => False) E) E
theorem toE_chain {K : PySem.W.Frag} {r r' : R2} {f g : DOp} (hs : SemOp K r f) (hs' : SemOp K r' g) (σ : L2.St) (H : Hp) (Q : VK) (h : toE K W (dChain f g ta tb tc) σ H Q) : tChain r r' (toE K W ta) (toE K W tb) (toE K W tc) σ H Q := by
  obtain ⟨w, δ, Qd, Ed, rfl, ok, lo, t, q, ec⟩ := h
  refine ⟨w, δ, _, Ed, rfl, ok, lo, t, fun x v w1 t1 l1 ok1 r1 => ?_, ec⟩
  refine ⟨w1, δ, _, Ed, rfl, ok1, lo.up l1, t1, fun y u w2 t2 l2 ok2 r2 => ?_, ec.up l1⟩
  have l12 := l1.trans l2
  refine hs w2 v u x y _ _ ok2 (r1.up l2) r2 t2 fun z v3 w3 h3 l3 e3 ok3 r3 => ?_
  cases z with
  | bl k =>
    cases r3
    refine ⟨k, rfl, cnd_ite ?_⟩
    cases k with
    | false => exact q _ _ w3 (by rw [e3]; exact h3) (l12.trans l3) ok3 (.bl _)
    | true =>
      refine ⟨w3, δ, _, Ed, rfl, ok3, (lo.up l12).up l3, (by rw [e3]; exact h3), fun z v4 w4 t4 l4 ok4 r4 => ?_, (ec.up l12).up l3⟩
      refine hs' w4 u v4 y z _ Q ok4 ((r2.up l3).up l4) r4 t4 fun z v5 w5 h5 l5 e5 ok5 r5 => ?_
      exact q z v5 w5 (by rw [e5]; exact h5) (((l12.trans l3).trans l4).trans l5) ok5 r5
  | _ => exact h3.elim
theorem de_chain {op op' : CmpOp} {r r' : R2} {f g : DOp} (ho : OpR X (compareOp op) r) (hs : SemOp X.K r f) (ho' : OpR X (compareOp op') r') (hs' : SemOp X.K r' g) (ha : PE X a (toE X.K W ta)) (hb : PE X b (toE X.K W tb)) (hc : PE X c (toE X.K W tc))
    (hm : lastMarks [op, op'] [b, c] = false := by with_unfolding_all rfl) : PE X (.Compare a [op, op'] [b, c] pos) (toE X.K W (dChain f g ta tb tc)) := pimp (pe_chain ho ho' ha hb hc hm) (toE_chain hs hs')
theorem dt_chain {op op' : CmpOp} {r r' : R2} {f g : DOp} (ho : OpR X (compareOp op) r) (hs : SemOp X.K r f) (ho' : OpR X (compareOp op') r') (hs' : SemOp X.K r' g) (ha : PE X a (toE X.K W ta)) (hb : PE X b (toE X.K W tb)) (hc : PE X c (toE X.K W tc))
    (hm : lastMarks [op, op'] [b, c] = false := by with_unfolding_all rfl) : PT X (.Compare a [op, op'] [b, c] pos) (toT X.K W (dB (dChain f g ta tb tc))) :=
  pimpT (pt_chain ho ho' ha hb hc hm) fun σ H Q h => tTest_mono (toE_chain hs hs') σ H Q (toT_test σ H Q h)
/-! ### attributes of instances -/
/-- what stands in the fields of an instance: frozen, or a cell -/
def asI (S : Sto) : D → Option (Addr × List (Str × D))
  | .ins C fs => some (C, fs)
  | .m n => match S n with
    | some (.ins C fs) => some (C, fs)
    | _ => none
  | _ => none
theorem asI_sem {K : PySem.W.Frag} {w : Wd} {v : V} {d : D} {C : Addr} {fs : List (Str × D)} (ok : Ok K w) (r : Rp K w.I w.α v d) (h : asI w.S d = some (C, fs)) : ∃ p dx vs, v = .ref p ∧ w.H p = some (.ins C dx vs) ∧ RpF K w.I w.α vs fs := by
  cases d with
  | ins C' fs' =>
    cases h
    obtain ⟨p, dx, vs, rfl, hp, r⟩ := r.ins'
    exact ⟨p, dx, vs, rfl, ok.sub _ _ hp, r⟩
  | m n =>
    unfold asI at h
    cases e : w.S n with
    | none => simp [e] at h
    | some c =>
      cases c with
      | lst => simp [e] at h
      | ins C' fs' =>
        simp only [e] at h
        cases h
        obtain ⟨p, rfl, hp⟩ := r.m'
        obtain ⟨q, o, h1, h2, _, dx, vs, rfl, r⟩ := ok.cel n _ e
        rw [hp] at h1
        cases h1
        exact ⟨p, dx, vs, rfl, h2, r⟩
  | _ => cases h
/-- e.f, e an instance of one of the classes Cs -/
def dFld (Cs : List Addr) (f : Str) (t : DE) : DE := fun δ S Q E => t δ S (fun d S1 => opt (asI S1 d) fun q => q.1 ∈ Cs ∧ opt (q.2.lookup f) fun z => Q z S1) E
theorem de_fld {Cs : List Addr} {f : Str} (hc : ∀ C ∈ Cs, Cls X.K C ∧ NoAttr X.K C f) (he : PE X e (toE X.K W te)) (hb : attributeBase e f X.env (eval e X.env) = eval e X.env := by rfl) : PE X (.Attribute e f pos) (toE X.K W (dFld Cs f te)) := pimp (pe_fld he hb) fun σ H Q h => by
  obtain ⟨w, δ, Qd, Ed, rfl, ok, lo, t, q, ec⟩ := h
  refine ⟨w, δ, _, Ed, rfl, ok, lo, t, fun d v w1 t1 l1 ok1 r1 => ?_, ec⟩
  obtain ⟨⟨C, fs⟩, hd, hC, h⟩ := opt_of t1
  obtain ⟨z, hz, h⟩ := opt_of h
  obtain ⟨p, dx, vs, rfl, hp, r⟩ := asI_sem ok1 r1 hd
  obtain ⟨v, hv, rv⟩ := r.lookup hz
  exact ⟨p, C, dx, vs, v, rfl, hp, (hc C hC).1, (hc C hC).2, hv, q z v w1 h l1 ok1 rv⟩
end
/-! ### built-in functions -/
def oLen : DCl := fun S ds k => match ds with
  | [.str z] => z.length ≤ sizeLine ∧ k (.int z.length)
  | [d] => opt (asSq S d) fun xs => k (.int xs.length)
  | _ => False
theorem RpL.one' {K : PySem.W.Frag} {I : Hp} {α : Am} {vs : List V} {d : D} (r : RpL K I α vs [d]) : ∃ v, vs = [v] ∧ Rp K I α v d := by
  cases r with
  | cons h r => cases r; exact ⟨_, rfl, h⟩
theorem RpL.two' {K : PySem.W.Frag} {I : Hp} {α : Am} {vs : List V} {d e : D} (r : RpL K I α vs [d, e]) : ∃ v u, vs = [v, u] ∧ Rp K I α v d ∧ Rp K I α u e := by
  cases r with
  | cons h r =>
    obtain ⟨u, rfl, h2⟩ := r.one'
    exact ⟨_, _, rfl, h, h2⟩
theorem sem_len {K : PySem.W.Frag} : SemCl K (fun xs H Q => ∃ x n, xs = [x] ∧ LenV K x H n ∧ Q (.int n) H) oLen := by
  intro w xs ds Qd Q ok r h q
  unfold oLen at h
  split at h
  · obtain ⟨v, rfl, rr⟩ := r.one'
    cases rr
    exact ⟨_, _, rfl, (show LenV K (.str _) w.H _ from ⟨h.1, rfl⟩), q _ _ w h.2 (.refl w) rfl ok (.int _)⟩
  · obtain ⟨v, rfl, rr⟩ := r.one'
    obtain ⟨ys, hy, h⟩ := opt_of h
    obtain ⟨p, vs, rfl, hp, rs⟩ := asSq_sem ok rr hy
    refine ⟨_, vs.length, rfl, ?_, ?_⟩
    · rcases hp with hp | hp
      · exact .inl ⟨vs, hp, rfl⟩
      · exact .inr ⟨vs, hp, rfl⟩
    · rw [rs.length]
      exact q _ _ w h (.refl w) rfl ok (.int _)
  · exact h.elim
def oInt : DCl := fun _ ds k => match ds with
  | [.int i] => k (.int i)
  | [.bl b] => k (.int (if b then 1 else 0))
  | _ => False
theorem sem_int {K : PySem.W.Frag} : SemCl K (fun xs H Q => (∃ i, xs = [.int i] ∧ Q (.int i) H) ∨ ∃ k, xs = [.bl k] ∧ Q (.int (if k then 1 else 0)) H) oInt := by
  intro w xs ds Qd Q ok r h q
  unfold oInt at h
  split at h
  · obtain ⟨v, rfl, rr⟩ := r.one'
    cases rr
    exact .inl ⟨_, rfl, q _ _ w h (.refl w) rfl ok (.int _)⟩
  · obtain ⟨v, rfl, rr⟩ := r.one'
    cases rr
    exact .inr ⟨_, rfl, q _ _ w h (.refl w) rfl ok (.int _)⟩
  · exact h.elim
def oAbs : DCl := fun _ ds k => match ds with
  | [.int i] => k (.int (if i < 0 then -i else i))
  | _ => False
theorem sem_abs {K : PySem.W.Frag} : SemCl K (fun xs H Q => ∃ i, xs = [.int i] ∧ Q (.int (if i < 0 then -i else i)) H) oAbs := by
  intro w xs ds Qd Q ok r h q
  unfold oAbs at h
  split at h
  · obtain ⟨v, rfl, rr⟩ := r.one'
    cases rr
    exact ⟨_, rfl, q _ _ w h (.refl w) rfl ok (.int _)⟩
  · exact h.elim
/-- tuple(x) -/
def oTuple : DCl := fun S ds k => match ds with
  | [d] => opt (asSq S d) fun xs => k (.tup xs)
  | _ => False
theorem sem_tuple {K : PySem.W.Frag} : SemCl K (fun xs H Q => ∃ p ys, xs = [.ref p] ∧ ((SqL K H p ys ∧ ∀ l, H l = none → Q (.ref l) (upd H l (.tup ys))) ∨ (SqT K H p ys ∧ Q (.ref p) H))) oTuple := by
  intro w xs ds Qd Q ok r h q
  unfold oTuple at h
  split at h
  · rename_i d
    obtain ⟨v, rfl, rr⟩ := r.one'
    obtain ⟨ys, hy, h2⟩ := opt_of h
    cases d with
    | tup zs =>
      cases hy
      obtain ⟨p, vs, rfl, hp, rs⟩ := rr.tup'
      exact ⟨p, vs, rfl, .inr ⟨ok.sqT hp, q _ _ w h2 (.refl w) rfl ok (.tup hp rs)⟩⟩
    | _ =>
      obtain ⟨p, vs, rfl, hp, rs⟩ := asR_sem ok rr hy
      exact ⟨p, vs, rfl, .inl ⟨hp, fun l hl => lay_tup ok rs h2 q hl⟩⟩
  · exact h.elim
/-- list(x): a new list -/
def dListOf (a : DA) : DA := fun δ S Q E => a δ S (fun ds S1 => match ds with
  | [d] => opt (asSq S1 d) fun xs => Q xs S1
  | _ => False) E
/-- a new list stands beside -/
theorem fresh_side {K : PySem.W.Frag} {w w1 : Wd} {p : Addr} {o : HO} (l1 : Le w w1) (ok1 : Ok K w1) (hp : w1.H p = none) :
    Le w (w1.side (upd w1.H p o)) ∧ Ok K (w1.side (upd w1.H p o)) ∧ w.H p = none ∧ w1.I p = none ∧ ∀ n, w1.S n ≠ none → w1.α n ≠ some p := by
  have e : HpLe w1.H (upd w1.H p o) := HpLe.upd hp
  refine ⟨l1.trans (.side e), ok1.side e, ?_, ok1.noI hp, fun n hn hα => ?_⟩
  · cases z : w.H p with
    | none => rfl
    | some o => exact absurd hp (l1.there p (by rw [z]; simp))
  · cases z : w1.S n with
    | none => exact hn z
    | some c =>
      obtain ⟨q', u, h1, h2, _⟩ := ok1.cel n c z
      rw [hα] at h1
      cases h1
      rw [hp] at h2
      cases h2
section
variable {X : Cx} {W : WX} {e a b : Expr} {es : List Expr} {ta tb : DE} {tas : DA} {p pos : Pos} {x : Str}
theorem df_listOf (hg : Gl X "list") (hm : X.mg "list" = none) (hv : bootBuiltins "list" = some (.type "list")) (ha : PA X (e :: es) (toA X.K W tas))
    (he : starEach (e :: es) X.env = (false, eval e X.env) :: starEach es X.env := by rfl) (hpl : (backTo pos (starEach es X.env)).any (·.1) = false := by rfl) : PE X (.Call (.Name "list" p) (e :: es) [] pos) (toF X.K W (dListOf tas)) :=
  pimp (pe_callTy call_list_of hg hm hv ha (by decide) (by decide) he hpl) fun σ H Q h => by
  obtain ⟨w, δ, Qd, Ed, rfl, ok, lo, t, q, ec⟩ := h
  refine ⟨w, δ, _, Ed, rfl, ok, lo, t, fun ds v w1 t1 l1 ok1 r1 => ?_, ec⟩
  split at t1
  · obtain ⟨v, rfl, rr⟩ := r1.one'
    obtain ⟨ys, hy, h⟩ := opt_of t1
    obtain ⟨p, vs, rfl, hp, r⟩ := asSq_sem ok1 rr hy
    refine ⟨p, vs, rfl, hp, fun l hl => ?_⟩
    obtain ⟨a1, a2, a3, a4, a5⟩ := fresh_side (o := .lst vs) l1 ok1 hl
    exact q ys vs l (w1.side (upd w1.H l (.lst vs))) h a1 a2 r upd_same a3 a4 a5
  · exact t1.elim
/-- a * b, a + b of lists: a new list -/
def dRep (ta tb : DE) : DA := fun δ S Q E => ta δ S (fun x S1 => tb δ S1 (fun y S2 => opt (asL S2 x) fun ds => match y with
  | .int j => -(2 ^ 63) ≤ j ∧ j < 2 ^ 63 ∧ ds.length * j.toNat ≤ sizeLine ∧ Q (List.replicate j.toNat ds).flatten S2
  | _ => False) E) E
theorem df_rep (ha : PE X a (toE X.K W ta)) (hb : PE X b (toE X.K W tb)) : PE X (.BinOp a .Mult b pos) (toF X.K W (dRep ta tb)) := pimp (pe_op op_rep ha hb) fun σ H Q h => by
  obtain ⟨w, δ, Qd, Ed, rfl, ok, lo, t, q, ec⟩ := h
  refine ⟨w, δ, _, Ed, rfl, ok, lo, t, fun x v w1 t1 l1 ok1 r1 => ?_, ec⟩
  refine ⟨w1, δ, _, Ed, rfl, ok1, lo.up l1, t1, fun y u w2 t2 l2 ok2 r2 => ?_, ec.up l1⟩
  obtain ⟨ds, hd, h⟩ := opt_of t2
  obtain ⟨p, vs, rfl, hp, r⟩ := asL_sem ok2 (r1.up l2) hd
  cases y with
  | int j =>
    cases r2
    obtain ⟨h1, h2, h3, h⟩ := h
    refine ⟨p, j, vs, rfl, rfl, hp, h1, h2, by rw [r.length]; exact h3, fun l hl => ?_⟩
    obtain ⟨a1, a2, a3, a4, a5⟩ := fresh_side (o := .lst (List.replicate j.toNat vs).flatten) (l1.trans l2) ok2 hl
    exact q _ _ l (w2.side (upd w2.H l (.lst (List.replicate j.toNat vs).flatten))) h a1 a2 (r.flat _) upd_same a3 a4 a5
  | _ => exact h.elim
def dCat (ta tb : DE) : DA := fun δ S Q E => ta δ S (fun x S1 => tb δ S1 (fun y S2 => opt (asL S2 x) fun ds => opt (asL S2 y) fun es => ds.length + es.length ≤ sizeLine ∧ Q (ds ++ es) S2) E) E
theorem df_cat (ha : PE X a (toE X.K W ta)) (hb : PE X b (toE X.K W tb)) : PE X (.BinOp a .Add b pos) (toF X.K W (dCat ta tb)) := pimp (pe_op op_cat ha hb) fun σ H Q h => by
  obtain ⟨w, δ, Qd, Ed, rfl, ok, lo, t, q, ec⟩ := h
  refine ⟨w, δ, _, Ed, rfl, ok, lo, t, fun x v w1 t1 l1 ok1 r1 => ?_, ec⟩
  refine ⟨w1, δ, _, Ed, rfl, ok1, lo.up l1, t1, fun y u w2 t2 l2 ok2 r2 => ?_, ec.up l1⟩
  obtain ⟨ds, hd, h⟩ := opt_of t2
  obtain ⟨es, he, hz, h⟩ := opt_of h
  obtain ⟨p, vs, rfl, hp, r⟩ := asL_sem ok2 (r1.up l2) hd
  obtain ⟨p2, vs2, rfl, hp2, r'⟩ := asL_sem ok2 r2 he
  refine ⟨p, p2, vs, vs2, rfl, rfl, hp, hp2, by rw [r.length, r'.length]; exact hz, fun l hl => ?_⟩
  obtain ⟨a1, a2, a3, a4, a5⟩ := fresh_side (o := .lst (vs ++ vs2)) (l1.trans l2) ok2 hl
  exact q _ _ l (w2.side (upd w2.H l (.lst (vs ++ vs2)))) h a1 a2 (r.append r') upd_same a3 a4 a5
end
end DL

set_option maxHeartbeats 4000000
namespace DL
open PySem PySem.Spec L2
/-! ## 7. Statements -/
structure EndsR (K : PySem.W.Frag) (W : WX) (w : Wd) (B : DEnds) (D : Ends) : Prop where
  nx : ∀ δ' σ' w', B.nx δ' w'.S → Le w w' → Ok K w' → LoR K w' σ' δ' → D.nx σ' w'.H
  rt : ∀ d v w', B.rt d w'.S → Le w w' → Ok K w' → Rp K w'.I w'.α v d → D.rt v w'.H
  bk : ∀ δ' σ' w', B.bk δ' w'.S → Le w w' → Ok K w' → LoR K w' σ' δ' → D.bk σ' w'.H
  ct : ∀ δ' σ' w', B.ct δ' w'.S → Le w w' → Ok K w' → LoR K w' σ' δ' → D.ct σ' w'.H
  ex : ∀ er dx δ' σ' w', B.ex er δ' w'.S → Le w w' → Ok K w' → LoR K w' σ' δ' → ErR K w' er dx → W (.ref er.C) (some dx) σ' w'.H
theorem EndsR.up {K : PySem.W.Frag} {W : WX} {w w1 : Wd} {B : DEnds} {D : Ends} (h : EndsR K W w B D) (l : Le w w1) : EndsR K W w1 B D :=
  ⟨fun a b c d e f g => h.nx a b c d (l.trans e) f g, fun a b c d e f g => h.rt a b c d (l.trans e) f g, fun a b c d e f g => h.bk a b c d (l.trans e) f g, fun a b c d e f g => h.ct a b c d (l.trans e) f g,
    fun a b c d e f g i j k => h.ex a b c d e f (l.trans g) i j k⟩
theorem EndsR.eC {K : PySem.W.Frag} {W : WX} {w : Wd} {B : DEnds} {D : Ends} {σ : L2.St} {δ : Lo} (h : EndsR K W w B D) (lo : LoR K w σ δ) : eC K W σ w (fun er S => B.ex er δ S) :=
  fun er w' dx a b c d => h.ex er dx δ σ w' a b c (lo.up b) d
def toS (K : PySem.W.Frag) (W : WX) (t : DS) : TS := fun D σ H => ∃ (w : Wd) (δ : Lo) (B : DEnds), w.H = H ∧ Ok K w ∧ LoR K w σ δ ∧ t B δ w.S ∧ EndsR K W w B D
theorem simp' {X : Cx} {st : Stmt} {t t' : TS} (h : PS X st t) (f : ∀ D σ H, t' D σ H → t D σ H) : PS X st t' := ⟨fun pins s σ H D I q => h.run pins s σ H D I (f _ _ _ q)⟩
theorem simps {X : Cx} {st : List Stmt} {t t' : TS} (h : PSs X st t) (f : ∀ D σ H, t' D σ H → t D σ H) : PSs X st t' := ⟨fun pins s σ H D I q => h.run pins s σ H D I (f _ _ _ q)⟩
def dSkip : DS := fun B δ S => B.nx δ S
def dSeq (t u : DS) : DS := fun B δ S => t { B with nx := fun δ' S' => u B δ' S' } δ S
def dBrk : DS := fun B δ S => B.bk δ S
def dCnt : DS := fun B δ S => B.ct δ S
def dRet (t : DE) : DS := fun B δ S => t δ S (fun d S1 => B.rt d S1) (fun er S1 => B.ex er δ S1)
def dRetN : DS := fun B _ S => B.rt .non S
def dEx (t : DE) : DS := fun B δ S => t δ S (fun _ S1 => B.nx δ S1) (fun er S1 => B.ex er δ S1)
def dSet (i : Nat) (t : DE) : DS := fun B δ S => t δ S (fun d S1 => B.nx (δ.set i (some d)) S1) (fun er S1 => B.ex er δ S1)
def dIf (c : DT) (t u : DS) : DS := fun B δ S => c δ S (fun b S1 => cnd b (t B δ S1) (u B δ S1)) (fun er S1 => B.ex er δ S1)
section
variable {X : Cx} {W : WX} {st : Stmt} {rest : List Stmt} {t u : DS} {e c : Expr} {te : DE} {tc : DT} {pos : Pos}
theorem dss_nil : PSs X [] (toS X.K W dSkip) := simps pss_nil fun D σ H ⟨w, δ, B, hH, ok, lo, t, r⟩ => by
  subst hH
  exact r.nx δ σ w t (.refl w) ok lo
theorem dss_cons (h1 : PS X st (toS X.K W t)) (h2 : PSs X rest (toS X.K W u)) : PSs X (st :: rest) (toS X.K W (dSeq t u)) := simps (pss_cons h1 h2) fun D σ H ⟨w, δ, B, hH, ok, lo, t, r⟩ => by
  subst hH
  refine ⟨w, δ, _, rfl, ok, lo, t, ⟨fun δ' σ' w' a b c d => ⟨w', δ', B, rfl, c, d, a, r.up b⟩, r.rt, r.bk, r.ct, r.ex⟩⟩
theorem dss_one (h1 : PS X st (toS X.K W t)) : PSs X [st] (toS X.K W t) := pss_one h1
theorem ds_pass : PS X (.Pass pos) (toS X.K W dSkip) := simp' ps_pass fun D σ H ⟨w, δ, B, hH, ok, lo, t, r⟩ => by
  subst hH
  exact r.nx δ σ w t (.refl w) ok lo
theorem ds_break : PS X (.Break pos) (toS X.K W dBrk) := simp' ps_break fun D σ H ⟨w, δ, B, hH, ok, lo, t, r⟩ => by
  subst hH
  exact r.bk δ σ w t (.refl w) ok lo
theorem ds_cont : PS X (.Continue pos) (toS X.K W dCnt) := simp' ps_continue fun D σ H ⟨w, δ, B, hH, ok, lo, t, r⟩ => by
  subst hH
  exact r.ct δ σ w t (.refl w) ok lo
theorem ds_ret (h : PE X e (toE X.K W te)) : PS X (.Return (some e) pos) (toS X.K W (dRet te)) := simp' (ps_ret h) fun D σ H ⟨w, δ, B, hH, ok, lo, t, r⟩ => by
  subst hH
  exact ⟨w, δ, _, _, rfl, ok, lo, t, fun d v w1 a b c f => r.rt d v w1 a b c f, r.eC lo⟩
theorem ds_retN : PS X (.Return none pos) (toS X.K W dRetN) := simp' ps_retN fun D σ H ⟨w, δ, B, hH, ok, lo, t, r⟩ => by
  subst hH
  exact r.rt .non .non w t (.refl w) ok .non
theorem ds_expr (h : PE X e (toE X.K W te)) (hs : swapsWith e none pos.line X.env = pure false := by rfl) : PS X (.Expr e pos) (toS X.K W (dEx te)) := simp' (ps_expr h hs) fun D σ H ⟨w, δ, B, hH, ok, lo, t, r⟩ => by
  subst hH
  exact ⟨w, δ, _, _, rfl, ok, lo, t, fun d v w1 a b c f => r.nx δ σ w1 a b c (lo.up b), r.eC lo⟩
theorem ds_doc {x j pos pos'} : PS X (.Expr (.Constant (.str x) j pos) pos') (toS X.K W dSkip) := simp' ps_doc fun D σ H ⟨w, δ, B, hH, ok, lo, t, r⟩ => by
  subst hH
  exact r.nx δ σ w t (.refl w) ok lo
theorem ds_set {i : Nat} {x : Str} {pos' : Pos} (hN : X.N.Nodup) (hi : X.N[i]? = some x) (hx : Loc X.env.scope x) (h : PE X e (toE X.K W te)) (hs : swapsWith e (some (.Name x pos')) pos.line X.env = pure false := by rfl)
    (hf : X.fn x = true ∨ X.env.scope.names.lookup x = some .local := by first | exact .inl rfl | exact .inr rfl | assumption) : PS X (.Assign [.Name x pos'] e pos) (toS X.K W (dSet i te)) := simp' (ps_set hN hi hx h hs hf) fun D σ H ⟨w, δ, B, hH, ok, lo, t, r⟩ => by
  subst hH
  exact ⟨w, δ, _, _, rfl, ok, lo, t, fun d v w1 a b c f => r.nx _ _ w1 a b c ((lo.up b).set i f), r.eC lo⟩
theorem ds_if {a b : List Stmt} (hc : PT X c (toT X.K W tc)) (ha : PSs X a (toS X.K W t)) (hb : PSs X b (toS X.K W u)) : PS X (.If c a b pos) (toS X.K W (dIf tc t u)) := simp' (ps_if hc ha hb) fun D σ H ⟨w, δ, B, hH, ok, lo, t, r⟩ => by
  subst hH
  refine ⟨w, δ, _, _, rfl, ok, lo, t, fun b w1 t1 l1 ok1 => cnd_ite ?_, r.eC lo⟩
  cases b with
  | true => exact ⟨w1, δ, B, rfl, ok1, lo.up l1, t1, r.up l1⟩
  | false => exact ⟨w1, δ, B, rfl, ok1, lo.up l1, t1, r.up l1⟩
/-- what is in the i-th place is frozen ahead of the statement -/
def dFrz (i : Nat) (t : DS) : DS := fun B δ S => match δ[i]? with
  | some (some (.m n)) => (match S n with
    | some (.lst ds) => t B (δ.set i (some (.lst ds))) (del S n)
    | some (.ins C fs) => t B (δ.set i (some (.ins C fs))) (del S n)
    | none => False)
  | _ => t B δ S
theorem LoR.put (h : LoR K w σ δ) {i : Nat} {v : V} {d : D} (e : σ[i]? = some (some v)) (r : Rp K w.I w.α v d) : LoR K w σ (δ.set i (some d)) := by
  have q := h.set i r
  have hi : i < σ.length := by
    by_cases hi : i < σ.length
    · exact hi
    · rw [List.getElem?_eq_none (by omega)] at e
      cases e
  have z : σ.set i (some v) = σ := by
    apply List.ext_getElem?
    intro j
    by_cases hij : i = j
    · subst hij
      rw [List.getElem?_set_self hi, e]
    · rw [List.getElem?_set_ne hij]
  rw [z] at q
  exact q
theorem frz_S {K : PySem.W.Frag} {i : Nat} (D : Ends) (σ : L2.St) (H : Hp) (h : toS K W (dFrz i t) D σ H) : toS K W t D σ H := by
  obtain ⟨w, δ, B, hH, ok, lo, h, r⟩ := h
  subst hH
  unfold dFrz at h
  split at h
  · rename_i n hn
    obtain ⟨v, hv, rv⟩ := lo.2 i _ hn
    obtain ⟨p, rfl, hp⟩ := rv.m'
    split at h
    · rename_i ds hs
      obtain ⟨q, o, h1, h2, h3, vs, rfl, rr⟩ := ok.cel n _ hs
      rw [hp] at h1
      cases h1
      have l : Le w (w.frz n p (.lst vs)) := .frz ok hs hp
      exact ⟨w.frz n p (.lst vs), _, B, rfl, ok.frz hs hp h2, (lo.up l).put hv (.lst upd_same (rr.up l)), h, r.up l⟩
    · rename_i C fs hs
      obtain ⟨q, o, h1, h2, h3, dx, vs, rfl, rr⟩ := ok.cel n _ hs
      rw [hp] at h1
      cases h1
      have l : Le w (w.frz n p (.ins C dx vs)) := .frz ok hs hp
      exact ⟨w.frz n p (.ins C dx vs), _, B, rfl, ok.frz hs hp h2, (lo.up l).put hv (.ins upd_same (rr.up l)), h, r.up l⟩
    · exact h.elim
  · exact ⟨w, δ, B, rfl, ok, lo, h, r⟩
theorem ds_frz (i : Nat) (h : PS X st (toS X.K W t)) : PS X st (toS X.K W (dFrz i t)) := simp' h frz_S
theorem dss_frz (i : Nat) (h : PSs X rest (toS X.K W t)) : PSs X rest (toS X.K W (dFrz i t)) := simps h frz_S
/-! ### targets -/
abbrev DG := D → Lo → Sto → (Lo → Sto → Prop) → Prop
def SemG (K : PySem.W.Frag) (g : TG) (f : DG) : Prop := ∀ (w : Wd) (v : V) (d : D) (σ : L2.St) (δ : Lo) (Qd : Lo → Sto → Prop) (Q : L2.St → Hp → Prop), Ok K w → Rp K w.I w.α v d → LoR K w σ δ → f d δ w.S Qd →
  (∀ δ' σ' w', Qd δ' w'.S → Le w w' → Ok K w' → LoR K w' σ' δ' → Q σ' w'.H) → g v σ w.H Q
def gN (i : Nat) : DG := fun d δ S Q => Q (δ.set i (some d)) S
/-- names in a row -/
def setsD : List Nat → List D → Lo → Option Lo
  | [], [], δ => some δ
  | i :: is, d :: ds, δ => setsD is ds (δ.set i (some d))
  | _, _, _ => none
def gT (is : List Nat) : DG := fun d δ S Q => match d with
  | .tup ds => opt (setsD is ds δ) fun δ' => Q δ' S
  | _ => False
theorem sem_gN {K : PySem.W.Frag} {i : Nat} : SemG K (gName i) (gN i) := fun w v d σ δ Qd Q ok r lo h q => q _ _ w h (.refl w) ok (lo.set i r)
def gNames : List Nat → TGs
  | [] => gNil
  | i :: is => gCons (gName i) (gNames is)
theorem sem_names {K : PySem.W.Frag} {w : Wd} {Q : L2.St → Hp → Prop} {Qd : Lo → Sto → Prop} (ok : Ok K w) (q : ∀ δ' σ' w', Qd δ' w'.S → Le w w' → Ok K w' → LoR K w' σ' δ' → Q σ' w'.H) :
    ∀ (is : List Nat) (ds : List D) (vs : List V) (σ : L2.St) (δ δ' : Lo), RpL K w.I w.α vs ds → LoR K w σ δ → setsD is ds δ = some δ' → Qd δ' w.S → gNames is vs σ w.H Q
  | [], [], _, σ, δ, _, r, lo, h, hq => by
    cases r
    cases h
    exact ⟨rfl, q _ _ w hq (.refl w) ok lo⟩
  | i :: is, d :: ds, _, σ, δ, δ', r, lo, h, hq => by
    cases r with
    | cons r1 r2 => exact ⟨_, _, rfl, sem_names ok q is ds _ _ _ _ r2 (lo.set i r1) h hq⟩
  | [], _ :: _, _, _, _, _, _, _, h, _ => by cases h
  | _ :: _, [], _, _, _, _, _, _, h, _ => by cases h
theorem setsD_len : ∀ {is : List Nat} {ds : List D} {δ δ' : Lo}, setsD is ds δ = some δ' → ds.length = is.length
  | [], [], _, _, _ => rfl
  | _ :: is, _ :: ds, _, _, h => congrArg (· + 1) (setsD_len (is := is) (ds := ds) h)
  | [], _ :: _, _, _, h => by cases h
  | _ :: _, [], _, _, h => by cases h
theorem sem_gT {K : PySem.W.Frag} {is : List Nat} {n : Nat} (hn : is.length = n) : SemG K (gTup K n (gNames is)) (gT is) := fun w v d σ δ Qd Q ok r lo h q => by
  cases d with
  | tup ds =>
    obtain ⟨δ', h1, h2⟩ := opt_of h
    obtain ⟨p, vs, rfl, hp, rr⟩ := r.tup'
    exact ⟨p, vs, rfl, ok.sqT hp, by rw [rr.length, setsD_len h1, hn], sem_names ok q is ds vs σ δ δ' rr lo h1 h2⟩
  | _ => exact h.elim
def dAsg (g : DG) (t : DE) : DS := fun B δ S => t δ S (fun d S1 => g d δ S1 fun δ' S2 => B.nx δ' S2) (fun er S1 => B.ex er δ S1)
theorem ds_asg {tg : Expr} {g : TG} {f : DG} (h : PE X e (toE X.K W te)) (hg : PG X tg g) (sg : SemG X.K g f) (hs : PE X e (toE X.K W te) → PG X tg g → PS X (.Assign [tg] e pos) (tAsg (toE X.K W te) g) := by intro h hg; exact ps_asg h hg) :
    PS X (.Assign [tg] e pos) (toS X.K W (dAsg f te)) := simp' (hs h hg) fun D σ H ⟨w, δ, B, hH, ok, lo, t, r⟩ => by
  subst hH
  exact ⟨w, δ, _, _, rfl, ok, lo, t, fun d v w1 a b c f => sg w1 v d σ δ _ _ c f (lo.up b) a fun δ' σ' w2 a2 b2 c2 d2 => r.nx _ _ w2 a2 (b.trans b2) c2 d2, r.eC lo⟩
/-! ### loops -/
abbrev DI := Lo → Sto → (List D → (Sto → Prop) → Sto → Prop) → (Err → Sto → Prop) → Prop
/-- what a walk needs of the world behind -/
structure Lw (w w' : Wd) : Prop where
  ii : HpLe w.I w'.I
  aa : ∀ n p, w.α n = some p → w'.α n = some p
theorem Le.lw {w w' : Wd} (l : Le w w') : Lw w w' := ⟨l.ii, l.aa⟩
theorem RpL.upw {K : PySem.W.Frag} {w w' : Wd} {v : List V} {d : List D} (h : RpL K w.I w.α v d) (l : Lw w w') : RpL K w'.I w'.α v d := RpL.le l.ii l.aa h
structure Walks (K : PySem.W.Frag) (w0 : Wd) (J : It) (ds : List D) (kp : Sto → Prop) : Prop where
  go : ∀ w i, Lw w0 w → Ok K w → kp w.S → i < ds.length → J.go i w.H
  stop : ∀ w, Lw w0 w → Ok K w → kp w.S → J.stop ds.length w.H
  yld : ∀ w i x H', Lw w0 w → Ok K w → kp w.S → i < ds.length → J.yld i w.H x H' → ∃ w', w'.H = H' ∧ Le w w' ∧ Ok K w' ∧ w'.S = w.S ∧ ∃ d, ds[i]? = some d ∧ Rp K w'.I w'.α x d
def toI (K : PySem.W.Frag) (W : WX) (t : DI) : TI := fun σ H R => ∃ (w : Wd) (δ : Lo) (Qd : List D → (Sto → Prop) → Sto → Prop) (Ed : Err → Sto → Prop), w.H = H ∧ Ok K w ∧ LoR K w σ δ ∧ t δ w.S Qd Ed ∧
  (∀ ds kp w' J, Qd ds kp w'.S → Le w w' → Ok K w' → Walks K w' J ds kp → R J w'.H) ∧ eC K W σ w Ed
theorem simpI {X : Cx} {tg e : Expr} {t t' : TI} (h : PI X tg e t) (f : ∀ σ H R, t' σ H R → t σ H R) : PI X tg e t' := ⟨fun pins s σ H R I q => h.run pins s σ H R I (f _ _ _ q)⟩
def dLoop (kp : Sto → Prop) (g : DG) (body : DS) : List D → DS
  | [] => fun B δ S => kp S ∧ B.nx δ S
  | d :: ds => fun B δ S => kp S ∧ g d δ S fun δ1 S1 => body { nx := fun δ2 S2 => dLoop kp g body ds B δ2 S2, ct := fun δ2 S2 => dLoop kp g body ds B δ2 S2, bk := B.nx, rt := B.rt, ex := B.ex } δ1 S1
def dFor (src : DI) (g : DG) (body : DS) : DS := fun B δ S => src δ S (fun ds kp S1 => dLoop kp g body ds B δ S1) (fun er S1 => B.ex er δ S1)
theorem dLoop_kp {kp : Sto → Prop} {g : DG} {body : DS} {ds : List D} {B : DEnds} {δ : Lo} {S : Sto} (h : dLoop kp g body ds B δ S) : kp S := by
  cases ds with
  | nil => exact h.1
  | cons d ds => exact h.1
theorem ds_for {tg iter : Expr} {body : List Stmt} {src : DI} {g : TG} {f : DG} {tb : DS} (hp : PassesOwn (model X.prog X.w) X.A X.env X.xe) (hc : X.calm = true) (hi : PI X tg iter (toI X.K W src)) (hg : PG X tg g) (sg : SemG X.K g f) (hb : PSs X body (toS X.K W tb))
    (hs : ∀ x, foldedSetIterable iter X.env x = pure x := by intro _; rfl) : PS X (.For tg iter body [] pos) (toS X.K W (dFor src f tb)) := simp' (ps_for hp hc hi hg hb hs) fun D σ H ⟨w, δ, B, hH, ok, lo, t, r⟩ => by
  subst hH
  refine ⟨w, δ, _, _, rfl, ok, lo, t, fun ds kp w1 J t1 l1 ok1 wk => ?_, r.eC lo⟩
  refine ⟨fun i m σ' H' => m = ds.length - i ∧ i ≤ ds.length ∧ ∃ (w' : Wd) (δ' : Lo), w'.H = H' ∧ Le w1 w' ∧ Ok X.K w' ∧ LoR X.K w' σ' δ' ∧ dLoop kp f tb (ds.drop i) B δ' w'.S, ⟨ds.length, by simp, Nat.zero_le _, w1, δ, rfl, .refl w1, ok1, lo.up l1, t1⟩, ?_⟩
  rintro i m σ' H' ⟨rfl, hi, w', δ', rfl, l', ok', lo', h'⟩
  by_cases hlt : i < ds.length
  · refine .inr ⟨wk.go w' i l'.lw ok' (dLoop_kp h') hlt, fun σ2 H2 => ∃ (w' : Wd) (δ' : Lo), w'.H = H2 ∧ Le w1 w' ∧ Ok X.K w' ∧ LoR X.K w' σ2 δ' ∧ dLoop kp f tb (ds.drop (i + 1)) B δ' w'.S, fun σ2 H2 q => ⟨ds.length - (i + 1), by omega, rfl, hlt, q⟩, fun x H2 hy => ?_⟩
    obtain ⟨w2, rfl, l2, ok2, e2, d, hd, rd⟩ := wk.yld w' i x H2 l'.lw ok' (dLoop_kp h') hlt hy
    rw [List.drop_eq_getElem_cons hlt] at h'
    have hd' : ds[i] = d := by
      rw [List.getElem?_eq_getElem hlt] at hd
      exact Option.some.inj hd
    rw [hd'] at h'
    obtain ⟨_, h'⟩ := h'
    rw [← e2] at h'
    refine sg w2 x d σ' δ' _ _ ok2 rd (lo'.up l2) h' fun δ3 σ3 w3 a3 b3 c3 d3 => ?_
    have l13 : Le w1 w3 := (l'.trans l2).trans b3
    have rr := r.up (l1.trans l13)
    exact ⟨w3, δ3, _, rfl, c3, d3, a3, ⟨fun δ4 σ4 w4 a b c d => ⟨w4, δ4, rfl, l13.trans b, c, d, a⟩, rr.rt, rr.nx, fun δ4 σ4 w4 a b c d => ⟨w4, δ4, rfl, l13.trans b, c, d, a⟩, rr.ex⟩⟩
  · have e : i = ds.length := by omega
    subst e
    rw [List.drop_length] at h'
    exact .inl ⟨wk.stop w' l'.lw ok' h'.1, r.nx δ' σ' w' h'.2 (l1.trans l') ok' lo'⟩
def dWl (c : DT) (body : DS) : Nat → DS
  | 0 => fun _ _ _ => False
  | n + 1 => fun B δ S => c δ S (fun b S1 => cnd b (body { nx := fun δ2 S2 => dWl c body n B δ2 S2, ct := fun δ2 S2 => dWl c body n B δ2 S2, bk := B.nx, rt := B.rt, ex := B.ex } δ S1) (B.nx δ S1)) (fun er S1 => B.ex er δ S1)
def dWhile (c : DT) (body : DS) : DS := fun B δ S => ∃ n, dWl c body n B δ S
theorem ds_while {body : List Stmt} {tb : DS} (hp : PassesOwn (model X.prog X.w) X.A X.env X.xe) (hc : PT X c (toT X.K W tc)) (hb : PSs X body (toS X.K W tb)) : PS X (.While c body [] pos) (toS X.K W (dWhile tc tb)) := simp' (ps_while hp hc hb) fun D σ H ⟨w, δ, B, hH, ok, lo, t, r⟩ => by
  subst hH
  obtain ⟨n, t⟩ := t
  refine ⟨fun m σ' H' => ∃ (w' : Wd) (δ' : Lo), w'.H = H' ∧ Le w w' ∧ Ok X.K w' ∧ LoR X.K w' σ' δ' ∧ dWl tc tb m B δ' w'.S, ⟨n, w, δ, rfl, .refl w, ok, lo, t⟩, ?_⟩
  rintro m σ' H' ⟨w', δ', rfl, l', ok', lo', h'⟩
  cases m with
  | zero => exact h'.elim
  | succ m =>
    refine ⟨w', δ', _, _, rfl, ok', lo', h', fun b w1 t1 l1 ok1 => cnd_ite ?_, (r.up l').eC lo'⟩
    have l01 := l'.trans l1
    cases b with
    | false => exact r.nx δ' σ' w1 t1 l01 ok1 (lo'.up l1)
    | true =>
      have rr := r.up l01
      refine ⟨fun σ2 H2 => ∃ (w' : Wd) (δ' : Lo), w'.H = H2 ∧ Le w w' ∧ Ok X.K w' ∧ LoR X.K w' σ2 δ' ∧ dWl tc tb m B δ' w'.S, fun σ2 H2 q => ⟨m, Nat.lt_succ_self m, q⟩, ?_⟩
      exact ⟨w1, δ', _, rfl, ok1, lo'.up l1, t1, ⟨fun δ4 σ4 w4 a b c d => ⟨w4, δ4, rfl, l01.trans b, c, d, a⟩, rr.rt, rr.nx, fun δ4 σ4 w4 a b c d => ⟨w4, δ4, rfl, l01.trans b, c, d, a⟩, rr.ex⟩⟩
end
end DL

set_option maxHeartbeats 4000000
namespace DL
open PySem PySem.Spec L2
/-! ## 8. What loops walk -/
def kpOf (S : Sto) : D → Sto → Prop
  | .m n => fun S' => S' n = S n
  | _ => fun _ => True
section
variable {K : PySem.W.Frag} {w : Wd} {p : Addr} {ds es : List D} {kp : Sto → Prop}
theorem SqL.uniq {H : Hp} {xs ys : List V} (h : SqL K H p xs) (g : SqL K H p ys) (r : ∀ zs, SqL K H p zs → zs = xs) : ys = xs := r ys g
/-- a list's reading is one: over a heap that is held -/
theorem rd_of {d : D} {v : V} (ok : Ok K w) (r : Rp K w.I w.α v d) (h : asR w.S d = some ds) :
    ∃ p, v = .ref p ∧ ∀ w', Lw w w' → Ok K w' → kpOf w.S d w'.S → ∃ vs, SqL K w'.H p vs ∧ RpL K w'.I w'.α vs ds := by
  cases d with
  | rol xs =>
    cases h
    obtain ⟨p, vs, rfl, hp, r⟩ := r.rol'
    exact ⟨p, rfl, fun w' l ok' _ => ⟨vs, ok'.sqL (SqL.le hp l.ii), r.upw l⟩⟩
  | lst xs =>
    cases h
    obtain ⟨p, vs, rfl, hp, r⟩ := r.lst'
    exact ⟨p, rfl, fun w' l ok' _ => ⟨vs, SqL.of (ok'.sub _ _ (l.ii _ _ hp)), r.upw l⟩⟩
  | m n =>
    obtain ⟨p, rfl, hp⟩ := r.m'
    refine ⟨p, rfl, fun w' l ok' k => ?_⟩
    have k : w'.S n = w.S n := k
    unfold asR at h
    cases e : w.S n with
    | none => simp [e] at h
    | some c =>
      cases c with
      | ins => simp [e] at h
      | lst xs =>
        simp only [e] at h
        cases h
        obtain ⟨q, vs, h1, h2, h3⟩ := ok'.celL (by rw [k]; exact e)
        rw [l.aa n p hp] at h1
        cases h1
        exact ⟨vs, SqL.of h2, h3⟩
  | _ => cases h
theorem walks_list (h : ∀ w', Lw w w' → Ok K w' → kp w'.S → ∃ vs, SqL K w'.H p vs ∧ RpL K w'.I w'.α vs ds) : Walks K w (Itl K p) ds kp := by
  refine ⟨fun w' i l ok k hi => ?_, fun w' l ok k => ?_, fun w' i x H' l ok k hi hy => ?_⟩
  · obtain ⟨vs, hv, r⟩ := h w' l ok k
    have hi' : i < vs.length := by rw [r.length]; exact hi
    exact ⟨vs, vs[i], hv, List.getElem?_eq_getElem hi'⟩
  · obtain ⟨vs, hv, r⟩ := h w' l ok k
    exact ⟨vs, hv, by rw [r.length]; exact Nat.le_refl _⟩
  · obtain ⟨vs, hv, r⟩ := h w' l ok k
    obtain ⟨rfl, hy⟩ := hy
    obtain ⟨d, hd, rd⟩ := r.get' (hy vs hv)
    exact ⟨w', rfl, .refl w', ok, rfl, d, hd, rd⟩
theorem walks_tup (h : ∀ w', Lw w w' → Ok K w' → kp w'.S → ∃ vs, SqT K w'.H p vs ∧ RpL K w'.I w'.α vs ds) : Walks K w (Itt K p) ds kp := by
  refine ⟨fun w' i l ok k hi => ?_, fun w' l ok k => ?_, fun w' i x H' l ok k hi hy => ?_⟩
  · obtain ⟨vs, hv, r⟩ := h w' l ok k
    have hi' : i < vs.length := by rw [r.length]; exact hi
    exact ⟨vs, vs[i], hv, List.getElem?_eq_getElem hi'⟩
  · obtain ⟨vs, hv, r⟩ := h w' l ok k
    exact ⟨vs, hv, by rw [r.length]; exact Nat.le_refl _⟩
  · obtain ⟨vs, hv, r⟩ := h w' l ok k
    obtain ⟨rfl, hy⟩ := hy
    obtain ⟨d, hd, rd⟩ := r.get' (hy vs hv)
    exact ⟨w', rfl, .refl w', ok, rfl, d, hd, rd⟩
/-- lo, lo + 1, .. -/
def rngD (lo : Int) : Nat → List D
  | 0 => []
  | n + 1 => .int lo :: rngD (lo + 1) n
theorem rngD_len : ∀ (n : Nat) (lo : Int), (rngD lo n).length = n
  | 0, _ => rfl
  | n + 1, lo => congrArg (· + 1) (rngD_len n (lo + 1))
theorem rngD_get : ∀ (n i : Nat) (lo : Int), i < n → (rngD lo n)[i]? = some (.int (lo + i))
  | n + 1, 0, lo, _ => by simp [rngD]
  | n + 1, i + 1, lo, h => by
    have q := rngD_get n i (lo + 1) (by omega)
    show (rngD (lo + 1) n)[i]? = _
    rw [q]
    congr 2
    omega
theorem walks_rng {lo : Int} {n : Nat} : Walks K w (Itr lo n) (rngD lo n) kp := by
  refine ⟨fun w' i l ok k hi => by rw [rngD_len] at hi; exact hi, fun w' l ok k => by rw [rngD_len]; exact Nat.le_refl _, fun w' i x H' l ok k hi hy => ?_⟩
  rw [rngD_len] at hi
  obtain ⟨rfl, rfl⟩ := hy
  exact ⟨w', rfl, .refl w', ok, rfl, _, rngD_get n i lo hi, .int _⟩
/-- lo, lo + c, .. -/
def rngC (lo c : Int) : Nat → List D
  | 0 => []
  | n + 1 => .int lo :: rngC (lo + c) c n
theorem rngC_len : ∀ (n : Nat) (lo c : Int), (rngC lo c n).length = n
  | 0, _, _ => rfl
  | n + 1, lo, c => congrArg (· + 1) (rngC_len n (lo + c) c)
theorem rngC_get : ∀ (n i : Nat) (lo c : Int), i < n → (rngC lo c n)[i]? = some (.int (lo + i * c))
  | n + 1, 0, lo, c, _ => by simp [rngC]
  | n + 1, i + 1, lo, c, h => by
    have q := rngC_get n i (lo + c) c (by omega)
    show (rngC (lo + c) c n)[i]? = _
    rw [q]
    congr 2
    have e : ((i + 1 : Nat) : Int) * c = (i : Int) * c + c := by
      rw [show ((i + 1 : Nat) : Int) = (i : Int) + 1 by omega, Int.add_mul, Int.one_mul]
    rw [e]
    omega
theorem walks_rngC {lo c : Int} {n : Nat} : Walks K w (Itc lo c n) (rngC lo c n) kp := by
  refine ⟨fun w' i l ok k hi => by rw [rngC_len] at hi; exact hi, fun w' l ok k => by rw [rngC_len]; exact Nat.le_refl _, fun w' i x H' l ok k hi hy => ?_⟩
  rw [rngC_len] at hi
  obtain ⟨rfl, rfl⟩ := hy
  exact ⟨w', rfl, .refl w', ok, rfl, _, rngC_get n i lo c hi, .int _⟩
/-- the signs of a text -/
def signD (x : Str) : List D := x.cps.toList.map fun c => .str ⟨#[c]⟩
theorem walks_str {x : Str} : Walks K w (Its x) (signD x) kp := by
  have hl : (signD x).length = x.cps.size := by unfold signD; rw [List.length_map, Array.length_toList]
  refine ⟨fun w' i l ok k hi => by rw [hl] at hi; exact hi, fun w' l ok k => by rw [hl]; exact Nat.le_refl _, fun w' i y H' l ok k hi hy => ?_⟩
  obtain ⟨rfl, c, hc, rfl⟩ := hy
  refine ⟨w', rfl, .refl w', ok, rfl, .str ⟨#[c]⟩, ?_, .str _⟩
  unfold signD
  rw [List.getElem?_map, Array.getElem?_toList, hc]
  rfl
def enumD (n : Nat) : List D → List D
  | [] => []
  | d :: ds => .tup [.int (n : Nat), d] :: enumD (n + 1) ds
theorem enumD_len : ∀ (ds : List D) (n : Nat), (enumD n ds).length = ds.length
  | [], _ => rfl
  | d :: ds, n => congrArg (· + 1) (enumD_len ds (n + 1))
theorem enumD_get : ∀ (ds : List D) (n i : Nat) (d : D), ds[i]? = some d → (enumD n ds)[i]? = some (.tup [.int ((n + i : Nat) : Int), d])
  | [], _, _, _, h => by simp at h
  | e :: ds, n, 0, d, h => by
    simp at h
    subst h
    rfl
  | e :: ds, n, i + 1, d, h => by
    have q := enumD_get ds (n + 1) i d (by simpa using h)
    show (enumD (n + 1) ds)[i]? = _
    rw [q, show n + 1 + i = n + (i + 1) by omega]
theorem lay_at {T : Addr} {vs : List V} {w' : Wd} (ok : Ok K w') (hT : w'.H T = none) (r : RpL K w'.I w'.α vs ds) : ∃ w2, w2.H = upd w'.H T (.tup vs) ∧ Le w' w2 ∧ Ok K w2 ∧ w2.S = w'.S ∧ Rp K w2.I w2.α (.ref T) (.tup ds) :=
  ⟨w'.lay T (.tup vs), rfl, .lay ok hT, ok.lay hT, rfl, .tup (SqT.of upd_same) (r.up (.lay ok hT))⟩
theorem walks_enum (h : ∀ w', Lw w w' → Ok K w' → kp w'.S → ∃ vs, SqL K w'.H p vs ∧ RpL K w'.I w'.α vs ds) : Walks K w (Ite K p) (enumD 0 ds) kp := by
  refine ⟨fun w' i l ok k hi => ?_, fun w' l ok k => ?_, fun w' i x H' l ok k hi hy => ?_⟩
  · obtain ⟨vs, hv, r⟩ := h w' l ok k
    rw [enumD_len] at hi
    have hi' : i < vs.length := by rw [r.length]; exact hi
    exact ⟨vs, vs[i], hv, List.getElem?_eq_getElem hi'⟩
  · obtain ⟨vs, hv, r⟩ := h w' l ok k
    exact ⟨vs, hv, by rw [r.length, enumD_len]; exact Nat.le_refl _⟩
  · obtain ⟨vs, hv, r⟩ := h w' l ok k
    obtain ⟨T, y, rfl, hT, rfl, hy⟩ := hy
    obtain ⟨d, hd, rd⟩ := r.get' (hy vs hv)
    obtain ⟨w2, e, l2, ok2, eS, rr⟩ := lay_at ok hT (RpL.cons (.int (i : Nat)) (.one rd))
    refine ⟨w2, e, l2, ok2, eS, _, ?_, rr⟩
    have q := enumD_get ds 0 i d hd
    rw [Nat.zero_add] at q
    exact q
def zipD : List D → List D → List D
  | a :: as, b :: bs => .tup [a, b] :: zipD as bs
  | _, _ => []
theorem zipD_len : ∀ (as bs : List D), (zipD as bs).length = min as.length bs.length
  | [], _ => by simp [zipD]
  | _ :: _, [] => by simp [zipD]
  | a :: as, b :: bs => by
    have q := zipD_len as bs
    simp only [zipD, List.length_cons, q]
    omega
theorem zipD_get : ∀ (as bs : List D) (i : Nat) (a b : D), as[i]? = some a → bs[i]? = some b → (zipD as bs)[i]? = some (.tup [a, b])
  | [], _, _, _, _, h, _ => by simp at h
  | _ :: _, [], _, _, _, _, h => by simp at h
  | x :: as, y :: bs, 0, a, b, h, g => by
    simp at h g
    subst h
    subst g
    rfl
  | x :: as, y :: bs, i + 1, a, b, h, g => by
    show (zipD as bs)[i]? = _
    exact zipD_get as bs i a b (by simpa using h) (by simpa using g)
theorem walks_zip {q : Addr} (h : ∀ w', Lw w w' → Ok K w' → kp w'.S → ∃ vs, SqL K w'.H p vs ∧ RpL K w'.I w'.α vs ds) (g : ∀ w', Lw w w' → Ok K w' → kp w'.S → ∃ vs, SqL K w'.H q vs ∧ RpL K w'.I w'.α vs es) : Walks K w (Itz K p q) (zipD ds es) kp := by
  refine ⟨fun w' i l ok k hi => ?_, fun w' l ok k => ?_, fun w' i x H' l ok k hi hy => ?_⟩
  · obtain ⟨vs, hv, r⟩ := h w' l ok k
    obtain ⟨us, hu, s⟩ := g w' l ok k
    rw [zipD_len] at hi
    have hi' : i < vs.length := by rw [r.length]; omega
    have hi2 : i < us.length := by rw [s.length]; omega
    exact ⟨vs, us, vs[i], us[i], hv, hu, List.getElem?_eq_getElem hi', List.getElem?_eq_getElem hi2⟩
  · obtain ⟨vs, hv, r⟩ := h w' l ok k
    obtain ⟨us, hu, s⟩ := g w' l ok k
    refine ⟨vs, us, hv, hu, ?_⟩
    rw [r.length, s.length, zipD_len]
    omega
  · obtain ⟨vs, hv, r⟩ := h w' l ok k
    obtain ⟨us, hu, s⟩ := g w' l ok k
    obtain ⟨T, x, y, rfl, hT, rfl, hx, hy⟩ := hy
    obtain ⟨d, hd, rd⟩ := r.get' (hx vs hv)
    obtain ⟨e, he, re⟩ := s.get' (hy us hu)
    obtain ⟨w2, e2, l2, ok2, eS, rr⟩ := lay_at ok hT (RpL.cons rd (.one re))
    exact ⟨w2, e2, l2, ok2, eS, _, zipD_get ds es i d e hd he, rr⟩
theorem walks_zipT {q : Addr} (h : ∀ w', Lw w w' → Ok K w' → kp w'.S → ∃ vs, SqT K w'.H p vs ∧ RpL K w'.I w'.α vs ds) (g : ∀ w', Lw w w' → Ok K w' → kp w'.S → ∃ vs, SqT K w'.H q vs ∧ RpL K w'.I w'.α vs es) : Walks K w (RZ.ItzT K p q) (zipD ds es) kp := by
  refine ⟨fun w' i l ok k hi => ?_, fun w' l ok k => ?_, fun w' i x H' l ok k hi hy => ?_⟩
  · obtain ⟨vs, hv, r⟩ := h w' l ok k
    obtain ⟨us, hu, s⟩ := g w' l ok k
    rw [zipD_len] at hi
    have hi' : i < vs.length := by rw [r.length]; omega
    have hi2 : i < us.length := by rw [s.length]; omega
    exact ⟨vs, us, vs[i], us[i], hv, hu, List.getElem?_eq_getElem hi', List.getElem?_eq_getElem hi2⟩
  · obtain ⟨vs, hv, r⟩ := h w' l ok k
    obtain ⟨us, hu, s⟩ := g w' l ok k
    refine ⟨vs, us, hv, hu, ?_⟩
    rw [r.length, s.length, zipD_len]
    omega
  · obtain ⟨vs, hv, r⟩ := h w' l ok k
    obtain ⟨us, hu, s⟩ := g w' l ok k
    obtain ⟨T, x, y, rfl, hT, rfl, hx, hy⟩ := hy
    obtain ⟨d, hd, rd⟩ := r.get' (hx vs hv)
    obtain ⟨e, he, re⟩ := s.get' (hy us hu)
    obtain ⟨w2, e2, l2, ok2, eS, rr⟩ := lay_at ok hT (RpL.cons rd (.one re))
    exact ⟨w2, e2, l2, ok2, eS, _, zipD_get ds es i d e hd he, rr⟩
end
/-! ### their rules -/
theorem PI.or {X : Cx} {tg e : Expr} {a b : TI} (h : PI X tg e a) (g : PI X tg e b) : PI X tg e fun σ H R => a σ H R ∨ b σ H R := ⟨fun pins s σ H R I q => by
  rcases q with q | q
  · exact h.run pins s σ H R I q
  · exact g.run pins s σ H R I q⟩
/-- for .. in x: a list, a tuple, a text -/
def iSeq (t : DE) : DI := fun δ S Q E => t δ S (fun d S1 => match d with
  | .tup ds => Q ds (fun _ => True) S1
  | .str x => Q (signD x) (fun _ => True) S1
  | _ => opt (asR S1 d) fun ds => Q ds (kpOf S1 d) S1) E
/-- what pyIter gives of a value -/
def rSeqI (K : PySem.W.Frag) : V → Hp → (It → Hp → Prop) → Prop := fun v H R => (∃ a xs, v = .ref a ∧ SqL K H a xs ∧ R (Itl K a) H) ∨ (∃ a xs, v = .ref a ∧ SqT K H a xs ∧ R (Itt K a) H) ∨ ∃ x, v = .str x ∧ R (Its x) H
theorem it_seq {X : Cx} {tg : Expr} {pins : List (Addr × Obj)} {s : Shared} {σ : L2.St} {H : Hp} {R : It → Hp → Prop} {x : V} {v : Value} (I : Inv X pins σ H s) (r : RelV x v) (h : rSeqI X.K x H R) : wpAny (model X.prog X.w) X.A (pyIter v) (PIE X pins σ tg R) X.xe s := by
  rcases h with ⟨a, xs, rfl, hq, q⟩ | ⟨a, xs, rfl, hq, q⟩ | ⟨x, rfl, q⟩
  · cases r
    obtain ⟨its, _, hp, _⟩ := I.list hq
    exact wpAny_pyIter_list hp.isList (pi_one (tk := s.toks) I _ (turn_list a _) ⟨_, Heap.get?_push_size _ rfl, rfl, rfl⟩ q)
  · cases r
    obtain ⟨its, _, hp, _⟩ := I.tuple hq
    exact wpAny_pyIter_tuple (show s.heap.IsTuple a its.toArray from hp) (pi_one (tk := s.toks) I _ (turn_tuple a _) ⟨_, Heap.get?_push_size _ rfl, rfl, rfl⟩ q)
  · obtain ⟨t, rfl⟩ := r
    by_cases ha : x.cps.all (· < 128) = true
    · exact wpAny_pyIter_ascii ha (pi_one (tk := s.toks) I _ (turn_str _ x t "str_ascii_iterator" (.inl rfl)) ⟨_, Heap.get?_push_size _ rfl, rfl, rfl⟩ q)
    · exact wpAny_pyIter_wide (Bool.eq_false_iff.mpr ha) (pi_one (tk := s.toks) I _ (turn_str _ x t "str_iterator" (.inr rfl)) ⟨_, Heap.get?_push_size _ rfl, rfl, rfl⟩ q)
section
variable {X : Cx} {W : WX} {tg e e2 e3 : Expr} {te : DE} {ta : DA} {p pos tpos : Pos} {elts : List Expr} {kk : Nat}
theorem di_seq (he : PE X e (toE X.K W te)) : PI X tg e (toI X.K W (iSeq te)) := by
  refine ⟨fun pins s σ H R I h => ?_⟩
  obtain ⟨w, δ, Qd, Ed, rfl, ok, lo, t, q, ec⟩ := h
  refine thn (he.run pins s σ _ (fun x H1 => rSeqI X.K x H1 R) I ⟨w, δ, _, Ed, rfl, ok, lo, t, fun d v w1 t1 l1 ok1 r1 => ?_, ec⟩) fun v s1 ⟨x, H1, I1, r1, hq⟩ => it_seq I1 r1 hq
  have ls : opt (asR w1.S d) (fun ds => Qd ds (kpOf w1.S d) w1.S) → rSeqI X.K v w1.H R := fun h => by
    obtain ⟨ds, hd, h⟩ := opt_of h
    obtain ⟨p, vs, rfl, hp, _⟩ := asR_sem ok1 r1 hd
    obtain ⟨p', e, st⟩ := rd_of ok1 r1 hd
    cases e
    exact .inl ⟨p, vs, rfl, hp, q ds _ w1 _ h l1 ok1 (walks_list st)⟩
  cases d with
  | tup ds =>
    obtain ⟨p, vs, rfl, hp, r⟩ := r1.tup'
    exact .inr (.inl ⟨p, vs, rfl, ok1.sqT hp, q ds _ w1 _ t1 l1 ok1 (walks_tup fun w' l ok' _ => ⟨vs, ok'.sqT (SqT.le hp l.ii), r.upw l⟩)⟩)
  | str x =>
    cases r1
    exact .inr (.inr ⟨x, rfl, q _ _ w1 _ t1 l1 ok1 walks_str⟩)
  | _ => exact ls t1
/-- range(j), range(i, j), range(i, j, c) -/
def iR1 (t : DA) : DI := fun δ S Q E => t δ S (fun ds S1 => match ds with
  | [.int j] => -(2 ^ 62) ≤ j ∧ j < 2 ^ 62 ∧ Q (rngD 0 j.toNat) (fun _ => True) S1
  | _ => False) E
def iR2 (t : DA) : DI := fun δ S Q E => t δ S (fun ds S1 => match ds with
  | [.int i, .int j] => (-(2 ^ 62) ≤ i ∧ i < 2 ^ 62 ∧ -(2 ^ 62) ≤ j ∧ j < 2 ^ 62) ∧ Q (rngD i (j - i).toNat) (fun _ => True) S1
  | _ => False) E
def iR3 (t : DA) : DI := fun δ S Q E => t δ S (fun ds S1 => match ds with
  | [.int i, .int j, .int c] => ∃ n, RgC i j c n ∧ Q (rngC i c n) (fun _ => True) S1
  | _ => False) E
theorem di_range1 (hg : Gl X "range") (hm : X.mg "range" = none) (ha : PA X [e] (toA X.K W ta)) (hs : starEach [e] X.env = [(false, eval e X.env)] := by rfl) : PI X tg (.Call (.Name "range" p) [e] [] pos) (toI X.K W (iR1 ta)) := simpI (pi_range1 hg hm ha hs) fun σ H R h => by
  obtain ⟨w, δ, Qd, Ed, rfl, ok, lo, t, q, ec⟩ := h
  refine ⟨w, δ, _, Ed, rfl, ok, lo, t, fun ds vs w1 t1 l1 ok1 r1 => ?_, ec⟩
  split at t1
  · obtain ⟨v, rfl, rr⟩ := r1.one'
    cases rr
    exact ⟨_, rfl, t1.1, t1.2.1, q _ _ w1 _ t1.2.2 l1 ok1 walks_rng⟩
  · exact t1.elim
theorem di_range2 (hg : Gl X "range") (hm : X.mg "range" = none) (ha : PA X [e, e2] (toA X.K W ta)) (hs : starEach [e, e2] X.env = [(false, eval e X.env), (false, eval e2 X.env)] := by rfl) (hs2 : starEach [e2] X.env = [(false, eval e2 X.env)] := by rfl) :
    PI X tg (.Call (.Name "range" p) [e, e2] [] pos) (toI X.K W (iR2 ta)) := simpI (pi_range2 hg hm ha hs hs2) fun σ H R h => by
  obtain ⟨w, δ, Qd, Ed, rfl, ok, lo, t, q, ec⟩ := h
  refine ⟨w, δ, _, Ed, rfl, ok, lo, t, fun ds vs w1 t1 l1 ok1 r1 => ?_, ec⟩
  split at t1
  · obtain ⟨v, u, rfl, ra, rb⟩ := r1.two'
    cases ra
    cases rb
    exact ⟨_, _, rfl, t1.1, q _ _ w1 _ t1.2 l1 ok1 walks_rng⟩
  · exact t1.elim
theorem di_range3 (hg : Gl X "range") (hm : X.mg "range" = none) (ha : PA X [e, e2, e3] (toA X.K W ta)) (hs : starEach [e, e2, e3] X.env = (false, eval e X.env) :: starEach [e2, e3] X.env := by rfl) (hpl : (backTo pos (starEach [e2, e3] X.env)).any (·.1) = false := by rfl) :
    PI X tg (.Call (.Name "range" p) [e, e2, e3] [] pos) (toI X.K W (iR3 ta)) := simpI (pi_range3 hg hm ha hs hpl) fun σ H R h => by
  obtain ⟨w, δ, Qd, Ed, rfl, ok, lo, t, q, ec⟩ := h
  refine ⟨w, δ, _, Ed, rfl, ok, lo, t, fun ds vs w1 t1 l1 ok1 r1 => ?_, ec⟩
  split at t1
  · cases r1 with
    | cons ra r2 =>
      obtain ⟨v, u, rfl, rb, rc⟩ := r2.two'
      cases ra
      cases rb
      cases rc
      obtain ⟨n, h1, h2⟩ := t1
      exact ⟨_, _, _, n, rfl, h1, q _ _ w1 _ h2 l1 ok1 walks_rngC⟩
  · exact t1.elim
/-- enumerate(list) -/
def iEnm (t : DA) : DI := fun δ S Q E => t δ S (fun ds S1 => match ds with
  | [d] => opt (asR S1 d) fun xs => Q (enumD 0 xs) (kpOf S1 d) S1
  | _ => False) E
theorem di_enum (hg : Gl X "enumerate") (hm : X.mg "enumerate" = none) (ha : PA X [e] (toA X.K W ta)) (hs : starEach [e] X.env = [(false, eval e X.env)] := by rfl) :
    PI X (.Tuple elts kk tpos) (.Call (.Name "enumerate" p) [e] [] pos) (toI X.K W (iEnm ta)) := simpI (pi_enum hg hm ha hs) fun σ H R h => by
  obtain ⟨w, δ, Qd, Ed, rfl, ok, lo, t, q, ec⟩ := h
  refine ⟨w, δ, _, Ed, rfl, ok, lo, t, fun ds vs w1 t1 l1 ok1 r1 => ?_, ec⟩
  split at t1
  · obtain ⟨v, rfl, rr⟩ := r1.one'
    obtain ⟨xs, hx, h⟩ := opt_of t1
    obtain ⟨p, us, rfl, hp, _⟩ := asR_sem ok1 rr hx
    obtain ⟨p', e, st⟩ := rd_of ok1 rr hx
    cases e
    exact ⟨p, us, rfl, hp, q _ _ w1 _ h l1 ok1 (walks_enum st)⟩
  · exact t1.elim
/-- zip of two lists, of two tuples -/
def iZp (t : DA) : DI := fun δ S Q E => t δ S (fun ds S1 => match ds with
  | [.tup a, .tup b] => Q (zipD a b) (fun _ => True) S1
  | [d, f] => opt (asR S1 d) fun xs => opt (asR S1 f) fun ys => Q (zipD xs ys) (fun S' => kpOf S1 d S' ∧ kpOf S1 f S') S1
  | _ => False) E
theorem di_zip (hg : Gl X "zip") (hm : X.mg "zip" = none) (ha : PA X [e, e2] (toA X.K W ta)) (hs : starEach [e, e2] X.env = (false, eval e X.env) :: starEach [e2] X.env := by rfl) (hpl : (backTo pos (starEach [e2] X.env)).any (·.1) = false := by rfl) :
    PI X (.Tuple elts kk tpos) (.Call (.Name "zip" p) [e, e2] [] pos) (toI X.K W (iZp ta)) := simpI (RZ.pi_zipA hg hm ha hs hpl) fun σ H R h => by
  obtain ⟨w, δ, Qd, Ed, rfl, ok, lo, t, q, ec⟩ := h
  refine ⟨w, δ, _, Ed, rfl, ok, lo, t, fun ds vs w1 t1 l1 ok1 r1 => ?_, ec⟩
  split at t1
  · obtain ⟨v, u, rfl, ra, rb⟩ := r1.two'
    obtain ⟨p1, v1, rfl, hp1, s1⟩ := ra.tup'
    obtain ⟨p2, v2, rfl, hp2, s2⟩ := rb.tup'
    exact ⟨p1, p2, v1, v2, rfl, .inr ⟨ok1.sqT hp1, ok1.sqT hp2, q _ _ w1 _ t1 l1 ok1 (walks_zipT (fun w' l ok' _ => ⟨v1, ok'.sqT (SqT.le hp1 l.ii), s1.upw l⟩) (fun w' l ok' _ => ⟨v2, ok'.sqT (SqT.le hp2 l.ii), s2.upw l⟩))⟩⟩
  · obtain ⟨v, u, rfl, ra, rb⟩ := r1.two'
    obtain ⟨xs, hx, h⟩ := opt_of t1
    obtain ⟨ys, hy, h⟩ := opt_of h
    obtain ⟨p1, v1, rfl, hp1, _⟩ := asR_sem ok1 ra hx
    obtain ⟨p1', e1, st1⟩ := rd_of ok1 ra hx
    cases e1
    obtain ⟨p2, v2, rfl, hp2, _⟩ := asR_sem ok1 rb hy
    obtain ⟨p2', e2, st2⟩ := rd_of ok1 rb hy
    cases e2
    exact ⟨p1, p2, v1, v2, rfl, .inl ⟨hp1, hp2, q _ _ w1 _ h l1 ok1 (walks_zip (fun w' l ok' k => st1 w' l ok' k.1) (fun w' l ok' k => st2 w' l ok' k.2))⟩⟩
  · exact t1.elim
end
end DL

set_option maxHeartbeats 4000000
namespace DL
open PySem PySem.Spec L2
/-! ## 9. Comprehensions -/
def wipeD (δ : Lo) : List Nat → Lo
  | [] => δ
  | v :: vs => (wipeD δ vs).set v none
theorem LoR.wipe {K : PySem.W.Frag} {w : Wd} {σ : L2.St} {δ : Lo} (h : LoR K w σ δ) : ∀ vs : List Nat, LoR K w (L2.wipe σ vs) (wipeD δ vs)
  | [] => h
  | v :: vs => (LoR.wipe h vs).non v
theorem wipe_at (σ : L2.St) (j : Nat) : ∀ vs : List Nat, (L2.wipe σ vs)[j]? = if j ∈ vs then (σ[j]?).map (fun _ => none) else σ[j]?
  | [] => by simp [L2.wipe]
  | v :: vs => by
    have ih := wipe_at σ j vs
    have hl := wipe_length σ vs
    show ((L2.wipe σ vs).set v none)[j]? = _
    by_cases hj : v = j
    · subst hj
      by_cases hb : v < σ.length
      · rw [List.getElem?_set_self (by rw [hl]; exact hb), if_pos (List.mem_cons_self ..), List.getElem?_eq_getElem hb]
        rfl
      · rw [List.getElem?_eq_none (by rw [List.length_set, hl]; omega), List.getElem?_eq_none (by omega)]
        simp
    · rw [List.getElem?_set_ne hj, ih]
      have e : (j ∈ v :: vs) ↔ j ∈ vs := by
        rw [List.mem_cons]
        exact ⟨fun z => z.elim (fun y => absurd y.symm hj) id, .inr⟩
      by_cases h : j ∈ vs
      · rw [if_pos h, if_pos (e.mpr h)]
      · rw [if_neg h, if_neg fun z => h (e.mp z)]
theorem wipe_idem (σ : L2.St) (vs : List Nat) : L2.wipe (L2.wipe σ vs) vs = L2.wipe σ vs := by
  apply List.ext_getElem?
  intro j
  rw [wipe_at, wipe_at]
  by_cases h : j ∈ vs
  · rw [if_pos h, if_pos h]
    cases σ[j]? <;> rfl
  · rw [if_neg h, if_neg h]
theorem wipe_set (τ : L2.St) {i : Nat} {x : Option V} {vs : List Nat} (h : i ∈ vs) : L2.wipe (τ.set i x) vs = L2.wipe τ vs := by
  apply List.ext_getElem?
  intro j
  rw [wipe_at, wipe_at]
  by_cases hj : j ∈ vs
  · rw [if_pos hj, if_pos hj, List.getElem?_set]
    by_cases hij : i = j
    · rw [if_pos hij]
      subst hij
      by_cases hi : i < τ.length
      · rw [if_pos hi, List.getElem?_eq_getElem hi]
        rfl
      · rw [if_neg hi, List.getElem?_eq_none (by omega)]
    · rw [if_neg hij]
  · rw [if_neg hj, if_neg hj, List.getElem?_set_ne (fun z : i = j => hj (by rw [← z]; exact h))]
/-- a target whose names are the block's own -/
def SemGW (K : PySem.W.Frag) (vs : List Nat) (g : TG) (f : DG) : Prop := ∀ (w : Wd) (v : V) (d : D) (σ : L2.St) (δ : Lo) (Qd : Lo → Sto → Prop) (Q : L2.St → Hp → Prop), Ok K w → Rp K w.I w.α v d → LoR K w σ δ → f d δ w.S Qd →
  (∀ δ' σ' w', Qd δ' w'.S → Le w w' → Ok K w' → LoR K w' σ' δ' → L2.wipe σ' vs = L2.wipe σ vs → Q σ' w'.H) → g v σ w.H Q
theorem sgw_gN {K : PySem.W.Frag} {i : Nat} {vs : List Nat} (hi : i ∈ vs) : SemGW K vs (gName i) (gN i) := fun w v d σ δ Qd Q ok r lo h q => q _ _ w h (.refl w) ok (lo.set i r) (wipe_set σ hi)
theorem sgw_names {K : PySem.W.Frag} {w : Wd} {Q : L2.St → Hp → Prop} {Qd : Lo → Sto → Prop} {nv : List Nat} {τ : L2.St} (ok : Ok K w) (q : ∀ δ' σ' w', Qd δ' w'.S → Le w w' → Ok K w' → LoR K w' σ' δ' → L2.wipe σ' nv = L2.wipe τ nv → Q σ' w'.H) :
    ∀ (is : List Nat) (ds : List D) (vs : List V) (σ : L2.St) (δ δ' : Lo), (∀ i ∈ is, i ∈ nv) → L2.wipe σ nv = L2.wipe τ nv → RpL K w.I w.α vs ds → LoR K w σ δ → setsD is ds δ = some δ' → Qd δ' w.S → gNames is vs σ w.H Q
  | [], [], _, σ, δ, _, _, hw, r, lo, h, hq => by
    cases r
    cases h
    exact ⟨rfl, q _ _ w hq (.refl w) ok lo hw⟩
  | i :: is, d :: ds, _, σ, δ, δ', hi, hw, r, lo, h, hq => by
    cases r with
    | cons r1 r2 => exact ⟨_, _, rfl, sgw_names ok q is ds _ _ _ _ (fun j hj => hi j (List.mem_cons_of_mem _ hj)) ((wipe_set σ (hi i (List.mem_cons_self ..))).trans hw) r2 (lo.set i r1) h hq⟩
  | [], _ :: _, _, _, _, _, _, _, _, _, h, _ => by cases h
  | _ :: _, [], _, _, _, _, _, _, _, _, h, _ => by cases h
theorem sgw_gT {K : PySem.W.Frag} {is : List Nat} {n : Nat} {vs : List Nat} (hn : is.length = n) (hi : ∀ i ∈ is, i ∈ vs) : SemGW K vs (gTup K n (gNames is)) (gT is) := fun w v d σ δ Qd Q ok r lo h q => by
  cases d with
  | tup ds =>
    obtain ⟨δ', h1, h2⟩ := opt_of h
    obtain ⟨p, us, rfl, hp, rr⟩ := r.tup'
    exact ⟨p, us, rfl, ok.sqT hp, by rw [rr.length, setsD_len h1, hn], sgw_names ok q is ds us σ δ δ' hi rfl rr lo h1 h2⟩
  | _ => exact h.elim
/-- an object that stands beside the world -/
structure Bs (w : Wd) (p : Addr) : Prop where
  h : w.H p ≠ none
  i : w.I p = none
  a : ∀ n, w.S n ≠ none → w.α n ≠ some p
section
variable {K : PySem.W.Frag} {w w1 w' : Wd} {p : Addr} {o : HO}
theorem Bs.same (b : Bs w p) (l : Le w w') : w'.H p = w.H p := by
  cases e : w.H p with
  | none => exact absurd e b.h
  | some o => exact l.hh p o e b.a
theorem Bs.up (b : Bs w p) (l : Le w w') : Bs w' p := by
  refine ⟨by rw [b.same l]; exact b.h, ?_, fun n hs hα => ?_⟩
  · cases e : w'.I p with
    | none => rfl
    | some u =>
      rcases l.newI p (by rw [e]; simp) with z | z | ⟨n, hs, z⟩
      · exact absurd b.i z
      · exact absurd z b.h
      · exact absurd z (b.a n hs)
  · rcases l.newA n p hα with z | ⟨_, z⟩
    · rcases l.dom n hs with y | y
      · exact b.a n y z
      · rw [y] at z; cases z
    · exact b.h z
theorem Bs.ok (b : Bs w p) (ok : Ok K w) : Ok K (w.side (upd w.H p o)) := by
  refine ⟨fun q u e => ?_, fun n c e => ?_, ok.inj, ok.fin⟩
  · have hq : q ≠ p := fun z => by
      have e : w.I q = some u := e
      rw [z, b.i] at e; cases e
    exact (upd_ne hq).trans (ok.sub q u e)
  · obtain ⟨q, u, h1, h2, h3, h4⟩ := ok.cel n c e
    have hq : q ≠ p := fun z => b.a n (by have e : w.S n = some c := e; rw [e]; simp) (by rw [← z]; exact h1)
    exact ⟨q, u, h1, (upd_ne hq).trans h2, h3, h4⟩
theorem Bs.put (b : Bs w p) : Bs (w.side (upd w.H p o)) p := ⟨by show upd w.H p o p ≠ none; rw [upd_same]; simp, b.i, b.a⟩
theorem Le.put (l : Le w1 w) (h : w1.H p = none) : Le w1 (w.side (upd w.H p o)) := by
  refine ⟨l.ii, l.aa, fun q u e hq => ?_, fun q e => ?_, l.newI, l.newA, l.dom⟩
  · have hp : q ≠ p := fun z => by rw [z, h] at e; cases e
    exact (upd_ne hp).trans (l.hh q u e hq)
  · show upd w.H p o q ≠ none
    by_cases hq : q = p
    · rw [hq, upd_same]; simp
    · rw [upd_ne hq]; exact l.there q e
end
def W0 : WX := fun _ _ _ _ => False
theorem eC0 {K : PySem.W.Frag} {σ : L2.St} {w : Wd} : eC K W0 σ w (fun _ _ => False) := fun _ _ _ h => h.elim
def dYes : DT := fun _ S Q _ => Q true S
theorem dts_nil {X : Cx} {W : WX} : PTs X [] (toT X.K W dYes) := ⟨fun pins s σ H Q I h => pts_nil.run pins s σ H Q I (by
  obtain ⟨w, δ, Qd, Ed, rfl, ok, lo, t, q, _⟩ := h
  exact q true w t (.refl w) ok)⟩
theorem dts_one {X : Cx} {W : WX} {c : Expr} {t : DT} (h : PT X c (toT X.K W t)) : PTs X [c] (toT X.K W t) := pts_one h
/-- the turns: the items left, what is made -/
def dLcL (kp : Sto → Prop) (g : DG) (c : DT) (elt : DE) (δ : Lo) : List D → List D → Sto → (List D → Sto → Prop) → Prop
  | [], acc, S, Q => kp S ∧ Q acc S
  | d :: ds, acc, S, Q => kp S ∧ g d δ S fun δ1 S1 => c δ1 S1 (fun b S2 => cnd b (elt δ1 S2 (fun y S3 => acc.length < sizeLine ∧ dLcL kp g c elt δ ds (acc ++ [y]) S3 Q) (fun _ _ => False)) (dLcL kp g c elt δ ds acc S2 Q)) (fun _ _ => False)
def dLc (src : DI) (g : DG) (c : DT) (elt : DE) (vs : List Nat) : DA := fun δ S Q E => src δ S (fun ds kp S1 => dLcL kp g c elt (wipeD δ vs) ds [] S1 Q) E
theorem dLcL_kp {kp : Sto → Prop} {g : DG} {c : DT} {elt : DE} {δ : Lo} {ds acc : List D} {S : Sto} {Q : List D → Sto → Prop} (h : dLcL kp g c elt δ ds acc S Q) : kp S := by
  cases ds with
  | nil => exact h.1
  | cons d ds => exact h.1
theorem toF_lc {K : PySem.W.Frag} {W : WX} {src : DI} {g : TG} {f : DG} {c : DT} {elt : DE} {vs : List Nat} (sg : SemGW K vs g f) (σ : L2.St) (H : Hp) (Q : VK) (h : toF K W (dLc src f c elt vs) σ H Q) : tLc (toI K W src) g (toT K W0 c) (toE K W0 elt) vs σ H Q := by
  obtain ⟨w, δ, Qd, Ed, rfl, ok, lo, t, q, ec⟩ := h
  refine ⟨w, δ, _, Ed, rfl, ok, lo, t, fun ds kp w1 J t1 l1 ok1 wk A hA => ?_, ec⟩
  obtain ⟨f1, f2, f3, f4, f5⟩ := fresh_side (o := .lst []) l1 ok1 hA
  have b0 : Bs (w1.side (upd w1.H A (.lst []))) A := ⟨by show upd w1.H A (.lst []) A ≠ none; rw [upd_same]; simp, f4, f5⟩
  refine ⟨fun i m H' => m = ds.length - i ∧ i ≤ ds.length ∧ ∃ (w' : Wd) (acc : List D) (vacc : List V), w'.H = H' ∧ Le w1 w' ∧ Ok K w' ∧ Bs w' A ∧ w'.H A = some (.lst vacc) ∧ RpL K w'.I w'.α vacc acc ∧ dLcL kp f c elt (wipeD δ vs) (ds.drop i) acc w'.S Qd,
    ⟨ds.length, by simp, Nat.zero_le _, w1.side (upd w1.H A (.lst [])), [], [], rfl, .side (HpLe.upd hA), f2, b0, upd_same, .nil, t1⟩, ?_⟩
  rintro i m H' ⟨rfl, hi, w', acc, vacc, rfl, l', ok', b', hA', r', h'⟩
  have low : LoR K w' (L2.wipe σ vs) (wipeD δ vs) := ((lo.up l1).up l').wipe vs
  by_cases hlt : i < ds.length
  · refine .inr ⟨wk.go w' i l'.lw ok' (dLcL_kp h') hlt, fun H2 => ∃ (w' : Wd) (acc : List D) (vacc : List V), w'.H = H2 ∧ Le w1 w' ∧ Ok K w' ∧ Bs w' A ∧ w'.H A = some (.lst vacc) ∧ RpL K w'.I w'.α vacc acc ∧ dLcL kp f c elt (wipeD δ vs) (ds.drop (i + 1)) acc w'.S Qd,
      fun H2 z => ⟨ds.length - (i + 1), by omega, rfl, hlt, z⟩, fun x H2 hy => ?_⟩
    obtain ⟨w2, rfl, l2, ok2, e2, d, hd, rd⟩ := wk.yld w' i x H2 l'.lw ok' (dLcL_kp h') hlt hy
    rw [List.drop_eq_getElem_cons hlt] at h'
    have hd' : ds[i] = d := by
      rw [List.getElem?_eq_getElem hlt] at hd
      exact Option.some.inj hd
    rw [hd'] at h'
    obtain ⟨_, h'⟩ := h'
    rw [← e2] at h'
    refine sg w2 x d _ _ _ _ ok2 rd (low.up l2) h' fun δ3 σ3 w3 a3 l3 ok3 lo3 ew => ⟨ew.trans (wipe_idem σ vs), ?_⟩
    refine ⟨w3, δ3, _, _, rfl, ok3, lo3, a3, fun b w4 a4 l4 ok4 => cnd_ite ?_, eC0⟩
    have l14 : Le w' w4 := (l2.trans l3).trans l4
    cases b with
    | true =>
      refine ⟨w4, δ3, _, _, rfl, ok4, lo3.up l4, a4, fun y v w5 a5 l5 ok5 r5 => ?_, eC0⟩
      obtain ⟨hz, a5⟩ := a5
      have l15 := l14.trans l5
      have b5 := b'.up l15
      refine ⟨vacc, (b'.same l15).trans hA', by rw [r'.length]; exact hz, w5.side (upd w5.H A (.lst (vacc ++ [v]))), acc ++ [y], vacc ++ [v], rfl, (l'.trans l15).put hA, b5.ok ok5, b5.put, upd_same, (r'.up l15).append (.one r5), a5⟩
    | false => exact ⟨w4, acc, vacc, rfl, l'.trans l14, ok4, b'.up l14, (b'.same l14).trans hA', r'.up l14, a4⟩
  · have e : i = ds.length := by omega
    subst e
    rw [List.drop_length] at h'
    refine .inl ⟨wk.stop w' l'.lw ok' h'.1, q acc vacc A w' h'.2 (l1.trans l') ok' r' hA' f3 b'.i b'.a⟩
section
variable {X : Cx} {W : WX} {tg iter elt : Expr} {ifs : List Expr} {scope : Scope} {own : List (Str × Nat)} {pos : Pos} {src : DI} {g : TG} {f : DG} {c : DT} {te : DE}
theorem df_lc (hc : X.calm = true) (hN : X.N.Nodup) (hi : PI X tg iter (toI X.K W src)) (ok : BlkOk X.N X.env.scope scope own) (sg : SemGW X.K (own.map (·.2)) g f)
    (hg : ∀ (s : Shared) (H : Hp) (C : Addr) (cl : List (Str × Addr)) (fp : List Addr), PG (X.blk s H scope (compEnvC scope cl C X.env) fp) tg g) (ht : ∀ (s : Shared) (H : Hp) (C : Addr) (cl : List (Str × Addr)) (fp : List Addr), PTs (X.blk s H scope (compEnvC scope cl C X.env) fp) ifs (toT X.K W0 c))
    (he : ∀ (s : Shared) (H : Hp) (C : Addr) (cl : List (Str × Addr)) (fp : List Addr), PE (X.blk s H scope (compEnvC scope cl C X.env) fp) elt (toE X.K W0 te)) (hs : ∀ x, foldedSetIterable iter X.env x = pure x := by intro _; rfl) :
    PE X (.ListComp elt [⟨tg, iter, ifs, 0⟩] scope pos) (toF X.K W (dLc src f c te (own.map (·.2)))) := pimp (pe_lc hc hN hi ok hg ht he hs) (toF_lc sg)
/-- y = [..]: frozen; a cell -/
theorem fz_F {K : PySem.W.Frag} {ta : DA} (σ : L2.St) (H : Hp) (Q : VK) (h : toE K W (dFz ta) σ H Q) : toF K W ta σ H Q := by
  obtain ⟨w, δ, Qd, Ed, rfl, ok, lo, t, q, ec⟩ := h
  refine ⟨w, δ, _, Ed, rfl, ok, lo, t, fun xs vs p w1 t1 l1 ok1 r1 hp h0 hI hn => ?_, ec⟩
  refine q (.lst xs) (.ref p) ⟨upd w1.I p (.lst vs), w1.α, w1.S, w1.H⟩ t1 ?_ (ok1.know hp hI hn) (.lst upd_same (r1.le (HpLe.upd hI) fun _ _ z => z))
  refine l1.newly (K := K) h0 (HpLe.upd hI) (fun q' z => ?_) (fun _ _ z => z) (fun _ _ z => .inl z) fun _ z => .inl z
  by_cases hq : q' = p
  · exact .inr hq
  · rw [upd_ne hq] at z; exact .inl z
theorem new_F {K : PySem.W.Frag} {ta : DA} (σ : L2.St) (H : Hp) (Q : VK) (h : toE K W (dNew ta) σ H Q) : toF K W ta σ H Q := by
  obtain ⟨w, δ, Qd, Ed, rfl, ok, lo, t, q, ec⟩ := h
  refine ⟨w, δ, _, Ed, rfl, ok, lo, t, fun xs vs p w1 t1 l1 ok1 r1 hp h0 hI hn => ?_, ec⟩
  obtain ⟨n, hα, hS⟩ := ok1.free
  have up : ∀ k q, w1.α k = some q → (if k = n then some p else w1.α k) = some q := fun k q e => by
    have hk : k ≠ n := fun z => by rw [z, hα] at e; cases e
    rw [if_neg hk]; exact e
  refine q (.m n) (.ref p) ⟨w1.I, fun k => if k = n then some p else w1.α k, put w1.S n (.lst xs), w1.H⟩ (t1 n hS) ?_ (ok1.grip hp hI hα hn ⟨vs, rfl, r1.le (fun _ _ z => z) up⟩) (.m (if_pos rfl))
  refine l1.newly (K := K) h0 (fun _ _ z => z) (fun _ z => .inl z) up (fun k q' z => ?_) fun k z => ?_
  · have z : (if k = n then some p else w1.α k) = some q' := z
    by_cases hk : k = n
    · rw [if_pos hk] at z
      cases z
      rw [hk]
      exact .inr ⟨hα, rfl⟩
    · rw [if_neg hk] at z
      exact .inl z
  · have z : put w1.S n (.lst xs) k ≠ none := z
    by_cases hk : k = n
    · rw [hk]; exact .inr hα
    · rw [put_ne hk] at z
      exact .inl z
theorem asg_mono {i : Nat} {t t' : TE} (f : ∀ σ H Q, t' σ H Q → t σ H Q) (D : Ends) (σ : L2.St) (H : Hp) (h : tAsg t' (gName i) D σ H) : tAsg t (gName i) D σ H := f _ _ _ h
theorem asg_set {K : PySem.W.Frag} {i : Nat} {t : DE} (D : Ends) (σ : L2.St) (H : Hp) (h : toS K W (dSet i t) D σ H) : tAsg (toE K W t) (gName i) D σ H := by
  obtain ⟨w, δ, B, rfl, ok, lo, t, r⟩ := h
  exact ⟨w, δ, _, _, rfl, ok, lo, t, fun d v w1 a b c f => r.nx _ _ w1 a b c ((lo.up b).set i f), r.eC lo⟩
/-- the rule of y = [.. for ..], by the rule of the kit -/
theorem ds_setLc {st : Stmt} {i : Nat} {vs : List Nat} {t : DE} (hs : PS X st (tAsg (tLc (toI X.K W src) g (toT X.K W0 c) (toE X.K W0 te) vs) (gName i))) (sg : SemGW X.K vs g f) (hf : ∀ σ H Q, toE X.K W t σ H Q → toF X.K W (dLc src f c te vs) σ H Q) : PS X st (toS X.K W (dSet i t)) :=
  simp' hs fun D σ H h => asg_mono (fun σ H Q q => toF_lc sg σ H Q (hf σ H Q q)) D σ H (asg_set D σ H h)
end
end DL

set_option maxHeartbeats 4000000
namespace DLX
open PySem PySem.Spec PySem.W L2 NdefX
/-! ## The __init__ of an error of one's own that begins with super().__init__(..) -/
section
variable {prog : Program} {w : World} {A : Around} {E : Value → Shared → Prop} {h : Heap} {g : Array GenState} {d : Drawn} {t : Nat} {os : OsState}
/-- the bound built-in __init__ is called -/
theorem call_mw {u e t0 C N : Addr} {nm q : Str} {bs bm : List Value} {hdct : Bool} {sn : List Str} {sub : List Value} {ab : Bool} {col : Option Bool} {dd : Option Addr} {k0 k1 k2 k3 k5 : Option Value} {ws : List Value} {Q : Value → Shared → Prop}
    (hC : h.get? C = some (excClassObj nm q C N bs bm hdct sn sub ab col dd k0 k1 k2 k3 k5 "ValueError.__new__")) (he : h.get? e = some (HandSPX.excO C t0)) (hu : h.get? u = some (kxs_mw "ValueError.__init__" e)) (hz : ws.length ≤ sizeLine)
    (hq : ∀ h' t1, (∀ b o, b ≠ e → h.get? b = some o → h'.get? b = some o) → h'.get? e = some (HandSPX.excO C t1) → Q .none ⟨h', g, d, t, os⟩) :
    wpAny (model prog w) A (call (.ref u) ws) Q E ⟨h, g, d, t, os⟩ := by
  have FB := F.excBase_ValueError
  refine wpAny_call (codeAny_of_tree ?_)
  show wpAny (model prog w) A.in1 (callAny (Value.ref u) { pos := ws, kw := [] }) _ _ _
  unfold callAny
  refine wpAny_bind (wpAny_load hu ?_)
  have ty : (Value.type "method-wrapper" == Value.type "method" || Value.type "method-wrapper" == Value.type "builtin_function_or_method" || Value.type "method-wrapper" == Value.type "method-wrapper") = true := by decide
  simp only [kxs_mw, ty, if_true]
  refine KFB.if_so (by decide) (wpAny_bind (check_bound_init FB.toExcCallFacts hC he rfl ?_))
  refine wpAny_bind (wpAny_pure (wpAny_pure ⟨plainId_quiet FB.init.plain _, codeAny_builtin FB.initEntry ?_⟩))
  exact exc_init_tree (t0 := t0) (cls := .ref C) (dv := none) (c2 := .none) (c3 := .none) (b4 := .bool false) he hz fun h' k e' _ => hq h' _ k e'
end
/-- what the written part says of such a class and of its __init__ -/
structure SupC (P : Program) (K : Frag) (mg : Str → Option Value) (C cc : Addr) (F : NF) : Prop where
  oex : OexC K C
  cell : ∃ ccl ccd ccs, K.lookup cc = some ⟨ccl, ccd, .cell (some (.ref C)), ccs⟩
  code : codeIn K (.ref F.c) F.qual = true
  file : ∃ (vs : Array Value) (file : Str) (tf : Tok) (c1 : Value) (c2 : Option Addr) (c3 : Array (Option Value)), K.lookup F.c = some ⟨c1, c2, .fields vs, c3⟩ ∧ vs[2]? = some (.str file tf) ∧ ((P.main.file : Str) == file) = true
  sup : ks_superIn K C C "__init__" = some (some (.builtin "ValueError.__init__"))
  self : mroIn K C (.ref C) = some true
  ve : subIn K (.ref C) (.type "ValueError") = some true
  third : nsIn K cStatics "thirdparty.any" = some none
  noS : mg "super" = none
  top : (P.main.scope.names.lookup ("super" : Str)).isSome = false
section
variable {CX : CXT} {P : Program} {w : World} {K : Frag} {mg : Str → Option Value} {base : Heap} {N ps : List Str} {F : NF} {f cc C : Addr} {k : Nat} {sp : Sp} {oc kV doc pm ctv : Value} {od an : Option Addr} {osl : Array (Option Value)}
  {p0 p1 p2 p3 p4 : Pos} {e : Expr} {es : List Expr} {rest : List Stmt} {ar : Arg} {pl : Env → Sem Bool}
theorem sup_ok (T : SupC P K mg C cc F) (lk : K.lookup f = some ⟨oc, od, .func (fnX F.name F.qual F.params F.body F.scope F.cl .none kV doc pm an (.ref F.c) ctv), osl⟩) (hcl : F.cl = [(("__class__" : Str), cc)]) (S : NScope N ps ["__class__"] F.scope)
    (hbody : F.body = .Expr (.Call (.Attribute (.Call (.Name "super" p0) [] [] p1) "__init__" p2) (e :: es) [] p3) p4 :: rest) (har : (F.params.posonlyargs ++ F.params.args).head? = some ar) (har2 : ps.head? = some ar.arg)
    (hks : F.scope.names.lookup ("super" : Str) = some .globalImplicit) (len : ∀ vs H Q E, sp vs H Q E → vs.length = ps.length)
    (hst : ∀ env : Env, starEach (e :: es) env = (false, eval e env) :: starEach es env) (hpl : ∀ env : Env, (backTo p3 (starEach es env)).any (·.1) = false)
    (hev : ∀ env : Env, eval (.Call (.Attribute (.Call (.Name "super" p0) [] [] p1) "__init__" p2) (e :: es) [] p3) env = (do
      let ov ← attributeBase (.Call (.Name "super" p0) [] [] p1) "__init__" env (eval (.Call (.Name "super" p0) [] [] p1) env)
      standAt p2.atName
      let (f, first) ← holding [ov] (getMethod ov "__init__" (pl env))
      callWith p3 f first (backTo p3 (starEach (e :: es) env)) []))
    (hsw : ∀ env : Env, swapsWith (.Call (.Attribute (.Call (.Name "super" p0) [] [] p1) "__init__" p2) (e :: es) [] p3) none p4.line env = pure false)
    (hrd : ∀ (A : Around) (outer : List Env) (s : Shared) (H : Hp) (vs : List V) (Q : VK) (E : XK), sp vs H Q E → ∃ (ta : TA) (tr : TS) (x : Addr) (ws : List V), vs = .ref x :: ws ∧ H x = some (exo x C none) ∧
      PA (ncx CX P w K mg base N F f A outer s H E) (e :: es) ta ∧ PSs (ncx CX P w K mg base N F f A outer s H E) rest tr ∧ ta (startF N vs [some (.ref C)]) H (fun us H1 => H1 = H ∧ us.length ≤ 1000) ∧
      tr { nx := fun _ H' => Q .non H', rt := Q } (startF N vs [some (.ref C)]) H) :
    FnOk P w K mg base CX (k + 1) f (fnX F.name F.qual F.params F.body F.scope F.cl .none kV doc pm an (.ref F.c) ctv) ps sp := by
  refine ⟨len, fun A outer s H args us vs Q E hr e0 hbi r hsp => ?_⟩
  have KX : K.In s.heap := e0.mod.kin.keeps fun b o z => (e0.bs b o z).1
  have lim : s.heap.NoLimit := e0.mod.nolimit.keeps fun b o z => (e0.bs b o z).1
  have hl := len _ _ _ _ hsp
  obtain ⟨ccl, ccd, ccs, hcc⟩ := T.cell
  obtain ⟨fvs, file, tf, c1, c2, c3, hfc, hf2, hff⟩ := T.file
  obtain ⟨ta, tr, x, ws, hvs, hx, hpa, hps, hta, htr⟩ := hrd A outer s H vs Q E hsp
  refine ks_codeAny_call_defAt (body := F.body) (fd := fnX F.name F.qual F.params F.body F.scope F.cl .none kV doc pm an (.ref F.c) ctv) hr.depth (KX _ _ lk) rfl lim (codeRec_of KX T.code) rfl hbi S.nocell
    (fun ⟨n, _⟩ hy => S.par n (List.of_mem_zip hy).1) (fun h₁ hns kp => ?_) S.co S.gen S.kind
  have CA : CellsAt F.cl ["__class__"] [some (.ref C)] s.heap H := by
    have q := e0.bs cc _ (e0.mod.kin _ _ hcc)
    refine ⟨rfl, fun y c hy => ?_, fun y z c h1 h2 => ?_, fun i y hi => ?_⟩
    · rw [hcl, List.lookup_cons] at hy
      split at hy
      · cases hy
        exact ⟨q.2, _, _, q.1, rfl⟩
      · cases hy
    · rw [hcl, List.lookup_cons] at h1 h2
      split at h1
      · rename_i e1
        split at h2
        · rename_i e2
          rw [beq_iff_eq.mp e1, beq_iff_eq.mp e2]
        · cases h2
      · cases h1
    · cases i with
      | zero =>
        cases hi
        refine ⟨cc, by rw [hcl]; rfl, fun v hv => ?_⟩
        cases hv
        exact ⟨.ref C, rfl, _, q.1, rfl⟩
      | succ i => cases hi
  have I0 : Inv (ncx CX P w K mg base N F f A outer s H E) [] (startF N vs [some (.ref C)]) H { s with heap := h₁, toks := s.toks + (ps.zip us).length } := inv_startN S hr.hd e0 hl r CA hns kp
  show PySem.wpAt (model P w) (A.deeper (envF F f s.heap.objs.size)) (.func F.body (envF F f s.heap.objs.size)) (execs F.body (envF F f s.heap.objs.size)) _ _ _
  have fin : ∀ {fl : Flow} {s' : Shared}, SP (ncx CX P w K mg base N F f A outer s H E) [] { nx := fun _ H' => Q .non H', rt := Q } fl s' → CR CX outer P w H s Q E (.ok (.ret (match fl with | .ret v => v | _ => .none))) s' := by
    intro fl s' hs
    cases fl with
    | ret u =>
      obtain ⟨v, σ', H', J, rv, q⟩ := hs
      exact ⟨v, H', J.os, J.bare, J.base, J.hok, rv, q⟩
    | next =>
      obtain ⟨σ', H', J, q⟩ := hs
      exact ⟨.non, H', J.os, J.bare, J.base, J.hok, rfl, q⟩
    | brk =>
      obtain ⟨_, _, _, q⟩ := hs
      exact q.elim
    | cont =>
      obtain ⟨_, _, _, q⟩ := hs
      exact q.elim
  rw [show execs F.body (envF F f s.heap.objs.size) = execs (.Expr (.Call (.Attribute (.Call (.Name "super" p0) [] [] p1) "__init__" p2) (e :: es) [] p3) p4 :: rest) (envF F f s.heap.objs.size) from by rw [hbody]]
  obtain ⟨hp, gn, dr, tk, os⟩ := s
  refine ks_wpAt_execs_cons (ks_wpAt_Expr_any (ks_wpAt_MethodCall (pl := pl _) ?_ (hev _)) ?_ (hsw _))
  · refine ks_wpAt_super_base (f := f) (cc := F.c) (fd := fnX F.name F.qual F.params F.body F.scope F.cl .none kV doc pm an (.ref F.c) ctv) hks (S.frk "__class__" (by simp)) (by decide) rfl (kp _ _ (KX _ _ lk)) rfl har rfl (kp _ _ (KX _ _ hfc)) rfl hf2 hff T.top ?_
    obtain ⟨mb, hb1, hb2⟩ := I0.mod.blt
    refine ks_loadName_global S.kind hks (Calls.loadGlobal_builtin (I0.mod.glob.keeps I0.bk) T.noS (hb1.keeps I0.bk) ((hb2 "super" (by decide)).trans (by first | exact PyProof.Rows.Boot.«super» | decide +kernel)) ⟨rfl, ?_⟩)
    obtain ⟨ml, hml, hloc⟩ := I0.loc
    refine wpAny_loadName_free S.kind (S.frk "__class__" (by simp)) (by show F.cl.lookup ("__class__" : Str) = some cc; rw [hcl]; rfl) ⟨_, kp _ _ (KX _ _ hcc), rfl⟩ ?_
    have hN0 : N[0]? = some ar.arg := by
      have z := S.pre
      cases ps with
      | nil => cases har2
      | cons p pr =>
        cases har2
        cases N with
        | nil => simp at z
        | cons n nr =>
          rw [show (ar.arg :: pr).length + [("__class__" : Str)].length = (pr.length + 1) + 1 from rfl, List.take_succ_cons] at z
          injection z with z1 _
          rw [z1]
          rfl
    obtain ⟨ux, rx, lx⟩ := hloc 0 ar.arg (.ref x) hN0 (by rw [hvs]; rfl) (.inl (S.par _ (by cases ps with | nil => cases har2 | cons p pr => cases har2; exact List.mem_cons_self ..)))
    cases rx
    have kloc : F.scope.names.lookup ar.arg = some .local := S.par _ (by cases ps with | nil => cases har2 | cons p pr => cases har2; exact List.mem_cons_self ..)
    have lx' : ml ar.arg = some (.ref x) := by
      rcases lx with ⟨_, z⟩ | ⟨z, _⟩
      · exact z
      · rcases z with z | z
        · have z : F.scope.names.lookup ar.arg = some .cell := z
          rw [kloc] at z; cases z
        · have z : F.scope.names.lookup ar.arg = some .free := z
          rw [kloc] at z; cases z
    refine wpAny_loadName_local S.kind kloc hml lx' ?_
    obtain ⟨nm, q, Nn, bs, bm, sn, sub, ab, col, dd, k0, k1, k2, k3, k5, hC, hbm⟩ := T.oex.cls
    have hC1 := I0.kIn _ _ hC
    refine ks_wpAny_isType_cls hC1 rfl ⟨rfl, ?_⟩
    obtain ⟨t1, hox⟩ := exo_at I0.hok hx
    refine ks_wpAny_call_super hC1 rfl hox rfl (fun c z => nomatch z) (looks_mroIn I0.kIn T.self) (fun h2 hso k2 => ?_)
    -- the super object stands; its __init__ is asked
    have I2 : Inv (ncx CX P w K mg base N F f A outer ⟨hp, gn, dr, tk, os⟩ H E) [] (startF N vs [some (.ref C)]) H ⟨h2, gn, dr, tk + (ps.zip us).length, os⟩ := I0.kept (t' := tk + (ps.zip us).length) k2
    have hxC : x ≠ C := fun z => by rw [z, hC1] at hox; cases hox
    have hsup := T.sup
    unfold ks_superIn at hsup
    have hcls : clsIn K C = some { name := nm, bases := bs, mro := .ref C :: bm, ns := Nn, qualname := q, hasDict := true, slotNames := sn, subclasses := sub, abstract := ab, collection := col, hasDel := false } := by unfold clsIn; rw [hC] <;> rfl
    rw [hcls] at hsup
    have J : InstAt h2 x (HandSPX.excO C t1) C none := ⟨k2 _ _ hox, rfl, rfl, trivial⟩
    refine kxs_getMethod kxs_ValueError hso (looks_opaque I2.kIn T.third) (l₀ := .ref C :: bm) ?_ rfl I2.kIn hsup (J.type.andThen (looks_subIn I2.kIn T.ve)) hxC (by decide) ?_
    · exact fun A Q E s k q => wpAny_bind ((looks_clsIn I2.kIn hcls) A _ E s k (wpAny_pure q))
    have hu2 : (h2.push (kxs_mw "ValueError.__init__" x)).get? h2.objs.size = some (kxs_mw "ValueError.__init__" x) := Heap.get?_push_at rfl rfl
    have I3 := ClX.pin_new (o := kxs_mw "ValueError.__init__" x) (a := h2.objs.size) (t' := tk + (ps.zip us).length + 1) I2 (fun b o z => Heap.get?_push_of_some _ z) (Nat.le_refl _) hu2 (fun v z => nomatch z)
    refine kxs_callWith (i := "ValueError.__init__") (x := x) (by rw [hst]; show (false || (backTo p3 (starEach es _)).any (·.1)) = false; rw [hpl]; rfl) ?_
    rw [hst]
    refine Calls.evalArgs_plain ?_
    have hrun := hpa.run p3 _ _ _ H _ I3 hta
    rw [hst] at hrun
    refine thn hrun fun us1 s4 hq => ?_
    obtain ⟨vs4, H4, I4, r4, rfl, hz⟩ := hq
    refine ⟨ClX.pin_at I4, ?_⟩
    obtain ⟨t4, hox4⟩ := exo_at I4.hok hx
    have hu4 : s4.heap.get? h2.objs.size = some (kxs_mw "ValueError.__init__" x) := ClX.pin_at I4
    have I5 := ClX.unpin I4
    obtain ⟨h4, g4, d4, tk4, os4⟩ := s4
    refine call_mw (I5.kIn _ _ hC) hox4 hu4 (by show us1.length ≤ sizeLine; rw [← Paired.length r4, sizeLine_eq]; omega) fun h' t5 k5 e5 => ?_
    have J5 := I5.write (t' := tk4) (x := x) (e := x) (o := exo x C none) (by rw [hx]; exact True.intro) (.inl rfl) k5 ⟨_, e5⟩ (exo_ok e5)
    have eu : upd H4 x (exo x C none) = H4 := by
      funext b
      by_cases hb : b = x
      · rw [hb, upd_same, hx]
      · rw [upd_ne hb]
    rw [eu] at J5
    refine wpAt_of_wpAny (wpAny_mono (hps.run [] _ _ _ _ J5 htr) (fun fl s' hs => fin hs) fun ev s' hs => hs)
  · simp [interactive, S.kind]
end
end DLX

set_option maxHeartbeats 4000000
namespace DLT
open PySem PySem.Spec L2
/-! ## try: .. except A as e: .. except B: ..: clauses with and without a name -/
abbrev Cl := Value × Option Nat × (Addr → Value → Option Addr → TS)
/-- behind a suite that held the error by a name the name is gone -/
def goneE (o : Option Nat) (D : Ends) : Ends := match o with
  | none => D
  | some i => { nx := fun σ H => D.nx (σ.set i none) H, rt := D.rt, bk := fun σ H => D.bk (σ.set i none) H, ct := fun σ H => D.ct (σ.set i none) H }
def heldS (o : Option Nat) (a : Addr) (σ : L2.St) : L2.St := match o with
  | none => σ
  | some i => σ.set i (some (.ref a))
def wish (K : PySem.W.Frag) (Wo : WX) (D : Ends) : List Cl → WX
  | [] => Wo
  | (c, o, ts) :: l => fun cls d σ H => ∃ b, PySem.W.exmOne K cls c = some b ∧ (b = true → ∀ a, H a = none → ts a cls d (goneE o D) (heldS o a σ) H) ∧ (b = false → wish K Wo D l cls d σ H)
inductive Cls' (X : Cx) : List ExceptHandler → List Cl → Prop
  | nil : Cls' X [] []
  | bare {x c ts s0 ss p1 p2 hs l} (hc : Names X x c) (hs' : ∀ (a : Addr) (ox : Obj) (cls : Value) (d : Option Addr) (pn : List (Addr × Obj)), Zc cls d ox → (∃ vs, ox.data = .fields vs) → PSs (X.suite a ((a, ox) :: pn)) (s0 :: ss) (ts a cls d)) (r : Cls' X hs l) :
      Cls' X (.ExceptHandler (some (.Name x p1)) none (s0 :: ss) p2 :: hs) ((c, none, ts) :: l)
  | named {x c ts s0 ss p1 p2 hs l n i} (hc : Names X x c) (hN : X.N.Nodup) (hi : X.N[i]? = some n) (hl : X.env.kindOf n = some .local)
      (hs' : ∀ (a : Addr) (ox : Obj) (cls : Value) (d : Option Addr) (pn : List (Addr × Obj)), Zc cls d ox → (∃ vs, ox.data = .fields vs) → PSs (X.suite a ((a, ox) :: pn)) (s0 :: ss) (ts a cls d)) (r : Cls' X hs l) :
      Cls' X (.ExceptHandler (some (.Name x p1)) (some n) (s0 :: ss) p2 :: hs) ((c, some i, ts) :: l)
section
variable {X : Cx} {body : List Stmt} {h0 : ExceptHandler} {hs : List ExceptHandler} {l : List Cl} {pos : Pos} {tb : WX → TS} {Wo : WX}
theorem ps_try (h1 : X.stack = X.env :: X.outer) (h2 : X.env.frame = some X.env.locals) (tk : Takes X Wo)
    (hb : ∀ (W : WX) (pn : List (Addr × Obj)) (xe : Value → Shared → Prop), Takes (X.tr pn xe) W → PassesOwn (model X.prog X.w) X.A X.env xe → PSs (X.tr pn xe) body (tb W)) (hh : Cls' X (h0 :: hs) l) :
    PS X (.Try body (h0 :: hs) [] [] pos) (fun D σ H => tb (wish X.K Wo D l) D σ H) := by
  constructor
  intro pins s σ H D I rd
  have ok := I.ok
  have fr : X.A.frames = some (X.env :: X.outer) := ok.frames.trans (by rw [h1])
  refine wpAny_Try_except ?_
  have run := (hb (wish X.K Wo D l) (X.pn ++ pins) (fun e s₁ => wpAny (model X.prog X.w) X.A (noteFrame e X.env) (fun _ s₂ => wpAny (model X.prog X.w) X.A (setFlight e none) (fun _ s₃ => wpAny (model X.prog X.w) X.A (handleBy e X.env (h0 :: hs)) (SP X pins D) X.xe s₃) X.xe s₂) X.xe s₁)
    (fun u s' xx => by
      obtain ⟨a, G, sI, pins', σ', H', cls, d, rfl, J0, nb, up, sky, na, os, bare, wi⟩ := xx
      have J : Inv X pins σ' H' sI := J0.ofTry ok
      rw [h1] at sky
      show wpAny (model X.prog X.w) X.A (noteFrame (Value.ref a) X.env) _ _ _
      refine Sky.land Zc.steady fr h2 sky fun hA flA upA => ?_
      have JA : Inv X pins σ' H' { s' with heap := hA } := J.landed nb flA.1 (up.trans upA) os bare
      obtain ⟨oA, vA, eA, zA, dA⟩ := flA.there
      have out : a ∉ frs (X.env :: X.outer) := fun hm => by
        obtain ⟨_, o', e', hnf⟩ := flA.2.2.1.mem hm
        rw [eA] at e'
        cases e'
        exact hnf _ dA
      have aL : a ≠ X.env.locals := fun z => out (List.mem_filterMap.mpr ⟨X.env, List.mem_cons_self, by rw [h2, z]⟩)
      have aF : a ∉ X.fs := fun hm => by
        obtain ⟨e, he, q⟩ := List.mem_filterMap.mp hm
        exact out (List.mem_filterMap.mpr ⟨e, List.mem_cons_of_mem _ he, q⟩)
      have SA := JA.suite eA dA na aL aF
      have LT : PySem.W.Looks (model X.prog X.w) hA (typeOf (.ref a)) cls := fun A Q E s k q => wpAny_typeOf_ref (k _ _ eA) (by rw [zA.1]; exact q)
      have test : ∀ {x : Str} {np : Pos} {c : Value} {Q : Value → Shared → Prop} {E : Value → Shared → Prop}, Names X x c → Q c { s' with heap := hA } → wpAny (model X.prog X.w) (X.A.mark (some (.ref a))) (eval (.Name x np) X.env) Q E { s' with heap := hA } := by
        intro x np c Q E hc q
        obtain ⟨hg, hdb, hm | ⟨hm, hv, hn⟩⟩ := hc
        · exact ld_glob (X := X.suite a ((a, oA) :: (X.pn ++ pins))) SA hg hm q hdb
        · exact ld_blt (X := X.suite a ((a, oA) :: (X.pn ++ pins))) SA hg hm hv q hn hdb
      have go : ∀ {hs' : List ExceptHandler} {l' : List Cl}, Cls' X hs' l' → wish X.K Wo D l' cls d σ' H' → wpAny (model X.prog X.w) X.A (handleBy (.ref a) X.env hs') (SP X pins D) X.xe { s' with heap := hA } := by
        intro hs' l' hk
        induction hk with
        | nil =>
          intro wi
          refine wpAny_handleBy_nil ?_
          obtain ⟨k1, k2, k3, ox, vs, T, oT, ts', he, hz, hd, hv1, hr⟩ := id flA
          unfold PySem.passOn
          refine wpAny_bind (wpAny_field he hd hv1 ?_)
          rw [if_neg (show ¬ ((Value.ref T == Value.none) = true) by simp)]
          have last : wpAny (model X.prog X.w) X.A (setFlight (.ref a) X.env.frame) (fun _ s4 => wpAny (model X.prog X.w) X.A (throw (.ref a) : Sem Flow) (SP X pins D) X.xe s4) X.xe { s' with heap := hA } := by
            rw [h2]
            refine HandSPX.setFlight_upZ flA fun hB fB uB => wpAny_throw (tk _ _ ?_)
            exact ⟨a, G, sI, pins, σ', H', cls, d, rfl, J, nb, (up.trans upA).trans uB, .inr (.inr (by rw [h1]; exact fB)), na, os, bare, wi⟩
          first
            | exact wpAny_bind (wpAny_pure (wpAny_bind last))
            | exact wpAny_bind last
        | @bare x c ts s0 ss p1 p2 hs2 l2 hc hsu r ih =>
          intro wi
          obtain ⟨b, hb1, hy, hn⟩ := wi
          refine wpAny_handleBy_cons (codeAny_handlers_test ?_) (by intro q; cases q)
          refine test hc ((PySem.W.exm_one (M := model X.prog X.w) JA.kIn LT hb1).here ?_)
          cases b with
          | false =>
            show wpAny _ X.A (handleBy (.ref a) X.env hs2) _ _ _
            exact ih (hn rfl)
          | true =>
            refine codeAny_handlers_suite (HandSPX.lands_againZ flA fun hB fB uB => ?_)
            have JB : Inv X pins σ' H' { s' with heap := hB } := J.landed nb fB.1 ((up.trans upA).trans uB) os bare
            obtain ⟨oB, vB, eB, zB, dB⟩ := fB.there
            have SB := JB.suite eB dB na aL aF
            refine wpAny_mono ((hsu a oB cls d (X.pn ++ pins) zB ⟨_, dB⟩).run [] _ _ H' _ SB (hy rfl a na)) (fun f s6 hsp => ?_) (fun _ _ z => z.elim)
            cases f <;> simp only [SP] at hsp ⊢
            all_goals first
              | (obtain ⟨v6, σ6, H6, S6, r6, q6⟩ := hsp; exact ⟨v6, σ6, H6, S6.unsuite ok, r6, q6⟩)
              | (obtain ⟨σ6, H6, S6, q6⟩ := hsp; exact ⟨σ6, H6, S6.unsuite ok, q6⟩)
        | @named x c ts s0 ss p1 p2 hs2 l2 n i hc hN hi hl hsu r ih =>
          intro wi
          obtain ⟨b, hb1, hy, hn⟩ := wi
          refine wpAny_handleBy_cons (codeAny_handlers_test ?_) (by intro q; cases q)
          refine test hc ((PySem.W.exm_one (M := model X.prog X.w) JA.kIn LT hb1).here ?_)
          cases b with
          | false =>
            show wpAny _ X.A (handleBy (.ref a) X.env hs2) _ _ _
            exact ih (hn rfl)
          | true =>
            refine codeAny_handlers_suite_as (HandSPX.lands_againZ flA fun hB fB uB => ?_)
            have JB : Inv X pins σ' H' { s' with heap := hB } := J.landed nb fB.1 ((up.trans upA).trans uB) os bare
            obtain ⟨oB, vB, eB, zB, dB⟩ := fB.there
            have SB := JB.suite eB dB na aL aF
            refine store_ok (X := X.suite a ((a, oB) :: (X.pn ++ pins))) (v := .ref a) SB hN hi (.inl hl) rfl (fun s5 S5 => ?_) (.inr hl)
            refine wpAny_mono ((hsu a oB cls d (X.pn ++ pins) zB ⟨_, dB⟩).run [] s5 _ H' _ S5 (hy rfl a na)) (fun f s6 hsp => ?_) (fun _ _ z => z.elim)
            cases f <;> simp only [SP] at hsp
            all_goals first
              | (obtain ⟨v6, σ6, H6, S6, r6, q6⟩ := hsp; exact gone_ok (S6.unsuite ok) hN hi hl fun s7 J7 => ⟨v6, _, _, J7, r6, q6⟩)
              | (obtain ⟨σ6, H6, S6, q6⟩ := hsp; exact gone_ok (S6.unsuite ok) hN hi hl fun s7 J7 => ⟨_, _, J7, q6⟩)
      exact go hh wi) PassesOwn.looking).run [] s σ H D (I.toTry _) rd
  refine wpAny_mono run (fun f s1 hsp => ?_) (fun _ _ z => z)
  cases f <;> simp only [SP] at hsp ⊢
  · obtain ⟨σ', H', J', q⟩ := hsp
    exact wpAny_execs_nil ⟨σ', H', J'.ofTry ok, q⟩
  all_goals first
    | (obtain ⟨v6, σ6, H6, S6, r6, q6⟩ := hsp; exact ⟨v6, σ6, H6, S6.ofTry ok, r6, q6⟩)
    | (obtain ⟨σ6, H6, S6, q6⟩ := hsp; exact ⟨σ6, H6, S6.ofTry ok, q6⟩)
end
end DLT

set_option maxHeartbeats 4000000
namespace DL
open PySem PySem.Spec L2
/-! ## 10. Cells that change -/
/-- o.append(e), o a cell -/
def dApp (to te : DE) : DE := fun δ S Q E => to δ S (fun x S1 => match x with
  | .m n => (∃ ds, S1 n = some (.lst ds)) ∧ te δ S1 (fun d S2 => ∃ ds, S2 n = some (.lst ds) ∧ ds.length < sizeLine ∧ Q .non (put S2 n (.lst (ds ++ [d])))) E
  | _ => False) E
section
variable {X : Cx} {W : WX} {o e i : Expr} {to te ti : DE} {pos apos tpos : Pos} {t : DS}
theorem celL_at {K : PySem.W.Frag} {w : Wd} {n : Nat} {p : Addr} {ds : List D} (ok : Ok K w) (h : w.S n = some (.lst ds)) (hp : w.α n = some p) : ∃ vs, w.H p = some (.lst vs) ∧ RpL K w.I w.α vs ds := by
  obtain ⟨q, vs, h1, h2, h3⟩ := ok.celL h
  rw [hp] at h1
  cases h1
  exact ⟨vs, h2, h3⟩
theorem setL {K : PySem.W.Frag} {w : Wd} {n : Nat} {p : Addr} {ds es : List D} {vs : List V} (ok : Ok K w) (h : w.S n = some (.lst ds)) (hp : w.α n = some p) (r : RpL K w.I w.α vs es) :
    Le w (w.set n p (.lst es) (.lst vs)) ∧ Ok K (w.set n p (.lst es) (.lst vs)) := ⟨.set h hp, ok.set h hp ⟨vs, rfl, r⟩⟩
theorem de_app (ho : PE X o (toE X.K W to)) (he : PE X e (toE X.K W te)) (hs : PE X o (toE X.K W to) → PE X e (toE X.K W te) → PE X (.Call (.Attribute o "append" apos) [e] [] pos) (tBM X.K "list" rAppend (toE X.K W to) (tCons (toE X.K W te) tNil)) := by intro ho he; exact pe_bm PySem.F.plainAttrs_list PySem.F.slot_list_append PySem.F.type_list_append mt_append ho (pa_cons he pa_nil)) :
    PE X (.Call (.Attribute o "append" apos) [e] [] pos) (toE X.K W (dApp to te)) := pimp (hs ho he) fun σ H Q h => by
  obtain ⟨w, δ, Qd, Ed, rfl, ok, lo, t, q, ec⟩ := h
  refine ⟨w, δ, _, Ed, rfl, ok, lo, t, fun x v w1 t1 l1 ok1 r1 => ?_, ec⟩
  cases x with
  | m n =>
    obtain ⟨p, rfl, hp⟩ := r1.m'
    obtain ⟨⟨ds0, hs0⟩, t1⟩ := t1
    obtain ⟨vs0, h0, _⟩ := celL_at ok1 hs0 hp
    refine ⟨.inl ⟨rfl, vs0, SqL.of h0⟩, w1, δ, _, Ed, rfl, ok1, lo.up l1, t1, fun y u w2 t2 l2 ok2 r2 => ?_, ec.up l1⟩
    obtain ⟨ds, hd, hz, h⟩ := t2
    obtain ⟨vs, hv, rv⟩ := celL_at ok2 hd (l2.aa _ _ hp)
    obtain ⟨l3, ok3⟩ := setL ok2 hd (l2.aa _ _ hp) (rv.append (.one r2))
    exact ⟨p, vs, u, rfl, rfl, hv, by rw [rv.length]; exact hz, q _ _ _ h ((l1.trans l2).trans l3) ok3 .non⟩
  | _ => exact t1.elim
/-- o.extend(e) -/
def dExt (to te : DE) : DE := fun δ S Q E => to δ S (fun x S1 => match x with
  | .m n => (∃ ds, S1 n = some (.lst ds)) ∧ te δ S1 (fun d S2 => ∃ ds, S2 n = some (.lst ds) ∧ opt (asL S2 d) fun es => ds.length + es.length ≤ sizeLine ∧ Q .non (put S2 n (.lst (ds ++ es)))) E
  | _ => False) E
theorem de_ext (ho : PE X o (toE X.K W to)) (he : PE X e (toE X.K W te)) (hs : PE X o (toE X.K W to) → PE X e (toE X.K W te) → PE X (.Call (.Attribute o "extend" apos) [e] [] pos) (tBM X.K "list" rExtend (toE X.K W to) (tCons (toE X.K W te) tNil)) := by intro ho he; exact pe_bm PySem.F.plainAttrs_list PySem.F.slot_list_extend PySem.F.type_list_extend mt_extend ho (pa_cons he pa_nil)) :
    PE X (.Call (.Attribute o "extend" apos) [e] [] pos) (toE X.K W (dExt to te)) := pimp (hs ho he) fun σ H Q h => by
  obtain ⟨w, δ, Qd, Ed, rfl, ok, lo, t, q, ec⟩ := h
  refine ⟨w, δ, _, Ed, rfl, ok, lo, t, fun x v w1 t1 l1 ok1 r1 => ?_, ec⟩
  cases x with
  | m n =>
    obtain ⟨p, rfl, hp⟩ := r1.m'
    obtain ⟨⟨ds0, hs0⟩, t1⟩ := t1
    obtain ⟨vs0, h0, _⟩ := celL_at ok1 hs0 hp
    refine ⟨.inl ⟨rfl, vs0, SqL.of h0⟩, w1, δ, _, Ed, rfl, ok1, lo.up l1, t1, fun y u w2 t2 l2 ok2 r2 => ?_, ec.up l1⟩
    obtain ⟨ds, hd, t2⟩ := t2
    obtain ⟨es, he, hz, h⟩ := opt_of t2
    obtain ⟨vs, hv, rv⟩ := celL_at ok2 hd (l2.aa _ _ hp)
    obtain ⟨p2, us, rfl, hp2, ru⟩ := asL_sem ok2 r2 he
    obtain ⟨l3, ok3⟩ := setL ok2 hd (l2.aa _ _ hp) (rv.append ru)
    exact ⟨p, p2, vs, us, rfl, rfl, hv, hp2, by rw [rv.length, ru.length]; exact hz, q _ _ _ h ((l1.trans l2).trans l3) ok3 .non⟩
  | _ => exact t1.elim
/-- o.pop() -/
def dPop (to : DE) : DE := fun δ S Q E => to δ S (fun x S1 => match x with
  | .m n => ∃ ds d, S1 n = some (.lst (ds ++ [d])) ∧ Q d (put S1 n (.lst ds))
  | _ => False) E
theorem de_pop (ho : PE X o (toE X.K W to)) (hs : PE X o (toE X.K W to) → PE X (.Call (.Attribute o "pop" apos) [] [] pos) (tBM0 X.K "list" rPop (toE X.K W to)) := by intro ho; exact pe_bm0 PySem.F.plainAttrs_list PySem.F.slot_list_pop PySem.F.type_list_pop mt_pop ho) :
    PE X (.Call (.Attribute o "pop" apos) [] [] pos) (toE X.K W (dPop to)) := pimp (hs ho) fun σ H Q h => by
  obtain ⟨w, δ, Qd, Ed, rfl, ok, lo, t, q, ec⟩ := h
  refine ⟨w, δ, _, Ed, rfl, ok, lo, t, fun x v w1 t1 l1 ok1 r1 => ?_, ec⟩
  cases x with
  | m n =>
    obtain ⟨p, rfl, hp⟩ := r1.m'
    obtain ⟨ds, d, hd, h⟩ := t1
    obtain ⟨vs, hv, rv⟩ := celL_at ok1 hd hp
    have hl := rv.length
    have r0 := rv.take ds.length
    rw [List.take_left] at r0
    obtain ⟨y, hy, ry⟩ := rv.get (i := ds.length) (d := d) (by simp)
    have e0 : vs.length - 1 = ds.length := by rw [hl]; simp
    have e1 : vs.take ds.length = vs.dropLast := by rw [List.dropLast_eq_take, e0]
    rw [e1] at r0
    obtain ⟨l3, ok3⟩ := setL ok1 hd hp r0
    exact ⟨.inl ⟨rfl, vs, SqL.of hv⟩, p, vs, y, rfl, rfl, hv, by rw [e0]; exact hy, q _ _ _ h (l1.trans l3) ok3 (ry.up l3)⟩
  | _ => exact t1.elim
/-- o[i] = e -/
def dSetI (to ti te : DE) : DS := fun B δ S => te δ S (fun d S1 => to δ S1 (fun x S2 => ti δ S2 (fun y S3 => match x with
  | .m n => (match y with
    | .int k => ∃ ds j, S3 n = some (.lst ds) ∧ ixN ds.length k = some j ∧ B.nx δ (put S3 n (.lst (ds.set j d)))
    | _ => False)
  | _ => False) (fun er S4 => B.ex er δ S4)) (fun er S4 => B.ex er δ S4)) (fun er S4 => B.ex er δ S4)
theorem ds_setI (ho : PE X o (toE X.K W to)) (hi : PE X i (toE X.K W ti)) (he : PE X e (toE X.K W te)) (hs : PE X o (toE X.K W to) → PE X i (toE X.K W ti) → PE X e (toE X.K W te) → PS X (.Assign [.Subscript o i tpos] e pos) (tAsg (toE X.K W te) (gSub (toE X.K W to) (toE X.K W ti) rSetL)) := by intro ho hi he; exact ps_asg he (pg_sub ho hi set_list)) :
    PS X (.Assign [.Subscript o i tpos] e pos) (toS X.K W (dSetI to ti te)) := simp' (hs ho hi he) fun D σ H ⟨w, δ, B, hH, ok, lo, t, r⟩ => by
  subst hH
  refine ⟨w, δ, _, _, rfl, ok, lo, t, fun d v w1 t1 l1 ok1 r1 => ?_, r.eC lo⟩
  refine ⟨w1, δ, _, _, rfl, ok1, lo.up l1, t1, fun x u w2 t2 l2 ok2 r2 => ?_, (r.up l1).eC (lo.up l1)⟩
  have l12 := l1.trans l2
  refine ⟨w2, δ, _, _, rfl, ok2, lo.up l12, t2, fun y z w3 t3 l3 ok3 r3 => ?_, (r.up l12).eC (lo.up l12)⟩
  cases x with
  | m n =>
    obtain ⟨p, rfl, hp⟩ := r2.m'
    cases y with
    | int k =>
      cases r3
      obtain ⟨ds, j, hd, hj, h⟩ := t3
      have hp3 := l3.aa _ _ hp
      obtain ⟨vs, hv, rv⟩ := celL_at ok3 hd hp3
      obtain ⟨l4, ok4⟩ := setL ok3 hd hp3 (rv.set j ((r1.up l2).up l3))
      have l := (l12.trans l3).trans l4
      exact ⟨p, vs, k, j, rfl, rfl, hv, by rw [rv.length]; exact hj, r.nx _ _ _ h l ok4 (lo.up l)⟩
    | _ => exact t3.elim
  | _ => exact t3.elim
/-- o.f = e, o an instance that is a cell -/
def putD (f : Str) (v : D) : List (Str × D) → List (Str × D)
  | [] => [(f, v)]
  | (g, u) :: r => if g = f then (f, v) :: r else (g, u) :: putD f v r
def dSetF (Cs : List Addr) (f : Str) (to te : DE) : DS := fun B δ S => te δ S (fun d S1 => to δ S1 (fun x S2 => match x with
  | .m n => ∃ C fs, S2 n = some (.ins C fs) ∧ C ∈ Cs ∧ fs.length < 1000 ∧ B.nx δ (put S2 n (.ins C (putD f d fs)))
  | _ => False) (fun er S4 => B.ex er δ S4)) (fun er S4 => B.ex er δ S4)
end
end DL

set_option maxHeartbeats 4000000
namespace DL
open PySem PySem.Spec L2
/-! ## 11. Attributes stored, op= -/
theorem RpF.put {K : PySem.W.Frag} {I : Hp} {α : Am} {f : Str} {v : V} {d : D} (r : Rp K I α v d) : ∀ {vs : List (Str × V)} {ds : List (Str × D)}, RpF K I α vs ds → RpF K I α (putF f v vs) (putD f d ds)
  | _, _, .nil => .cons r .nil
  | _, _, .cons (f := g) h s => by
    unfold putF putD
    by_cases hg : g = f
    · rw [if_pos hg, if_pos hg, hg]
      exact .cons r s
    · rw [if_neg hg, if_neg hg]
      exact .cons h (RpF.put r s)
section
variable {X : Cx} {W : WX} {o e : Expr} {to te : DE} {pos tpos : Pos}
theorem ds_setF {Cs : List Addr} {f : Str} (hc : ∀ C ∈ Cs, Cls X.K C ∧ NoAttr X.K C f) (ho : PE X o (toE X.K W to)) (he : PE X e (toE X.K W te)) (hs : swapsWith e (some (.Attribute o f tpos)) pos.line X.env = pure false := by rfl) :
    PS X (.Assign [.Attribute o f tpos] e pos) (toS X.K W (dSetF Cs f to te)) := simp' (ps_fld ho he hs) fun D σ H ⟨w, δ, B, hH, ok, lo, t, r⟩ => by
  subst hH
  refine ⟨w, δ, _, _, rfl, ok, lo, t, fun d v w1 t1 l1 ok1 r1 => ?_, r.eC lo⟩
  refine ⟨w1, δ, _, _, rfl, ok1, lo.up l1, t1, fun x u w2 t2 l2 ok2 r2 => ?_, (r.up l1).eC (lo.up l1)⟩
  cases x with
  | m n =>
    obtain ⟨p, rfl, hp⟩ := r2.m'
    obtain ⟨C, fs, hs, hC, hz, h⟩ := t2
    obtain ⟨q, oo, h1, h2, _, dx, vs, rfl, rv⟩ := ok2.cel n _ hs
    rw [hp] at h1
    cases h1
    have rn := rv.put (f := f) (r1.up l2)
    have l3 : Le w2 (w2.set n p (.ins C (putD f d fs)) (.ins C dx (putF f v vs))) := .set hs hp
    have ok3 : Ok X.K (w2.set n p (.ins C (putD f d fs)) (.ins C dx (putF f v vs))) := ok2.set hs hp ⟨dx, _, rfl, rn⟩
    have l := (l1.trans l2).trans l3
    exact ⟨p, C, dx, vs, rfl, h2, (hc C hC).1, (hc C hC).2, by rw [rv.length]; exact hz, r.nx _ _ _ h l ok3 (lo.up l)⟩
  | _ => exact t2.elim
def dAug (i : Nat) (f : DOp) (te : DE) : DS := fun B δ S => match δ[i]? with
  | some (some x) => te δ S (fun y S1 => f S1 x y fun z => B.nx (δ.set i (some z)) S1) (fun er S1 => B.ex er δ S1)
  | _ => False
theorem ds_aug {i : Nat} {x : Str} {op : Operator} {r : R2} {f : DOp} (hN : X.N.Nodup) (hi : X.N[i]? = some x) (hx : Loc X.env.scope x) (he : PE X e (toE X.K W te)) (ho : OpR X (inplaceOp op) r) (sm : SemOp X.K r f)
    (hf : X.fn x = true ∨ X.env.scope.names.lookup x = some .local := by first | exact .inl rfl | exact .inr rfl | assumption) : PS X (.AugAssign (.Name x tpos) op e pos) (toS X.K W (dAug i f te)) := simp' (ps_aug (ti := r) hN hi hx he ho hf) fun D σ H ⟨w, δ, B, hH, ok, lo, t, rr⟩ => by
  subst hH
  unfold dAug at t
  split at t
  · rename_i d hd
    obtain ⟨v, hv, rv⟩ := lo.2 i d hd
    refine ⟨v, hv, w, δ, _, _, rfl, ok, lo, t, fun y u w1 t1 l1 ok1 r1 => ?_, rr.eC lo⟩
    refine sm w1 v u d y _ _ ok1 (rv.up l1) r1 t1 fun z v3 w3 h3 l3 e3 ok3 r3 => ?_
    have l := l1.trans l3
    exact rr.nx _ _ w3 (by rw [e3]; exact h3) l ok3 ((lo.up l).set i r3)
  · exact t.elim
end
/-! ## 12. Defs -/
/-- a def as a function of data: its body over n names; the cells that it made are dropped at its end -/
def fnD (n : Nat) (body : DS) : DFn := fun us S Q E => body { nx := fun _ S' => ∃ S'', Sub S'' S' ∧ Q .non S'', rt := fun d S' => ∃ S'', Sub S'' S' ∧ Q d S'', bk := fun _ _ => False, ct := fun _ _ => False, ex := fun er _ S' => ∃ S'', Sub S'' S' ∧ E er S'' }
  (us.map some ++ List.replicate (n - us.length) none) S
def toSp (K : PySem.W.Frag) (n : Nat) (m : DFn) : Sp := fun vs H Q E => vs.length = n ∧ ∃ (w : Wd) (us : List D) (Qd : D → Sto → Prop) (Ed : Err → Sto → Prop), w.H = H ∧ Ok K w ∧ RpL K w.I w.α vs us ∧ m us w.S Qd Ed ∧
  (∀ d v w', Qd d w'.S → Le w w' → Ok K w' → Rp K w'.I w'.α v d → Q v w'.H) ∧ ∀ er w' dx, Ed er w'.S → Le w w' → Ok K w' → ErR K w' er dx → E (.ref er.C) (some dx) w'.H
abbrev WF (E : XK) : WX := fun cls d _ H => E cls d H
section
variable {P : Program} {w0 : World} {K : PySem.W.Frag} {mg : Str → Option Value} {base : Heap}
theorem lo_start {w : Wd} {N : List Str} : ∀ {vs : List V} {us : List D}, RpL K w.I w.α vs us → LoR K w (L2.start N vs) (us.map some ++ List.replicate (N.length - us.length) none) := by
  intro vs us r
  have hl := r.length
  refine ⟨by unfold L2.start; simp [hl], fun i d h => ?_⟩
  have hi : i < us.length := by
    by_cases hi : i < us.length
    · exact hi
    · rw [List.getElem?_append_right (by simpa using hi), List.getElem?_replicate] at h
      split at h <;> cases h
  rw [List.getElem?_append_left (by simpa using hi), List.getElem?_map] at h
  cases hu : us[i]? with
  | none => rw [hu] at h; cases h
  | some u =>
    rw [hu] at h
    cases h
    obtain ⟨v, hv, rv⟩ := r.get hu
    refine ⟨v, ?_, rv⟩
    unfold L2.start
    rw [List.getElem?_append_left (by rw [List.length_map, hl]; exact hi), List.getElem?_map, hv]
    rfl
/-- a body's end, over data and over the heap -/
theorem ends_fn {w : Wd} {Qd : D → Sto → Prop} {Ed : Err → Sto → Prop} {Q : VK} {E : XK} (q : ∀ d v w', Qd d w'.S → Le w w' → Ok K w' → Rp K w'.I w'.α v d → Q v w'.H) (e : ∀ er w' dx, Ed er w'.S → Le w w' → Ok K w' → ErR K w' er dx → E (.ref er.C) (some dx) w'.H) :
    EndsR K (WF E) w { nx := fun _ S' => ∃ S'', Sub S'' S' ∧ Qd .non S'', rt := fun d S' => ∃ S'', Sub S'' S' ∧ Qd d S'', bk := fun _ _ => False, ct := fun _ _ => False, ex := fun er _ S' => ∃ S'', Sub S'' S' ∧ Ed er S'' } { nx := fun _ H' => Q .non H', rt := Q } :=
  ⟨fun _ _ w' ⟨S, s, h⟩ l ok _ => q .non .non (w'.drop S) h (l.trans (.drop s)) (ok.drop s) .non, fun d v w' ⟨S, s, h⟩ l ok r => q d v (w'.drop S) h (l.trans (.drop s)) (ok.drop s) r, fun _ _ _ h => h.elim, fun _ _ _ h => h.elim,
    fun er dx _ _ w' ⟨S, s, h⟩ l ok _ r => e er (w'.drop S) dx h (l.trans (.drop s)) (ok.drop s) r⟩
/-- THE RULE: a def by its body's reading -/
theorem fn_ok {x qual : Str} {st : Stmt} {f : Addr} {fd : FuncData} {N ps : List Str} {k : Nat} {t : DS} (F : Fun K x qual st f fd) (S : FnScope N ps (defScope st))
    (hb : ∀ (cdv : Value) (A : Around) (outer : List Env) (s : Shared) (H : Hp) (E : XK), Room k (A.deeper (PyProof.Rows.envOfC qual (defScope st) s.heap.objs.size f cdv)) → PSs (cxOf (L2.CX P w0) P w0 K mg base N qual (defScope st) f cdv A outer s H E) (defBody st) (toS K (WF E) t)) :
    FnOk P w0 K mg base (L2.CX P w0) (k + 1) f fd ps (toSp K ps.length (fnD N.length t)) := by
  refine F.okX S (fun vs H Q E h => h.1) (fun cdv A outer s H vs Q E hr h => ⟨_, hb cdv A outer s H E hr, ?_⟩)
  obtain ⟨_, w, us, Qd, Ed, rfl, ok, r, h, q, e⟩ := h
  exact ⟨w, _, _, rfl, ok, lo_start r, h, ends_fn q e⟩
end
/-! ### calls -/
/-- f(e, ..): dd the defaults that fill up -/
def dCall (n : Nat) (m : DFn) (dd : List D) (ta : DA) : DE := fun δ S Q E => ta δ S (fun us S1 => (us ++ dd).length = n ∧ m (us ++ dd) S1 Q E) E
theorem sp_of {K : PySem.W.Frag} {W : WX} {w w1 : Wd} {σ : L2.St} {Qd : D → Sto → Prop} {Ed : Err → Sto → Prop} {Q : VK} {n : Nat} {m : DFn} {us : List D} {vs : List V} (ok1 : Ok K w1) (l : Le w w1) (r : RpL K w1.I w1.α vs us) (hn : us.length = n) (h : m us w1.S Qd Ed)
    (q : ∀ d v w', Qd d w'.S → Le w w' → Ok K w' → Rp K w'.I w'.α v d → Q v w'.H) (ec : eC K W σ w Ed) : toSp K n m vs w1.H Q (WE W σ) :=
  ⟨by rw [r.length]; exact hn, w1, us, Qd, Ed, rfl, ok1, r, h, fun d v w' a b c e => q d v w' a (l.trans b) c e, fun er w' dx a b c e => ec er w' dx a (l.trans b) c e⟩
/-- the defaults: values of the text that stand for the data dd -/
structure Dfl (K : PySem.W.Frag) (dvs : List V) (dd : List D) : Prop where
  r : ∀ I α, RpL K I α dvs dd
theorem Dfl.nil {K : PySem.W.Frag} : Dfl K [] [] := ⟨fun _ _ => .nil⟩
section
variable {X : Cx} {W : WX} {k n : Nat} {f C : Addr} {fd : FuncData} {ps : List Str} {m : DFn} {x mt : Str} {p pos apos : Pos} {o e : Expr} {es : List Expr} {to : DE} {ta : DA} {ds : List Value} {dvs : List V} {dd : List D} {pl : Sem Bool}
theorem de_call (F : FnOk X.prog X.w X.K X.mg X.base (L2.CX X.prog X.w) k f fd ps (toSp X.K n m)) (hr : Room k X.A) (tk : Takes X W) (hg : Gl X x) (hm : X.mg x = some (.ref f)) (hk : PySem.W.keepIn X.K (.ref f) = true) (hb : Binds X.K fd ps ds) (hd : Vals dvs ds) (hdd : Dfl X.K dvs dd) (ha : PA X (e :: es) (toA X.K W ta))
    (hdb : (x == ("__debug__" : Str)) = false := by decide) (he : starEach (e :: es) X.env = (false, eval e X.env) :: starEach es X.env := by rfl) (hpl : (backTo pos (starEach es X.env)).any (·.1) = false := by rfl) : PE X (.Call (.Name x p) (e :: es) [] pos) (toE X.K W (dCall n m dd ta)) := pimp (pe_callSD F hr hg hm hk hb hd (fun σ => passAt tk σ) ha hdb he hpl) fun σ H Q h => by
  obtain ⟨w, δ, Qd, Ed, rfl, ok, lo, t, q, ec⟩ := h
  exact ⟨w, δ, _, Ed, rfl, ok, lo, t, fun us vs w1 t1 l1 ok1 r1 => sp_of ok1 l1 (r1.append (hdd.r _ _)) t1.1 t1.2 q ec, ec⟩
/-- the callee runs, what it raises is taken at the slots that stand -/
theorem run_at {pins : List (Addr × Obj)} {σ : L2.St} {H : Hp} {s : Shared} {Q : VK} {us : List Value} {vs : List V} (F : FnOk X.prog X.w X.K X.mg X.base (L2.CX X.prog X.w) k f fd ps (toSp X.K n m)) (hr : Room k X.A) (tk : Takes X W) (hb : Binds X.K fd ps ds) (hd : Vals dvs ds)
    (I : Inv X pins σ H s) (r : Vals vs us) (h : toSp X.K n m (vs ++ dvs) H Q (WE W σ)) : wpAny (model X.prog X.w) X.A (call (.ref f) us) (EP X pins σ Q) X.xe s :=
  run_fnSD (E := WE W) F hr hb hd (passAt tk σ) I r h
/-- o.m(e, ..) of an instance of the class at C -/
def dMeth (C : Addr) (mt : Str) (n : Nat) (m : DFn) (dd : List D) (to : DE) (ta : DA) : DE := fun δ S Q E => to δ S (fun d S1 => opt (asI S1 d) fun q => q.1 = C ∧ q.2.lookup mt = none ∧ ta δ S1 (fun us S2 => (d :: (us ++ dd)).length = n ∧ m (d :: (us ++ dd)) S2 Q E) E) E
theorem de_meth (ho : PE X o (toE X.K W to)) (c : Cls X.K C) (hM : Meth X.K C mt f) (F : FnOk X.prog X.w X.K X.mg X.base (L2.CX X.prog X.w) k f fd ps (toSp X.K n m)) (hr : Room k X.A) (tk : Takes X W) (hb : Binds X.K fd ps ds) (hd : Vals dvs ds) (hdd : Dfl X.K dvs dd) (ha : PA X (e :: es) (toA X.K W ta))
    (h1 : starEach (e :: es) X.env = (false, eval e X.env) :: starEach es X.env := by rfl) (h2 : (backTo pos (starEach es X.env)).any (·.1) = false := by rfl)
    (h3 : eval (.Call (.Attribute o mt apos) (e :: es) [] pos) X.env = (eval o X.env >>= fun ov => standAt apos.atName >>= fun _ => holding [ov] (getMethod ov mt pl) >>= fun p => callWith pos p.1 p.2 (backTo pos (starEach (e :: es) X.env)) (backToKw pos (keywordEach [] X.env))) := by rfl) :
    PE X (.Call (.Attribute o mt apos) (e :: es) [] pos) (toE X.K W (dMeth C mt n m dd to ta)) := by
  constructor
  intro pins s σ H Q I h
  obtain ⟨w, δ, Qd, Ed, rfl, ok, lo, t, q, ec⟩ := h
  refine PySem.W.methodCall_KW (pl := pl) (thn (ho.run pins s σ _ (fun x H1 => ∃ (w1 : Wd) (d : D), w1.H = H1 ∧ Le w w1 ∧ Ok X.K w1 ∧ Rp X.K w1.I w1.α x d ∧ opt (asI w1.S d) fun q => q.1 = C ∧ q.2.lookup mt = none ∧ ta δ w1.S (fun us S2 => (d :: (us ++ dd)).length = n ∧ m (d :: (us ++ dd)) S2 Qd Ed) Ed) I
    ⟨w, δ, _, Ed, rfl, ok, lo, t, fun d v w1 t1 l1 ok1 r1 => ⟨w1, d, rfl, l1, ok1, r1, t1⟩, ec⟩) fun u s1 hq => ?_) h3
  obtain ⟨x, H1, I1, rx, w1, d, rfl, l1, ok1, r1, t1⟩ := hq
  obtain ⟨⟨C', fs⟩, hd', hC, hl, g1⟩ := opt_of t1
  obtain ⟨a, dx, vs, rfl, ha1, rf⟩ := asI_sem ok1 r1 hd'
  have hC : C' = C := hC
  subst hC
  cases rx
  refine getmeth_ok I1 ha1 c hM (rf.lookupN hl) ?_
  refine PySem.W.callWith_K (first := [.ref a]) (h₀ := X.base) I.ok.mod.kin hM.kp (thn (ha.run pos pins s1 σ _ (fun ws H2 => ∃ (w2 : Wd) (us : List D), w2.H = H2 ∧ Le w1 w2 ∧ Ok X.K w2 ∧ RpL X.K w2.I w2.α ws us ∧ (d :: (us ++ dd)).length = n ∧ m (d :: (us ++ dd)) w2.S Qd Ed) I1
    ⟨w1, δ, _, Ed, rfl, ok1, lo.up l1, g1, fun us vs w2 t2 l2 ok2 r2 => ⟨w2, us, rfl, l2, ok2, r2, t2⟩, ec.up l1⟩) fun us s2 hq2 => ?_) h1 h2
  obtain ⟨ws, H2, I2, rw2, w2, us2, rfl, l2, ok2, r2, hn, hm2⟩ := hq2
  refine ⟨I2.kIn, ?_⟩
  exact run_at (us := .ref a :: us) (vs := .ref a :: ws) F hr tk hb hd I2 (.cons rfl rw2) (sp_of (us := d :: (us2 ++ dd)) ok2 (l1.trans l2) (.cons (r1.up l2) (r2.append (hdd.r _ _))) hn hm2 q ec)
/-- o.m() -/
theorem de_meth0 (ho : PE X o (toE X.K W to)) (c : Cls X.K C) (hM : Meth X.K C mt f) (F : FnOk X.prog X.w X.K X.mg X.base (L2.CX X.prog X.w) k f fd ps (toSp X.K n m)) (hr : Room k X.A) (tk : Takes X W) (hb : Binds X.K fd ps ds) (hd : Vals dvs ds) (hdd : Dfl X.K dvs dd)
    (h3 : eval (.Call (.Attribute o mt apos) [] [] pos) X.env = (eval o X.env >>= fun ov => standAt apos.atName >>= fun _ => holding [ov] (getMethod ov mt pl) >>= fun p => callWith pos p.1 p.2 (backTo pos (starEach [] X.env)) (backToKw pos (keywordEach [] X.env))) := by rfl) :
    PE X (.Call (.Attribute o mt apos) [] [] pos) (toE X.K W (dMeth C mt n m dd to dNil)) := by
  constructor
  intro pins s σ H Q I h
  obtain ⟨w, δ, Qd, Ed, rfl, ok, lo, t, q, ec⟩ := h
  refine PySem.W.methodCall_KW (pl := pl) (thn (ho.run pins s σ _ (fun x H1 => ∃ (w1 : Wd) (d : D), w1.H = H1 ∧ Le w w1 ∧ Ok X.K w1 ∧ Rp X.K w1.I w1.α x d ∧ opt (asI w1.S d) fun q => q.1 = C ∧ q.2.lookup mt = none ∧ dNil δ w1.S (fun us S2 => (d :: (us ++ dd)).length = n ∧ m (d :: (us ++ dd)) S2 Qd Ed) Ed) I
    ⟨w, δ, _, Ed, rfl, ok, lo, t, fun d v w1 t1 l1 ok1 r1 => ⟨w1, d, rfl, l1, ok1, r1, t1⟩, ec⟩) fun u s1 hq => ?_) h3
  obtain ⟨x, H1, I1, rx, w1, d, rfl, l1, ok1, r1, t1⟩ := hq
  obtain ⟨⟨C', fs⟩, hd', hC, hl, g1⟩ := opt_of t1
  obtain ⟨a, dx, vs, rfl, ha1, rf⟩ := asI_sem ok1 r1 hd'
  have hC : C' = C := hC
  subst hC
  cases rx
  refine getmeth_ok I1 ha1 c hM (rf.lookupN hl) ?_
  exact PySem.W.callWith_K0 (first := [.ref a]) I1.kIn hM.kp (run_at (us := [.ref a]) (vs := [.ref a]) F hr tk hb hd I1 (.cons rfl .nil) (sp_of (us := d :: ([] ++ dd)) ok1 l1 (.cons r1 (hdd.r _ _)) g1.1 g1.2 q ec))
end
end DL

set_option maxHeartbeats 4000000
namespace DL
open PySem PySem.Spec L2
/-! ## 13. Instances made -/
section
variable {X : Cx} {W : WX} {k n : Nat} {f C : Addr} {fd : FuncData} {ps : List Str} {m : DFn} {x : Str} {p pos : Pos} {e : Expr} {es : List Expr} {ta : DA} {ds : List Value} {dvs : List V} {dd : List D} {sp : Sp} {E : L2.St → XK}
theorem make_at {pins : List (Addr × Obj)} {σ : L2.St} {H : Hp} {s : Shared} {Q : VK} {us : List Value} {vs : List V} (M : Mk X.K C f) (F : FnOk X.prog X.w X.K X.mg X.base (L2.CX X.prog X.w) k f fd ps sp) (hr : Room (k + 1) X.A) (hb : Binds X.K fd ps ds) (hd : Vals dvs ds)
    (hx : PassesAt (L2.CX X.prog X.w) X σ (E σ)) (I : Inv X pins σ H s) (r : Vals vs us) (h : ∀ y dy, H y = none → H dy = none → dy ≠ y → sp (.ref y :: (vs ++ dvs)) (upd (upd H dy (.own y)) y (.ins C dy [])) (fun v H2 => v = .non ∧ Q (.ref y) H2) (E σ)) :
    wpAny (model X.prog X.w) X.A (call (.ref C) us) (EP X pins σ Q) X.xe s := by
  let dy := s.heap.objs.size
  have J := Inv.made (C := C) I
  have hsp := h (dy + 1) dy (I.hok.fresh (Nat.le_succ _)) (I.hok.fresh (Nat.le_refl _)) (Nat.ne_of_lt (Nat.lt_succ_self _))
  have rr : Vals (V.ref (dy + 1) :: (vs ++ dvs)) (Value.ref (dy + 1) :: (us ++ ds)) := .cons rfl (r.append hd)
  have hl : (Value.ref (dy + 1) :: us ++ ds).length = ps.length := rr.length.symm.trans (F.len _ _ _ _ hsp)
  have run := F.run _ X.stack _ _ ⟨Value.ref (dy + 1) :: us, []⟩ (Value.ref (dy + 1) :: (us ++ ds)) _ _ (E σ) (hr.make C us []) (J.env0.make C us []) (hb _ (Value.ref (dy + 1) :: us) J.kIn hl) rr hsp
  refine wpAny_call (make_map (f := f) I.kIn M.makes M.init (beq_iff_eq.mp M.fn) (codeAny_mono run fun res s' hq => ?_))
  cases res with
  | error er => exact hx pins _ _ er s' J hq
  | ok fl =>
    cases fl with
    | ret u =>
      obtain ⟨v, H3, J3, rv, ev, q⟩ := J.after hq
      rw [ev] at rv
      exact ⟨rv, V.ref (dy + 1), H3, J3, rfl, q⟩
    | _ => exact hq.elim
def tMakeS (C : Addr) (sp : Sp) (dvs : List V) (E : L2.St → XK) (t : TA) : TE := fun σ H Q => t σ H fun vs H1 => ∀ y dy, H1 y = none → H1 dy = none → dy ≠ y → sp (.ref y :: (vs ++ dvs)) (upd (upd H1 dy (.own y)) y (.ins C dy [])) (fun v H2 => v = .non ∧ Q (.ref y) H2) (E σ)
theorem pe_makeS {t : TA} (M : Mk X.K C f) (F : FnOk X.prog X.w X.K X.mg X.base (L2.CX X.prog X.w) k f fd ps sp) (hr : Room (k + 1) X.A) (hg : Gl X x) (hm : X.mg x = some (.ref C)) (hb : Binds X.K fd ps ds) (hd : Vals dvs ds) (hx : ∀ σ, PassesAt (L2.CX X.prog X.w) X σ (E σ)) (ha : PA X (e :: es) t)
    (hdb : (x == ("__debug__" : Str)) = false := by decide) (h1 : starEach (e :: es) X.env = (false, eval e X.env) :: starEach es X.env := by rfl) (h2 : (backTo pos (starEach es X.env)).any (·.1) = false := by rfl) :
    PE X (.Call (.Name x p) (e :: es) [] pos) (tMakeS C sp dvs E t) := by
  constructor
  intro pins s σ H Q I h
  refine wpAny_Call_Name_kw (ld_glob I hg hm (PySem.W.callWith_K (h₀ := X.base) I.ok.mod.kin M.kp (thn (ha.run pos pins s σ H _ I h) fun us s1 hq => ?_) h1 h2) hdb)
  obtain ⟨vs, H1, J, r, q⟩ := hq
  exact ⟨J.kIn, make_at M F hr hb hd (hx σ) J r q⟩
/-- C(e, ..): an instance that is made, then never changes; one that may change -/
def dMakeF (C : Addr) (n : Nat) (m : DFn) (dd : List D) (ta : DA) : DE := fun δ S Q E => ta δ S (fun us S1 => us.length + dd.length + 1 = n ∧ ∀ k, S1 k = none → m (.m k :: (us ++ dd)) (put S1 k (.ins C [])) (fun d S2 => d = .non ∧ ∃ fs, S2 k = some (.ins C fs) ∧ Q (.ins C fs) (del S2 k)) (fun er S2 => ∃ S3, Sub S3 S2 ∧ E er S3)) E
def dMakeM (C : Addr) (n : Nat) (m : DFn) (dd : List D) (ta : DA) : DE := fun δ S Q E => ta δ S (fun us S1 => us.length + dd.length + 1 = n ∧ ∀ k, S1 k = none → m (.m k :: (us ++ dd)) (put S1 k (.ins C [])) (fun d S2 => d = .non ∧ (∃ fs, S2 k = some (.ins C fs)) ∧ Q (.m k) S2) (fun er S2 => ∃ S3, Sub S3 S2 ∧ E er S3)) E
theorem made_w {K : PySem.W.Frag} {w : Wd} {y dy : Addr} (ok : Ok K w) (hy : w.H y = none) (hd : w.H dy = none) (ne : dy ≠ y) :
    ∃ (w2 : Wd) (k : Nat), w.S k = none ∧ w2.H = upd (upd w.H dy (.own y)) y (.ins C dy []) ∧ w2.S = put w.S k (.ins C []) ∧ w2.α k = some y ∧ Le w w2 ∧ Ok K w2 := by
  obtain ⟨k, hα, hS⟩ := ok.free
  have e : HpLe w.H (upd w.H dy (.own y)) := HpLe.upd hd
  have ok1 := ok.side e
  have l1 : Le w (w.side (upd w.H dy (.own y))) := .side e
  have hy1 : (w.side (upd w.H dy (.own y))).H y = none := (upd_ne (Ne.symm ne)).trans hy
  have hα1 : (w.side (upd w.H dy (.own y))).α k = none := hα
  refine ⟨(w.side (upd w.H dy (.own y))).cell k y (.ins C []) (.ins C dy []), k, hS, rfl, rfl, if_pos rfl, l1.trans (.cell hy1 hα1), ok1.cell hy1 hα1 ⟨dy, [], rfl, .nil⟩⟩
theorem toE_make {K : PySem.W.Frag} {W : WX} (fin : D → Sto → Nat → Prop) (Qd : D → Sto → Prop) {σ : L2.St} {w : Wd} {Ed : Err → Sto → Prop} {Q : VK} {us : List D} {vs : List V} (ok : Ok K w) (r : RpL K w.I w.α vs us) (hdd : Dfl K dvs dd) (hn : us.length + dd.length + 1 = n)
    (h : ∀ k, w.S k = none → m (.m k :: (us ++ dd)) (put w.S k (.ins C [])) (fun d S2 => d = .non ∧ fin d S2 k) (fun er S2 => ∃ S3, Sub S3 S2 ∧ Ed er S3))
    (q : ∀ k w' y, fin .non w'.S k → Le w w' → Ok K w' → w'.α k = some y → Q (.ref y) w'.H) (ec : eC K W σ w Ed) :
    ∀ y dy, w.H y = none → w.H dy = none → dy ≠ y → toSp K n m (.ref y :: (vs ++ dvs)) (upd (upd w.H dy (.own y)) y (.ins C dy [])) (fun v H2 => v = .non ∧ Q (.ref y) H2) (WE W σ) := by
  intro y dy hy hd ne
  obtain ⟨w2, k, hk, eH, eS, hα, l, ok2⟩ := made_w (C := C) ok hy hd ne
  have rd := hdd.r w2.I w2.α
  refine ⟨by rw [List.length_cons, List.length_append, r.length, rd.length]; exact hn, w2, .m k :: (us ++ dd), _, _, eH, ok2, .cons (.m hα) ((r.up l).append rd), by rw [eS]; exact h k hk, fun d v w' a b c rv => ?_, fun er w' dx a b c re => ?_⟩
  · obtain ⟨rfl, a⟩ := a
    cases rv
    exact ⟨rfl, q k w' y a (l.trans b) c (b.aa _ _ hα)⟩
  · obtain ⟨S3, s, a⟩ := a
    exact ec er (w'.drop S3) dx a ((l.trans b).trans (.drop s)) (c.drop s) re
theorem de_makeF (M : Mk X.K C f) (F : FnOk X.prog X.w X.K X.mg X.base (L2.CX X.prog X.w) k f fd ps (toSp X.K n m)) (hr : Room (k + 1) X.A) (tk : Takes X W) (hg : Gl X x) (hm : X.mg x = some (.ref C)) (hb : Binds X.K fd ps ds) (hd : Vals dvs ds) (hdd : Dfl X.K dvs dd) (ha : PA X (e :: es) (toA X.K W ta))
    (hdb : (x == ("__debug__" : Str)) = false := by decide) (h1 : starEach (e :: es) X.env = (false, eval e X.env) :: starEach es X.env := by rfl) (h2 : (backTo pos (starEach es X.env)).any (·.1) = false := by rfl) : PE X (.Call (.Name x p) (e :: es) [] pos) (toE X.K W (dMakeF C n m dd ta)) := pimp (pe_makeS M F hr hg hm hb hd (fun σ => passAt tk σ) ha hdb h1 h2) fun σ H Q h => by
  obtain ⟨w, δ, Qd, Ed, rfl, ok, lo, t, q, ec⟩ := h
  refine ⟨w, δ, _, Ed, rfl, ok, lo, t, fun us vs w1 t1 l1 ok1 r1 => ?_, ec⟩
  refine toE_make (fun _ S2 k => ∃ fs, S2 k = some (.ins C fs) ∧ Qd (.ins C fs) (del S2 k)) Qd ok1 r1 hdd t1.1 t1.2 (fun k w' y a b c hα => ?_) (ec.up l1)
  obtain ⟨fs, hs, hq⟩ := a
  obtain ⟨p', o, h1, h2, h3, dx, vs', rfl, rv⟩ := c.cel k _ hs
  rw [hα] at h1
  cases h1
  have l : Le w' (w'.frz k y (.ins C dx vs')) := .frz c hs hα
  exact q (.ins C fs) (.ref y) (w'.frz k y (.ins C dx vs')) hq ((l1.trans b).trans l) (c.frz hs hα h2) (.ins upd_same (rv.up l))
theorem de_makeM (M : Mk X.K C f) (F : FnOk X.prog X.w X.K X.mg X.base (L2.CX X.prog X.w) k f fd ps (toSp X.K n m)) (hr : Room (k + 1) X.A) (tk : Takes X W) (hg : Gl X x) (hm : X.mg x = some (.ref C)) (hb : Binds X.K fd ps ds) (hd : Vals dvs ds) (hdd : Dfl X.K dvs dd) (ha : PA X (e :: es) (toA X.K W ta))
    (hdb : (x == ("__debug__" : Str)) = false := by decide) (h1 : starEach (e :: es) X.env = (false, eval e X.env) :: starEach es X.env := by rfl) (h2 : (backTo pos (starEach es X.env)).any (·.1) = false := by rfl) : PE X (.Call (.Name x p) (e :: es) [] pos) (toE X.K W (dMakeM C n m dd ta)) := pimp (pe_makeS M F hr hg hm hb hd (fun σ => passAt tk σ) ha hdb h1 h2) fun σ H Q h => by
  obtain ⟨w, δ, Qd, Ed, rfl, ok, lo, t, q, ec⟩ := h
  refine ⟨w, δ, _, Ed, rfl, ok, lo, t, fun us vs w1 t1 l1 ok1 r1 => ?_, ec⟩
  refine toE_make (fun _ S2 k => (∃ fs, S2 k = some (.ins C fs)) ∧ Qd (.m k) S2) Qd ok1 r1 hdd t1.1 t1.2 (fun k w' y a b c hα => ?_) (ec.up l1)
  exact q (.m k) (.ref y) w' a.2 (l1.trans b) c (.m hα)
end
/-! ## 14. Errors -/
/-- an own error: its class at C, the names of its fields in the order of their stores -/
structure ErrC (P : Program) (w0 : World) (K : PySem.W.Frag) (mg : Str → Option Value) (base : Heap) (x : Str) (C : Addr) (fs : List Str) : Prop where
  gC : mg x = some (.ref C)
  oex : OexC K C
  few : fs.length ≤ 900
  ini : ∃ (fI : Addr) (fd : FuncData) (ps : List Str), PySem.W.findIn K (.ref C) "__init__" = some (some (.ref fI)) ∧ PySem.W.typeIn K (.ref fI) = some (.type "function") ∧ Binds K fd ps [] ∧ ps.length = fs.length + 1 ∧
    FnOk P w0 K mg base (L2.CX P w0) 1 fI fd ps (fun vs H Q _ => ∃ (y : Addr) (ws : List V), vs = .ref y :: ws ∧ ws.length = fs.length ∧ vs.length = ps.length ∧ H y = some (exo y C none) ∧
      ∀ d, H d = none → d ≠ y → Q .non (upd (upd H d (exd d (fs.zip ws).reverse)) y (exo y C (some d))))
def tErr (C : Addr) (fs : List Str) (ta : TA) : L2.St → Hp → XK → Prop := fun σ H Q => ta σ H fun vs H1 => vs.length = fs.length ∧ ∀ d, H1 d = none → Q (.ref C) (some d) (upd H1 d (.xd (fs.zip vs).reverse))
def dRaise (C : Addr) (fs : List Str) (ta : DA) : DS := fun B δ S => ta δ S (fun us S1 => us.length = fs.length ∧ B.ex ⟨C, (fs.zip us).reverse⟩ δ S1) (fun er S1 => B.ex er δ S1)
theorem RpF.append {K : PySem.W.Frag} {I : Hp} {α : Am} : ∀ {vs : List (Str × V)} {ds : List (Str × D)} {ws es}, RpF K I α vs ds → RpF K I α ws es → RpF K I α (vs ++ ws) (ds ++ es)
  | _, _, _, _, .nil, s => s
  | _, _, _, _, .cons h r, s => .cons h (RpF.append r s)
theorem RpF.reverse {K : PySem.W.Frag} {I : Hp} {α : Am} : ∀ {vs : List (Str × V)} {ds : List (Str × D)}, RpF K I α vs ds → RpF K I α vs.reverse ds.reverse
  | _, _, .nil => .nil
  | _, _, .cons h r => by
    rw [List.reverse_cons, List.reverse_cons]
    exact (RpF.reverse r).append (.cons h .nil)
theorem rpf_zip {K : PySem.W.Frag} {I : Hp} {α : Am} : ∀ (fs : List Str) {vs : List V} {ds : List D}, RpL K I α vs ds → RpF K I α (fs.zip vs) (fs.zip ds)
  | [], _, _, _ => .nil
  | _ :: _, _, _, .nil => .nil
  | f :: fs, _, _, .cons h r => .cons h (rpf_zip fs r)
section
variable {X : Cx} {W : WX} {x : Str} {C : Addr} {fs : List Str} {p pos rpos : Pos} {e : Expr} {es : List Expr} {ta : DA}
/-- raise C(e, ..) -/
theorem ds_raise (T : ErrC X.prog X.w X.K X.mg X.base x C fs) (hr : Room 2 X.A) (hc : X.calm = true) (tk : Takes X W) (hg : Gl X x) (ha : PA X (e :: es) (toA X.K W ta)) (hdb : (x == ("__debug__" : Str)) = false := by decide)
    (h1 : starEach (e :: es) X.env = (false, eval e X.env) :: starEach es X.env := by rfl) (h2 : (backTo pos (starEach es X.env)).any (·.1) = false := by rfl) : PS X (.Raise (some (.Call (.Name x p) (e :: es) [] pos)) none rpos) (toS X.K W (dRaise C fs ta)) := by
  obtain ⟨fI, fd, ps, hi, ti, hb, hl, F⟩ := T.ini
  refine simp' (ps_raise hc tk (pmk_oex (CX := L2.CX X.prog X.w) T.oex hi ti F hr hb .nil passL hg T.gC ha hdb h1 h2)) fun D σ H ⟨w, δ, B, hH, ok, lo, t, r⟩ => ?_
  subst hH
  refine ⟨w, δ, _, _, rfl, ok, lo, t, fun us vs w1 t1 l1 ok1 r1 => ?_, r.eC lo⟩
  obtain ⟨hn, hB⟩ := t1
  have hvl : vs.length = fs.length := by rw [r1.length]; exact hn
  have few := T.few
  refine ⟨by omega, fun y hy => ⟨y, vs, by rw [List.append_nil], hvl, by rw [List.append_nil, List.length_cons, hvl, hl], upd_same, fun d hd hne => ⟨rfl, d, (fs.zip vs).reverse, upd_same, (upd_ne hne).trans upd_same, ?_, ?_⟩⟩⟩
  · rw [upd_ne hne] at hd
    exact hd
  · have hd1 : w1.H d = none := by
      rw [upd_ne hne] at hd
      exact hd
    have e1 : upd (L2.del (upd (upd (upd w1.H y (exo y C none)) d (exd d (fs.zip vs).reverse)) y (exo y C (some d))) y) d (.xd (fs.zip vs).reverse) = upd w1.H d (.xd (fs.zip vs).reverse) := by
      funext b
      by_cases hbd : b = d
      · rw [hbd, upd_same, upd_same]
      · rw [upd_ne hbd, upd_ne hbd]
        by_cases hby : b = y
        · rw [hby, L2.del_same, hy]
        · rw [L2.del_ne hby, upd_ne hby, upd_ne hbd, upd_ne hby]
    rw [e1]
    have l2 : Le w1 (w1.lay d (.xd (fs.zip vs).reverse)) := .lay ok1 hd1
    exact r.ex ⟨C, (fs.zip us).reverse⟩ d δ σ (w1.lay d (.xd (fs.zip vs).reverse)) hB (l1.trans l2) (ok1.lay hd1) ((lo.up l1).up l2) ⟨_, upd_same, (rpf_zip fs (r1.up l2)).reverse⟩
end
/-! ### try -/
/-- a clause: does it take an error of the class; the slot of its name; its suite, for any place of the error and of its dict -/
structure Hd where
  mt : Addr → Option Bool
  sl : Option Nat
  su : Addr → Addr → Err → DS
def unset (o : Option Nat) (δ : Lo) : Lo := match o with
  | none => δ
  | some i => δ.set i none
def heldD (o : Option Nat) (a dx : Addr) (er : Err) (δ : Lo) : Lo := match o with
  | none => δ
  | some i => δ.set i (some (.exc a dx er.C er.fs))
def dHs (B : DEnds) (er : Err) (δ : Lo) (S : Sto) : List Hd → Prop
  | [] => B.ex er δ S
  | h :: r => opt (h.mt er.C) fun b => cnd b (∀ a dx, h.su a dx er { nx := fun δ' S' => B.nx (unset h.sl δ') S', rt := B.rt, bk := fun δ' S' => B.bk (unset h.sl δ') S', ct := fun δ' S' => B.ct (unset h.sl δ') S', ex := fun _ _ _ => False } (heldD h.sl a dx er δ) S) (dHs B er δ S r)
def dTry (hs : List Hd) (body : DS) : DS := fun B δ S => body { nx := B.nx, rt := B.rt, bk := B.bk, ct := B.ct, ex := fun er δ' S' => dHs B er δ' S' hs } δ S
/-- a suite's reading -/
def toSu (K : PySem.W.Frag) (su : Addr → Addr → Err → DS) (a : Addr) (cls : Value) (d : Option Addr) : TS := fun D σ H => ∃ (dx : Addr) (er : Err), d = some dx ∧ cls = .ref er.C ∧ toS K W0 (su a dx er) D σ H
inductive HsR (X : Cx) : List ExceptHandler → List (Value × Hd) → Prop
  | nil : HsR X [] []
  | bare {x c s0 ss p1 p2 hs l} {h : Hd} (hc : Names X x c) (hm : ∀ C b, h.mt C = some b → PySem.W.exmOne X.K (.ref C) c = some b) (e : h.sl = none)
      (su : ∀ (a : Addr) (ox : Obj) (dx C : Addr) (fs : List (Str × D)) (pn : List (Addr × Obj)), Zc (.ref C) (some dx) ox → (∃ vs, ox.data = .fields vs) → PSs (X.suite a ((a, ox) :: pn)) (s0 :: ss) (toS X.K W0 (h.su a dx ⟨C, fs⟩))) (r : HsR X hs l) :
      HsR X (.ExceptHandler (some (.Name x p1)) none (s0 :: ss) p2 :: hs) ((c, h) :: l)
  | named {x c s0 ss p1 p2 hs l n i} {h : Hd} (hc : Names X x c) (hm : ∀ C b, h.mt C = some b → PySem.W.exmOne X.K (.ref C) c = some b) (e : h.sl = some i) (hN : X.N.Nodup) (hi : X.N[i]? = some n) (hl : X.env.kindOf n = some .local)
      (su : ∀ (a : Addr) (ox : Obj) (dx C : Addr) (fs : List (Str × D)) (pn : List (Addr × Obj)), Zc (.ref C) (some dx) ox → (∃ vs, ox.data = .fields vs) → PSs (X.suite a ((a, ox) :: pn)) (s0 :: ss) (toS X.K W0 (h.su a dx ⟨C, fs⟩))) (r : HsR X hs l) :
      HsR X (.ExceptHandler (some (.Name x p1)) (some n) (s0 :: ss) p2 :: hs) ((c, h) :: l)
def clOf (K : PySem.W.Frag) (q : Value × Hd) : DLT.Cl := (q.1, q.2.sl, fun a cls d => toSu K q.2.su a cls d)
theorem su_run {X : Cx} {suite : List Stmt} {h : Hd} (su : ∀ (a : Addr) (ox : Obj) (dx C : Addr) (fs : List (Str × D)) (pn : List (Addr × Obj)), Zc (.ref C) (some dx) ox → (∃ vs, ox.data = .fields vs) → PSs (X.suite a ((a, ox) :: pn)) suite (toS X.K W0 (h.su a dx ⟨C, fs⟩)))
    (a : Addr) (ox : Obj) (cls : Value) (d : Option Addr) (pn : List (Addr × Obj)) (hz : Zc cls d ox) (hf : ∃ vs, ox.data = .fields vs) : PSs (X.suite a ((a, ox) :: pn)) suite (toSu X.K h.su a cls d) := ⟨fun pins s σ H D I q => by
  obtain ⟨dx, er, rfl, rfl, q⟩ := q
  exact (su a ox dx er.C er.fs pn hz hf).run pins s σ H D I q⟩
theorem HsR.cls {X : Cx} : ∀ {hs : List ExceptHandler} {l : List (Value × Hd)}, HsR X hs l → DLT.Cls' X hs (l.map (clOf X.K))
  | _, _, .nil => .nil
  | _, _, .bare (c := c) (h := h) hc hm e su r => by
    show DLT.Cls' X _ ((c, h.sl, fun a cls d => toSu X.K h.su a cls d) :: _)
    rw [e]
    exact .bare hc (su_run su) (HsR.cls r)
  | _, _, .named (c := c) (h := h) hc hm e hN hi hl su r => by
    show DLT.Cls' X _ ((c, h.sl, fun a cls d => toSu X.K h.su a cls d) :: _)
    rw [e]
    exact .named hc hN hi hl (su_run su) (HsR.cls r)
theorem HsR.mts {X : Cx} : ∀ {hs : List ExceptHandler} {l : List (Value × Hd)}, HsR X hs l → ∀ q ∈ l, ∀ C b, q.2.mt C = some b → PySem.W.exmOne X.K (.ref C) q.1 = some b
  | _, _, .nil, _, hq => by cases hq
  | _, _, .bare hc hm e su r, q, hq => by
    rcases List.mem_cons.mp hq with rfl | hq
    · exact hm
    · exact HsR.mts r q hq
  | _, _, .named hc hm e hN hi hl su r, q, hq => by
    rcases List.mem_cons.mp hq with rfl | hq
    · exact hm
    · exact HsR.mts r q hq
theorem wish_of {K : PySem.W.Frag} {Wo : WX} {w : Wd} {B : DEnds} {D : Ends} {σ : L2.St} {δ : Lo} {er : Err} {dx : Addr} (ok : Ok K w) (lo : LoR K w σ δ) (re : ErR K w er dx) (r : EndsR K Wo w B D) :
    ∀ l : List (Value × Hd), (∀ q ∈ l, ∀ C b, q.2.mt C = some b → PySem.W.exmOne K (.ref C) q.1 = some b) → dHs B er δ w.S (l.map (·.2)) → DLT.wish K Wo D (l.map (clOf K)) (.ref er.C) (some dx) σ w.H
  | [], _, h => r.ex er dx δ σ w h (.refl w) ok lo re
  | (c, h) :: l, hm, hh => by
    obtain ⟨b, hb, hh⟩ := opt_of hh
    refine ⟨b, hm (c, h) (List.mem_cons_self ..) er.C b hb, fun eb a _ => ?_, fun eb => ?_⟩
    · subst eb
      refine ⟨dx, er, rfl, rfl, w, heldD h.sl a dx er δ, _, rfl, ok, ?_, hh a dx, ?_⟩
      · obtain ⟨vs, h1, h2⟩ := re
        cases h.sl with
        | none => exact lo
        | some i => exact lo.set i (.exc h1 h2)
      · cases hsl : h.sl with
        | none => exact ⟨r.nx, r.rt, r.bk, r.ct, fun _ _ _ _ _ z => z.elim⟩
        | some i => exact ⟨fun δ' σ' w' a b c d => r.nx _ _ w' a b c (d.non i), r.rt, fun δ' σ' w' a b c d => r.bk _ _ w' a b c (d.non i), fun δ' σ' w' a b c d => r.ct _ _ w' a b c (d.non i), fun _ _ _ _ _ z => z.elim⟩
    · subst eb
      exact wish_of ok lo re r l (fun q hq => hm q (List.mem_cons_of_mem _ hq)) hh
section
variable {X : Cx} {W : WX} {body : List Stmt} {h0 : ExceptHandler} {hs : List ExceptHandler} {l : List (Value × Hd)} {tb : DS} {pos : Pos}
theorem ds_try (h1 : X.stack = X.env :: X.outer) (h2 : X.env.frame = some X.env.locals) (tk : Takes X W) (hh : HsR X (h0 :: hs) l)
    (hb : ∀ (W' : WX) (pn : List (Addr × Obj)) (xe : Value → Shared → Prop), Takes (X.tr pn xe) W' → PassesOwn (model X.prog X.w) X.A X.env xe → PSs (X.tr pn xe) body (toS X.K W' tb)) :
    PS X (.Try body (h0 :: hs) [] [] pos) (toS X.K W (dTry (l.map (·.2)) tb)) := simp' (DLT.ps_try (tb := fun W' => toS X.K W' tb) h1 h2 tk hb hh.cls) fun D σ H ⟨w, δ, B, hH, ok, lo, t, r⟩ => by
  subst hH
  exact ⟨w, δ, _, rfl, ok, lo, t, ⟨r.nx, r.rt, r.bk, r.ct, fun er dx δ' σ' w' a b c d e => wish_of c d e (r.up b) l hh.mts a⟩⟩
/-- e.f, e the error that the suite holds, its class one of Cs -/
def dXf (Cs : List Addr) (a dx : Addr) (er : Err) (f : Str) (t : DE) : DE := fun δ S Q E => er.C ∈ Cs ∧ t δ S (fun d S1 => match d with
  | .exc a' dx' C' fs => a' = a ∧ dx' = dx ∧ C' = er.C ∧ opt (fs.lookup f) fun z => Q z S1
  | _ => False) E
theorem de_xf {X : Cx} {a dx C : Addr} {fs : List (Str × D)} {oe : Obj} {pn : List (Addr × Obj)} {e : Expr} {te : DE} {pos : Pos} {n : Str} {Cs : List Addr} (hx : ∀ C ∈ Cs, XfC X.K C ∧ PySem.W.findIn X.K (.ref C) n = some none) (hz : Zc (.ref C) (some dx) oe) (hf : ∃ vs, oe.data = .fields vs)
    (he : PE (X.suite a ((a, oe) :: pn)) e (toE X.K W0 te)) (hb : attributeBase e n X.env (eval e X.env) = eval e X.env := by rfl) : PE (X.suite a ((a, oe) :: pn)) (.Attribute e n pos) (toE X.K W0 (dXf Cs a dx ⟨C, fs⟩ n te)) := by
  by_cases hC : C ∈ Cs
  · refine pimp (pe_xf (hx C hC).1 (hx C hC).2 hz hf he hb) fun σ H Q h => ?_
    obtain ⟨w, δ, Qd, Ed, rfl, ok, lo, ⟨_, t⟩, q, ec⟩ := h
    refine ⟨w, δ, _, Ed, rfl, ok, lo, t, fun d v w1 t1 l1 ok1 r1 => ?_, ec⟩
    cases d with
    | exc a' dx' C' fs' =>
      obtain ⟨rfl, rfl, rfl, h⟩ := t1
      obtain ⟨z, hz', h⟩ := opt_of h
      cases r1 with
      | exc hI rf =>
        obtain ⟨v, hv, rv⟩ := rf.lookup hz'
        exact ⟨rfl, rfl, dx', _, v, rfl, ok1.sub _ _ hI, hv, q z v w1 h l1 ok1 rv⟩
    | _ => exact t1.elim
  · refine ⟨fun pins s σ H Q I h => ?_⟩
    obtain ⟨w, δ, Qd, Ed, _, _, _, ⟨hc, _⟩, _⟩ := h
    exact absurd hc hC
end
end DL

set_option maxHeartbeats 4000000
namespace DL
open PySem PySem.Spec L2
/-! ## 15. isinstance -/
inductive Tag where
  | ty (n : String)
  | own (C : Addr)
deriving DecidableEq
def Tag.val : Tag → Value
  | .ty n => .type n
  | .own C => .ref C
def Tag.v : Tag → V
  | .ty n => .ty n
  | .own C => .ref C
theorem Tag.cls (t : Tag) : ClsV t.v t.val := by
  cases t with
  | ty n => exact .ty n
  | own C => exact .own C
/-- the type of a datum -/
def tyD (S : Sto) : D → Option Tag
  | .non => some (.ty "NoneType")
  | .bl _ => some (.ty "bool")
  | .int _ => some (.ty "int")
  | .str _ => some (.ty "str")
  | .lst _ => some (.ty "list")
  | .rol _ => some (.ty "list")
  | .tup _ => some (.ty "tuple")
  | .ins C _ => some (.own C)
  | .m n => (match S n with
    | some (.lst _) => some (.ty "list")
    | some (.ins C _) => some (.own C)
    | none => none)
  | _ => none
/-- what the written part says of an own class whose instances are asked for their type -/
structure InsT (K : PySem.W.Frag) (C : Addr) : Prop where
  cl : Cls K C
  ha : PySem.W.findIn K (.ref C) "__class__" = some (some (.builtin "object.__class__"))
  hn : PySem.W.specialIn K (.builtin "object.__class__") "__get__" = some (some (.builtin "getset_descriptor.__get__"))
  htk : PySem.W.takesIn K (.builtin "object.__class__") = some true
  hm : PySem.W.mroIn K C (.type "object") = some true
def kTys : List String := ["NoneType", "bool", "int", "str", "list", "tuple"]
/-- is one of the type t an instance of c: Cs, the own classes (none the heir of another) -/
def isi1 (Cs : List Addr) : Tag → Tag → Option Bool
  | .ty a, .ty b => if a ∈ kTys ∧ b ∈ kTys then some (decide (a = b) || (decide (a = "bool") && decide (b = "int"))) else none
  | .ty a, .own C => if a ∈ kTys ∧ C ∈ Cs then some false else none
  | .own C, .ty b => if C ∈ Cs ∧ b ∈ kTys then some false else none
  | .own C, .own C' => if C ∈ Cs ∧ C' ∈ Cs then some (decide (C = C')) else none
structure IsiF (K : PySem.W.Frag) (Cs : List Addr) : Prop where
  ins : ∀ C ∈ Cs, InsT K C
  one : ∀ t c b, isi1 Cs t c = some b → PySem.W.kitOne K t.val c.val = some b
theorem rd_lst {K : PySem.W.Frag} {H : Hp} {p : Addr} {vs : List V} (h : SqL K H p vs) : TyX K H (.ref p) (.type "list") := by
  rcases h with h | ⟨o, its, n, h1, h2, _⟩
  · rcases h with h | ⟨o, h⟩
    · exact .base (.lst h)
    · exact .base (.frz h)
  · exact .kList h1 h2
theorem rd_tup {K : PySem.W.Frag} {H : Hp} {p : Addr} {vs : List V} (h : SqT K H p vs) : TyX K H (.ref p) (.type "tuple") := by
  rcases h with h | ⟨o, its, n, h1, h2, _⟩
  · rcases h with h | ⟨o, h⟩
    · exact .base (.tup h)
    · exact .fTuple h
  · exact .kTuple h1 h2
theorem tyx_of {K : PySem.W.Frag} {w : Wd} {v : V} {d : D} {t : Tag} {Cs : List Addr} (F : IsiF K Cs) (ok : Ok K w) (r : Rp K w.I w.α v d) (h : tyD w.S d = some t) (ht : ∀ C, t = .own C → C ∈ Cs) : TyX K w.H v t.val := by
  cases d with
  | non => cases r; cases h; exact .base .non
  | bl b => cases r; cases h; exact .base (.bl b)
  | int i => cases r; cases h; exact .base (.int i)
  | str i => cases r; cases h; exact .base (.str i)
  | lst xs =>
    obtain ⟨p, vs, rfl, hp, _⟩ := r.lst'
    cases h
    exact .base (.lst (ok.sub _ _ hp))
  | rol xs =>
    obtain ⟨p, vs, rfl, hp, _⟩ := r.rol'
    cases h
    exact rd_lst (ok.sqL hp)
  | tup xs =>
    obtain ⟨p, vs, rfl, hp, _⟩ := r.tup'
    cases h
    exact rd_tup (ok.sqT hp)
  | ins C fs =>
    obtain ⟨p, dx, vs, rfl, hp, _⟩ := r.ins'
    cases h
    have q := F.ins C (ht C rfl)
    exact .base (.ins (ok.sub _ _ hp) q.cl q.ha q.hn q.htk q.hm)
  | m n =>
    unfold tyD at h
    cases e : w.S n with
    | none => simp [e] at h
    | some c =>
      obtain ⟨p, rfl, hp⟩ := r.m'
      obtain ⟨p', o, h1, h2, _, h4⟩ := ok.cel n c e
      rw [hp] at h1
      cases h1
      cases c with
      | lst xs =>
        simp only [e] at h
        cases h
        obtain ⟨vs, rfl, _⟩ := h4
        exact .base (.lst h2)
      | ins C fs =>
        simp only [e] at h
        cases h
        obtain ⟨dx, vs, rfl, _⟩ := h4
        have q := F.ins C (ht C rfl)
        exact .base (.ins h2 q.cl q.ha q.hn q.htk q.hm)
  | cv v => cases h
  | exc => cases h
theorem isi_own {Cs : List Addr} {t c : Tag} {b : Bool} (h : isi1 Cs t c = some b) : ∀ C, t = .own C → C ∈ Cs := by
  rintro C rfl
  cases c with
  | ty n =>
    have h : (if C ∈ Cs ∧ n ∈ kTys then some false else none) = some b := h
    by_cases q : C ∈ Cs ∧ n ∈ kTys
    · exact q.1
    · rw [if_neg q] at h; cases h
  | own C' =>
    have h : (if C ∈ Cs ∧ C' ∈ Cs then some (decide (C = C')) else none) = some b := h
    by_cases q : C ∈ Cs ∧ C' ∈ Cs
    · exact q.1
    · rw [if_neg q] at h; cases h
/-- any of several -/
def isiA (Cs : List Addr) (t : Tag) : List Tag → Option Bool
  | [] => some false
  | c :: cs => match isi1 Cs t c with
    | some true => some true
    | some false => isiA Cs t cs
    | none => none
theorem isiA_kit {K : PySem.W.Frag} {Cs : List Addr} (F : IsiF K Cs) {t : Tag} : ∀ {cs : List Tag} {b : Bool}, isiA Cs t cs = some b → PySem.W.kitAny K t.val (cs.map Tag.val) = some b
  | [], b, h => by
    cases h
    exact kitAny_nil
  | c :: cs, b, h => by
    unfold isiA at h
    split at h
    · rename_i q
      cases h
      exact kitAny_cons (F.one _ _ _ q) (fun z => nomatch z) fun _ => rfl
    · rename_i q
      exact kitAny_cons (F.one _ _ _ q) (fun _ => isiA_kit F h) fun z => nomatch z
    · cases h
def dIsi (Cs : List Addr) (c : Tag) (ta : DE) : DE := fun δ S Q E => ta δ S (fun d S1 => opt (tyD S1 d) fun t => opt (isi1 Cs t c) fun b => Q (.bl b) S1) E
def dIsiT (Cs : List Addr) (c : Tag) (cs : List Tag) (ta : DE) : DE := fun δ S Q E => ta δ S (fun d S1 => opt (tyD S1 d) fun t => opt (isiA Cs t (c :: cs)) fun b => Q (.bl b) S1) E
section
variable {X : Cx} {W : WX} {a e : Expr} {es : List Expr} {ta : DE} {p pos tpos : Pos} {Cs : List Addr}
/-- constants in a row -/
def tCs (vs : List V) : TA := fun _ H Q => Q vs H
theorem pcs_nil : PA X [] (tCs []) := pa_nil
theorem pcs_cons {v : V} {vs : List V} (h : PE X e (tC v)) (hr : PA X es (tCs vs)) (hs : starEach (e :: es) X.env = (false, eval e X.env) :: starEach es X.env := by rfl) : PA X (e :: es) (tCs (v :: vs)) := pimpA (pa_cons h hr hs) fun _ _ _ h => h
theorem de_isi {c : Tag} (F : IsiF X.K Cs) (ha : PE X a (toE X.K W ta)) (hc : PE X e (tC c.v)) (hg : Gl X "isinstance") (hm : X.mg "isinstance" = none) (hv : bootBuiltins "isinstance" = some (.builtin "isinstance"))
    (h0 : starEach (a :: [e]) X.env = (false, eval a X.env) :: starEach [e] X.env := by rfl) (h1 : starEach (e :: []) X.env = (false, eval e X.env) :: starEach [] X.env := by rfl) (hpl : (backTo pos (starEach [e] X.env)).any (·.1) = false := by rfl) :
    PE X (.Call (.Name "isinstance" p) (a :: [e]) [] pos) (toE X.K W (dIsi Cs c ta)) :=
  pimp (pe_callB call_isi hg hm hv (pa_cons ha (pcs_cons hc pcs_nil h1) h0) (by decide) (by decide) h0 hpl) fun σ H Q h => by
  obtain ⟨w, δ, Qd, Ed, rfl, ok, lo, t, q, ec⟩ := h
  refine ⟨w, δ, _, Ed, rfl, ok, lo, t, fun d v w1 t1 l1 ok1 r1 => ?_, ec⟩
  obtain ⟨t', h1, h2⟩ := opt_of t1
  obtain ⟨b, h3, h4⟩ := opt_of h2
  exact ⟨v, c.v, t'.val, c.val, b, rfl, c.cls, tyx_of F ok1 r1 h1 (isi_own h3), F.one _ _ _ h3, q _ _ w1 h4 l1 ok1 (.bl b)⟩
theorem isiA_own {t c : Tag} {cs : List Tag} {b : Bool} (h : isiA Cs t (c :: cs) = some b) : ∀ C, t = .own C → C ∈ Cs := by
  unfold isiA at h
  split at h
  · rename_i q; exact isi_own q
  · rename_i q; exact isi_own q
  · cases h
theorem tags_cls : ∀ cs : List Tag, Paired ClsV (cs.map Tag.v) (cs.map Tag.val)
  | [] => .nil
  | c :: cs => .cons c.cls (tags_cls cs)
theorem de_isiT {c : Tag} {cs : List Tag} {x1} (F : IsiF X.K Cs) (hl : (c :: cs).length ≤ 1000) (ha : PE X a (toE X.K W ta)) (hc : PA X es (tCs ((c :: cs).map Tag.v))) (hg : Gl X "isinstance") (hm : X.mg "isinstance" = none) (hv : bootBuiltins "isinstance" = some (.builtin "isinstance"))
    (h0 : starEach (a :: [.Tuple es x1 tpos]) X.env = (false, eval a X.env) :: starEach [.Tuple es x1 tpos] X.env := by rfl) (h1 : starEach (.Tuple es x1 tpos :: []) X.env = (false, eval (.Tuple es x1 tpos) X.env) :: starEach [] X.env := by rfl)
    (hpl : (backTo pos (starEach [.Tuple es x1 tpos] X.env)).any (·.1) = false := by rfl) :
    PE X (.Call (.Name "isinstance" p) (a :: [.Tuple es x1 tpos]) [] pos) (toE X.K W (dIsiT Cs c cs ta)) :=
  pimp (pe_callB call_isiT hg hm hv (pa_cons ha (pa_cons (pe_tup hc) pa_nil h1) h0) (by decide) (by decide) h0 hpl) fun σ H Q h => by
  obtain ⟨w, δ, Qd, Ed, rfl, ok, lo, t, q, ec⟩ := h
  refine ⟨w, δ, _, Ed, rfl, ok, lo, t, fun d v w1 t1 l1 ok1 r1 => ?_, ec⟩
  obtain ⟨t', h1, h2⟩ := opt_of t1
  obtain ⟨b, h3, h4⟩ := opt_of h2
  refine ⟨by rw [sizeLine_eq, List.length_map]; omega, fun tp htp => ?_⟩
  have ok2 := ok1.lay (o := .tup ((c :: cs).map Tag.v)) htp
  have l2 : Le w1 (w1.lay tp (.tup ((c :: cs).map Tag.v))) := .lay ok1 htp
  exact ⟨v, tp, _, t'.val, _, b, rfl, upd_same, tags_cls _, tyx_of F ok2 (r1.up l2) h1 (isiA_own h3), isiA_kit F h3, q _ _ (w1.lay tp (.tup ((c :: cs).map Tag.v))) h4 (l1.trans l2) ok2 (.bl b)⟩
end
end DL

set_option maxHeartbeats 4000000
namespace DL
open PySem PySem.Spec L2 He
/-! ## 16. The facts of the written part, as checks -/
def oexB (K : PySem.W.Frag) (C : Addr) : Bool := (match K.lookup C with
  | some ⟨.type "type", _, .cls cd, sl⟩ => (match cd.mro, sl.toList with
    | .ref C' :: bm, [_, _, _, _, some (.builtin n), _] => C' == C && (n == "ValueError.__new__" && (!cd.hasDel && (cd.hasDict && PySem.HandSPX.refsVE bm)))
    | _, _ => false)
  | _ => false) && (eqO (PySem.W.findIn K (.ref C) "__setattr__") (some (some (.builtin "object.__setattr__"))) && (decide (PySem.W.subIn K (.ref C) (.type "BaseException") = some true) && (decide (PySem.W.typeIn K (.ref C) = some (.type "type")) && PySem.W.keepIn K (.ref C))))
theorem oexB_ok {K : PySem.W.Frag} {C : Addr} (h : oexB K C = true) : OexC K C := by
  obtain ⟨q, h⟩ := ba h
  obtain ⟨h1, h⟩ := ba h
  obtain ⟨h2, h⟩ := ba h
  obtain ⟨h3, h4⟩ := ba h
  refine ⟨?_, eqO_ok h1, of_decide_eq_true h2, of_decide_eq_true h3, h4⟩
  split at q
  · rename_i dd cd sl ho
    split at q
    · rename_i C' bm k0 k1 k2 k3 n k5 hm hs
      obtain ⟨q1, q⟩ := ba q
      obtain ⟨q2, q⟩ := ba q
      obtain ⟨q3, q⟩ := ba q
      obtain ⟨q4, q5⟩ := ba q
      obtain rfl := beq_iff_eq.mp q1
      obtain rfl := beq_iff_eq.mp q2
      obtain ⟨nm, bs, mro, ns, qn, hd, sn, sub, ab, col, del⟩ := cd
      dsimp only at hm q3 q4
      subst hm q4
      have q3 : del = false := by simpa using q3
      subst q3
      have hsl : sl = #[k0, k1, k2, k3, some (.builtin "ValueError.__new__"), k5] := by
        obtain ⟨l⟩ := sl
        simp only at hs
        rw [hs]
      subst hsl
      exact ⟨nm, qn, ns, bs, bm, sn, sub, ab, col, dd, k0, k1, k2, k3, k5, ho, q5⟩
    · cases q
  · cases q
/-- an error's __init__ -/
structure ErD where
  C : Addr
  qual : Str
  params : Arguments
  body : List Stmt
  scope : Scope
abbrev FnE : Type := Option (Str × Str × Arguments × FuncBody × Scope × Addr × Addr)
def errV (K : PySem.W.Frag) (C : Addr) : FnE := match K.lookup (ma K C "__init__") with
  | some ⟨_, _, .func fd, _⟩ => some (fd.name, fd.qualname, fd.params, fd.body, fd.scope, fd.globals, fd.builtins)
  | _ => none
def ErD.val (d : ErD) : FnE := some ("__init__", d.qual, d.params, .stmts d.body, d.scope, mainGlobals, builtinsNs)
def fileIs (file : Str) : Option Value → Bool
  | some (.str f _) => file == f
  | _ => false
theorem fileIs_ok {file : Str} {o : Option Value} (h : fileIs file o = true) : ∃ fl tf, o = some (.str fl tf) ∧ (file == fl) = true := by
  unfold fileIs at h
  split at h
  · exact ⟨_, _, rfl, h⟩
  · cases h
def errB (file : Str) (K : PySem.W.Frag) (d : ErD) : Bool := oexB K d.C && (eqO (PySem.W.findIn K (.ref d.C) "__init__") (some (some (.ref (ma K d.C "__init__")))) && (decide (PySem.W.typeIn K (.ref (ma K d.C "__init__")) = some (.type "function")) &&
  ((match K.lookup (ma K d.C "__init__") with
    | some ⟨_, _, .func fd, _⟩ => (match fd.closure, fd.defaults, fd.code with
      | [(n, cc)], .none, .ref c => n == ("__class__" : Str) && ((match K.lookup cc with
          | some ⟨_, _, .cell (some (.ref C')), _⟩ => C' == d.C
          | _ => false) && (PySem.W.codeIn K (.ref c) d.qual && (match K.lookup c with
          | some ⟨_, _, .fields vs, _⟩ => fileIs file (vs[2]?)
          | _ => false)))
      | _, _, _ => false)
    | _ => false) &&
  (eqO (PySem.W.ks_superIn K d.C d.C "__init__") (some (some (.builtin "ValueError.__init__"))) && (decide (PySem.W.mroIn K d.C (.ref d.C) = some true) && (decide (PySem.W.subIn K (.ref d.C) (.type "ValueError") = some true) && eqO (PySem.W.nsIn K cStatics "thirdparty.any") (some none)))))))
structure ErrT (file : Str) (K : PySem.W.Frag) (d : ErD) : Prop where
  oex : OexC K d.C
  fn : ∃ (fI cc c : Addr) (kV doc pm : Value) (an : Option Addr) (ctv oc : Value) (od : Option Addr) (osl : Array (Option Value)), PySem.W.findIn K (.ref d.C) "__init__" = some (some (.ref fI)) ∧ PySem.W.typeIn K (.ref fI) = some (.type "function") ∧
    K.lookup fI = some ⟨oc, od, .func (PySem.W.fnX "__init__" d.qual d.params d.body d.scope [(("__class__" : Str), cc)] .none kV doc pm an (.ref c) ctv), osl⟩ ∧ (∃ ccl ccd ccs, K.lookup cc = some ⟨ccl, ccd, .cell (some (.ref d.C)), ccs⟩) ∧ PySem.W.codeIn K (.ref c) d.qual = true ∧
    ∃ (vs : Array Value) (fl : Str) (tf : Tok) (c1 : Value) (c2 : Option Addr) (c3 : Array (Option Value)), K.lookup c = some ⟨c1, c2, .fields vs, c3⟩ ∧ vs[2]? = some (.str fl tf) ∧ (file == fl) = true
  sup : PySem.W.ks_superIn K d.C d.C "__init__" = some (some (.builtin "ValueError.__init__"))
  self : PySem.W.mroIn K d.C (.ref d.C) = some true
  ve : PySem.W.subIn K (.ref d.C) (.type "ValueError") = some true
  third : PySem.W.nsIn K cStatics "thirdparty.any" = some none
theorem errB_ok {file : Str} {K : PySem.W.Frag} {d : ErD} (h : errB file K d = true) (e : errV K d.C = d.val) : ErrT file K d := by
  obtain ⟨h1, h⟩ := ba h
  obtain ⟨h2, h⟩ := ba h
  obtain ⟨h3, h⟩ := ba h
  obtain ⟨h4, h⟩ := ba h
  obtain ⟨h5, h⟩ := ba h
  obtain ⟨h6, h⟩ := ba h
  obtain ⟨h7, h8⟩ := ba h
  refine ⟨oexB_ok h1, ?_, eqO_ok h5, of_decide_eq_true h6, of_decide_eq_true h7, eqO_ok h8⟩
  unfold errV at e
  cases q : K.lookup (ma K d.C "__init__") with
  | none => rw [q] at e; cases e
  | some o =>
    obtain ⟨oc, od, dt, osl⟩ := o
    rw [q] at e h4
    cases dt with
    | func fd =>
      obtain ⟨n1, n2, n3, n4, n5, n6, n7, n8, n9, n10, n11, n12, n13, n14, n15⟩ := fd
      have e2 : (some (n1, n2, n3, n4, n5, n6, n15) : FnE) = some (("__init__" : Str), d.qual, d.params, FuncBody.stmts d.body, d.scope, mainGlobals, builtinsNs) := e
      simp only [Option.some.injEq, Prod.mk.injEq] at e2
      obtain ⟨g1, g2, g3, g4, g5, g6, g7⟩ := e2
      subst g1 g2 g3 g4 g5 g6 g7
      dsimp only at h4
      split at h4
      · rename_i n cc c
        obtain ⟨k1, h4⟩ := ba h4
        obtain ⟨k2, h4⟩ := ba h4
        obtain ⟨k3, k4⟩ := ba h4
        obtain rfl := beq_iff_eq.mp k1
        refine ⟨ma K d.C "__init__", cc, c, n9, n10, n11, n12, n14, oc, od, osl, eqO_ok h2, of_decide_eq_true h3, q, ?_, k3, ?_⟩
        · split at k2
          · rename_i ccl ccd C' ccs hcc
            obtain rfl := beq_iff_eq.mp k2
            exact ⟨_, _, _, hcc⟩
          · cases k2
        · split at k4
          · rename_i c1 c2 vs c3 hc
            obtain ⟨fl, tf, hv, hf⟩ := fileIs_ok k4
            exact ⟨vs, fl, tf, c1, c2, c3, hc, hv, hf⟩
          · cases k4
      · cases h4
    | _ => cases e
/-! ### own classes -/
def insB (K : PySem.W.Frag) (C : Addr) : Bool := (PySem.W.plainGet K C Str.empty && (PySem.W.hasDictIn K C && (PySem.W.plainOver K C && eqO (PySem.W.findIn K (.ref C) "__setattr__") (some (some (.builtin "object.__setattr__")))))) &&
  (eqO (PySem.W.findIn K (.ref C) "__class__") (some (some (.builtin "object.__class__"))) && (eqO (PySem.W.specialIn K (.builtin "object.__class__") "__get__") (some (some (.builtin "getset_descriptor.__get__"))) &&
  (decide (PySem.W.takesIn K (.builtin "object.__class__") = some true) && decide (PySem.W.mroIn K C (.type "object") = some true))))
theorem insB_ok {K : PySem.W.Frag} {C : Addr} (h : insB K C = true) : InsT K C := by
  obtain ⟨c, h⟩ := ba h
  obtain ⟨c1, c⟩ := ba c
  obtain ⟨c2, c⟩ := ba c
  obtain ⟨c3, c4⟩ := ba c
  obtain ⟨h1, h⟩ := ba h
  obtain ⟨h2, h⟩ := ba h
  obtain ⟨h3, h4⟩ := ba h
  exact ⟨⟨c1, c2, c3, eqO_ok c4⟩, eqO_ok h1, eqO_ok h2, of_decide_eq_true h3, of_decide_eq_true h4⟩
def tagsOf (Cs : List Addr) : List Tag := kTys.map Tag.ty ++ Cs.map Tag.own
def isiB (Cs : List Addr) (K : PySem.W.Frag) : Bool := Cs.all (insB K) && (tagsOf Cs).all fun t => (tagsOf Cs).all fun c => decide (PySem.W.kitOne K t.val c.val = isi1 Cs t c)
theorem isi_in {Cs : List Addr} {t c : Tag} {b : Bool} (h : isi1 Cs t c = some b) : t ∈ tagsOf Cs ∧ c ∈ tagsOf Cs := by
  have ty : ∀ {n : String}, n ∈ kTys → Tag.ty n ∈ tagsOf Cs := fun h => List.mem_append_left _ (List.mem_map_of_mem h)
  have ow : ∀ {n : Addr}, n ∈ Cs → Tag.own n ∈ tagsOf Cs := fun h => List.mem_append_right _ (List.mem_map_of_mem h)
  cases t with
  | ty a =>
    cases c with
    | ty b =>
      by_cases q : a ∈ kTys ∧ b ∈ kTys
      · exact ⟨ty q.1, ty q.2⟩
      · have h : (if a ∈ kTys ∧ b ∈ kTys then _ else none) = some _ := h
        rw [if_neg q] at h; cases h
    | own b =>
      by_cases q : a ∈ kTys ∧ b ∈ Cs
      · exact ⟨ty q.1, ow q.2⟩
      · have h : (if a ∈ kTys ∧ b ∈ Cs then _ else none) = some _ := h
        rw [if_neg q] at h; cases h
  | own a =>
    cases c with
    | ty b =>
      by_cases q : a ∈ Cs ∧ b ∈ kTys
      · exact ⟨ow q.1, ty q.2⟩
      · have h : (if a ∈ Cs ∧ b ∈ kTys then _ else none) = some _ := h
        rw [if_neg q] at h; cases h
    | own b =>
      by_cases q : a ∈ Cs ∧ b ∈ Cs
      · exact ⟨ow q.1, ow q.2⟩
      · have h : (if a ∈ Cs ∧ b ∈ Cs then _ else none) = some _ := h
        rw [if_neg q] at h; cases h
theorem isiB_ok {K : PySem.W.Frag} {Cs : List Addr} (h : isiB Cs K = true) : IsiF K Cs := by
  obtain ⟨h1, h2⟩ := ba h
  refine ⟨fun C hC => insB_ok (List.all_eq_true.mp h1 C hC), fun t c b e => ?_⟩
  obtain ⟨i1, i2⟩ := isi_in e
  have q := of_decide_eq_true (List.all_eq_true.mp (List.all_eq_true.mp h2 t i1) c i2)
  rw [q]
  exact e
/-- which errors a clause takes -/
def exmB (tab : List (Addr × Bool)) (c : Addr) (K : PySem.W.Frag) : Bool := tab.all fun p => decide (PySem.W.exmOne K (.ref p.1) (.ref c) = some p.2)
theorem exmB_ok {K : PySem.W.Frag} {c : Addr} : ∀ {tab : List (Addr × Bool)}, exmB tab c K = true → ∀ C b, tab.lookup C = some b → PySem.W.exmOne K (.ref C) (.ref c) = some b
  | [], _, _, _, h => by cases h
  | (C', b') :: r, h, C, b, e => by
    obtain ⟨h1, h2⟩ := ba (show (decide (PySem.W.exmOne K (.ref C') (.ref c) = some b') && r.all fun p => decide (PySem.W.exmOne K (.ref p.1) (.ref c) = some p.2)) = true from h)
    rw [List.lookup_cons] at e
    cases q : C == C' with
    | true =>
      rw [q] at e
      cases e
      rw [beq_iff_eq.mp q]
      exact of_decide_eq_true h1
    | false =>
      rw [q] at e
      exact exmB_ok h2 C b e
theorem glob_tup {K : PySem.W.Frag} {x : Str} {ns : List Int} (h : tupB K x (ns.map Dv.int) = true) (I : Hp) (α : Am) : Rp K I α (.ref (ga K x)) (.tup (ns.map D.int)) := by
  refine .tup (tupB_ok h I) ?_
  rw [List.map_map]
  exact rpl_ints ns
/-! ### the Hook -/
structure HkD where
  fa : List Fa
  fn : List DefD
  bs : List (PySem.W.Frag → Bool)
  en : List ErD
abbrev AlH : Type := Bool × List FnW × List FnE
def obsH (file : Str) (q : HkD) (K : PySem.W.Frag) : AlH := ((q.fa.all fun f => f.ok K) && ((q.fn.all fun d => d.ok K) && ((q.bs.all fun b => b K) && q.en.all fun d => errB file K d)), q.fn.map fun d => fnW K d.at_, q.en.map fun d => errV K d.C)
def valH (q : HkD) : AlH := (true, q.fn.map DefD.val, q.en.map ErD.val)
def SaysH (file : Str) (q : HkD) (K : PySem.W.Frag) : Prop := obsH file q K = valH q
def obsHG (n : Nat) (file : Str) (q : HkD) (g : Addr → Option Obj) : AlH := obsH file q (frG g (cStatics :: asD g n))
def hookH (n : Nat) (file : Str) (q : HkD) : PySem.W.Hook where
  α := AlH
  obs := fun s => obsHG n file q s.heap.get?
  val := fun _ => valH q
  says := fun _ h => ∃ K : PySem.W.Frag, K.In h ∧ SaysH file q K
  of := fun _ _ e => ⟨_, frG_in, e⟩
  keeps := fun _ _ _ ⟨K, hK, c⟩ k => ⟨K, PySem.W.Frag.In.keeps hK k, c⟩
theorem obsHG_eq {n : Nat} {file : Str} {q : HkD} {g : Addr → Option Obj} {s : Shared} (h : ∀ a, g a = s.heap.get? a) : obsHG n file q g = (hookH n file q).obs s := by
  have e : g = s.heap.get? := funext h
  rw [e] <;> rfl
section
variable {file : Str} {q : HkD} {K : PySem.W.Frag}
theorem SaysH.all (c : SaysH file q K) : (q.fa.all fun f => f.ok K) = true ∧ (q.fn.all fun d => d.ok K) = true ∧ (q.bs.all fun b => b K) = true ∧ (q.en.all fun d => errB file K d) = true := by
  obtain ⟨a, h⟩ := ba (show ((q.fa.all fun f => f.ok K) && ((q.fn.all fun d => d.ok K) && ((q.bs.all fun b => b K) && q.en.all fun d => errB file K d))) = true from congrArg (fun z : AlH => z.1) c)
  obtain ⟨b, h⟩ := ba h
  obtain ⟨c, d⟩ := ba h
  exact ⟨a, b, c, d⟩
theorem SaysH.fact (c : SaysH file q K) (i : Nat) {f : Fa} (h : q.fa[i]? = some f := by rfl) : f.ok K = true := List.all_eq_true.mp c.all.1 f (List.mem_of_getElem? h)
theorem SaysH.bool (c : SaysH file q K) (i : Nat) {f : PySem.W.Frag → Bool} (h : q.bs[i]? = some f := by rfl) : f K = true := List.all_eq_true.mp c.all.2.2.1 f (List.mem_of_getElem? h)
theorem SaysH.def_ (c : SaysH file q K) (i : Nat) {d : DefD} (h : q.fn[i]? = some d := by rfl) : ∃ fd, FunD K d.name d.qual d.params d.body d.scope (d.dvs K) (d.kws K) (fAd K d.at_) fd := by
  have e : q.fn.map (fun d => fnW K d.at_) = q.fn.map DefD.val := congrArg (fun z : AlH => z.2.1) c
  have e2 : (q.fn.map fun d => fnW K d.at_)[i]? = (q.fn.map DefD.val)[i]? := by rw [e]
  rw [List.getElem?_map, List.getElem?_map, h] at e2
  exact DefD.funD (Option.some.inj e2) (List.all_eq_true.mp c.all.2.1 d (List.mem_of_getElem? h))
theorem SaysH.err (c : SaysH file q K) (i : Nat) {d : ErD} (h : q.en[i]? = some d := by rfl) : ErrT file K d := by
  have e : q.en.map (fun d => errV K d.C) = q.en.map ErD.val := congrArg (fun z : AlH => z.2.2) c
  have e2 : (q.en.map fun d => errV K d.C)[i]? = (q.en.map ErD.val)[i]? := by rw [e]
  rw [List.getElem?_map, List.getElem?_map, h] at e2
  exact errB_ok (List.all_eq_true.mp c.all.2.2.2 d (List.mem_of_getElem? h)) (Option.some.inj e2)
end
end DL

set_option maxHeartbeats 4000000
namespace DL
open PySem PySem.Spec L2 He
/-! ## 17. Errors by their text -/
section
variable {P : Program} {w : World} {K : PySem.W.Frag} {mg : Str → Option Value} {base : Heap} {d : ErD} {x : Str}
theorem supC_of (T : ErrT P.main.file K d) {F : NdefX.NF} {cc : Addr} (hc : ∃ ccl ccd ccs, K.lookup cc = some ⟨ccl, ccd, .cell (some (.ref d.C)), ccs⟩) (hcode : PySem.W.codeIn K (.ref F.c) F.qual = true)
    (hf : ∃ (vs : Array Value) (fl : Str) (tf : Tok) (c1 : Value) (c2 : Option Addr) (c3 : Array (Option Value)), K.lookup F.c = some ⟨c1, c2, .fields vs, c3⟩ ∧ vs[2]? = some (.str fl tf) ∧ (P.main.file == fl) = true) (noS : mg "super" = none) (top : (P.main.scope.names.lookup ("super" : Str)).isSome = false) :
    DLX.SupC P K mg d.C cc F := ⟨T.oex, hc, hcode, hf, T.sup, T.self, T.ve, T.third, noS, top⟩
theorem err1 (T : ErrT P.main.file K d) (noS : mg "super" = none) (top : (P.main.scope.names.lookup ("super" : Str)).isSome = false) (gC : mg x = some (.ref d.C)) {f : Str} {p0 p1 p2 p3 p4 q1 q2 q3 q4 q5 : Pos} {ar : Arg}
    (hbody : d.body = [.Expr (.Call (.Attribute (.Call (.Name "super" p0) [] [] p1) "__init__" p2) [.Name f q1] [] p3) p4, .Assign [.Attribute (.Name "self" q2) f q3] (.Name f q4) q5])
    (S : NdefX.NScope ["self", f, "__class__"] ["self", f] ["__class__"] d.scope) (har : (d.params.posonlyargs ++ d.params.args).head? = some ar) (ha2 : ar.arg = "self") (hks : d.scope.names.lookup ("super" : Str) = some .globalImplicit)
    (hno : PySem.W.findIn K (.ref d.C) f = some none)
    (hbind : ∀ (cl : List (Str × Addr)) (kV doc pm : Value) (an : Option Addr) (cdv ct : Value) (us : List Value), us.length = 2 → bindArgs (PySem.W.fnX "__init__" d.qual d.params d.body d.scope cl .none kV doc pm an cdv ct) ⟨us, []⟩ = pure ((["self", f] : List Str).zip us))
    (hev : ∀ env : Env, eval (.Call (.Attribute (.Call (.Name "super" p0) [] [] p1) "__init__" p2) [.Name f q1] [] p3) env = (do
      let ov ← attributeBase (.Call (.Name "super" p0) [] [] p1) "__init__" env (eval (.Call (.Name "super" p0) [] [] p1) env)
      standAt p2.atName
      let (f', first) ← holding [ov] (getMethod ov "__init__" (do return (← importBound (.Call (.Name "super" p0) [] [] p1) env).getD true))
      callWith p3 f' first (backTo p3 (starEach [.Name f q1] env)) []))
    (hd1 : (f == ("__debug__" : Str)) = false := by decide) (hd2 : (f == ("__classdict__" : Str)) = false := by decide) : ErrC P w K mg base x d.C [f] := by
  obtain ⟨fI, cc, c, kV, doc, pm, an, ctv, oc, od, osl, i1, i2, i3, i4, i5, i6⟩ := T.fn
  refine ⟨gC, T.oex, Nat.le_of_ble_eq_true rfl, fI, PySem.W.fnX "__init__" d.qual d.params d.body d.scope [(("__class__" : Str), cc)] .none kV doc pm an (.ref c) ctv, ["self", f], i1, i2, .all (fun us hl => hbind _ _ _ _ _ _ _ us hl), rfl, ?_⟩
  refine DLX.sup_ok (P := P) (w := w) (K := K) (mg := mg) (base := base) (CX := L2.CX P w) (N := ["self", f, "__class__"]) (ps := ["self", f]) (F := ⟨"__init__", d.qual, d.params, d.body, d.scope, [(("__class__" : Str), cc)], c⟩) (C := d.C) (cc := cc) (k := 0) (e := .Name f q1) (es := []) (rest := [.Assign [.Attribute (.Name "self" q2) f q3] (.Name f q4) q5])
    (pl := fun env => do return (← importBound (.Call (.Name "super" p0) [] [] p1) env).getD true) (supC_of T i4 i5 i6 noS top) i3 rfl S hbody har (by rw [ha2]; rfl) hks (fun vs H Q E h => ?_) (fun env => rfl) (fun env => rfl) hev (fun env => rfl) fun A outer s H vs Q E h => ?_
  · obtain ⟨y, ws, rfl, h1, h2, _⟩ := h
    exact h2
  · obtain ⟨y, ws, rfl, h1, h2, h3, h4⟩ := h
    match ws, h1 with
    | [v], _ =>
    have kf : Vis d.scope f := Or.inl (S.par f (by simp))
    have ks : Vis d.scope ("self" : Str) := Or.inl (S.par "self" (by simp))
    refine ⟨tCons (tVar 1) tNil, tOst K f (tVar 0) (tVar 1), y, [v], rfl, h3, pa_cons (pv 1 rfl kf hd1 hd2) pa_nil, pss_one (ps_ost (pv 0 rfl ks) (pv 1 rfl kf hd1 hd2)), ?_, ?_⟩
    · exact ⟨v, rfl, rfl, Nat.le_of_ble_eq_true rfl⟩
    · exact ⟨v, rfl, .ref y, rfl, y, d.C, rfl, T.oex, hno, Or.inl ⟨h3, fun dx hdx hne => h4 dx hdx hne⟩⟩
theorem err2 (T : ErrT P.main.file K d) (noS : mg "super" = none) (top : (P.main.scope.names.lookup ("super" : Str)).isSome = false) (gC : mg x = some (.ref d.C)) {f g : Str} {p0 p1 p2 p3 p4 q1 q2 q3 q4 q5 r1 r2 r3 r4 r5 : Pos} {ar : Arg}
    (hbody : d.body = [.Expr (.Call (.Attribute (.Call (.Name "super" p0) [] [] p1) "__init__" p2) [.Name f q1, .Name g r1] [] p3) p4, .Assign [.Attribute (.Name "self" q2) f q3] (.Name f q4) q5, .Assign [.Attribute (.Name "self" r2) g r3] (.Name g r4) r5])
    (S : NdefX.NScope ["self", f, g, "__class__"] ["self", f, g] ["__class__"] d.scope) (har : (d.params.posonlyargs ++ d.params.args).head? = some ar) (ha2 : ar.arg = "self") (hks : d.scope.names.lookup ("super" : Str) = some .globalImplicit)
    (hno : PySem.W.findIn K (.ref d.C) f = some none) (hno2 : PySem.W.findIn K (.ref d.C) g = some none)
    (hbind : ∀ (cl : List (Str × Addr)) (kV doc pm : Value) (an : Option Addr) (cdv ct : Value) (us : List Value), us.length = 3 → bindArgs (PySem.W.fnX "__init__" d.qual d.params d.body d.scope cl .none kV doc pm an cdv ct) ⟨us, []⟩ = pure ((["self", f, g] : List Str).zip us))
    (hev : ∀ env : Env, eval (.Call (.Attribute (.Call (.Name "super" p0) [] [] p1) "__init__" p2) [.Name f q1, .Name g r1] [] p3) env = (do
      let ov ← attributeBase (.Call (.Name "super" p0) [] [] p1) "__init__" env (eval (.Call (.Name "super" p0) [] [] p1) env)
      standAt p2.atName
      let (f', first) ← holding [ov] (getMethod ov "__init__" (do return (← importBound (.Call (.Name "super" p0) [] [] p1) env).getD true))
      callWith p3 f' first (backTo p3 (starEach [.Name f q1, .Name g r1] env)) []))
    (hd1 : (f == ("__debug__" : Str)) = false := by decide) (hd2 : (f == ("__classdict__" : Str)) = false := by decide) (hd3 : (g == ("__debug__" : Str)) = false := by decide) (hd4 : (g == ("__classdict__" : Str)) = false := by decide) : ErrC P w K mg base x d.C [f, g] := by
  obtain ⟨fI, cc, c, kV, doc, pm, an, ctv, oc, od, osl, i1, i2, i3, i4, i5, i6⟩ := T.fn
  refine ⟨gC, T.oex, Nat.le_of_ble_eq_true rfl, fI, PySem.W.fnX "__init__" d.qual d.params d.body d.scope [(("__class__" : Str), cc)] .none kV doc pm an (.ref c) ctv, ["self", f, g], i1, i2, .all (fun us hl => hbind _ _ _ _ _ _ _ us hl), rfl, ?_⟩
  refine DLX.sup_ok (P := P) (w := w) (K := K) (mg := mg) (base := base) (CX := L2.CX P w) (N := ["self", f, g, "__class__"]) (ps := ["self", f, g]) (F := ⟨"__init__", d.qual, d.params, d.body, d.scope, [(("__class__" : Str), cc)], c⟩) (C := d.C) (cc := cc) (k := 0) (e := .Name f q1) (es := [.Name g r1]) (rest := [.Assign [.Attribute (.Name "self" q2) f q3] (.Name f q4) q5, .Assign [.Attribute (.Name "self" r2) g r3] (.Name g r4) r5])
    (pl := fun env => do return (← importBound (.Call (.Name "super" p0) [] [] p1) env).getD true) (supC_of T i4 i5 i6 noS top) i3 rfl S hbody har (by rw [ha2]; rfl) hks (fun vs H Q E h => ?_) (fun env => rfl) (fun env => rfl) hev (fun env => rfl) fun A outer s H vs Q E h => ?_
  · obtain ⟨y, ws, rfl, h1, h2, _⟩ := h
    exact h2
  · obtain ⟨y, ws, rfl, h1, h2, h3, h4⟩ := h
    match ws, h1 with
    | [v, u], _ =>
    have kf : Vis d.scope f := Or.inl (S.par f (by simp))
    have kg : Vis d.scope g := Or.inl (S.par g (by simp))
    have ks : Vis d.scope ("self" : Str) := Or.inl (S.par "self" (by simp))
    refine ⟨tCons (tVar 1) (tCons (tVar 2) tNil), tSeq (tOst K f (tVar 0) (tVar 1)) (tOst K g (tVar 0) (tVar 2)), y, [v, u], rfl, h3, pa_cons (pv 1 rfl kf hd1 hd2) (pa_cons (pv 2 rfl kg hd3 hd4) pa_nil), pss_cons (ps_ost (pv 0 rfl ks) (pv 1 rfl kf hd1 hd2)) (pss_one (ps_ost (pv 0 rfl ks) (pv 2 rfl kg hd3 hd4))), ?_, ?_⟩
    · exact ⟨v, rfl, u, rfl, rfl, Nat.le_of_ble_eq_true rfl⟩
    · refine ⟨v, rfl, .ref y, rfl, y, d.C, rfl, T.oex, hno, Or.inl ⟨h3, fun dx hdx hne => ?_⟩⟩
      refine ⟨u, rfl, .ref y, rfl, y, d.C, rfl, T.oex, hno2, Or.inr ⟨dx, [(f, v)], upd_same, (upd_ne hne).trans upd_same, Nat.le_of_ble_eq_true rfl, ?_⟩⟩
      have q := h4 dx hdx hne
      have e1 : upd (upd (upd H dx (exd dx [(f, v)])) y (exo y d.C (some dx))) dx (exd dx [(g, u), (f, v)]) = upd (upd H dx (exd dx [(g, u), (f, v)])) y (exo y d.C (some dx)) := by
        funext b
        by_cases hb : b = dx
        · rw [hb, upd_same, upd_ne hne, upd_same]
        · rw [upd_ne hb]
          by_cases hy : b = y
          · rw [hy, upd_same, upd_same]
          · rw [upd_ne hy, upd_ne hy, upd_ne hb, upd_ne hb]
      show Q .non (upd (upd (upd H dx (exd dx [(f, v)])) y (exo y d.C (some dx))) dx (exd dx [(g, u), (f, v)]))
      rw [e1]
      exact q
end
end DL

set_option maxHeartbeats 4000000
namespace DL
open PySem PySem.Spec L2 He
/-! ## 18. What callers take; the ends -/
structure Cal (P : Program) (w0 : World) (K : PySem.W.Frag) (mg : Str → Option Value) (base : Heap) (k : Nat) (f : Addr) (n : Nat) (m : DFn) (dd : List D) : Prop where
  ex : ∃ (fd : FuncData) (ps : List Str) (ds : List Value) (dvs : List V), FnOk P w0 K mg base (L2.CX P w0) k f fd ps (toSp K n m) ∧ Binds K fd ps ds ∧ Vals dvs ds ∧ Dfl K dvs dd ∧ PySem.W.keepIn K (.ref f) = true
theorem Dfl.one {K : PySem.W.Frag} {v : V} {d : D} (h : ∀ I α, Rp K I α v d) : Dfl K [v] [d] := ⟨fun I α => .one (h I α)⟩
section
variable {P : Program} {w0 : World} {K : PySem.W.Frag} {mg : Str → Option Value} {base : Heap}
/-- a def by its body's reading, found by the head -/
theorem fn_okD {x qual : Str} {st : Stmt} {dvs : List V} {f : Addr} {fd : FuncData} {N ps : List Str} {k : Nat} {t : DS} (F : FunD K x qual (defArgs st) (defBody st) (defScope st) dvs [] f fd) (S : FnScope N ps (defScope st))
    (hb : ∀ (cdv : Value) (A : Around) (outer : List Env) (s : Shared) (H : Hp) (E : XK), Room k (A.deeper (PyProof.Rows.envOfC qual (defScope st) s.heap.objs.size f cdv)) → PSs (cxOf (L2.CX P w0) P w0 K mg base N qual (defScope st) f cdv A outer s H E) (defBody st) (toS K (WF E) t)) :
    FnOk P w0 K mg base (L2.CX P w0) (k + 1) f fd ps (toSp K ps.length (fnD N.length t)) := by
  refine F.ok S (fun vs H Q E h => h.1) (fun cdv A outer s H vs Q E hr h => ⟨_, hb cdv A outer s H E hr, ?_⟩)
  obtain ⟨_, w, us, Qd, Ed, rfl, ok, r, h, q, e⟩ := h
  exact ⟨w, _, _, rfl, ok, lo_start r, h, ends_fn q e⟩
/-- nothing is promised: the bottom of a def that calls itself -/
def mBot : DFn := fun _ _ _ _ => False
theorem fn_bot {k n : Nat} {f : Addr} {fd : FuncData} {ps : List Str} : FnOk P w0 K mg base (L2.CX P w0) k f fd ps (toSp K n mBot) := by
  refine ⟨fun vs H Q E h => ?_, fun A outer s H args us vs Q E hr e0 hbi r h => ?_⟩
  · obtain ⟨_, w, us, Qd, Ed, _, _, _, h, _⟩ := h
    exact h.elim
  · obtain ⟨_, w, us, Qd, Ed, _, _, _, h, _⟩ := h
    exact h.elim
theorem Cal.bot {k n : Nat} {f : Addr} {x qual : Str} {st : Stmt} {dvs : List V} {fd : FuncData} {ps : List Str} (F : FunD K x qual (defArgs st) (defBody st) (defScope st) dvs [] f fd) (b : Binds K fd ps []) : Cal P w0 K mg base k f n mBot [] :=
  ⟨fd, ps, [], [], fn_bot, b, .nil, .nil, F.kp⟩
end
section
variable {X : Cx} {W : WX} {k n : Nat} {f C : Addr} {m : DFn} {x mt : Str} {p pos apos : Pos} {o e : Expr} {es : List Expr} {to : DE} {ta : DA} {dd : List D} {pl : Sem Bool}
theorem de_callC (c : Cal X.prog X.w X.K X.mg X.base k f n m dd) (hr : Room k X.A) (tk : Takes X W) (hg : Gl X x) (hm : X.mg x = some (.ref f)) (ha : PA X (e :: es) (toA X.K W ta))
    (hdb : (x == ("__debug__" : Str)) = false := by decide) (h1 : starEach (e :: es) X.env = (false, eval e X.env) :: starEach es X.env := by rfl) (h2 : (backTo pos (starEach es X.env)).any (·.1) = false := by rfl) : PE X (.Call (.Name x p) (e :: es) [] pos) (toE X.K W (dCall n m dd ta)) := by
  obtain ⟨fd, ps, ds, dvs, F, hb, hd, hdd, hk⟩ := c.ex
  exact de_call F hr tk hg hm hk hb hd hdd ha hdb h1 h2
theorem de_methC (c : Cal X.prog X.w X.K X.mg X.base k f n m dd) (ho : PE X o (toE X.K W to)) (cc : Cls X.K C) (hM : Meth X.K C mt f) (hr : Room k X.A) (tk : Takes X W) (ha : PA X (e :: es) (toA X.K W ta))
    (h1 : starEach (e :: es) X.env = (false, eval e X.env) :: starEach es X.env := by rfl) (h2 : (backTo pos (starEach es X.env)).any (·.1) = false := by rfl)
    (h3 : eval (.Call (.Attribute o mt apos) (e :: es) [] pos) X.env = (eval o X.env >>= fun ov => standAt apos.atName >>= fun _ => holding [ov] (getMethod ov mt pl) >>= fun p => callWith pos p.1 p.2 (backTo pos (starEach (e :: es) X.env)) (backToKw pos (keywordEach [] X.env))) := by rfl) :
    PE X (.Call (.Attribute o mt apos) (e :: es) [] pos) (toE X.K W (dMeth C mt n m dd to ta)) := by
  obtain ⟨fd, ps, ds, dvs, F, hb, hd, hdd, hk⟩ := c.ex
  exact de_meth ho cc hM F hr tk hb hd hdd ha h1 h2 h3
theorem de_methC0 (c : Cal X.prog X.w X.K X.mg X.base k f n m dd) (ho : PE X o (toE X.K W to)) (cc : Cls X.K C) (hM : Meth X.K C mt f) (hr : Room k X.A) (tk : Takes X W)
    (h3 : eval (.Call (.Attribute o mt apos) [] [] pos) X.env = (eval o X.env >>= fun ov => standAt apos.atName >>= fun _ => holding [ov] (getMethod ov mt pl) >>= fun p => callWith pos p.1 p.2 (backTo pos (starEach [] X.env)) (backToKw pos (keywordEach [] X.env))) := by rfl) :
    PE X (.Call (.Attribute o mt apos) [] [] pos) (toE X.K W (dMeth C mt n m dd to dNil)) := by
  obtain ⟨fd, ps, ds, dvs, F, hb, hd, hdd, hk⟩ := c.ex
  exact de_meth0 ho cc hM F hr tk hb hd hdd h3
theorem de_makeFC (c : Cal X.prog X.w X.K X.mg X.base k f n m dd) (M : Mk X.K C f) (hr : Room (k + 1) X.A) (tk : Takes X W) (hg : Gl X x) (hm : X.mg x = some (.ref C)) (ha : PA X (e :: es) (toA X.K W ta))
    (hdb : (x == ("__debug__" : Str)) = false := by decide) (h1 : starEach (e :: es) X.env = (false, eval e X.env) :: starEach es X.env := by rfl) (h2 : (backTo pos (starEach es X.env)).any (·.1) = false := by rfl) : PE X (.Call (.Name x p) (e :: es) [] pos) (toE X.K W (dMakeF C n m dd ta)) := by
  obtain ⟨fd, ps, ds, dvs, F, hb, hd, hdd, hk⟩ := c.ex
  exact de_makeF M F hr tk hg hm hb hd hdd ha hdb h1 h2
theorem de_makeMC (c : Cal X.prog X.w X.K X.mg X.base k f n m dd) (M : Mk X.K C f) (hr : Room (k + 1) X.A) (tk : Takes X W) (hg : Gl X x) (hm : X.mg x = some (.ref C)) (ha : PA X (e :: es) (toA X.K W ta))
    (hdb : (x == ("__debug__" : Str)) = false := by decide) (h1 : starEach (e :: es) X.env = (false, eval e X.env) :: starEach es X.env := by rfl) (h2 : (backTo pos (starEach es X.env)).any (·.1) = false := by rfl) : PE X (.Call (.Name x p) (e :: es) [] pos) (toE X.K W (dMakeM C n m dd ta)) := by
  obtain ⟨fd, ps, ds, dvs, F, hb, hd, hdd, hk⟩ := c.ex
  exact de_makeM M F hr tk hg hm hb hd hdd ha hdb h1 h2
end
/-! ### the law's end -/
theorem walk_ofEB {l : PySem.W.OpenLaw} {n k : Nat} {q : Program} {loose : List Str} {XP : (Str → Option Value) → Heap → Prop} {YP : World → Heap → Prop} {d : DefRec} {CX : World → CXT} {x : Str}
    (hn : l.most = some n) (hn2 : n ≤ sizeLine) (hdf : d.params.defaults = []) (hr : Room k callerA)
    (F : ∀ (w : World) (mg : Str → Option Value) (fa : Addr) (h : Heap), YP w h → h.Ns mainGlobals mg → mg d.name = some (.ref fa) →
      ∃ (K : PySem.W.Frag) (fd : FuncData) (sp : Sp), K.In h ∧ (∀ (s : Shared) (u : Value), BindsTo s fd ⟨[u], []⟩ [(x, u)]) ∧
        (∀ (H : Hp) (a : Addr) (ns : List Int), ns.length ≤ n → (∀ z ∈ ns, Builtin.Int.intBits z ≤ 1048576) → SqL K H a (ns.map V.int) → sp [.ref a] H (fun v _ => v = .bl true) fun _ _ _ => False) ∧
        ∀ base : Heap, K.In base → base.Ns mainGlobals mg → FnOk l.prog w K mg base (CX w) k fa fd [x] sp)
    (hCX : ∀ (w : World) (H : Hp) (s : Shared) (e : Value) (s' : Shared), CX w [] H s (fun _ _ _ => False) e s' → False) :
    PySem.W.WalkO q loose XP YP l.row.toRowW d [] (fun f vs => PySem.call f vs) := by
  refine Att.attach_callB hn hdf fun w s₀ s₁ mg mb fa o pm cd doc a vs ns G Y ho hd hcd hmg hobj hints hlen hbits hg => ?_
  obtain ⟨K, fd, sp, KX, hb, hsp, hF⟩ := F w mg fa _ Y G.T.g hmg
  exact law_call KX G.T.g G.T.b G.T.builtins G.T.nolimit hg hobj hints (Nat.le_trans hlen hn2) hr hF hb (fun H hO hS => hsp H a ns hlen hbits hS) fun H e s' => hCX w H s₁ e s'
theorem cx_none {P : Program} (w : World) (H : Hp) (s : Shared) (e : Value) (s' : Shared) (x : L2.CX P w [] H s (fun _ _ _ => False) e s') : False := by
  obtain ⟨_, _, _, _, _, _, _, _, _, _, _, _, _, z⟩ := x
/-- a law's meaning over data -/
theorem law_sp {K : PySem.W.Frag} {m : DFn} {H : Hp} {a : Addr} {ns : List Int} (h : m [.rol (ns.map .int)] (fun _ => none) (fun d _ => d = .bl true) fun _ _ => False) (hS : SqL K H a (ns.map V.int)) : toSp K 1 m [.ref a] H (fun v _ => v = .bl true) fun _ _ _ => False := by
  refine ⟨rfl, ⟨H, fun _ => none, fun _ => none, H⟩, [.rol (ns.map .int)], _, _, rfl, ⟨fun _ _ z => z, fun n c z => (nomatch z), fun n m p z => (absurd rfl z), ⟨0, fun _ _ => rfl⟩⟩, .one (.rol hS (rpl_ints ns)), h, fun d v w' z _ _ r => ?_, fun _ _ _ z => z.elim⟩
  subst z
  exact r.bl'
end DL

set_option maxHeartbeats 4000000
namespace DL
open PySem PySem.Spec L2
/-! ## 19. Short words for the printed readings -/
abbrev oSub : DOp := oI0 fun i j => i - j
abbrev oPow : DOp := oI CPow fun i j => i ^ j.toNat
abbrev oLt : DOp := oC0 fun i j => decide (i < j)
abbrev oLe : DOp := oC0 fun i j => decide (i ≤ j)
abbrev oGt : DOp := oC0 fun i j => decide (j < i)
abbrev oGe : DOp := oC0 fun i j => decide (j ≤ i)
theorem sem_sub {K : PySem.W.Frag} : SemOp K (rI0 fun i j => .int (i - j)) oSub := sem_I0
theorem sem_pow {K : PySem.W.Frag} : SemOp K (rI CPow fun i j => .int (i ^ j.toNat)) oPow := sem_I
theorem sem_lt {K : PySem.W.Frag} : SemOp K (rI0 fun i j => .bl (decide (i < j))) oLt := sem_C0
theorem sem_le {K : PySem.W.Frag} : SemOp K (rI0 fun i j => .bl (decide (i ≤ j))) oLe := sem_C0
theorem sem_gt {K : PySem.W.Frag} : SemOp K (rI0 fun i j => .bl (decide (j < i))) oGt := sem_C0
theorem sem_ge {K : PySem.W.Frag} : SemOp K (rI0 fun i j => .bl (decide (j ≤ i))) oGe := sem_C0
/-- //, %: a positive right side is asked for little, a negative one must be small -/
def oFd : DOp := fun _ x y k => match x, y with
  | .int i, .int j => if 0 < j then j.natAbs.log2 < 9000 ∧ k (.int (i / j)) else (j ≠ 0 ∧ j.natAbs < 1073741824) ∧ k (.int (i.fdiv j))
  | _, _ => False
def oMod : DOp := fun _ x y k => match x, y with
  | .int i, .int j => if 0 < j then k (.int (i % j)) else j ≠ 0 ∧ k (.int (i.fmod j))
  | _, _ => False
def rFdU : R2 := fun x y H Q => rI CDivW (fun i j => .int (i / j)) x y H Q ∨ rI CDivN (fun i j => .int (i.fdiv j)) x y H Q
def rModU : R2 := fun x y H Q => rI (fun _ j => 0 < j) (fun i j => .int (i % j)) x y H Q ∨ rI (fun _ j => j ≠ 0) (fun i j => .int (i.fmod j)) x y H Q
theorem op_fdU {X : Cx} : OpR X (binaryOp .FloorDiv) rFdU := op_fdivW.or op_fdivN
theorem op_modU {X : Cx} : OpR X (binaryOp .Mod) rModU := op_mod.or op_modN
theorem sem_fd {K : PySem.W.Frag} : SemOp K rFdU oFd := by
  intro w x y d e Qd Q ok rx ry h q
  unfold oFd at h
  split at h
  · rename_i i j
    cases rx; cases ry
    by_cases hj : 0 < j
    · rw [if_pos hj] at h
      exact .inl ⟨i, j, rfl, rfl, ⟨hj, h.1⟩, q _ _ w h.2 (.refl w) rfl ok (.int _)⟩
    · rw [if_neg hj] at h
      exact .inr ⟨i, j, rfl, rfl, h.1, q _ _ w h.2 (.refl w) rfl ok (.int _)⟩
  · exact h.elim
theorem sem_mod {K : PySem.W.Frag} : SemOp K rModU oMod := by
  intro w x y d e Qd Q ok rx ry h q
  unfold oMod at h
  split at h
  · rename_i i j
    cases rx; cases ry
    by_cases hj : 0 < j
    · rw [if_pos hj] at h
      exact .inl ⟨i, j, rfl, rfl, hj, q _ _ w h (.refl w) rfl ok (.int _)⟩
    · rw [if_neg hj] at h
      exact .inr ⟨i, j, rfl, rfl, h.1, q _ _ w h.2 (.refl w) rfl ok (.int _)⟩
  · exact h.elim
section
variable {X : Cx} {W : WX} {a b e : Expr} {es : List Expr} {ta tb : DE} {tas : DA} {p pos : Pos}
theorem de_neg (ha : PE X a (toE X.K W ta)) : PE X (.UnaryOp .USub a pos) (toE X.K W (dUn oNeg ta)) := pimp (pe_un un_neg ha) (toE_un sem_neg)
theorem de_ixU (ha : PE X a (toE X.K W ta)) (hb : PE X b (toE X.K W tb)) (hp : PlainIx b := by exact fun _ _ => rfl) : PE X (.Subscript a b pos) (toE X.K W (dBin oIx ta tb)) := de_ix ix_seq sem_ix ha hb hp
theorem de_len (hg : Gl X "len") (hm : X.mg "len" = none) (ha : PA X (e :: es) (toA X.K W tas)) (he : starEach (e :: es) X.env = (false, eval e X.env) :: starEach es X.env := by rfl) (hpl : (backTo pos (starEach es X.env)).any (·.1) = false := by rfl) :
    PE X (.Call (.Name "len" p) (e :: es) [] pos) (toE X.K W (dCl oLen tas)) := de_callB call_len sem_len hg hm PyProof.Rows.Boot.«len» ha (by decide) (by decide) he hpl
theorem de_abs (hg : Gl X "abs") (hm : X.mg "abs" = none) (ha : PA X (e :: es) (toA X.K W tas)) (he : starEach (e :: es) X.env = (false, eval e X.env) :: starEach es X.env := by rfl) (hpl : (backTo pos (starEach es X.env)).any (·.1) = false := by rfl) :
    PE X (.Call (.Name "abs" p) (e :: es) [] pos) (toE X.K W (dCl oAbs tas)) := de_callB call_abs sem_abs hg hm PyProof.Rows.Boot.«abs» ha (by decide) (by decide) he hpl
theorem de_intC (hg : Gl X "int") (hm : X.mg "int" = none) (ha : PA X (e :: es) (toA X.K W tas)) (he : starEach (e :: es) X.env = (false, eval e X.env) :: starEach es X.env := by rfl) (hpl : (backTo pos (starEach es X.env)).any (·.1) = false := by rfl) :
    PE X (.Call (.Name "int" p) (e :: es) [] pos) (toE X.K W (dCl oInt tas)) := de_callTy call_int1 sem_int hg hm PyProof.Rows.Boot.«int» ha (by decide) (by decide) he hpl
theorem de_tupleC (hg : Gl X "tuple") (hm : X.mg "tuple" = none) (ha : PA X (e :: es) (toA X.K W tas)) (he : starEach (e :: es) X.env = (false, eval e X.env) :: starEach es X.env := by rfl) (hpl : (backTo pos (starEach es X.env)).any (·.1) = false := by rfl) :
    PE X (.Call (.Name "tuple" p) (e :: es) [] pos) (toE X.K W (dCl oTuple tas)) := de_callTy call_tuple_of sem_tuple hg hm PyProof.Rows.Boot.«tuple» ha (by decide) (by decide) he hpl
theorem df_listC (hg : Gl X "list") (hm : X.mg "list" = none) (ha : PA X (e :: es) (toA X.K W tas)) (he : starEach (e :: es) X.env = (false, eval e X.env) :: starEach es X.env := by rfl) (hpl : (backTo pos (starEach es X.env)).any (·.1) = false := by rfl) :
    PE X (.Call (.Name "list" p) (e :: es) [] pos) (toF X.K W (dListOf tas)) := df_listOf hg hm PyProof.Rows.Boot.«list» ha he hpl
theorem pc_ty {x : Str} {n : String} (hg : Gl X x) (hm : X.mg x = none) (hv : bootBuiltins x = some (.type n)) (hn : x ≠ "__name__" := by decide) (hd : (x == ("__debug__" : Str)) = false := by decide) : PE X (.Name x pos) (tC (Tag.ty n).v) := pe_bltn hg hm hv rfl hn hd
theorem pc_own {x : Str} {C : Addr} (hg : Gl X x) (hm : X.mg x = some (.ref C)) (hd : (x == ("__debug__" : Str)) = false := by decide) : PE X (.Name x pos) (tC (Tag.own C).v) := pe_glob hg hm rfl hd
end
end DL

set_option maxHeartbeats 4000000
namespace DL
open PySem PySem.Spec L2
/-! ## 20. [e for a in xs for b in ys] -/
def dLc2L (kp : Sto → Prop) (g : DG) (c : DT) (src1 : DI) (g1 : DG) (c1 : DT) (elt : DE) (vs1 : List Nat) (δ : Lo) : List D → List D → Sto → (List D → Sto → Prop) → Prop
  | [], acc, S, Q => kp S ∧ Q acc S
  | d :: ds, acc, S, Q => kp S ∧ g d δ S fun δ1 S1 => c δ1 S1 (fun b S2 => cnd b (src1 δ1 S2 (fun ds1 kp1 S3 => dLcL kp1 g1 c1 elt (wipeD δ1 vs1) ds1 acc S3 fun acc' S4 => dLc2L kp g c src1 g1 c1 elt vs1 δ ds acc' S4 Q) (fun _ _ => False)) (dLc2L kp g c src1 g1 c1 elt vs1 δ ds acc S2 Q)) (fun _ _ => False)
def dLc2 (src : DI) (g : DG) (c : DT) (src1 : DI) (g1 : DG) (c1 : DT) (elt : DE) (vs vs1 : List Nat) : DA := fun δ S Q E => src δ S (fun ds kp S1 => dLc2L kp g c src1 g1 c1 elt vs1 (wipeD δ vs) ds [] S1 Q) E
theorem dLc2L_kp {kp : Sto → Prop} {g : DG} {c : DT} {src1 : DI} {g1 : DG} {c1 : DT} {elt : DE} {vs1 : List Nat} {δ : Lo} {ds acc : List D} {S : Sto} {Q : List D → Sto → Prop} (h : dLc2L kp g c src1 g1 c1 elt vs1 δ ds acc S Q) : kp S := by
  cases ds with
  | nil => exact h.1
  | cons d ds => exact h.1
/-- slots, the object beside changed -/
theorem LoR.upS {K : PySem.W.Frag} {w w' : Wd} {σ : L2.St} {δ : Lo} {H' : Hp} (h : LoR K w σ δ) (l : Le w w') : LoR K (w'.side H') σ δ := ⟨h.1, (h.up l).2⟩
theorem toF_lc2 {K : PySem.W.Frag} {W : WX} {src : DI} {g : TG} {f : DG} {c : DT} {src1 : DI} {g1 : TG} {f1 : DG} {c1 : DT} {elt : DE} {vs vs1 : List Nat} (sg : SemGW K vs g f) (sg1 : SemGW K vs1 g1 f1) (σ : L2.St) (H : Hp) (Q : VK) (h : toF K W (dLc2 src f c src1 f1 c1 elt vs vs1) σ H Q) :
    tLc2 (toI K W src) g (toT K W0 c) (toI K W0 src1) g1 (toT K W0 c1) (toE K W0 elt) vs vs1 σ H Q := by
  obtain ⟨w, δ, Qd, Ed, rfl, ok, lo, t, q, ec⟩ := h
  refine ⟨w, δ, _, Ed, rfl, ok, lo, t, fun ds kp w1 J t1 l1 ok1 wk A hA => ?_, ec⟩
  obtain ⟨f1', f2, f3, f4, f5⟩ := fresh_side (o := .lst []) l1 ok1 hA
  have b0 : Bs (w1.side (upd w1.H A (.lst []))) A := ⟨by show upd w1.H A (.lst []) A ≠ none; rw [upd_same]; simp, f4, f5⟩
  refine ⟨fun i m H' => m = ds.length - i ∧ i ≤ ds.length ∧ ∃ (w' : Wd) (acc : List D) (vacc : List V), w'.H = H' ∧ Le w1 w' ∧ Ok K w' ∧ Bs w' A ∧ w'.H A = some (.lst vacc) ∧ RpL K w'.I w'.α vacc acc ∧ dLc2L kp f c src1 f1 c1 elt vs1 (wipeD δ vs) (ds.drop i) acc w'.S Qd,
    ⟨ds.length, by simp, Nat.zero_le _, w1.side (upd w1.H A (.lst [])), [], [], rfl, .side (HpLe.upd hA), f2, b0, upd_same, .nil, t1⟩, ?_⟩
  rintro i m H' ⟨rfl, hi, w', acc, vacc, rfl, l', ok', b', hA', r', h'⟩
  have low : LoR K w' (L2.wipe σ vs) (wipeD δ vs) := ((lo.up l1).up l').wipe vs
  by_cases hlt : i < ds.length
  · refine .inr ⟨wk.go w' i l'.lw ok' (dLc2L_kp h') hlt, fun H2 => ∃ (w' : Wd) (acc : List D) (vacc : List V), w'.H = H2 ∧ Le w1 w' ∧ Ok K w' ∧ Bs w' A ∧ w'.H A = some (.lst vacc) ∧ RpL K w'.I w'.α vacc acc ∧ dLc2L kp f c src1 f1 c1 elt vs1 (wipeD δ vs) (ds.drop (i + 1)) acc w'.S Qd,
      fun H2 z => ⟨ds.length - (i + 1), by omega, rfl, hlt, z⟩, fun x H2 hy => ?_⟩
    obtain ⟨w2, rfl, l2, ok2, e2, d, hd, rd⟩ := wk.yld w' i x H2 l'.lw ok' (dLc2L_kp h') hlt hy
    rw [List.drop_eq_getElem_cons hlt] at h'
    have hd' : ds[i] = d := by
      rw [List.getElem?_eq_getElem hlt] at hd
      exact Option.some.inj hd
    rw [hd'] at h'
    obtain ⟨_, h'⟩ := h'
    rw [← e2] at h'
    refine sg w2 x d _ _ _ _ ok2 rd (low.up l2) h' fun δ3 σ3 w3 a3 l3 ok3 lo3 ew => ⟨ew.trans (wipe_idem σ vs), ?_⟩
    refine ⟨w3, δ3, _, _, rfl, ok3, lo3, a3, fun b w4 a4 l4 ok4 => cnd_ite ?_, eC0⟩
    have l14 : Le w' w4 := (l2.trans l3).trans l4
    cases b with
    | true =>
      refine ⟨w4, δ3, _, _, rfl, ok4, lo3.up l4, a4, fun ds1 kp1 w5 J1 t5 l5 ok5 wk5 => ?_, eC0⟩
      have l15 : Le w' w5 := l14.trans l5
      have lo5 : LoR K w5 σ3 δ3 := (lo3.up l4).up l5
      refine ⟨fun j k H' => k = ds1.length - j ∧ j ≤ ds1.length ∧ ∃ (w'' : Wd) (acc : List D) (vacc : List V), w''.H = H' ∧ Le w1 w'' ∧ Lw w5 w'' ∧ LoR K w'' σ3 δ3 ∧ Ok K w'' ∧ Bs w'' A ∧ w''.H A = some (.lst vacc) ∧ RpL K w''.I w''.α vacc acc ∧
          dLcL kp1 f1 c1 elt (wipeD δ3 vs1) (ds1.drop j) acc w''.S (fun acc' S4 => dLc2L kp f c src1 f1 c1 elt vs1 (wipeD δ vs) (ds.drop (i + 1)) acc' S4 Qd),
        ⟨ds1.length, by simp, Nat.zero_le _, w5, acc, vacc, rfl, l'.trans l15, (Le.refl w5).lw, lo5, ok5, b'.up l15, (b'.same l15).trans hA', r'.up l15, t5⟩, ?_⟩
      rintro j k H' ⟨rfl, hj, w6, acc6, vacc6, rfl, l6, m6, lo6, ok6, b6, hA6, r6, h6⟩
      have low6 : LoR K w6 (L2.wipe σ3 vs1) (wipeD δ3 vs1) := lo6.wipe vs1
      by_cases hjt : j < ds1.length
      · refine .inr ⟨wk5.go w6 j m6 ok6 (dLcL_kp h6) hjt, fun H2 => ∃ (w'' : Wd) (acc : List D) (vacc : List V), w''.H = H2 ∧ Le w1 w'' ∧ Lw w5 w'' ∧ LoR K w'' σ3 δ3 ∧ Ok K w'' ∧ Bs w'' A ∧ w''.H A = some (.lst vacc) ∧ RpL K w''.I w''.α vacc acc ∧
            dLcL kp1 f1 c1 elt (wipeD δ3 vs1) (ds1.drop (j + 1)) acc w''.S (fun acc' S4 => dLc2L kp f c src1 f1 c1 elt vs1 (wipeD δ vs) (ds.drop (i + 1)) acc' S4 Qd),
          fun H2 z => ⟨ds1.length - (j + 1), by omega, rfl, hjt, z⟩, fun x1 H2 hy1 => ?_⟩
        obtain ⟨w7, rfl, l7, ok7, e7, d1, hd1, rd1⟩ := wk5.yld w6 j x1 H2 m6 ok6 (dLcL_kp h6) hjt hy1
        rw [List.drop_eq_getElem_cons hjt] at h6
        have hd1' : ds1[j] = d1 := by
          rw [List.getElem?_eq_getElem hjt] at hd1
          exact Option.some.inj hd1
        rw [hd1'] at h6
        obtain ⟨_, h6⟩ := h6
        rw [← e7] at h6
        refine sg1 w7 x1 d1 _ _ _ _ ok7 rd1 (low6.up l7) h6 fun δ8 σ8 w8 a8 l8 ok8 lo8 ew8 => ⟨ew8.trans (wipe_idem σ3 vs1), ?_⟩
        refine ⟨w8, δ8, _, _, rfl, ok8, lo8, a8, fun b1 w9 a9 l9 ok9 => cnd_ite ?_, eC0⟩
        have l69 : Le w6 w9 := (l7.trans l8).trans l9
        cases b1 with
        | true =>
          refine ⟨w9, δ8, _, _, rfl, ok9, lo8.up l9, a9, fun y v w10 a10 l10 ok10 r10 => ?_, eC0⟩
          obtain ⟨hz, a10⟩ := a10
          have l610 := l69.trans l10
          have b10 := b6.up l610
          -- the list stands in the heap at A: it changes there
          have l1e : Le w1 (w10.side (upd w10.H A (.lst (vacc6 ++ [v])))) := (l6.trans l610).put hA
          refine ⟨vacc6, (b6.same l610).trans hA6, by rw [r6.length]; exact hz, w10.side (upd w10.H A (.lst (vacc6 ++ [v]))), acc6 ++ [y], vacc6 ++ [v], rfl, l1e, ⟨fun a b z => l610.ii a b (m6.ii a b z), fun a b z => l610.aa a b (m6.aa a b z)⟩, lo6.upS l610, b10.ok ok10, b10.put, upd_same, (r6.up l610).append (.one r10), a10⟩
        | false => exact ⟨w9, acc6, vacc6, rfl, l6.trans l69, ⟨fun a b z => l69.ii a b (m6.ii a b z), fun a b z => l69.aa a b (m6.aa a b z)⟩, lo6.up l69, ok9, b6.up l69, (b6.same l69).trans hA6, r6.up l69, a9⟩
      · have e : j = ds1.length := by omega
        subst e
        rw [List.drop_length] at h6
        refine .inl ⟨wk5.stop w6 m6 ok6 h6.1, w6, acc6, vacc6, rfl, l6, ok6, b6, hA6, r6, h6.2⟩
    | false => exact ⟨w4, acc, vacc, rfl, l'.trans l14, ok4, b'.up l14, (b'.same l14).trans hA', r'.up l14, a4⟩
  · have e : i = ds.length := by omega
    subst e
    rw [List.drop_length] at h'
    refine .inl ⟨wk.stop w' l'.lw ok' h'.1, q acc vacc A w' h'.2 (l1.trans l') ok' r' hA' f3 b'.i b'.a⟩
section
variable {X : Cx} {W : WX} {tg iter elt tg1 iter1 : Expr} {ifs ifs1 : List Expr} {scope : Scope} {own : List (Str × Nat)} {pos : Pos} {src src1 : DI} {g g1 : TG} {f f1 : DG} {c c1 : DT} {te : DE} {vs1 : List Nat}
theorem df_lc2 (hc : X.calm = true) (hN : X.N.Nodup) (hi : PI X tg iter (toI X.K W src)) (ok : BlkOk X.N X.env.scope scope own) (hv : ∀ i ∈ vs1, i ∈ own.map (·.2)) (sg : SemGW X.K (own.map (·.2)) g f) (sg1 : SemGW X.K vs1 g1 f1)
    (hg : ∀ (s : Shared) (H : Hp) (C : Addr) (cl : List (Str × Addr)) (fp : List Addr), PG (X.blk s H scope (compEnvC scope cl C X.env) fp) tg g) (ht : ∀ (s : Shared) (H : Hp) (C : Addr) (cl : List (Str × Addr)) (fp : List Addr), PTs (X.blk s H scope (compEnvC scope cl C X.env) fp) ifs (toT X.K W0 c))
    (hi1 : ∀ (s : Shared) (H : Hp) (C : Addr) (cl : List (Str × Addr)) (fp : List Addr), PI (X.blk s H scope (compEnvC scope cl C X.env) fp) tg1 iter1 (toI X.K W0 src1))
    (hg1 : ∀ (s : Shared) (H : Hp) (C : Addr) (cl : List (Str × Addr)) (fp : List Addr), PG (X.blk s H scope (compEnvC scope cl C X.env) fp) tg1 g1) (ht1 : ∀ (s : Shared) (H : Hp) (C : Addr) (cl : List (Str × Addr)) (fp : List Addr), PTs (X.blk s H scope (compEnvC scope cl C X.env) fp) ifs1 (toT X.K W0 c1))
    (he : ∀ (s : Shared) (H : Hp) (C : Addr) (cl : List (Str × Addr)) (fp : List Addr), PE (X.blk s H scope (compEnvC scope cl C X.env) fp) elt (toE X.K W0 te)) (hs : ∀ x, foldedSetIterable iter X.env x = pure x := by intro _; rfl) (hs1 : ∀ env x, foldedSetIterable iter1 env x = pure x := by intro _ _; rfl) :
    PE X (.ListComp elt [⟨tg, iter, ifs, 0⟩, ⟨tg1, iter1, ifs1, 0⟩] scope pos) (toF X.K W (dLc2 src f c src1 f1 c1 te (own.map (·.2)) vs1)) := pimp (pe_lc2 hc hN hi ok hv hg ht hi1 hg1 ht1 he hs hs1) (toF_lc2 sg sg1)
theorem ds_setLc2 {st : Stmt} {i : Nat} {vs : List Nat} {t : DE} (hs : PS X st (tAsg (tLc2 (toI X.K W src) g (toT X.K W0 c) (toI X.K W0 src1) g1 (toT X.K W0 c1) (toE X.K W0 te) vs vs1) (gName i))) (sg : SemGW X.K vs g f) (sg1 : SemGW X.K vs1 g1 f1)
    (hf : ∀ σ H Q, toE X.K W t σ H Q → toF X.K W (dLc2 src f c src1 f1 c1 te vs vs1) σ H Q) : PS X st (toS X.K W (dSet i t)) :=
  simp' hs fun D σ H h => asg_mono (fun σ H Q q => toF_lc2 sg sg1 σ H Q (hf σ H Q q)) D σ H (asg_set D σ H h)
end
end DL

set_option maxHeartbeats 4000000
namespace DL
open PySem PySem.Spec L2 He
/-! ## 21. Calls with keywords -/
/-- where a parameter's value comes from -/
inductive Sl where
  | p (i : Nat)
  | k (i : Nat)
  | d (i : Nat)
def Sl.at_ {α : Type} (us zs ds : List α) : Sl → Option α
  | .p i => us[i]?
  | .k i => zs[i]?
  | .d i => ds[i]?
def mixK {α : Type} (sl : List Sl) (us zs ds : List α) : List α := sl.filterMap (Sl.at_ us zs ds)
theorem opt_get {R : V → Value → Prop} {us : List V} {vs : List Value} (r : Paired R us vs) : ∀ i : Nat, (us[i]? = none ∧ vs[i]? = none) ∨ ∃ u v, us[i]? = some u ∧ vs[i]? = some v ∧ R u v := by
  induction r with
  | nil => intro i; exact .inl ⟨by simp, by simp⟩
  | cons h t ih =>
    intro i
    cases i with
    | zero => exact .inr ⟨_, _, rfl, rfl, h⟩
    | succ i => simpa using ih i
theorem mix_vals {us zs ds : List V} {us' zs' ds' : List Value} (r1 : Vals us us') (r2 : Vals zs zs') (r3 : Vals ds ds') : ∀ sl : List Sl, Vals (mixK sl us zs ds) (mixK sl us' zs' ds')
  | [] => .nil
  | s :: sl => by
    have ih := mix_vals r1 r2 r3 sl
    have q : (Sl.at_ us zs ds s = none ∧ Sl.at_ us' zs' ds' s = none) ∨ ∃ u v, Sl.at_ us zs ds s = some u ∧ Sl.at_ us' zs' ds' s = some v ∧ RelV u v := by
      cases s with
      | p i => exact opt_get r1 i
      | k i => exact opt_get r2 i
      | d i => exact opt_get r3 i
    unfold mixK at ih ⊢
    rcases q with ⟨a, b⟩ | ⟨u, v, a, b, c⟩
    · rw [List.filterMap_cons, List.filterMap_cons, a, b]
      exact ih
    · rw [List.filterMap_cons, List.filterMap_cons, a, b]
      exact .cons c ih
theorem RpL.getO {K : PySem.W.Frag} {I : Hp} {α : Am} {vs : List V} {ds : List D} (r : RpL K I α vs ds) (i : Nat) : (vs[i]? = none ∧ ds[i]? = none) ∨ ∃ v d, vs[i]? = some v ∧ ds[i]? = some d ∧ Rp K I α v d := by
  cases e : ds[i]? with
  | some d =>
    obtain ⟨v, a, b⟩ := r.get e
    exact .inr ⟨v, d, a, rfl, b⟩
  | none =>
    refine .inl ⟨?_, rfl⟩
    rw [List.getElem?_eq_none_iff] at e ⊢
    rw [r.length]
    exact e
theorem mix_rp {K : PySem.W.Frag} {I : Hp} {α : Am} {us zs ds : List V} {us' zs' ds' : List D} (r1 : RpL K I α us us') (r2 : RpL K I α zs zs') (r3 : RpL K I α ds ds') : ∀ sl : List Sl, RpL K I α (mixK sl us zs ds) (mixK sl us' zs' ds')
  | [] => .nil
  | s :: sl => by
    have ih := mix_rp r1 r2 r3 sl
    have q : (Sl.at_ us zs ds s = none ∧ Sl.at_ us' zs' ds' s = none) ∨ ∃ u v, Sl.at_ us zs ds s = some u ∧ Sl.at_ us' zs' ds' s = some v ∧ Rp K I α u v := by
      cases s with
      | p i => exact r1.getO i
      | k i => exact r2.getO i
      | d i => exact r3.getO i
    unfold mixK at ih ⊢
    rcases q with ⟨a, b⟩ | ⟨u, v, a, b, c⟩
    · rw [List.filterMap_cons, List.filterMap_cons, a, b]
      exact ih
    · rw [List.filterMap_cons, List.filterMap_cons, a, b]
      exact .cons c ih
/-- a def that is called with np values and the keywords ks -/
structure CalK (P : Program) (w0 : World) (K : PySem.W.Frag) (mg : Str → Option Value) (base : Heap) (k : Nat) (f : Addr) (n : Nat) (m : DFn) (np : Nat) (ks : List Str) (sl : List Sl) (dd : List D) : Prop where
  ex : ∃ (fd : FuncData) (ps : List Str) (its : List Value) (dvs : List V), FnOk P w0 K mg base (L2.CX P w0) k f fd ps (toSp K n m) ∧ KBn K fd ps np ks (fun us ws => mixK sl us ws its) (fun vs zs => mixK sl vs zs dvs) ∧ Dfl K dvs dd ∧ PySem.W.keepIn K (.ref f) = true
section
variable {K : PySem.W.Frag} {x qual : Str} {params : Arguments} {body : List Stmt} {scope : Scope} {dvs : List V} {f : Addr} {fd : FuncData} {ps : List Str}
theorem kb_dfl (F : FunD K x qual params body scope dvs [] f fd) (n : Nat) (ks : List Str) (sl : List Sl) (hd : dvs ≠ [])
    (h : ∀ (T : Addr) (kV doc pm : Value) (an : Option Addr) (cdv ct : Value) (us its ws : List Value), us.length = n → its.length = dvs.length → ws.length = ks.length →
      ∃ k, bindArgs (PySem.W.fnOf x qual params body scope (.ref T) kV doc pm an cdv ct) ⟨us, ks.zip ws⟩ = seqItems? (.ref T) >>= k ∧ k (some its.toArray) = pure (ps.zip (mixK sl us ws its))) :
    ∃ its : List Value, KBn K fd ps n ks (fun us ws => mixK sl us ws its) (fun vs zs => mixK sl vs zs dvs) :=
  F.kbindsD n ks (fun us its ws => mixK sl us ws its) hd (fun r1 r2 r3 => mix_vals r1 r3 r2 sl) h
theorem kb_non (F : FunD K x qual params body scope [] [] f fd) (n : Nat) (ks : List Str) (sl : List Sl)
    (h : ∀ (kV doc pm : Value) (an : Option Addr) (cdv ct : Value) (us ws : List Value), us.length = n → ws.length = ks.length → bindArgs (PySem.W.fnOf x qual params body scope .none kV doc pm an cdv ct) ⟨us, ks.zip ws⟩ = pure (ps.zip (mixK sl us ws []))) :
    KBn K fd ps n ks (fun us ws => mixK sl us ws []) (fun vs zs => mixK sl vs zs []) := by
  obtain ⟨oc, od, dV, kV, doc, pm, an, cdv, ct, osl, rfl, lk, hcd, hD, hK⟩ := F.ex
  rcases hD with ⟨_, rfl⟩ | ⟨e, _⟩
  · exact ⟨fun s us ws X l1 l2 => .of_eq (h kV doc pm an cdv ct us ws l1 l2), fun r1 r2 => mix_vals r1 r2 .nil sl⟩
  · exact absurd rfl e
end
/-! ### the keywords' values -/
section
variable {X : Cx} {W : WX} {e : Expr} {es : List Expr} {kws : List Keyword} {nm : Option Str} {kpos : Pos} {te : DE} {ta tk : DA}
theorem dk_nil : PK X [] (toA X.K W dNil) := ⟨fun pos pins s σ H Q I h => pk_nil.run pos pins s σ H Q I (by
  obtain ⟨w, δ, Qd, Ed, rfl, ok, lo, t, q, _⟩ := h
  exact q [] [] w t (.refl w) ok .nil)⟩
theorem dk_cons (ha : PE X e (toE X.K W te)) (hr : PK X kws (toA X.K W ta)) : PK X (⟨nm, e, kpos⟩ :: kws) (toA X.K W (dCons te ta)) := ⟨fun pos pins s σ H Q I h => (pk_cons ha hr).run pos pins s σ H Q I (by
  obtain ⟨w, δ, Qd, Ed, rfl, ok, lo, t, q, ec⟩ := h
  refine ⟨w, δ, _, Ed, rfl, ok, lo, t, fun x v w1 t1 l1 ok1 r1 => ?_, ec⟩
  refine ⟨w1, δ, _, Ed, rfl, ok1, lo.up l1, t1, fun y u w2 t2 l2 ok2 r2 => ?_, ec.up l1⟩
  exact q (x :: y) (v :: u) w2 t2 (l1.trans l2) ok2 (.cons (r1.up l2) r2))⟩
end
section
variable {X : Cx} {W : WX} {k n np : Nat} {f C : Addr} {fd : FuncData} {ps ks : List Str} {sl : List Sl} {m : DFn} {x mt : Str} {p pos apos : Pos} {o e : Expr} {es : List Expr} {kws : List Keyword} {to : DE} {ta tk : DA} {its : List Value} {dvs : List V} {dd : List D} {pl : Sem Bool}
theorem run_kw {pins : List (Addr × Obj)} {σ : L2.St} {H : Hp} {s : Shared} {Q : VK} {us ws : List Value} {vs zs : List V} (F : FnOk X.prog X.w X.K X.mg X.base (L2.CX X.prog X.w) k f fd ps (toSp X.K n m)) (hr : Room k X.A) (tk' : Takes X W)
    (hb : KBn X.K fd ps np ks (fun us ws => mixK sl us ws its) (fun vs zs => mixK sl vs zs dvs)) (I : Inv X pins σ H s) (r : Vals vs us) (rz : Vals zs ws) (l1 : vs.length = np) (l2 : zs.length = ks.length) (h : toSp X.K n m (mixK sl vs zs dvs) H Q (WE W σ)) :
    wpAny (model X.prog X.w) X.A (call (.ref f) us (ks.zip ws)) (EP X pins σ Q) X.xe s := by
  have r2 := hb.rel r rz
  refine wpAny_call (codeAny_mono (F.run X.A X.stack s H ⟨us, ks.zip ws⟩ (mixK sl us ws its) (mixK sl vs zs dvs) Q (WE W σ) hr I.env0 (hb.to s us ws I.kIn (r.length.symm.trans l1) (rz.length.symm.trans l2)) r2 h) fun r s' hq => ?_)
  cases r with
  | error e => exact passAt tk' σ pins H s e s' I hq
  | ok fl =>
    cases fl with
    | ret u => exact I.after hq
    | next => exact False.elim hq
    | brk => exact False.elim hq
    | cont => exact False.elim hq
/-- o.m(k = e, ..) -/
def dMethK (C : Addr) (mt : Str) (n : Nat) (m : DFn) (nk : Nat) (sl : List Sl) (dd : List D) (to : DE) (tk : DA) : DE := fun δ S Q E => to δ S (fun d S1 => opt (asI S1 d) fun q => q.1 = C ∧ q.2.lookup mt = none ∧ tk δ S1 (fun zs S2 => zs.length = nk ∧ (mixK sl [d] zs dd).length = n ∧ m (mixK sl [d] zs dd) S2 Q E) E) E
theorem de_methK0 (c : CalK X.prog X.w X.K X.mg X.base k f n m 1 ks sl dd) (ho : PE X o (toE X.K W to)) (cc : Cls X.K C) (hM : Meth X.K C mt f) (hr : Room k X.A) (tk' : Takes X W) (hkw : PK X kws (toA X.K W tk))
    (hall : (backToKw pos (keywordEach kws X.env)).all (·.1.isSome) = true := by rfl) (hks : (backToKw pos (keywordEach kws X.env)).filterMap (·.1) = ks := by rfl) (hpl : (backToKw pos (keywordEach kws X.env)).any (·.1.isNone) = false := by rfl)
    (h3 : eval (.Call (.Attribute o mt apos) [] kws pos) X.env = (eval o X.env >>= fun ov => standAt apos.atName >>= fun _ => holding [ov] (getMethod ov mt pl) >>= fun p => callWith pos p.1 p.2 (backTo pos (starEach [] X.env)) (backToKw pos (keywordEach kws X.env))) := by rfl) :
    PE X (.Call (.Attribute o mt apos) [] kws pos) (toE X.K W (dMethK C mt n m ks.length sl dd to tk)) := by
  obtain ⟨fd, ps, its, dvs, F, hb, hdd, hk⟩ := c.ex
  constructor
  intro pins s σ H Q I h
  obtain ⟨w, δ, Qd, Ed, rfl, ok, lo, t, q, ec⟩ := h
  refine PySem.W.methodCall_KW (pl := pl) (thn (ho.run pins s σ _ (fun x H1 => ∃ (w1 : Wd) (d : D), w1.H = H1 ∧ Le w w1 ∧ Ok X.K w1 ∧ Rp X.K w1.I w1.α x d ∧ opt (asI w1.S d) fun q => q.1 = C ∧ q.2.lookup mt = none ∧ tk δ w1.S (fun zs S2 => zs.length = ks.length ∧ (mixK sl [d] zs dd).length = n ∧ m (mixK sl [d] zs dd) S2 Qd Ed) Ed) I
    ⟨w, δ, _, Ed, rfl, ok, lo, t, fun d v w1 t1 l1 ok1 r1 => ⟨w1, d, rfl, l1, ok1, r1, t1⟩, ec⟩) fun u s1 hq => ?_) h3
  obtain ⟨x, H1, I1, rx, w1, d, rfl, l1, ok1, r1, t1⟩ := hq
  obtain ⟨⟨C', fs⟩, hd', hC, hl, g1⟩ := opt_of t1
  obtain ⟨a, dx, vs, rfl, ha1, rf⟩ := asI_sem ok1 r1 hd'
  have hC : C' = C := hC
  subst hC
  cases rx
  refine getmeth_ok I1 ha1 cc hM (rf.lookupN hl) ?_
  refine PySem.W.callWith_KW0 (first := [.ref a]) (h₀ := X.base) I1.ok.mod.kin hM.kp hall (hplain := by show (false || _) = false; rw [hpl]; rfl) (thn (hkw.run pos pins s1 σ _ (fun ws H2 => ∃ (w2 : Wd) (zs : List D), w2.H = H2 ∧ Le w1 w2 ∧ Ok X.K w2 ∧ RpL X.K w2.I w2.α ws zs ∧ zs.length = ks.length ∧ (mixK sl [d] zs dd).length = n ∧ m (mixK sl [d] zs dd) w2.S Qd Ed) I1
    ⟨w1, δ, _, Ed, rfl, ok1, lo.up l1, g1, fun us vs w2 t2 l2 ok2 r2 => ⟨w2, us, rfl, l2, ok2, r2, t2⟩, ec.up l1⟩) fun us s2 hq2 => ?_)
  obtain ⟨ws, H2, I2, rw2, w2, zs, rfl, l2, ok2, r2, hn1, hn, hm2⟩ := hq2
  refine ⟨I2.kIn, ?_⟩
  rw [hks]
  exact run_kw (us := [.ref a]) (vs := [.ref a]) F hr tk' hb I2 (.cons rfl .nil) rw2 rfl (by rw [r2.length]; exact hn1) (sp_of (us := mixK sl [d] zs dd) ok2 (l1.trans l2) (mix_rp (.one (r1.up l2)) r2 (hdd.r _ _) sl) hn hm2 q ec)
end
end DL

set_option maxHeartbeats 4000000
namespace DL
open PySem L2
/-! ## 22. The readings, evaluated -/
section
variable {δ : Lo} {S : Sto} {Q : D → Sto → Prop} {Qa : List D → Sto → Prop} {Qt : Bool → Sto → Prop} {E : Err → Sto → Prop} {B : DEnds} {i n : Nat} {ta tb tc : DE} {u v : DA} {p q : DT} {s t : DS} {d x y : D} {k : D → Prop} {kb : Bool → Prop} {xs ys : List D}
@[simp] theorem ap_var : dVar i δ S Q E = (match δ[i]? with | some (some d) => Q d S | _ => False) := rfl
@[simp] theorem ap_c : dC d δ S Q E = Q d S := rfl
@[simp] theorem ap_bin {f : DOp} : dBin f ta tb δ S Q E = ta δ S (fun x S1 => tb δ S1 (fun y S2 => f S2 x y fun z => Q z S2) E) E := rfl
@[simp] theorem ap_un {f : DUn} : dUn f ta δ S Q E = ta δ S (fun x S1 => f S1 x fun z => Q z S1) E := rfl
@[simp] theorem ap_nil : dNil δ S Qa E = Qa [] S := rfl
@[simp] theorem ap_cons : dCons ta u δ S Qa E = ta δ S (fun x S1 => u δ S1 (fun xs S2 => Qa (x :: xs) S2) E) E := rfl
@[simp] theorem ap_cl {f : DCl} : dCl f u δ S Q E = u δ S (fun xs S1 => f S1 xs fun z => Q z S1) E := rfl
@[simp] theorem ap_tup : dTup u δ S Q E = u δ S (fun xs S1 => xs.length ≤ sizeLine ∧ Q (.tup xs) S1) E := rfl
@[simp] theorem ap_lst : dLst u δ S Qa E = u δ S (fun xs S1 => xs.length ≤ sizeLine ∧ Qa xs S1) E := rfl
@[simp] theorem ap_fz : dFz u δ S Q E = u δ S (fun xs S1 => Q (.lst xs) S1) E := rfl
@[simp] theorem ap_new : dNew u δ S Q E = u δ S (fun xs S1 => ∀ n, S1 n = none → Q (.m n) (put S1 n (.lst xs))) E := rfl
def asB (d : D) (kb : Bool → Prop) : Prop := match d with
  | .bl b => kb b
  | _ => False
@[simp] theorem asB_bl {b : Bool} : asB (.bl b) kb = kb b := rfl
@[simp] theorem ap_b : dB ta δ S Qt E = ta δ S (fun d S1 => asB d fun b => Qt b S1) E := rfl
@[simp] theorem ap_tru : dTru ta δ S Qt E = ta δ S (fun d S1 => tru S1 d fun b => Qt b S1) E := rfl
@[simp] theorem ap_not : dNot p δ S Qt E = p δ S (fun b S1 => Qt (!b) S1) E := rfl
@[simp] theorem ap_and : dAnd p q δ S Qt E = p δ S (fun b S1 => cnd b (q δ S1 Qt E) (Qt false S1)) E := rfl
@[simp] theorem ap_or : dOr p q δ S Qt E = p δ S (fun b S1 => cnd b (Qt true S1) (q δ S1 Qt E)) E := rfl
@[simp] theorem ap_andV : dAndV ta tb δ S Q E = ta δ S (fun d S1 => tru S1 d fun b => cnd b (tb δ S1 Q E) (Q d S1)) E := rfl
@[simp] theorem ap_orV : dOrV ta tb δ S Q E = ta δ S (fun d S1 => tru S1 d fun b => cnd b (Q d S1) (tb δ S1 Q E)) E := rfl
@[simp] theorem ap_notV : dNotV ta δ S Q E = ta δ S (fun d S1 => tru S1 d fun b => Q (.bl (!b)) S1) E := rfl
@[simp] theorem ap_ifE : dIfE p ta tb δ S Q E = p δ S (fun b S1 => cnd b (ta δ S1 Q E) (tb δ S1 Q E)) E := rfl
@[simp] theorem ap_yes : dYes δ S Qt E = Qt true S := rfl
@[simp] theorem ap_chain {f g : DOp} : dChain f g ta tb tc δ S Q E = ta δ S (fun x S1 => tb δ S1 (fun y S2 => f S2 x y fun z => asB z fun b => cnd b (tc δ S2 (fun u S3 => g S3 y u fun z => Q z S3) E) (Q (.bl false) S2)) E) E := by
  unfold dChain
  congr 1
@[simp] theorem cnd_t {A C : Prop} : cnd true A C = A := rfl
@[simp] theorem cnd_f {A C : Prop} : cnd false A C = C := rfl
theorem cnd_of {b : Bool} {A C : Prop} (h : b = true → A) (g : b = false → C) : cnd b A C := by
  cases b with
  | true => exact h rfl
  | false => exact g rfl
theorem cnd_dec {P A C : Prop} [Decidable P] (h : P → A) (g : ¬ P → C) : cnd (decide P) A C := by
  by_cases q : P
  · rw [decide_eq_true q]; exact h q
  · rw [decide_eq_false q]; exact g q
@[simp] theorem opt_s {A : Type} {a : A} {k : A → Prop} : opt (some a) k = k a := rfl
@[simp] theorem opt_n {A : Type} {k : A → Prop} : opt none k = False := rfl
theorem opt_eq {A : Type} {o : Option A} {a : A} {k : A → Prop} (h : o = some a) (g : k a) : opt o k := by rw [h]; exact g
/-! truth -/
@[simp] theorem tru_non : tru S .non kb = kb false := rfl
@[simp] theorem tru_bl {b : Bool} : tru S (.bl b) kb = kb b := rfl
@[simp] theorem tru_int {j : Int} : tru S (.int j) kb = kb (j != 0) := rfl
@[simp] theorem tru_tup : tru S (.tup xs) kb = kb (!xs.isEmpty) := rfl
@[simp] theorem tru_lst : tru S (.lst xs) kb = kb (!xs.isEmpty) := rfl
@[simp] theorem tru_str {z : Str} : tru S (.str z) kb = (z.length ≤ sizeLine ∧ kb ((z.length : Int) != 0)) := rfl
/-! lists -/
@[simp] theorem asSq_tup : asSq S (.tup xs) = some xs := rfl
@[simp] theorem asSq_lst : asSq S (.lst xs) = some xs := rfl
@[simp] theorem asSq_rol : asSq S (.rol xs) = some xs := rfl
@[simp] theorem asR_lst : asR S (.lst xs) = some xs := rfl
@[simp] theorem asR_rol : asR S (.rol xs) = some xs := rfl
@[simp] theorem asL_lst : asL S (.lst xs) = some xs := rfl
def celO : Option Cell → Option (List D)
  | some (.lst ds) => some ds
  | _ => none
@[simp] theorem celO_l : celO (some (.lst xs)) = some xs := rfl
@[simp] theorem asR_m : asR S (.m n) = celO (S n) := by
  show (match S n with | some (.lst ds) => some ds | _ => none) = celO (S n)
  unfold celO
  rfl
@[simp] theorem asSq_m : asSq S (.m n) = celO (S n) := asR_m
@[simp] theorem asL_m : asL S (.m n) = celO (S n) := asR_m
@[simp] theorem ix_tup {j : Int} : oIx S (.tup xs) (.int j) k = opt (atI xs j) k := rfl
@[simp] theorem ix_lst {j : Int} : oIx S (.lst xs) (.int j) k = opt (atI xs j) k := rfl
@[simp] theorem ix_rol {j : Int} : oIx S (.rol xs) (.int j) k = opt (atI xs j) k := rfl
@[simp] theorem ix_m {j : Int} : oIx S (.m n) (.int j) k = opt (celO (S n)) fun ds => opt (atI ds j) k := by
  show opt (asSq S (.m n)) _ = _
  rw [asSq_m]
@[simp] theorem ix_str {z : Str} {j : Int} : oIx S (.str z) (.int j) k = (z.length ≤ sizeLine ∧ opt (atI z.cps.toList j) fun c => k (.str ⟨#[c]⟩)) := rfl
theorem at_nat {A : Type} {l : List A} {j : Nat} {a : A} (h : l[j]? = some a) : atI l (j : Int) = some a := by
  have hl : j < l.length := by
    by_cases q : j < l.length
    · exact q
    · rw [List.getElem?_eq_none (by omega)] at h
      cases h
  unfold atI ixN
  rw [if_pos (by omega), if_pos (by omega)]
  simpa using h
theorem at_int {A : Type} {l : List A} {j : Int} {a : A} (h0 : 0 ≤ j) (h : l[j.toNat]? = some a) : atI l j = some a := by
  have q := at_nat h
  rwa [Int.toNat_of_nonneg h0] at q
theorem at_get {A : Type} {l : List A} {j : Int} (h0 : 0 ≤ j) (h1 : j < l.length) : atI l j = some (l[j.toNat]'(by omega)) := at_int h0 (List.getElem?_eq_getElem (by omega))
@[simp] theorem at_0 {A : Type} {l : List A} {a : A} : atI (a :: l) 0 = some a := by
  unfold atI ixN
  rw [if_pos (by decide), if_pos (by simp)]
  rfl
@[simp] theorem at_1 {A : Type} {l : List A} {a b : A} : atI (a :: b :: l) 1 = some b := at_nat (j := 1) rfl
@[simp] theorem at_2 {A : Type} {l : List A} {a b c : A} : atI (a :: b :: c :: l) 2 = some c := at_nat (j := 2) rfl
theorem at_last {A : Type} {l : List A} {a : A} : atI (l ++ [a]) (-1) = some a := by
  unfold atI ixN
  rw [if_neg (by decide), if_pos (by simp; omega)]
  have e : ((-1 : Int) + ((l ++ [a]).length : Int)).toNat = l.length := by
    rw [List.length_append, List.length_singleton]
    omega
  show (l ++ [a])[((-1 : Int) + ((l ++ [a]).length : Int)).toNat]? = some a
  rw [e]
  simp
/-! numbers -/
@[simp] theorem add_int {i j : Int} : oAdd S (.int i) (.int j) k = k (.int (i + j)) := rfl
@[simp] theorem add_tup : oAdd S (.tup xs) (.tup ys) k = (xs.length + ys.length ≤ sizeLine ∧ k (.tup (xs ++ ys))) := rfl
@[simp] theorem add_lst : oAdd S (.lst xs) y k = opt (asL S y) fun b => xs.length + b.length ≤ sizeLine ∧ k (.lst (xs ++ b)) := rfl
@[simp] theorem add_str {a b : Str} : oAdd S (.str a) (.str b) k = (a.length + b.length ≤ sizeLine ∧ k (.str (a ++ b))) := rfl
@[simp] theorem i0_int {g : Int → Int → Int} {i j : Int} : oI0 g S (.int i) (.int j) k = k (.int (g i j)) := rfl
@[simp] theorem i_int {C : Int → Int → Prop} {g : Int → Int → Int} {i j : Int} : oI C g S (.int i) (.int j) k = (C i j ∧ k (.int (g i j))) := rfl
@[simp] theorem c0_int {g : Int → Int → Bool} {i j : Int} : oC0 g S (.int i) (.int j) k = k (.bl (g i j)) := rfl
@[simp] theorem mul_int {i j : Int} : oMul S (.int i) (.int j) k = ((CMul i j ∨ CMulW i j) ∧ k (.int (i * j))) := rfl
@[simp] theorem neg_int {i : Int} : oNeg S (.int i) k = k (.int (-i)) := rfl
theorem fd_int {i j : Int} (h : 0 < j) (h2 : j < 1073741824) (g : k (.int (i / j))) : oFd S (.int i) (.int j) k := by
  show (if 0 < j then j.natAbs.log2 < 9000 ∧ k (.int (i / j)) else _)
  rw [if_pos h]
  refine ⟨?_, g⟩
  have : j.natAbs.log2 < 30 := (Nat.log2_lt (by omega)).mpr (by omega)
  omega
theorem mod_int {i j : Int} (h : 0 < j) (g : k (.int (i % j))) : oMod S (.int i) (.int j) k := by
  show (if 0 < j then k (.int (i % j)) else _)
  rw [if_pos h]
  exact g
@[simp] theorem eq_int {neg : Bool} {i j : Int} : oEq neg S (.int i) (.int j) k = k (.bl (neg ^^ (i == j))) := rfl
@[simp] theorem eq_str {neg : Bool} {i j : Str} : oEq neg S (.str i) (.str j) k = k (.bl (neg ^^ (i == j))) := rfl
@[simp] theorem eq_bl {neg : Bool} {i j : Bool} : oEq neg S (.bl i) (.bl j) k = k (.bl (neg ^^ (i == j))) := rfl
@[simp] theorem isN_non {neg : Bool} : oIsN neg S .non .non k = k (.bl (neg ^^ true)) := rfl
@[simp] theorem isN_int {neg : Bool} {j : Int} : oIsN neg S (.int j) .non k = k (.bl (neg ^^ false)) := rfl
/-! built-ins -/
@[simp] theorem len_lst : oLen S [.lst xs] k = k (.int xs.length) := rfl
@[simp] theorem len_tup : oLen S [.tup xs] k = k (.int xs.length) := rfl
@[simp] theorem len_rol : oLen S [.rol xs] k = k (.int xs.length) := rfl
@[simp] theorem len_m : oLen S [.m n] k = opt (celO (S n)) fun ds => k (.int ds.length) := by
  show opt (asSq S (.m n)) _ = _
  rw [asSq_m]
@[simp] theorem int_int {j : Int} : oInt S [.int j] k = k (.int j) := rfl
@[simp] theorem abs_int {j : Int} : oAbs S [.int j] k = k (.int (if j < 0 then -j else j)) := rfl
@[simp] theorem tuple_of : oTuple S [d] k = opt (asSq S d) fun xs => k (.tup xs) := rfl
@[simp] theorem ap_listOf : dListOf u δ S Qa E = u δ S (fun ds S1 => (match ds with
  | [d] => opt (asSq S1 d) fun xs => Qa xs S1
  | _ => False)) E := rfl
/-! statements -/
@[simp] theorem ap_skip : dSkip B δ S = B.nx δ S := rfl
@[simp] theorem ap_seq : dSeq s t B δ S = s { B with nx := fun δ' S' => t B δ' S' } δ S := rfl
@[simp] theorem ap_brk : dBrk B δ S = B.bk δ S := rfl
@[simp] theorem ap_cnt : dCnt B δ S = B.ct δ S := rfl
@[simp] theorem ap_ret : dRet ta B δ S = ta δ S (fun d S1 => B.rt d S1) (fun er S1 => B.ex er δ S1) := rfl
@[simp] theorem ap_retN : dRetN B δ S = B.rt .non S := rfl
@[simp] theorem ap_ex : dEx ta B δ S = ta δ S (fun _ S1 => B.nx δ S1) (fun er S1 => B.ex er δ S1) := rfl
@[simp] theorem ap_set : dSet i ta B δ S = ta δ S (fun d S1 => B.nx (δ.set i (some d)) S1) (fun er S1 => B.ex er δ S1) := rfl
@[simp] theorem ap_if : dIf p s t B δ S = p δ S (fun b S1 => cnd b (s B δ S1) (t B δ S1)) (fun er S1 => B.ex er δ S1) := rfl
@[simp] theorem ap_for {src : DI} {g : DG} : dFor src g s B δ S = src δ S (fun ds kp S1 => dLoop kp g s ds B δ S1) (fun er S1 => B.ex er δ S1) := rfl
@[simp] theorem ap_gN : gN i d δ S = fun Q => Q (δ.set i (some d)) S := rfl
@[simp] theorem ap_raise {C : Addr} {fs : List Str} : dRaise C fs u B δ S = u δ S (fun us S1 => us.length = fs.length ∧ B.ex ⟨C, (fs.zip us).reverse⟩ δ S1) (fun er S1 => B.ex er δ S1) := rfl
@[simp] theorem ap_call {m : DFn} {dd : List D} : dCall n m dd u δ S Q E = u δ S (fun us S1 => (us ++ dd).length = n ∧ m (us ++ dd) S1 Q E) E := rfl
@[simp] theorem put_s {c : Cell} : put S n c n = some c := put_same
theorem put_n {c : Cell} {j : Nat} (h : j ≠ n) : put S n c j = S j := put_ne h
@[simp] theorem put_p {c c' : Cell} : put (put S n c) n c' = put S n c' := put_put
end
/-- the end of a def: nothing is dropped -/
theorem fn_end {Q : D → Sto → Prop} {d : D} {S : Sto} (h : Q d S) : ∃ S'', DL.Sub S'' S ∧ Q d S'' := ⟨S, .refl S, h⟩
@[simp] theorem fnD_ap {n : Nat} {body : DS} {us : List D} {S : Sto} {Q : D → Sto → Prop} {E : Err → Sto → Prop} : fnD n body us S Q E = body { nx := fun _ S' => ∃ S'', DL.Sub S'' S' ∧ Q .non S'', rt := fun d S' => ∃ S'', DL.Sub S'' S' ∧ Q d S'', bk := fun _ _ => False, ct := fun _ _ => False, ex := fun er _ S' => ∃ S'', DL.Sub S'' S' ∧ E er S'' } (us.map some ++ List.replicate (n - us.length) none) S := rfl
/-! ## 23. Loops by an invariant -/
theorem loop_inv {kp : Sto → Prop} {g : DG} {body : DS} {B : DEnds} (Inv : List D → Lo → Sto → Prop) (hk : ∀ ds δ S, Inv ds δ S → kp S)
    (step : ∀ d ds δ S, Inv (d :: ds) δ S → g d δ S fun δ1 S1 => ∀ B' : DEnds, (∀ δ2 S2, Inv ds δ2 S2 → B'.nx δ2 S2 ∧ B'.ct δ2 S2) → B'.bk = B.nx → B'.rt = B.rt → B'.ex = B.ex → body B' δ1 S1)
    (mono : ∀ d δ S (P P' : Lo → Sto → Prop), (∀ δ S, P δ S → P' δ S) → g d δ S P → g d δ S P') (fin : ∀ δ S, Inv [] δ S → B.nx δ S) : ∀ ds δ S, Inv ds δ S → dLoop kp g body ds B δ S
  | [], δ, S, h => ⟨hk _ _ _ h, fin δ S h⟩
  | d :: ds, δ, S, h => ⟨hk _ _ _ h, mono d δ S _ _ (fun δ1 S1 q => q _ (fun δ2 S2 h2 => ⟨loop_inv Inv hk step mono fin ds δ2 S2 h2, loop_inv Inv hk step mono fin ds δ2 S2 h2⟩) rfl rfl rfl) (step d ds δ S h)⟩
/-- .. over one name -/
theorem loop_N {kp : Sto → Prop} {i : Nat} {body : DS} {B : DEnds} (Inv : List D → Lo → Sto → Prop) (hk : ∀ ds δ S, Inv ds δ S → kp S)
    (step : ∀ d ds δ S, Inv (d :: ds) δ S → ∀ B' : DEnds, (∀ δ2 S2, Inv ds δ2 S2 → B'.nx δ2 S2 ∧ B'.ct δ2 S2) → B'.bk = B.nx → B'.rt = B.rt → B'.ex = B.ex → body B' (δ.set i (some d)) S)
    (fin : ∀ δ S, Inv [] δ S → B.nx δ S) (ds : List D) (δ : Lo) (S : Sto) (h : Inv ds δ S) : dLoop kp (gN i) body ds B δ S :=
  loop_inv (g := gN i) Inv hk (fun d ds δ S h => step d ds δ S h) (fun d δ S P P' hp h => hp _ _ h) fin ds δ S h
end DL
namespace DL
open PySem L2
/-! ## 24. Plain data -/
mutual
def pln : Nat → D → Bool
  | _, .non => true
  | _, .bl _ => true
  | _, .int _ => true
  | _, .str x => PyData.strOk x
  | n + 1, .lst xs => plnL n xs
  | n + 1, .tup xs => plnL n xs
  | n + 1, .rol xs => plnL n xs
  | _, _ => false
def plnL : Nat → List D → Bool
  | _, [] => true
  | n, x :: xs => pln n x && plnL n xs
end
mutual
theorem pln_py : ∀ (n : Nat) (d : D), pln n d = true → (pyOf d).canLay0 = true ∧ (pyOf d).depth ≤ n ∧ PyData.eqv (pyOf d) (pyOf d) = true
  | _, .non, _ => ⟨rfl, Nat.zero_le _, rfl⟩
  | _, .bl b, _ => ⟨rfl, Nat.zero_le _, by simp [pyOf, PyData.eqv]⟩
  | _, .int _, _ => ⟨rfl, Nat.zero_le _, by simp [pyOf, PyData.eqv]⟩
  | 0, .str x, h => ⟨by simpa [pln, pyOf, PyData.canLay0] using h, Nat.zero_le _, by simp [pyOf, PyData.eqv]⟩
  | n + 1, .str x, h => ⟨by simpa [pln, pyOf, PyData.canLay0] using h, Nat.zero_le _, by simp [pyOf, PyData.eqv]⟩
  | n + 1, .lst xs, h => by
    obtain ⟨a, b, c⟩ := plnL_py n xs (by simpa [pln] using h)
    exact ⟨by simpa [pyOf, PyData.canLay0] using a, by simp only [pyOf, PyData.depth]; omega, by simpa [pyOf, PyData.eqv] using c⟩
  | n + 1, .tup xs, h => by
    obtain ⟨a, b, c⟩ := plnL_py n xs (by simpa [pln] using h)
    exact ⟨by simpa [pyOf, PyData.canLay0] using a, by simp only [pyOf, PyData.depth]; omega, by simpa [pyOf, PyData.eqv] using c⟩
  | n + 1, .rol xs, h => by
    obtain ⟨a, b, c⟩ := plnL_py n xs (by simpa [pln] using h)
    exact ⟨by simpa [pyOf, PyData.canLay0] using a, by simp only [pyOf, PyData.depth]; omega, by simpa [pyOf, PyData.eqv] using c⟩
  | 0, .lst _, h => by simp [pln] at h
  | 0, .tup _, h => by simp [pln] at h
  | 0, .rol _, h => by simp [pln] at h
  | 0, .ins _ _, h => by simp [pln] at h
  | _ + 1, .ins _ _, h => by simp [pln] at h
  | 0, .cv _, h => by simp [pln] at h
  | _ + 1, .cv _, h => by simp [pln] at h
  | 0, .exc _ _ _ _, h => by simp [pln] at h
  | _ + 1, .exc _ _ _ _, h => by simp [pln] at h
  | 0, .m _, h => by simp [pln] at h
  | _ + 1, .m _, h => by simp [pln] at h
theorem plnL_py : ∀ (n : Nat) (ds : List D), plnL n ds = true → PyData.canLayAll0 (pyOfL ds) = true ∧ PyData.depthAll (pyOfL ds) ≤ n ∧ PyData.eqvAll (pyOfL ds) (pyOfL ds) = true
  | _, [], _ => ⟨rfl, Nat.zero_le _, rfl⟩
  | n, d :: ds, h => by
    have h' : pln n d = true ∧ plnL n ds = true := by simpa [plnL] using h
    obtain ⟨a, b, c⟩ := pln_py n d h'.1
    obtain ⟨a2, b2, c2⟩ := plnL_py n ds h'.2
    exact ⟨by simp [pyOfL, PyData.canLayAll0, a, a2], by simp only [pyOfL, PyData.depthAll]; omega, by simp [pyOfL, PyData.eqvAll, c, c2]⟩
end
theorem pln_shp {n : Nat} {d : D} (h : pln n d = true) (hn : n ≤ 64) : shp (pyOf d) := by
  obtain ⟨a, b, _⟩ := pln_py n d h
  show SeqAt.shaped (pyOf d) = true
  unfold SeqAt.shaped
  rw [a]
  simp
  omega
theorem eq_refl {n : Nat} {d : D} (h : pln n d = true) (hn : n ≤ 64) {neg : Bool} {S : Sto} {k : D → Prop} (g : k (.bl (!neg))) : oEq neg S d d k := by
  obtain ⟨a, b, c⟩ := pln_py n d h
  have hs := pln_shp h hn
  cases d with
  | non => simpa [oEq] using (by cases neg <;> simpa using g)
  | bl b =>
    rw [eq_bl]
    simpa using g
  | int b =>
    rw [eq_int]
    simpa using g
  | str b =>
    rw [eq_str]
    simpa using g
  | lst xs => exact ⟨hs, hs, by rw [show pyS S (.lst xs) = pyOf (.lst xs) from rfl, c]; simpa using g⟩
  | tup xs => exact ⟨hs, hs, by rw [show pyS S (.tup xs) = pyOf (.tup xs) from rfl, c]; simpa using g⟩
  | rol xs => exact ⟨hs, hs, by rw [show pyS S (.rol xs) = pyOf (.rol xs) from rfl, c]; simpa using g⟩
  | ins C fs => cases n <;> simp [pln] at h
  | cv v => cases n <;> simp [pln] at h
  | exc => cases n <;> simp [pln] at h
  | m => cases n <;> simp [pln] at h
end DL
namespace DL
open PySem L2
/-! ## 25. Walks, comprehensions -/
section
variable {δ : Lo} {S : Sto} {Q : D → Sto → Prop} {Qa : List D → Sto → Prop} {Qt : Bool → Sto → Prop} {Qi : List D → (Sto → Prop) → Sto → Prop} {E : Err → Sto → Prop} {i n : Nat} {ta : DE} {u : DA} {c : DT} {d : D} {xs ys : List D} {src src1 : DI} {g g1 : DG} {c1 : DT} {vs vs1 : List Nat} {k : List D → (Sto → Prop) → Prop}
def seqI (S : Sto) (d : D) (k : List D → (Sto → Prop) → Prop) : Prop := match d with
  | .tup ds => k ds (fun _ => True)
  | .str x => k (signD x) (fun _ => True)
  | _ => opt (asR S d) fun ds => k ds (kpOf S d)
@[simp] theorem ap_iSeq : iSeq ta δ S Qi E = ta δ S (fun d S1 => seqI S1 d fun ds kp => Qi ds kp S1) E := by
  unfold iSeq
  congr 1
@[simp] theorem seqI_tup : seqI S (.tup xs) k = k xs (fun _ => True) := rfl
@[simp] theorem seqI_lst : seqI S (.lst xs) k = k xs (fun _ => True) := rfl
@[simp] theorem seqI_rol : seqI S (.rol xs) k = k xs (fun _ => True) := rfl
@[simp] theorem seqI_str {x : Str} : seqI S (.str x) k = k (signD x) (fun _ => True) := rfl
theorem seqI_m (h : S n = some (.lst xs)) (q : k xs fun S' => S' n = S n) : seqI S (.m n) k := by
  show opt (asR S (.m n)) _
  rw [asR_m, h]
  exact q
@[simp] theorem ap_iR1 : iR1 u δ S Qi E = u δ S (fun ds S1 => (match ds with
  | [.int j] => -(2 ^ 62) ≤ j ∧ j < 2 ^ 62 ∧ Qi (rngD 0 j.toNat) (fun _ => True) S1
  | _ => False)) E := rfl
@[simp] theorem ap_iR2 : iR2 u δ S Qi E = u δ S (fun ds S1 => (match ds with
  | [.int i, .int j] => (-(2 ^ 62) ≤ i ∧ i < 2 ^ 62 ∧ -(2 ^ 62) ≤ j ∧ j < 2 ^ 62) ∧ Qi (rngD i (j - i).toNat) (fun _ => True) S1
  | _ => False)) E := rfl
@[simp] theorem ap_lc : dLc src g c ta vs δ S Qa E = src δ S (fun ds kp S1 => dLcL kp g c ta (wipeD δ vs) ds [] S1 Qa) E := rfl
@[simp] theorem ap_lc2 : dLc2 src g c src1 g1 c1 ta vs vs1 δ S Qa E = src δ S (fun ds kp S1 => dLc2L kp g c src1 g1 c1 ta vs1 (wipeD δ vs) ds [] S1 Qa) E := rfl
@[simp] theorem wipe_nil : wipeD δ [] = δ := rfl
@[simp] theorem wipe_cons : wipeD δ (i :: vs) = (wipeD δ vs).set i none := rfl
end
section
variable {kp : Sto → Prop} {i : Nat} {c : DT} {elt : DE} {δ : Lo} {S : Sto} {Qa : List D → Sto → Prop}
abbrev eF : Err → Sto → Prop := fun _ _ => False
/-- nothing changes: filter and map -/
theorem lc_pure (f : D → Bool) (m : D → D) (hk : kp S) : ∀ (ds acc : List D), acc.length + ds.length ≤ sizeLine → (∀ d ∈ ds, ∀ Qt : Bool → Sto → Prop, Qt (f d) S → c (δ.set i (some d)) S Qt eF) →
    (∀ d ∈ ds, f d = true → ∀ Q : D → Sto → Prop, Q (m d) S → elt (δ.set i (some d)) S Q eF) → Qa (acc ++ (ds.filter f).map m) S → dLcL kp (gN i) c elt δ ds acc S Qa
  | [], acc, _, _, _, q => ⟨hk, by simpa using q⟩
  | d :: ds, acc, hl, hc, he, q => by
    refine ⟨hk, hc d (List.mem_cons_self ..) _ ?_⟩
    have hl' : acc.length + ds.length + 1 ≤ sizeLine := by rw [List.length_cons] at hl; omega
    cases hf : f d with
    | true =>
      refine he d (List.mem_cons_self ..) hf _ ⟨by omega, lc_pure f m hk ds (acc ++ [m d]) (by rw [List.length_append, List.length_singleton]; omega) (fun x hx => hc x (List.mem_cons_of_mem _ hx)) (fun x hx => he x (List.mem_cons_of_mem _ hx)) ?_⟩
      rw [List.filter_cons_of_pos hf] at q
      simpa using q
    | false =>
      refine lc_pure f m hk ds acc (by omega) (fun x hx => hc x (List.mem_cons_of_mem _ hx)) (fun x hx => he x (List.mem_cons_of_mem _ hx)) ?_
      rw [List.filter_cons_of_neg (by rw [hf]; decide)] at q
      exact q
theorem lc_map (m : D → D) (hk : kp S) (ds : List D) (hl : ds.length ≤ sizeLine) (he : ∀ d ∈ ds, ∀ Q : D → Sto → Prop, Q (m d) S → elt (δ.set i (some d)) S Q eF) (q : Qa (ds.map m) S) : dLcL kp (gN i) dYes elt δ ds [] S Qa := by
  refine lc_pure (fun _ => true) m hk ds [] (by simpa using hl) (fun _ _ _ h => h) (fun d hd _ => he d hd) ?_
  rw [List.filter_eq_self.mpr (fun _ _ => rfl)]
  simpa using q
/-- by an invariant: the items left, what is made, the store -/
theorem lc_inv (Inv : List D → List D → Sto → Prop) (hk : ∀ ds acc S, Inv ds acc S → kp S) (hz : ∀ d ds acc S, Inv (d :: ds) acc S → acc.length < sizeLine)
    (step : ∀ d ds acc S, Inv (d :: ds) acc S → ∀ Q : D → Sto → Prop, (∀ y S', Inv ds (acc ++ [y]) S' → Q y S') → elt (δ.set i (some d)) S Q eF) (fin : ∀ acc S, Inv [] acc S → Qa acc S) :
    ∀ (ds acc : List D) (S : Sto), Inv ds acc S → dLcL kp (gN i) dYes elt δ ds acc S Qa
  | [], acc, S, h => ⟨hk _ _ _ h, fin _ _ h⟩
  | d :: ds, acc, S, h => ⟨hk _ _ _ h, step d ds acc S h _ fun y S' h' => ⟨hz _ _ _ _ h, lc_inv Inv hk hz step fin ds (acc ++ [y]) S' h'⟩⟩
end
theorem rngD_map : ∀ (n : Nat) (lo : Int), rngD lo n = ((List.range n).map fun (j : Nat) => D.int (lo + (j : Int)))
  | 0, _ => rfl
  | n + 1, lo => by
    rw [List.range_succ_eq_map, rngD, rngD_map n (lo + 1)]
    simp
    intro a _
    omega
end DL
namespace DL
open PySem L2
/-! ## 26. isinstance, fields, slices evaluated -/
section
variable {Cs : List Addr} {δ : Lo} {S : Sto} {Q : D → Sto → Prop} {E : Err → Sto → Prop} {c : Tag} {cs : List Tag} {ta to te : DE} {n : Nat} {d : D} {xs : List D} {C : Addr} {fs : List (Str × D)} {f mt : Str} {u : DA} {m : DFn} {dd : List D} {B : DEnds}
@[simp] theorem ap_isi : dIsi Cs c ta δ S Q E = ta δ S (fun d S1 => opt (tyD S1 d) fun t => opt (isi1 Cs t c) fun b => Q (.bl b) S1) E := rfl
@[simp] theorem ap_isiT : dIsiT Cs c cs ta δ S Q E = ta δ S (fun d S1 => opt (tyD S1 d) fun t => opt (isiA Cs t (c :: cs)) fun b => Q (.bl b) S1) E := rfl
@[simp] theorem ty_non : tyD S .non = some (.ty "NoneType") := rfl
@[simp] theorem ty_bl {b : Bool} : tyD S (.bl b) = some (.ty "bool") := rfl
@[simp] theorem ty_int {b : Int} : tyD S (.int b) = some (.ty "int") := rfl
@[simp] theorem ty_str {b : Str} : tyD S (.str b) = some (.ty "str") := rfl
@[simp] theorem ty_lst : tyD S (.lst xs) = some (.ty "list") := rfl
@[simp] theorem ty_rol : tyD S (.rol xs) = some (.ty "list") := rfl
@[simp] theorem ty_tup : tyD S (.tup xs) = some (.ty "tuple") := rfl
@[simp] theorem ty_ins : tyD S (.ins C fs) = some (.own C) := rfl
theorem ty_mL (h : S n = some (.lst xs)) : tyD S (.m n) = some (.ty "list") := by simp [tyD, h]
theorem ty_mI (h : S n = some (.ins C fs)) : tyD S (.m n) = some (.own C) := by simp [tyD, h]
@[simp] theorem isi_int_int : isi1 Cs (.ty "int") (.ty "int") = some true := by simp [isi1, kTys]
@[simp] theorem isi_int_bool : isi1 Cs (.ty "int") (.ty "bool") = some false := by simp [isi1, kTys]
@[simp] theorem isi_int_str : isi1 Cs (.ty "int") (.ty "str") = some false := by simp [isi1, kTys]
@[simp] theorem isi_int_list : isi1 Cs (.ty "int") (.ty "list") = some false := by simp [isi1, kTys]
@[simp] theorem isi_int_tuple : isi1 Cs (.ty "int") (.ty "tuple") = some false := by simp [isi1, kTys]
@[simp] theorem isi_bool_int : isi1 Cs (.ty "bool") (.ty "int") = some true := by simp [isi1, kTys]
@[simp] theorem isi_bool_bool : isi1 Cs (.ty "bool") (.ty "bool") = some true := by simp [isi1, kTys]
@[simp] theorem isi_bool_str : isi1 Cs (.ty "bool") (.ty "str") = some false := by simp [isi1, kTys]
@[simp] theorem isi_bool_list : isi1 Cs (.ty "bool") (.ty "list") = some false := by simp [isi1, kTys]
@[simp] theorem isi_bool_tuple : isi1 Cs (.ty "bool") (.ty "tuple") = some false := by simp [isi1, kTys]
@[simp] theorem isi_non_int : isi1 Cs (.ty "NoneType") (.ty "int") = some false := by simp [isi1, kTys]
@[simp] theorem isi_non_bool : isi1 Cs (.ty "NoneType") (.ty "bool") = some false := by simp [isi1, kTys]
@[simp] theorem isi_non_str : isi1 Cs (.ty "NoneType") (.ty "str") = some false := by simp [isi1, kTys]
@[simp] theorem isi_non_list : isi1 Cs (.ty "NoneType") (.ty "list") = some false := by simp [isi1, kTys]
@[simp] theorem isi_non_tuple : isi1 Cs (.ty "NoneType") (.ty "tuple") = some false := by simp [isi1, kTys]
@[simp] theorem isi_str_int : isi1 Cs (.ty "str") (.ty "int") = some false := by simp [isi1, kTys]
@[simp] theorem isi_str_bool : isi1 Cs (.ty "str") (.ty "bool") = some false := by simp [isi1, kTys]
@[simp] theorem isi_str_str : isi1 Cs (.ty "str") (.ty "str") = some true := by simp [isi1, kTys]
@[simp] theorem isi_str_list : isi1 Cs (.ty "str") (.ty "list") = some false := by simp [isi1, kTys]
@[simp] theorem isi_str_tuple : isi1 Cs (.ty "str") (.ty "tuple") = some false := by simp [isi1, kTys]
@[simp] theorem isi_list_int : isi1 Cs (.ty "list") (.ty "int") = some false := by simp [isi1, kTys]
@[simp] theorem isi_list_bool : isi1 Cs (.ty "list") (.ty "bool") = some false := by simp [isi1, kTys]
@[simp] theorem isi_list_str : isi1 Cs (.ty "list") (.ty "str") = some false := by simp [isi1, kTys]
@[simp] theorem isi_list_list : isi1 Cs (.ty "list") (.ty "list") = some true := by simp [isi1, kTys]
@[simp] theorem isi_list_tuple : isi1 Cs (.ty "list") (.ty "tuple") = some false := by simp [isi1, kTys]
@[simp] theorem isi_tuple_int : isi1 Cs (.ty "tuple") (.ty "int") = some false := by simp [isi1, kTys]
@[simp] theorem isi_tuple_bool : isi1 Cs (.ty "tuple") (.ty "bool") = some false := by simp [isi1, kTys]
@[simp] theorem isi_tuple_str : isi1 Cs (.ty "tuple") (.ty "str") = some false := by simp [isi1, kTys]
@[simp] theorem isi_tuple_list : isi1 Cs (.ty "tuple") (.ty "list") = some false := by simp [isi1, kTys]
@[simp] theorem isi_tuple_tuple : isi1 Cs (.ty "tuple") (.ty "tuple") = some true := by simp [isi1, kTys]
@[simp] theorem isiA_nil {t : Tag} : isiA Cs t [] = some false := rfl
@[simp] theorem isiA_cons {t : Tag} : isiA Cs t (c :: cs) = (match isi1 Cs t c with
  | some true => some true
  | some false => isiA Cs t cs
  | none => none) := rfl
/-! fields -/
def celI : Option Cell → Option (Addr × List (Str × D))
  | some (.ins C fs) => some (C, fs)
  | _ => none
@[simp] theorem celI_i : celI (some (.ins C fs)) = some (C, fs) := rfl
@[simp] theorem asI_ins : asI S (.ins C fs) = some (C, fs) := rfl
@[simp] theorem asI_m : asI S (.m n) = celI (S n) := by
  show (match S n with | some (.ins C fs) => some (C, fs) | _ => none) = celI (S n)
  unfold celI
  rfl
@[simp] theorem ap_fld : dFld Cs f ta δ S Q E = ta δ S (fun d S1 => opt (asI S1 d) fun q => q.1 ∈ Cs ∧ opt (q.2.lookup f) fun z => Q z S1) E := rfl
@[simp] theorem ap_meth : dMeth C mt n m dd to u δ S Q E = to δ S (fun d S1 => opt (asI S1 d) fun q => q.1 = C ∧ q.2.lookup mt = none ∧ u δ S1 (fun us S2 => (d :: (us ++ dd)).length = n ∧ m (d :: (us ++ dd)) S2 Q E) E) E := rfl
@[simp] theorem ap_makeF : dMakeF C n m dd u δ S Q E = u δ S (fun us S1 => us.length + dd.length + 1 = n ∧ ∀ k, S1 k = none → m (.m k :: (us ++ dd)) (put S1 k (.ins C [])) (fun d S2 => d = .non ∧ ∃ fs, S2 k = some (.ins C fs) ∧ Q (.ins C fs) (del S2 k)) (fun er S2 => ∃ S3, DL.Sub S3 S2 ∧ E er S3)) E := rfl
@[simp] theorem ap_makeM : dMakeM C n m dd u δ S Q E = u δ S (fun us S1 => us.length + dd.length + 1 = n ∧ ∀ k, S1 k = none → m (.m k :: (us ++ dd)) (put S1 k (.ins C [])) (fun d S2 => d = .non ∧ (∃ fs, S2 k = some (.ins C fs)) ∧ Q (.m k) S2) (fun er S2 => ∃ S3, DL.Sub S3 S2 ∧ E er S3)) E := rfl
@[simp] theorem ap_setF : dSetF Cs f to te B δ S = te δ S (fun d S1 => to δ S1 (fun x S2 => (match x with
  | .m n => ∃ C fs, S2 n = some (.ins C fs) ∧ C ∈ Cs ∧ fs.length < 1000 ∧ B.nx δ (put S2 n (.ins C (putD f d fs)))
  | _ => False)) (fun er S4 => B.ex er δ S4)) (fun er S4 => B.ex er δ S4) := by
  unfold dSetF
  rfl
end
theorem del_put {S : Sto} {n : Nat} {c : Cell} (h : S n = none) : DL.del (put S n c) n = S := by
  funext k
  by_cases q : k = n
  · rw [q, DL.del_same, h]
  · rw [DL.del_ne q, put_ne q]
end DL
namespace DL
open PySem L2
/-- two walks, nothing changes -/
theorem lc2_pure {kp : Sto → Prop} {i j : Nat} {src1 : DI} {elt : DE} {vs1 : List Nat} {δ : Lo} {S : Sto} {Qa : List D → Sto → Prop} (rows : D → List D) (m : D → D → D) (hk : kp S) : ∀ (ds acc : List D), acc.length + (ds.flatMap rows).length ≤ sizeLine →
    (∀ d ∈ ds, ∀ Qi : List D → (Sto → Prop) → Sto → Prop, Qi (rows d) (fun _ => True) S → src1 (δ.set i (some d)) S Qi eF) →
    (∀ d ∈ ds, ∀ x ∈ rows d, ∀ Q : D → Sto → Prop, Q (m d x) S → elt ((wipeD (δ.set i (some d)) vs1).set j (some x)) S Q eF) → Qa (acc ++ ds.flatMap fun d => (rows d).map (m d)) S → dLc2L kp (gN i) dYes src1 (gN j) dYes elt vs1 δ ds acc S Qa
  | [], acc, _, _, _, q => ⟨hk, by simpa using q⟩
  | d :: ds, acc, hl, hs, he, q => by
    rw [List.flatMap_cons, List.length_append] at hl
    refine ⟨hk, hs d (List.mem_cons_self ..) _ ?_⟩
    refine lc_pure (kp := fun _ => True) (fun _ => true) (m d) trivial (rows d) acc (by omega) (fun _ _ _ h => h) (fun x hx _ => he d (List.mem_cons_self ..) x hx) ?_
    rw [List.filter_eq_self.mpr (fun _ _ => rfl)]
    refine lc2_pure rows m hk ds _ (by rw [List.length_append, List.length_map]; omega) (fun x hx => hs x (List.mem_cons_of_mem _ hx)) (fun x hx => he x (List.mem_cons_of_mem _ hx)) ?_
    rw [List.flatMap_cons] at q
    simpa [List.append_assoc] using q
end DL
namespace DL
open PySem L2
/-! ## 27. Slices -/
section
variable {δ : Lo} {S : Sto} {Q : D → Sto → Prop} {Qo : Option Int → Sto → Prop} {E : Err → Sto → Prop} {te : DE} {tl th : DO} {xs : List D} {lo hi : Option Int} {k : D → Prop} {n : Nat} {ki : Int → Prop}
def slK (S : Sto) (x : D) (l h : Option Int) (k : D → Prop) : Prop := match x with
  | .tup ds => k (.tup (cutD ds l h))
  | .str z => z.length ≤ sizeLine ∧ k (.str (cutS z l h))
  | _ => opt (asR S x) fun ds => k (.lst (cutD ds l h))
def asInt (d : D) (k : Int → Prop) : Prop := match d with
  | .int i => k i
  | _ => False
@[simp] theorem asInt_i {i : Int} : asInt (.int i) ki = ki i := rfl
@[simp] theorem ap_sl : dSl te tl th δ S Q E = te δ S (fun x S1 => tl δ S1 (fun l S2 => th δ S2 (fun h S3 => slK S3 x l h fun z => Q z S3) E) E) E := by
  unfold dSl
  congr 1
@[simp] theorem ap_noP : dNoP δ S Qo E = Qo none S := rfl
@[simp] theorem ap_part : dPart te δ S Qo E = te δ S (fun d S1 => asInt d fun i => Qo (some i) S1) E := by
  unfold dPart
  congr 1
@[simp] theorem sl_tup : slK S (.tup xs) lo hi k = k (.tup (cutD xs lo hi)) := rfl
@[simp] theorem sl_lst : slK S (.lst xs) lo hi k = k (.lst (cutD xs lo hi)) := rfl
@[simp] theorem sl_rol : slK S (.rol xs) lo hi k = k (.lst (cutD xs lo hi)) := rfl
@[simp] theorem sl_m : slK S (.m n) lo hi k = opt (celO (S n)) fun ds => k (.lst (cutD ds lo hi)) := by
  show opt (asR S (.m n)) _ = _
  rw [asR_m]
theorem sIx_int {n d : Nat} {i : Int} (h : 0 ≤ i) : HT.sIx n d (some i) = min i.toNat n := by
  have q := HT.sIx_nat n d i.toNat
  rwa [Int.toNat_of_nonneg h] at q
theorem cut_to {i : Int} (h : 0 ≤ i) : cutD xs none (some i) = xs.take i.toNat := by
  unfold cutD
  rw [sIx_int h, HT.sIx_none]
  simp
theorem cut_from {i : Int} (h : 0 ≤ i) : cutD xs (some i) none = xs.drop i.toNat := by
  unfold cutD
  rw [sIx_int h, HT.sIx_none]
  by_cases q : i.toNat ≤ xs.length
  · rw [Nat.min_eq_left q]
    exact List.take_of_length_le (by rw [List.length_drop]; exact Nat.le_refl _)
  · rw [Nat.min_eq_right (by omega), List.drop_eq_nil_of_le (Nat.le_refl _), List.drop_eq_nil_of_le (by omega)]
    simp
theorem cut_but : cutD xs none (some (-1)) = xs.take (xs.length - 1) := by
  have e : HT.sIx xs.length xs.length (some (-1)) = xs.length - 1 := by
    show (if (-1 : Int) < 0 then ((-1 : Int) + (xs.length : Int)).toNat else min (-1 : Int).toNat xs.length) = _
    rw [if_pos (by decide)]
    omega
  unfold cutD
  rw [e, HT.sIx_none]
  simp
end
end DL

set_option maxHeartbeats 4000000
/-! ## The readings (printed by gen.py) -/
namespace K08
open PySem DL
abbrev cWishError : Addr := 59
abbrev cInvalidNumber : Addr := 81
abbrev cInvalidLibrary : Addr := 102
abbrev cShelf : Addr := 136
abbrev cLibrary : Addr := 208
abbrev cs : List Addr := [cShelf, cLibrary]
def tab_InvalidLibrary : List (Addr × Bool) := [(cInvalidNumber, false), (cInvalidLibrary, true)]
def tab_InvalidNumber : List (Addr × Bool) := [(cInvalidNumber, true), (cInvalidLibrary, false)]
def ki_FIELDS : List Int := [2, 3, 5, 7, 11, 13, 17, 19, 23, 29, 31]
def k_FIELDS : D := .tup (ki_FIELDS.map D.int)
def s__law_draws_1 : DS := (dIf (dAnd (dB (dBin oGe (dVar 5) (dBin oPow (dC (.int 10)) (dC (.int 18))))) (dB (dBin oGt (dBin oIx (dVar 2) (dVar 6)) (dC (.int 0))))) (dSeq (dEx (dApp (dVar 3) (dBin oMod (dCl oInt (dCons (dBin oIx (dVar 2) (dVar 6)) dNil)) (dC (.int 1000003)))))
    (dSeq (dSetI (dVar 2) (dVar 6) (dBin oFd (dCl oInt (dCons (dBin oIx (dVar 2) (dVar 6)) dNil)) (dC (.int 1000003))))
    dCnt)) dSkip)
def s__law_draws_2 : DS := (dIf (dB (dBin oGt (dCl oLen (dCons (dVar 0) dNil)) (dC (.int 0)))) (dSeq (dSet 6 (dBin oMod (dVar 4) (dCl oLen (dCons (dVar 0) dNil))))
    (dSeq (dSet 5 (dCl oInt (dCons (dBin oIx (dVar 0) (dVar 6)) dNil)))
    s__law_draws_1)) dSkip)
def b__law_draws_3 : DS := (dSeq (dSet 5 (dVar 4))
    (dSeq s__law_draws_2
    (dSeq (dSet 7 (dBin oMod (dCl oInt (dCons (dBin oAdd (dBin oAdd (dBin oMul (dVar 5) (dC (.int 48271))) (dBin oMul (dVar 4) (dC (.int 69621)))) (dC (.int 11))) dNil)) (dC (.int 2147483647))))
    (dSeq (dSet 7 (dBin oMod (dCl oInt (dCons (dBin oAdd (dBin oFd (dBin oMul (dVar 7) (dVar 7)) (dC (.int 4096))) (dVar 7)) dNil)) (dC (.int 2147483629))))
    (dEx (dApp (dVar 3) (dBin oMod (dCl oInt (dCons (dBin oAdd (dBin oFd (dBin oMul (dVar 7) (dVar 7)) (dC (.int 4096))) (dBin oMul (dVar 4) (dC (.int 7919)))) dNil)) (dC (.int 2147483629)))))))))
def s__law_draws_4 : DS := (dFor (iR1 (dCons (dVar 1) dNil)) (gN 4) b__law_draws_3)
def t__law_draws : DS := (dSeq (dSet 2 (dNew (dLc (iSeq (dVar 0)) (gN 5) dYes (dCl oAbs (dCons (dCl oInt (dCons (dVar 5) dNil)) dNil)) [5])))
    (dSeq (dSet 3 (dNew (dLst dNil)))
    (dSeq s__law_draws_4
    (dFrz 3 (dRet (dVar 3))))))
def m__law_draws : DFn := fnD 8 t__law_draws
def s__law_is_field_1 : DS := (dIf (dOr (dNot (dTru (dIsi cs (.ty "int") (dVar 0)))) (dOr (dTru (dIsi cs (.ty "bool") (dVar 0))) (dOr (dB (dBin oLt (dVar 0) (dC (.int 2)))) (dB (dBin oGt (dVar 0) (dC (.int 31))))))) (dRet (dC (.bl false))) dSkip)
def s__law_is_field_2 : DS := (dIf (dB (dBin (oEq false) (dBin oMod (dCl oInt (dCons (dVar 0) dNil)) (dVar 1)) (dC (.int 0)))) (dRet (dC (.bl false))) dSkip)
def b__law_is_field_3 : DS := s__law_is_field_2
def s__law_is_field_4 : DS := (dFor (iR2 (dCons (dC (.int 2)) (dCons (dCl oInt (dCons (dVar 0) dNil)) dNil))) (gN 1) b__law_is_field_3)
def t__law_is_field : DS := (dSeq s__law_is_field_1
    (dSeq s__law_is_field_4
    (dRet (dC (.bl true)))))
def m__law_is_field : DFn := fnD 2 t__law_is_field
def s__law_take_1 : DS := (dIf (dB (dBin oGe (dVar 2) (dCl oLen (dCons (dVar 3) dNil)))) (dRet (dC (.int 0))) dSkip)
def t__law_take : DS := (dSeq (dSet 2 (dBin oIx (dVar 0) (dC (.int 1))))
    (dSeq (dSetI (dVar 0) (dC (.int 1)) (dBin oAdd (dVar 2) (dC (.int 1))))
    (dSeq (dSet 3 (dBin oIx (dVar 0) (dC (.int 0))))
    (dSeq s__law_take_1
    (dRet (dBin oMod (dBin oFd (dCl oInt (dCons (dBin oIx (dVar 3) (dVar 2)) dNil)) (dC (.int 7))) (dVar 1)))))))
def m__law_take : DFn := fnD 4 t__law_take
def t__law_field : DS := (dSeq (dSet 1 (dFz (dLc (iR2 (dCons (dC (.int 2)) (dCons (dC (.int 32)) dNil))) (gN 2) (dTru (dCall 1 m__law_is_field [] (dCons (dVar 2) dNil))) (dVar 2) [2])))
    (dRet (dBin oIx (dVar 1) (dBin oIx (dFz (dLst (dCons (dCall 2 m__law_take [] (dCons (dVar 0) (dCons (dC (.int 11)) dNil))) (dCons (dCall 2 m__law_take [] (dCons (dVar 0) (dCons (dC (.int 3)) dNil))) dNil)))) (dCall 2 m__law_take [] (dCons (dVar 0) (dCons (dC (.int 2)) dNil)))))))
def m__law_field : DFn := fnD 3 t__law_field
def t__law_books : DS := (dRet (dCl oTuple (dCons (dFz (dLc (iR1 (dCons (dVar 2) dNil)) (gN 4) dYes (dCl oTuple (dCons (dFz (dLc (iR1 (dCons (dVar 3) dNil)) (gN 5) dYes (dCall 2 m__law_take [] (dCons (dVar 0) (dCons (dVar 1) dNil))) [5])) dNil)) [4])) dNil)))
def m__law_books : DFn := fnD 6 t__law_books
def t_is_integer_integers : DS := (dRet (dAndV (dIsi cs (.ty "int") (dVar 0)) (dNotV (dIsi cs (.ty "bool") (dVar 0)))))
def m_is_integer_integers : DFn := fnD 1 t_is_integer_integers
def t_is_field : DS := (dRet (dAndV (dCall 1 m_is_integer_integers [] (dCons (dVar 0) dNil)) (dBin (oIn false) (dVar 0) (dC k_FIELDS))))
def m_is_field : DFn := fnD 1 t_is_field
def t_is_sequence : DS := (dRet (dIsiT cs (.ty "list") [(.ty "tuple")] (dVar 0)))
def m_is_sequence : DFn := fnD 1 t_is_sequence
def t_is_integer_bookplaces : DS := (dRet (dAndV (dIsi cs (.ty "int") (dVar 0)) (dNotV (dIsi cs (.ty "bool") (dVar 0)))))
def m_is_integer_bookplaces : DFn := fnD 1 t_is_integer_bookplaces
def t_is_place : DS := (dRet (dAndV (dCall 1 m_is_integer_bookplaces [] (dCons (dVar 0) dNil)) (dChain oLe oLt (dC (.int 0)) (dVar 0) (dVar 1))))
def m_is_place : DFn := fnD 2 t_is_place
def s_are_letters_1 : DS := (dIf (dNot (dTru (dCall 1 m_is_sequence [] (dCons (dVar 1) dNil)))) (dRet (dC (.bl false))) dSkip)
def s_are_letters_2 : DS := (dIf (dNot (dTru (dCall 2 m_is_place [] (dCons (dVar 2) (dCons (dVar 0) dNil))))) (dRet (dC (.bl false))) dSkip)
def b_are_letters_3 : DS := s_are_letters_2
def s_are_letters_4 : DS := (dFor (iSeq (dVar 1)) (gN 2) b_are_letters_3)
def t_are_letters : DS := (dSeq s_are_letters_1
    (dSeq s_are_letters_4
    (dRet (dC (.bl true)))))
def m_are_letters : DFn := fnD 3 t_are_letters
def s__are_books_1 : DS := (dIf (dOr (dNot (dTru (dCall 1 m_is_sequence [] (dCons (dVar 1) dNil)))) (dB (dBin (oEq false) (dCl oLen (dCons (dVar 1) dNil)) (dC (.int 0))))) (dRet (dC (.bl false))) dSkip)
def s__are_books_2 : DS := (dIf (dOr (dNot (dTru (dCall 2 m_are_letters [] (dCons (dVar 0) (dCons (dVar 2) dNil))))) (dOr (dB (dBin (oEq false) (dCl oLen (dCons (dVar 2) dNil)) (dC (.int 0)))) (dB (dBin (oEq true) (dCl oLen (dCons (dVar 2) dNil)) (dCl oLen (dCons (dBin oIx (dVar 1) (dC (.int 0))) dNil)))))) (dRet (dC (.bl false))) dSkip)
def b__are_books_3 : DS := s__are_books_2
def s__are_books_4 : DS := (dFor (iSeq (dVar 1)) (gN 2) b__are_books_3)
def t__are_books : DS := (dSeq s__are_books_1
    (dSeq s__are_books_4
    (dRet (dC (.bl true)))))
def m__are_books : DFn := fnD 3 t__are_books
def s_Library___init___1 : DS := (dIf (dNot (dTru (dCall 1 m_is_field [] (dCons (dVar 1) dNil)))) (dRaise cInvalidNumber ["value"] (dCons (dVar 1) dNil)) dSkip)
def s_Library___init___2 : DS := (dIf (dNot (dTru (dCall 2 m__are_books [] (dCons (dVar 1) (dCons (dVar 2) dNil))))) (dRaise cInvalidLibrary ["value"] (dCons (dVar 2) dNil)) dSkip)
def t_Library___init__ : DS := (dSeq s_Library___init___1
    (dSeq s_Library___init___2
    (dSeq (dSetF [cLibrary] "p" (dVar 0) (dVar 1))
    (dSeq (dSetF [cLibrary] "books" (dVar 0) (dCl oTuple (dCons (dFz (dLc (iSeq (dVar 2)) (gN 3) dYes (dCl oTuple (dCons (dVar 3) dNil)) [3])) dNil)))
    (dSeq (dSetF [cLibrary] "book_count" (dVar 0) (dCl oLen (dCons (dFld [cLibrary] "books" (dVar 0)) dNil)))
    (dSeq (dSetF [cLibrary] "book_length" (dVar 0) (dCl oLen (dCons (dBin oIx (dFld [cLibrary] "books" (dVar 0)) (dC (.int 0))) dNil)))
    (dSetF [cLibrary] "letters" (dVar 0) (dCl oTuple (dCons (dFz (dLc2 (iSeq (dFld [cLibrary] "books" (dVar 0))) (gN 3) dYes (iSeq (dVar 3)) (gN 4) dYes (dVar 4) [3, 4] [4])) dNil)))))))))
def m_Library___init__ : DFn := fnD 5 t_Library___init__
def t_Shelf___init__ : DS := (dSeq (dSetF [cShelf] "_kept" (dVar 0) (dNew (dLst (dCons (dVar 1) dNil))))
    (dSetF [cShelf] "edition" (dVar 0) (dC (.int 0))))
def m_Shelf___init__ : DFn := fnD 2 t_Shelf___init__
def s_Library_changed_1 : DS := (dIf (dNot (dTru (dCall 2 m_is_place [] (dCons (dVar 1) (dCons (dFld [cLibrary] "book_count" (dVar 0)) dNil))))) (dRaise cInvalidNumber ["value"] (dCons (dVar 1) dNil)) dSkip)
def s_Library_changed_2 : DS := (dIf (dOr (dNot (dTru (dCall 2 m_are_letters [] (dCons (dFld [cLibrary] "p" (dVar 0)) (dCons (dVar 2) dNil))))) (dB (dBin (oEq true) (dCl oLen (dCons (dVar 2) dNil)) (dFld [cLibrary] "book_length" (dVar 0))))) (dRaise cInvalidLibrary ["value"] (dCons (dVar 2) dNil)) dSkip)
def t_Library_changed : DS := (dSeq s_Library_changed_1
    (dSeq s_Library_changed_2
    (dRet (dMakeF cLibrary 3 m_Library___init__ [] (dCons (dFld [cLibrary] "p" (dVar 0)) (dCons (dBin oAdd (dBin oAdd (dSl (dFld [cLibrary] "books" (dVar 0)) dNoP (dPart (dVar 1))) (dTup (dCons (dCl oTuple (dCons (dVar 2) dNil)) dNil))) (dSl (dFld [cLibrary] "books" (dVar 0)) (dPart (dBin oAdd (dVar 1) (dC (.int 1)))) dNoP)) dNil))))))
def m_Library_changed : DFn := fnD 3 t_Library_changed
def t_Shelf_put : DS := (dSeq (dSet 3 (dMeth cLibrary "changed" 3 m_Library_changed [] (dBin oIx (dFld [cShelf] "_kept" (dVar 0)) (dFld [cShelf] "edition" (dVar 0))) (dCons (dVar 1) (dCons (dVar 2) dNil))))
    (dSeq (dEx (dApp (dFld [cShelf] "_kept" (dVar 0)) (dVar 3)))
    (dSeq (dSetF [cShelf] "edition" (dVar 0) (dBin oAdd (dFld [cShelf] "edition" (dVar 0)) (dC (.int 1))))
    (dRet (dFld [cShelf] "edition" (dVar 0))))))
def m_Shelf_put : DFn := fnD 4 t_Shelf_put
def h__law_put_1 : List (Value × Hd) := [(.ref cInvalidNumber, ⟨fun C => List.lookup C tab_InvalidNumber, some 3, fun a dx er => (dRet (dFz (dLst (dCons (dC (.str "refused")) (dCons (dXf [cInvalidNumber] a dx er "value" (dVar 3)) dNil)))))⟩), (.ref cInvalidLibrary, ⟨fun C => List.lookup C tab_InvalidLibrary, some 3, fun a dx er => (dRet (dFz (dLst (dCons (dC (.str "wrong")) (dCons (dXf [cInvalidLibrary] a dx er "value" (dVar 3)) dNil)))))⟩)]
def s__law_put_2 : DS := (dTry (h__law_put_1.map (·.2)) (dRet (dFz (dLst (dCons (dC (.str "number")) (dCons (dMeth cShelf "put" 3 m_Shelf_put [] (dVar 0) (dCons (dVar 1) (dCons (dVar 2) dNil))) dNil))))))
def t__law_put : DS := s__law_put_2
def m__law_put : DFn := fnD 4 t__law_put
def s__law_same_1 (self : DFn) : DS := (dIf (dOr (dNot (dTru (dIsi cs (.ty "tuple") (dVar 0)))) (dB (dBin (oEq true) (dCl oLen (dCons (dVar 0) dNil)) (dCl oLen (dCons (dVar 1) dNil))))) (dRet (dC (.bl false))) dSkip)
def s__law_same_2 (self : DFn) : DS := (dIf (dNot (dTru (dCall 2 self [] (dCons (dBin oIx (dVar 0) (dVar 2)) (dCons (dBin oIx (dVar 1) (dVar 2)) dNil))))) (dRet (dC (.bl false))) dSkip)
def b__law_same_3 (self : DFn) : DS := (s__law_same_2 self)
def s__law_same_4 (self : DFn) : DS := (dFor (iR1 (dCons (dCl oLen (dCons (dVar 1) dNil)) dNil)) (gN 2) (b__law_same_3 self))
def s__law_same_5 (self : DFn) : DS := (dIf (dTru (dIsi cs (.ty "tuple") (dVar 1))) (dSeq (s__law_same_1 self)
    (dSeq (s__law_same_4 self)
    (dRet (dC (.bl true))))) dSkip)
def t__law_same (self : DFn) : DS := (dSeq (s__law_same_5 self)
    (dRet (dAndV (dIsi cs (.ty "int") (dVar 0)) (dAndV (dNotV (dIsi cs (.ty "bool") (dVar 0))) (dBin (oEq false) (dVar 0) (dVar 1))))))
def m__law_same : Nat → DFn
  | 0 => mBot
  | r + 1 => fnD 3 (t__law_same (m__law_same r))
def s_Shelf_at_1 : DS := (dIf (dB (dBin (oIsN false) (dVar 1) (dC .non))) (dRet (dBin oIx (dFld [cShelf] "_kept" (dVar 0)) (dFld [cShelf] "edition" (dVar 0)))) dSkip)
def s_Shelf_at_2 : DS := (dIf (dNot (dTru (dCall 2 m_is_place [] (dCons (dVar 1) (dCons (dBin oAdd (dFld [cShelf] "edition" (dVar 0)) (dC (.int 1))) dNil))))) (dRaise cInvalidNumber ["value"] (dCons (dVar 1) dNil)) dSkip)
def t_Shelf_at : DS := (dSeq s_Shelf_at_1
    (dSeq s_Shelf_at_2
    (dRet (dBin oIx (dFld [cShelf] "_kept" (dVar 0)) (dVar 1)))))
def m_Shelf_at : DFn := fnD 2 t_Shelf_at
def h__law_at_1 : List (Value × Hd) := [(.ref cInvalidNumber, ⟨fun C => List.lookup C tab_InvalidNumber, some 2, fun a dx er => (dRet (dXf [cInvalidNumber] a dx er "value" (dVar 2)))⟩)]
def s__law_at_2 : DS := (dTry (h__law_at_1.map (·.2)) (dEx (dMeth cShelf "at" 2 m_Shelf_at [] (dVar 0) (dCons (dVar 1) dNil))))
def t__law_at : DS := (dSeq s__law_at_2
    (dRet (dC (.str "fine"))))
def m__law_at : DFn := fnD 3 t__law_at
def s__law_is_1 : DS := (dIf (dOr (dNot (dTru (dIsi cs (.own cLibrary) (dVar 0)))) (dOr (dNot (dTru (dCall 2 (m__law_same 4) [] (dCons (dFld [cLibrary] "books" (dVar 0)) (dCons (dVar 2) dNil))))) (dNot (dTru (dCall 2 (m__law_same 4) [] (dCons (dFld [cLibrary] "p" (dVar 0)) (dCons (dVar 1) dNil))))))) (dRet (dC (.bl false))) dSkip)
def b__law_is_2 : DS := (dSet 3 (dBin oAdd (dVar 3) (dVar 4)))
def s__law_is_3 : DS := (dFor (iSeq (dVar 2)) (gN 4) b__law_is_2)
def t__law_is : DS := (dSeq s__law_is_1
    (dSeq (dSet 3 (dTup dNil))
    (dSeq s__law_is_3
    (dSeq (dSet 5 (dTup (dCons (dFld [cLibrary] "book_count" (dVar 0)) (dCons (dFld [cLibrary] "book_length" (dVar 0)) dNil))))
    (dRet (dAndV (dCall 2 (m__law_same 4) [] (dCons (dVar 5) (dCons (dTup (dCons (dCl oLen (dCons (dVar 2) dNil)) (dCons (dCl oLen (dCons (dBin oIx (dVar 2) (dC (.int 0))) dNil)) dNil))) dNil))) (dCall 2 (m__law_same 4) [] (dCons (dFld [cLibrary] "letters" (dVar 0)) (dCons (dVar 3) dNil)))))))))
def m__law_is : DFn := fnD 6 t__law_is
def s__law_shelf_right_1 : DS := (dIf (dNot (dTru (dCall 2 (m__law_same 4) [] (dCons (dFld [cShelf] "edition" (dVar 0)) (dCons (dBin oSub (dCl oLen (dCons (dVar 2) dNil)) (dC (.int 1))) dNil))))) (dRet (dC (.bl false))) dSkip)
def s__law_shelf_right_2 : DS := (dIf (dNot (dTru (dCall 3 m__law_is [] (dCons (dMeth cShelf "at" 2 m_Shelf_at [] (dVar 0) (dCons (dVar 3) dNil)) (dCons (dVar 1) (dCons (dBin oIx (dVar 2) (dVar 3)) dNil)))))) (dRet (dC (.bl false))) dSkip)
def b__law_shelf_right_3 : DS := s__law_shelf_right_2
def s__law_shelf_right_4 : DS := (dFor (iR1 (dCons (dCl oLen (dCons (dVar 2) dNil)) dNil)) (gN 3) b__law_shelf_right_3)
def t__law_shelf_right : DS := (dSeq s__law_shelf_right_1
    (dSeq s__law_shelf_right_4
    (dRet (dAndV (dCall 3 m__law_is [] (dCons (dMeth cShelf "at" 2 m_Shelf_at [.non] (dVar 0) dNil) (dCons (dVar 1) (dCons (dBin oIx (dVar 2) (dUn oNeg (dC (.int 1)))) dNil)))) (dCall 3 m__law_is [] (dCons (dMethK cShelf "at" 2 m_Shelf_at 1 [.p 0, .k 0] [.non] (dVar 0) (dCons (dC .non) dNil)) (dCons (dVar 1) (dCons (dBin oIx (dVar 2) (dUn oNeg (dC (.int 1)))) dNil))))))))
def m__law_shelf_right : DFn := fnD 4 t__law_shelf_right
def s_law_1 : DS := (dIf (dOr (dB (dBin (oEq true) (dBin oIx (dVar 18) (dC (.int 0))) (dC (.str "number")))) (dNot (dTru (dCall 2 (m__law_same 4) [] (dCons (dBin oIx (dVar 18) (dC (.int 1))) (dCons (dBin oSub (dCl oLen (dCons (dBin oIx (dVar 8) (dVar 10)) dNil)) (dC (.int 1))) dNil)))))) (dRet (dC (.bl false))) dSkip)
def s_law_2 : DS := (dIf (dTru (dIsi cs (.ty "list") (dVar 17))) (dSetI (dVar 17) (dC (.int 0)) (dVar 2)) dSkip)
def s_law_3 : DS := (dIf (dOr (dB (dBin (oEq true) (dCall 3 m__law_put [] (dCons (dVar 16) (dCons (dVar 14) (dCons (dVar 15) dNil)))) (dFz (dLst (dCons (dC (.str "refused")) (dCons (dVar 14) dNil)))))) (dB (dBin (oEq true) (dCall 3 m__law_put [] (dCons (dVar 16) (dCons (dVar 14) (dCons (dVar 12) dNil)))) (dFz (dLst (dCons (dC (.str "refused")) (dCons (dVar 14) dNil))))))) (dRet (dC (.bl false))) dSkip)
def s_law_4 : DS := (dIf (dB (dBin (oEq true) (dCall 3 m__law_put [] (dCons (dVar 16) (dCons (dVar 11) (dCons (dVar 15) dNil)))) (dFz (dLst (dCons (dC (.str "wrong")) (dCons (dVar 15) dNil)))))) (dRet (dC (.bl false))) dSkip)
def s_law_5 : DS := (dIf (dB (dBin (oEq true) (dCall 2 m__law_at [] (dCons (dVar 16) (dCons (dVar 20) dNil))) (dVar 20))) (dRet (dC (.bl false))) dSkip)
def s_law_6 : DS := (dIf (dB (dBin (oEq false) (dVar 13) (dC (.int 3)))) (dSeq s_law_3
    s_law_4) (dSeq (dSet 20 (dBin oIx (dFz (dLst (dCons (dCl oLen (dCons (dBin oIx (dVar 8) (dVar 10)) dNil)) (dCons (dUn oNeg (dC (.int 1))) (dCons (dC (.bl true)) (dCons (dC (.str "0")) (dCons (dTup (dCons (dC (.int 0)) dNil)) (dCons (dBin oPow (dC (.int 10)) (dC (.int 25))) (dCons (dC (.bl false)) dNil))))))))) (dCall 2 m__law_take [] (dCons (dVar 1) (dCons (dC (.int 7)) dNil)))))
    s_law_5))
def s_law_7 : DS := (dIf (dB (dBin oLt (dVar 13) (dC (.int 3)))) (dSeq (dSet 17 (dBin oIx (dFz (dLst (dCons (dNew (dListOf (dCons (dVar 12) dNil))) (dCons (dVar 12) dNil)))) (dCall 2 m__law_take [] (dCons (dVar 1) (dCons (dC (.int 2)) dNil)))))
    (dSeq (dSet 18 (dCall 3 m__law_put [] (dCons (dVar 16) (dCons (dVar 11) (dCons (dVar 17) dNil)))))
    (dSeq (dSet 19 (dBin oIx (dBin oIx (dVar 8) (dVar 10)) (dUn oNeg (dC (.int 1)))))
    (dSeq (dEx (dApp (dBin oIx (dVar 8) (dVar 10)) (dBin oAdd (dBin oAdd (dSl (dVar 19) dNoP (dPart (dVar 11))) (dTup (dCons (dVar 12) dNil))) (dSl (dVar 19) (dPart (dBin oAdd (dVar 11) (dC (.int 1)))) dNoP))))
    (dSeq s_law_1
    s_law_2))))) s_law_6)
def s_law_8 : DS := (dIf (dNot (dTru (dCall 3 m__law_shelf_right [] (dCons (dBin oIx (dVar 7) (dVar 21)) (dCons (dVar 2) (dCons (dBin oIx (dVar 8) (dVar 21)) dNil)))))) (dRet (dC (.bl false))) dSkip)
def b_law_9 : DS := s_law_8
def s_law_10 : DS := (dFor (iR1 (dCons (dC (.int 2)) dNil)) (gN 21) b_law_9)
def b_law_11 : DS := (dSeq (dSet 10 (dBin oFd (dCall 2 m__law_take [] (dCons (dVar 1) (dCons (dC (.int 4)) dNil))) (dC (.int 3))))
    (dSeq (dSet 11 (dCall 2 m__law_take [] (dCons (dVar 1) (dCons (dVar 3) dNil))))
    (dSeq (dSet 12 (dBin oIx (dCall 4 m__law_books [] (dCons (dVar 1) (dCons (dVar 2) (dCons (dC (.int 1)) (dCons (dVar 4) dNil))))) (dC (.int 0))))
    (dSeq (dSet 13 (dCall 2 m__law_take [] (dCons (dVar 1) (dCons (dC (.int 6)) dNil))))
    (dSeq (dSet 14 (dBin oIx (dFz (dLst (dCons (dVar 3) (dCons (dUn oNeg (dC (.int 1))) (dCons (dC (.bl true)) (dCons (dC .non) (dCons (dC (.str "0")) (dCons (dTup dNil) (dCons (dBin oPow (dC (.int 10)) (dC (.int 25))) dNil))))))))) (dCall 2 m__law_take [] (dCons (dVar 1) (dCons (dC (.int 7)) dNil)))))
    (dSeq (dSet 15 (dBin oIx (dFz (dLst (dCons (dBin oAdd (dVar 12) (dTup (dCons (dC (.int 0)) dNil))) (dCons (dSl (dVar 12) (dPart (dC (.int 1))) dNoP) (dCons (dBin oAdd (dSl (dVar 12) dNoP (dPart (dUn oNeg (dC (.int 1))))) (dTup (dCons (dVar 2) dNil))) (dCons (dC .non) (dCons (dBin oAdd (dSl (dVar 12) dNoP (dPart (dUn oNeg (dC (.int 1))))) (dTup (dCons (dC (.bl true)) dNil))) (dCons (dC (.int 5)) (dCons (dC (.str "0")) (dCons (dFz (dLst (dCons (dFz (dLst (dCons (dC (.int 0)) dNil))) dNil))) (dCons (dBin oAdd (dTup (dCons (dUn oNeg (dC (.int 1))) dNil)) (dSl (dVar 12) (dPart (dC (.int 1))) dNoP)) dNil))))))))))) (dCall 2 m__law_take [] (dCons (dVar 1) (dCons (dC (.int 9)) dNil)))))
    (dSeq (dSet 16 (dBin oIx (dVar 7) (dVar 10)))
    (dSeq s_law_7
    s_law_10))))))))
def s_law_12 : DS := (dFor (iR1 (dCons (dCall 2 m__law_take [] (dCons (dVar 1) (dCons (dC (.int 10)) dNil))) dNil)) (gN 9) b_law_11)
def t_law : DS := (dSeq (dSet 1 (dNew (dLst (dCons (dCall 2 m__law_draws [] (dCons (dVar 0) (dCons (dC (.int 160)) dNil))) (dCons (dC (.int 0)) dNil)))))
    (dSeq (dSet 2 (dCall 1 m__law_field [] (dCons (dVar 1) dNil)))
    (dSeq (dSet 3 (dBin oAdd (dC (.int 1)) (dCall 2 m__law_take [] (dCons (dVar 1) (dCons (dC (.int 3)) dNil)))))
    (dSeq (dSet 4 (dBin oAdd (dC (.int 1)) (dCall 2 m__law_take [] (dCons (dVar 1) (dCons (dC (.int 3)) dNil)))))
    (dSeq (dSet 5 (dCall 4 m__law_books [] (dCons (dVar 1) (dCons (dVar 2) (dCons (dVar 3) (dCons (dVar 4) dNil))))))
    (dSeq (dSet 6 (dMakeF cLibrary 3 m_Library___init__ [] (dCons (dVar 2) (dCons (dVar 5) dNil))))
    (dSeq (dSet 7 (dFz (dLst (dCons (dMakeM cShelf 2 m_Shelf___init__ [] (dCons (dVar 6) dNil)) (dCons (dMakeM cShelf 2 m_Shelf___init__ [] (dCons (dVar 6) dNil)) dNil)))))
    (dSeq (dSet 8 (dFz (dLst (dCons (dNew (dLst (dCons (dVar 5) dNil))) (dCons (dNew (dLst (dCons (dVar 5) dNil))) dNil)))))
    (dSeq s_law_12
    (dRet (dCall 3 m__law_is [] (dCons (dVar 6) (dCons (dVar 2) (dCons (dVar 5) dNil))))))))))))))
def m_law : DFn := fnD 22 t_law
end K08

set_option maxHeartbeats 1000000
namespace K08
open PySem DL L2
/-! ### the draws -/
def Hand (S : Sto) (h : Nat) : Prop := ∃ (dr : List Int) (a : Int), S h = some (.lst [.lst (dr.map .int), .int a]) ∧ 0 ≤ a
theorem take_spec {S : Sto} {h : Nat} {many : Int} {Q : D → Sto → Prop} {E : Err → Sto → Prop} (hS : Hand S h) (hm : 0 < many)
    (k : ∀ v S', 0 ≤ v → v < many → Hand S' h → (∀ n, n ≠ h → S' n = S n) → Q (.int v) S') : m__law_take [.m h, .int many] S Q E := by
  obtain ⟨dr, a, hS, h0⟩ := hS
  unfold m__law_take t__law_take s__law_take_1
  simp [hS, dSetI, ixN]
  have kk : ∀ v, 0 ≤ v → v < many → Q (.int v) (put S h (.lst [.lst (dr.map .int), .int (a + 1)])) := fun v h1 h2 => k v _ h1 h2 ⟨dr, a + 1, put_same, by omega⟩ fun n hn => put_ne hn
  refine cnd_dec (fun hl => fn_end (kk 0 (by omega) hm)) fun hl => ?_
  have hl' : a.toNat < (dr.map D.int).length := by rw [List.length_map]; omega
  refine opt_eq (at_get h0 (by rw [List.length_map]; omega)) ?_
  simp
  exact fd_int (by omega) (by omega) (mod_int hm (fn_end (kk _ (Int.emod_nonneg _ (by omega)) (Int.emod_lt_of_pos _ hm))))
theorem rng_split {lo : Int} {m : Nat} {d : D} {ds : List D} (h : d :: ds = rngD lo m) : ∃ m', m = m' + 1 ∧ d = .int lo ∧ ds = rngD (lo + 1) m' := by
  cases m with
  | zero => cases h
  | succ m' =>
    unfold rngD at h
    injection h with h1 h2
    exact ⟨m', rfl, h1, h2⟩
theorem sz {n : Nat} (h : n ≤ 1000) : n ≤ sizeLine := by rw [sizeLine_eq]; omega
abbrev drL (ns : List Int) (many : Int) (r e : Nat) (lo : Int) (g5 g6 g7 : Option D) : Lo := [some (.rol (ns.map .int)), some (.int many), some (.m r), some (.m e), some (.int lo), g5, g6, g7]
abbrev drS (S : Sto) (r e : Nat) (rs ac : List Int) : Sto := put (put S r (.lst (rs.map .int))) e (.lst (ac.map .int))
theorem ints_at {l : List Int} {j : Int} (h0 : 0 ≤ j) (h1 : j < l.length) : ∃ z, atI (l.map D.int) j = some (.int z) := ⟨_, by rw [at_get h0 (by rw [List.length_map]; exact h1), List.getElem_map]⟩
theorem draws_s2 {B : DEnds} {S : Sto} {ns rs ac : List Int} {many lo : Int} {r e : Nat} {g6 g7 : Option D} (hn : ns.length ≤ 63) (hl : rs.length = ns.length) (h0 : 0 ≤ lo) (hre : r ≠ e) (hac : ac.length < 1000)
    (nx : ∀ cell g6, B.nx (drL ns many r e lo (some (.int cell)) g6 g7) (drS S r e rs ac))
    (ct : ∀ rs' ac' cell g6, rs'.length = ns.length → ac'.length = ac.length + 1 → B.ct (drL ns many r e lo (some (.int cell)) g6 g7) (drS S r e rs' ac')) :
    s__law_draws_2 B (drL ns many r e lo (some (.int lo)) g6 g7) (drS S r e rs ac) := by
  have hr1 : ∀ rs ac, drS S r e rs ac r = some (.lst (rs.map .int)) := fun rs ac => (put_ne hre).trans put_same
  have he1 : ∀ rs ac, drS S r e rs ac e = some (.lst (ac.map .int)) := fun rs ac => put_same
  unfold s__law_draws_2
  simp only [ap_if, ap_b, ap_bin, ap_cl, ap_cons, ap_nil, ap_var, ap_c, ap_skip, drL, List.getElem?_cons_zero, List.getElem?_cons_succ, len_rol, List.length_map, c0_int, asB_bl]
  refine cnd_dec (fun hp => ?_) fun _ => nx _ _
  have hp : (0 : Int) < ns.length := hp
  simp
  refine mod_int hp ?_
  obtain ⟨z, hz⟩ := ints_at (l := ns) (Int.emod_nonneg lo (by omega)) (Int.emod_lt_of_pos lo hp)
  simp [hz]
  unfold s__law_draws_1
  have hlt : lo % (ns.length : Int) < rs.length := by rw [hl]; exact Int.emod_lt_of_pos lo hp
  obtain ⟨y, hy⟩ := ints_at (l := rs) (Int.emod_nonneg lo (by omega)) hlt
  simp [hr1, hy]
  refine ⟨⟨by omega, by omega, by decide⟩, cnd_dec (fun _ => ?_) fun _ => nx _ _⟩
  refine cnd_dec (fun _ => ?_) fun _ => nx _ _
  simp [dApp, hr1, hy]
  refine mod_int (by omega) ⟨sz (by omega), ?_⟩
  have hput : put (put S r (.lst (rs.map .int))) e (.lst (ac.map D.int ++ [.int (y % 1000003)])) = drS S r e rs (ac ++ [y % 1000003]) := by simp [drS]
  rw [hput]
  simp [dSetI, hr1, hy]
  refine fd_int (by omega) (by omega) ⟨(lo % (ns.length : Int)).toNat, ?_, ?_⟩
  · have := Int.emod_nonneg lo (b := (ns.length : Int)) (by omega)
    unfold ixN
    rw [if_pos this, if_pos (by omega)]
  · have e1 : put (drS S r e rs (ac ++ [y % 1000003])) r (.lst ((rs.map D.int).set (lo % (ns.length : Int)).toNat (.int (y / 1000003)))) = drS S r e (rs.set (lo % (ns.length : Int)).toNat (y / 1000003)) (ac ++ [y % 1000003]) := by
      funext k
      by_cases h1 : k = r
      · rw [h1, put_same, hr1, List.map_set]
      · rw [put_ne h1]
        show put (put S r _) e _ k = put (put S r _) e _ k
        by_cases h2 : k = e
        · rw [h2, put_same, put_same]
        · rw [put_ne h2, put_ne h2, put_ne h1, put_ne h1]
    rw [e1]
    exact ct _ _ _ _ (by rw [List.length_set]; exact hl) (by simp)
theorem draws_spec {S : Sto} {ns : List Int} {many : Int} {Q : D → Sto → Prop} {E : Err → Sto → Prop} (hn : ns.length ≤ 63) (hm : 0 ≤ many) (hm2 : many < 1000) (k : ∀ dr : List Int, Q (.lst (dr.map .int)) S) : m__law_draws [.rol (ns.map .int), .int many] S Q E := by
  unfold m__law_draws t__law_draws
  simp
  refine lc_map (fun d => match d with | .int j => .int (if j < 0 then -j else j) | _ => .non) trivial _ (by rw [List.length_map]; exact sz (by omega)) ?_ ?_
  · intro d hd Q hq
    obtain ⟨j, _, rfl⟩ := List.mem_map.mp hd
    simp
    exact hq
  intro r hr
  simp
  intro e he
  have hre : r ≠ e := fun z => by rw [z, put_same] at he; cases he
  have heS : S e = none := by rw [put_ne (Ne.symm hre)] at he; exact he
  unfold s__law_draws_4
  simp
  refine ⟨by omega, by omega, ?_⟩
  let Inv : List D → Lo → Sto → Prop := fun ds δ S' => ∃ (lo : Int) (m : Nat) (rs ac : List Int) (g4 g5 g6 g7 : Option D), ds = rngD lo m ∧ 0 ≤ lo ∧ rs.length = ns.length ∧ ac.length + m ≤ 1000 ∧ δ = [some (.rol (ns.map .int)), some (.int many), some (.m r), some (.m e), g4, g5, g6, g7] ∧ S' = drS S r e rs ac
  refine loop_N Inv (fun _ _ _ _ => trivial) ?_ ?_ _ _ _ ⟨0, many.toNat, ns.map (fun j => if j < 0 then -j else j), [], none, none, none, none, rfl, by omega, by simp, by simp; omega, rfl, ?_⟩
  · rintro d ds δ S' ⟨lo, m, rs, ac, g4, g5, g6, g7, hd, h0, hl, hc, rfl, rfl⟩ B' hB hb1 hb2 hb3
    obtain ⟨m, rfl, rfl, rfl⟩ := rng_split hd
    have nx : ∀ (rs' ac' : List Int) (g5 g6 g7 : Option D), rs'.length = ns.length → ac'.length + m ≤ 1000 → B'.nx (drL ns many r e lo g5 g6 g7) (drS S r e rs' ac') ∧ B'.ct (drL ns many r e lo g5 g6 g7) (drS S r e rs' ac') := fun rs' ac' g5 g6 g7 h1 h2 => hB _ _ ⟨lo + 1, m, rs', ac', _, g5, g6, g7, rfl, by omega, h1, h2, rfl, rfl⟩
    unfold b__law_draws_3
    simp only [ap_seq, ap_set, ap_var, List.set_cons_zero, List.set_cons_succ, List.getElem?_cons_zero, List.getElem?_cons_succ]
    refine draws_s2 hn hl h0 hre (by omega) (fun cell g6 => ?_) fun rs' ac' cell g6 h1 h2 => (nx rs' ac' _ _ _ h1 (by omega)).2
    simp
    refine ⟨Or.inl (Or.inr (by omega)), Or.inl (Or.inr (by omega)), mod_int (by omega) ?_⟩
    have b0 := Int.emod_nonneg (cell * 48271 + lo * 69621 + 11) (b := 2147483647) (by decide)
    have b1 := Int.emod_lt_of_pos (cell * 48271 + lo * 69621 + 11) (b := 2147483647) (by decide)
    simp
    generalize (cell * 48271 + lo * 69621 + 11) % 2147483647 = x at b0 b1 ⊢
    refine ⟨Or.inl (Or.inl (by omega)), fd_int (by omega) (by omega) ?_⟩
    simp
    refine mod_int (by omega) ?_
    have c0 := Int.emod_nonneg (x * x / 4096 + x) (b := 2147483629) (by decide)
    have c1 := Int.emod_lt_of_pos (x * x / 4096 + x) (b := 2147483629) (by decide)
    generalize (x * x / 4096 + x) % 2147483629 = z at c0 c1 ⊢
    simp [dApp]
    refine ⟨Or.inl (Or.inl (by omega)), fd_int (by omega) (by omega) ?_⟩
    refine ⟨Or.inl (Or.inr (by omega)), ?_⟩
    simp
    refine mod_int (by omega) ⟨sz (by omega), ?_⟩
    have q := (nx rs (ac ++ [(z * z / 4096 + lo * 7919) % 2147483629]) (some (.int cell)) g6 (some (.int z)) hl (by rw [List.length_append, List.length_singleton]; omega)).1
    have e1 : put (put S r (.lst (rs.map .int))) e (.lst (ac.map D.int ++ [.int ((z * z / 4096 + lo * 7919) % 2147483629)])) = drS S r e rs (ac ++ [(z * z / 4096 + lo * 7919) % 2147483629]) := by simp [drS]
    rw [e1]
    exact q
  · rintro δ S' ⟨lo, m, rs, ac, g4, g5, g6, g7, hd, h0, hl, hc, rfl, rfl⟩
    simp [dFrz]
    exact ⟨S, fun n c h => by
      by_cases h1 : n = e
      · rw [h1] at h; rw [heS] at h; cases h
      · by_cases h2 : n = r
        · rw [h2] at h; rw [hr] at h; cases h
        · rw [DL.del_ne h1]; show put (put S r _) e _ n = _; rw [put_ne h1, put_ne h2]; exact h, k ac⟩
  · simp [drS]
    rfl
end K08

set_option maxHeartbeats 1000000
namespace K08
open PySem DL L2
theorem isf_spec {S : Sto} {p : Int} {Q : D → Sto → Prop} {E : Err → Sto → Prop} (h2 : 2 ≤ p) (h31 : p ≤ 31) (k : ∀ b : Bool, (b = true ↔ ∀ d : Int, 2 ≤ d → d < p → p % d ≠ 0) → Q (.bl b) S) : m__law_is_field [.int p] S Q E := by
  unfold m__law_is_field t__law_is_field s__law_is_field_1
  simp
  refine cnd_dec (fun h => absurd h (by omega)) fun _ => ?_
  refine cnd_dec (fun h => absurd h (by omega)) fun _ => ?_
  unfold s__law_is_field_4
  simp
  refine ⟨by omega, ?_⟩
  let Inv : List D → Lo → Sto → Prop := fun ds δ S' => ∃ (lo : Int) (m : Nat) (g : Option D), ds = rngD lo m ∧ 2 ≤ lo ∧ lo + m = p ∧ (∀ d, 2 ≤ d → d < lo → p % d ≠ 0) ∧ δ = [some (.int p), g] ∧ S' = S
  refine loop_N Inv (fun _ _ _ _ => trivial) ?_ ?_ _ _ _ ⟨2, (p - 2).toNat, none, rfl, by omega, by omega, fun d h1 h2 => by omega, rfl, rfl⟩
  · rintro d ds δ S' ⟨lo, m, g, hd, h0, hl, hc, rfl, rfl⟩ B' hB hb1 hb2 hb3
    obtain ⟨m, rfl, rfl, rfl⟩ := rng_split hd
    unfold b__law_is_field_3 s__law_is_field_2
    simp
    refine mod_int (by omega) ?_
    simp
    cases hz : (p % lo == 0) with
    | true =>
      have hz : p % lo = 0 := by simpa using hz
      simp
      rw [hb2]
      exact fn_end (k false (Iff.intro (fun h => nomatch h) (fun h => absurd hz (h lo (by omega) (by omega)))))
    | false =>
      have hz : p % lo ≠ 0 := by simpa using hz
      simp
      refine (hB _ _ ⟨lo + 1, m, _, rfl, by omega, by omega, fun d h1 h2 => ?_, rfl, rfl⟩).1
      by_cases e : d = lo
      · rw [e]; exact hz
      · exact hc d h1 (by omega)
  · rintro δ S' ⟨lo, m, g, hd, h0, hl, hc, rfl, rfl⟩
    cases m with
    | succ m => cases hd
    | zero =>
      simp
      exact fn_end (k true (Iff.intro (fun _ d h1 h2 => hc d h1 (by omega)) (fun _ => rfl)))
def prB (p : Int) : Bool := (List.range 32).all fun d => decide ((d : Int) < 2) || decide (p ≤ (d : Int)) || decide (p % (d : Int) ≠ 0)
theorem prB_iff {p : Int} (h2 : 2 ≤ p) (h31 : p ≤ 31) : (prB p = true ↔ ∀ d : Int, 2 ≤ d → d < p → p % d ≠ 0) := by
  unfold prB
  rw [List.all_eq_true]
  constructor
  · intro h d h1 h3
    have q := h d.toNat (List.mem_range.mpr (by omega))
    have e : ((d.toNat : Nat) : Int) = d := Int.toNat_of_nonneg (by omega)
    rw [e] at q
    simp only [Bool.or_eq_true, decide_eq_true_eq] at q
    rcases q with (q | q) | q
    · omega
    · omega
    · exact q
  · intro h d hd
    simp only [Bool.or_eq_true, decide_eq_true_eq]
    by_cases a : (d : Int) < 2
    · exact .inl (.inl a)
    · by_cases b : p ≤ (d : Int)
      · exact .inl (.inr b)
      · exact .inr (h d (by omega) (by omega))
theorem isf_spec' {S : Sto} {p : Int} {Q : D → Sto → Prop} {E : Err → Sto → Prop} (h2 : 2 ≤ p) (h31 : p ≤ 31) (k : Q (.bl (prB p)) S) : m__law_is_field [.int p] S Q E :=
  isf_spec h2 h31 fun b hb => by
    have e : b = prB p := by
      rw [Bool.eq_iff_iff, hb, prB_iff h2 h31]
    rw [e]
    exact k
theorem ints_mem {l : List Int} {j : Int} (h0 : 0 ≤ j) (h1 : j < l.length) : ∃ z, z ∈ l ∧ atI (l.map D.int) j = some (.int z) := ⟨l[j.toNat]'(by omega), List.getElem_mem _, by rw [at_get h0 (by rw [List.length_map]; exact h1), List.getElem_map]⟩
theorem field_spec {S : Sto} {h : Nat} {Q : D → Sto → Prop} {E : Err → Sto → Prop} (hS : Hand S h) (k : ∀ p S', p ∈ ki_FIELDS → Hand S' h → (∀ n, n ≠ h → S' n = S n) → Q (.int p) S') : m__law_field [.m h] S Q E := by
  unfold m__law_field t__law_field
  simp
  refine lc_pure (fun d => match d with | .int p => prB p | _ => false) id trivial _ _ (by simp [rngD_len]; exact sz (by omega)) ?_ (fun d _ _ Q q => by simpa using q) ?_
  · intro d hd Qt q
    rw [rngD_map] at hd
    obtain ⟨j, hj, rfl⟩ := List.mem_map.mp hd
    have hj := List.mem_range.mp hj
    simp
    exact isf_spec' (by omega) (by omega) (by simpa using q)
  · have e : ([] ++ List.map id (List.filter (fun d => match d with | .int p => prB p | _ => false) (rngD 2 30)) : List D) = ki_FIELDS.map D.int := by rfl
    rw [e]
    refine take_spec hS (by decide) fun v S1 h0 h1 H1 F1 => ?_
    refine take_spec H1 (by decide) fun v2 S2 h2 h3 H2 F2 => ⟨sz (by simp), ?_⟩
    refine take_spec H2 (by decide) fun v3 S3 h4 h5 H3 F3 => ?_
    have fin : ∀ z : Int, 0 ≤ z → z < 11 → oIx S3 (.lst (ki_FIELDS.map D.int)) (.int z) fun z => ∃ S'', DL.Sub S'' S3 ∧ Q z S'' := fun z z0 z1 => by
      rw [ix_lst]
      obtain ⟨y, hy, e⟩ := ints_mem (l := ki_FIELDS) z0 (by show z < 11; exact z1)
      rw [e]
      exact fn_end (k y S3 hy H3 fun n hn => by rw [F3 n hn, F2 n hn, F1 n hn])
    have h6 : v3 = 0 ∨ v3 = 1 := by omega
    rcases h6 with rfl | rfl
    · simp
      exact fin v h0 h1
    · simp
      exact fin v2 h2 (by omega)
/-! ### books -/
def rowD (r : List Int) : D := .tup (r.map .int)
def booksD (bs : List (List Int)) : D := .tup (bs.map rowD)
def rowOk (p : Int) (size : Nat) (r : List Int) : Prop := r.length = size ∧ ∀ x ∈ r, 0 ≤ x ∧ x < p
theorem row_made {S : Sto} {h : Nat} {p size : Int} {δ : Lo} {Q : List D → Sto → Prop} (hS : Hand S h) (hp : 0 < p) (h0 : 0 ≤ size) (h1 : size ≤ 100) (hd : ∀ d, (δ.set 5 (some d))[0]? = some (some (.m h)) ∧ (δ.set 5 (some d))[1]? = some (some (.int p)))
    (k : ∀ r S', rowOk p size.toNat r → Hand S' h → (∀ n, n ≠ h → S' n = S n) → Q (r.map .int) S') :
    dLcL (fun _ => True) (gN 5) dYes (dCall 2 m__law_take [] (dCons (dVar 0) (dCons (dVar 1) dNil))) δ (rngD 0 size.toNat) [] S Q := by
  let Inv : List D → List D → Sto → Prop := fun ds acc S' => ∃ (lo : Int) (m : Nat) (r : List Int), ds = rngD lo m ∧ acc = r.map .int ∧ rowOk p r.length r ∧ r.length + m = size.toNat ∧ Hand S' h ∧ ∀ n, n ≠ h → S' n = S n
  refine lc_inv Inv (fun _ _ _ _ => trivial) ?_ ?_ ?_ _ _ _ ⟨0, size.toNat, [], rfl, rfl, ⟨rfl, fun x hx => by cases hx⟩, by simp, hS, fun _ _ => rfl⟩
  · rintro d ds acc S' ⟨lo, m, r, hd, rfl, hr, hl, H, F⟩
    rw [List.length_map]
    obtain ⟨m, rfl, _⟩ := rng_split hd
    exact Nat.lt_of_lt_of_le (Nat.lt_succ_self _) (sz (n := r.length + 1) (by omega))
  · rintro d ds acc S' ⟨lo, m, r, he, rfl, hr, hl, H, F⟩ Q hQ
    obtain ⟨m, rfl, rfl, rfl⟩ := rng_split he
    simp [(hd (.int lo)).1, (hd (.int lo)).2]
    refine take_spec H hp fun v S1 h0 h1 H1 F1 => hQ _ _ ⟨lo + 1, m, r ++ [v], rfl, by simp, ⟨rfl, fun x hx => ?_⟩, by simp; omega, H1, fun n hn => by rw [F1 n hn, F n hn]⟩
    rcases List.mem_append.mp hx with hx | hx
    · exact hr.2 x hx
    · rw [List.mem_singleton.mp hx]
      exact ⟨h0, h1⟩
  · rintro acc S' ⟨lo, m, r, he, rfl, hr, hl, H, F⟩
    cases m with
    | succ m => cases he
    | zero => exact k r S' ⟨by omega, hr.2⟩ H F
theorem books_spec {S : Sto} {h : Nat} {p count size : Int} {Q : D → Sto → Prop} {E : Err → Sto → Prop} (hS : Hand S h) (hp : 0 < p) (c0 : 0 ≤ count) (c1 : count ≤ 100) (h0 : 0 ≤ size) (h1 : size ≤ 100)
    (k : ∀ bs S', bs.length = count.toNat → (∀ r ∈ bs, rowOk p size.toNat r) → Hand S' h → (∀ n, n ≠ h → S' n = S n) → Q (booksD bs) S') : m__law_books [.m h, .int p, .int count, .int size] S Q E := by
  unfold m__law_books t__law_books
  simp
  refine ⟨by omega, by omega, ?_⟩
  let Inv : List D → List D → Sto → Prop := fun ds acc S' => ∃ (lo : Int) (m : Nat) (bs : List (List Int)), ds = rngD lo m ∧ acc = bs.map rowD ∧ (∀ r ∈ bs, rowOk p size.toNat r) ∧ bs.length + m = count.toNat ∧ Hand S' h ∧ ∀ n, n ≠ h → S' n = S n
  refine lc_inv Inv (fun _ _ _ _ => trivial) ?_ ?_ ?_ _ _ _ ⟨0, count.toNat, [], rfl, rfl, (fun x hx => by cases hx), by simp, hS, fun _ _ => rfl⟩
  · rintro d ds acc S' ⟨lo, m, r, hd, rfl, hr, hl, H, F⟩
    rw [List.length_map]
    obtain ⟨m, rfl, _⟩ := rng_split hd
    exact Nat.lt_of_lt_of_le (Nat.lt_succ_self _) (sz (n := r.length + 1) (by omega))
  · rintro d ds acc S' ⟨lo, m, bs, he, rfl, hr, hl, H, F⟩ Q hQ
    obtain ⟨m, rfl, rfl, rfl⟩ := rng_split he
    simp
    refine ⟨by omega, by omega, ?_⟩
    refine row_made H hp h0 h1 (fun d => by simp) fun r S1 hr1 H1 F1 => ?_
    refine hQ _ _ ⟨lo + 1, m, bs ++ [r], rfl, by simp [rowD], fun x hx => ?_, by simp; omega, H1, fun n hn => by rw [F1 n hn, F n hn]⟩
    rcases List.mem_append.mp hx with hx | hx
    · exact hr x hx
    · rw [List.mem_singleton.mp hx]
      exact hr1
  · rintro acc S' ⟨lo, m, bs, he, rfl, hr, hl, H, F⟩
    cases m with
    | succ m => cases he
    | zero => exact fn_end (k bs S' (by omega) hr H F)
end K08

set_option maxHeartbeats 1000000
namespace K08
open PySem DL L2
/-! ### what is the same -/
/-- ints and tuples of these, of depth n at most, tuples short -/
inductive Tp : Nat → D → Prop
  | int (n i) : Tp n (.int i)
  | tup {n xs} (h : ∀ x ∈ xs, Tp n x) (hl : xs.length ≤ 100000) : Tp (n + 1) (.tup xs)
theorem same_int {r : Nat} {i : Int} {S : Sto} {Q : D → Sto → Prop} {E : Err → Sto → Prop} (k : Q (.bl true) S) : m__law_same (r + 1) [.int i, .int i] S Q E := by
  unfold m__law_same t__law_same s__law_same_5
  simp
  exact fn_end k
theorem same_tup {self : DFn} {xs : List D} {S : Sto} {Q : D → Sto → Prop} {E : Err → Sto → Prop} (hl : xs.length ≤ 100000) (hs : ∀ x ∈ xs, ∀ (Q : D → Sto → Prop) (E : Err → Sto → Prop), Q (.bl true) S → self [x, x] S Q E) (k : Q (.bl true) S) : fnD 3 (t__law_same self) [.tup xs, .tup xs] S Q E := by
  unfold t__law_same s__law_same_5
  simp [s__law_same_1, s__law_same_4]
  refine ⟨by omega, ?_⟩
  let Inv : List D → Lo → Sto → Prop := fun ds δ S' => ∃ (lo : Nat) (m : Nat) (g : Option D), ds = rngD lo m ∧ lo + m = xs.length ∧ δ = [some (.tup xs), some (.tup xs), g] ∧ S' = S
  refine loop_N Inv (fun _ _ _ _ => trivial) ?_ ?_ _ _ _ ⟨0, xs.length, none, rfl, by omega, rfl, rfl⟩
  · rintro d ds δ S' ⟨lo, m, g, hd, hl, rfl, rfl⟩ B' hB hb1 hb2 hb3
    obtain ⟨m, rfl, rfl, rfl⟩ := rng_split hd
    have hlt : lo < xs.length := by omega
    have e : atI xs (lo : Int) = some xs[lo] := at_nat (List.getElem?_eq_getElem hlt)
    unfold b__law_same_3 s__law_same_2
    simp [e]
    refine hs xs[lo] (List.getElem_mem _) _ _ ?_
    simp
    exact (hB _ _ ⟨lo + 1, m, _, by push_cast; rfl, by omega, rfl, rfl⟩).1
  · rintro δ S' ⟨lo, m, g, hd, hl, rfl, rfl⟩
    simp
    exact fn_end k
theorem same_spec {r : Nat} : ∀ {d : D}, Tp r d → ∀ {S : Sto} {Q : D → Sto → Prop} {E : Err → Sto → Prop}, Q (.bl true) S → m__law_same (r + 1) [d, d] S Q E := by
  induction r with
  | zero =>
    intro d h S Q E k
    cases h with
    | int _ i => exact same_int k
  | succ r ih =>
    intro d h S Q E k
    cases h with
    | int _ i => exact same_int k
    | tup h hl => exact same_tup (self := m__law_same (r + 1)) hl (fun x hx Q E q => ih (h x hx) q) k
end K08

set_option maxHeartbeats 1000000
namespace K08
open PySem DL L2
/-! ### places, letters -/
inductive Val (S : Sto) : D → Prop
  | non : Val S .non
  | bl (b) : Val S (.bl b)
  | int (i) : Val S (.int i)
  | str (x) : Val S (.str x)
  | lst (xs) : Val S (.lst xs)
  | tup (xs) : Val S (.tup xs)
  | m {n xs} (h : S n = some (.lst xs)) : Val S (.m n)
def plc (c : Int) : D → Bool
  | .int i => decide (0 ≤ i) && decide (i < c)
  | _ => false
theorem place_spec {S : Sto} {d : D} {c : Int} {Q : D → Sto → Prop} {E : Err → Sto → Prop} (h : Val S d) (k : Q (.bl (plc c d)) S) : m_is_place [d, .int c] S Q E := by
  unfold m_is_place t_is_place m_is_integer_bookplaces t_is_integer_bookplaces
  cases h with
  | non => simp; exact ⟨S, .refl S, S, .refl S, k⟩
  | bl b => simp; exact ⟨S, .refl S, S, .refl S, k⟩
  | str b => simp; exact ⟨S, .refl S, S, .refl S, k⟩
  | lst b => simp; exact ⟨S, .refl S, S, .refl S, k⟩
  | tup b => simp; exact ⟨S, .refl S, S, .refl S, k⟩
  | m h => simp [ty_mL h]; exact ⟨S, .refl S, S, .refl S, k⟩
  | int i =>
    simp
    refine ⟨S, .refl S, ?_⟩
    refine cnd_dec (fun h0 => ⟨S, .refl S, ?_⟩) fun h0 => ⟨S, .refl S, ?_⟩
    · simpa [plc, h0] using k
    · simpa [plc, h0] using k
theorem sub_put {S S' : Sto} {n : Nat} {c : Cell} (h : S n = none) (h2 : DL.Sub S S') : DL.Sub S (put S' n c) := h2.put h
/-- the items of a list or a tuple -/
def items (S : Sto) : D → Option (List D)
  | .tup xs => some xs
  | .lst xs => some xs
  | .m n => celO (S n)
  | _ => none
def ltr (p : Int) (xs : List D) : Bool := xs.all (plc p)
def ltrs (S : Sto) (p : Int) (d : D) : Bool := match items S d with
  | some xs => ltr p xs
  | none => false
theorem loop_letters {S : Sto} {p : Int} {v : D} {B : DEnds} {kp : Sto → Prop} (hk : kp S) : ∀ (xs : List D) (g : Option D), (∀ x ∈ xs, Val S x) → (ltr p xs = false → B.rt (.bl false) S) → (ltr p xs = true → ∀ g, B.nx [some (.int p), some v, g] S) → dLoop kp (gN 2) b_are_letters_3 xs B [some (.int p), some v, g] S
  | [], g, _, _, k => ⟨hk, k rfl g⟩
  | x :: xs, g, hx, r, k => by
    refine ⟨hk, ?_⟩
    show b_are_letters_3 _ [some (.int p), some v, some x] S
    unfold b_are_letters_3 s_are_letters_2
    simp
    refine place_spec (hx x (List.mem_cons_self ..)) ?_
    simp
    have e : ltr p (x :: xs) = (plc p x && ltr p xs) := by unfold ltr; rw [List.all_cons]
    cases hp : plc p x with
    | true =>
      simp
      rw [e, hp] at r k
      exact loop_letters hk xs _ (fun y hy => hx y (List.mem_cons_of_mem _ hy)) (by simpa using r) (by simpa using k)
    | false =>
      simp
      rw [e, hp] at r
      exact r rfl
theorem letters_spec {S : Sto} {d : D} {p : Int} {Q : D → Sto → Prop} {E : Err → Sto → Prop} (h : Val S d) (hi : ∀ xs, items S d = some xs → ∀ x ∈ xs, Val S x) (k : Q (.bl (ltrs S p d)) S) : m_are_letters [.int p, d] S Q E := by
  unfold m_are_letters t_are_letters s_are_letters_1 m_is_sequence t_is_sequence
  have seq : ∀ (xs : List D) (kp : Sto → Prop), kp S → items S d = some xs → dLoop kp (gN 2) b_are_letters_3 xs { nx := fun δ' S' => ∃ S'', DL.Sub S'' S' ∧ Q (.bl true) S'', rt := fun d S' => ∃ S'', DL.Sub S'' S' ∧ Q d S'', bk := fun _ _ => False, ct := fun _ _ => False, ex := fun er _ S' => ∃ S'', DL.Sub S'' S' ∧ E er S'' } [some (.int p), some d, none] S := by
    intro xs kp hk hd
    have e : ltrs S p d = ltr p xs := by unfold ltrs; rw [hd]
    rw [e] at k
    exact loop_letters hk xs none (hi xs hd) (fun q => ⟨S, .refl S, by rw [q] at k; exact k⟩) fun q g => ⟨S, .refl S, by rw [q] at k; exact k⟩
  cases h with
  | non => simp; exact ⟨S, .refl S, S, .refl S, k⟩
  | bl b => simp; exact ⟨S, .refl S, S, .refl S, k⟩
  | str b => simp; exact ⟨S, .refl S, S, .refl S, k⟩
  | int b => simp; exact ⟨S, .refl S, S, .refl S, k⟩
  | lst b => simp [s_are_letters_4]; exact ⟨S, .refl S, seq b _ trivial rfl⟩
  | tup b => simp [s_are_letters_4]; exact ⟨S, .refl S, seq b _ trivial rfl⟩
  | m h =>
    simp [ty_mL h, s_are_letters_4]
    exact ⟨S, .refl S, seqI_m h (seq _ _ rfl (by show celO (S _) = _; rw [h]; rfl))⟩
/-! ### a library that is made -/
def libF (p : Int) (bs : List (List Int)) : List (Str × D) := [("p", .int p), ("books", booksD bs), ("book_count", .int bs.length), ("book_length", .int (bs.head?.getD []).length), ("letters", .tup (bs.flatten.map .int))]
def libD (p : Int) (bs : List (List Int)) : D := .ins cLibrary (libF p bs)
structure BksOk (p : Int) (bs : List (List Int)) (size : Nat) : Prop where
  ne : bs ≠ []
  sz : 0 < size
  row : ∀ r ∈ bs, rowOk p size r
  few : bs.length ≤ 100
  few2 : size ≤ 100
theorem plc_row {p : Int} {size : Nat} {r : List Int} (h : rowOk p size r) : ltr p (r.map .int) = true := by
  unfold ltr
  rw [List.all_eq_true]
  intro d hd
  obtain ⟨i, hi, rfl⟩ := List.mem_map.mp hd
  have := h.2 i hi
  simp [plc, this.1, this.2]
theorem vals_int {S : Sto} (r : List Int) : ∀ x ∈ r.map D.int, Val S x := fun x hx => by
  obtain ⟨i, _, rfl⟩ := List.mem_map.mp hx
  exact .int i
theorem progfield_spec {S : Sto} {p : Int} {Q : D → Sto → Prop} {E : Err → Sto → Prop} (hp : p ∈ ki_FIELDS) (k : Q (.bl true) S) : m_is_field [.int p] S Q E := by
  unfold m_is_field t_is_field m_is_integer_integers t_is_integer_integers
  simp
  refine ⟨S, .refl S, ?_⟩
  unfold k_FIELDS
  show opt (asSq S (.tup (ki_FIELDS.map D.int))) (fun ds => flatD (.int p) = true ∧ ds.all flatD = true ∧ _)
  rw [asSq_tup]
  refine ⟨rfl, rfl, S, .refl S, ?_⟩
  · have e : inD (.int p) (ki_FIELDS.map D.int) = true := by
      unfold inD
      rw [List.any_eq_true]
      exact ⟨.int p, List.mem_map_of_mem hp, by simp [eqFlat]⟩
    rw [e]
    exact k
theorem books_body {S : Sto} {p : Int} {size : Nat} {bs : List (List Int)} {r : List Int} {B : DEnds} (hb : BksOk p bs size) (hr : rowOk p size r) (k : B.nx [some (.int p), some (booksD bs), some (rowD r)] S) : b__are_books_3 B [some (.int p), some (booksD bs), some (rowD r)] S := by
  obtain ⟨b0, bt, hbs⟩ : ∃ b0 bt, bs = b0 :: bt := by
    cases hq : bs with
    | nil => exact absurd hq hb.ne
    | cons a t => exact ⟨a, t, rfl⟩
  have e3 : b0.length = size := (hb.row b0 (by rw [hbs]; exact List.mem_cons_self ..)).1
  have hz := hb.sz
  have hb1 : booksD bs = .tup (rowD b0 :: bt.map rowD) := by rw [hbs]; rfl
  rw [hb1] at k ⊢
  unfold b__are_books_3 s__are_books_2
  simp
  refine letters_spec (d := rowD r) (.tup _) (fun ys hy => by cases hy; exact vals_int r) ?_
  have e : ltrs S p (rowD r) = true := plc_row hr
  rw [e]
  have e4 : ((r.length : Int) == 0) = false := by
    rw [hr.1]
    simp
    omega
  simp [rowD, e4, e3, hr.1]
  have e5 : ((size : Int) == 0) = false := by simp; omega
  rw [e5]
  exact k
theorem arebooks_spec {S : Sto} {p : Int} {size : Nat} {bs : List (List Int)} {Q : D → Sto → Prop} {E : Err → Sto → Prop} (hb : BksOk p bs size) (k : Q (.bl true) S) : m__are_books [.int p, booksD bs] S Q E := by
  unfold m__are_books t__are_books s__are_books_1 m_is_sequence t_is_sequence
  have e : bs ≠ [] := hb.ne
  simp [booksD]
  refine ⟨S, .refl S, ?_⟩
  have e1 : ((bs.length : Int) == 0) = false := by
    have : bs.length ≠ 0 := fun z => e (List.length_eq_zero_iff.mp z)
    simp
    exact e
  simp [s__are_books_4]
  rw [e1]
  refine loop_N (fun ds δ S' => ∃ (xs : List (List Int)) (g : Option D), ds = xs.map rowD ∧ (∀ r ∈ xs, rowOk p size r) ∧ δ = [some (.int p), some (booksD bs), g] ∧ S' = S) (fun _ _ _ _ => trivial) ?_ ?_ _ _ _ ⟨bs, none, rfl, hb.row, rfl, rfl⟩
  · rintro d ds δ S' ⟨xs, g, he, hx, rfl, rfl⟩ B' hB hb1 hb2 hb3
    cases xs with
    | nil => cases he
    | cons r xs =>
      injection he with h1 h2
      subst h1 h2
      exact books_body hb (hx r (List.mem_cons_self ..)) (hB _ _ ⟨xs, _, rfl, fun y hy => hx y (List.mem_cons_of_mem _ hy), rfl, rfl⟩).1
  · rintro δ S' ⟨xs, g, he, hx, rfl, rfl⟩
    simp
    exact ⟨_, .refl _, k⟩
/-! ### Library(p, books) -/
def tupXs : D → List D
  | .tup xs => xs
  | _ => []
theorem flat_rows : ∀ bs : List (List Int), (bs.map rowD).flatMap (fun d => (tupXs d).map fun x => x) = bs.flatten.map .int
  | [] => rfl
  | r :: bs => by
    rw [List.map_cons, List.flatMap_cons, flat_rows bs, List.flatten_cons, List.map_append]
    congr 1
    show (r.map D.int).map (fun x => x) = r.map D.int
    simp
theorem flat_len : ∀ bs : List (List Int), (∀ r ∈ bs, r.length ≤ 100) → ((bs.map rowD).flatMap tupXs).length ≤ bs.length * 100
  | [], _ => by simp
  | r :: bs, h => by
    have ih := flat_len bs fun x hx => h x (List.mem_cons_of_mem _ hx)
    have h1 := h r (List.mem_cons_self ..)
    rw [List.map_cons, List.flatMap_cons, List.length_append, List.length_cons]
    have e : (tupXs (rowD r)).length = r.length := by show (r.map D.int).length = _; rw [List.length_map]
    omega
theorem lib_init {S : Sto} {k : Nat} {p : Int} {size : Nat} {bs : List (List Int)} {Q : D → Sto → Prop} {E : Err → Sto → Prop} (hk : S k = none) (hp : p ∈ ki_FIELDS) (hb : BksOk p bs size) (q : Q .non (put S k (.ins cLibrary (libF p bs)))) : m_Library___init__ [.m k, .int p, booksD bs] (put S k (.ins cLibrary [])) Q E := by
  obtain ⟨b0, bt, hbs⟩ : ∃ b0 bt, bs = b0 :: bt := by
    cases hq : bs with
    | nil => exact absurd hq hb.ne
    | cons a t => exact ⟨a, t, rfl⟩
  have hl := hb.few
  unfold m_Library___init__ t_Library___init__ s_Library___init___1 s_Library___init___2
  simp
  refine progfield_spec hp ?_
  simp
  refine arebooks_spec hb ?_
  simp [booksD]
  refine ⟨_, _, ⟨rfl, rfl⟩, rfl, Nat.le_of_ble_eq_true rfl, ?_⟩
  refine lc_map id trivial _ (by rw [List.length_map]; exact sz (by omega)) ?_ ?_
  · intro d hd Q hq
    obtain ⟨r, _, rfl⟩ := List.mem_map.mp hd
    simp [rowD]
    exact hq
  refine ⟨_, _, put_same, rfl, Nat.le_of_ble_eq_true rfl, rfl, opt_eq rfl ?_⟩
  simp only [List.map_id, len_tup, List.length_map]
  refine ⟨_, _, ⟨rfl, rfl⟩, rfl, Nat.le_of_ble_eq_true rfl, rfl, opt_eq rfl ?_⟩
  simp only [DL.ix_tup]
  rw [hbs]
  simp only [List.map_cons, at_0, opt_s, rowD, len_tup]
  refine ⟨_, _, ⟨rfl, rfl⟩, rfl, Nat.le_of_ble_eq_true rfl, rfl, opt_eq rfl ?_⟩
  refine lc2_pure tupXs (fun _ x => x) trivial _ _ ?_ ?_ ?_ ?_
  · have h := flat_len (b0 :: bt) fun r hr => by
      have := (hb.row r (by rw [hbs]; exact hr)).1
      have := hb.few2
      omega
    rw [hbs] at hl
    rw [sizeLine_eq, List.length_nil]
    have e : (rowD b0 :: bt.map rowD) = (b0 :: bt).map rowD := rfl
    show 0 + ((rowD b0 :: bt.map rowD).flatMap tupXs).length ≤ _
    rw [e]
    omega
  · intro d hd Qi hq
    have hd : d ∈ (b0 :: bt).map rowD := hd
    obtain ⟨r, _, rfl⟩ := List.mem_map.mp hd
    simpa [rowD, tupXs] using hq
  · intro d hd x hx Q hq
    simpa using hq
  · refine ⟨_, _, put_same, rfl, Nat.le_of_ble_eq_true rfl, _, .refl _, ?_⟩
    have e := flat_rows (b0 :: bt)
    have e2 : ([] ++ (D.tup (b0.map D.int) :: bt.map rowD).flatMap (fun d => (tupXs d).map fun x => x)) = (b0 :: bt).flatten.map D.int := e
    rw [e2, List.length_map, put_put, put_put]
    rw [hbs] at q
    exact q
end K08

set_option maxHeartbeats 1000000
namespace K08
open PySem DL L2
theorem set_split {A : Type} {l : List A} {i : Nat} {a : A} (h : i < l.length) : l.take i ++ [a] ++ l.drop (i + 1) = l.set i a := by
  rw [List.set_eq_take_append_cons_drop, if_pos h]
  simp
theorem asSq_items {S : Sto} {d : D} {xs : List D} (h : items S d = some xs) : asSq S d = some xs := by
  cases d with
  | tup ys => exact h
  | lst ys => exact h
  | m n => rw [asSq_m]; exact h
  | _ => cases h
theorem len_items {S : Sto} {d : D} {xs : List D} {k : D → Prop} (h : items S d = some xs) (q : k (.int xs.length)) : oLen S [d] k := by
  cases d with
  | tup ys => cases h; exact q
  | lst ys => cases h; exact q
  | m n =>
    have h : celO (S n) = some xs := h
    rw [len_m, h]
    exact q
  | _ => cases h
theorem bks_set {p : Int} {bs : List (List Int)} {size i : Nat} {r : List Int} (hb : BksOk p bs size) (hr : rowOk p size r) : BksOk p (bs.set i r) size :=
  ⟨fun z => hb.ne (by simpa using z), hb.sz, fun x hx => by
    rcases List.mem_or_eq_of_mem_set hx with h | h
    · exact hb.row x h
    · rw [h]; exact hr, by rw [List.length_set]; exact hb.few, hb.few2⟩
theorem book_len {p : Int} {bs : List (List Int)} {size : Nat} (hb : BksOk p bs size) : (bs.head?.getD []).length = size := by
  cases h : bs with
  | nil => exact absurd h hb.ne
  | cons a t => exact (hb.row a (by rw [h]; exact List.mem_cons_self ..)).1
/-- changed, where the place is none -/
theorem changed_place {S : Sto} {p : Int} {bs : List (List Int)} {k b : D} {Q : D → Sto → Prop} {E : Err → Sto → Prop} (hk : Val S k) (h : plc bs.length k = false) (q : E ⟨cInvalidNumber, [("value", k)]⟩ S) : m_Library_changed [libD p bs, k, b] S Q E := by
  unfold m_Library_changed t_Library_changed s_Library_changed_1
  simp [libD]
  refine opt_eq (a := .int bs.length) rfl ?_
  refine place_spec hk ?_
  simp [h]
  exact ⟨S, .refl S, q⟩
/-- .. where the book is none -/
theorem changed_book {S : Sto} {p : Int} {bs : List (List Int)} {size : Nat} {k b : D} {Q : D → Sto → Prop} {E : Err → Sto → Prop} (hb : BksOk p bs size) (hk : Val S k) (h : plc bs.length k = true) (hv : Val S b) (hi : ∀ xs, items S b = some xs → ∀ x ∈ xs, Val S x)
    (hw : ltrs S p b = false ∨ ∃ xs, items S b = some xs ∧ xs.length ≠ size) (q : E ⟨cInvalidLibrary, [("value", b)]⟩ S) : m_Library_changed [libD p bs, k, b] S Q E := by
  unfold m_Library_changed t_Library_changed s_Library_changed_1
  simp [libD]
  refine opt_eq (a := .int bs.length) rfl ?_
  refine place_spec hk ?_
  simp [h, s_Library_changed_2]
  refine opt_eq (a := .int p) rfl ?_
  refine letters_spec hv hi ?_
  cases hl : ltrs S p b with
  | false =>
    simp
    exact ⟨S, .refl S, q⟩
  | true =>
    rw [hl] at hw
    rcases hw with hw | ⟨xs, h1, h2⟩
    · cases hw
    · simp
      refine len_items h1 ?_
      refine opt_eq (a := .int (bs.head?.getD []).length) rfl ?_
      rw [book_len hb]
      have e : ((xs.length : Int) == (size : Int)) = false := by simp; omega
      simp [e]
      exact ⟨S, .refl S, q⟩
theorem changed_ok {S : Sto} {p : Int} {bs : List (List Int)} {size i : Nat} {b : D} {r : List Int} {Q : D → Sto → Prop} {E : Err → Sto → Prop} (hp : p ∈ ki_FIELDS) (hb : BksOk p bs size) (hi : i < bs.length) (hv : Val S b) (h1 : items S b = some (r.map .int)) (hr : rowOk p size r) (q : Q (libD p (bs.set i r)) S) :
    m_Library_changed [libD p bs, .int i, b] S Q E := by
  unfold m_Library_changed t_Library_changed s_Library_changed_1
  simp [libD]
  refine opt_eq (a := .int bs.length) rfl ?_
  refine place_spec (.int _) ?_
  have h : plc bs.length (.int i) = true := by simp [plc]; omega
  simp [h, s_Library_changed_2]
  refine opt_eq (a := .int p) rfl ?_
  refine letters_spec hv (fun xs hx => by rw [h1] at hx; cases hx; exact vals_int r) ?_
  have hl : ltrs S p b = true := by unfold ltrs; rw [h1]; exact plc_row hr
  rw [hl]
  simp
  refine len_items h1 ?_
  refine opt_eq (a := .int (bs.head?.getD []).length) rfl ?_
  rw [book_len hb, List.length_map, hr.1]
  simp
  refine opt_eq (a := .int p) rfl ?_
  refine opt_eq (a := booksD bs) rfl ?_
  simp [booksD, asSq_items h1]
  refine ⟨sz (by decide), ?_⟩
  have hfew := hb.few
  rw [cut_to (by omega)]
  refine ⟨sz (by rw [List.length_take, List.length_map]; omega), ?_⟩
  refine opt_eq (a := booksD bs) rfl ?_
  simp only [booksD, DL.sl_tup]
  rw [cut_from (by omega)]
  simp only [add_tup]
  refine ⟨sz (by rw [List.length_append, List.length_take, List.length_drop, List.length_map, List.length_singleton]; omega), ?_⟩
  have e : (bs.map rowD).take (i : Int).toNat ++ [D.tup (r.map .int)] ++ (bs.map rowD).drop ((i : Int) + 1).toNat = (bs.set i r).map rowD := by
    rw [Int.toNat_natCast, show ((i : Int) + 1).toNat = i + 1 by omega]
    have e1 := set_split (l := bs.map rowD) (i := i) (a := rowD r) (by rw [List.length_map]; exact hi)
    rw [List.map_set]
    exact e1
  rw [e]
  intro k hk
  exact lib_init (bs := bs.set i r) hk hp (bks_set hb hr) ⟨rfl, libF p (bs.set i r), put_same, S, by rw [del_put hk]; exact .refl S, q⟩
/-! ### a shelf -/
theorem lib_make {S : Sto} {p : Int} {bs : List (List Int)} {size : Nat} {k : Nat} {Q : D → Sto → Prop} {E : Err → Sto → Prop} (hp : p ∈ ki_FIELDS) (hb : BksOk p bs size) (hk : S k = none) (q : Q (libD p bs) S) :
    m_Library___init__ [.m k, .int p, booksD bs] (put S k (.ins cLibrary [])) (fun d S2 => d = .non ∧ ∃ fs, S2 k = some (.ins cLibrary fs) ∧ Q (.ins cLibrary fs) (DL.del S2 k)) E :=
  lib_init hk hp hb ⟨rfl, libF p bs, put_same, by rw [del_put hk]; exact q⟩
theorem shelf_init {S : Sto} {k : Nat} {lib : D} {Q : D → Sto → Prop} {E : Err → Sto → Prop} (q : ∀ n, (put S k (.ins cShelf [])) n = none → Q .non (put (put S n (.lst [lib])) k (.ins cShelf [("_kept", .m n), ("edition", .int 0)]))) : m_Shelf___init__ [.m k, lib] (put S k (.ins cShelf [])) Q E := by
  unfold m_Shelf___init__ t_Shelf___init__
  simp
  refine ⟨sz (by decide), fun n hn => ?_⟩
  have hnk : n ≠ k := fun z => by rw [z, put_same] at hn; cases hn
  refine ⟨_, _, (put_ne (Ne.symm hnk)).trans put_same, rfl, Nat.le_of_ble_eq_true rfl, _, _, ⟨rfl, rfl⟩, rfl, Nat.le_of_ble_eq_true rfl, _, .refl _, ?_⟩
  have e : put (put (put S k (.ins cShelf [])) n (.lst [lib])) k (.ins cShelf (putD "edition" (.int 0) (putD "_kept" (.m n) []))) = put (put S n (.lst [lib])) k (.ins cShelf [("_kept", .m n), ("edition", .int 0)]) := by
    funext j
    by_cases h1 : j = k
    · rw [h1, put_same, put_same]
      rfl
    · rw [put_ne h1, put_ne h1]
      by_cases h2 : j = n
      · rw [h2, put_same, put_same]
      · rw [put_ne h2, put_ne h2, put_ne h1]
  have e2 := q n hn
  rw [← e] at e2
  exact e2
/-- a shelf at s, its list at c, the versions vs -/
structure ShOk (S : Sto) (p : Int) (s c : Nat) (vs : List (List (List Int))) : Prop where
  hs : S s = some (.ins cShelf [("_kept", .m c), ("edition", .int ((vs.length : Int) - 1))])
  hc : S c = some (.lst (vs.map (libD p)))
  ne : vs ≠ []
theorem ShOk.last {S : Sto} {p : Int} {s c : Nat} {vs : List (List (List Int))} (h : ShOk S p s c vs) : atI (vs.map (libD p)) ((vs.length : Int) - 1) = some (libD p (vs.getLast h.ne)) := by
  have hl : 0 < vs.length := List.length_pos_iff.mpr h.ne
  rw [at_get (by omega) (by rw [List.length_map]; omega), List.getElem_map]
  congr 2
  rw [List.getLast_eq_getElem]
  congr 1
  omega


theorem put_err {S : Sto} {p : Int} {s c : Nat} {vs : List (List (List Int))} {k b : D} {er : Err} {Q : D → Sto → Prop} {E : Err → Sto → Prop} (h : ShOk S p s c vs) (hm : ∀ (Q : D → Sto → Prop) (E : Err → Sto → Prop), E er S → m_Library_changed [libD p (vs.getLast h.ne), k, b] S Q E) (q : E er S) : m_Shelf_put [.m s, k, b] S Q E := by
  have h1 := h.hs
  have h2 := h.hc
  have h3 := h.last
  unfold m_Shelf_put t_Shelf_put
  simp only [fnD_ap, ap_seq, ap_set, ap_meth, ap_bin, ap_fld, ap_var, List.map_cons, List.map_nil, List.cons_append, List.nil_append, List.getElem?_cons_zero, asI_m, h1, celI_i, opt_s, List.mem_singleton, true_and]
  refine opt_eq (a := .m c) rfl ?_
  refine opt_eq (a := .int ((vs.length : Int) - 1)) rfl ?_
  rw [ix_m, h2]
  refine opt_eq (a := libD p (vs.getLast h.ne)) h3 ?_
  refine opt_eq (a := (cLibrary, libF p (vs.getLast h.ne))) rfl ⟨rfl, rfl, rfl, ?_⟩
  exact hm _ _ ⟨S, .refl S, q⟩
theorem put_ok {S : Sto} {p : Int} {s c : Nat} {vs : List (List (List Int))} {k b : D} {bs : List (List Int)} {Q : D → Sto → Prop} {E : Err → Sto → Prop} (h : ShOk S p s c vs) (hsc : s ≠ c) (hz : vs.length < 1000) (hm : ∀ (Q : D → Sto → Prop) (E : Err → Sto → Prop), Q (libD p bs) S → m_Library_changed [libD p (vs.getLast h.ne), k, b] S Q E)
    (q : Q (.int vs.length) (put (put S c (.lst ((vs ++ [bs]).map (libD p)))) s (.ins cShelf [("_kept", .m c), ("edition", .int vs.length)]))) : m_Shelf_put [.m s, k, b] S Q E := by
  have h1 := h.hs
  have h2 := h.hc
  have h3 := h.last
  unfold m_Shelf_put t_Shelf_put
  simp only [fnD_ap, ap_seq, ap_set, ap_meth, ap_bin, ap_fld, ap_var, List.map_cons, List.map_nil, List.cons_append, List.nil_append, List.getElem?_cons_zero, asI_m, h1, celI_i, opt_s, List.mem_singleton, true_and]
  refine opt_eq (a := .m c) rfl ?_
  refine opt_eq (a := .int ((vs.length : Int) - 1)) rfl ?_
  rw [ix_m, h2]
  refine opt_eq (a := libD p (vs.getLast h.ne)) h3 ?_
  refine opt_eq (a := (cLibrary, libF p (vs.getLast h.ne))) rfl ⟨rfl, rfl, rfl, ?_⟩
  refine hm _ _ ?_
  show opt (asI S (.m s)) _
  rw [asI_m, h1]
  refine ⟨List.mem_singleton.mpr rfl, opt_eq (a := .m c) rfl ?_⟩
  refine And.intro ⟨_, h2⟩ ⟨_, h2, by rw [List.length_map]; exact Nat.lt_of_lt_of_le hz (sz (Nat.le_refl _)), ?_⟩
  have h4 : put S c (.lst (vs.map (libD p) ++ [libD p bs])) s = some (.ins cShelf [("_kept", .m c), ("edition", .int ((vs.length : Int) - 1))]) := (put_ne hsc).trans h1
  show opt (asI (put S c (.lst (vs.map (libD p) ++ [libD p bs]))) (.m s)) _
  rw [asI_m, h4]
  refine ⟨List.mem_singleton.mpr rfl, opt_eq (a := .int ((vs.length : Int) - 1)) rfl ?_⟩
  refine ⟨_, _, h4, List.mem_singleton.mpr rfl, Nat.le_of_ble_eq_true rfl, ?_⟩
  show opt (asI (put (put S c _) s _) (.m s)) _
  rw [asI_m, put_same]
  refine ⟨List.mem_singleton.mpr rfl, opt_eq (a := .int ((vs.length : Int) - 1 + 1)) rfl ⟨_, .refl _, ?_⟩⟩
  have e : (vs.length : Int) - 1 + 1 = vs.length := by omega
  have e2 : (vs ++ [bs]).map (libD p) = vs.map (libD p) ++ [libD p bs] := by rw [List.map_append]; rfl
  rw [e2] at q
  rw [e]
  have e3 : (Cell.ins cShelf (putD "edition" (.int ((vs.length : Int) - 1 + 1)) [("_kept", .m c), ("edition", .int ((vs.length : Int) - 1))])) = .ins cShelf [("_kept", .m c), ("edition", .int vs.length)] := by
    rw [e]
    rfl
  exact e3 ▸ q
theorem at_int' {S : Sto} {p : Int} {s c j : Nat} {vs : List (List (List Int))} {Q : D → Sto → Prop} {E : Err → Sto → Prop} (h : ShOk S p s c vs) (hj : j < vs.length) (q : Q (libD p vs[j]) S) : m_Shelf_at [.m s, .int j] S Q E := by
  have h1 := h.hs
  have h2 := h.hc
  unfold m_Shelf_at t_Shelf_at s_Shelf_at_1
  simp only [fnD_ap, ap_seq, ap_if, ap_b, ap_bin, ap_fld, ap_var, ap_c, List.map_cons, List.map_nil, List.cons_append, List.nil_append, List.getElem?_cons_zero, List.getElem?_cons_succ, isN_int, asB_bl, Bool.xor_false, cnd_f, ap_skip]
  unfold s_Shelf_at_2
  simp only [ap_if, ap_not, ap_tru, ap_call, ap_cons, ap_nil, ap_bin, ap_fld, ap_var, ap_c, List.getElem?_cons_zero, List.getElem?_cons_succ, asI_m, h1, celI_i, opt_s]
  refine ⟨List.mem_singleton.mpr rfl, opt_eq (a := .int ((vs.length : Int) - 1)) rfl ?_⟩
  refine ⟨rfl, ?_⟩
  refine place_spec (c := (vs.length : Int) - 1 + 1) (.int _) ?_
  have e : plc ((vs.length : Int) - 1 + 1) (.int j) = true := by simp [plc]; omega
  rw [e]
  simp only [tru_bl, Bool.not_true, cnd_f, ap_skip, ap_ret, ap_bin, ap_fld, ap_var, List.getElem?_cons_zero, List.getElem?_cons_succ, asI_m, h1, celI_i, opt_s]
  refine ⟨List.mem_singleton.mpr rfl, opt_eq (a := .m c) rfl ?_⟩
  rw [ix_m, h2]
  refine opt_eq (a := vs.map (libD p)) rfl (opt_eq (a := libD p vs[j]) (at_nat (by rw [List.getElem?_map, List.getElem?_eq_getElem hj]; rfl)) ⟨S, .refl S, q⟩)
theorem at_non' {S : Sto} {p : Int} {s c : Nat} {vs : List (List (List Int))} {Q : D → Sto → Prop} {E : Err → Sto → Prop} (h : ShOk S p s c vs) (q : Q (libD p (vs.getLast h.ne)) S) : m_Shelf_at [.m s, .non] S Q E := by
  have h1 := h.hs
  have h2 := h.hc
  have h3 := h.last
  unfold m_Shelf_at t_Shelf_at s_Shelf_at_1
  simp only [fnD_ap, ap_seq, ap_if, ap_b, ap_bin, ap_fld, ap_var, ap_c, List.map_cons, List.map_nil, List.cons_append, List.nil_append, List.getElem?_cons_zero, List.getElem?_cons_succ, isN_non, asB_bl, Bool.xor_true, Bool.not_false, cnd_t, ap_ret, asI_m, h1, celI_i, opt_s]
  refine ⟨List.mem_singleton.mpr rfl, opt_eq (a := .m c) rfl ⟨List.mem_singleton.mpr rfl, opt_eq (a := .int ((vs.length : Int) - 1)) rfl ?_⟩⟩
  rw [ix_m, h2]
  exact opt_eq (a := libD p (vs.getLast h.ne)) h3 ⟨S, .refl S, q⟩
theorem isN_val {S : Sto} {d : D} {k : D → Prop} (h : Val S d) (hn : d ≠ .non) (q : k (.bl false)) : oIsN false S d .non k := by
  cases h with
  | non => exact absurd rfl hn
  | _ => exact q
theorem at_bad {S : Sto} {p : Int} {s c : Nat} {d : D} {vs : List (List (List Int))} {Q : D → Sto → Prop} {E : Err → Sto → Prop} (h : ShOk S p s c vs) (hv : Val S d) (hn : d ≠ .non) (hp : plc vs.length d = false) (q : E ⟨cInvalidNumber, [("value", d)]⟩ S) : m_Shelf_at [.m s, d] S Q E := by
  have h1 := h.hs
  unfold m_Shelf_at t_Shelf_at s_Shelf_at_1
  simp only [fnD_ap, ap_seq, ap_if, ap_b, ap_bin, ap_fld, ap_var, ap_c, List.map_cons, List.map_nil, List.cons_append, List.nil_append, List.getElem?_cons_zero, List.getElem?_cons_succ]
  refine isN_val hv hn ?_
  simp only [asB_bl, cnd_f, ap_skip]
  unfold s_Shelf_at_2
  simp only [ap_if, ap_not, ap_tru, ap_call, ap_cons, ap_nil, ap_bin, ap_fld, ap_var, ap_c, List.getElem?_cons_zero, List.getElem?_cons_succ, asI_m, h1, celI_i, opt_s]
  refine ⟨List.mem_singleton.mpr rfl, opt_eq (a := .int ((vs.length : Int) - 1)) rfl ?_⟩
  refine ⟨rfl, ?_⟩
  refine place_spec (c := (vs.length : Int) - 1 + 1) hv ?_
  rw [show (vs.length : Int) - 1 + 1 = vs.length by omega, hp]
  exact ⟨rfl, S, .refl S, q⟩
end K08

set_option maxHeartbeats 1000000
namespace K08
open PySem DL L2
/-! ### the law's own helpers -/
theorem hs_t {B : DEnds} {er : Err} {δ : Lo} {S : Sto} {h : Hd} {r : List Hd} (hm : h.mt er.C = some true) (q : ∀ a dx, h.su a dx er { nx := fun δ' S' => B.nx (unset h.sl δ') S', rt := B.rt, bk := fun δ' S' => B.bk (unset h.sl δ') S', ct := fun δ' S' => B.ct (unset h.sl δ') S', ex := fun _ _ _ => False } (heldD h.sl a dx er δ) S) : dHs B er δ S (h :: r) := by
  show opt (h.mt er.C) _
  rw [hm]
  exact q
theorem hs_f {B : DEnds} {er : Err} {δ : Lo} {S : Sto} {h : Hd} {r : List Hd} (hm : h.mt er.C = some false) (q : dHs B er δ S r) : dHs B er δ S (h :: r) := by
  show opt (h.mt er.C) _
  rw [hm]
  exact q
theorem lawput_ok {S S' : Sto} {p : Int} {s : Nat} {k b : D} {n : Int} {fs : List (Str × D)} {Q : D → Sto → Prop} {E : Err → Sto → Prop} (hs : S s = some (.ins cShelf fs)) (hf : fs.lookup ("put" : Str) = none) (hm : ∀ (Q : D → Sto → Prop) (E : Err → Sto → Prop), Q (.int n) S' → m_Shelf_put [.m s, k, b] S Q E)
    (q : Q (.lst [.str "number", .int n]) S') : m__law_put [.m s, k, b] S Q E := by
  show opt (asI S (.m s)) _
  rw [asI_m, hs]
  exact ⟨rfl, hf, rfl, hm _ _ ⟨sz (Nat.le_of_ble_eq_true rfl), S', .refl S', q⟩⟩
theorem lawput_num {S : Sto} {p : Int} {s : Nat} {k b v : D} {fs : List (Str × D)} {Q : D → Sto → Prop} {E : Err → Sto → Prop} (hs : S s = some (.ins cShelf fs)) (hf : fs.lookup ("put" : Str) = none) (hm : ∀ (Q : D → Sto → Prop) (E : Err → Sto → Prop), E ⟨cInvalidNumber, [("value", v)]⟩ S → m_Shelf_put [.m s, k, b] S Q E)
    (q : Q (.lst [.str "refused", v]) S) : m__law_put [.m s, k, b] S Q E := by
  show opt (asI S (.m s)) _
  rw [asI_m, hs]
  refine ⟨rfl, hf, rfl, hm _ _ ?_⟩
  simp only [h__law_put_1, List.map_cons, List.map_nil]
  refine hs_t (by rfl) ?_
  intro a dx
  refine ⟨List.mem_singleton.mpr rfl, rfl, rfl, rfl, opt_eq (a := v) rfl ⟨sz (Nat.le_of_ble_eq_true rfl), S, .refl S, q⟩⟩
theorem lawput_lib {S : Sto} {p : Int} {s : Nat} {k b v : D} {fs : List (Str × D)} {Q : D → Sto → Prop} {E : Err → Sto → Prop} (hs : S s = some (.ins cShelf fs)) (hf : fs.lookup ("put" : Str) = none) (hm : ∀ (Q : D → Sto → Prop) (E : Err → Sto → Prop), E ⟨cInvalidLibrary, [("value", v)]⟩ S → m_Shelf_put [.m s, k, b] S Q E)
    (q : Q (.lst [.str "wrong", v]) S) : m__law_put [.m s, k, b] S Q E := by
  show opt (asI S (.m s)) _
  rw [asI_m, hs]
  refine ⟨rfl, hf, rfl, hm _ _ ?_⟩
  simp only [h__law_put_1, List.map_cons, List.map_nil]
  refine hs_f (by rfl) (hs_t (by rfl) ?_)
  intro a dx
  refine ⟨List.mem_singleton.mpr rfl, rfl, rfl, rfl, opt_eq (a := v) rfl ⟨sz (Nat.le_of_ble_eq_true rfl), S, .refl S, q⟩⟩
theorem lawat_num {S : Sto} {s : Nat} {k v : D} {fs : List (Str × D)} {Q : D → Sto → Prop} {E : Err → Sto → Prop} (hs : S s = some (.ins cShelf fs)) (hf : fs.lookup ("at" : Str) = none) (hm : ∀ (Q : D → Sto → Prop) (E : Err → Sto → Prop), E ⟨cInvalidNumber, [("value", v)]⟩ S → m_Shelf_at [.m s, k] S Q E)
    (q : Q v S) : m__law_at [.m s, k] S Q E := by
  show opt (asI S (.m s)) _
  rw [asI_m, hs]
  refine ⟨rfl, hf, rfl, hm _ _ ?_⟩
  simp only [h__law_at_1, List.map_cons, List.map_nil]
  refine hs_t (by rfl) ?_
  intro a dx
  exact ⟨List.mem_singleton.mpr rfl, rfl, rfl, rfl, opt_eq (a := v) rfl ⟨S, .refl S, q⟩⟩
theorem tp_rows {p : Int} {bs : List (List Int)} {size : Nat} (hb : BksOk p bs size) : Tp 3 (booksD bs) := by
  refine .tup (fun x hx => ?_) (by rw [List.length_map]; have := hb.few; omega)
  obtain ⟨r, hr, rfl⟩ := List.mem_map.mp hx
  refine .tup (fun y hy => ?_) (by rw [List.length_map, (hb.row r hr).1]; have := hb.few2; omega)
  obtain ⟨i, _, rfl⟩ := List.mem_map.mp hy
  exact .int _ _
theorem flat_few {p : Int} {size : Nat} : ∀ bs : List (List Int), size ≤ 100 → (∀ r ∈ bs, rowOk p size r) → bs.flatten.length ≤ bs.length * 100
  | [], _, _ => by simp
  | r :: bs, h, hr => by
    have ih := flat_few bs h fun x hx => hr x (List.mem_cons_of_mem _ hx)
    have h1 := (hr r (List.mem_cons_self ..)).1
    rw [List.flatten_cons, List.length_append, List.length_cons]
    omega
theorem is_spec {S : Sto} {p : Int} {bs : List (List Int)} {size : Nat} {Q : D → Sto → Prop} {E : Err → Sto → Prop} (hb : BksOk p bs size) (q : Q (.bl true) S) : m__law_is [libD p bs, .int p, booksD bs] S Q E := by
  obtain ⟨b0, bt, hbs⟩ : ∃ b0 bt, bs = b0 :: bt := by
    cases hq : bs with
    | nil => exact absurd hq hb.ne
    | cons a t => exact ⟨a, t, rfl⟩
  unfold m__law_is t__law_is s__law_is_1
  have hfl : bs.flatten.length ≤ 10000 := by
    have := flat_few bs hb.few2 hb.row
    have := hb.few
    omega
  have i1 : isi1 cs (.own cLibrary) (.own cLibrary) = some true := by decide
  simp only [fnD_ap, ap_seq, ap_set, ap_if, ap_or, ap_not, ap_tru, ap_isi, ap_call, ap_cons, ap_nil, ap_fld, ap_var, List.map_cons, List.map_nil, List.cons_append, List.nil_append, List.getElem?_cons_zero, List.getElem?_cons_succ, libD, ty_ins, opt_s, i1, tru_bl, Bool.not_true, cnd_f, asI_ins]
  refine ⟨List.mem_singleton.mpr rfl, opt_eq (a := booksD bs) rfl ⟨rfl, same_spec (tp_rows hb) ?_⟩⟩
  simp only [tru_bl, Bool.not_true, cnd_f]
  refine ⟨List.mem_singleton.mpr rfl, opt_eq (a := .int p) rfl ⟨rfl, same_spec (r := 3) (.int _ _) ?_⟩⟩
  simp only [tru_bl, Bool.not_true, cnd_f, ap_skip, ap_tup, ap_nil]
  refine ⟨sz (Nat.le_of_ble_eq_true rfl), ?_⟩
  unfold s__law_is_3
  simp only [ap_for, ap_iSeq, ap_var, List.set_cons_succ, List.set_cons_zero, List.getElem?_cons_zero, List.getElem?_cons_succ, booksD, seqI_tup]
  refine loop_N (fun ds δ S' => ∃ (xs ys : List (List Int)) (g4 g5 : Option D), ds = xs.map rowD ∧ bs = ys ++ xs ∧ δ = [some (libD p bs), some (.int p), some (booksD bs), some (.tup (ys.flatten.map .int)), g4, g5] ∧ S' = S) (fun _ _ _ _ => trivial) ?_ ?_ _ _ _ ⟨bs, [], none, none, rfl, rfl, rfl, rfl⟩
  · rintro d ds δ S' ⟨xs, ys, g4, g5, he, hx, rfl, rfl⟩ B' hB hb1 hb2 hb3
    cases xs with
    | nil => cases he
    | cons r xs =>
      injection he with h1 h2
      subst h1 h2
      have hB1 := hB
      unfold b__law_is_2
      simp only [ap_set, ap_bin, ap_var, List.set_cons_succ, List.set_cons_zero, List.getElem?_cons_zero, List.getElem?_cons_succ, rowD, DL.add_tup]
      refine ⟨?_, ?_⟩
      · have e : ys.flatten.length + r.length ≤ bs.flatten.length := by
          rw [hx, List.flatten_append, List.length_append, List.flatten_cons, List.length_append]
          omega
        rw [List.length_map, List.length_map, sizeLine_eq]
        omega
      · refine (hB _ _ ⟨xs, ys ++ [r], some (rowD r), g5, rfl, by rw [hx]; simp, ?_, rfl⟩).1
        rw [List.flatten_append, List.map_append]
        simp [rowD]
  · rintro δ S' ⟨xs, ys, g4, g5, he, hx, rfl, rfl⟩
    cases xs with
    | cons r xs => cases he
    | nil =>
      rw [List.append_nil] at hx
      subst hx
      simp only [ap_tup, ap_cons, ap_nil, ap_fld, ap_var, List.set_cons_succ, List.set_cons_zero, List.getElem?_cons_zero, List.getElem?_cons_succ, libD, asI_ins, opt_s]
      refine ⟨List.mem_singleton.mpr rfl, opt_eq (a := .int bs.length) rfl ⟨List.mem_singleton.mpr rfl, opt_eq (a := .int (bs.head?.getD []).length) rfl ⟨sz (Nat.le_of_ble_eq_true rfl), ?_⟩⟩⟩
      simp only [ap_ret, ap_andV, ap_call, ap_cons, ap_nil, ap_tup, ap_cl, ap_bin, ap_c, ap_fld, ap_var, List.set_cons_succ, List.set_cons_zero, List.getElem?_cons_zero, List.getElem?_cons_succ, booksD, len_tup, List.length_map, DL.ix_tup]
      refine opt_eq (a := rowD b0) (by rw [hbs, List.map_cons, at_0]) ?_
      simp only [rowD, len_tup, List.length_map]
      refine ⟨sz (Nat.le_of_ble_eq_true rfl), rfl, ?_⟩
      have e0 : (bs.head?.getD []).length = b0.length := by rw [hbs]; rfl
      rw [e0]
      refine same_spec (r := 3) (.tup (fun x hx => ?_) (Nat.le_of_ble_eq_true rfl)) ?_
      · rcases List.mem_cons.mp hx with rfl | hx
        · exact .int _ _
        · rw [List.mem_singleton.mp hx]; exact .int _ _
      simp only [tru_bl, cnd_t]
      refine ⟨List.mem_singleton.mpr rfl, opt_eq (a := .tup (bs.flatten.map .int)) rfl ?_⟩
      refine ⟨rfl, ?_⟩
      refine same_spec (r := 3) (d := .tup (bs.flatten.map .int)) (.tup (fun x hx => ?_) (by rw [List.length_map]; omega)) ⟨_, .refl _, q⟩
      obtain ⟨i, _, rfl⟩ := List.mem_map.mp hx
      exact .int _ _
end K08

set_option maxHeartbeats 1000000
namespace K08
open PySem DL L2
theorem right_spec {S : Sto} {p : Int} {s c g size : Nat} {vs : List (List (List Int))} {Q : D → Sto → Prop} {E : Err → Sto → Prop} (h : ShOk S p s c vs) (hg : S g = some (.lst (vs.map booksD))) (hb : ∀ bs ∈ vs, BksOk p bs size) (hl : vs.length ≤ 500) (q : Q (.bl true) S) : m__law_shelf_right [.m s, .int p, .m g] S Q E := by
  have h1 := h.hs
  unfold m__law_shelf_right t__law_shelf_right s__law_shelf_right_1
  have hat : (([("_kept", .m c), ("edition", .int ((vs.length : Int) - 1))] : List (Str × D)).lookup ("at" : Str)) = none := rfl
  have hlast : atI (vs.map booksD) (-1) = some (booksD (vs.getLast h.ne)) := by
    have e : vs = vs.dropLast ++ [vs.getLast h.ne] := (List.dropLast_concat_getLast h.ne).symm
    have e2 : vs.map booksD = vs.dropLast.map booksD ++ [booksD (vs.getLast h.ne)] := by
      conv => lhs; rw [e]
      rw [List.map_append]
      rfl
    rw [e2]
    exact at_last
  simp only [fnD_ap, ap_seq, ap_if, ap_not, ap_tru, ap_call, ap_cons, ap_nil, ap_bin, ap_cl, ap_c, ap_fld, ap_var, List.map_cons, List.map_nil, List.cons_append, List.nil_append, List.getElem?_cons_zero, List.getElem?_cons_succ, asI_m, h1, celI_i, opt_s]
  refine ⟨List.mem_singleton.mpr rfl, opt_eq (a := .int ((vs.length : Int) - 1)) rfl ?_⟩
  rw [len_m, hg, celO_l, opt_s, List.length_map]
  refine And.intro rfl (same_spec (r := 3) (d := .int ((vs.length : Int) - 1)) (.int _ _) ?_)
  simp only [tru_bl, Bool.not_true, cnd_f, ap_skip]
  unfold s__law_shelf_right_4
  simp only [ap_for, ap_iR1, ap_cl, ap_cons, ap_nil, ap_var, List.getElem?_cons_zero, List.getElem?_cons_succ]
  rw [len_m, hg, celO_l, opt_s]
  simp only [List.length_map, Int.toNat_natCast]
  refine ⟨by omega, by omega, ?_⟩
  refine loop_N (fun ds δ S' => ∃ (lo m : Nat) (g3 : Option D), ds = rngD lo m ∧ lo + m = vs.length ∧ δ = [some (.m s), some (.int p), some (.m g), g3] ∧ S' = S) (fun _ _ _ _ => trivial) ?_ ?_ _ _ _ ⟨0, vs.length, none, rfl, by omega, rfl, rfl⟩
  · rintro d ds δ S' ⟨lo, m, g3, he, hx, rfl, rfl⟩ B' hB hb1 hb2 hb3
    obtain ⟨m, rfl, rfl, rfl⟩ := rng_split he
    have hlt : lo < vs.length := by omega
    unfold b__law_shelf_right_3 s__law_shelf_right_2
    simp only [ap_if, ap_not, ap_tru, ap_call, ap_cons, ap_nil, ap_bin, ap_meth, ap_var, List.set_cons_succ, List.set_cons_zero, List.getElem?_cons_zero, List.getElem?_cons_succ, asI_m, h1, celI_i, opt_s]
    refine ⟨trivial, hat, rfl, ?_⟩
    refine at_int' h hlt ?_
    rw [ix_m, hg]
    refine opt_eq (a := vs.map booksD) rfl (opt_eq (a := booksD vs[lo]) (at_nat (by rw [List.getElem?_map, List.getElem?_eq_getElem hlt]; rfl)) ⟨rfl, ?_⟩)
    refine is_spec (hb _ (List.getElem_mem hlt)) ?_
    simp only [tru_bl, Bool.not_true, cnd_f, ap_skip]
    exact (hB _ _ ⟨lo + 1, m, _, by push_cast; rfl, by omega, rfl, rfl⟩).1
  · rintro δ S' ⟨lo, m, g3, he, hx, rfl, rfl⟩
    have hl2 := hb _ (List.getLast_mem h.ne)
    simp only [ap_ret, ap_andV, ap_call, ap_cons, ap_nil, ap_bin, ap_un, ap_c, ap_meth, ap_var, List.getElem?_cons_zero, List.getElem?_cons_succ, asI_m, h1, celI_i, opt_s, DL.neg_int, ix_m, hg, celO_l]
    refine ⟨trivial, hat, rfl, ?_⟩
    refine at_non' h ?_
    rw [hg]
    refine opt_eq (a := vs.map booksD) rfl (opt_eq (a := booksD (vs.getLast h.ne)) hlast ?_)
    refine And.intro rfl ?_
    refine is_spec hl2 ?_
    simp only [tru_bl, cnd_t]
    show opt (asI S' (.m s)) _
    rw [asI_m, h1]
    refine ⟨rfl, hat, rfl, rfl, ?_⟩
    refine at_non' h ?_
    rw [hg]
    refine opt_eq (a := vs.map booksD) rfl (opt_eq (a := booksD (vs.getLast h.ne)) hlast ⟨rfl, ?_⟩)
    exact is_spec hl2 ⟨_, .refl _, q⟩
end K08

set_option maxHeartbeats 1000000
namespace K08
open PySem DL L2
theorem pick {P : D → Prop} {xs : List D} {v : Int} (h0 : 0 ≤ v) (h1 : v < xs.length) (hp : ∀ x ∈ xs, P x) : ∃ d, atI xs v = some d ∧ P d := ⟨xs[v.toNat]'(by omega), at_get h0 h1, hp _ (List.getElem_mem _)⟩
structure Sh (S : Sto) (p : Int) (size count s c g : Nat) (vs : List (List (List Int))) : Prop where
  ok : ShOk S p s c vs
  hg : S g = some (.lst (vs.map booksD))
  bk : ∀ bs ∈ vs, BksOk p bs size
  cn : ∀ bs ∈ vs, bs.length = count
  few : vs.length ≤ 100
  d1 : s ≠ c
  d2 : s ≠ g
  d3 : c ≠ g
theorem Sh.frame {S S' : Sto} {p : Int} {size count s c g : Nat} {vs : List (List (List Int))} (h : Sh S p size count s c g vs) (e1 : S' s = S s) (e2 : S' c = S c) (e3 : S' g = S g) : Sh S' p size count s c g vs :=
  ⟨⟨by rw [e1]; exact h.ok.hs, by rw [e2]; exact h.ok.hc, h.ok.ne⟩, by rw [e3]; exact h.hg, h.bk, h.cn, h.few, h.d1, h.d2, h.d3⟩
def WrOk (count : Int) (w : D) : Prop := (∀ S, Val S w) ∧ plc count w = false ∧ pln 3 w = true
def BdOk (p : Int) (size : Nat) (b : D) : Prop := (∀ S, Val S b) ∧ (∀ S xs, items S b = some xs → ∀ x ∈ xs, Val S x) ∧ (∀ S, ltrs S p b = false ∨ ∃ xs, items S b = some xs ∧ xs.length ≠ size) ∧ pln 3 b = true
abbrev Ls (sc hd pp co si bo li sh hi g9 wh k nw kd wr bd se pa fo la fa on : Option D) : Lo := [sc, hd, pp, co, si, bo, li, sh, hi, g9, wh, k, nw, kd, wr, bd, se, pa, fo, la, fa, on]
theorem noput {S : Sto} {p : Int} {s c : Nat} {vs : List (List (List Int))} {f : Str} (h : ShOk S p s c vs) : (([("_kept", .m c), ("edition", .int ((vs.length : Int) - 1))] : List (Str × D)).lookup ("put" : Str)) = none := rfl
theorem refused {S : Sto} {p : Int} {size count s c g : Nat} {vs : List (List (List Int))} {w b : D} {Q : D → Sto → Prop} {E : Err → Sto → Prop} (h : Sh S p size count s c g vs) (hw : WrOk count w) (q : Q (.lst [.str "refused", w]) S) : m__law_put [.m s, w, b] S Q E := by
  refine lawput_num (p := p) h.ok.hs rfl (fun Q E q => put_err h.ok (fun Q E q => ?_) q) q
  have e : (vs.getLast h.ok.ne).length = count := h.cn _ (List.getLast_mem _)
  exact changed_place (hw.1 S) (by rw [e]; exact hw.2.1) q
theorem wrong {S : Sto} {p : Int} {size count s c g : Nat} {vs : List (List (List Int))} {k b : D} {Q : D → Sto → Prop} {E : Err → Sto → Prop} (h : Sh S p size count s c g vs) (hk : Val S k) (hk2 : plc count k = true) (hb : BdOk p size b) (q : Q (.lst [.str "wrong", b]) S) : m__law_put [.m s, k, b] S Q E := by
  refine lawput_lib (p := p) h.ok.hs rfl (fun Q E q => put_err h.ok (fun Q E q => ?_) q) q
  have e : (vs.getLast h.ok.ne).length = count := h.cn _ (List.getLast_mem _)
  exact changed_book (h.bk _ (List.getLast_mem _)) hk (by rw [e]; exact hk2) (hb.1 S) (hb.2.1 S) (hb.2.2.1 S) q
/-- kind 3 -/
theorem law3 {B : DEnds} {S : Sto} {p : Int} {size count s c g : Nat} {vs : List (List (List Int))} {k wr bd nw : D} {sc hd pp co si bo li sh hi g9 wh kd pa fo la fa on : Option D} (h : Sh S p size count s c g vs) (hk : Val S k) (hk2 : plc count k = true) (hw : WrOk count wr) (hb : BdOk p size bd)
    (q : B.nx (Ls sc hd pp co si bo li sh hi g9 wh (some k) (some nw) kd (some wr) (some bd) (some (.m s)) pa fo la fa on) S) : dSeq s_law_3 s_law_4 B (Ls sc hd pp co si bo li sh hi g9 wh (some k) (some nw) kd (some wr) (some bd) (some (.m s)) pa fo la fa on) S := by
  unfold s_law_3 s_law_4
  have pr : ∀ x : D, pln 3 x = true → ∀ z : Str, PyData.strOk z = true → pln 4 (.lst [.str z, x]) = true := fun x hx z hz => by simp [pln, plnL, hx, hz]
  simp only [ap_seq, ap_if, ap_or, ap_b, ap_bin, ap_call, ap_cons, ap_nil, ap_fz, ap_lst, ap_c, ap_var, Ls, List.getElem?_cons_zero, List.getElem?_cons_succ]
  refine And.intro rfl (refused h hw ⟨sz (Nat.le_of_ble_eq_true rfl), ?_⟩)
  refine eq_refl (pr wr hw.2.2 _ (by decide +kernel)) (by decide) ?_
  simp only [Bool.not_true, asB_bl, cnd_f]
  refine And.intro rfl (refused h hw ⟨sz (Nat.le_of_ble_eq_true rfl), ?_⟩)
  refine eq_refl (pr wr hw.2.2 _ (by decide +kernel)) (by decide) ?_
  simp only [Bool.not_true, asB_bl, cnd_f, ap_skip]
  refine And.intro rfl (wrong h hk hk2 hb ⟨sz (Nat.le_of_ble_eq_true rfl), ?_⟩)
  refine eq_refl (pr bd hb.2.2.2 _ (by decide +kernel)) (by decide) ?_
  simp only [Bool.not_true, asB_bl, cnd_f, ap_skip]
  exact q
/-- looked at -/
theorem law5 {B : DEnds} {S : Sto} {p : Int} {size count s c g : Nat} {vs : List (List (List Int))} {far : D} {sc hd pp co si bo li sh hi g9 wh k nw kd wr bd pa fo la on : Option D} (h : Sh S p size count s c g vs) (hf : (∀ S, Val S far) ∧ far ≠ .non ∧ plc vs.length far = false ∧ pln 3 far = true)
    (q : B.nx (Ls sc hd pp co si bo li sh hi g9 wh k nw kd wr bd (some (.m s)) pa fo la (some far) on) S) : s_law_5 B (Ls sc hd pp co si bo li sh hi g9 wh k nw kd wr bd (some (.m s)) pa fo la (some far) on) S := by
  unfold s_law_5
  simp only [ap_if, ap_b, ap_bin, ap_call, ap_cons, ap_nil, ap_var, Ls, List.getElem?_cons_zero, List.getElem?_cons_succ]
  refine And.intro rfl (lawat_num h.ok.hs rfl (fun Q E q => at_bad h.ok (hf.1 S) hf.2.1 hf.2.2.1 q) ?_)
  refine eq_refl hf.2.2.2 (by decide) ?_
  simp only [Bool.not_true, asB_bl, cnd_f, ap_skip]
  exact q
end K08

set_option maxHeartbeats 1000000
namespace K08
open PySem DL L2
/-- the three stores of a put -/
abbrev putS (S : Sto) (p : Int) (s c g : Nat) (vs : List (List (List Int))) : Sto := put (put (put S c (.lst (vs.map (libD p)))) s (.ins cShelf [("_kept", .m c), ("edition", .int ((vs.length : Int) - 1))])) g (.lst (vs.map booksD))
theorem Sh.next {S : Sto} {p : Int} {size count s c g : Nat} {vs : List (List (List Int))} {bs : List (List Int)} (h : Sh S p size count s c g vs) (hb : BksOk p bs size) (hc : bs.length = count) (hz : vs.length < 100) : Sh (putS S p s c g (vs ++ [bs])) p size count s c g (vs ++ [bs]) :=
  ⟨⟨(put_ne h.d2).trans put_same, (put_ne h.d3).trans ((put_ne (Ne.symm h.d1)).trans put_same), by simp⟩, put_same, fun x hx => by
    rcases List.mem_append.mp hx with hx | hx
    · exact h.bk x hx
    · rw [List.mem_singleton.mp hx]; exact hb, fun x hx => by
    rcases List.mem_append.mp hx with hx | hx
    · exact h.cn x hx
    · rw [List.mem_singleton.mp hx]; exact hc, by rw [List.length_append, List.length_singleton]; omega, h.d1, h.d2, h.d3⟩
/-- a put that is right: from found = .. on -/
theorem law_put {B : DEnds} {S : Sto} {p : Int} {size count s c g i : Nat} {which : Int} {vs : List (List (List Int))} {r : List Int} {pa : D} {hs : List D} {sc hd co si bo li sh g9 kd wr bd fo la fa on : Option D} (h : Sh S p size count s c g vs) (hp : p ∈ ki_FIELDS) (hi : i < count) (hr : rowOk p size r) (hz : vs.length < 100)
    (hwh : atI hs which = some (.m g)) (hpa : pa = .tup (r.map .int) ∨ ∃ n, pa = .m n ∧ S n = some (.lst (r.map .int)) ∧ n ≠ s ∧ n ≠ c ∧ n ≠ g)
    (q : ∀ (S' : Sto) (fo la : Option D), (∀ n, (∀ m, pa ≠ .m m ∨ n ≠ m) → n ≠ s → n ≠ c → n ≠ g → S' n = S n) → Sh S' p size count s c g (vs ++ [(vs.getLast h.ok.ne).set i r]) → B.nx (Ls sc hd (some (.int p)) co si bo li sh (some (.lst hs)) g9 (some (.int which)) (some (.int i)) (some (rowD r)) kd wr bd (some (.m s)) (some pa) fo la fa on) S') :
    (dSeq (dSet 18 (dCall 3 m__law_put [] (dCons (dVar 16) (dCons (dVar 11) (dCons (dVar 17) dNil)))))
    (dSeq (dSet 19 (dBin oIx (dBin oIx (dVar 8) (dVar 10)) (dUn oNeg (dC (.int 1)))))
    (dSeq (dEx (dApp (dBin oIx (dVar 8) (dVar 10)) (dBin oAdd (dBin oAdd (dSl (dVar 19) dNoP (dPart (dVar 11))) (dTup (dCons (dVar 12) dNil))) (dSl (dVar 19) (dPart (dBin oAdd (dVar 11) (dC (.int 1)))) dNoP))))
    (dSeq s_law_1
    s_law_2)))) B (Ls sc hd (some (.int p)) co si bo li sh (some (.lst hs)) g9 (some (.int which)) (some (.int i)) (some (rowD r)) kd wr bd (some (.m s)) (some pa) fo la fa on) S := by
  have hl := h.bk _ (List.getLast_mem h.ok.ne)
  have hlc := h.cn _ (List.getLast_mem h.ok.ne)
  have hitems : Val S pa ∧ items S pa = some (r.map .int) := by
    rcases hpa with rfl | ⟨n, rfl, hn, _⟩
    · exact ⟨.tup _, rfl⟩
    · exact ⟨.m hn, by show celO (S n) = _; rw [hn]; rfl⟩
  simp only [ap_seq, ap_set, ap_call, ap_cons, ap_nil, ap_var, Ls, List.getElem?_cons_zero, List.getElem?_cons_succ, List.set_cons_succ, List.set_cons_zero]
  refine And.intro rfl ?_
  refine lawput_ok (p := p) (n := vs.length) (S' := put (put S c (.lst ((vs ++ [(vs.getLast h.ok.ne).set i r]).map (libD p)))) s (.ins cShelf [("_kept", .m c), ("edition", .int vs.length)])) h.ok.hs rfl (fun Q E q => put_ok h.ok h.d1 (by omega) (fun Q E q => changed_ok hp hl (by omega) hitems.1 hitems.2 hr q) q) ?_
  have fdef : ∀ x, x = put (put S c (.lst ((vs ++ [(vs.getLast h.ok.ne).set i r]).map (libD p)))) s (.ins cShelf [("_kept", .m c), ("edition", .int vs.length)]) → x g = some (.lst (vs.map booksD)) := fun x hx => by
    rw [hx, put_ne (Ne.symm h.d2), put_ne (Ne.symm h.d3)]
    exact h.hg
  generalize hS1 : put (put S c (.lst ((vs ++ [(vs.getLast h.ok.ne).set i r]).map (libD p)))) s (.ins cShelf [("_kept", .m c), ("edition", .int vs.length)]) = S1
  have hg1 := fdef S1 hS1.symm
  have hlast : atI (vs.map booksD) (-1) = some (booksD (vs.getLast h.ok.ne)) := by
    have e : vs = vs.dropLast ++ [vs.getLast h.ok.ne] := (List.dropLast_concat_getLast h.ok.ne).symm
    have e2 : vs.map booksD = vs.dropLast.map booksD ++ [booksD (vs.getLast h.ok.ne)] := by
      conv => lhs; rw [e]
      rw [List.map_append]
      rfl
    rw [e2]
    exact at_last
  generalize hL : vs.getLast h.ok.ne = L at hl hlc hlast q hS1
  show oIx S1 (.lst hs) (.int which) _
  rw [DL.ix_lst, hwh, opt_s]
  show oIx S1 (.m g) (.int (-1)) _
  rw [ix_m, hg1, celO_l, opt_s, hlast, opt_s]
  show oIx S1 (.lst hs) (.int which) _
  rw [DL.ix_lst, hwh, opt_s]
  refine And.intro ⟨_, hg1⟩ ?_
  simp only [ap_bin, ap_sl, ap_noP, ap_part, ap_tup, ap_cons, ap_nil, ap_c, ap_var, List.getElem?_cons_zero, List.getElem?_cons_succ, asInt_i, booksD, DL.sl_tup, DL.add_int]
  have hfew := hl.few
  rw [cut_to (by omega)]
  refine ⟨sz (Nat.le_of_ble_eq_true rfl), ?_⟩
  rw [DL.add_tup]
  refine ⟨sz (by rw [List.length_take, List.length_map, List.length_singleton]; omega), ?_⟩
  rw [cut_from (by omega), DL.add_tup]
  refine ⟨sz (by rw [List.length_append, List.length_take, List.length_drop, List.length_map, List.length_singleton]; omega), ?_⟩
  have e : (L.map rowD).take (i : Int).toNat ++ [rowD r] ++ (L.map rowD).drop ((i : Int) + 1).toNat = (L.set i r).map rowD := by
    rw [Int.toNat_natCast, show ((i : Int) + 1).toNat = i + 1 by omega, set_split (by rw [List.length_map]; omega), List.map_set]
  rw [e]
  refine ⟨_, hg1, Nat.lt_of_lt_of_le (by rw [List.length_map]; omega) (sz (Nat.le_refl _) : 1000 ≤ sizeLine), ?_⟩
  have e2 : vs.map booksD ++ [D.tup ((L.set i r).map rowD)] = (vs ++ [L.set i r]).map booksD := by rw [List.map_append]; rfl
  rw [e2]
  have hS2 : put S1 g (.lst ((vs ++ [L.set i r]).map booksD)) = putS S p s c g (vs ++ [L.set i r]) := by
    rw [← hS1]
    show put (put (put S c _) s _) g _ = put (put (put S c _) s _) g _
    rw [show (((vs ++ [L.set i r]).length : Int) - 1) = (vs.length : Int) by rw [List.length_append, List.length_singleton]; omega]
  rw [hS2]
  have nx := h.next (bs := L.set i r) (bks_set hl hr) (by rw [List.length_set]; exact hlc) hz
  generalize hS3 : putS S p s c g (vs ++ [L.set i r]) = S3 at nx
  -- the check
  unfold s_law_1
  simp only [ap_if, ap_or, ap_b, ap_not, ap_tru, ap_bin, ap_call, ap_cl, ap_cons, ap_nil, ap_c, ap_var, List.getElem?_cons_zero, List.getElem?_cons_succ, DL.ix_lst, at_0, opt_s, eq_str]
  have e3 : (true ^^ (("number" : Str) == ("number" : Str))) = false := by simp
  rw [e3, asB_bl, cnd_f, at_1, opt_s, hwh, opt_s, len_m, nx.hg, celO_l, opt_s]
  refine And.intro rfl ?_
  have e4 : (((vs ++ [L.set i r]).map booksD).length : Int) - 1 = vs.length := by rw [List.length_map, List.length_append, List.length_singleton]; omega
  show m__law_same 4 ([.int vs.length, .int ((((vs ++ [L.set i r]).map booksD).length : Int) - 1)] ++ []) S3 _ _
  rw [e4]
  refine same_spec (r := 3) (d := .int vs.length) (.int _ _) ?_
  simp only [tru_bl, Bool.not_true, cnd_f, ap_skip]
  -- what was passed changes
  unfold s_law_2
  have away : ∀ n, n ≠ s → n ≠ c → n ≠ g → S3 n = S n := fun n h1 h2 h3 => by
    rw [← hS3]
    show put (put (put S c _) s _) g _ n = S n
    rw [put_ne h3, put_ne h1, put_ne h2]
  rcases hpa with rfl | ⟨n, rfl, hn, n1, n2, n3⟩
  · simp only [ap_if, ap_tru, ap_isi, ap_var, List.getElem?_cons_zero, List.getElem?_cons_succ, ty_tup, opt_s, isi_tuple_list, tru_bl, cnd_f, ap_skip]
    exact q S3 _ _ (fun m _ => away m) nx
  · have hn3 : S3 n = some (.lst (r.map .int)) := (away n n1 n2 n3).trans hn
    simp only [ap_if, ap_tru, ap_isi, ap_var, List.getElem?_cons_zero, List.getElem?_cons_succ, ty_mL hn3, opt_s, isi_list_list, tru_bl, cnd_t]
    have hr0 : 0 < r.length := by rw [hr.1]; exact hl.sz
    refine ⟨_, 0, hn3, ?_, ?_⟩
    · unfold ixN
      rw [if_pos (by decide), if_pos (by rw [List.length_map]; omega)]
      rfl
    · refine q _ _ _ (fun m hm a b d => ?_) (nx.frame (put_ne (Ne.symm n1)) (put_ne (Ne.symm n2)) (put_ne (Ne.symm n3)))
      have hmn : m ≠ n := by
        rcases hm n with z | z
        · exact absurd rfl z
        · exact z
      rw [put_ne hmn]
      exact away m a b d
end K08

set_option maxHeartbeats 1000000
namespace K08
open PySem DL L2
theorem Hand.frame {S S' : Sto} {h : Nat} (H : Hand S h) (e : S' h = S h) : Hand S' h := by
  obtain ⟨dr, a, h1, h2⟩ := H
  exact ⟨dr, a, by rw [e]; exact h1, h2⟩
theorem Hand.some {S : Sto} {h : Nat} (H : Hand S h) : S h ≠ none := by
  obtain ⟨dr, a, h1, _⟩ := H
  rw [h1]
  simp
theorem law7 {B : DEnds} {S : Sto} {p : Int} {size count s c g h i : Nat} {which kd : Int} {vs : List (List (List Int))} {r : List Int} {wr bd : D} {hs : List D} {sc co si bo li sh g9 pa fo la fa on : Option D} (H : Hand S h) (hh : h ≠ s ∧ h ≠ c ∧ h ≠ g) (hS : Sh S p size count s c g vs) (hp : p ∈ ki_FIELDS) (hi : i < count) (hr : rowOk p size r) (hz : vs.length < 100)
    (hwh : atI hs which = some (.m g)) (hw : WrOk count wr) (hb : BdOk p size bd)
    (q : ∀ (S' : Sto) (vs' : List (List (List Int))) (pa fo la fa : Option D), (∀ n, S n ≠ none → n ≠ h → n ≠ s → n ≠ c → n ≠ g → S' n = S n) → Hand S' h → Sh S' p size count s c g vs' → vs'.length ≤ vs.length + 1 →
      B.nx (Ls sc (some (.m h)) (some (.int p)) co si bo li sh (some (.lst hs)) g9 (some (.int which)) (some (.int i)) (some (rowD r)) (some (.int kd)) (some wr) (some bd) (some (.m s)) pa fo la fa on) S') :
    s_law_7 B (Ls sc (some (.m h)) (some (.int p)) co si bo li sh (some (.lst hs)) g9 (some (.int which)) (some (.int i)) (some (rowD r)) (some (.int kd)) (some wr) (some bd) (some (.m s)) pa fo la fa on) S := by
  unfold s_law_7
  simp only [ap_if, ap_b, ap_bin, ap_c, ap_var, Ls, List.getElem?_cons_zero, List.getElem?_cons_succ, c0_int, asB_bl]
  have ss : S s ≠ none := by rw [hS.ok.hs]; simp
  have scn : S c ≠ none := by rw [hS.ok.hc]; simp
  have sg : S g ≠ none := by rw [hS.hg]; simp
  refine cnd_dec (fun _ => ?_) fun _ => ?_
  · rw [ap_seq]
    simp only [ap_set, ap_bin, ap_fz, ap_lst, ap_cons, ap_nil, ap_new, ap_listOf, ap_var, ap_call, ap_c, List.getElem?_cons_zero, List.getElem?_cons_succ, rowD, asSq_tup, opt_s]
    intro n hn
    refine ⟨sz (Nat.le_of_ble_eq_true rfl), ?_⟩
    have nh : h ≠ n := fun z => H.some (by rw [z]; exact hn)
    have ns : s ≠ n := fun z => ss (by rw [z]; exact hn)
    have nc : c ≠ n := fun z => scn (by rw [z]; exact hn)
    have ng : g ≠ n := fun z => sg (by rw [z]; exact hn)
    refine And.intro rfl (take_spec (H.frame (put_ne nh)) (by decide) fun v S2 h0 h1 H2 F2 => ?_)
    have hS2 : Sh S2 p size count s c g vs := hS.frame (by rw [F2 s (Ne.symm hh.1), put_ne ns]) (by rw [F2 c (Ne.symm hh.2.1), put_ne nc]) (by rw [F2 g (Ne.symm hh.2.2), put_ne ng])
    have hn2 : S2 n = some (.lst (r.map .int)) := by rw [F2 n (Ne.symm nh), put_same]
    have fin : ∀ pa : D, (pa = .tup (r.map .int) ∨ pa = .m n) → _ := fun pa hpa => law_put (B := B) (S := S2) (pa := pa) (sc := sc) (hd := some (.m h)) (co := co) (si := si) (bo := bo) (li := li) (sh := sh) (g9 := g9) (kd := some (.int kd)) (wr := some wr) (bd := some bd) (fo := fo) (la := la) (fa := fa) (on := on) hS2 hp hi hr hz hwh
      (by
        rcases hpa with rfl | rfl
        · exact .inl rfl
        · exact .inr ⟨n, rfl, hn2, Ne.symm ns, Ne.symm nc, Ne.symm ng⟩)
      (fun S' fo la F hS' => by
        have F' : ∀ m, m ≠ n → m ≠ s → m ≠ c → m ≠ g → S' m = S2 m := fun m mn => F m fun j => by
          rcases hpa with rfl | rfl
          · exact .inl (fun z => nomatch z)
          · by_cases e : j = n
            · exact .inr (by rw [e]; exact mn)
            · exact .inl (fun z => by cases z; exact e rfl)
        exact q S' _ (some pa) fo la fa (fun m m0 m1 m2 m3 m4 => by
          have mn : m ≠ n := fun z => m0 (by rw [z]; exact hn)
          rw [F' m mn m2 m3 m4, F2 m m1, put_ne mn]) (H2.frame (F' h nh hh.1 hh.2.1 hh.2.2)) hS' (by rw [List.length_append]; exact Nat.le_refl _))
    have h6 : v = 0 ∨ v = 1 := by omega
    rcases h6 with rfl | rfl
    · rw [DL.ix_lst, at_0, opt_s]
      exact fin (.m n) (.inr rfl)
    · rw [DL.ix_lst, at_1, opt_s]
      exact fin (.tup (r.map .int)) (.inl rfl)
  · unfold s_law_6
    simp only [ap_if, ap_b, ap_bin, ap_c, ap_var, List.getElem?_cons_zero, List.getElem?_cons_succ, eq_int, asB_bl]
    have hk : plc count (.int i) = true := by simp [plc]; omega
    refine cnd_of (fun _ => ?_) fun _ => ?_
    · exact law3 hS (.int _) hk hw hb (q S vs pa fo la fa (fun _ _ _ _ _ _ => rfl) H hS (by omega))
    · rw [ap_seq]
      simp only [ap_set, ap_bin, ap_un, ap_fz, ap_lst, ap_tup, ap_cons, ap_nil, ap_var, ap_cl, ap_call, ap_c, List.getElem?_cons_zero, List.getElem?_cons_succ, DL.ix_lst, hwh, opt_s, len_m, hS.hg, celO_l, DL.neg_int, i_int]
      refine ⟨sz (Nat.le_of_ble_eq_true rfl), ⟨⟨by decide, by decide, by decide⟩, sz (Nat.le_of_ble_eq_true rfl), ?_⟩⟩
      refine And.intro rfl (take_spec H (by decide) fun v S2 h0 h1 H2 F2 => ?_)
      rw [DL.ix_lst]
      have hS2 : Sh S2 p size count s c g vs := hS.frame (F2 s (Ne.symm hh.1)) (F2 c (Ne.symm hh.2.1)) (F2 g (Ne.symm hh.2.2))
      obtain ⟨far, hf, hfar⟩ := pick (P := fun far => (∀ S, Val S far) ∧ far ≠ .non ∧ plc vs.length far = false ∧ pln 3 far = true) (xs := [.int ((vs.map booksD).length : Int), .int (-1), .bl true, .str "0", .tup [.int 0], .int (10 ^ Int.toNat 25), .bl false]) h0 h1 (by
        intro x hx
        simp only [List.mem_cons, List.not_mem_nil, or_false] at hx
        have hlen := hS.few
        rcases hx with rfl | rfl | rfl | rfl | rfl | rfl | rfl
        · exact ⟨fun S => .int _, (fun z => nomatch z), by simp [plc], rfl⟩
        · exact ⟨fun S => .int _, (fun z => nomatch z), by simp [plc], rfl⟩
        · exact ⟨fun S => .bl _, (fun z => nomatch z), rfl, rfl⟩
        · exact ⟨fun S => .str _, (fun z => nomatch z), rfl, by decide +kernel⟩
        · exact ⟨fun S => .tup _, (fun z => nomatch z), rfl, rfl⟩
        · refine ⟨fun S => .int _, (fun z => nomatch z), ?_, rfl⟩
          have e : ¬ ((10 : Int) ^ Int.toNat 25 < (vs.length : Int)) := by
            have : (10 : Int) ^ Int.toNat 25 = 10000000000000000000000000 := by decide
            rw [this]
            omega
          show (decide (0 ≤ (10 : Int) ^ Int.toNat 25) && decide ((10 : Int) ^ Int.toNat 25 < (vs.length : Int))) = false
          rw [decide_eq_false e]
          simp
        · exact ⟨fun S => .bl _, (fun z => nomatch z), rfl, rfl⟩)
      rw [hf, opt_s]
      exact law5 hS2 hfar (q S2 vs pa fo la _ (fun n _ n1 _ _ _ => F2 n n1) H2 hS2 (by omega))
theorem law10 {B : DEnds} {S : Sto} {p : Int} {size count s0 c0 g0 s1 c1 g1 : Nat} {v0 v1 : List (List (List Int))} {sc hd co si bo li g9 wh k nw kd wr bd se pa fo la fa on : Option D} (h0 : Sh S p size count s0 c0 g0 v0) (h1 : Sh S p size count s1 c1 g1 v1)
    (q : ∀ on, B.nx (Ls sc hd (some (.int p)) co si bo li (some (.lst [.m s0, .m s1])) (some (.lst [.m g0, .m g1])) g9 wh k nw kd wr bd se pa fo la fa on) S) :
    s_law_10 B (Ls sc hd (some (.int p)) co si bo li (some (.lst [.m s0, .m s1])) (some (.lst [.m g0, .m g1])) g9 wh k nw kd wr bd se pa fo la fa on) S := by
  unfold s_law_10
  simp only [ap_for, ap_iR1, ap_c, ap_cons, ap_nil]
  refine ⟨by decide, by decide, ?_⟩
  have body : ∀ (B : DEnds) (j : Int) (s c g : Nat) (vs : List (List (List Int))), Sh S p size count s c g vs → atI ([.m s0, .m s1] : List D) j = some (.m s) → atI ([.m g0, .m g1] : List D) j = some (.m g) →
      B.nx (Ls sc hd (some (.int p)) co si bo li (some (.lst [.m s0, .m s1])) (some (.lst [.m g0, .m g1])) g9 wh k nw kd wr bd se pa fo la fa (some (.int j))) S → b_law_9 B (Ls sc hd (some (.int p)) co si bo li (some (.lst [.m s0, .m s1])) (some (.lst [.m g0, .m g1])) g9 wh k nw kd wr bd se pa fo la fa (some (.int j))) S := by
    intro B j s c g vs hS e1 e2 hq
    unfold b_law_9 s_law_8
    simp only [ap_if, ap_not, ap_tru, ap_call, ap_cons, ap_nil, ap_bin, ap_var, List.getElem?_cons_zero, List.getElem?_cons_succ, DL.ix_lst, e1, e2, opt_s]
    refine And.intro rfl (right_spec hS.ok hS.hg hS.bk (by have := hS.few; omega) ?_)
    simp only [tru_bl, Bool.not_true, cnd_f, ap_skip]
    exact hq
  refine And.intro trivial ?_
  refine body _ 0 s0 c0 g0 v0 h0 rfl rfl ?_
  refine And.intro trivial ?_
  refine body _ 1 s1 c1 g1 v1 h1 rfl rfl ?_
  exact ⟨trivial, q _⟩
end K08

set_option maxHeartbeats 1000000
namespace K08
open PySem DL L2
/-! ### books that are none -/
theorem pln_ints (n : Nat) : ∀ r : List Int, plnL n (r.map D.int) = true
  | [] => by simp [plnL]
  | i :: r => by
    have ih := pln_ints n r
    cases n <;> simp [plnL, pln, ih]
theorem plnL_app (n : Nat) : ∀ a b : List D, plnL n (a ++ b) = (plnL n a && plnL n b)
  | [], b => by simp [plnL]
  | d :: a, b => by simp [plnL, plnL_app n a b, Bool.and_assoc]
theorem val_in {S : Sto} {xs ys : List D} (h : ∀ x ∈ xs, Val S x) (g : ∀ x ∈ ys, Val S x) : ∀ x ∈ xs ++ ys, Val S x := fun x hx => by
  rcases List.mem_append.mp hx with q | q
  · exact h x q
  · exact g x q
theorem bd_tup {p : Int} {size : Nat} {xs : List D} (h : ∀ S, ∀ x ∈ xs, Val S x) (hw : ltr p xs = false ∨ xs.length ≠ size) (hp : plnL 2 xs = true) : BdOk p size (.tup xs) :=
  ⟨fun S => .tup _, fun S ys hy => by cases hy; exact h S, fun S => by
    rcases hw with hw | hw
    · exact .inl hw
    · exact .inr ⟨xs, rfl, hw⟩, by simpa [pln] using hp⟩
theorem ltr_app {p : Int} {a b : List D} : ltr p (a ++ b) = (ltr p a && ltr p b) := by unfold ltr; rw [List.all_append]
theorem bad_list {p : Int} {size : Nat} {r : List Int} (h2 : 2 ≤ p) (hr : rowOk p size r) (hz : 0 < size) : ∀ x ∈ ([.tup (r.map .int ++ [.int 0]), .tup (cutD (r.map .int) (some 1) none), .tup (cutD (r.map .int) none (some (-1)) ++ [.int p]), .non, .tup (cutD (r.map .int) none (some (-1)) ++ [.bl true]), .int 5, .str "0", .lst [.lst [.int 0]], .tup ([.int (-1)] ++ cutD (r.map .int) (some 1) none)] : List D), BdOk p size x := by
  intro x hx
  have hl := hr.1
  have c1 : cutD (r.map .int) (some 1) none = (r.drop 1).map D.int := by rw [cut_from (by decide)]; rw [List.map_drop]; rfl
  have c2 : cutD (r.map .int) none (some (-1)) = (r.take (r.length - 1)).map D.int := by rw [cut_but, List.map_take, List.length_map]
  rw [c1, c2] at hx
  simp only [List.mem_cons, List.not_mem_nil, or_false] at hx
  have vi : ∀ (l : List Int) (S : Sto), ∀ x ∈ l.map D.int, Val S x := fun l S => vals_int l
  rcases hx with rfl | rfl | rfl | rfl | rfl | rfl | rfl | rfl | rfl
  · exact bd_tup (fun S => val_in (vi _ S) (fun x hx => by rw [List.mem_singleton.mp hx]; exact .int _)) (.inr (by rw [List.length_append, List.length_map, List.length_singleton]; omega)) (by rw [plnL_app, pln_ints]; rfl)
  · exact bd_tup (fun S => vi _ S) (.inr (by rw [List.length_map, List.length_drop]; omega)) (pln_ints _ _)
  · exact bd_tup (fun S => val_in (vi _ S) (fun x hx => by rw [List.mem_singleton.mp hx]; exact .int _)) (.inl (by rw [ltr_app]; simp [ltr, plc])) (by rw [plnL_app, pln_ints]; rfl)
  · exact ⟨fun S => .non, fun S ys hy => (nomatch hy), fun S => .inl rfl, rfl⟩
  · exact bd_tup (fun S => val_in (vi _ S) (fun x hx => by rw [List.mem_singleton.mp hx]; exact .bl _)) (.inl (by rw [ltr_app]; simp [ltr, plc])) (by rw [plnL_app, pln_ints]; rfl)
  · exact ⟨fun S => .int _, fun S ys hy => (nomatch hy), fun S => .inl rfl, rfl⟩
  · exact ⟨fun S => .str _, fun S ys hy => (nomatch hy), fun S => .inl rfl, by decide +kernel⟩
  · exact ⟨fun S => .lst _, fun S ys hy => by cases hy; intro x hx; rw [List.mem_singleton.mp hx]; exact .lst _, fun S => .inl rfl, rfl⟩
  · exact bd_tup (fun S => val_in (fun x hx => by rw [List.mem_singleton.mp hx]; exact .int _) (vi _ S)) (.inl (by rw [ltr_app]; simp [ltr, plc])) (by rw [plnL_app, pln_ints]; rfl)
theorem wr_list {count : Int} (h0 : 0 ≤ count) (h1 : count ≤ 100) : ∀ x ∈ ([.int count, .int (-1), .bl true, .non, .str "0", .tup [], .int (10 ^ Int.toNat 25)] : List D), WrOk count x := by
  intro x hx
  simp only [List.mem_cons, List.not_mem_nil, or_false] at hx
  rcases hx with rfl | rfl | rfl | rfl | rfl | rfl | rfl
  · exact ⟨fun S => .int _, by simp [plc], rfl⟩
  · exact ⟨fun S => .int _, by simp [plc], rfl⟩
  · exact ⟨fun S => .bl _, rfl, rfl⟩
  · exact ⟨fun S => .non, rfl, rfl⟩
  · exact ⟨fun S => .str _, rfl, by decide +kernel⟩
  · exact ⟨fun S => .tup _, rfl, rfl⟩
  · refine ⟨fun S => .int _, ?_, rfl⟩
    have e : ¬ ((10 : Int) ^ Int.toNat 25 < count) := by
      have : (10 : Int) ^ Int.toNat 25 = 10000000000000000000000000 := by decide
      rw [this]
      omega
    show (decide (0 ≤ (10 : Int) ^ Int.toNat 25) && decide ((10 : Int) ^ Int.toNat 25 < count)) = false
    rw [decide_eq_false e]
    simp
end K08

set_option maxHeartbeats 1000000
namespace K08
open PySem DL L2
theorem field_two : ∀ p ∈ ki_FIELDS, 2 ≤ p := by decide
structure Two (S : Sto) (h : Nat) (p : Int) (size count s0 c0 g0 s1 c1 g1 : Nat) (v0 v1 : List (List (List Int))) : Prop where
  H : Hand S h
  a : Sh S p size count s0 c0 g0 v0
  b : Sh S p size count s1 c1 g1 v1
  ha : h ≠ s0 ∧ h ≠ c0 ∧ h ≠ g0
  hb : h ≠ s1 ∧ h ≠ c1 ∧ h ≠ g1
  x : s0 ≠ s1 ∧ s0 ≠ c1 ∧ s0 ≠ g1 ∧ c0 ≠ s1 ∧ c0 ≠ c1 ∧ c0 ≠ g1 ∧ g0 ≠ s1 ∧ g0 ≠ c1 ∧ g0 ≠ g1
theorem Two.hand {S S' : Sto} {h : Nat} {p : Int} {size count s0 c0 g0 s1 c1 g1 : Nat} {v0 v1 : List (List (List Int))} (t : Two S h p size count s0 c0 g0 s1 c1 g1 v0 v1) (H : Hand S' h) (F : ∀ n, n ≠ h → S' n = S n) : Two S' h p size count s0 c0 g0 s1 c1 g1 v0 v1 :=
  ⟨H, t.a.frame (F _ (Ne.symm t.ha.1)) (F _ (Ne.symm t.ha.2.1)) (F _ (Ne.symm t.ha.2.2)), t.b.frame (F _ (Ne.symm t.hb.1)) (F _ (Ne.symm t.hb.2.1)) (F _ (Ne.symm t.hb.2.2)), t.ha, t.hb, t.x⟩
theorem Sh.somes {S : Sto} {p : Int} {size count s c g : Nat} {vs : List (List (List Int))} (h : Sh S p size count s c g vs) : S s ≠ none ∧ S c ≠ none ∧ S g ≠ none := ⟨by rw [h.ok.hs]; simp, by rw [h.ok.hc]; simp, by rw [h.hg]; simp⟩
theorem body11 {B : DEnds} {S : Sto} {h : Nat} {p : Int} {size count s0 c0 g0 s1 c1 g1 : Nat} {v0 v1 : List (List (List Int))} {sc bo li g9 wh k nw kd wr bd se pa fo la fa on : Option D} (t : Two S h p size count s0 c0 g0 s1 c1 g1 v0 v1) (hp : p ∈ ki_FIELDS) (hc : 0 < count ∧ count ≤ 3) (hz : 0 < size ∧ size ≤ 3) (hv : v0.length < 50 ∧ v1.length < 50)
    (q : ∀ (S' : Sto) (v0' v1' : List (List (List Int))) (wh k nw kd wr bd se pa fo la fa on : Option D), Two S' h p size count s0 c0 g0 s1 c1 g1 v0' v1' → v0'.length ≤ v0.length + 1 → v1'.length ≤ v1.length + 1 →
      B.nx (Ls sc (some (.m h)) (some (.int p)) (some (.int count)) (some (.int size)) bo li (some (.lst [.m s0, .m s1])) (some (.lst [.m g0, .m g1])) g9 wh k nw kd wr bd se pa fo la fa on) S') :
    b_law_11 B (Ls sc (some (.m h)) (some (.int p)) (some (.int count)) (some (.int size)) bo li (some (.lst [.m s0, .m s1])) (some (.lst [.m g0, .m g1])) g9 wh k nw kd wr bd se pa fo la fa on) S := by
  have h2 := field_two p hp
  unfold b_law_11
  refine And.intro rfl (take_spec t.H (by decide) fun a S1 a0 a1 H1 F1 => ?_)
  rw [ap_c]
  refine fd_int (by decide) (by decide) ?_
  have t1 := t.hand H1 F1
  refine And.intro rfl (take_spec t1.H (by omega) fun i S2 i0 i1 H2 F2 => ?_)
  have t2 := t1.hand H2 F2
  refine And.intro rfl (books_spec t2.H (by omega) (by decide) (by decide) (by omega) (by omega) fun bs S3 hbl hbr H3 F3 => ?_)
  have t3 := t2.hand H3 F3
  obtain ⟨r, rfl⟩ : ∃ r, bs = [r] := by
    match bs, hbl with
    | [r], _ => exact ⟨r, rfl⟩
  have hr : rowOk p size r := by
    have := hbr r (List.mem_cons_self ..)
    rwa [Int.toNat_natCast] at this
  rw [ap_c]
  show oIx S3 (.tup [rowD r]) (.int 0) _
  rw [DL.ix_tup, at_0, opt_s]
  refine And.intro rfl (take_spec t3.H (by decide) fun kd' S4 k0 k1 H4 F4 => ?_)
  have t4 := t3.hand H4 F4
  refine ⟨sz (Nat.le_of_ble_eq_true rfl), ⟨by decide, by decide, by decide⟩, sz (Nat.le_of_ble_eq_true rfl), ?_⟩
  refine And.intro rfl (take_spec t4.H (by decide) fun w S5 w0 w1 H5 F5 => ?_)
  have t5 := t4.hand H5 F5
  obtain ⟨wr', hwr, hwo⟩ := pick (P := WrOk (count : Int)) (xs := [.int count, .int (-1), .bl true, .non, .str "0", .tup [], .int (10 ^ Int.toNat 25)]) w0 w1 (wr_list (by omega) (by omega))
  rw [DL.ix_lst, hwr, opt_s]
  have lr : (r.map D.int).length = size := by rw [List.length_map]; exact hr.1
  have lc1 : (cutD (r.map D.int) (some 1) none).length ≤ 100 := by
    rw [cut_from (by decide), List.length_drop]; omega
  have lc2 : (cutD (r.map D.int) none (some (-1))).length ≤ 100 := by
    rw [cut_but, List.length_take]; omega
  refine ⟨sz (Nat.le_of_ble_eq_true rfl), sz (by show (r.map D.int).length + 1 ≤ 1000; omega), sz (Nat.le_of_ble_eq_true rfl), sz (by show (cutD (r.map D.int) none (some (-1))).length + 1 ≤ 1000; omega), sz (Nat.le_of_ble_eq_true rfl), sz (by show (cutD (r.map D.int) none (some (-1))).length + 1 ≤ 1000; omega), sz (Nat.le_of_ble_eq_true rfl), sz (Nat.le_of_ble_eq_true rfl), sz (Nat.le_of_ble_eq_true rfl), sz (by show 1 + (cutD (r.map D.int) (some 1) none).length ≤ 1000; omega), sz (Nat.le_of_ble_eq_true rfl), ?_⟩
  refine And.intro rfl (take_spec t5.H (by decide) fun b S6 b0 b1 H6 F6 => ?_)
  have t6 := t5.hand H6 F6
  obtain ⟨bd', hbd, hbo⟩ := pick (P := BdOk p size) (xs := [.tup (r.map .int ++ [.int 0]), .tup (cutD (r.map .int) (some 1) none), .tup (cutD (r.map .int) none (some (-1)) ++ [.int p]), .non, .tup (cutD (r.map .int) none (some (-1)) ++ [.bl true]), .int 5, .str "0", .lst [.lst [.int 0]], .tup ([.int (-1)] ++ cutD (r.map .int) (some 1) none)]) b0 b1 (bad_list h2 hr hz.1)
  rw [DL.ix_lst, hbd, opt_s]
  obtain ⟨i', rfl⟩ : ∃ n : Nat, i = n := ⟨i.toNat, by omega⟩
  have fin : ∀ (j : Int) (s c g : Nat) (vs : List (List (List Int))), Sh S6 p size count s c g vs → vs.length < 50 → h ≠ s ∧ h ≠ c ∧ h ≠ g → atI ([.m g0, .m g1] : List D) j = some (.m g) →
      (∀ (S' : Sto) (vs' : List (List (List Int))) (pa fo la fa : Option D), (∀ n, S6 n ≠ none → n ≠ h → n ≠ s → n ≠ c → n ≠ g → S' n = S6 n) → Hand S' h → Sh S' p size count s c g vs' → vs'.length ≤ vs.length + 1 → s_law_10 B (Ls sc (some (.m h)) (some (.int p)) (some (.int count)) (some (.int size)) bo li (some (.lst [.m s0, .m s1])) (some (.lst [.m g0, .m g1])) g9 (some (.int j)) (some (.int i')) (some (rowD r)) (some (.int kd')) (some wr') (some bd') (some (.m s)) pa fo la fa on) S') →
      dSeq s_law_7 s_law_10 B (Ls sc (some (.m h)) (some (.int p)) (some (.int count)) (some (.int size)) bo li (some (.lst [.m s0, .m s1])) (some (.lst [.m g0, .m g1])) g9 (some (.int j)) (some (.int i')) (some (rowD r)) (some (.int kd')) (some wr') (some bd') (some (.m s)) pa fo la fa on) S6 := by
    intro j s c g vs hS hl hh hj hq
    rw [ap_seq]
    exact law7 t6.H hh hS hp (by omega) hr (by omega) hj hwo hbo (fun S' vs' pa fo la fa F H' hS' hl' => hq S' vs' pa fo la fa F H' hS' hl')
  have ha : a / 3 = 0 ∨ a / 3 = 1 := by omega
  rcases ha with ha | ha
  · show oIx S6 (.lst [.m s0, .m s1]) (.int (a / 3)) _
    rw [ha, DL.ix_lst, at_0, opt_s]
    refine fin 0 s0 c0 g0 v0 t6.a hv.1 t6.ha rfl fun S' vs' pa fo la fa F H' hS' hl' => ?_
    obtain ⟨x1, x2, x3, x4, x5, x6, x7, x8, x9⟩ := t6.x
    obtain ⟨y1, y2, y3⟩ := t6.b.somes
    have hb' : Sh S' p size count s1 c1 g1 v1 := t6.b.frame (F s1 y1 (Ne.symm t6.hb.1) (Ne.symm x1) (Ne.symm x4) (Ne.symm x7)) (F c1 y2 (Ne.symm t6.hb.2.1) (Ne.symm x2) (Ne.symm x5) (Ne.symm x8)) (F g1 y3 (Ne.symm t6.hb.2.2) (Ne.symm x3) (Ne.symm x6) (Ne.symm x9))
    exact law10 hS' hb' fun on => q S' vs' v1 _ _ _ _ _ _ _ _ _ _ _ on ⟨H', hS', hb', t6.ha, t6.hb, t6.x⟩ hl' (by omega)
  · show oIx S6 (.lst [.m s0, .m s1]) (.int (a / 3)) _
    rw [ha, DL.ix_lst, at_1, opt_s]
    refine fin 1 s1 c1 g1 v1 t6.b hv.2 t6.hb rfl fun S' vs' pa fo la fa F H' hS' hl' => ?_
    obtain ⟨x1, x2, x3, x4, x5, x6, x7, x8, x9⟩ := t6.x
    obtain ⟨y1, y2, y3⟩ := t6.a.somes
    have ha' : Sh S' p size count s0 c0 g0 v0 := t6.a.frame (F s0 y1 (Ne.symm t6.ha.1) x1 x2 x3) (F c0 y2 (Ne.symm t6.ha.2.1) x4 x5 x6) (F g0 y3 (Ne.symm t6.ha.2.2) x7 x8 x9)
    exact law10 ha' hS' fun on => q S' v0 vs' _ _ _ _ _ _ _ _ _ _ _ on ⟨H', ha', hS', t6.ha, t6.hb, t6.x⟩ (by omega) hl'
end K08

set_option maxHeartbeats 1000000
namespace K08
open PySem DL L2
theorem law12 {B : DEnds} {S : Sto} {h : Nat} {p : Int} {size count s0 c0 g0 s1 c1 g1 : Nat} {v0 v1 : List (List (List Int))} {sc bo li g9 wh k nw kd wr bd se pa fo la fa on : Option D} (t : Two S h p size count s0 c0 g0 s1 c1 g1 v0 v1) (hp : p ∈ ki_FIELDS) (hc : 0 < count ∧ count ≤ 3) (hz : 0 < size ∧ size ≤ 3) (hv : v0.length ≤ 1 ∧ v1.length ≤ 1)
    (q : ∀ (S' : Sto) (δ' : Lo), δ'[2]? = some (some (.int p)) → δ'[5]? = some bo → δ'[6]? = some li → B.nx δ' S') :
    s_law_12 B (Ls sc (some (.m h)) (some (.int p)) (some (.int count)) (some (.int size)) bo li (some (.lst [.m s0, .m s1])) (some (.lst [.m g0, .m g1])) g9 wh k nw kd wr bd se pa fo la fa on) S := by
  unfold s_law_12
  refine And.intro rfl (take_spec t.H (by decide) fun v S1 h0 h1 H1 F1 => ?_)
  have t1 := t.hand H1 F1
  refine ⟨by omega, by omega, ?_⟩
  refine loop_N (fun ds δ S' => ∃ (lo : Int) (m : Nat) (v0 v1 : List (List (List Int))) (g9 wh k nw kd wr bd se pa fo la fa on : Option D), ds = rngD lo m ∧ v0.length + m ≤ 20 ∧ v1.length + m ≤ 20 ∧ Two S' h p size count s0 c0 g0 s1 c1 g1 v0 v1 ∧
    δ = Ls sc (some (.m h)) (some (.int p)) (some (.int count)) (some (.int size)) bo li (some (.lst [.m s0, .m s1])) (some (.lst [.m g0, .m g1])) g9 wh k nw kd wr bd se pa fo la fa on) (fun _ _ _ _ => trivial) ?_ ?_ _ _ _ ⟨0, v.toNat, v0, v1, _, _, _, _, _, _, _, _, _, _, _, _, _, rfl, by omega, by omega, t1, rfl⟩
  · rintro d ds δ S' ⟨lo, m, v0, v1, g9, wh, k, nw, kd, wr, bd, se, pa, fo, la, fa, on, he, l0, l1, t, rfl⟩ B' hB hb1 hb2 hb3
    obtain ⟨m, rfl, rfl, rfl⟩ := rng_split he
    refine body11 (g9 := some (.int lo)) t hp hc hz ⟨by omega, by omega⟩ fun S2 v0' v1' wh k nw kd wr bd se pa fo la fa on t2 e0 e1 => ?_
    exact (hB _ _ ⟨lo + 1, m, v0', v1', _, wh, k, nw, kd, wr, bd, se, pa, fo, la, fa, on, rfl, by omega, by omega, t2, rfl⟩).1
  · rintro δ S' ⟨lo, m, v0, v1, g9, wh, k, nw, kd, wr, bd, se, pa, fo, la, fa, on, he, l0, l1, t, rfl⟩
    exact q _ _ rfl rfl rfl
end K08

set_option maxHeartbeats 400000
namespace K08
open PySem DL L2
theorem put_none {S : Sto} {n k : Nat} {c : Cell} (h : put S n c k = none) : k ≠ n ∧ S k = none := by
  have e : k ≠ n := fun z => by rw [z, put_same] at h; cases h
  rw [put_ne e] at h
  exact ⟨e, h⟩
theorem law_true (ns : List Int) (hl : ns.length ≤ 63) (hb : ∀ z ∈ ns, Builtin.Int.intBits z ≤ 1048576) : m_law [.rol (ns.map .int)] (fun _ => none) (fun d _ => d = .bl true) fun _ _ => False := by
  unfold m_law t_law
  refine And.intro rfl (draws_spec hl (by decide) (by decide) fun dr => ?_)
  refine ⟨sz (Nat.le_of_ble_eq_true rfl), fun h hh => ?_⟩
  have H : Hand (put (fun _ => none) h (.lst [.lst (dr.map .int), .int 0])) h := ⟨dr, 0, put_same, by decide⟩
  generalize put (fun _ => none) h (.lst [.lst (dr.map .int), .int 0]) = S at H
  refine And.intro rfl (field_spec H fun p S1 hp H1 F1 => ?_)
  have h2 := field_two p hp
  refine And.intro rfl (take_spec H1 (by decide) fun a S2 a0 a1 H2 F2 => ?_)
  refine And.intro rfl (take_spec H2 (by decide) fun b S3 b0 b1 H3 F3 => ?_)
  refine And.intro rfl (books_spec H3 (p := p) (count := 1 + a) (size := 1 + b) (by omega) (by omega) (by omega) (by omega) (by omega) fun bs S4 hbl hbr H4 F4 => ?_)
  have hk : BksOk p bs (1 + b).toNat := ⟨fun z => by rw [z] at hbl; simp at hbl; omega, by omega, hbr, by omega, by omega⟩
  refine And.intro rfl (fun k0 hk0 => lib_init hk0 hp hk ⟨rfl, libF p bs, put_same, ?_⟩)
  rw [del_put hk0]
  -- the shelves
  refine And.intro rfl (fun s0 hs0 => shelf_init fun c0 hc0 => ⟨rfl, ⟨_, put_same⟩, ?_⟩)
  refine And.intro rfl (fun s1 hs1 => shelf_init fun c1 hc1 => ⟨rfl, ⟨_, put_same⟩, ?_⟩)
  refine ⟨sz (Nat.le_of_ble_eq_true rfl), ?_⟩
  refine ⟨sz (Nat.le_of_ble_eq_true rfl), fun g0 hg0 => ⟨sz (Nat.le_of_ble_eq_true rfl), fun g1 hg1 => ⟨sz (Nat.le_of_ble_eq_true rfl), ?_⟩⟩⟩
  have hh : S4 h ≠ none := H4.some
  obtain ⟨a1', a2'⟩ := put_none hc0
  obtain ⟨b1', b2'⟩ := put_none hs1
  obtain ⟨b3', b4'⟩ := put_none b2'
  obtain ⟨d1', d2'⟩ := put_none hc1
  obtain ⟨d3', d4'⟩ := put_none d2'
  obtain ⟨d5', d6'⟩ := put_none d4'
  obtain ⟨e1', e2'⟩ := put_none hg0
  obtain ⟨e3', e4'⟩ := put_none e2'
  obtain ⟨e5', e6'⟩ := put_none e4'
  obtain ⟨e7', e8'⟩ := put_none e6'
  obtain ⟨f1', f2'⟩ := put_none hg1
  obtain ⟨f3', f4'⟩ := put_none f2'
  obtain ⟨f5', f6'⟩ := put_none f4'
  obtain ⟨f7', f8'⟩ := put_none f6'
  obtain ⟨f9', f10'⟩ := put_none f8'
  have no : ∀ {x : Nat}, S4 x = none → h ≠ x := fun hx z => hh (by rw [z]; exact hx)
  have e1 : (1 + a) = (((1 + a).toNat : Nat) : Int) := by omega
  have e2 : (1 + b) = (((1 + b).toNat : Nat) : Int) := by omega
  have lastly : ∀ (S' : Sto) (δ' : Lo), δ'[2]? = some (some (.int p)) → δ'[5]? = some (some (booksD bs)) → δ'[6]? = some (some (libD p bs)) →
      dRet (dCall 3 m__law_is [] (dCons (dVar 6) (dCons (dVar 2) (dCons (dVar 5) dNil)))) { nx := fun _ S' => ∃ S'', DL.Sub S'' S' ∧ D.non = .bl true, rt := fun d S' => ∃ S'', DL.Sub S'' S' ∧ d = .bl true, bk := fun _ _ => False, ct := fun _ _ => False, ex := fun er _ S' => ∃ S'', DL.Sub S'' S' ∧ False } δ' S' := fun S' δ' x2 x5 x6 => by
    simp only [ap_ret, ap_call, ap_cons, ap_nil, ap_var, x2, x5, x6]
    exact And.intro rfl (is_spec hk ⟨_, .refl _, rfl⟩)
  have two : Two (put (put (put (put (put (put S4 c0 (.lst [libD p bs])) s0 (.ins cShelf [("_kept", .m c0), ("edition", .int 0)])) c1 (.lst [libD p bs])) s1 (.ins cShelf [("_kept", .m c1), ("edition", .int 0)])) g0 (.lst [booksD bs])) g1 (.lst [booksD bs])) h p (1 + b).toNat (1 + a).toNat s0 c0 g0 s1 c1 g1 [bs] [bs] := by
    have bk : ∀ x ∈ [bs], BksOk p x (1 + b).toNat := fun x hx => by rw [List.mem_singleton.mp hx]; exact hk
    have cn : ∀ x ∈ [bs], x.length = (1 + a).toNat := fun x hx => by rw [List.mem_singleton.mp hx]; exact hbl
    refine ⟨?_, ⟨⟨?_, ?_, by simp⟩, ?_, bk, cn, Nat.le_of_ble_eq_true rfl, Ne.symm a1', Ne.symm e5', Ne.symm e7'⟩, ⟨⟨?_, ?_, by simp⟩, ?_, bk, cn, Nat.le_of_ble_eq_true rfl, Ne.symm d1', Ne.symm f3', Ne.symm f5'⟩, ⟨no hs0, no a2', no e8'⟩, ⟨no b4', no d6', no f10'⟩, ?_⟩
    · exact H4.frame (by rw [put_ne (no f10'), put_ne (no e8'), put_ne (no b4'), put_ne (no d6'), put_ne (no hs0), put_ne (no a2')])
    · rw [put_ne (Ne.symm f7'), put_ne (Ne.symm e5'), put_ne (Ne.symm b1'), put_ne (Ne.symm d3'), put_same]
      rfl
    · rw [put_ne (Ne.symm f9'), put_ne (Ne.symm e7'), put_ne (Ne.symm b3'), put_ne (Ne.symm d5'), put_ne a1', put_same]
      rfl
    · rw [put_ne (Ne.symm f1'), put_same]
      rfl
    · rw [put_ne (Ne.symm f3'), put_ne (Ne.symm e1'), put_same]
      rfl
    · rw [put_ne (Ne.symm f5'), put_ne (Ne.symm e3'), put_ne d1', put_same]
      rfl
    · rw [put_same]
      rfl
    · exact ⟨Ne.symm b1', Ne.symm d3', Ne.symm f7', Ne.symm b3', Ne.symm d5', Ne.symm f9', e1', e3', Ne.symm f1'⟩
  rw [e1, e2]
  exact law12 (v0 := [bs]) (v1 := [bs]) (c0 := c0) (c1 := c1) two hp ⟨by omega, by omega⟩ ⟨by omega, by omega⟩ ⟨Nat.le_of_ble_eq_true rfl, Nat.le_of_ble_eq_true rfl⟩ lastly
end K08

set_option maxHeartbeats 0
/-! ## The derivations (printed by gen.py) -/
namespace K08
open PySem PySem.Spec PyProof.Rows L2 DL
abbrev PP : Program := PySem.Challenge.pw_sharesunseen_k08_editions_of_a_shelf
def top (i : Nat) : Stmt := PP.main.body.getD i (.Pass ⟨0, 0, 0, 0⟩)
def clsSts : Stmt → List Stmt
  | .ClassDef _ _ _ b _ _ _ _ _ _ _ => b
  | _ => []
def mth (i j : Nat) : Stmt := (clsSts (top i)).getD j (.Pass ⟨0, 0, 0, 0⟩)
def er_InvalidNumber : ErD := ⟨cInvalidNumber, "InvalidNumber.__init__", defArgs (mth 9 0), defBody (mth 9 0), defScope (mth 9 0)⟩
def er_InvalidLibrary : ErD := ⟨cInvalidLibrary, "InvalidLibrary.__init__", defArgs (mth 10 0), defBody (mth 10 0), defScope (mth 10 0)⟩
def d__law_draws : He.DefD := ⟨("_law_draws", none), "_law_draws", "_law_draws", defArgs (top 23), defBody (top 23), defScope (top 23), [], []⟩
def d__law_is_field : He.DefD := ⟨("_law_is_field", none), "_law_is_field", "_law_is_field", defArgs (top 25), defBody (top 25), defScope (top 25), [], []⟩
def d__law_take : He.DefD := ⟨("_law_take", none), "_law_take", "_law_take", defArgs (top 24), defBody (top 24), defScope (top 24), [], []⟩
def d__law_field : He.DefD := ⟨("_law_field", none), "_law_field", "_law_field", defArgs (top 26), defBody (top 26), defScope (top 26), [], []⟩
def d__law_books : He.DefD := ⟨("_law_books", none), "_law_books", "_law_books", defArgs (top 27), defBody (top 27), defScope (top 27), [], []⟩
def d_is_integer_integers : He.DefD := ⟨("is_integer_integers", none), "is_integer", "is_integer", defArgs (top 14), defBody (top 14), defScope (top 14), [], []⟩
def d_is_field : He.DefD := ⟨("is_field", none), "is_field", "is_field", defArgs (top 18), defBody (top 18), defScope (top 18), [], []⟩
def d_is_sequence : He.DefD := ⟨("is_sequence", none), "is_sequence", "is_sequence", defArgs (top 5), defBody (top 5), defScope (top 5), [], []⟩
def d_is_integer_bookplaces : He.DefD := ⟨("is_integer_bookplaces", none), "is_integer", "is_integer", defArgs (top 2), defBody (top 2), defScope (top 2), [], []⟩
def d_is_place : He.DefD := ⟨("is_place", none), "is_place", "is_place", defArgs (top 4), defBody (top 4), defScope (top 4), [], []⟩
def d_are_letters : He.DefD := ⟨("are_letters", none), "are_letters", "are_letters", defArgs (top 6), defBody (top 6), defScope (top 6), [], []⟩
def d__are_books : He.DefD := ⟨("_are_books", none), "_are_books", "_are_books", defArgs (top 20), defBody (top 20), defScope (top 20), [], []⟩
def d_Library___init__ : He.DefD := ⟨("Library", some "__init__"), "__init__", "Library.__init__", defArgs (mth 21 0), defBody (mth 21 0), defScope (mth 21 0), [], []⟩
def d_Shelf___init__ : He.DefD := ⟨("Shelf", some "__init__"), "__init__", "Shelf.__init__", defArgs (mth 12 0), defBody (mth 12 0), defScope (mth 12 0), [], []⟩
def d_Library_changed : He.DefD := ⟨("Library", some "changed"), "changed", "Library.changed", defArgs (mth 21 3), defBody (mth 21 3), defScope (mth 21 3), [], []⟩
def d_Shelf_put : He.DefD := ⟨("Shelf", some "put"), "put", "Shelf.put", defArgs (mth 12 1), defBody (mth 12 1), defScope (mth 12 1), [], []⟩
def d__law_put : He.DefD := ⟨("_law_put", none), "_law_put", "_law_put", defArgs (top 30), defBody (top 30), defScope (top 30), [], []⟩
def d__law_same : He.DefD := ⟨("_law_same", none), "_law_same", "_law_same", defArgs (top 28), defBody (top 28), defScope (top 28), [], []⟩
def d_Shelf_at : He.DefD := ⟨("Shelf", some "at"), "at", "Shelf.at", defArgs (mth 12 2), defBody (mth 12 2), defScope (mth 12 2), [.non], []⟩
def d__law_at : He.DefD := ⟨("_law_at", none), "_law_at", "_law_at", defArgs (top 31), defBody (top 31), defScope (top 31), [], []⟩
def d__law_is : He.DefD := ⟨("_law_is", none), "_law_is", "_law_is", defArgs (top 29), defBody (top 29), defScope (top 29), [], []⟩
def d__law_shelf_right : He.DefD := ⟨("_law_shelf_right", none), "_law_shelf_right", "_law_shelf_right", defArgs (top 32), defBody (top 32), defScope (top 32), [], []⟩
def d_law : He.DefD := ⟨("law", none), "law", "law", defArgs (top 33), defBody (top 33), defScope (top 33), [], []⟩
def hkd : HkD := ⟨[.free "abs", .free "int", .free "range", .free "len", .free "isinstance", .free "bool", .free "tuple", .free "super", .free "list", .glo "_law_draws", .glo "_law_is_field", .glo "_law_take", .glo "_law_field", .glo "_law_books", .glo "is_integer_integers", .glo "is_field", .glo "InvalidNumber", .glo "is_sequence", .glo "is_integer_bookplaces", .glo "is_place", .glo "are_letters", .glo "_are_books", .glo "InvalidLibrary", .glo "Library", .glo "Shelf", .glo "_law_put", .glo "_law_same", .glo "_law_at", .glo "_law_is", .glo "_law_shelf_right", .glo "FIELDS", .meth "Library" "changed", .meth "Shelf" "put", .meth "Shelf" "at", .mkr "Library", .mkr "Shelf", .glo "law"], [d__law_draws, d__law_is_field, d__law_take, d__law_field, d__law_books, d_is_integer_integers, d_is_field, d_is_sequence, d_is_integer_bookplaces, d_is_place, d_are_letters, d__are_books, d_Library___init__, d_Shelf___init__, d_Library_changed, d_Shelf_put, d__law_put, d__law_same, d_Shelf_at, d__law_at, d__law_is, d__law_shelf_right, d_law], [fun K => decide (He.ga K "InvalidNumber" = cInvalidNumber), fun K => decide (He.ga K "InvalidLibrary" = cInvalidLibrary), fun K => decide (He.ga K "Library" = cLibrary), fun K => decide (He.ga K "Shelf" = cShelf), isiB cs, fun K => He.tupB K "FIELDS" (ki_FIELDS.map He.Dv.int), fun K => He.eqO (PySem.W.findIn K (.ref cLibrary) "p") (some none), fun K => He.eqO (PySem.W.findIn K (.ref cLibrary) "books") (some none), fun K => He.eqO (PySem.W.findIn K (.ref cLibrary) "book_count") (some none), fun K => He.eqO (PySem.W.findIn K (.ref cLibrary) "book_length") (some none), fun K => He.eqO (PySem.W.findIn K (.ref cLibrary) "letters") (some none), fun K => He.eqO (PySem.W.findIn K (.ref cShelf) "_kept") (some none), fun K => He.eqO (PySem.W.findIn K (.ref cShelf) "edition") (some none), exmB tab_InvalidLibrary cInvalidLibrary, exmB tab_InvalidNumber cInvalidNumber, fun K => xfB K cInvalidLibrary && He.eqO (PySem.W.findIn K (.ref cInvalidLibrary) "value") (some none), fun K => xfB K cInvalidNumber && He.eqO (PySem.W.findIn K (.ref cInvalidNumber) "value") (some none), fun K => He.eqO (PySem.W.findIn K (.ref cInvalidNumber) "value") (some none), fun K => He.eqO (PySem.W.findIn K (.ref cInvalidLibrary) "value") (some none)], [er_InvalidNumber, er_InvalidLibrary]⟩
structure Tx (K : PySem.W.Frag) (mg : Str → Option Value) : Prop where
  says : SaysH PP.main.file hkd K
  glo : ∀ x, (He.Fa.glo x).ok K = true → mg x = some (.ref (He.ga K x))
  free : ∀ x, (He.Fa.free x).ok K = true → mg x = none
theorem b_abs {K : PySem.W.Frag} {mg : Str → Option Value} (T : Tx K mg) : mg "abs" = none := T.free _ (T.says.fact 0)
theorem b_int {K : PySem.W.Frag} {mg : Str → Option Value} (T : Tx K mg) : mg "int" = none := T.free _ (T.says.fact 1)
theorem b_range {K : PySem.W.Frag} {mg : Str → Option Value} (T : Tx K mg) : mg "range" = none := T.free _ (T.says.fact 2)
theorem b_len {K : PySem.W.Frag} {mg : Str → Option Value} (T : Tx K mg) : mg "len" = none := T.free _ (T.says.fact 3)
theorem b_isinstance {K : PySem.W.Frag} {mg : Str → Option Value} (T : Tx K mg) : mg "isinstance" = none := T.free _ (T.says.fact 4)
theorem b_bool {K : PySem.W.Frag} {mg : Str → Option Value} (T : Tx K mg) : mg "bool" = none := T.free _ (T.says.fact 5)
theorem b_tuple {K : PySem.W.Frag} {mg : Str → Option Value} (T : Tx K mg) : mg "tuple" = none := T.free _ (T.says.fact 6)
theorem b_super {K : PySem.W.Frag} {mg : Str → Option Value} (T : Tx K mg) : mg "super" = none := T.free _ (T.says.fact 7)
theorem b_list {K : PySem.W.Frag} {mg : Str → Option Value} (T : Tx K mg) : mg "list" = none := T.free _ (T.says.fact 8)
theorem g__law_draws {K : PySem.W.Frag} {mg : Str → Option Value} (T : Tx K mg) : mg "_law_draws" = some (.ref (He.fAd K ("_law_draws", none))) := T.glo _ (T.says.fact 9)
theorem g__law_is_field {K : PySem.W.Frag} {mg : Str → Option Value} (T : Tx K mg) : mg "_law_is_field" = some (.ref (He.fAd K ("_law_is_field", none))) := T.glo _ (T.says.fact 10)
theorem g__law_take {K : PySem.W.Frag} {mg : Str → Option Value} (T : Tx K mg) : mg "_law_take" = some (.ref (He.fAd K ("_law_take", none))) := T.glo _ (T.says.fact 11)
theorem g__law_field {K : PySem.W.Frag} {mg : Str → Option Value} (T : Tx K mg) : mg "_law_field" = some (.ref (He.fAd K ("_law_field", none))) := T.glo _ (T.says.fact 12)
theorem g__law_books {K : PySem.W.Frag} {mg : Str → Option Value} (T : Tx K mg) : mg "_law_books" = some (.ref (He.fAd K ("_law_books", none))) := T.glo _ (T.says.fact 13)
theorem g_is_integer_integers {K : PySem.W.Frag} {mg : Str → Option Value} (T : Tx K mg) : mg "is_integer_integers" = some (.ref (He.fAd K ("is_integer_integers", none))) := T.glo _ (T.says.fact 14)
theorem g_is_field {K : PySem.W.Frag} {mg : Str → Option Value} (T : Tx K mg) : mg "is_field" = some (.ref (He.fAd K ("is_field", none))) := T.glo _ (T.says.fact 15)
theorem ga_InvalidNumber {K : PySem.W.Frag} {mg : Str → Option Value} (T : Tx K mg) : He.ga K "InvalidNumber" = cInvalidNumber := of_decide_eq_true (T.says.bool 0)
theorem g_InvalidNumber {K : PySem.W.Frag} {mg : Str → Option Value} (T : Tx K mg) : mg "InvalidNumber" = some (.ref cInvalidNumber) := by
  have h := T.glo _ (T.says.fact 16)
  rw [ga_InvalidNumber T] at h
  exact h
theorem g_is_sequence {K : PySem.W.Frag} {mg : Str → Option Value} (T : Tx K mg) : mg "is_sequence" = some (.ref (He.fAd K ("is_sequence", none))) := T.glo _ (T.says.fact 17)
theorem g_is_integer_bookplaces {K : PySem.W.Frag} {mg : Str → Option Value} (T : Tx K mg) : mg "is_integer_bookplaces" = some (.ref (He.fAd K ("is_integer_bookplaces", none))) := T.glo _ (T.says.fact 18)
theorem g_is_place {K : PySem.W.Frag} {mg : Str → Option Value} (T : Tx K mg) : mg "is_place" = some (.ref (He.fAd K ("is_place", none))) := T.glo _ (T.says.fact 19)
theorem g_are_letters {K : PySem.W.Frag} {mg : Str → Option Value} (T : Tx K mg) : mg "are_letters" = some (.ref (He.fAd K ("are_letters", none))) := T.glo _ (T.says.fact 20)
theorem g__are_books {K : PySem.W.Frag} {mg : Str → Option Value} (T : Tx K mg) : mg "_are_books" = some (.ref (He.fAd K ("_are_books", none))) := T.glo _ (T.says.fact 21)
theorem ga_InvalidLibrary {K : PySem.W.Frag} {mg : Str → Option Value} (T : Tx K mg) : He.ga K "InvalidLibrary" = cInvalidLibrary := of_decide_eq_true (T.says.bool 1)
theorem g_InvalidLibrary {K : PySem.W.Frag} {mg : Str → Option Value} (T : Tx K mg) : mg "InvalidLibrary" = some (.ref cInvalidLibrary) := by
  have h := T.glo _ (T.says.fact 22)
  rw [ga_InvalidLibrary T] at h
  exact h
theorem ga_Library {K : PySem.W.Frag} {mg : Str → Option Value} (T : Tx K mg) : He.ga K "Library" = cLibrary := of_decide_eq_true (T.says.bool 2)
theorem g_Library {K : PySem.W.Frag} {mg : Str → Option Value} (T : Tx K mg) : mg "Library" = some (.ref cLibrary) := by
  have h := T.glo _ (T.says.fact 23)
  rw [ga_Library T] at h
  exact h
theorem ga_Shelf {K : PySem.W.Frag} {mg : Str → Option Value} (T : Tx K mg) : He.ga K "Shelf" = cShelf := of_decide_eq_true (T.says.bool 3)
theorem g_Shelf {K : PySem.W.Frag} {mg : Str → Option Value} (T : Tx K mg) : mg "Shelf" = some (.ref cShelf) := by
  have h := T.glo _ (T.says.fact 24)
  rw [ga_Shelf T] at h
  exact h
theorem g__law_put {K : PySem.W.Frag} {mg : Str → Option Value} (T : Tx K mg) : mg "_law_put" = some (.ref (He.fAd K ("_law_put", none))) := T.glo _ (T.says.fact 25)
theorem g__law_same {K : PySem.W.Frag} {mg : Str → Option Value} (T : Tx K mg) : mg "_law_same" = some (.ref (He.fAd K ("_law_same", none))) := T.glo _ (T.says.fact 26)
theorem g__law_at {K : PySem.W.Frag} {mg : Str → Option Value} (T : Tx K mg) : mg "_law_at" = some (.ref (He.fAd K ("_law_at", none))) := T.glo _ (T.says.fact 27)
theorem g__law_is {K : PySem.W.Frag} {mg : Str → Option Value} (T : Tx K mg) : mg "_law_is" = some (.ref (He.fAd K ("_law_is", none))) := T.glo _ (T.says.fact 28)
theorem g__law_shelf_right {K : PySem.W.Frag} {mg : Str → Option Value} (T : Tx K mg) : mg "_law_shelf_right" = some (.ref (He.fAd K ("_law_shelf_right", none))) := T.glo _ (T.says.fact 29)
theorem isiF {K : PySem.W.Frag} {mg : Str → Option Value} (T : Tx K mg) : IsiF K cs := isiB_ok (T.says.bool 4)
theorem cl_Shelf {K : PySem.W.Frag} {mg : Str → Option Value} (T : Tx K mg) : Cls K cShelf := ((isiF T).ins cShelf (by simp [cs])).cl
theorem cl_Library {K : PySem.W.Frag} {mg : Str → Option Value} (T : Tx K mg) : Cls K cLibrary := ((isiF T).ins cLibrary (by simp [cs])).cl
theorem g_FIELDS {K : PySem.W.Frag} {mg : Str → Option Value} (T : Tx K mg) : mg "FIELDS" = some (.ref (He.ga K "FIELDS")) := T.glo _ (T.says.fact 30)
theorem kr_FIELDS {K : PySem.W.Frag} {mg : Str → Option Value} (T : Tx K mg) (I : Hp) (α : Am) : Rp K I α (.ref (He.ga K "FIELDS")) k_FIELDS := glob_tup (T.says.bool 5) I α
theorem n1_Library_p {K : PySem.W.Frag} {mg : Str → Option Value} (T : Tx K mg) : NoAttr K cLibrary "p" := He.eqO_ok (T.says.bool 6)
theorem n1_Library_books {K : PySem.W.Frag} {mg : Str → Option Value} (T : Tx K mg) : NoAttr K cLibrary "books" := He.eqO_ok (T.says.bool 7)
theorem n1_Library_book_count {K : PySem.W.Frag} {mg : Str → Option Value} (T : Tx K mg) : NoAttr K cLibrary "book_count" := He.eqO_ok (T.says.bool 8)
theorem n1_Library_book_length {K : PySem.W.Frag} {mg : Str → Option Value} (T : Tx K mg) : NoAttr K cLibrary "book_length" := He.eqO_ok (T.says.bool 9)
theorem n1_Library_letters {K : PySem.W.Frag} {mg : Str → Option Value} (T : Tx K mg) : NoAttr K cLibrary "letters" := He.eqO_ok (T.says.bool 10)
theorem n1_Shelf__kept {K : PySem.W.Frag} {mg : Str → Option Value} (T : Tx K mg) : NoAttr K cShelf "_kept" := He.eqO_ok (T.says.bool 11)
theorem n1_Shelf_edition {K : PySem.W.Frag} {mg : Str → Option Value} (T : Tx K mg) : NoAttr K cShelf "edition" := He.eqO_ok (T.says.bool 12)
theorem na_Library_p {K : PySem.W.Frag} {mg : Str → Option Value} (T : Tx K mg) : ∀ C ∈ ([cLibrary] : List Addr), Cls K C ∧ NoAttr K C "p" := by
  intro C hC
  simp only [List.mem_cons, List.not_mem_nil, or_false] at hC
  subst hC
  exact ⟨cl_Library T, n1_Library_p T⟩
theorem na_Library_books {K : PySem.W.Frag} {mg : Str → Option Value} (T : Tx K mg) : ∀ C ∈ ([cLibrary] : List Addr), Cls K C ∧ NoAttr K C "books" := by
  intro C hC
  simp only [List.mem_cons, List.not_mem_nil, or_false] at hC
  subst hC
  exact ⟨cl_Library T, n1_Library_books T⟩
theorem na_Library_book_count {K : PySem.W.Frag} {mg : Str → Option Value} (T : Tx K mg) : ∀ C ∈ ([cLibrary] : List Addr), Cls K C ∧ NoAttr K C "book_count" := by
  intro C hC
  simp only [List.mem_cons, List.not_mem_nil, or_false] at hC
  subst hC
  exact ⟨cl_Library T, n1_Library_book_count T⟩
theorem na_Library_book_length {K : PySem.W.Frag} {mg : Str → Option Value} (T : Tx K mg) : ∀ C ∈ ([cLibrary] : List Addr), Cls K C ∧ NoAttr K C "book_length" := by
  intro C hC
  simp only [List.mem_cons, List.not_mem_nil, or_false] at hC
  subst hC
  exact ⟨cl_Library T, n1_Library_book_length T⟩
theorem na_Library_letters {K : PySem.W.Frag} {mg : Str → Option Value} (T : Tx K mg) : ∀ C ∈ ([cLibrary] : List Addr), Cls K C ∧ NoAttr K C "letters" := by
  intro C hC
  simp only [List.mem_cons, List.not_mem_nil, or_false] at hC
  subst hC
  exact ⟨cl_Library T, n1_Library_letters T⟩
theorem na_Shelf__kept {K : PySem.W.Frag} {mg : Str → Option Value} (T : Tx K mg) : ∀ C ∈ ([cShelf] : List Addr), Cls K C ∧ NoAttr K C "_kept" := by
  intro C hC
  simp only [List.mem_cons, List.not_mem_nil, or_false] at hC
  subst hC
  exact ⟨cl_Shelf T, n1_Shelf__kept T⟩
theorem na_Shelf_edition {K : PySem.W.Frag} {mg : Str → Option Value} (T : Tx K mg) : ∀ C ∈ ([cShelf] : List Addr), Cls K C ∧ NoAttr K C "edition" := by
  intro C hC
  simp only [List.mem_cons, List.not_mem_nil, or_false] at hC
  subst hC
  exact ⟨cl_Shelf T, n1_Shelf_edition T⟩
theorem me_Library_changed {K : PySem.W.Frag} {mg : Str → Option Value} (T : Tx K mg) : Meth K cLibrary "changed" (He.fAd K ("Library", some "changed")) := by
  have h := He.meth_ok (T.says.fact 31)
  have e := ga_Library T
  show Meth K cLibrary "changed" (He.ma K (He.ga K "Library") "changed")
  rw [e] at h ⊢
  exact h
theorem me_Shelf_put {K : PySem.W.Frag} {mg : Str → Option Value} (T : Tx K mg) : Meth K cShelf "put" (He.fAd K ("Shelf", some "put")) := by
  have h := He.meth_ok (T.says.fact 32)
  have e := ga_Shelf T
  show Meth K cShelf "put" (He.ma K (He.ga K "Shelf") "put")
  rw [e] at h ⊢
  exact h
theorem me_Shelf_at {K : PySem.W.Frag} {mg : Str → Option Value} (T : Tx K mg) : Meth K cShelf "at" (He.fAd K ("Shelf", some "at")) := by
  have h := He.meth_ok (T.says.fact 33)
  have e := ga_Shelf T
  show Meth K cShelf "at" (He.ma K (He.ga K "Shelf") "at")
  rw [e] at h ⊢
  exact h
theorem mk_Library {K : PySem.W.Frag} {mg : Str → Option Value} (T : Tx K mg) : Mk K cLibrary (He.fAd K ("Library", some "__init__")) := by
  have h := He.mkr_ok (T.says.fact 34)
  have e := ga_Library T
  show Mk K cLibrary (He.ma K (He.ga K "Library") "__init__")
  rw [e] at h ⊢
  exact h
theorem mk_Shelf {K : PySem.W.Frag} {mg : Str → Option Value} (T : Tx K mg) : Mk K cShelf (He.fAd K ("Shelf", some "__init__")) := by
  have h := He.mkr_ok (T.says.fact 35)
  have e := ga_Shelf T
  show Mk K cShelf (He.ma K (He.ga K "Shelf") "__init__")
  rw [e] at h ⊢
  exact h
theorem exm_InvalidLibrary {K : PySem.W.Frag} {mg : Str → Option Value} (T : Tx K mg) : ∀ C b, tab_InvalidLibrary.lookup C = some b → PySem.W.exmOne K (.ref C) (.ref cInvalidLibrary) = some b := exmB_ok (T.says.bool 13)
theorem exm_InvalidNumber {K : PySem.W.Frag} {mg : Str → Option Value} (T : Tx K mg) : ∀ C b, tab_InvalidNumber.lookup C = some b → PySem.W.exmOne K (.ref C) (.ref cInvalidNumber) = some b := exmB_ok (T.says.bool 14)
theorem xf1_InvalidLibrary_value {K : PySem.W.Frag} {mg : Str → Option Value} (T : Tx K mg) : XfC K cInvalidLibrary ∧ PySem.W.findIn K (.ref cInvalidLibrary) "value" = some none := by
  obtain ⟨a, b⟩ := He.ba (T.says.bool 15)
  exact ⟨xfB_ok a, He.eqO_ok b⟩
theorem xf1_InvalidNumber_value {K : PySem.W.Frag} {mg : Str → Option Value} (T : Tx K mg) : XfC K cInvalidNumber ∧ PySem.W.findIn K (.ref cInvalidNumber) "value" = some none := by
  obtain ⟨a, b⟩ := He.ba (T.says.bool 16)
  exact ⟨xfB_ok a, He.eqO_ok b⟩
theorem xf_InvalidLibrary_value {K : PySem.W.Frag} {mg : Str → Option Value} (T : Tx K mg) : ∀ C ∈ ([cInvalidLibrary] : List Addr), XfC K C ∧ PySem.W.findIn K (.ref C) "value" = some none := by
  intro C hC
  simp only [List.mem_cons, List.not_mem_nil, or_false] at hC
  subst hC
  exact xf1_InvalidLibrary_value T
theorem xf_InvalidNumber_value {K : PySem.W.Frag} {mg : Str → Option Value} (T : Tx K mg) : ∀ C ∈ ([cInvalidNumber] : List Addr), XfC K C ∧ PySem.W.findIn K (.ref C) "value" = some none := by
  intro C hC
  simp only [List.mem_cons, List.not_mem_nil, or_false] at hC
  subst hC
  exact xf1_InvalidNumber_value T
theorem e_InvalidNumber {w : World} {base : Heap} {K : PySem.W.Frag} {mg : Str → Option Value} (T : Tx K mg) : ErrC PP w K mg base "InvalidNumber" cInvalidNumber ["value"] := err1 (d := er_InvalidNumber) (T.says.err 0) (b_super T) rfl (g_InvalidNumber T) rfl (NdefX.nscope_by (by decide +kernel)) rfl rfl rfl (He.eqO_ok (T.says.bool 17)) (fun _ _ _ _ _ _ _ us hl => match us, hl with | [_, _], _ => rfl) (fun env => rfl)
theorem e_InvalidLibrary {w : World} {base : Heap} {K : PySem.W.Frag} {mg : Str → Option Value} (T : Tx K mg) : ErrC PP w K mg base "InvalidLibrary" cInvalidLibrary ["value"] := err1 (d := er_InvalidLibrary) (T.says.err 1) (b_super T) rfl (g_InvalidLibrary T) rfl (NdefX.nscope_by (by decide +kernel)) rfl rfl rfl (He.eqO_ok (T.says.bool 18)) (fun _ _ _ _ _ _ _ us hl => match us, hl with | [_, _], _ => rfl) (fun env => rfl)
theorem sc__law_draws : FnScope ["script", "many", "rests", "draws", "k", "cell", "at", "mixed"] ["script", "many"] (defScope (top 23)) := ⟨rfl, rfl, rfl, by decide +kernel, rfl, by decide +kernel, by decide +kernel⟩
theorem fk__law_draws {w : World} {base : Heap} {K : PySem.W.Frag} {mg : Str → Option Value} (T : Tx K mg) {fd : FuncData} (F : FunD K d__law_draws.name d__law_draws.qual d__law_draws.params d__law_draws.body d__law_draws.scope (d__law_draws.dvs K) (d__law_draws.kws K) (He.fAd K d__law_draws.at_) fd) : FnOk PP w K mg base (L2.CX PP w) 1 (He.fAd K ("_law_draws", none)) fd ["script", "many"] (toSp K 2 m__law_draws) := by
  refine fn_okD (t := t__law_draws) F sc__law_draws (fun cdv A outer s H E hr => ?_)
  have nd := sc__law_draws.nd
  exact (dss_cons (ds_setLc (ps_setLc (i := 2) (own := [("cell", 5)]) (g := (gName 5)) rfl nd rfl rfl (sw_true rfl rfl rfl (by decide +kernel)) (di_seq (de_var 0)) (L2.blkOk_by (by kernel_rfl)) (fun _ _ _ _ _ => pg_name (i := 5) nd rfl (by first | exact Or.inl rfl | exact Or.inr rfl)) (fun _ _ _ _ _ => dts_nil) (fun _ _ _ _ _ => (de_abs rfl (b_abs T) (da_cons (de_intC rfl (b_int T) (da_cons (de_var 5) da_nil)) da_nil)))) (sgw_gN (by decide)) new_F)
    (dss_cons (ds_set (i := 3) nd rfl (by first | exact Or.inl rfl | exact Or.inr rfl) (de_new (df_lst da_nil)))
    (dss_cons (ds_for (passes_of rfl) rfl (di_range1 rfl (b_range T) (da_cons (de_var 1) da_nil)) (pg_name (i := 4) nd rfl (by first | exact Or.inl rfl | exact Or.inr rfl)) sem_gN (dss_cons (ds_set (i := 5) nd rfl (by first | exact Or.inl rfl | exact Or.inr rfl) (de_var 4))
    (dss_cons (ds_if (dt_cmp op_gt sem_gt (de_len rfl (b_len T) (da_cons (de_var 0) da_nil)) de_int (by rfl)) (dss_cons (ds_set (i := 6) nd rfl (by first | exact Or.inl rfl | exact Or.inr rfl) (de_bin op_modU sem_mod (de_var 4) (de_len rfl (b_len T) (da_cons (de_var 0) da_nil))))
    (dss_cons (ds_set (i := 5) nd rfl (by first | exact Or.inl rfl | exact Or.inr rfl) (de_intC rfl (b_int T) (da_cons (de_ixU (de_var 0) (de_var 6)) da_nil)))
    (dss_one (ds_if (dt_w (dw_and (dt_cmp op_ge sem_ge (de_var 5) (de_bin op_pow sem_pow de_int de_int) (by rfl)) (dw_and1 (dt_cmp op_gt sem_gt (de_ixU (de_var 2) (de_var 6)) de_int (by rfl))))) (dss_cons (ds_expr (de_app (de_var 3) (de_bin op_modU sem_mod (de_intC rfl (b_int T) (da_cons (de_ixU (de_var 2) (de_var 6)) da_nil)) de_int)))
    (dss_cons (ds_setI (de_var 2) (de_var 6) (de_bin op_fdU sem_fd (de_intC rfl (b_int T) (da_cons (de_ixU (de_var 2) (de_var 6)) da_nil)) de_int))
    (dss_one ds_cont))) dss_nil)))) dss_nil)
    (dss_cons (ds_set (i := 7) nd rfl (by first | exact Or.inl rfl | exact Or.inr rfl) (de_bin op_modU sem_mod (de_intC rfl (b_int T) (da_cons (de_bin op_addU sem_add (de_bin op_addU sem_add (de_bin op_mulU sem_mul (de_var 5) de_int) (de_bin op_mulU sem_mul (de_var 4) de_int)) de_int) da_nil)) de_int))
    (dss_cons (ds_set (i := 7) nd rfl (by first | exact Or.inl rfl | exact Or.inr rfl) (de_bin op_modU sem_mod (de_intC rfl (b_int T) (da_cons (de_bin op_addU sem_add (de_bin op_fdU sem_fd (de_bin op_mulU sem_mul (de_var 7) (de_var 7)) de_int) (de_var 7)) da_nil)) de_int))
    (dss_one (ds_expr (de_app (de_var 3) (de_bin op_modU sem_mod (de_intC rfl (b_int T) (da_cons (de_bin op_addU sem_add (de_bin op_fdU sem_fd (de_bin op_mulU sem_mul (de_var 7) (de_var 7)) de_int) (de_bin op_mulU sem_mul (de_var 4) de_int)) da_nil)) de_int)))))))))
    (dss_one (ds_frz 3 (ds_ret (de_var 3)))))))
theorem cal__law_draws {w : World} {base : Heap} {K : PySem.W.Frag} {mg : Str → Option Value} (T : Tx K mg) : Cal PP w K mg base 1 (He.fAd K ("_law_draws", none)) 2 m__law_draws [] := by
  obtain ⟨fd, F⟩ := T.says.def_ 0 (d := d__law_draws)
  have FK := fk__law_draws (w := w) (base := base) T F
  have hb := F.bindsN (ps := ["script", "many"]) (fun _ _ _ _ _ _ us hl => match us, hl with | [_, _], _ => rfl)
  exact ⟨fd, ["script", "many"], [], [], FK, hb, .nil, .nil, F.kp⟩
theorem sc__law_is_field : FnScope ["p", "d"] ["p"] (defScope (top 25)) := ⟨rfl, rfl, rfl, by decide +kernel, rfl, by decide +kernel, by decide +kernel⟩
theorem fk__law_is_field {w : World} {base : Heap} {K : PySem.W.Frag} {mg : Str → Option Value} (T : Tx K mg) {fd : FuncData} (F : FunD K d__law_is_field.name d__law_is_field.qual d__law_is_field.params d__law_is_field.body d__law_is_field.scope (d__law_is_field.dvs K) (d__law_is_field.kws K) (He.fAd K d__law_is_field.at_) fd) : FnOk PP w K mg base (L2.CX PP w) 1 (He.fAd K ("_law_is_field", none)) fd ["p"] (toSp K 1 m__law_is_field) := by
  refine fn_okD (t := t__law_is_field) F sc__law_is_field (fun cdv A outer s H E hr => ?_)
  have nd := sc__law_is_field.nd
  exact (dss_cons (ds_if (dt_w (dw_or (dt_not (dt_tru (de_isi (c := (.ty "int")) (isiF T) (de_var 0) (pc_ty rfl (b_int T) PyProof.Rows.Boot.«int») rfl (b_isinstance T) PyProof.Rows.Boot.«isinstance»))) (dw_or (dt_tru (de_isi (c := (.ty "bool")) (isiF T) (de_var 0) (pc_ty rfl (b_bool T) PyProof.Rows.Boot.«bool») rfl (b_isinstance T) PyProof.Rows.Boot.«isinstance»)) (dw_or (dt_cmp op_lt sem_lt (de_var 0) de_int (by rfl)) (dw_or1 (dt_cmp op_gt sem_gt (de_var 0) de_int (by rfl))))))) (dss_one (ds_ret de_bl)) dss_nil)
    (dss_cons (ds_for (passes_of rfl) rfl (di_range2 rfl (b_range T) (da_cons de_int (da_cons (de_intC rfl (b_int T) (da_cons (de_var 0) da_nil)) da_nil))) (pg_name (i := 1) nd rfl (by first | exact Or.inl rfl | exact Or.inr rfl)) sem_gN (dss_one (ds_if (dt_cmp (op_eqU hr.units) sem_eq (de_bin op_modU sem_mod (de_intC rfl (b_int T) (da_cons (de_var 0) da_nil)) (de_var 1)) de_int (by rfl)) (dss_one (ds_ret de_bl)) dss_nil)))
    (dss_one (ds_ret de_bl))))
theorem cal__law_is_field {w : World} {base : Heap} {K : PySem.W.Frag} {mg : Str → Option Value} (T : Tx K mg) : Cal PP w K mg base 1 (He.fAd K ("_law_is_field", none)) 1 m__law_is_field [] := by
  obtain ⟨fd, F⟩ := T.says.def_ 1 (d := d__law_is_field)
  have FK := fk__law_is_field (w := w) (base := base) T F
  have hb := F.bindsN (ps := ["p"]) (fun _ _ _ _ _ _ us hl => match us, hl with | [_], _ => rfl)
  exact ⟨fd, ["p"], [], [], FK, hb, .nil, .nil, F.kp⟩
theorem sc__law_take : FnScope ["hand", "many", "at", "draws"] ["hand", "many"] (defScope (top 24)) := ⟨rfl, rfl, rfl, by decide +kernel, rfl, by decide +kernel, by decide +kernel⟩
theorem fk__law_take {w : World} {base : Heap} {K : PySem.W.Frag} {mg : Str → Option Value} (T : Tx K mg) {fd : FuncData} (F : FunD K d__law_take.name d__law_take.qual d__law_take.params d__law_take.body d__law_take.scope (d__law_take.dvs K) (d__law_take.kws K) (He.fAd K d__law_take.at_) fd) : FnOk PP w K mg base (L2.CX PP w) 1 (He.fAd K ("_law_take", none)) fd ["hand", "many"] (toSp K 2 m__law_take) := by
  refine fn_okD (t := t__law_take) F sc__law_take (fun cdv A outer s H E hr => ?_)
  have nd := sc__law_take.nd
  exact (dss_cons (ds_set (i := 2) nd rfl (by first | exact Or.inl rfl | exact Or.inr rfl) (de_ixU (de_var 0) de_int))
    (dss_cons (ds_setI (de_var 0) de_int (de_bin op_addU sem_add (de_var 2) de_int))
    (dss_cons (ds_set (i := 3) nd rfl (by first | exact Or.inl rfl | exact Or.inr rfl) (de_ixU (de_var 0) de_int))
    (dss_cons (ds_if (dt_cmp op_ge sem_ge (de_var 2) (de_len rfl (b_len T) (da_cons (de_var 3) da_nil)) (by rfl)) (dss_one (ds_ret de_int)) dss_nil)
    (dss_one (ds_ret (de_bin op_modU sem_mod (de_bin op_fdU sem_fd (de_intC rfl (b_int T) (da_cons (de_ixU (de_var 3) (de_var 2)) da_nil)) de_int) (de_var 1))))))))
theorem cal__law_take {w : World} {base : Heap} {K : PySem.W.Frag} {mg : Str → Option Value} (T : Tx K mg) : Cal PP w K mg base 1 (He.fAd K ("_law_take", none)) 2 m__law_take [] := by
  obtain ⟨fd, F⟩ := T.says.def_ 2 (d := d__law_take)
  have FK := fk__law_take (w := w) (base := base) T F
  have hb := F.bindsN (ps := ["hand", "many"]) (fun _ _ _ _ _ _ us hl => match us, hl with | [_, _], _ => rfl)
  exact ⟨fd, ["hand", "many"], [], [], FK, hb, .nil, .nil, F.kp⟩
theorem sc__law_field : FnScope ["hand", "primes", "p"] ["hand"] (defScope (top 26)) := ⟨rfl, rfl, rfl, by decide +kernel, rfl, by decide +kernel, by decide +kernel⟩
theorem fk__law_field {w : World} {base : Heap} {K : PySem.W.Frag} {mg : Str → Option Value} (T : Tx K mg) {fd : FuncData} (F : FunD K d__law_field.name d__law_field.qual d__law_field.params d__law_field.body d__law_field.scope (d__law_field.dvs K) (d__law_field.kws K) (He.fAd K d__law_field.at_) fd) : FnOk PP w K mg base (L2.CX PP w) 2 (He.fAd K ("_law_field", none)) fd ["hand"] (toSp K 1 m__law_field) := by
  refine fn_okD (t := t__law_field) F sc__law_field (fun cdv A outer s H E hr => ?_)
  have nd := sc__law_field.nd
  exact (dss_cons (ds_setLc (ps_setLc (i := 1) (own := [("p", 2)]) (g := (gName 2)) rfl nd rfl rfl (sw_true rfl rfl rfl (by decide +kernel)) (di_range2 rfl (b_range T) (da_cons de_int (da_cons de_int da_nil))) (L2.blkOk_by (by kernel_rfl)) (fun _ _ _ _ _ => pg_name (i := 2) nd rfl (by first | exact Or.inl rfl | exact Or.inr rfl)) (fun _ _ _ _ _ => dts_one (dt_tru (de_callC (cal__law_is_field T) (hr.mono (by decide)) takes0 rfl (g__law_is_field T) (da_cons (de_var 2) da_nil)))) (fun _ _ _ _ _ => (de_var 2))) (sgw_gN (by decide)) fz_F)
    (dss_one (ds_ret (de_ixU (de_var 1) (de_ixU (de_fz (df_lst (da_cons (de_callC (cal__law_take T) (hr.mono (by decide)) (takes_of rfl rfl rfl rfl) rfl (g__law_take T) (da_cons (de_var 0) (da_cons de_int da_nil))) (da_cons (de_callC (cal__law_take T) (hr.mono (by decide)) (takes_of rfl rfl rfl rfl) rfl (g__law_take T) (da_cons (de_var 0) (da_cons de_int da_nil))) da_nil)))) (de_callC (cal__law_take T) (hr.mono (by decide)) (takes_of rfl rfl rfl rfl) rfl (g__law_take T) (da_cons (de_var 0) (da_cons de_int da_nil))))))))
theorem cal__law_field {w : World} {base : Heap} {K : PySem.W.Frag} {mg : Str → Option Value} (T : Tx K mg) : Cal PP w K mg base 2 (He.fAd K ("_law_field", none)) 1 m__law_field [] := by
  obtain ⟨fd, F⟩ := T.says.def_ 3 (d := d__law_field)
  have FK := fk__law_field (w := w) (base := base) T F
  have hb := F.bindsN (ps := ["hand"]) (fun _ _ _ _ _ _ us hl => match us, hl with | [_], _ => rfl)
  exact ⟨fd, ["hand"], [], [], FK, hb, .nil, .nil, F.kp⟩
theorem sc__law_books : FnScope ["hand", "p", "count", "size", "k", "j"] ["hand", "p", "count", "size"] (defScope (top 27)) := ⟨rfl, rfl, rfl, by decide +kernel, rfl, by decide +kernel, by decide +kernel⟩
theorem fk__law_books {w : World} {base : Heap} {K : PySem.W.Frag} {mg : Str → Option Value} (T : Tx K mg) {fd : FuncData} (F : FunD K d__law_books.name d__law_books.qual d__law_books.params d__law_books.body d__law_books.scope (d__law_books.dvs K) (d__law_books.kws K) (He.fAd K d__law_books.at_) fd) : FnOk PP w K mg base (L2.CX PP w) 2 (He.fAd K ("_law_books", none)) fd ["hand", "p", "count", "size"] (toSp K 4 m__law_books) := by
  refine fn_okD (t := t__law_books) F sc__law_books (fun cdv A outer s H E hr => ?_)
  have nd := sc__law_books.nd
  exact (dss_one (ds_ret (de_tupleC rfl (b_tuple T) (da_cons (de_fz (df_lc (own := [("k", 4)]) (g := (gName 4)) rfl nd (di_range1 rfl (b_range T) (da_cons (de_var 2) da_nil)) (L2.blkOk_by (by kernel_rfl)) (sgw_gN (by decide)) (fun _ _ _ _ _ => pg_name (i := 4) nd rfl (by first | exact Or.inl rfl | exact Or.inr rfl)) (fun _ _ _ _ _ => dts_nil) (fun _ _ _ _ _ => (de_tupleC rfl (b_tuple T) (da_cons (de_fz (df_lc (own := [("j", 5)]) (g := (gName 5)) rfl nd (di_range1 rfl (b_range T) (da_cons (de_var 3) da_nil)) (L2.blkOk_by (by kernel_rfl)) (sgw_gN (by decide)) (fun _ _ _ _ _ => pg_name (i := 5) nd rfl (by first | exact Or.inl rfl | exact Or.inr rfl)) (fun _ _ _ _ _ => dts_nil) (fun _ _ _ _ _ => (de_callC (cal__law_take T) (hr.mono (by decide)) takes0 rfl (g__law_take T) (da_cons (de_var 0) (da_cons (de_var 1) da_nil)))))) da_nil))))) da_nil))))
theorem cal__law_books {w : World} {base : Heap} {K : PySem.W.Frag} {mg : Str → Option Value} (T : Tx K mg) : Cal PP w K mg base 2 (He.fAd K ("_law_books", none)) 4 m__law_books [] := by
  obtain ⟨fd, F⟩ := T.says.def_ 4 (d := d__law_books)
  have FK := fk__law_books (w := w) (base := base) T F
  have hb := F.bindsN (ps := ["hand", "p", "count", "size"]) (fun _ _ _ _ _ _ us hl => match us, hl with | [_, _, _, _], _ => rfl)
  exact ⟨fd, ["hand", "p", "count", "size"], [], [], FK, hb, .nil, .nil, F.kp⟩
theorem sc_is_integer_integers : FnScope ["value"] ["value"] (defScope (top 14)) := ⟨rfl, rfl, rfl, by decide +kernel, rfl, by decide +kernel, by decide +kernel⟩
theorem fk_is_integer_integers {w : World} {base : Heap} {K : PySem.W.Frag} {mg : Str → Option Value} (T : Tx K mg) {fd : FuncData} (F : FunD K d_is_integer_integers.name d_is_integer_integers.qual d_is_integer_integers.params d_is_integer_integers.body d_is_integer_integers.scope (d_is_integer_integers.dvs K) (d_is_integer_integers.kws K) (He.fAd K d_is_integer_integers.at_) fd) : FnOk PP w K mg base (L2.CX PP w) 1 (He.fAd K ("is_integer_integers", none)) fd ["value"] (toSp K 1 m_is_integer_integers) := by
  refine fn_okD (t := t_is_integer_integers) F sc_is_integer_integers (fun cdv A outer s H E hr => ?_)
  have nd := sc_is_integer_integers.nd
  exact (dss_one (ds_ret (de_and (de_isi (c := (.ty "int")) (isiF T) (de_var 0) (pc_ty rfl (b_int T) PyProof.Rows.Boot.«int») rfl (b_isinstance T) PyProof.Rows.Boot.«isinstance») (de_one (de_not (de_isi (c := (.ty "bool")) (isiF T) (de_var 0) (pc_ty rfl (b_bool T) PyProof.Rows.Boot.«bool») rfl (b_isinstance T) PyProof.Rows.Boot.«isinstance»))))))
theorem cal_is_integer_integers {w : World} {base : Heap} {K : PySem.W.Frag} {mg : Str → Option Value} (T : Tx K mg) : Cal PP w K mg base 1 (He.fAd K ("is_integer_integers", none)) 1 m_is_integer_integers [] := by
  obtain ⟨fd, F⟩ := T.says.def_ 5 (d := d_is_integer_integers)
  have FK := fk_is_integer_integers (w := w) (base := base) T F
  have hb := F.bindsN (ps := ["value"]) (fun _ _ _ _ _ _ us hl => match us, hl with | [_], _ => rfl)
  exact ⟨fd, ["value"], [], [], FK, hb, .nil, .nil, F.kp⟩
theorem sc_is_field : FnScope ["p"] ["p"] (defScope (top 18)) := ⟨rfl, rfl, rfl, by decide +kernel, rfl, by decide +kernel, by decide +kernel⟩
theorem fk_is_field {w : World} {base : Heap} {K : PySem.W.Frag} {mg : Str → Option Value} (T : Tx K mg) {fd : FuncData} (F : FunD K d_is_field.name d_is_field.qual d_is_field.params d_is_field.body d_is_field.scope (d_is_field.dvs K) (d_is_field.kws K) (He.fAd K d_is_field.at_) fd) : FnOk PP w K mg base (L2.CX PP w) 2 (He.fAd K ("is_field", none)) fd ["p"] (toSp K 1 m_is_field) := by
  refine fn_okD (t := t_is_field) F sc_is_field (fun cdv A outer s H E hr => ?_)
  have nd := sc_is_field.nd
  exact (dss_one (ds_ret (de_and (de_callC (cal_is_integer_integers T) (hr.mono (by decide)) (takes_of rfl rfl rfl rfl) rfl (g_is_integer_integers T) (da_cons (de_var 0) da_nil)) (de_one (de_cmp op_inU sem_in (de_var 0) (de_glob (v := .ref (He.ga K "FIELDS")) rfl (g_FIELDS T) rfl (kr_FIELDS T)) (by rfl))))))
theorem cal_is_field {w : World} {base : Heap} {K : PySem.W.Frag} {mg : Str → Option Value} (T : Tx K mg) : Cal PP w K mg base 2 (He.fAd K ("is_field", none)) 1 m_is_field [] := by
  obtain ⟨fd, F⟩ := T.says.def_ 6 (d := d_is_field)
  have FK := fk_is_field (w := w) (base := base) T F
  have hb := F.bindsN (ps := ["p"]) (fun _ _ _ _ _ _ us hl => match us, hl with | [_], _ => rfl)
  exact ⟨fd, ["p"], [], [], FK, hb, .nil, .nil, F.kp⟩
theorem sc_is_sequence : FnScope ["value"] ["value"] (defScope (top 5)) := ⟨rfl, rfl, rfl, by decide +kernel, rfl, by decide +kernel, by decide +kernel⟩
theorem fk_is_sequence {w : World} {base : Heap} {K : PySem.W.Frag} {mg : Str → Option Value} (T : Tx K mg) {fd : FuncData} (F : FunD K d_is_sequence.name d_is_sequence.qual d_is_sequence.params d_is_sequence.body d_is_sequence.scope (d_is_sequence.dvs K) (d_is_sequence.kws K) (He.fAd K d_is_sequence.at_) fd) : FnOk PP w K mg base (L2.CX PP w) 1 (He.fAd K ("is_sequence", none)) fd ["value"] (toSp K 1 m_is_sequence) := by
  refine fn_okD (t := t_is_sequence) F sc_is_sequence (fun cdv A outer s H E hr => ?_)
  have nd := sc_is_sequence.nd
  exact (dss_one (ds_ret (de_isiT (c := (.ty "list")) (cs := [(.ty "tuple")]) (isiF T) (by decide) (de_var 0) (pcs_cons (pc_ty rfl (b_list T) PyProof.Rows.Boot.«list») (pcs_cons (pc_ty rfl (b_tuple T) PyProof.Rows.Boot.«tuple») pcs_nil)) rfl (b_isinstance T) PyProof.Rows.Boot.«isinstance»)))
theorem cal_is_sequence {w : World} {base : Heap} {K : PySem.W.Frag} {mg : Str → Option Value} (T : Tx K mg) : Cal PP w K mg base 1 (He.fAd K ("is_sequence", none)) 1 m_is_sequence [] := by
  obtain ⟨fd, F⟩ := T.says.def_ 7 (d := d_is_sequence)
  have FK := fk_is_sequence (w := w) (base := base) T F
  have hb := F.bindsN (ps := ["value"]) (fun _ _ _ _ _ _ us hl => match us, hl with | [_], _ => rfl)
  exact ⟨fd, ["value"], [], [], FK, hb, .nil, .nil, F.kp⟩
theorem sc_is_integer_bookplaces : FnScope ["value"] ["value"] (defScope (top 2)) := ⟨rfl, rfl, rfl, by decide +kernel, rfl, by decide +kernel, by decide +kernel⟩
theorem fk_is_integer_bookplaces {w : World} {base : Heap} {K : PySem.W.Frag} {mg : Str → Option Value} (T : Tx K mg) {fd : FuncData} (F : FunD K d_is_integer_bookplaces.name d_is_integer_bookplaces.qual d_is_integer_bookplaces.params d_is_integer_bookplaces.body d_is_integer_bookplaces.scope (d_is_integer_bookplaces.dvs K) (d_is_integer_bookplaces.kws K) (He.fAd K d_is_integer_bookplaces.at_) fd) : FnOk PP w K mg base (L2.CX PP w) 1 (He.fAd K ("is_integer_bookplaces", none)) fd ["value"] (toSp K 1 m_is_integer_bookplaces) := by
  refine fn_okD (t := t_is_integer_bookplaces) F sc_is_integer_bookplaces (fun cdv A outer s H E hr => ?_)
  have nd := sc_is_integer_bookplaces.nd
  exact (dss_one (ds_ret (de_and (de_isi (c := (.ty "int")) (isiF T) (de_var 0) (pc_ty rfl (b_int T) PyProof.Rows.Boot.«int») rfl (b_isinstance T) PyProof.Rows.Boot.«isinstance») (de_one (de_not (de_isi (c := (.ty "bool")) (isiF T) (de_var 0) (pc_ty rfl (b_bool T) PyProof.Rows.Boot.«bool») rfl (b_isinstance T) PyProof.Rows.Boot.«isinstance»))))))
theorem cal_is_integer_bookplaces {w : World} {base : Heap} {K : PySem.W.Frag} {mg : Str → Option Value} (T : Tx K mg) : Cal PP w K mg base 1 (He.fAd K ("is_integer_bookplaces", none)) 1 m_is_integer_bookplaces [] := by
  obtain ⟨fd, F⟩ := T.says.def_ 8 (d := d_is_integer_bookplaces)
  have FK := fk_is_integer_bookplaces (w := w) (base := base) T F
  have hb := F.bindsN (ps := ["value"]) (fun _ _ _ _ _ _ us hl => match us, hl with | [_], _ => rfl)
  exact ⟨fd, ["value"], [], [], FK, hb, .nil, .nil, F.kp⟩
theorem sc_is_place : FnScope ["value", "count"] ["value", "count"] (defScope (top 4)) := ⟨rfl, rfl, rfl, by decide +kernel, rfl, by decide +kernel, by decide +kernel⟩
theorem fk_is_place {w : World} {base : Heap} {K : PySem.W.Frag} {mg : Str → Option Value} (T : Tx K mg) {fd : FuncData} (F : FunD K d_is_place.name d_is_place.qual d_is_place.params d_is_place.body d_is_place.scope (d_is_place.dvs K) (d_is_place.kws K) (He.fAd K d_is_place.at_) fd) : FnOk PP w K mg base (L2.CX PP w) 2 (He.fAd K ("is_place", none)) fd ["value", "count"] (toSp K 2 m_is_place) := by
  refine fn_okD (t := t_is_place) F sc_is_place (fun cdv A outer s H E hr => ?_)
  have nd := sc_is_place.nd
  exact (dss_one (ds_ret (de_and (de_callC (cal_is_integer_bookplaces T) (hr.mono (by decide)) (takes_of rfl rfl rfl rfl) rfl (g_is_integer_bookplaces T) (da_cons (de_var 0) da_nil)) (de_one (de_chain op_le sem_le op_lt sem_lt de_int (de_var 0) (de_var 1))))))
theorem cal_is_place {w : World} {base : Heap} {K : PySem.W.Frag} {mg : Str → Option Value} (T : Tx K mg) : Cal PP w K mg base 2 (He.fAd K ("is_place", none)) 2 m_is_place [] := by
  obtain ⟨fd, F⟩ := T.says.def_ 9 (d := d_is_place)
  have FK := fk_is_place (w := w) (base := base) T F
  have hb := F.bindsN (ps := ["value", "count"]) (fun _ _ _ _ _ _ us hl => match us, hl with | [_, _], _ => rfl)
  exact ⟨fd, ["value", "count"], [], [], FK, hb, .nil, .nil, F.kp⟩
theorem sc_are_letters : FnScope ["p", "value", "letter"] ["p", "value"] (defScope (top 6)) := ⟨rfl, rfl, rfl, by decide +kernel, rfl, by decide +kernel, by decide +kernel⟩
theorem fk_are_letters {w : World} {base : Heap} {K : PySem.W.Frag} {mg : Str → Option Value} (T : Tx K mg) {fd : FuncData} (F : FunD K d_are_letters.name d_are_letters.qual d_are_letters.params d_are_letters.body d_are_letters.scope (d_are_letters.dvs K) (d_are_letters.kws K) (He.fAd K d_are_letters.at_) fd) : FnOk PP w K mg base (L2.CX PP w) 3 (He.fAd K ("are_letters", none)) fd ["p", "value"] (toSp K 2 m_are_letters) := by
  refine fn_okD (t := t_are_letters) F sc_are_letters (fun cdv A outer s H E hr => ?_)
  have nd := sc_are_letters.nd
  exact (dss_cons (ds_if (dt_not (dt_tru (de_callC (cal_is_sequence T) (hr.mono (by decide)) (takes_of rfl rfl rfl rfl) rfl (g_is_sequence T) (da_cons (de_var 1) da_nil)))) (dss_one (ds_ret de_bl)) dss_nil)
    (dss_cons (ds_for (passes_of rfl) rfl (di_seq (de_var 1)) (pg_name (i := 2) nd rfl (by first | exact Or.inl rfl | exact Or.inr rfl)) sem_gN (dss_one (ds_if (dt_not (dt_tru (de_callC (cal_is_place T) (hr.mono (by decide)) (takes_of rfl rfl rfl rfl) rfl (g_is_place T) (da_cons (de_var 2) (da_cons (de_var 0) da_nil))))) (dss_one (ds_ret de_bl)) dss_nil)))
    (dss_one (ds_ret de_bl))))
theorem cal_are_letters {w : World} {base : Heap} {K : PySem.W.Frag} {mg : Str → Option Value} (T : Tx K mg) : Cal PP w K mg base 3 (He.fAd K ("are_letters", none)) 2 m_are_letters [] := by
  obtain ⟨fd, F⟩ := T.says.def_ 10 (d := d_are_letters)
  have FK := fk_are_letters (w := w) (base := base) T F
  have hb := F.bindsN (ps := ["p", "value"]) (fun _ _ _ _ _ _ us hl => match us, hl with | [_, _], _ => rfl)
  exact ⟨fd, ["p", "value"], [], [], FK, hb, .nil, .nil, F.kp⟩
theorem sc__are_books : FnScope ["p", "books", "book"] ["p", "books"] (defScope (top 20)) := ⟨rfl, rfl, rfl, by decide +kernel, rfl, by decide +kernel, by decide +kernel⟩
theorem fk__are_books {w : World} {base : Heap} {K : PySem.W.Frag} {mg : Str → Option Value} (T : Tx K mg) {fd : FuncData} (F : FunD K d__are_books.name d__are_books.qual d__are_books.params d__are_books.body d__are_books.scope (d__are_books.dvs K) (d__are_books.kws K) (He.fAd K d__are_books.at_) fd) : FnOk PP w K mg base (L2.CX PP w) 4 (He.fAd K ("_are_books", none)) fd ["p", "books"] (toSp K 2 m__are_books) := by
  refine fn_okD (t := t__are_books) F sc__are_books (fun cdv A outer s H E hr => ?_)
  have nd := sc__are_books.nd
  exact (dss_cons (ds_if (dt_w (dw_or (dt_not (dt_tru (de_callC (cal_is_sequence T) (hr.mono (by decide)) (takes_of rfl rfl rfl rfl) rfl (g_is_sequence T) (da_cons (de_var 1) da_nil)))) (dw_or1 (dt_cmp (op_eqU hr.units) sem_eq (de_len rfl (b_len T) (da_cons (de_var 1) da_nil)) de_int (by rfl))))) (dss_one (ds_ret de_bl)) dss_nil)
    (dss_cons (ds_for (passes_of rfl) rfl (di_seq (de_var 1)) (pg_name (i := 2) nd rfl (by first | exact Or.inl rfl | exact Or.inr rfl)) sem_gN (dss_one (ds_if (dt_w (dw_or (dt_not (dt_tru (de_callC (cal_are_letters T) (hr.mono (by decide)) (takes_of rfl rfl rfl rfl) rfl (g_are_letters T) (da_cons (de_var 0) (da_cons (de_var 2) da_nil))))) (dw_or (dt_cmp (op_eqU hr.units) sem_eq (de_len rfl (b_len T) (da_cons (de_var 2) da_nil)) de_int (by rfl)) (dw_or1 (dt_cmp (op_neU hr.units) sem_ne (de_len rfl (b_len T) (da_cons (de_var 2) da_nil)) (de_len rfl (b_len T) (da_cons (de_ixU (de_var 1) de_int) da_nil)) (by rfl)))))) (dss_one (ds_ret de_bl)) dss_nil)))
    (dss_one (ds_ret de_bl))))
theorem cal__are_books {w : World} {base : Heap} {K : PySem.W.Frag} {mg : Str → Option Value} (T : Tx K mg) : Cal PP w K mg base 4 (He.fAd K ("_are_books", none)) 2 m__are_books [] := by
  obtain ⟨fd, F⟩ := T.says.def_ 11 (d := d__are_books)
  have FK := fk__are_books (w := w) (base := base) T F
  have hb := F.bindsN (ps := ["p", "books"]) (fun _ _ _ _ _ _ us hl => match us, hl with | [_, _], _ => rfl)
  exact ⟨fd, ["p", "books"], [], [], FK, hb, .nil, .nil, F.kp⟩
theorem sc_Library___init__ : FnScope ["self", "p", "books", "book", "letter"] ["self", "p", "books"] (defScope (mth 21 0)) := ⟨rfl, rfl, rfl, by decide +kernel, rfl, by decide +kernel, by decide +kernel⟩
theorem fk_Library___init__ {w : World} {base : Heap} {K : PySem.W.Frag} {mg : Str → Option Value} (T : Tx K mg) {fd : FuncData} (F : FunD K d_Library___init__.name d_Library___init__.qual d_Library___init__.params d_Library___init__.body d_Library___init__.scope (d_Library___init__.dvs K) (d_Library___init__.kws K) (He.fAd K d_Library___init__.at_) fd) : FnOk PP w K mg base (L2.CX PP w) 5 (He.fAd K ("Library", some "__init__")) fd ["self", "p", "books"] (toSp K 3 m_Library___init__) := by
  refine fn_okD (t := t_Library___init__) F sc_Library___init__ (fun cdv A outer s H E hr => ?_)
  have nd := sc_Library___init__.nd
  exact (dss_cons (ds_if (dt_not (dt_tru (de_callC (cal_is_field T) (hr.mono (by decide)) (takes_of rfl rfl rfl rfl) rfl (g_is_field T) (da_cons (de_var 1) da_nil)))) (dss_one (ds_raise (e_InvalidNumber T) (hr.mono (by decide)) rfl (takes_of rfl rfl rfl rfl) rfl (da_cons (de_var 1) da_nil))) dss_nil)
    (dss_cons (ds_if (dt_not (dt_tru (de_callC (cal__are_books T) (hr.mono (by decide)) (takes_of rfl rfl rfl rfl) rfl (g__are_books T) (da_cons (de_var 1) (da_cons (de_var 2) da_nil))))) (dss_one (ds_raise (e_InvalidLibrary T) (hr.mono (by decide)) rfl (takes_of rfl rfl rfl rfl) rfl (da_cons (de_var 2) da_nil))) dss_nil)
    (dss_cons (ds_setF (Cs := [cLibrary]) (na_Library_p T) (de_var 0) (de_var 1))
    (dss_cons (ds_setF (Cs := [cLibrary]) (na_Library_books T) (de_var 0) (de_tupleC rfl (b_tuple T) (da_cons (de_fz (df_lc (own := [("book", 3)]) (g := (gName 3)) rfl nd (di_seq (de_var 2)) (L2.blkOk_by (by kernel_rfl)) (sgw_gN (by decide)) (fun _ _ _ _ _ => pg_name (i := 3) nd rfl (by first | exact Or.inl rfl | exact Or.inr rfl)) (fun _ _ _ _ _ => dts_nil) (fun _ _ _ _ _ => (de_tupleC rfl (b_tuple T) (da_cons (de_var 3) da_nil))))) da_nil)))
    (dss_cons (ds_setF (Cs := [cLibrary]) (na_Library_book_count T) (de_var 0) (de_len rfl (b_len T) (da_cons (de_fld (Cs := [cLibrary]) (na_Library_books T) (de_var 0)) da_nil)))
    (dss_cons (ds_setF (Cs := [cLibrary]) (na_Library_book_length T) (de_var 0) (de_len rfl (b_len T) (da_cons (de_ixU (de_fld (Cs := [cLibrary]) (na_Library_books T) (de_var 0)) de_int) da_nil)))
    (dss_one (ds_setF (Cs := [cLibrary]) (na_Library_letters T) (de_var 0) (de_tupleC rfl (b_tuple T) (da_cons (de_fz (df_lc2 (own := [("book", 3), ("letter", 4)]) (vs1 := [4]) (g := (gName 3)) (g1 := (gName 4)) rfl nd (di_seq (de_fld (Cs := [cLibrary]) (na_Library_books T) (de_var 0))) (L2.blkOk_by (by kernel_rfl)) (by decide) (sgw_gN (by decide)) (sgw_gN (by decide)) (fun _ _ _ _ _ => pg_name (i := 3) nd rfl (by first | exact Or.inl rfl | exact Or.inr rfl)) (fun _ _ _ _ _ => dts_nil) (fun _ _ _ _ _ => (di_seq (de_var 3))) (fun _ _ _ _ _ => pg_name (i := 4) nd rfl (by first | exact Or.inl rfl | exact Or.inr rfl)) (fun _ _ _ _ _ => dts_nil) (fun _ _ _ _ _ => (de_var 4)))) da_nil))))))))))
theorem cal_Library___init__ {w : World} {base : Heap} {K : PySem.W.Frag} {mg : Str → Option Value} (T : Tx K mg) : Cal PP w K mg base 5 (He.fAd K ("Library", some "__init__")) 3 m_Library___init__ [] := by
  obtain ⟨fd, F⟩ := T.says.def_ 12 (d := d_Library___init__)
  have FK := fk_Library___init__ (w := w) (base := base) T F
  have hb := F.bindsN (ps := ["self", "p", "books"]) (fun _ _ _ _ _ _ us hl => match us, hl with | [_, _, _], _ => rfl)
  exact ⟨fd, ["self", "p", "books"], [], [], FK, hb, .nil, .nil, F.kp⟩
theorem sc_Shelf___init__ : FnScope ["self", "library"] ["self", "library"] (defScope (mth 12 0)) := ⟨rfl, rfl, rfl, by decide +kernel, rfl, by decide +kernel, by decide +kernel⟩
theorem fk_Shelf___init__ {w : World} {base : Heap} {K : PySem.W.Frag} {mg : Str → Option Value} (T : Tx K mg) {fd : FuncData} (F : FunD K d_Shelf___init__.name d_Shelf___init__.qual d_Shelf___init__.params d_Shelf___init__.body d_Shelf___init__.scope (d_Shelf___init__.dvs K) (d_Shelf___init__.kws K) (He.fAd K d_Shelf___init__.at_) fd) : FnOk PP w K mg base (L2.CX PP w) 1 (He.fAd K ("Shelf", some "__init__")) fd ["self", "library"] (toSp K 2 m_Shelf___init__) := by
  refine fn_okD (t := t_Shelf___init__) F sc_Shelf___init__ (fun cdv A outer s H E hr => ?_)
  have nd := sc_Shelf___init__.nd
  exact (dss_cons (ds_setF (Cs := [cShelf]) (na_Shelf__kept T) (de_var 0) (de_new (df_lst (da_cons (de_var 1) da_nil))))
    (dss_one (ds_setF (Cs := [cShelf]) (na_Shelf_edition T) (de_var 0) de_int)))
theorem cal_Shelf___init__ {w : World} {base : Heap} {K : PySem.W.Frag} {mg : Str → Option Value} (T : Tx K mg) : Cal PP w K mg base 1 (He.fAd K ("Shelf", some "__init__")) 2 m_Shelf___init__ [] := by
  obtain ⟨fd, F⟩ := T.says.def_ 13 (d := d_Shelf___init__)
  have FK := fk_Shelf___init__ (w := w) (base := base) T F
  have hb := F.bindsN (ps := ["self", "library"]) (fun _ _ _ _ _ _ us hl => match us, hl with | [_, _], _ => rfl)
  exact ⟨fd, ["self", "library"], [], [], FK, hb, .nil, .nil, F.kp⟩
theorem sc_Library_changed : FnScope ["self", "k", "book"] ["self", "k", "book"] (defScope (mth 21 3)) := ⟨rfl, rfl, rfl, by decide +kernel, rfl, by decide +kernel, by decide +kernel⟩
theorem fk_Library_changed {w : World} {base : Heap} {K : PySem.W.Frag} {mg : Str → Option Value} (T : Tx K mg) {fd : FuncData} (F : FunD K d_Library_changed.name d_Library_changed.qual d_Library_changed.params d_Library_changed.body d_Library_changed.scope (d_Library_changed.dvs K) (d_Library_changed.kws K) (He.fAd K d_Library_changed.at_) fd) : FnOk PP w K mg base (L2.CX PP w) 7 (He.fAd K ("Library", some "changed")) fd ["self", "k", "book"] (toSp K 3 m_Library_changed) := by
  refine fn_okD (t := t_Library_changed) F sc_Library_changed (fun cdv A outer s H E hr => ?_)
  have nd := sc_Library_changed.nd
  exact (dss_cons (ds_if (dt_not (dt_tru (de_callC (cal_is_place T) (hr.mono (by decide)) (takes_of rfl rfl rfl rfl) rfl (g_is_place T) (da_cons (de_var 1) (da_cons (de_fld (Cs := [cLibrary]) (na_Library_book_count T) (de_var 0)) da_nil))))) (dss_one (ds_raise (e_InvalidNumber T) (hr.mono (by decide)) rfl (takes_of rfl rfl rfl rfl) rfl (da_cons (de_var 1) da_nil))) dss_nil)
    (dss_cons (ds_if (dt_w (dw_or (dt_not (dt_tru (de_callC (cal_are_letters T) (hr.mono (by decide)) (takes_of rfl rfl rfl rfl) rfl (g_are_letters T) (da_cons (de_fld (Cs := [cLibrary]) (na_Library_p T) (de_var 0)) (da_cons (de_var 2) da_nil))))) (dw_or1 (dt_cmp (op_neU hr.units) sem_ne (de_len rfl (b_len T) (da_cons (de_var 2) da_nil)) (de_fld (Cs := [cLibrary]) (na_Library_book_length T) (de_var 0)) (by rfl))))) (dss_one (ds_raise (e_InvalidLibrary T) (hr.mono (by decide)) rfl (takes_of rfl rfl rfl rfl) rfl (da_cons (de_var 2) da_nil))) dss_nil)
    (dss_one (ds_ret (de_makeFC (cal_Library___init__ T) (mk_Library T) (hr.mono (by decide)) (takes_of rfl rfl rfl rfl) rfl (g_Library T) (da_cons (de_fld (Cs := [cLibrary]) (na_Library_p T) (de_var 0)) (da_cons (de_bin op_addU sem_add (de_bin op_addU sem_add (de_sl (de_fld (Cs := [cLibrary]) (na_Library_books T) (de_var 0)) do_none (do_some (de_var 1))) (de_tup (da_cons (de_tupleC rfl (b_tuple T) (da_cons (de_var 2) da_nil)) da_nil))) (de_sl (de_fld (Cs := [cLibrary]) (na_Library_books T) (de_var 0)) (do_some (de_bin op_addU sem_add (de_var 1) de_int)) do_none)) da_nil)))))))
theorem cal_Library_changed {w : World} {base : Heap} {K : PySem.W.Frag} {mg : Str → Option Value} (T : Tx K mg) : Cal PP w K mg base 7 (He.fAd K ("Library", some "changed")) 3 m_Library_changed [] := by
  obtain ⟨fd, F⟩ := T.says.def_ 14 (d := d_Library_changed)
  have FK := fk_Library_changed (w := w) (base := base) T F
  have hb := F.bindsN (ps := ["self", "k", "book"]) (fun _ _ _ _ _ _ us hl => match us, hl with | [_, _, _], _ => rfl)
  exact ⟨fd, ["self", "k", "book"], [], [], FK, hb, .nil, .nil, F.kp⟩
theorem sc_Shelf_put : FnScope ["self", "k", "book", "library"] ["self", "k", "book"] (defScope (mth 12 1)) := ⟨rfl, rfl, rfl, by decide +kernel, rfl, by decide +kernel, by decide +kernel⟩
theorem fk_Shelf_put {w : World} {base : Heap} {K : PySem.W.Frag} {mg : Str → Option Value} (T : Tx K mg) {fd : FuncData} (F : FunD K d_Shelf_put.name d_Shelf_put.qual d_Shelf_put.params d_Shelf_put.body d_Shelf_put.scope (d_Shelf_put.dvs K) (d_Shelf_put.kws K) (He.fAd K d_Shelf_put.at_) fd) : FnOk PP w K mg base (L2.CX PP w) 8 (He.fAd K ("Shelf", some "put")) fd ["self", "k", "book"] (toSp K 3 m_Shelf_put) := by
  refine fn_okD (t := t_Shelf_put) F sc_Shelf_put (fun cdv A outer s H E hr => ?_)
  have nd := sc_Shelf_put.nd
  exact (dss_cons (ds_set (i := 3) nd rfl (by first | exact Or.inl rfl | exact Or.inr rfl) (de_methC (pl := _) (cal_Library_changed T) (de_ixU (de_fld (Cs := [cShelf]) (na_Shelf__kept T) (de_var 0)) (de_fld (Cs := [cShelf]) (na_Shelf_edition T) (de_var 0))) (cl_Library T) (me_Library_changed T) (hr.mono (by decide)) (takes_of rfl rfl rfl rfl) (da_cons (de_var 1) (da_cons (de_var 2) da_nil))))
    (dss_cons (ds_expr (de_app (de_fld (Cs := [cShelf]) (na_Shelf__kept T) (de_var 0)) (de_var 3)))
    (dss_cons (ds_setF (Cs := [cShelf]) (na_Shelf_edition T) (de_var 0) (de_bin op_addU sem_add (de_fld (Cs := [cShelf]) (na_Shelf_edition T) (de_var 0)) de_int))
    (dss_one (ds_ret (de_fld (Cs := [cShelf]) (na_Shelf_edition T) (de_var 0)))))))
theorem cal_Shelf_put {w : World} {base : Heap} {K : PySem.W.Frag} {mg : Str → Option Value} (T : Tx K mg) : Cal PP w K mg base 8 (He.fAd K ("Shelf", some "put")) 3 m_Shelf_put [] := by
  obtain ⟨fd, F⟩ := T.says.def_ 15 (d := d_Shelf_put)
  have FK := fk_Shelf_put (w := w) (base := base) T F
  have hb := F.bindsN (ps := ["self", "k", "book"]) (fun _ _ _ _ _ _ us hl => match us, hl with | [_, _, _], _ => rfl)
  exact ⟨fd, ["self", "k", "book"], [], [], FK, hb, .nil, .nil, F.kp⟩
theorem sc__law_put : FnScope ["shelf", "k", "book", "e"] ["shelf", "k", "book"] (defScope (top 30)) := ⟨rfl, rfl, rfl, by decide +kernel, rfl, by decide +kernel, by decide +kernel⟩
theorem fk__law_put {w : World} {base : Heap} {K : PySem.W.Frag} {mg : Str → Option Value} (T : Tx K mg) {fd : FuncData} (F : FunD K d__law_put.name d__law_put.qual d__law_put.params d__law_put.body d__law_put.scope (d__law_put.dvs K) (d__law_put.kws K) (He.fAd K d__law_put.at_) fd) : FnOk PP w K mg base (L2.CX PP w) 9 (He.fAd K ("_law_put", none)) fd ["shelf", "k", "book"] (toSp K 3 m__law_put) := by
  refine fn_okD (t := t__law_put) F sc__law_put (fun cdv A outer s H E hr => ?_)
  have nd := sc__law_put.nd
  exact (dss_one (ds_try (l := h__law_put_1) rfl rfl (takes_of rfl rfl rfl rfl) (.named ⟨rfl, by decide, Or.inl (g_InvalidNumber T)⟩ (exm_InvalidNumber T) rfl nd rfl rfl (fun a ox dx C fs pn hz hf => (dss_one (ds_ret (de_fz (df_lst (da_cons de_str (da_cons (de_xf (Cs := [cInvalidNumber]) (xf_InvalidNumber_value T) hz hf (de_var 3)) da_nil))))))) (.named ⟨rfl, by decide, Or.inl (g_InvalidLibrary T)⟩ (exm_InvalidLibrary T) rfl nd rfl rfl (fun a ox dx C fs pn hz hf => (dss_one (ds_ret (de_fz (df_lst (da_cons de_str (da_cons (de_xf (Cs := [cInvalidLibrary]) (xf_InvalidLibrary_value T) hz hf (de_var 3)) da_nil))))))) (.nil))) (fun W1 pn1 xe1 tk1 hp1 => (dss_one (ds_ret (de_fz (df_lst (da_cons de_str (da_cons (de_methC (pl := _) (cal_Shelf_put T) (de_var 0) (cl_Shelf T) (me_Shelf_put T) (hr.mono (by decide)) tk1 (da_cons (de_var 1) (da_cons (de_var 2) da_nil))) da_nil)))))))))
theorem cal__law_put {w : World} {base : Heap} {K : PySem.W.Frag} {mg : Str → Option Value} (T : Tx K mg) : Cal PP w K mg base 9 (He.fAd K ("_law_put", none)) 3 m__law_put [] := by
  obtain ⟨fd, F⟩ := T.says.def_ 16 (d := d__law_put)
  have FK := fk__law_put (w := w) (base := base) T F
  have hb := F.bindsN (ps := ["shelf", "k", "book"]) (fun _ _ _ _ _ _ us hl => match us, hl with | [_, _, _], _ => rfl)
  exact ⟨fd, ["shelf", "k", "book"], [], [], FK, hb, .nil, .nil, F.kp⟩
theorem sc__law_same : FnScope ["found", "due", "at"] ["found", "due"] (defScope (top 28)) := ⟨rfl, rfl, rfl, by decide +kernel, rfl, by decide +kernel, by decide +kernel⟩
theorem cal__law_same {w : World} {base : Heap} {K : PySem.W.Frag} {mg : Str → Option Value} (T : Tx K mg) : ∀ r : Nat, Cal PP w K mg base (1 + r) (He.fAd K ("_law_same", none)) 2 (m__law_same r) []
  | 0 => by
    obtain ⟨fd, F⟩ := T.says.def_ 17 (d := d__law_same)
    have hb := F.bindsN (ps := ["found", "due"]) (fun _ _ _ _ _ _ us hl => match us, hl with | [_, _], _ => rfl)
    exact Cal.bot (x := d__law_same.name) (qual := d__law_same.qual) (st := top 28) F hb
  | r + 1 => by
    have ih := cal__law_same (w := w) (base := base) T r
    obtain ⟨fd, F⟩ := T.says.def_ 17 (d := d__law_same)
    have FK : FnOk PP w K mg base (L2.CX PP w) (1 + r + 1) (He.fAd K ("_law_same", none)) fd ["found", "due"] (toSp K 2 (m__law_same (r + 1))) := by
      refine fn_okD (t := t__law_same (m__law_same r)) F sc__law_same (fun cdv A outer s H E hr => ?_)
      have nd := sc__law_same.nd
      have hrs := hr
      exact (dss_cons (ds_if (dt_tru (de_isi (c := (.ty "tuple")) (isiF T) (de_var 1) (pc_ty rfl (b_tuple T) PyProof.Rows.Boot.«tuple») rfl (b_isinstance T) PyProof.Rows.Boot.«isinstance»)) (dss_cons (ds_if (dt_w (dw_or (dt_not (dt_tru (de_isi (c := (.ty "tuple")) (isiF T) (de_var 0) (pc_ty rfl (b_tuple T) PyProof.Rows.Boot.«tuple») rfl (b_isinstance T) PyProof.Rows.Boot.«isinstance»))) (dw_or1 (dt_cmp (op_neU hr.units) sem_ne (de_len rfl (b_len T) (da_cons (de_var 0) da_nil)) (de_len rfl (b_len T) (da_cons (de_var 1) da_nil)) (by rfl))))) (dss_one (ds_ret de_bl)) dss_nil)
    (dss_cons (ds_for (passes_of rfl) rfl (di_range1 rfl (b_range T) (da_cons (de_len rfl (b_len T) (da_cons (de_var 1) da_nil)) da_nil)) (pg_name (i := 2) nd rfl (by first | exact Or.inl rfl | exact Or.inr rfl)) sem_gN (dss_one (ds_if (dt_not (dt_tru (de_callC ih hrs (takes_of rfl rfl rfl rfl) rfl (g__law_same T) (da_cons (de_ixU (de_var 0) (de_var 2)) (da_cons (de_ixU (de_var 1) (de_var 2)) da_nil))))) (dss_one (ds_ret de_bl)) dss_nil)))
    (dss_one (ds_ret de_bl)))) dss_nil)
    (dss_one (ds_ret (de_and (de_isi (c := (.ty "int")) (isiF T) (de_var 0) (pc_ty rfl (b_int T) PyProof.Rows.Boot.«int») rfl (b_isinstance T) PyProof.Rows.Boot.«isinstance») (de_and (de_not (de_isi (c := (.ty "bool")) (isiF T) (de_var 0) (pc_ty rfl (b_bool T) PyProof.Rows.Boot.«bool») rfl (b_isinstance T) PyProof.Rows.Boot.«isinstance»)) (de_one (de_cmp (op_eqU hr.units) sem_eq (de_var 0) (de_var 1) (by rfl))))))))
    have hb := F.bindsN (ps := ["found", "due"]) (fun _ _ _ _ _ _ us hl => match us, hl with | [_, _], _ => rfl)
    exact ⟨fd, ["found", "due"], [], [], FK, hb, .nil, .nil, F.kp⟩
theorem sc_Shelf_at : FnScope ["self", "edition"] ["self", "edition"] (defScope (mth 12 2)) := ⟨rfl, rfl, rfl, by decide +kernel, rfl, by decide +kernel, by decide +kernel⟩
theorem fk_Shelf_at {w : World} {base : Heap} {K : PySem.W.Frag} {mg : Str → Option Value} (T : Tx K mg) {fd : FuncData} (F : FunD K d_Shelf_at.name d_Shelf_at.qual d_Shelf_at.params d_Shelf_at.body d_Shelf_at.scope (d_Shelf_at.dvs K) (d_Shelf_at.kws K) (He.fAd K d_Shelf_at.at_) fd) : FnOk PP w K mg base (L2.CX PP w) 3 (He.fAd K ("Shelf", some "at")) fd ["self", "edition"] (toSp K 2 m_Shelf_at) := by
  refine fn_okD (t := t_Shelf_at) F sc_Shelf_at (fun cdv A outer s H E hr => ?_)
  have nd := sc_Shelf_at.nd
  exact (dss_cons (ds_if (dt_cmp op_isN sem_isN (de_var 1) de_non (by rfl)) (dss_one (ds_ret (de_ixU (de_fld (Cs := [cShelf]) (na_Shelf__kept T) (de_var 0)) (de_fld (Cs := [cShelf]) (na_Shelf_edition T) (de_var 0))))) dss_nil)
    (dss_cons (ds_if (dt_not (dt_tru (de_callC (cal_is_place T) (hr.mono (by decide)) (takes_of rfl rfl rfl rfl) rfl (g_is_place T) (da_cons (de_var 1) (da_cons (de_bin op_addU sem_add (de_fld (Cs := [cShelf]) (na_Shelf_edition T) (de_var 0)) de_int) da_nil))))) (dss_one (ds_raise (e_InvalidNumber T) (hr.mono (by decide)) rfl (takes_of rfl rfl rfl rfl) rfl (da_cons (de_var 1) da_nil))) dss_nil)
    (dss_one (ds_ret (de_ixU (de_fld (Cs := [cShelf]) (na_Shelf__kept T) (de_var 0)) (de_var 1))))))
theorem cal_Shelf_at {w : World} {base : Heap} {K : PySem.W.Frag} {mg : Str → Option Value} (T : Tx K mg) : Cal PP w K mg base 3 (He.fAd K ("Shelf", some "at")) 2 m_Shelf_at [] := by
  obtain ⟨fd, F⟩ := T.says.def_ 18 (d := d_Shelf_at)
  have FK := fk_Shelf_at (w := w) (base := base) T F
  obtain ⟨ds, hds, hb⟩ := F.binds1 (ps := ["self", "edition"]) 2 1 (by simp [d_Shelf_at, He.DefD.dvs]) (by rfl) (fun _ _ _ _ _ _ _ us its h1 h2 => match us, its, h1, h2 with | [_, _], [_], _, _ => ⟨_, rfl, rfl⟩)
  exact ⟨fd, ["self", "edition"], ds, _, FK, hb, hds, Dfl.nil, F.kp⟩
theorem cal_Shelf_at_1 {w : World} {base : Heap} {K : PySem.W.Frag} {mg : Str → Option Value} (T : Tx K mg) : Cal PP w K mg base 3 (He.fAd K ("Shelf", some "at")) 2 m_Shelf_at [.non] := by
  obtain ⟨fd, F⟩ := T.says.def_ 18 (d := d_Shelf_at)
  have FK := fk_Shelf_at (w := w) (base := base) T F
  obtain ⟨ds, hds, hb⟩ := F.binds1 (ps := ["self", "edition"]) 1 0 (by simp [d_Shelf_at, He.DefD.dvs]) (by rfl) (fun _ _ _ _ _ _ _ us its h1 h2 => match us, its, h1, h2 with | [_], [_], _, _ => ⟨_, rfl, rfl⟩)
  exact ⟨fd, ["self", "edition"], ds, _, FK, hb, hds, Dfl.one (fun _ _ => Rp.non), F.kp⟩
theorem calK_Shelf_at_1_edition {w : World} {base : Heap} {K : PySem.W.Frag} {mg : Str → Option Value} (T : Tx K mg) : CalK PP w K mg base 3 (He.fAd K ("Shelf", some "at")) 2 m_Shelf_at 1 ["edition"] [.p 0, .k 0] [.non] := by
  obtain ⟨fd, F⟩ := T.says.def_ 18 (d := d_Shelf_at)
  have FK := fk_Shelf_at (w := w) (base := base) T F
  obtain ⟨its, hb⟩ := kb_dfl (ps := ["self", "edition"]) F 1 ["edition"] [.p 0, .k 0] (by simp [d_Shelf_at, He.DefD.dvs]) (fun _ _ _ _ _ _ _ us its ws h1 h2 h3 => match us, its, ws, h1, h2, h3 with | [_], [_], [_], _, _, _ => ⟨_, rfl, rfl⟩)
  exact ⟨fd, ["self", "edition"], its, _, FK, hb, ⟨fun _ _ => .cons (Rp.non) (.nil)⟩, F.kp⟩
theorem sc__law_at : FnScope ["shelf", "edition", "e"] ["shelf", "edition"] (defScope (top 31)) := ⟨rfl, rfl, rfl, by decide +kernel, rfl, by decide +kernel, by decide +kernel⟩
theorem fk__law_at {w : World} {base : Heap} {K : PySem.W.Frag} {mg : Str → Option Value} (T : Tx K mg) {fd : FuncData} (F : FunD K d__law_at.name d__law_at.qual d__law_at.params d__law_at.body d__law_at.scope (d__law_at.dvs K) (d__law_at.kws K) (He.fAd K d__law_at.at_) fd) : FnOk PP w K mg base (L2.CX PP w) 4 (He.fAd K ("_law_at", none)) fd ["shelf", "edition"] (toSp K 2 m__law_at) := by
  refine fn_okD (t := t__law_at) F sc__law_at (fun cdv A outer s H E hr => ?_)
  have nd := sc__law_at.nd
  exact (dss_cons (ds_try (l := h__law_at_1) rfl rfl (takes_of rfl rfl rfl rfl) (.named ⟨rfl, by decide, Or.inl (g_InvalidNumber T)⟩ (exm_InvalidNumber T) rfl nd rfl rfl (fun a ox dx C fs pn hz hf => (dss_one (ds_ret (de_xf (Cs := [cInvalidNumber]) (xf_InvalidNumber_value T) hz hf (de_var 2))))) (.nil)) (fun W1 pn1 xe1 tk1 hp1 => (dss_one (ds_expr (de_methC (pl := _) (cal_Shelf_at T) (de_var 0) (cl_Shelf T) (me_Shelf_at T) (hr.mono (by decide)) tk1 (da_cons (de_var 1) da_nil))))))
    (dss_one (ds_ret de_str)))
theorem cal__law_at {w : World} {base : Heap} {K : PySem.W.Frag} {mg : Str → Option Value} (T : Tx K mg) : Cal PP w K mg base 4 (He.fAd K ("_law_at", none)) 2 m__law_at [] := by
  obtain ⟨fd, F⟩ := T.says.def_ 19 (d := d__law_at)
  have FK := fk__law_at (w := w) (base := base) T F
  have hb := F.bindsN (ps := ["shelf", "edition"]) (fun _ _ _ _ _ _ us hl => match us, hl with | [_, _], _ => rfl)
  exact ⟨fd, ["shelf", "edition"], [], [], FK, hb, .nil, .nil, F.kp⟩
theorem sc__law_is : FnScope ["library", "p", "books", "letters", "book", "sizes"] ["library", "p", "books"] (defScope (top 29)) := ⟨rfl, rfl, rfl, by decide +kernel, rfl, by decide +kernel, by decide +kernel⟩
theorem fk__law_is {w : World} {base : Heap} {K : PySem.W.Frag} {mg : Str → Option Value} (T : Tx K mg) {fd : FuncData} (F : FunD K d__law_is.name d__law_is.qual d__law_is.params d__law_is.body d__law_is.scope (d__law_is.dvs K) (d__law_is.kws K) (He.fAd K d__law_is.at_) fd) : FnOk PP w K mg base (L2.CX PP w) 6 (He.fAd K ("_law_is", none)) fd ["library", "p", "books"] (toSp K 3 m__law_is) := by
  refine fn_okD (t := t__law_is) F sc__law_is (fun cdv A outer s H E hr => ?_)
  have nd := sc__law_is.nd
  exact (dss_cons (ds_if (dt_w (dw_or (dt_not (dt_tru (de_isi (c := (.own cLibrary)) (isiF T) (de_var 0) (pc_own rfl (g_Library T)) rfl (b_isinstance T) PyProof.Rows.Boot.«isinstance»))) (dw_or (dt_not (dt_tru (de_callC (cal__law_same T 4) (hr.mono (by decide)) (takes_of rfl rfl rfl rfl) rfl (g__law_same T) (da_cons (de_fld (Cs := [cLibrary]) (na_Library_books T) (de_var 0)) (da_cons (de_var 2) da_nil))))) (dw_or1 (dt_not (dt_tru (de_callC (cal__law_same T 4) (hr.mono (by decide)) (takes_of rfl rfl rfl rfl) rfl (g__law_same T) (da_cons (de_fld (Cs := [cLibrary]) (na_Library_p T) (de_var 0)) (da_cons (de_var 1) da_nil))))))))) (dss_one (ds_ret de_bl)) dss_nil)
    (dss_cons (ds_set (i := 3) nd rfl (by first | exact Or.inl rfl | exact Or.inr rfl) (de_tup da_nil))
    (dss_cons (ds_for (passes_of rfl) rfl (di_seq (de_var 2)) (pg_name (i := 4) nd rfl (by first | exact Or.inl rfl | exact Or.inr rfl)) sem_gN (dss_one (ds_set (i := 3) nd rfl (by first | exact Or.inl rfl | exact Or.inr rfl) (de_bin op_addU sem_add (de_var 3) (de_var 4)))))
    (dss_cons (ds_set (i := 5) nd rfl (by first | exact Or.inl rfl | exact Or.inr rfl) (de_tup (da_cons (de_fld (Cs := [cLibrary]) (na_Library_book_count T) (de_var 0)) (da_cons (de_fld (Cs := [cLibrary]) (na_Library_book_length T) (de_var 0)) da_nil))))
    (dss_one (ds_ret (de_and (de_callC (cal__law_same T 4) (hr.mono (by decide)) (takes_of rfl rfl rfl rfl) rfl (g__law_same T) (da_cons (de_var 5) (da_cons (de_tup (da_cons (de_len rfl (b_len T) (da_cons (de_var 2) da_nil)) (da_cons (de_len rfl (b_len T) (da_cons (de_ixU (de_var 2) de_int) da_nil)) da_nil))) da_nil))) (de_one (de_callC (cal__law_same T 4) (hr.mono (by decide)) (takes_of rfl rfl rfl rfl) rfl (g__law_same T) (da_cons (de_fld (Cs := [cLibrary]) (na_Library_letters T) (de_var 0)) (da_cons (de_var 3) da_nil)))))))))))
theorem cal__law_is {w : World} {base : Heap} {K : PySem.W.Frag} {mg : Str → Option Value} (T : Tx K mg) : Cal PP w K mg base 6 (He.fAd K ("_law_is", none)) 3 m__law_is [] := by
  obtain ⟨fd, F⟩ := T.says.def_ 20 (d := d__law_is)
  have FK := fk__law_is (w := w) (base := base) T F
  have hb := F.bindsN (ps := ["library", "p", "books"]) (fun _ _ _ _ _ _ us hl => match us, hl with | [_, _, _], _ => rfl)
  exact ⟨fd, ["library", "p", "books"], [], [], FK, hb, .nil, .nil, F.kp⟩
theorem sc__law_shelf_right : FnScope ["shelf", "p", "history", "at"] ["shelf", "p", "history"] (defScope (top 32)) := ⟨rfl, rfl, rfl, by decide +kernel, rfl, by decide +kernel, by decide +kernel⟩
theorem fk__law_shelf_right {w : World} {base : Heap} {K : PySem.W.Frag} {mg : Str → Option Value} (T : Tx K mg) {fd : FuncData} (F : FunD K d__law_shelf_right.name d__law_shelf_right.qual d__law_shelf_right.params d__law_shelf_right.body d__law_shelf_right.scope (d__law_shelf_right.dvs K) (d__law_shelf_right.kws K) (He.fAd K d__law_shelf_right.at_) fd) : FnOk PP w K mg base (L2.CX PP w) 7 (He.fAd K ("_law_shelf_right", none)) fd ["shelf", "p", "history"] (toSp K 3 m__law_shelf_right) := by
  refine fn_okD (t := t__law_shelf_right) F sc__law_shelf_right (fun cdv A outer s H E hr => ?_)
  have nd := sc__law_shelf_right.nd
  exact (dss_cons (ds_if (dt_not (dt_tru (de_callC (cal__law_same T 4) (hr.mono (by decide)) (takes_of rfl rfl rfl rfl) rfl (g__law_same T) (da_cons (de_fld (Cs := [cShelf]) (na_Shelf_edition T) (de_var 0)) (da_cons (de_bin op_sub sem_sub (de_len rfl (b_len T) (da_cons (de_var 2) da_nil)) de_int) da_nil))))) (dss_one (ds_ret de_bl)) dss_nil)
    (dss_cons (ds_for (passes_of rfl) rfl (di_range1 rfl (b_range T) (da_cons (de_len rfl (b_len T) (da_cons (de_var 2) da_nil)) da_nil)) (pg_name (i := 3) nd rfl (by first | exact Or.inl rfl | exact Or.inr rfl)) sem_gN (dss_one (ds_if (dt_not (dt_tru (de_callC (cal__law_is T) (hr.mono (by decide)) (takes_of rfl rfl rfl rfl) rfl (g__law_is T) (da_cons (de_methC (pl := _) (cal_Shelf_at T) (de_var 0) (cl_Shelf T) (me_Shelf_at T) (hr.mono (by decide)) (takes_of rfl rfl rfl rfl) (da_cons (de_var 3) da_nil)) (da_cons (de_var 1) (da_cons (de_ixU (de_var 2) (de_var 3)) da_nil)))))) (dss_one (ds_ret de_bl)) dss_nil)))
    (dss_one (ds_ret (de_and (de_callC (cal__law_is T) (hr.mono (by decide)) (takes_of rfl rfl rfl rfl) rfl (g__law_is T) (da_cons (de_methC0 (pl := _) (cal_Shelf_at_1 T) (de_var 0) (cl_Shelf T) (me_Shelf_at T) (hr.mono (by decide)) (takes_of rfl rfl rfl rfl)) (da_cons (de_var 1) (da_cons (de_ixU (de_var 2) (de_neg de_int)) da_nil)))) (de_one (de_callC (cal__law_is T) (hr.mono (by decide)) (takes_of rfl rfl rfl rfl) rfl (g__law_is T) (da_cons (de_methK0 (pl := _) (ks := ["edition"]) (calK_Shelf_at_1_edition T) (de_var 0) (cl_Shelf T) (me_Shelf_at T) (hr.mono (by decide)) (takes_of rfl rfl rfl rfl) (dk_cons de_non dk_nil)) (da_cons (de_var 1) (da_cons (de_ixU (de_var 2) (de_neg de_int)) da_nil))))))))))
theorem cal__law_shelf_right {w : World} {base : Heap} {K : PySem.W.Frag} {mg : Str → Option Value} (T : Tx K mg) : Cal PP w K mg base 7 (He.fAd K ("_law_shelf_right", none)) 3 m__law_shelf_right [] := by
  obtain ⟨fd, F⟩ := T.says.def_ 21 (d := d__law_shelf_right)
  have FK := fk__law_shelf_right (w := w) (base := base) T F
  have hb := F.bindsN (ps := ["shelf", "p", "history"]) (fun _ _ _ _ _ _ us hl => match us, hl with | [_, _, _], _ => rfl)
  exact ⟨fd, ["shelf", "p", "history"], [], [], FK, hb, .nil, .nil, F.kp⟩
theorem sc_law : FnScope ["script", "hand", "p", "count", "size", "books", "library", "shelves", "history", "step", "which", "k", "new", "kind", "wrong", "bad", "shelf", "passed", "found", "last", "far", "one"] ["script"] (defScope (top 33)) := ⟨rfl, rfl, rfl, by decide +kernel, rfl, by decide +kernel, by decide +kernel⟩
theorem fk_law {w : World} {base : Heap} {K : PySem.W.Frag} {mg : Str → Option Value} (T : Tx K mg) {fd : FuncData} (F : FunD K d_law.name d_law.qual d_law.params d_law.body d_law.scope (d_law.dvs K) (d_law.kws K) (He.fAd K d_law.at_) fd) : FnOk PP w K mg base (L2.CX PP w) 10 (He.fAd K ("law", none)) fd ["script"] (toSp K 1 m_law) := by
  refine fn_okD (t := t_law) F sc_law (fun cdv A outer s H E hr => ?_)
  have nd := sc_law.nd
  exact (dss_cons (ds_set (i := 1) nd rfl (by first | exact Or.inl rfl | exact Or.inr rfl) (de_new (df_lst (da_cons (de_callC (cal__law_draws T) (hr.mono (by decide)) (takes_of rfl rfl rfl rfl) rfl (g__law_draws T) (da_cons (de_var 0) (da_cons de_int da_nil))) (da_cons de_int da_nil)))))
    (dss_cons (ds_set (i := 2) nd rfl (by first | exact Or.inl rfl | exact Or.inr rfl) (de_callC (cal__law_field T) (hr.mono (by decide)) (takes_of rfl rfl rfl rfl) rfl (g__law_field T) (da_cons (de_var 1) da_nil)))
    (dss_cons (ds_set (i := 3) nd rfl (by first | exact Or.inl rfl | exact Or.inr rfl) (de_bin op_addU sem_add de_int (de_callC (cal__law_take T) (hr.mono (by decide)) (takes_of rfl rfl rfl rfl) rfl (g__law_take T) (da_cons (de_var 1) (da_cons de_int da_nil)))))
    (dss_cons (ds_set (i := 4) nd rfl (by first | exact Or.inl rfl | exact Or.inr rfl) (de_bin op_addU sem_add de_int (de_callC (cal__law_take T) (hr.mono (by decide)) (takes_of rfl rfl rfl rfl) rfl (g__law_take T) (da_cons (de_var 1) (da_cons de_int da_nil)))))
    (dss_cons (ds_set (i := 5) nd rfl (by first | exact Or.inl rfl | exact Or.inr rfl) (de_callC (cal__law_books T) (hr.mono (by decide)) (takes_of rfl rfl rfl rfl) rfl (g__law_books T) (da_cons (de_var 1) (da_cons (de_var 2) (da_cons (de_var 3) (da_cons (de_var 4) da_nil))))))
    (dss_cons (ds_set (i := 6) nd rfl (by first | exact Or.inl rfl | exact Or.inr rfl) (de_makeFC (cal_Library___init__ T) (mk_Library T) (hr.mono (by decide)) (takes_of rfl rfl rfl rfl) rfl (g_Library T) (da_cons (de_var 2) (da_cons (de_var 5) da_nil))))
    (dss_cons (ds_set (i := 7) nd rfl (by first | exact Or.inl rfl | exact Or.inr rfl) (de_fz (df_lst (da_cons (de_makeMC (cal_Shelf___init__ T) (mk_Shelf T) (hr.mono (by decide)) (takes_of rfl rfl rfl rfl) rfl (g_Shelf T) (da_cons (de_var 6) da_nil)) (da_cons (de_makeMC (cal_Shelf___init__ T) (mk_Shelf T) (hr.mono (by decide)) (takes_of rfl rfl rfl rfl) rfl (g_Shelf T) (da_cons (de_var 6) da_nil)) da_nil)))))
    (dss_cons (ds_set (i := 8) nd rfl (by first | exact Or.inl rfl | exact Or.inr rfl) (de_fz (df_lst (da_cons (de_new (df_lst (da_cons (de_var 5) da_nil))) (da_cons (de_new (df_lst (da_cons (de_var 5) da_nil))) da_nil)))))
    (dss_cons (ds_for (passes_of rfl) rfl (di_range1 rfl (b_range T) (da_cons (de_callC (cal__law_take T) (hr.mono (by decide)) (takes_of rfl rfl rfl rfl) rfl (g__law_take T) (da_cons (de_var 1) (da_cons de_int da_nil))) da_nil)) (pg_name (i := 9) nd rfl (by first | exact Or.inl rfl | exact Or.inr rfl)) sem_gN (dss_cons (ds_set (i := 10) nd rfl (by first | exact Or.inl rfl | exact Or.inr rfl) (de_bin op_fdU sem_fd (de_callC (cal__law_take T) (hr.mono (by decide)) (takes_of rfl rfl rfl rfl) rfl (g__law_take T) (da_cons (de_var 1) (da_cons de_int da_nil))) de_int))
    (dss_cons (ds_set (i := 11) nd rfl (by first | exact Or.inl rfl | exact Or.inr rfl) (de_callC (cal__law_take T) (hr.mono (by decide)) (takes_of rfl rfl rfl rfl) rfl (g__law_take T) (da_cons (de_var 1) (da_cons (de_var 3) da_nil))))
    (dss_cons (ds_set (i := 12) nd rfl (by first | exact Or.inl rfl | exact Or.inr rfl) (de_ixU (de_callC (cal__law_books T) (hr.mono (by decide)) (takes_of rfl rfl rfl rfl) rfl (g__law_books T) (da_cons (de_var 1) (da_cons (de_var 2) (da_cons de_int (da_cons (de_var 4) da_nil))))) de_int))
    (dss_cons (ds_set (i := 13) nd rfl (by first | exact Or.inl rfl | exact Or.inr rfl) (de_callC (cal__law_take T) (hr.mono (by decide)) (takes_of rfl rfl rfl rfl) rfl (g__law_take T) (da_cons (de_var 1) (da_cons de_int da_nil))))
    (dss_cons (ds_set (i := 14) nd rfl (by first | exact Or.inl rfl | exact Or.inr rfl) (de_ixU (de_fz (df_lst (da_cons (de_var 3) (da_cons (de_neg de_int) (da_cons de_bl (da_cons de_non (da_cons de_str (da_cons (de_tup da_nil) (da_cons (de_bin op_pow sem_pow de_int de_int) da_nil))))))))) (de_callC (cal__law_take T) (hr.mono (by decide)) (takes_of rfl rfl rfl rfl) rfl (g__law_take T) (da_cons (de_var 1) (da_cons de_int da_nil)))))
    (dss_cons (ds_set (i := 15) nd rfl (by first | exact Or.inl rfl | exact Or.inr rfl) (de_ixU (de_fz (df_lst (da_cons (de_bin op_addU sem_add (de_var 12) (de_tup (da_cons de_int da_nil))) (da_cons (de_sl (de_var 12) (do_some de_int) do_none) (da_cons (de_bin op_addU sem_add (de_sl (de_var 12) do_none (do_some (de_neg de_int))) (de_tup (da_cons (de_var 2) da_nil))) (da_cons de_non (da_cons (de_bin op_addU sem_add (de_sl (de_var 12) do_none (do_some (de_neg de_int))) (de_tup (da_cons de_bl da_nil))) (da_cons de_int (da_cons de_str (da_cons (de_fz (df_lst (da_cons (de_fz (df_lst (da_cons de_int da_nil))) da_nil))) (da_cons (de_bin op_addU sem_add (de_tup (da_cons (de_neg de_int) da_nil)) (de_sl (de_var 12) (do_some de_int) do_none)) da_nil))))))))))) (de_callC (cal__law_take T) (hr.mono (by decide)) (takes_of rfl rfl rfl rfl) rfl (g__law_take T) (da_cons (de_var 1) (da_cons de_int da_nil)))))
    (dss_cons (ds_set (i := 16) nd rfl (by first | exact Or.inl rfl | exact Or.inr rfl) (de_ixU (de_var 7) (de_var 10)))
    (dss_cons (ds_if (dt_cmp op_lt sem_lt (de_var 13) de_int (by rfl)) (dss_cons (ds_set (i := 17) nd rfl (by first | exact Or.inl rfl | exact Or.inr rfl) (de_ixU (de_fz (df_lst (da_cons (de_new (df_listC rfl (b_list T) (da_cons (de_var 12) da_nil))) (da_cons (de_var 12) da_nil)))) (de_callC (cal__law_take T) (hr.mono (by decide)) (takes_of rfl rfl rfl rfl) rfl (g__law_take T) (da_cons (de_var 1) (da_cons de_int da_nil)))))
    (dss_cons (ds_set (i := 18) nd rfl (by first | exact Or.inl rfl | exact Or.inr rfl) (de_callC (cal__law_put T) (hr.mono (by decide)) (takes_of rfl rfl rfl rfl) rfl (g__law_put T) (da_cons (de_var 16) (da_cons (de_var 11) (da_cons (de_var 17) da_nil)))))
    (dss_cons (ds_set (i := 19) nd rfl (by first | exact Or.inl rfl | exact Or.inr rfl) (de_ixU (de_ixU (de_var 8) (de_var 10)) (de_neg de_int)))
    (dss_cons (ds_expr (de_app (de_ixU (de_var 8) (de_var 10)) (de_bin op_addU sem_add (de_bin op_addU sem_add (de_sl (de_var 19) do_none (do_some (de_var 11))) (de_tup (da_cons (de_var 12) da_nil))) (de_sl (de_var 19) (do_some (de_bin op_addU sem_add (de_var 11) de_int)) do_none))))
    (dss_cons (ds_if (dt_w (dw_or (dt_cmp (op_neU hr.units) sem_ne (de_ixU (de_var 18) de_int) de_str (by rfl)) (dw_or1 (dt_not (dt_tru (de_callC (cal__law_same T 4) (hr.mono (by decide)) (takes_of rfl rfl rfl rfl) rfl (g__law_same T) (da_cons (de_ixU (de_var 18) de_int) (da_cons (de_bin op_sub sem_sub (de_len rfl (b_len T) (da_cons (de_ixU (de_var 8) (de_var 10)) da_nil)) de_int) da_nil)))))))) (dss_one (ds_ret de_bl)) dss_nil)
    (dss_one (ds_if (dt_tru (de_isi (c := (.ty "list")) (isiF T) (de_var 17) (pc_ty rfl (b_list T) PyProof.Rows.Boot.«list») rfl (b_isinstance T) PyProof.Rows.Boot.«isinstance»)) (dss_one (ds_setI (de_var 17) de_int (de_var 2))) dss_nil))))))) (dss_one (ds_if (dt_cmp (op_eqU hr.units) sem_eq (de_var 13) de_int (by rfl)) (dss_cons (ds_if (dt_w (dw_or (dt_cmp (op_neU hr.units) sem_ne (de_callC (cal__law_put T) (hr.mono (by decide)) (takes_of rfl rfl rfl rfl) rfl (g__law_put T) (da_cons (de_var 16) (da_cons (de_var 14) (da_cons (de_var 15) da_nil)))) (de_fz (df_lst (da_cons de_str (da_cons (de_var 14) da_nil)))) (by rfl)) (dw_or1 (dt_cmp (op_neU hr.units) sem_ne (de_callC (cal__law_put T) (hr.mono (by decide)) (takes_of rfl rfl rfl rfl) rfl (g__law_put T) (da_cons (de_var 16) (da_cons (de_var 14) (da_cons (de_var 12) da_nil)))) (de_fz (df_lst (da_cons de_str (da_cons (de_var 14) da_nil)))) (by rfl))))) (dss_one (ds_ret de_bl)) dss_nil)
    (dss_one (ds_if (dt_cmp (op_neU hr.units) sem_ne (de_callC (cal__law_put T) (hr.mono (by decide)) (takes_of rfl rfl rfl rfl) rfl (g__law_put T) (da_cons (de_var 16) (da_cons (de_var 11) (da_cons (de_var 15) da_nil)))) (de_fz (df_lst (da_cons de_str (da_cons (de_var 15) da_nil)))) (by rfl)) (dss_one (ds_ret de_bl)) dss_nil))) (dss_cons (ds_set (i := 20) nd rfl (by first | exact Or.inl rfl | exact Or.inr rfl) (de_ixU (de_fz (df_lst (da_cons (de_len rfl (b_len T) (da_cons (de_ixU (de_var 8) (de_var 10)) da_nil)) (da_cons (de_neg de_int) (da_cons de_bl (da_cons de_str (da_cons (de_tup (da_cons de_int da_nil)) (da_cons (de_bin op_pow sem_pow de_int de_int) (da_cons de_bl da_nil))))))))) (de_callC (cal__law_take T) (hr.mono (by decide)) (takes_of rfl rfl rfl rfl) rfl (g__law_take T) (da_cons (de_var 1) (da_cons de_int da_nil)))))
    (dss_one (ds_if (dt_cmp (op_neU hr.units) sem_ne (de_callC (cal__law_at T) (hr.mono (by decide)) (takes_of rfl rfl rfl rfl) rfl (g__law_at T) (da_cons (de_var 16) (da_cons (de_var 20) da_nil))) (de_var 20) (by rfl)) (dss_one (ds_ret de_bl)) dss_nil))))))
    (dss_one (ds_for (passes_of rfl) rfl (di_range1 rfl (b_range T) (da_cons de_int da_nil)) (pg_name (i := 21) nd rfl (by first | exact Or.inl rfl | exact Or.inr rfl)) sem_gN (dss_one (ds_if (dt_not (dt_tru (de_callC (cal__law_shelf_right T) (hr.mono (by decide)) (takes_of rfl rfl rfl rfl) rfl (g__law_shelf_right T) (da_cons (de_ixU (de_var 7) (de_var 21)) (da_cons (de_var 2) (da_cons (de_ixU (de_var 8) (de_var 21)) da_nil)))))) (dss_one (ds_ret de_bl)) dss_nil)))))))))))))
    (dss_one (ds_ret (de_callC (cal__law_is T) (hr.mono (by decide)) (takes_of rfl rfl rfl rfl) rfl (g__law_is T) (da_cons (de_var 6) (da_cons (de_var 2) (da_cons (de_var 5) da_nil)))))))))))))))
theorem cal_law {w : World} {base : Heap} {K : PySem.W.Frag} {mg : Str → Option Value} (T : Tx K mg) : Cal PP w K mg base 10 (He.fAd K ("law", none)) 1 m_law [] := by
  obtain ⟨fd, F⟩ := T.says.def_ 22 (d := d_law)
  have FK := fk_law (w := w) (base := base) T F
  have hb := F.bindsN (ps := ["script"]) (fun _ _ _ _ _ _ us hl => match us, hl with | [_], _ => rfl)
  exact ⟨fd, ["script"], [], [], FK, hb, .nil, .nil, F.kp⟩
def names : List PySem.Str := (["_wall", "is_integer", "is_integer_bookplaces", "is_place", "is_sequence", "are_letters", "WishError", "InvalidNumber", "InvalidLibrary", "Shelf", "is_integer_integers", "FIELDS", "is_field", "_are_books", "Library", "_law_draws", "_law_take", "_law_is_field", "_law_field", "_law_books", "_law_same", "_law_is", "_law_put", "_law_at", "_law_shelf_right"] : List PySem.Str)
abbrev R : PySem.W.OpenRow := PySem.W.OpenLaw.row PySem.Challenge.rw_sharesunseen_k08_editions_of_a_shelf
abbrev hk : PySem.W.Hook := hookH 6 PP.main.file hkd
def ob (s : PySem.W.SharedT) : AlH := obsHG 6 PP.main.file hkd (HandSHeadRun.getT s)
theorem ob_eq (s : PySem.W.SharedT) : ob s = hk.obs s.abs := obsHG_eq (HandSHeadRun.getT_eq s)
theorem run (w : World) : HandSHeadRun.RunEq R (PySem.W.view R.prog [33]) hk ob 4000 names w := by
  intro os
  kernel_rfl
theorem facts {w : World} {K : PySem.W.Frag} {h : Heap} {mg : Str → Option Value} {f : Addr} (X : K.In h) (G : h.Ns mainGlobals mg) (hfa : mg ("law" : Str) = some (.ref f)) (c : SaysH PP.main.file hkd K) :
    ∃ fd : FuncData, (∀ (s : Shared) (v : Value), BindsTo s fd ⟨[v], []⟩ [("script", v)]) ∧ ∀ base : Heap, K.In base → base.Ns mainGlobals mg → FnOk PP w K mg base (L2.CX PP w) 10 f fd ["script"] (toSp K 1 m_law) := by
  have T : Tx K mg := ⟨c, fun x hx => He.glo_ok X G hx, fun x hx => He.free_ok X G hx⟩
  obtain ⟨fd, F⟩ := c.def_ 22 (d := d_law)
  have e := hfa.symm.trans (He.glo_ok X G (x := "law") (c.fact 36))
  cases e
  have b := FunD.bindsA (ps := ["script"]) F fun _ _ _ _ _ _ us hl => match us, hl with | [_], _ => rfl
  exact ⟨fd, fun s v => b s [v] rfl, fun base _ _ => fk_law T F⟩
end K08

open PySem PySem.W PySem.Calls PyProof.Rows
theorem PySem.Challenge.cw_sharesunseen_k08_editions_of_a_shelf_holds : PySem.Challenge.rw_sharesunseen_k08_editions_of_a_shelf.Holds := by
  w_on; o_law
  refine HandSHeadRun.head_any (r := OpenLaw.row PySem.Challenge.rw_sharesunseen_k08_editions_of_a_shelf) (q := view (OpenLaw.row PySem.Challenge.rw_sharesunseen_k08_editions_of_a_shelf).prog [33]) (H := K08.hk) (ob := K08.ob) (M := 4000) (loose := K08.names) (d := HandSHeadRun.topDef (OpenLaw.row PySem.Challenge.rw_sharesunseen_k08_editions_of_a_shelf).prog 33) (kwd := []) K08.ob_eq
    (by kernel_rfl) (fun s => by kernel_rfl) K08.run (by kernel_rfl) (by kernel_rfl) (by kernel_rfl) (by rfl) (by first | assumption | decide +kernel) (by decide +kernel) ⟨rfl, rfl, rfl, rfl, rfl, by decide +kernel⟩ ?hw ?hc
  case hw => w_witness2
  case hc =>
    refine DL.walk_ofEB (l := PySem.Challenge.rw_sharesunseen_k08_editions_of_a_shelf) (n := 63) (k := 10) (x := "script") (CX := fun w => L2.CX K08.PP w) rfl (by decide) (by kernel_rfl) ⟨rfl, by decide, by decide⟩ ?F (fun w H s e s' => DL.cx_none w H s e s')
    intro w mg fa h Y G hmg0
    obtain ⟨K, KX, c⟩ := Y
    have hmg : mg ("law" : PySem.Str) = some (.ref fa) := by
      have e : (HandSHeadRun.topDef (OpenLaw.row PySem.Challenge.rw_sharesunseen_k08_editions_of_a_shelf).prog 33).name = ("law" : PySem.Str) := by kernel_rfl
      rw [← e]
      exact hmg0
    obtain ⟨fd, hb, hF⟩ := K08.facts (w := w) KX G hmg c
    exact ⟨K, fd, DL.toSp K 1 K08.m_law, KX, hb, fun H a ns hl hbits hS => DL.law_sp (K08.law_true ns hl hbits) hS, hF⟩
