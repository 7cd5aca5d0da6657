import PyProof.Rows.All
import Wide.All
import OpenK.AllK
import Wide.FinOn
import HandS.ForMost
import HandS.ForExc
import HandS.Evl
import HandS.Flow
import HandS.IsInst
import HandS.CallSlots
import HandS.TryMany
import HandS.ExcInit
import HandS.ExcField
import HandS.Nested
import HandS.NestedK
import HandS.TupAny
import HandS.TupMul
import HandS.Wide
import HandS.Conv
import HandS.Zip
import HandS.Iter
import HandS.ClsMeth
import KE.KExcSuper
import HandS.HeadHook1
import HandS.HeadHook2
import HandS.Head0
import HandS.Head1
import HandS.Head2
import HandS.HeadEnd
import HandS.EndBits
import HandS.MakeKw
import KE.GoesEnum
import KE.GoesZip
import KE.GoesMore
import HandS.SlotsOwn
import HandS.OwnEq
import HandS.Style
import KE.LtData
import PyProof.AutoSeq1
import HandS.NoneIn
import HandS.Dict
import HandS.TupLen
import PyProof.EqKinds
import HandS.TupLe
import HandS.WideBits
import HandS.HotCalls
import HandS.HeadNt
import PySem.Challenge.RW_sharesunseen_k07_libraries
set_option Elab.async false
set_option linter.all false
set_option maxRecDepth 100000
set_option maxHeartbeats 4000000
namespace DL
open PySem PySem.Spec L2

/-! ## 1. Data, cells, stores -/
/-- a datum: lst, tup, ins never change; rol: a list that is read alone (the script, a constant of the top); exc: an error that an except suite holds; m n: the n-th cell of the store -/
inductive D where
  | non | bl (b : Bool) | int (i : Int) | str (x : Str)
  | lst (xs : List D) | tup (xs : List D)
  | rol (xs : List D)
  | ins (C : Addr) (fs : List (Str × D))
  | cv (v : V)
  | exc (a dx C : Addr) (fs : List (Str × D))
  | m (n : Nat)
instance : Inhabited D := ⟨.non⟩
/-- what may change -/
inductive Cell where
  | lst (xs : List D)
  | ins (C : Addr) (fs : List (Str × D))
  | dT (kvs : List (List Key × D))
  | dK (kvs : List (Key × D))
abbrev Sto := Nat → Option Cell
def put (S : Sto) (n : Nat) (c : Cell) : Sto := fun k => if k = n then some c else S k
def del (S : Sto) (n : Nat) : Sto := fun k => if k = n then none else S k
theorem put_same {S : Sto} {n : Nat} {c : Cell} : put S n c n = some c := if_pos rfl
theorem put_ne {S : Sto} {n k : Nat} {c : Cell} (h : k ≠ n) : put S n c k = S k := if_neg h
theorem del_same {S : Sto} {n : Nat} : del S n n = none := if_pos rfl
theorem del_ne {S : Sto} {n k : Nat} (h : k ≠ n) : del S n k = S k := if_neg h
theorem put_put {S : Sto} {n : Nat} {c c' : Cell} : put (put S n c) n c' = put S n c' := by
  funext k
  unfold put
  by_cases h : k = n
  · rw [if_pos h, if_pos h]
  · rw [if_neg h, if_neg h, if_neg h]
/-- nothing stands from n on -/
def Fr (S : Sto) (n : Nat) : Prop := ∀ k, n ≤ k → S k = none
theorem Fr.no {S : Sto} {n : Nat} (h : Fr S n) : S n = none := h n (Nat.le_refl n)
theorem Fr.lt {S : Sto} {n k : Nat} {c : Cell} (h : Fr S n) (e : S k = some c) : k < n := by
  by_cases q : k < n
  · exact q
  · rw [h k (by omega)] at e; cases e
/-- fewer cells, the same content -/
def Sub (S' S : Sto) : Prop := ∀ n c, S' n = some c → S n = some c
theorem Sub.refl (S : Sto) : Sub S S := fun _ _ h => h
theorem Sub.trans {S S' S'' : Sto} (a : Sub S S') (b : Sub S' S'') : Sub S S'' := fun n c h => b n c (a n c h)
theorem Sub.put {S S' : Sto} {n : Nat} {c : Cell} (a : Sub S S') (h : S n = none) : Sub S (put S' n c) := fun k d e => by
  have hk : k ≠ n := fun z => by rw [z, h] at e; cases e
  rw [put_ne hk]
  exact a k d e
theorem Sub.del {S S' : Sto} {n : Nat} (a : Sub S S') (h : S n = none) : Sub S (del S' n) := fun k d e => by
  have hk : k ≠ n := fun z => by rw [z, h] at e; cases e
  rw [del_ne hk]
  exact a k d e
abbrev Lo := List (Option D)
abbrev Am := Nat → Option Addr
structure Err where
  C : Addr
  fs : List (Str × D)

/-! ## 2. What a value stands for -/
/-- the one tuple of the written part that the programs name (all others are made as they run) -/
def fldD : List D := [.int 2, .int 3, .int 5, .int 7, .int 11, .int 13, .int 17, .int 19, .int 23, .int 29, .int 31]
section
variable (K : PySem.W.Frag) (I : Hp) (α : Am)
mutual
inductive Rp : V → D → Prop
  | non : Rp .non .non
  | bl (b) : Rp (.bl b) (.bl b)
  | int (i) : Rp (.int i) (.int i)
  | str (x) : Rp (.str x) (.str x)
  | lst {p vs ds} (h : I p = some (.lst vs)) (r : RpL vs ds) : Rp (.ref p) (.lst ds)
  | rol {p vs ds} (h : SqL K I p vs) (r : RpL vs ds) : Rp (.ref p) (.rol ds)
  | tup {p vs ds} (h : SqT K I p vs) (r : RpL vs ds) (g : I p = some (.tup vs) ∨ ds = fldD) : Rp (.ref p) (.tup ds)
  | ins {p C dx vs fs} (h : I p = some (.ins C dx vs)) (r : RpF vs fs) : Rp (.ref p) (.ins C fs)
  | cv (v) : Rp v (.cv v)
  | exc {a dx C vs fs} (h : I dx = some (.xd vs)) (r : RpF vs fs) : Rp (.ref a) (.exc a dx C fs)
  | m {p n} (h : α n = some p) : Rp (.ref p) (.m n)
inductive RpL : List V → List D → Prop
  | nil : RpL [] []
  | cons {v d vs ds} (h : Rp v d) (r : RpL vs ds) : RpL (v :: vs) (d :: ds)
inductive RpF : List (Str × V) → List (Str × D) → Prop
  | nil : RpF [] []
  | cons {f v d vs ds} (h : Rp v d) (r : RpF vs ds) : RpF ((f, v) :: vs) ((f, d) :: ds)
end
end
section
variable {K : PySem.W.Frag} {I I' : Hp} {α α' : Am}
def HpLe (I I' : Hp) : Prop := ∀ p o, I p = some o → I' p = some o
theorem SqL.le {p : Addr} {vs : List V} (h : SqL K I p vs) (e : HpLe I I') : SqL K I' p vs := Evl.ex_l e h
theorem SqT.le {p : Addr} {vs : List V} (h : SqT K I p vs) (e : HpLe I I') : SqT K I' p vs := Evl.ex_t e h
mutual
theorem Rp.le (e : HpLe I I') (a : ∀ n p, α n = some p → α' n = some p) : ∀ {v d}, Rp K I α v d → Rp K I' α' v d
  | _, _, .non => .non
  | _, _, .bl b => .bl b
  | _, _, .int i => .int i
  | _, _, .str x => .str x
  | _, _, .lst h r => .lst (e _ _ h) (RpL.le e a r)
  | _, _, .rol h r => .rol (SqL.le h e) (RpL.le e a r)
  | _, _, .tup h r g => .tup (SqT.le h e) (RpL.le e a r) (g.imp_left (e _ _))
  | _, _, .ins h r => .ins (e _ _ h) (RpF.le e a r)
  | _, _, .cv v => .cv v
  | _, _, .exc h r => .exc (e _ _ h) (RpF.le e a r)
  | _, _, .m h => .m (a _ _ h)
theorem RpL.le (e : HpLe I I') (a : ∀ n p, α n = some p → α' n = some p) : ∀ {vs ds}, RpL K I α vs ds → RpL K I' α' vs ds
  | _, _, .nil => .nil
  | _, _, .cons h r => .cons (Rp.le e a h) (RpL.le e a r)
theorem RpF.le (e : HpLe I I') (a : ∀ n p, α n = some p → α' n = some p) : ∀ {vs ds}, RpF K I α vs ds → RpF K I' α' vs ds
  | _, _, .nil => .nil
  | _, _, .cons h r => .cons (Rp.le e a h) (RpF.le e a r)
end
theorem RpL.length : ∀ {vs : List V} {ds : List D}, RpL K I α vs ds → vs.length = ds.length
  | _, _, .nil => rfl
  | _, _, .cons _ r => congrArg (· + 1) (RpL.length r)
theorem RpF.length : ∀ {vs : List (Str × V)} {ds : List (Str × D)}, RpF K I α vs ds → vs.length = ds.length
  | _, _, .nil => rfl
  | _, _, .cons _ r => congrArg (· + 1) (RpF.length r)
theorem RpL.get : ∀ {vs : List V} {ds : List D} {i : Nat} {d : D}, RpL K I α vs ds → ds[i]? = some d → ∃ v, vs[i]? = some v ∧ Rp K I α v d
  | _, _, _, _, .nil, e => by simp at e
  | _, _, 0, d, .cons h _, e => by
    simp at e
    subst e
    exact ⟨_, rfl, h⟩
  | _, _, i + 1, d, .cons _ r, e => by
    obtain ⟨v, h1, h2⟩ := RpL.get (i := i) r (by simpa using e)
    exact ⟨v, by simpa using h1, h2⟩
theorem RpL.get' : ∀ {vs : List V} {ds : List D} {i : Nat} {v : V}, RpL K I α vs ds → vs[i]? = some v → ∃ d, ds[i]? = some d ∧ Rp K I α v d
  | _, _, _, _, .nil, e => by simp at e
  | _, _, 0, d, .cons h _, e => by
    simp at e
    subst e
    exact ⟨_, rfl, h⟩
  | _, _, i + 1, d, .cons _ r, e => by
    obtain ⟨v, h1, h2⟩ := RpL.get' (i := i) r (by simpa using e)
    exact ⟨v, by simpa using h1, h2⟩
theorem RpL.append : ∀ {vs : List V} {ds : List D} {ws es}, RpL K I α vs ds → RpL K I α ws es → RpL K I α (vs ++ ws) (ds ++ es)
  | _, _, _, _, .nil, s => s
  | _, _, _, _, .cons h r, s => .cons h (RpL.append r s)
theorem RpL.take : ∀ {vs : List V} {ds : List D} (n : Nat), RpL K I α vs ds → RpL K I α (vs.take n) (ds.take n)
  | _, _, 0, _ => .nil
  | _, _, _ + 1, .nil => .nil
  | _, _, n + 1, .cons h r => .cons h (RpL.take n r)
theorem RpL.drop : ∀ {vs : List V} {ds : List D} (n : Nat), RpL K I α vs ds → RpL K I α (vs.drop n) (ds.drop n)
  | _, _, 0, r => r
  | _, _, _ + 1, .nil => .nil
  | _, _, n + 1, .cons _ r => RpL.drop n r
theorem RpL.set : ∀ {vs : List V} {ds : List D} (n : Nat) {v d}, RpL K I α vs ds → Rp K I α v d → RpL K I α (vs.set n v) (ds.set n d)
  | _, _, _, _, _, .nil, _ => .nil
  | _, _, 0, _, _, .cons _ r, q => .cons q r
  | _, _, n + 1, _, _, .cons h r, q => .cons h (RpL.set n r q)
theorem RpL.reverse : ∀ {vs : List V} {ds : List D}, RpL K I α vs ds → RpL K I α vs.reverse ds.reverse
  | _, _, .nil => .nil
  | _, _, .cons h r => by
    rw [List.reverse_cons, List.reverse_cons]
    exact (RpL.reverse r).append (.cons h .nil)
theorem RpL.replicate {v d} (h : Rp K I α v d) : ∀ n : Nat, RpL K I α (List.replicate n v) (List.replicate n d)
  | 0 => .nil
  | n + 1 => by
    rw [List.replicate_succ, List.replicate_succ]
    exact .cons h (RpL.replicate h n)
theorem RpL.one {v d} (h : Rp K I α v d) : RpL K I α [v] [d] := .cons h .nil
theorem RpF.lookup : ∀ {vs : List (Str × V)} {ds : List (Str × D)} {f : Str} {d : D}, RpF K I α vs ds → ds.lookup f = some d → ∃ v, vs.lookup f = some v ∧ Rp K I α v d
  | _, _, _, _, .nil, e => by cases e
  | _, _, f, d, .cons (f := g) h r, e => by
    rw [List.lookup_cons] at e ⊢
    cases hg : f == g with
    | true =>
      rw [hg] at e
      cases e
      exact ⟨_, rfl, h⟩
    | false =>
      rw [hg] at e
      exact RpF.lookup r e
theorem RpF.lookupN : ∀ {vs : List (Str × V)} {ds : List (Str × D)} {f : Str}, RpF K I α vs ds → ds.lookup f = none → vs.lookup f = none
  | _, _, _, .nil, e => rfl
  | _, _, f, .cons (f := g) h r, e => by
    rw [List.lookup_cons] at e ⊢
    cases hg : f == g with
    | true =>
      rw [hg] at e
      cases e
    | false =>
      rw [hg] at e
      exact RpF.lookupN r e
/-- flat values -/
theorem Rp.int' {v : V} {i : Int} (h : Rp K I α v (.int i)) : v = .int i := by cases h; rfl
theorem Rp.bl' {v : V} {i : Bool} (h : Rp K I α v (.bl i)) : v = .bl i := by cases h; rfl
theorem Rp.str' {v : V} {i : Str} (h : Rp K I α v (.str i)) : v = .str i := by cases h; rfl
theorem Rp.non' {v : V} (h : Rp K I α v .non) : v = .non := by cases h; rfl
theorem Rp.cv' {v u : V} (h : Rp K I α v (.cv u)) : v = u := by cases h; rfl
theorem Rp.lst' {v : V} {ds : List D} (h : Rp K I α v (.lst ds)) : ∃ p vs, v = .ref p ∧ I p = some (.lst vs) ∧ RpL K I α vs ds := by
  cases h with
  | lst h r => exact ⟨_, _, rfl, h, r⟩
theorem Rp.rol' {v : V} {ds : List D} (h : Rp K I α v (.rol ds)) : ∃ p vs, v = .ref p ∧ SqL K I p vs ∧ RpL K I α vs ds := by
  cases h with
  | rol h r => exact ⟨_, _, rfl, h, r⟩
theorem Rp.tup' {v : V} {ds : List D} (h : Rp K I α v (.tup ds)) : ∃ p vs, v = .ref p ∧ SqT K I p vs ∧ RpL K I α vs ds := by
  cases h with
  | tup h r g => exact ⟨_, _, rfl, h, r⟩
theorem Rp.tupN {p : Addr} {vs : List V} {ds : List D} (h : I p = some (.tup vs)) (r : RpL K I α vs ds) : Rp K I α (.ref p) (.tup ds) := .tup (SqT.of h) r (.inl h)
theorem Rp.tupG {v : V} {ds : List D} (h : Rp K I α v (.tup ds)) : ∃ p vs, v = .ref p ∧ SqT K I p vs ∧ RpL K I α vs ds ∧ (I p = some (.tup vs) ∨ ds = fldD) := by
  cases h with
  | tup h r g => exact ⟨_, _, rfl, h, r, g⟩
theorem Rp.ins' {v : V} {C : Addr} {fs : List (Str × D)} (h : Rp K I α v (.ins C fs)) : ∃ p dx vs, v = .ref p ∧ I p = some (.ins C dx vs) ∧ RpF K I α vs fs := by
  cases h with
  | ins h r => exact ⟨_, _, _, rfl, h, r⟩
theorem Rp.m' {v : V} {n : Nat} (h : Rp K I α v (.m n)) : ∃ p, v = .ref p ∧ α n = some p := by
  cases h with
  | m h => exact ⟨_, rfl, h⟩
theorem rpl_ints : ∀ ns : List Int, RpL K I α (ns.map V.int) (ns.map D.int)
  | [] => .nil
  | n :: r => .cons (.int n) (rpl_ints r)
end

/-! ## 3. The world: frozen heap, cells' addresses, store, heap -/
structure Wd where
  I : Hp
  α : Am
  S : Sto
  H : Hp
def CellR (K : PySem.W.Frag) (I : Hp) (α : Am) : Cell → HO → Prop
  | .lst ds, o => ∃ vs, o = .lst vs ∧ RpL K I α vs ds
  | .ins C fs, o => ∃ dx vs, o = .ins C dx vs ∧ RpF K I α vs fs
  | .dT kvs, o => ∃ vs : List (List Key × V), o = .dT vs ∧ vs.map (·.1) = kvs.map (·.1) ∧ RpL K I α (vs.map (·.2)) (kvs.map (·.2))
  | .dK kvs, o => ∃ vs : List (Key × V), o = .dK vs ∧ vs.map (·.1) = kvs.map (·.1) ∧ RpL K I α (vs.map (·.2)) (kvs.map (·.2))
structure Ok (K : PySem.W.Frag) (w : Wd) : Prop where
  sub : HpLe w.I w.H
  cel : ∀ n c, w.S n = some c → ∃ p o, w.α n = some p ∧ w.H p = some o ∧ w.I p = none ∧ CellR K w.I w.α c o
  inj : ∀ n m p, w.S n ≠ none → w.S m ≠ none → w.α n = some p → w.α m = some p → n = m
  fin : ∃ N : Nat, ∀ n, N ≤ n → w.α n = none
structure Le (w w' : Wd) : Prop where
  ii : HpLe w.I w'.I
  aa : ∀ n p, w.α n = some p → w'.α n = some p
  hh : ∀ p o, w.H p = some o → (∀ n, w.S n ≠ none → w.α n ≠ some p) → w'.H p = some o
  there : ∀ p, w.H p ≠ none → w'.H p ≠ none
  newI : ∀ p, w'.I p ≠ none → w.I p ≠ none ∨ w.H p = none ∨ (∃ n, w.S n ≠ none ∧ w.α n = some p) ∨ ∃ ts, w.H p = some (.tup ts)
  newA : ∀ n p, w'.α n = some p → w.α n = some p ∨ (w.α n = none ∧ w.H p = none)
  dom : ∀ n, w'.S n ≠ none → w.S n ≠ none ∨ w.α n = none
theorem Le.refl (w : Wd) : Le w w := ⟨fun _ _ h => h, fun _ _ h => h, fun _ _ h _ => h, fun _ h => h, fun _ h => .inl h, fun _ _ h => .inl h, fun _ h => .inl h⟩
theorem Le.trans {w w1 w2 : Wd} (a : Le w w1) (b : Le w1 w2) : Le w w2 := by
  have back : ∀ p, w1.H p = none → w.H p = none := fun p h => by
    cases e : w.H p with
    | none => rfl
    | some o => exact absurd h (a.there p (by rw [e]; simp))
  refine ⟨fun p o h => b.ii p o (a.ii p o h), fun n p h => b.aa n p (a.aa n p h), fun p o h hn => ?_, fun p h => b.there p (a.there p h), fun p h => ?_, fun n p h => ?_, fun n h => ?_⟩
  · refine b.hh p o (a.hh p o h hn) fun n hs he => ?_
    rcases a.newA n p he with z | ⟨_, z⟩
    · rcases a.dom n hs with q | q
      · exact hn n q z
      · rw [q] at z; cases z
    · rw [h] at z; cases z
  · rcases b.newI p h with z | z | ⟨n, hs, z⟩ | ⟨ts, z⟩
    · exact a.newI p z
    · exact .inr (.inl (back p z))
    · rcases a.newA n p z with y | ⟨_, y⟩
      · rcases a.dom n hs with q | q
        · exact .inr (.inr (.inl ⟨n, q, y⟩))
        · rw [q] at y; cases y
      · exact .inr (.inl y)
    · by_cases hc : ∃ n, w.S n ≠ none ∧ w.α n = some p
      · exact .inr (.inr (.inl hc))
      · cases e : w.H p with
        | none => exact .inr (.inl rfl)
        | some o =>
          have := a.hh p o e fun n hs hn => hc ⟨n, hs, hn⟩
          rw [this] at z
          cases z
          exact .inr (.inr (.inr ⟨ts, rfl⟩))
  · rcases b.newA n p h with z | ⟨z, y⟩
    · exact a.newA n p z
    · refine .inr ⟨?_, back p y⟩
      cases e : w.α n with
      | none => rfl
      | some q => rw [a.aa n q e] at z; cases z
  · rcases b.dom n h with z | z
    · exact a.dom n z
    · refine .inr ?_
      cases e : w.α n with
      | none => rfl
      | some q => rw [a.aa n q e] at z; cases z
theorem Rp.up {K : PySem.W.Frag} {w w' : Wd} {v : V} {d : D} (h : Rp K w.I w.α v d) (l : Le w w') : Rp K w'.I w'.α v d := Rp.le l.ii l.aa h
theorem RpL.up {K : PySem.W.Frag} {w w' : Wd} {v : List V} {d : List D} (h : RpL K w.I w.α v d) (l : Le w w') : RpL K w'.I w'.α v d := RpL.le l.ii l.aa h
theorem RpF.up {K : PySem.W.Frag} {w w' : Wd} {v : List (Str × V)} {d : List (Str × D)} (h : RpF K w.I w.α v d) (l : Le w w') : RpF K w'.I w'.α v d := RpF.le l.ii l.aa h
/-- read in the frozen heap, read in the heap -/
theorem Ok.sqL {K : PySem.W.Frag} {w : Wd} (ok : Ok K w) {p : Addr} {vs : List V} (h : SqL K w.I p vs) : SqL K w.H p vs := SqL.le h ok.sub
theorem Ok.sqT {K : PySem.W.Frag} {w : Wd} (ok : Ok K w) {p : Addr} {vs : List V} (h : SqT K w.I p vs) : SqT K w.H p vs := SqT.le h ok.sub
/-- a new frozen object -/
def Wd.lay (w : Wd) (p : Addr) (o : HO) : Wd := ⟨upd w.I p o, w.α, w.S, upd w.H p o⟩
theorem HpLe.upd {I : Hp} {p : Addr} {o : HO} (h : I p = none) : HpLe I (upd I p o) := fun q u e => by
  have hq : q ≠ p := fun z => by rw [z, h] at e; cases e
  rw [upd_ne hq]
  exact e
theorem CellR.le {K : PySem.W.Frag} {I I' : Hp} {α α' : Am} (e : HpLe I I') (a : ∀ n p, α n = some p → α' n = some p) : ∀ {c : Cell} {o : HO}, CellR K I α c o → CellR K I' α' c o
  | .lst _, _, ⟨vs, h, r⟩ => ⟨vs, h, r.le e a⟩
  | .ins _ _, _, ⟨dx, vs, h, r⟩ => ⟨dx, vs, h, r.le e a⟩
  | .dT _, _, ⟨vs, h, k, r⟩ => ⟨vs, h, k, r.le e a⟩
  | .dK _, _, ⟨vs, h, k, r⟩ => ⟨vs, h, k, r.le e a⟩
section
variable {K : PySem.W.Frag} {w : Wd} {p : Addr} {o : HO}
theorem Ok.noI (ok : Ok K w) (h : w.H p = none) : w.I p = none := by
  cases e : w.I p with
  | none => rfl
  | some u => rw [ok.sub p u e] at h; cases h
theorem Ok.lay (ok : Ok K w) (h : w.H p = none) : Ok K (w.lay p o) := by
  have hI := ok.noI h
  refine ⟨fun q u e => ?_, fun n c e => ?_, ok.inj, ok.fin⟩
  · have e : upd w.I p o q = some u := e
    show upd w.H p o q = some u
    by_cases hq : q = p
    · rw [hq, upd_same] at e ⊢
      exact e
    · rw [upd_ne hq] at e ⊢
      exact ok.sub q u e
  · obtain ⟨q, u, h1, h2, h3, h4⟩ := ok.cel n c e
    have hq : q ≠ p := fun z => by rw [z, h] at h2; cases h2
    exact ⟨q, u, h1, (upd_ne hq).trans h2, (upd_ne hq).trans h3, h4.le (HpLe.upd hI) fun _ _ z => z⟩
theorem Le.lay (ok : Ok K w) (h : w.H p = none) : Le w (w.lay p o) := by
  have hI := ok.noI h
  refine ⟨HpLe.upd hI, fun _ _ z => z, fun q u e _ => ?_, fun q e => ?_, fun q e => ?_, fun _ _ z => .inl z, fun _ z => .inl z⟩
  · have hq : q ≠ p := fun z => by rw [z, h] at e; cases e
    exact (upd_ne hq).trans e
  · show upd w.H p o q ≠ none
    by_cases hq : q = p
    · rw [hq, upd_same]; simp
    · rw [upd_ne hq]; exact e
  · have e : upd w.I p o q ≠ none := e
    by_cases hq : q = p
    · rw [hq]; exact .inr (.inl h)
    · rw [upd_ne hq] at e; exact .inl e
/-- an object that stands beside (its own dict, a rest): tracked, not known -/
def Wd.side (w : Wd) (H' : Hp) : Wd := ⟨w.I, w.α, w.S, H'⟩
theorem Ok.side {H' : Hp} (ok : Ok K w) (e : HpLe w.H H') : Ok K (w.side H') :=
  ⟨fun q u z => e q u (ok.sub q u z), fun n c z => by
    obtain ⟨q, u, h1, h2, h3, h4⟩ := ok.cel n c z
    exact ⟨q, u, h1, e q u h2, h3, h4⟩, ok.inj, ok.fin⟩
theorem Le.side {H' : Hp} (e : HpLe w.H H') : Le w (w.side H') :=
  ⟨fun _ _ z => z, fun _ _ z => z, fun q u z _ => e q u z, fun q z => by
    cases hq : w.H q with
    | none => exact absurd hq z
    | some u =>
      show H' q ≠ none
      rw [e q u hq]; simp, fun _ z => .inl z, fun _ _ z => .inl z, fun _ z => .inl z⟩
/-- a new cell n at p -/
def Wd.cell (w : Wd) (n : Nat) (p : Addr) (c : Cell) (o : HO) : Wd := ⟨w.I, fun k => if k = n then some p else w.α k, put w.S n c, upd w.H p o⟩
theorem Wd.cell_α {n k : Nat} {c : Cell} {q : Addr} (h : w.α n = none) (e : w.α k = some q) : (w.cell n p c o).α k = some q := by
  have hk : k ≠ n := fun z => by rw [z, h] at e; cases e
  show (if k = n then some p else w.α k) = some q
  rw [if_neg hk]
  exact e
theorem Ok.cell {n : Nat} {c : Cell} (ok : Ok K w) (h : w.H p = none) (hn : w.α n = none) (r : CellR K w.I (w.cell n p c o).α c o) : Ok K (w.cell n p c o) := by
  have hI := ok.noI h
  refine ⟨fun q u e => ?_, fun k c' e => ?_, fun k j q hk hj ek ej => ?_, ?_⟩
  · have hq : q ≠ p := fun z => by rw [z] at e; have e : w.I p = some u := e; rw [hI] at e; cases e
    exact (upd_ne hq).trans (ok.sub q u e)
  · have e : put w.S n c k = some c' := e
    by_cases hk : k = n
    · subst hk
      rw [put_same] at e
      cases e
      exact ⟨p, o, if_pos rfl, upd_same, hI, r⟩
    · rw [put_ne hk] at e
      obtain ⟨q, u, h1, h2, h3, h4⟩ := ok.cel k c' e
      have hq : q ≠ p := fun z => by rw [z, h] at h2; cases h2
      exact ⟨q, u, (if_neg hk).trans h1, (upd_ne hq).trans h2, h3, h4.le (fun _ _ z => z) fun _ _ z => Wd.cell_α hn z⟩
  · have ek : (if k = n then some p else w.α k) = some q := ek
    have ej : (if j = n then some p else w.α j) = some q := ej
    have noA : ∀ i, put w.S n c i ≠ none → i ≠ n → w.α i ≠ some p := fun i hi hin z => by
      rw [put_ne hin] at hi
      cases hs : w.S i with
      | none => exact hi hs
      | some ci =>
        obtain ⟨q', u, h1, h2, _⟩ := ok.cel i ci hs
        rw [z] at h1
        cases h1
        rw [h] at h2
        cases h2
    by_cases h1 : k = n
    · by_cases h2 : j = n
      · rw [h1, h2]
      · rw [if_pos h1] at ek
        rw [if_neg h2] at ej
        cases ek
        exact absurd ej (noA j hj h2)
    · by_cases h2 : j = n
      · rw [if_pos h2] at ej
        rw [if_neg h1] at ek
        cases ej
        exact absurd ek (noA k hk h1)
      · rw [if_neg h1] at ek
        rw [if_neg h2] at ej
        exact ok.inj k j q (by have z : put w.S n c k ≠ none := hk; rwa [put_ne h1] at z) (by have z : put w.S n c j ≠ none := hj; rwa [put_ne h2] at z) ek ej
  · obtain ⟨N, hN⟩ := ok.fin
    refine ⟨max N (n + 1), fun k hk => ?_⟩
    show (if k = n then some p else w.α k) = none
    rw [if_neg (by omega)]
    exact hN k (by omega)
theorem Le.cell {n : Nat} {c : Cell} (h : w.H p = none) (hn : w.α n = none) : Le w (w.cell n p c o) := by
  refine ⟨fun _ _ z => z, fun _ _ z => Wd.cell_α hn z, fun q u e _ => ?_, fun q e => ?_, fun _ z => .inl z, fun k q e => ?_, fun k e => ?_⟩
  · have hq : q ≠ p := fun z => by rw [z, h] at e; cases e
    exact (upd_ne hq).trans e
  · show upd w.H p o q ≠ none
    by_cases hq : q = p
    · rw [hq, upd_same]; simp
    · rw [upd_ne hq]; exact e
  · have e : (if k = n then some p else w.α k) = some q := e
    by_cases hk : k = n
    · rw [if_pos hk] at e
      cases e
      rw [hk]
      exact .inr ⟨hn, h⟩
    · rw [if_neg hk] at e
      exact .inl e
  · have e : put w.S n c k ≠ none := e
    by_cases hk : k = n
    · rw [hk]; exact .inr hn
    · rw [put_ne hk] at e
      exact .inl e
theorem Ok.free (ok : Ok K w) : ∃ n, w.α n = none ∧ Fr w.S n := by
  obtain ⟨N, h⟩ := ok.fin
  refine ⟨N, h N (Nat.le_refl _), fun k hk => ?_⟩
  cases e : w.S k with
  | none => rfl
  | some c =>
    obtain ⟨q, u, h1, _⟩ := ok.cel k c e
    rw [h k hk] at h1
    cases h1
/-- the cell n changes -/
def Wd.set (w : Wd) (n : Nat) (p : Addr) (c : Cell) (o : HO) : Wd := ⟨w.I, w.α, put w.S n c, upd w.H p o⟩
theorem Ok.set {n : Nat} {c c0 : Cell} (ok : Ok K w) (hs : w.S n = some c0) (hp : w.α n = some p) (r : CellR K w.I w.α c o) : Ok K (w.set n p c o) := by
  obtain ⟨p', u0, a1, a2, a3, a4⟩ := ok.cel n c0 hs
  rw [hp] at a1
  cases a1
  refine ⟨fun q u e => ?_, fun k c' e => ?_, fun k j q hk hj ek ej => ?_, ok.fin⟩
  · have hq : q ≠ p := fun z => by rw [z] at e; have e : w.I p = some u := e; rw [a3] at e; cases e
    exact (upd_ne hq).trans (ok.sub q u e)
  · have e : put w.S n c k = some c' := e
    by_cases hk : k = n
    · subst hk
      rw [put_same] at e
      cases e
      exact ⟨p, o, hp, upd_same, a3, r⟩
    · rw [put_ne hk] at e
      obtain ⟨q, u, h1, h2, h3, h4⟩ := ok.cel k c' e
      have hq : q ≠ p := fun z => hk (ok.inj k n p (by rw [e]; simp) (by rw [hs]; simp) (by rw [← z]; exact h1) hp)
      exact ⟨q, u, h1, (upd_ne hq).trans h2, h3, h4⟩
  · have nn : ∀ i, put w.S n c i ≠ none → w.S i ≠ none := fun i hi => by
      by_cases h : i = n
      · rw [h, hs]; simp
      · rwa [put_ne h] at hi
    exact ok.inj k j q (nn k hk) (nn j hj) ek ej
theorem Le.set {n : Nat} {c c0 : Cell} (hs : w.S n = some c0) (hp : w.α n = some p) : Le w (w.set n p c o) := by
  refine ⟨fun _ _ z => z, fun _ _ z => z, fun q u e hq => ?_, fun q e => ?_, fun _ z => .inl z, fun _ _ z => .inl z, fun k e => ?_⟩
  · have hq' : q ≠ p := fun z => hq n (by rw [hs]; simp) (by rw [z]; exact hp)
    exact (upd_ne hq').trans e
  · show upd w.H p o q ≠ none
    by_cases hq : q = p
    · rw [hq, upd_same]; simp
    · rw [upd_ne hq]; exact e
  · have e : put w.S n c k ≠ none := e
    by_cases hk : k = n
    · rw [hk, hs]; exact .inl (by simp)
    · rw [put_ne hk] at e
      exact .inl e
/-- the cell n is frozen -/
def Wd.frz (w : Wd) (n : Nat) (p : Addr) (o : HO) : Wd := ⟨upd w.I p o, w.α, del w.S n, w.H⟩
theorem Ok.frz {n : Nat} {c0 : Cell} (ok : Ok K w) (hs : w.S n = some c0) (hp : w.α n = some p) (ho : w.H p = some o) : Ok K (w.frz n p o) := by
  obtain ⟨p', u0, a1, a2, a3, a4⟩ := ok.cel n c0 hs
  rw [hp] at a1
  cases a1
  refine ⟨fun q u e => ?_, fun k c' e => ?_, fun k j q hk hj ek ej => ?_, ok.fin⟩
  · have e : upd w.I p o q = some u := e
    by_cases hq : q = p
    · rw [hq, upd_same] at e
      cases e
      rw [hq]; exact ho
    · rw [upd_ne hq] at e
      exact ok.sub q u e
  · have e : del w.S n k = some c' := e
    by_cases hk : k = n
    · rw [hk, del_same] at e; cases e
    · rw [del_ne hk] at e
      obtain ⟨q, u, h1, h2, h3, h4⟩ := ok.cel k c' e
      have hq : q ≠ p := fun z => hk (ok.inj k n p (by rw [e]; simp) (by rw [hs]; simp) (by rw [← z]; exact h1) hp)
      exact ⟨q, u, h1, h2, (upd_ne hq).trans h3, h4.le (HpLe.upd a3) fun _ _ z => z⟩
  · have nn : ∀ i, del w.S n i ≠ none → w.S i ≠ none := fun i hi => by
      by_cases h : i = n
      · rw [h, hs]; simp
      · rwa [del_ne h] at hi
    exact ok.inj k j q (nn k hk) (nn j hj) ek ej
theorem Le.frz {n : Nat} {c0 : Cell} (ok : Ok K w) (hs : w.S n = some c0) (hp : w.α n = some p) : Le w (w.frz n p o) := by
  obtain ⟨p', u0, a1, a2, a3, a4⟩ := ok.cel n c0 hs
  rw [hp] at a1
  cases a1
  refine ⟨HpLe.upd a3, fun _ _ z => z, fun _ _ e _ => e, fun _ e => e, fun q e => ?_, fun _ _ z => .inl z, fun k e => ?_⟩
  · have e : upd w.I p o q ≠ none := e
    by_cases hq : q = p
    · rw [hq]; exact .inr (.inr (.inl ⟨n, by rw [hs]; simp, hp⟩))
    · rw [upd_ne hq] at e
      exact .inl e
  · have e : del w.S n k ≠ none := e
    by_cases hk : k = n
    · rw [hk, hs]; exact .inl (by simp)
    · rw [del_ne hk] at e
      exact .inl e
/-- cells dropped -/
def Wd.drop (w : Wd) (S : Sto) : Wd := ⟨w.I, w.α, S, w.H⟩
theorem Ok.drop {S : Sto} (ok : Ok K w) (h : Sub S w.S) : Ok K (w.drop S) := by
  have nn : ∀ i, S i ≠ none → w.S i ≠ none := fun i hi => by
    cases e : S i with
    | none => exact absurd e hi
    | some c => rw [h i c e]; simp
  exact ⟨ok.sub, fun n c e => ok.cel n c (h n c e), fun n m p a b => ok.inj n m p (nn n a) (nn m b), ok.fin⟩
theorem Le.drop {S : Sto} (h : Sub S w.S) : Le w (w.drop S) :=
  ⟨fun _ _ z => z, fun _ _ z => z, fun _ _ e _ => e, fun _ e => e, fun _ z => .inl z, fun _ _ z => .inl z, fun n e => .inl (by
    cases q : S n with
    | none => exact absurd q e
    | some c => rw [h n c q]; simp)⟩
end
end DL

set_option maxHeartbeats 4000000
namespace DL
open PySem PySem.Spec L2
/-! ## 4. Readings over data, and what they are worth over the heap -/
abbrev DE := Lo → Sto → (D → Sto → Prop) → (Err → Sto → Prop) → Prop
abbrev DA := Lo → Sto → (List D → Sto → Prop) → (Err → Sto → Prop) → Prop
abbrev DT := Lo → Sto → (Bool → Sto → Prop) → (Err → Sto → Prop) → Prop
structure DEnds where
  nx : Lo → Sto → Prop
  rt : D → Sto → Prop
  bk : Lo → Sto → Prop
  ct : Lo → Sto → Prop
  ex : Err → Lo → Sto → Prop
abbrev DS := DEnds → Lo → Sto → Prop
abbrev DFn := List D → Sto → (D → Sto → Prop) → (Err → Sto → Prop) → Prop

def LoR (K : PySem.W.Frag) (w : Wd) (σ : L2.St) (δ : Lo) : Prop := σ.length = δ.length ∧ ∀ (i : Nat) (d : D), δ[i]? = some (some d) → ∃ v, σ[i]? = some (some v) ∧ Rp K w.I w.α v d
def ErR (K : PySem.W.Frag) (w : Wd) (er : Err) (dx : Addr) : Prop := ∃ vs, w.I dx = some (.xd vs) ∧ RpF K w.I w.α vs er.fs
def eC (K : PySem.W.Frag) (W : WX) (σ : L2.St) (w : Wd) (Ed : Err → Sto → Prop) : Prop := ∀ er w' dx, Ed er w'.S → Le w w' → Ok K w' → ErR K w' er dx → W (.ref er.C) (some dx) σ w'.H
section
variable {K : PySem.W.Frag} {W : WX} {w w' : Wd} {σ : L2.St} {δ : Lo} {Ed : Err → Sto → Prop}
theorem LoR.up (h : LoR K w σ δ) (l : Le w w') : LoR K w' σ δ := ⟨h.1, fun i d e => by
  obtain ⟨v, a, r⟩ := h.2 i d e
  exact ⟨v, a, r.up l⟩⟩
theorem LoR.set (h : LoR K w σ δ) (i : Nat) {v : V} {d : D} (r : Rp K w.I w.α v d) : LoR K w (σ.set i (some v)) (δ.set i (some d)) := by
  refine ⟨by rw [List.length_set, List.length_set]; exact h.1, fun j e hj => ?_⟩
  by_cases hij : i = j
  · subst hij
    by_cases hi : i < δ.length
    · rw [List.getElem?_set_self hi] at hj
      cases hj
      exact ⟨v, by rw [List.getElem?_set_self (by rw [h.1]; exact hi)], r⟩
    · rw [List.getElem?_eq_none (by rw [List.length_set]; omega)] at hj
      cases hj
  · rw [List.getElem?_set_ne hij] at hj ⊢
    exact h.2 j e hj
theorem LoR.non (h : LoR K w σ δ) (i : Nat) {o : Option V} : LoR K w (σ.set i o) (δ.set i none) := by
  refine ⟨by rw [List.length_set, List.length_set]; exact h.1, fun j e hj => ?_⟩
  by_cases hij : i = j
  · subst hij
    by_cases hi : i < δ.length
    · rw [List.getElem?_set_self hi] at hj
      cases hj
    · rw [List.getElem?_eq_none (by rw [List.length_set]; omega)] at hj
      cases hj
  · rw [List.getElem?_set_ne hij] at hj ⊢
    exact h.2 j e hj
theorem eC.up (h : eC K W σ w Ed) (l : Le w w') : eC K W σ w' Ed := fun er w2 dx a b c d => h er w2 dx a (l.trans b) c d
end
def toE (K : PySem.W.Frag) (W : WX) (t : DE) : TE := fun σ H Q => ∃ (w : Wd) (δ : Lo) (Qd : D → Sto → Prop) (Ed : Err → Sto → Prop), w.H = H ∧ Ok K w ∧ LoR K w σ δ ∧ t δ w.S Qd Ed ∧
  (∀ d v w', Qd d w'.S → Le w w' → Ok K w' → Rp K w'.I w'.α v d → Q v w'.H) ∧ eC K W σ w Ed
def toA (K : PySem.W.Frag) (W : WX) (t : DA) : TA := fun σ H Q => ∃ (w : Wd) (δ : Lo) (Qd : List D → Sto → Prop) (Ed : Err → Sto → Prop), w.H = H ∧ Ok K w ∧ LoR K w σ δ ∧ t δ w.S Qd Ed ∧
  (∀ ds vs w', Qd ds w'.S → Le w w' → Ok K w' → RpL K w'.I w'.α vs ds → Q vs w'.H) ∧ eC K W σ w Ed
def toT (K : PySem.W.Frag) (W : WX) (t : DT) : TT := fun σ H Q => ∃ (w : Wd) (δ : Lo) (Qd : Bool → Sto → Prop) (Ed : Err → Sto → Prop), w.H = H ∧ Ok K w ∧ LoR K w σ δ ∧ t δ w.S Qd Ed ∧
  (∀ b w', Qd b w'.S → Le w w' → Ok K w' → Q b w'.H) ∧ eC K W σ w Ed
/-- a new list, not yet frozen, not yet a cell -/
def toF (K : PySem.W.Frag) (W : WX) (t : DA) : TE := fun σ H Q => ∃ (w : Wd) (δ : Lo) (Qd : List D → Sto → Prop) (Ed : Err → Sto → Prop), w.H = H ∧ Ok K w ∧ LoR K w σ δ ∧ t δ w.S Qd Ed ∧
  (∀ ds vs p w', Qd ds w'.S → Le w w' → Ok K w' → RpL K w'.I w'.α vs ds → w'.H p = some (.lst vs) → w.H p = none → w'.I p = none → (∀ n, w'.S n ≠ none → w'.α n ≠ some p) → Q (.ref p) w'.H) ∧ eC K W σ w Ed
theorem pimp {X : Cx} {e : Expr} {t t' : TE} (h : PE X e t) (f : ∀ σ H Q, t' σ H Q → t σ H Q) : PE X e t' := ⟨fun pins s σ H Q I q => h.run pins s σ H Q I (f _ _ _ q)⟩
theorem pimpA {X : Cx} {e : List Expr} {t t' : TA} (h : PA X e t) (f : ∀ σ H Q, t' σ H Q → t σ H Q) : PA X e t' := ⟨fun pos pins s σ H Q I q => h.run pos pins s σ H Q I (f _ _ _ q)⟩
theorem pimpT {X : Cx} {e : Expr} {t t' : TT} (h : PT X e t) (f : ∀ σ H Q, t' σ H Q → t σ H Q) : PT X e t' := ⟨fun pins s σ H Q I q => h.run pins s σ H Q I (f _ _ _ q)⟩
theorem pimpW {X : Cx} {e : Expr} {t t' : TT} (h : PW X e t) (f : ∀ σ H Q, t' σ H Q → t σ H Q) : PW X e t' := ⟨fun wh pins s σ H Q I q => h.run wh pins s σ H Q I (f _ _ _ q)⟩

/-! ### names, constants -/
def dVar (i : Nat) : DE := fun δ S Q _ => match δ[i]? with
  | some (some d) => Q d S
  | _ => False
def dC (d : D) : DE := fun _ S Q _ => Q d S
section
variable {X : Cx} {W : WX}
theorem toE_var {K : PySem.W.Frag} {i : Nat} (σ : L2.St) (H : Hp) (Q : VK) (h : toE K W (dVar i) σ H Q) : tVar i σ H Q := by
  obtain ⟨w, δ, Qd, Ed, rfl, ok, lo, t, q, _⟩ := h
  unfold dVar at t
  split at t
  · rename_i d hd
    obtain ⟨v, e, r⟩ := lo.2 i d hd
    exact ⟨v, e, q d v w t (.refl w) ok r⟩
  · exact t.elim
theorem de_var (i : Nat) {x : Str} {pos : Pos} (hN : X.N[i]? = some x := by rfl) (hv : Vis X.env.scope x := by first | exact Or.inl rfl | exact Or.inr (Or.inl rfl) | exact Or.inr (Or.inr rfl)) (hd : (x == ("__debug__" : Str)) = false := by decide)
    (hcd : (x == ("__classdict__" : Str)) = false := by decide) : PE X (.Name x pos) (toE X.K W (dVar i)) := pimp (pv i hN hv hd hcd) toE_var
theorem toE_c {K : PySem.W.Frag} {v : V} {d : D} (r : ∀ I α, Rp K I α v d) (σ : L2.St) (H : Hp) (Q : VK) (h : toE K W (dC d) σ H Q) : tC v σ H Q := by
  obtain ⟨w, δ, Qd, Ed, rfl, ok, lo, t, q, _⟩ := h
  exact q d v w t (.refl w) ok (r _ _)
theorem de_int {i j pos} : PE X (.Constant (.int i) j pos) (toE X.K W (dC (.int i))) := pimp pe_int (toE_c fun _ _ => .int i)
theorem de_bl {b j pos} : PE X (.Constant (.bool b) j pos) (toE X.K W (dC (.bl b))) := pimp pe_bl (toE_c fun _ _ => .bl b)
theorem de_non {j pos} : PE X (.Constant .none j pos) (toE X.K W (dC .non)) := pimp pe_non (toE_c fun _ _ => .non)
theorem de_str {x j pos} : PE X (.Constant (.str x) j pos) (toE X.K W (dC (.str x))) := pimp pe_str (toE_c fun _ _ => .str x)
theorem de_glob {x : Str} {v : V} {u : Value} {d : D} {pos : Pos} (hg : Gl X x) (hm : X.mg x = some u) (r : RelV v u) (rd : ∀ I α, Rp X.K I α v d) (hd : (x == ("__debug__" : Str)) = false := by decide) : PE X (.Name x pos) (toE X.K W (dC d)) :=
  pimp (pe_glob hg hm r hd) (toE_c rd)
theorem de_bltn {x : Str} {v : V} {u : Value} {pos : Pos} (hg : Gl X x) (hm : X.mg x = none) (hv : bootBuiltins x = some u) (r : RelV v u) (hn : x ≠ "__name__" := by decide) (hd : (x == ("__debug__" : Str)) = false := by decide) : PE X (.Name x pos) (toE X.K W (dC (.cv v))) :=
  pimp (pe_bltn hg hm hv r hn hd) (toE_c fun _ _ => .cv v)
end

/-! ### operators -/
abbrev DOp := Sto → D → D → (D → Prop) → Prop
/-- the operator's rule over the heap keeps what is said over data -/
def SemOp (K : PySem.W.Frag) (r : R2) (f : DOp) : Prop := ∀ (w : Wd) (x y : V) (d e : D) (Qd : D → Prop) (Q : VK), Ok K w → Rp K w.I w.α x d → Rp K w.I w.α y e → f w.S d e Qd →
  (∀ z v w', Qd z → Le w w' → w'.S = w.S → Ok K w' → Rp K w'.I w'.α v z → Q v w'.H) → r x y w.H Q
def dBin (f : DOp) (a b : DE) : DE := fun δ S Q E => a δ S (fun x S1 => b δ S1 (fun y S2 => f S2 x y fun z => Q z S2) E) E
theorem toE_bin {K : PySem.W.Frag} {W : WX} {r : R2} {f : DOp} (hs : SemOp K r f) {a b : DE} (σ : L2.St) (H : Hp) (Q : VK) (h : toE K W (dBin f a b) σ H Q) : tOp r (toE K W a) (toE K W b) σ H Q := by
  obtain ⟨w, δ, Qd, Ed, rfl, ok, lo, t, q, ec⟩ := h
  refine ⟨w, δ, _, Ed, rfl, ok, lo, t, fun x v w1 t1 l1 ok1 r1 => ?_, ec⟩
  refine ⟨w1, δ, _, Ed, rfl, ok1, lo.up l1, t1, fun y u w2 t2 l2 ok2 r2 => ?_, ec.up l1⟩
  refine hs w2 v u x y _ Q ok2 (r1.up l2) r2 t2 fun z v3 w3 h3 l3 e3 ok3 r3 => ?_
  exact q z v3 w3 (by rw [e3]; exact h3) ((l1.trans l2).trans l3) ok3 r3
section
variable {X : Cx} {W : WX} {a b : Expr} {ta tb : DE} {pos : Pos}
theorem de_bin {op : Operator} {r : R2} {f : DOp} (ho : OpR X (binaryOp op) r) (hs : SemOp X.K r f) (ha : PE X a (toE X.K W ta)) (hb : PE X b (toE X.K W tb)) : PE X (.BinOp a op b pos) (toE X.K W (dBin f ta tb)) := pimp (pe_op ho ha hb) (toE_bin hs)
theorem de_cmp {op : CmpOp} {r : R2} {f : DOp} (ho : OpR X (compareOp op) r) (hs : SemOp X.K r f) (ha : PE X a (toE X.K W ta)) (hb : PE X b (toE X.K W tb)) (hm : behindInMarks op b = false) : PE X (.Compare a [op] [b] pos) (toE X.K W (dBin f ta tb)) :=
  pimp (pe_cmpR ho ha hb hm) (toE_bin hs)
theorem de_ix {r : R2} {f : DOp} (ho : IxR X r) (hs : SemOp X.K r f) (ha : PE X a (toE X.K W ta)) (hb : PE X b (toE X.K W tb)) (hp : PlainIx b) : PE X (.Subscript a b pos) (toE X.K W (dBin f ta tb)) := pimp (pe_ix ho ha hb hp) (toE_bin hs)
/-- the value of a test is a bool -/
def dB (t : DE) : DT := fun δ S Q E => t δ S (fun d S1 => match d with
  | .bl b => Q b S1
  | _ => False) E
theorem toT_test {K : PySem.W.Frag} {t : DE} (σ : L2.St) (H : Hp) (Q : Bool → Hp → Prop) (h : toT K W (dB t) σ H Q) : tTest (toE K W t) σ H Q := by
  obtain ⟨w, δ, Qd, Ed, rfl, ok, lo, t, q, ec⟩ := h
  refine ⟨w, δ, _, Ed, rfl, ok, lo, t, fun x v w1 t1 l1 ok1 r1 => ?_, ec⟩
  cases x with
  | bl b =>
    cases r1
    exact ⟨b, rfl, q b w1 t1 l1 ok1⟩
  | _ => exact t1.elim
theorem tTest_mono {t t' : TE} (f : ∀ σ H Q, t' σ H Q → t σ H Q) (σ : L2.St) (H : Hp) (Q : Bool → Hp → Prop) (h : tTest t' σ H Q) : tTest t σ H Q := f _ _ _ h
theorem dt_cmp {op : CmpOp} {r : R2} {f : DOp} (ho : OpR X (compareOp op) r) (hs : SemOp X.K r f) (ha : PE X a (toE X.K W ta)) (hb : PE X b (toE X.K W tb)) (hm : behindInMarks op b = false) : PT X (.Compare a [op] [b] pos) (toT X.K W (dB (dBin f ta tb))) :=
  pimpT (pt_cmpR ho ha hb hm) fun σ H Q h => tTest_mono (toE_bin hs) σ H Q (toT_test σ H Q h)
end
/-- one place -/
abbrev DUn := Sto → D → (D → Prop) → Prop
def SemUn (K : PySem.W.Frag) (r : V → Hp → VK → Prop) (f : DUn) : Prop := ∀ (w : Wd) (x : V) (d : D) (Qd : D → Prop) (Q : VK), Ok K w → Rp K w.I w.α x d → f w.S d Qd →
  (∀ z v w', Qd z → Le w w' → w'.S = w.S → Ok K w' → Rp K w'.I w'.α v z → Q v w'.H) → r x w.H Q
def dUn (f : DUn) (a : DE) : DE := fun δ S Q E => a δ S (fun x S1 => f S1 x fun z => Q z S1) E
theorem toE_un {K : PySem.W.Frag} {W : WX} {r : V → Hp → VK → Prop} {f : DUn} (hs : SemUn K r f) {a : DE} (σ : L2.St) (H : Hp) (Q : VK) (h : toE K W (dUn f a) σ H Q) : tUn r (toE K W a) σ H Q := by
  obtain ⟨w, δ, Qd, Ed, rfl, ok, lo, t, q, ec⟩ := h
  refine ⟨w, δ, _, Ed, rfl, ok, lo, t, fun x v w1 t1 l1 ok1 r1 => ?_, ec⟩
  refine hs w1 v x _ Q ok1 r1 t1 fun z v3 w3 h3 l3 e3 ok3 r3 => ?_
  exact q z v3 w3 (by rw [e3]; exact h3) (l1.trans l3) ok3 r3

/-! ### arguments, calls of what stands on the heap alone -/
def dNil : DA := fun _ S Q _ => Q [] S
def dCons (a : DE) (r : DA) : DA := fun δ S Q E => a δ S (fun x S1 => r δ S1 (fun xs S2 => Q (x :: xs) S2) E) E
section
variable {X : Cx} {W : WX} {e : Expr} {es : List Expr} {te : DE} {ta : DA} {pos : Pos}
theorem da_nil : PA X [] (toA X.K W dNil) := pimpA pa_nil fun σ H Q h => by
  obtain ⟨w, δ, Qd, Ed, rfl, ok, lo, t, q, _⟩ := h
  exact q [] [] w t (.refl w) ok .nil
theorem da_cons (ha : PE X e (toE X.K W te)) (hr : PA X es (toA X.K W ta)) (hs : starEach (e :: es) X.env = (false, eval e X.env) :: starEach es X.env := by rfl) : PA X (e :: es) (toA X.K W (dCons te ta)) := pimpA (pa_cons ha hr hs) fun σ H Q h => by
  obtain ⟨w, δ, Qd, Ed, rfl, ok, lo, t, q, ec⟩ := h
  refine ⟨w, δ, _, Ed, rfl, ok, lo, t, fun x v w1 t1 l1 ok1 r1 => ?_, ec⟩
  refine ⟨w1, δ, _, Ed, rfl, ok1, lo.up l1, t1, fun y u w2 t2 l2 ok2 r2 => ?_, ec.up l1⟩
  exact q (x :: y) (v :: u) w2 t2 (l1.trans l2) ok2 (.cons (r1.up l2) r2)
end
abbrev DCl := Sto → List D → (D → Prop) → Prop
def SemCl (K : PySem.W.Frag) (r : List V → Hp → VK → Prop) (f : DCl) : Prop := ∀ (w : Wd) (xs : List V) (ds : List D) (Qd : D → Prop) (Q : VK), Ok K w → RpL K w.I w.α xs ds → f w.S ds Qd →
  (∀ z v w', Qd z → Le w w' → w'.S = w.S → Ok K w' → Rp K w'.I w'.α v z → Q v w'.H) → r xs w.H Q
def dCl (f : DCl) (a : DA) : DE := fun δ S Q E => a δ S (fun xs S1 => f S1 xs fun z => Q z S1) E
theorem toE_cl {K : PySem.W.Frag} {W : WX} {r : List V → Hp → VK → Prop} {f : DCl} (hs : SemCl K r f) {a : DA} (σ : L2.St) (H : Hp) (Q : VK) (h : toE K W (dCl f a) σ H Q) : tCB r (toA K W a) σ H Q := by
  obtain ⟨w, δ, Qd, Ed, rfl, ok, lo, t, q, ec⟩ := h
  refine ⟨w, δ, _, Ed, rfl, ok, lo, t, fun x v w1 t1 l1 ok1 r1 => ?_, ec⟩
  refine hs w1 v x _ Q ok1 r1 t1 fun z v3 w3 h3 l3 e3 ok3 r3 => ?_
  exact q z v3 w3 (by rw [e3]; exact h3) (l1.trans l3) ok3 r3
section
variable {X : Cx} {W : WX} {e : Expr} {es : List Expr} {ta : DA} {p pos : Pos} {x : Str} {id T : String} {r : List V → Hp → VK → Prop} {f : DCl}
theorem de_callB (hc : CallR X (.builtin id) r) (hs : SemCl X.K r f) (hg : Gl X x) (hm : X.mg x = none) (hv : bootBuiltins x = some (.builtin id)) (ha : PA X (e :: es) (toA X.K W ta)) (hn : x ≠ "__name__" := by decide) (hdb : (x == ("__debug__" : Str)) = false := by decide)
    (he : starEach (e :: es) X.env = (false, eval e X.env) :: starEach es X.env := by rfl) (hpl : (backTo pos (starEach es X.env)).any (·.1) = false := by rfl) : PE X (.Call (.Name x p) (e :: es) [] pos) (toE X.K W (dCl f ta)) :=
  pimp (pe_callB hc hg hm hv ha hn hdb he hpl) (toE_cl hs)
theorem de_callTy (hc : CallR X (.type T) r) (hs : SemCl X.K r f) (hg : Gl X x) (hm : X.mg x = none) (hv : bootBuiltins x = some (.type T)) (ha : PA X (e :: es) (toA X.K W ta)) (hn : x ≠ "__name__" := by decide) (hdb : (x == ("__debug__" : Str)) = false := by decide)
    (he : starEach (e :: es) X.env = (false, eval e X.env) :: starEach es X.env := by rfl) (hpl : (backTo pos (starEach es X.env)).any (·.1) = false := by rfl) : PE X (.Call (.Name x p) (e :: es) [] pos) (toE X.K W (dCl f ta)) :=
  pimp (pe_callTy hc hg hm hv ha hn hdb he hpl) (toE_cl hs)
end

/-! ### displays -/
def dTup (a : DA) : DE := fun δ S Q E => a δ S (fun xs S1 => xs.length ≤ sizeLine ∧ Q (.tup xs) S1) E
def dLst (a : DA) : DA := fun δ S Q E => a δ S (fun xs S1 => xs.length ≤ sizeLine ∧ Q xs S1) E
/-- a new list as a datum; as a cell -/
def dFz (a : DA) : DE := fun δ S Q E => a δ S (fun xs S1 => Q (.lst xs) S1) E
def dNew (a : DA) : DE := fun δ S Q E => a δ S (fun xs S1 => ∀ n, Fr S1 n → Q (.m n) (put S1 n (.lst xs))) E
section
variable {X : Cx} {W : WX} {es : List Expr} {ta : DA} {pos : Pos}
theorem de_tup {x1} (h : PA X es (toA X.K W ta)) : PE X (.Tuple es x1 pos) (toE X.K W (dTup ta)) := pimp (pe_tup h) fun σ H Q h => by
  obtain ⟨w, δ, Qd, Ed, rfl, ok, lo, t, q, ec⟩ := h
  refine ⟨w, δ, _, Ed, rfl, ok, lo, t, fun xs vs w1 t1 l1 ok1 r1 => ⟨by rw [r1.length]; exact t1.1, fun p hp => ?_⟩, ec⟩
  refine q (.tup xs) (.ref p) (w1.lay p (.tup vs)) t1.2 (l1.trans (.lay ok1 hp)) (ok1.lay hp) ?_
  exact .tupN upd_same (r1.up (.lay ok1 hp))
theorem df_lst (h : PA X es (toA X.K W ta)) : PE X (.List es pos) (toF X.K W (dLst ta)) := pimp (pe_lst h) fun σ H Q h => by
  obtain ⟨w, δ, Qd, Ed, rfl, ok, lo, t, q, ec⟩ := h
  refine ⟨w, δ, _, Ed, rfl, ok, lo, t, fun xs vs w1 t1 l1 ok1 r1 => ⟨by rw [r1.length]; exact t1.1, fun p hp => ?_⟩, ec⟩
  have e : HpLe w1.H (upd w1.H p (.lst vs)) := HpLe.upd hp
  refine q xs vs p (w1.side (upd w1.H p (.lst vs))) t1.2 (l1.trans (.side e)) (ok1.side e) r1 upd_same ?_ (ok1.noI hp) fun n hn hα => ?_
  · cases z : w.H p with
    | none => rfl
    | some o => exact absurd hp (l1.there p (by rw [z]; simp))
  · cases z : w1.S n with
    | none => exact hn z
    | some c =>
      obtain ⟨q', u, h1, h2, _⟩ := ok1.cel n c z
      have hα' : w1.α n = some p := hα
      rw [h1] at hα'
      cases hα'
      rw [hp] at h2
      cases h2
end
section
variable {K : PySem.W.Frag} {w : Wd} {p : Addr} {vs : List V}
/-- an object that stands beside is known from now on -/
theorem Ok.know {o : HO} (ok : Ok K w) (hp : w.H p = some o) (hI : w.I p = none) (hn : ∀ n, w.S n ≠ none → w.α n ≠ some p) : Ok K ⟨upd w.I p o, w.α, w.S, w.H⟩ := by
  refine ⟨fun q u e => ?_, fun n c e => ?_, ok.inj, ok.fin⟩
  · have e : upd w.I p o q = some u := e
    by_cases hq : q = p
    · rw [hq, upd_same] at e
      cases e
      rw [hq]; exact hp
    · rw [upd_ne hq] at e
      exact ok.sub q u e
  · obtain ⟨q, u, h1, h2, h3, h4⟩ := ok.cel n c e
    have hq : q ≠ p := fun z => hn n (by have e : w.S n = some c := e; rw [e]; simp) (by rw [← z]; exact h1)
    exact ⟨q, u, h1, h2, (upd_ne hq).trans h3, h4.le (HpLe.upd hI) fun _ _ z => z⟩
/-- .. a cell from now on -/
theorem Ok.grip {n : Nat} {c : Cell} {o : HO} (ok : Ok K w) (hp : w.H p = some o) (hI : w.I p = none) (hα : w.α n = none) (hn : ∀ n, w.S n ≠ none → w.α n ≠ some p)
    (r : CellR K w.I (fun k => if k = n then some p else w.α k) c o) : Ok K ⟨w.I, fun k => if k = n then some p else w.α k, put w.S n c, w.H⟩ := by
  have up : ∀ k q, w.α k = some q → (if k = n then some p else w.α k) = some q := fun k q e => by
    have hk : k ≠ n := fun z => by rw [z, hα] at e; cases e
    rw [if_neg hk]; exact e
  refine ⟨ok.sub, fun k c' e => ?_, fun k j q hk hj ek ej => ?_, ?_⟩
  · have e : put w.S n c k = some c' := e
    by_cases hk : k = n
    · subst hk
      rw [put_same] at e
      cases e
      exact ⟨p, o, if_pos rfl, hp, hI, r⟩
    · rw [put_ne hk] at e
      obtain ⟨q, u, h1, h2, h3, h4⟩ := ok.cel k c' e
      exact ⟨q, u, (if_neg hk).trans h1, h2, h3, h4.le (fun _ _ z => z) up⟩
  · have ek : (if k = n then some p else w.α k) = some q := ek
    have ej : (if j = n then some p else w.α j) = some q := ej
    have hk : put w.S n c k ≠ none := hk
    have hj : put w.S n c j ≠ none := hj
    by_cases h1 : k = n
    · by_cases h2 : j = n
      · rw [h1, h2]
      · rw [if_pos h1] at ek
        rw [if_neg h2] at ej
        rw [put_ne h2] at hj
        cases ek
        exact absurd ej (hn j hj)
    · by_cases h2 : j = n
      · rw [if_pos h2] at ej
        rw [if_neg h1] at ek
        rw [put_ne h1] at hk
        cases ej
        exact absurd ek (hn k hk)
      · rw [if_neg h1] at ek
        rw [if_neg h2] at ej
        rw [put_ne h1] at hk
        rw [put_ne h2] at hj
        exact ok.inj k j q hk hj ek ej
  · obtain ⟨N, hN⟩ := ok.fin
    refine ⟨max N (n + 1), fun k hk => ?_⟩
    show (if k = n then some p else w.α k) = none
    rw [if_neg (by omega)]
    exact hN k (by omega)
end
section
variable {X : Cx} {W : WX} {e : Expr} {ta : DA} {pos : Pos}
theorem Le.newly {K : PySem.W.Frag} {w w1 : Wd} {p : Addr} {I' : Hp} {α' : Am} {S' : Sto} (l : Le w w1) (h0 : w.H p = none) (hI : ∀ q u, w1.I q = some u → I' q = some u) (hI2 : ∀ q, I' q ≠ none → w1.I q ≠ none ∨ q = p)
    (hα : ∀ n q, w1.α n = some q → α' n = some q) (hα2 : ∀ n q, α' n = some q → w1.α n = some q ∨ (w1.α n = none ∧ q = p)) (hS : ∀ n, S' n ≠ none → w1.S n ≠ none ∨ w1.α n = none) : Le w ⟨I', α', S', w1.H⟩ := by
  refine ⟨fun q u z => hI q u (l.ii q u z), fun n q z => hα n q (l.aa n q z), l.hh, l.there, fun q z => ?_, fun n q z => ?_, fun n z => ?_⟩
  · rcases hI2 q z with y | y
    · exact l.newI q y
    · rw [y]; exact .inr (.inl h0)
  · rcases hα2 n q z with y | ⟨y, y2⟩
    · exact l.newA n q y
    · refine .inr ⟨?_, by rw [y2]; exact h0⟩
      cases e : w.α n with
      | none => rfl
      | some q' => rw [l.aa n q' e] at y; cases y
  · rcases hS n z with y | y
    · exact l.dom n y
    · refine .inr ?_
      cases e : w.α n with
      | none => rfl
      | some q' => rw [l.aa n q' e] at y; cases y
theorem de_fz (h : PE X e (toF X.K W ta)) : PE X e (toE X.K W (dFz ta)) := pimp h fun σ H Q h => by
  obtain ⟨w, δ, Qd, Ed, rfl, ok, lo, t, q, ec⟩ := h
  refine ⟨w, δ, _, Ed, rfl, ok, lo, t, fun xs vs p w1 t1 l1 ok1 r1 hp h0 hI hn => ?_, ec⟩
  refine q (.lst xs) (.ref p) ⟨upd w1.I p (.lst vs), w1.α, w1.S, w1.H⟩ t1 ?_ (ok1.know hp hI hn) (.lst upd_same (r1.le (HpLe.upd hI) fun _ _ z => z))
  refine l1.newly (K := X.K) h0 (HpLe.upd hI) (fun q' z => ?_) (fun _ _ z => z) (fun _ _ z => .inl z) fun _ z => .inl z
  by_cases hq : q' = p
  · exact .inr hq
  · rw [upd_ne hq] at z; exact .inl z
theorem de_new (h : PE X e (toF X.K W ta)) : PE X e (toE X.K W (dNew ta)) := pimp h fun σ H Q h => by
  obtain ⟨w, δ, Qd, Ed, rfl, ok, lo, t, q, ec⟩ := h
  refine ⟨w, δ, _, Ed, rfl, ok, lo, t, fun xs vs p w1 t1 l1 ok1 r1 hp h0 hI hn => ?_, ec⟩
  obtain ⟨n, hα, hS⟩ := ok1.free
  have up : ∀ k q, w1.α k = some q → (if k = n then some p else w1.α k) = some q := fun k q e => by
    have hk : k ≠ n := fun z => by rw [z, hα] at e; cases e
    rw [if_neg hk]; exact e
  refine q (.m n) (.ref p) ⟨w1.I, fun k => if k = n then some p else w1.α k, put w1.S n (.lst xs), w1.H⟩ (t1 n hS) ?_ (ok1.grip hp hI hα hn ⟨vs, rfl, r1.le (fun _ _ z => z) up⟩) (.m (if_pos rfl))
  refine l1.newly (K := X.K) h0 (fun _ _ z => z) (fun _ z => .inl z) up (fun k q' z => ?_) fun k z => ?_
  · have z : (if k = n then some p else w1.α k) = some q' := z
    by_cases hk : k = n
    · rw [if_pos hk] at z
      cases z
      rw [hk]
      exact .inr ⟨hα, rfl⟩
    · rw [if_neg hk] at z
      exact .inl z
  · have z : put w1.S n (.lst xs) k ≠ none := z
    by_cases hk : k = n
    · rw [hk]; exact .inr hα
    · rw [put_ne hk] at z
      exact .inl z
end
end DL

set_option maxHeartbeats 4000000
namespace DL
open PySem PySem.Spec L2
/-! ## 5. The operators on data -/
/-- a list that may stand beside another one in +, * -/
def asL (S : Sto) : D → Option (List D)
  | .lst ds => some ds
  | .m n => match S n with
    | some (.lst ds) => some ds
    | _ => none
  | _ => none
/-- a list that is read -/
def asR (S : Sto) : D → Option (List D)
  | .lst ds => some ds
  | .rol ds => some ds
  | .m n => match S n with
    | some (.lst ds) => some ds
    | _ => none
  | _ => none
def opt {A : Type} (o : Option A) (k : A → Prop) : Prop := match o with
  | some a => k a
  | none => False
section
variable {K : PySem.W.Frag} {w w' : Wd} {v : V} {d : D} {ds : List D}
theorem Ok.celL (ok : Ok K w) {n : Nat} (h : w.S n = some (.lst ds)) : ∃ p vs, w.α n = some p ∧ w.H p = some (.lst vs) ∧ RpL K w.I w.α vs ds := by
  obtain ⟨p, o, h1, h2, _, vs, rfl, r⟩ := ok.cel n _ h
  exact ⟨p, vs, h1, h2, r⟩
theorem asL_sem (ok : Ok K w) (r : Rp K w.I w.α v d) (h : asL w.S d = some ds) : ∃ p vs, v = .ref p ∧ w.H p = some (.lst vs) ∧ RpL K w.I w.α vs ds := by
  cases d with
  | lst xs =>
    cases h
    obtain ⟨p, vs, rfl, hp, r⟩ := r.lst'
    exact ⟨p, vs, rfl, ok.sub _ _ hp, r⟩
  | m n =>
    unfold asL at h
    cases e : w.S n with
    | none => simp [e] at h
    | some c =>
      cases c with
      | ins => simp [e] at h
      | dT => simp [e] at h
      | dK => simp [e] at h
      | lst xs =>
        simp only [e] at h
        cases h
        obtain ⟨p, rfl, hp⟩ := r.m'
        obtain ⟨q, vs, h1, h2, h3⟩ := ok.celL e
        rw [hp] at h1
        cases h1
        exact ⟨p, vs, rfl, h2, h3⟩
  | _ => cases h
theorem asR_sem (ok : Ok K w) (r : Rp K w.I w.α v d) (h : asR w.S d = some ds) : ∃ p vs, v = .ref p ∧ SqL K w.H p vs ∧ RpL K w.I w.α vs ds := by
  cases d with
  | rol xs =>
    cases h
    obtain ⟨p, vs, rfl, hp, r⟩ := r.rol'
    exact ⟨p, vs, rfl, ok.sqL hp, r⟩
  | lst xs =>
    obtain ⟨p, vs, e, hp, r⟩ := asL_sem ok r (d := .lst xs) (by exact h)
    exact ⟨p, vs, e, SqL.of hp, r⟩
  | m n =>
    obtain ⟨p, vs, e, hp, r⟩ := asL_sem ok r (d := .m n) (by exact h)
    exact ⟨p, vs, e, SqL.of hp, r⟩
  | _ => cases h
theorem opt_of {A : Type} {o : Option A} {k : A → Prop} (h : opt o k) : ∃ a, o = some a ∧ k a := by
  cases o with
  | none => exact h.elim
  | some a => exact ⟨a, rfl, h⟩
/-- new frozen objects -/
theorem lay_tup {Qd : D → Prop} {Q : VK} {p : Addr} {vs : List V} (ok : Ok K w) (r : RpL K w.I w.α vs ds) (h : Qd (.tup ds)) (q : ∀ z v w', Qd z → Le w w' → w'.S = w.S → Ok K w' → Rp K w'.I w'.α v z → Q v w'.H) (hp : w.H p = none) : Q (.ref p) (upd w.H p (.tup vs)) :=
  q (.tup ds) (.ref p) (w.lay p (.tup vs)) h (.lay ok hp) rfl (ok.lay hp) (.tupN upd_same (r.up (.lay ok hp)))
theorem lay_lst {Qd : D → Prop} {Q : VK} {p : Addr} {vs : List V} (ok : Ok K w) (r : RpL K w.I w.α vs ds) (h : Qd (.lst ds)) (q : ∀ z v w', Qd z → Le w w' → w'.S = w.S → Ok K w' → Rp K w'.I w'.α v z → Q v w'.H) (hp : w.H p = none) : Q (.ref p) (upd w.H p (.lst vs)) :=
  q (.lst ds) (.ref p) (w.lay p (.lst vs)) h (.lay ok hp) rfl (ok.lay hp) (.lst upd_same (r.up (.lay ok hp)))
end
/-! ### arithmetic -/
def oAdd : DOp := fun S x y k => match x with
  | .int i => (match y with | .int j => k (.int (i + j)) | _ => False)
  | .str a => (match y with | .str b => a.length + b.length ≤ sizeLine ∧ k (.str (a ++ b)) | _ => False)
  | .tup a => (match y with | .tup b => a.length + b.length ≤ sizeLine ∧ k (.tup (a ++ b)) | _ => False)
  | .lst a => opt (asL S y) fun b => a.length + b.length ≤ sizeLine ∧ k (.lst (a ++ b))
  | .m n => opt (asL S (.m n)) fun a => opt (asL S y) fun b => a.length + b.length ≤ sizeLine ∧ k (.lst (a ++ b))
  | _ => False
def rAddU (K : PySem.W.Frag) : R2 := fun x y H Q => rI0 (fun i j => .int (i + j)) x y H Q ∨ (∃ i j, x = .str i ∧ y = .str j ∧ i.length + j.length ≤ sizeLine ∧ Q (.str (i ++ j)) H) ∨ rCatA K x y H Q ∨ rCat x y H Q
theorem op_addU {X : Cx} : OpR X (binaryOp .Add) (rAddU X.K) := op_add.or (op_add_str.or (op_catA.or op_cat))
theorem catL_sem {K : PySem.W.Frag} {w : Wd} {x y : V} {d e : D} {a b : List D} {Qd : D → Prop} {Q : VK} (ok : Ok K w) (rx : Rp K w.I w.α x d) (ry : Rp K w.I w.α y e) (ha : asL w.S d = some a) (hb : asL w.S e = some b)
    (hl : a.length + b.length ≤ sizeLine) (h : Qd (.lst (a ++ b))) (q : ∀ z v w', Qd z → Le w w' → w'.S = w.S → Ok K w' → Rp K w'.I w'.α v z → Q v w'.H) : rCat x y w.H Q := by
  obtain ⟨p, vs, rfl, hp, r1⟩ := asL_sem ok rx ha
  obtain ⟨p2, vs2, rfl, hp2, r2⟩ := asL_sem ok ry hb
  exact ⟨p, p2, vs, vs2, rfl, rfl, hp, hp2, by rw [r1.length, r2.length]; exact hl, fun t ht => lay_lst ok (r1.append r2) h q ht⟩
theorem sem_add {K : PySem.W.Frag} : SemOp K (rAddU K) oAdd := by
  intro w x y d e Qd Q ok rx ry h q
  cases d with
  | int i =>
    cases e with
    | int j =>
      cases rx; cases ry
      exact .inl ⟨i, j, rfl, rfl, q _ _ w h (.refl w) rfl ok (.int _)⟩
    | _ => exact h.elim
  | str a =>
    cases e with
    | str b =>
      cases rx; cases ry
      exact .inr (.inl ⟨a, b, rfl, rfl, h.1, q _ _ w h.2 (.refl w) rfl ok (.str _)⟩)
    | _ => exact h.elim
  | tup a =>
    cases e with
    | tup b =>
      obtain ⟨p, vs, rfl, hp, r1, g1⟩ := rx.tupG
      obtain ⟨p2, vs2, rfl, hp2, r2, g2⟩ := ry.tupG
      obtain ⟨hl, h⟩ := h
      refine .inr (.inr (.inl ⟨p, p2, vs, vs2, rfl, rfl, ok.sqT hp, ok.sqT hp2, by rw [r1.length, r2.length]; exact hl, fun e1 => ?_, fun _ e2 => ?_, fun _ _ t ht => lay_tup ok (r1.append r2) h q ht⟩))
      · subst e1
        cases r1
        exact q _ _ w h (.refl w) rfl ok (.tup hp2 r2 g2)
      · subst e2
        cases r2
        rw [List.append_nil] at h
        exact q _ _ w h (.refl w) rfl ok (.tup hp r1 g1)
    | _ => exact h.elim
  | lst a =>
    obtain ⟨b, hb, hl, h⟩ := opt_of h
    exact .inr (.inr (.inr (catL_sem ok rx ry rfl hb hl h q)))
  | m n =>
    obtain ⟨a, ha, h⟩ := opt_of h
    obtain ⟨b, hb, hl, h⟩ := opt_of h
    exact .inr (.inr (.inr (catL_sem ok rx ry ha hb hl h q)))
  | _ => exact h.elim
/-- two ints, a side condition -/
def oI (C : Int → Int → Prop) (g : Int → Int → Int) : DOp := fun _ x y k => match x with
  | .int i => (match y with | .int j => C i j ∧ k (.int (g i j)) | _ => False)
  | _ => False
def oI0 (g : Int → Int → Int) : DOp := fun _ x y k => match x with
  | .int i => (match y with | .int j => k (.int (g i j)) | _ => False)
  | _ => False
def oC0 (g : Int → Int → Bool) : DOp := fun _ x y k => match x with
  | .int i => (match y with | .int j => k (.bl (g i j)) | _ => False)
  | _ => False
theorem sem_I {K : PySem.W.Frag} {C : Int → Int → Prop} {g : Int → Int → Int} : SemOp K (rI C fun i j => .int (g i j)) (oI C g) := by
  intro w x y d e Qd Q ok rx ry h q
  cases d with
  | int i =>
    cases e with
    | int j =>
      cases rx; cases ry
      exact ⟨i, j, rfl, rfl, h.1, q _ _ w h.2 (.refl w) rfl ok (.int _)⟩
    | _ => exact h.elim
  | _ => exact h.elim
theorem sem_I0 {K : PySem.W.Frag} {g : Int → Int → Int} : SemOp K (rI0 fun i j => .int (g i j)) (oI0 g) := by
  intro w x y d e Qd Q ok rx ry h q
  cases d with
  | int i =>
    cases e with
    | int j =>
      cases rx; cases ry
      exact ⟨i, j, rfl, rfl, q _ _ w h (.refl w) rfl ok (.int _)⟩
    | _ => exact h.elim
  | _ => exact h.elim
theorem sem_C0 {K : PySem.W.Frag} {g : Int → Int → Bool} : SemOp K (rI0 fun i j => .bl (g i j)) (oC0 g) := by
  intro w x y d e Qd Q ok rx ry h q
  cases d with
  | int i =>
    cases e with
    | int j =>
      cases rx; cases ry
      exact ⟨i, j, rfl, rfl, q _ _ w h (.refl w) rfl ok (.bl _)⟩
    | _ => exact h.elim
  | _ => exact h.elim
/-- a * b: ints, one below 2^64 or both together below a million bits; a list times an int; a tuple times an int from 2 to 1000 -/
def oMul : DOp := fun S x y k => match x with
  | .int i => (match y with | .int j => (CMul i j ∨ CMulW i j) ∧ k (.int (i * j)) | _ => False)
  | .tup a => (match y with | .int j => a ≠ [] ∧ 2 ≤ j ∧ j ≤ 1000 ∧ a.length ≤ 1000 ∧ k (.tup (List.replicate j.toNat a).flatten) | _ => False)
  | .lst a => (match y with | .int j => -(2 ^ 63) ≤ j ∧ j < 2 ^ 63 ∧ a.length * j.toNat ≤ sizeLine ∧ k (.lst (List.replicate j.toNat a).flatten) | _ => False)
  | _ => False
def rMulU (K : PySem.W.Frag) : R2 := fun x y H Q => rI CMul (fun i j => .int (i * j)) x y H Q ∨ rI CMulW (fun i j => .int (i * j)) x y H Q ∨ rRep x y H Q ∨ rRepT K x y H Q
theorem op_mulU {X : Cx} : OpR X (binaryOp .Mult) (rMulU X.K) := op_mul.or (op_mulW.or (op_rep.or op_repT))
theorem RpL.flat {K : PySem.W.Frag} {I : Hp} {α : Am} {vs : List V} {ds : List D} (r : RpL K I α vs ds) : ∀ n : Nat, RpL K I α (List.replicate n vs).flatten (List.replicate n ds).flatten
  | 0 => .nil
  | n + 1 => by
    rw [List.replicate_succ, List.replicate_succ, List.flatten_cons, List.flatten_cons]
    exact r.append (RpL.flat r n)
theorem sem_mul {K : PySem.W.Frag} : SemOp K (rMulU K) oMul := by
  intro w x y d e Qd Q ok rx ry h q
  cases d with
  | int i =>
    cases e with
    | int j =>
      cases rx; cases ry
      obtain ⟨hc | hc, h⟩ := h
      · exact .inl ⟨i, j, rfl, rfl, hc, q _ _ w h (.refl w) rfl ok (.int _)⟩
      · exact .inr (.inl ⟨i, j, rfl, rfl, hc, q _ _ w h (.refl w) rfl ok (.int _)⟩)
    | _ => exact h.elim
  | tup a =>
    cases e with
    | int j =>
      cases ry
      obtain ⟨h0, h2, h3, h4, h⟩ := h
      obtain ⟨p, vs, rfl, hp, r1⟩ := rx.tup'
      refine .inr (.inr (.inr ⟨p, j, vs, rfl, rfl, ok.sqT hp, fun z => ?_, h2, h3, by rw [r1.length]; exact h4, fun t ht => lay_tup ok (r1.flat _) h q ht⟩))
      subst z
      cases r1
      exact h0 rfl
    | _ => exact h.elim
  | lst a =>
    cases e with
    | int j =>
      cases ry
      obtain ⟨h0, h2, h3, h⟩ := h
      obtain ⟨p, vs, rfl, hp, r1⟩ := rx.lst'
      exact .inr (.inr (.inl ⟨p, j, vs, rfl, rfl, ok.sub _ _ hp, h0, h2, by rw [r1.length]; exact h3, fun t ht => lay_lst ok (r1.flat _) h q ht⟩))
    | _ => exact h.elim
  | _ => exact h.elim
def oNeg : DUn := fun _ x k => match x with
  | .int i => k (.int (-i))
  | _ => False
theorem sem_neg {K : PySem.W.Frag} : SemUn K (rU fun i => .int (-i)) oNeg := by
  intro w x d Qd Q ok rx h q
  cases d with
  | int i =>
    cases rx
    exact ⟨i, rfl, q _ _ w h (.refl w) rfl ok (.int _)⟩
  | _ => exact h.elim
/-! ### == -/
mutual
def pyOf : D → PyData
  | .non => .none
  | .bl b => .bool b
  | .int i => .int i
  | .str x => .str x
  | .lst xs => .list (pyOfL xs)
  | .rol xs => .list (pyOfL xs)
  | .tup xs => .tuple (pyOfL xs)
  | _ => .dict []
def pyOfL : List D → List PyData
  | [] => []
  | d :: ds => pyOf d :: pyOfL ds
end
/-- no dict, no object, no cell within -/
abbrev shp (d : PyData) : Prop := SeqAt.shaped d = true
theorem canLay_dict {kvs : List (PyData × PyData)} : PyData.canLay0 (.dict kvs) = false := rfl
mutual
theorem dp_of {K : PySem.W.Frag} {I H : Hp} {α : Am} (e : HpLe I H) : ∀ (d : D) (v : V), Rp K I α v d → (pyOf d).canLay0 = true → Dp K H v (pyOf d)
  | .non, _, r, _ => by cases r; exact .non
  | .bl b, _, r, _ => by cases r; exact .bl b
  | .int i, _, r, _ => by cases r; exact .int i
  | .str x, _, r, _ => by cases r; exact .str x
  | .lst xs, _, r, h => by
    obtain ⟨p, vs, rfl, hp, r⟩ := r.lst'
    exact .lst (SqL.of (e _ _ hp)) (dps_of e xs vs r h)
  | .rol xs, _, r, h => by
    obtain ⟨p, vs, rfl, hp, r⟩ := r.rol'
    exact .lst (SqL.le hp e) (dps_of e xs vs r h)
  | .tup xs, _, r, h => by
    obtain ⟨p, vs, rfl, hp, r⟩ := r.tup'
    exact .tup (SqT.le hp e) (dps_of e xs vs r h)
  | .ins _ _, _, _, h => nomatch h
  | .cv _, _, _, h => nomatch h
  | .exc _ _ _ _, _, _, h => nomatch h
  | .m _, _, _, h => nomatch h
theorem dps_of {K : PySem.W.Frag} {I H : Hp} {α : Am} (e : HpLe I H) : ∀ (ds : List D) (vs : List V), RpL K I α vs ds → PyData.canLayAll0 (pyOfL ds) = true → DpAll K H vs (pyOfL ds)
  | [], _, r, _ => by cases r; exact .nil
  | d :: ds, _, r, h => by
    cases r with
    | cons r1 r2 =>
      have h' : (pyOf d).canLay0 = true ∧ PyData.canLayAll0 (pyOfL ds) = true := by simpa [pyOfL, PyData.canLayAll0] using h
      exact .cons (dp_of e d _ r1 h'.1) (dps_of e ds _ r2 h'.2)
end
/-- a list that is a cell of plain data -/
def pyS (S : Sto) (d : D) : PyData := match d with
  | .m n => (match S n with
    | some (.lst ds) => .list (pyOfL ds)
    | _ => .dict [])
  | _ => pyOf d
theorem dpS_of {K : PySem.W.Frag} {w : Wd} {v : V} {d : D} (ok : Ok K w) (r : Rp K w.I w.α v d) (h : shp (pyS w.S d)) : Dp K w.H v (pyS w.S d) := by
  have hl := SeqAt.canLay_of_shaped h
  cases d with
  | m n =>
    unfold pyS at hl ⊢
    cases e : w.S n with
    | none => simp only [e] at hl; cases hl
    | some c =>
      cases c with
      | ins => simp only [e] at hl; cases hl
      | dT => simp only [e] at hl; cases hl
      | dK => simp only [e] at hl; cases hl
      | lst ds =>
        simp only [e] at hl ⊢
        obtain ⟨p, rfl, hp⟩ := r.m'
        obtain ⟨q, vs, h1, h2, h3⟩ := ok.celL e
        rw [hp] at h1
        cases h1
        exact .lst (SqL.of h2) (dps_of ok.sub ds vs h3 hl)
  | _ => exact dp_of ok.sub _ v r hl
/-- flat against flat: nothing is asked; else both plain data of bounded depth -/
def oEq (neg : Bool) : DOp := fun S x y k => match x, y with
  | .int i, .int j => k (.bl (neg ^^ (i == j)))
  | .bl i, .bl j => k (.bl (neg ^^ (i == j)))
  | .str i, .str j => k (.bl (neg ^^ (i == j)))
  | .non, .non => k (.bl (neg ^^ true))
  | _, _ => shp (pyS S x) ∧ shp (pyS S y) ∧ k (.bl (neg ^^ PyData.eqv (pyS S x) (pyS S y)))
def rEqU (K : PySem.W.Frag) : R2 := fun x y H Q => rEq x y H Q ∨ rEqD K x y H Q
def rNeU (K : PySem.W.Frag) : R2 := fun x y H Q => rNe x y H Q ∨ rNeD K x y H Q
theorem op_eqU {X : Cx} (hu : X.A.units + 64 < cLine) : OpR X (compareOp .Eq) (rEqU X.K) := op_eq.or (op_eqD hu)
theorem op_neU {X : Cx} (hu : X.A.units + 64 < cLine) : OpR X (compareOp .NotEq) (rNeU X.K) := op_ne.or (op_neD hu)
theorem sem_eq {K : PySem.W.Frag} : SemOp K (rEqU K) (oEq false) := by
  intro w x y d e Qd Q ok rx ry h q
  have go : ∀ b, Qd (.bl b) → Q (.bl b) w.H := fun b hb => q _ _ w hb (.refl w) rfl ok (.bl b)
  unfold oEq at h
  split at h
  · cases rx; cases ry
    exact .inl ⟨rfl, by rw [dec_int]; exact go _ (by simpa using h)⟩
  · cases rx; cases ry
    exact .inl ⟨rfl, by rw [dec_bl]; exact go _ (by simpa using h)⟩
  · cases rx; cases ry
    exact .inl ⟨rfl, by rw [dec_str]; exact go _ (by simpa using h)⟩
  · cases rx; cases ry
    exact .inl ⟨rfl, by rw [decide_eq_true rfl]; exact go _ (by simpa using h)⟩
  · obtain ⟨h1, h2, h⟩ := h
    exact .inr ⟨_, _, dpS_of ok rx h1, dpS_of ok ry h2, h1, h2, go _ (by simpa using h)⟩
theorem sem_ne {K : PySem.W.Frag} : SemOp K (rNeU K) (oEq true) := by
  intro w x y d e Qd Q ok rx ry h q
  have go : ∀ b, Qd (.bl b) → Q (.bl b) w.H := fun b hb => q _ _ w hb (.refl w) rfl ok (.bl b)
  unfold oEq at h
  split at h
  · cases rx; cases ry
    exact .inl ⟨rfl, by rw [dec_int]; exact go _ (by simpa using h)⟩
  · cases rx; cases ry
    exact .inl ⟨rfl, by rw [dec_bl]; exact go _ (by simpa using h)⟩
  · cases rx; cases ry
    exact .inl ⟨rfl, by rw [dec_str]; exact go _ (by simpa using h)⟩
  · cases rx; cases ry
    exact .inl ⟨rfl, by rw [decide_eq_true rfl]; exact go _ (by simpa using h)⟩
  · obtain ⟨h1, h2, h⟩ := h
    exact .inr ⟨_, _, dpS_of ok rx h1, dpS_of ok ry h2, h1, h2, go _ (by simpa using h)⟩
/-! ### is None -/
def isN : D → Option Bool
  | .non => some true
  | .cv _ => none
  | _ => some false
def oIsN (neg : Bool) : DOp := fun _ x y k => match y with
  | .non => opt (isN x) fun b => k (.bl (neg ^^ b))
  | _ => False
theorem isN_sem {K : PySem.W.Frag} {I : Hp} {α : Am} {v : V} {d : D} {b : Bool} (r : Rp K I α v d) (h : isN d = some b) : decide (v = .non) = b := by
  cases r <;> first | (cases h; rfl) | cases h
theorem sem_isN {K : PySem.W.Frag} : SemOp K (fun x y H Q => y = .non ∧ Q (.bl (decide (x = .non))) H) (oIsN false) := by
  intro w x y d e Qd Q ok rx ry h q
  cases e with
  | non =>
    obtain ⟨b, hb, h⟩ := opt_of h
    cases ry
    refine ⟨rfl, ?_⟩
    rw [isN_sem rx hb]
    exact q _ _ w (by simpa using h) (.refl w) rfl ok (.bl b)
  | _ => exact h.elim
theorem sem_notN {K : PySem.W.Frag} : SemOp K (fun x y H Q => y = .non ∧ Q (.bl (!decide (x = .non))) H) (oIsN true) := by
  intro w x y d e Qd Q ok rx ry h q
  cases e with
  | non =>
    obtain ⟨b, hb, h⟩ := opt_of h
    cases ry
    refine ⟨rfl, ?_⟩
    rw [isN_sem rx hb]
    exact q _ _ w (by simpa using h) (.refl w) rfl ok (.bl _)
  | _ => exact h.elim
/-! ### in -/
def flatD : D → Bool
  | .non => true
  | .bl _ => true
  | .int _ => true
  | .str _ => true
  | _ => false
def eqFlat : D → D → Bool
  | .non, .non => true
  | .bl a, .bl b => a == b
  | .bl a, .int b => (if a then 1 else 0) == b
  | .int a, .bl b => a == (if b then 1 else 0)
  | .int a, .int b => a == b
  | .str a, .str b => a == b
  | _, _ => false
def inD (x : D) (xs : List D) : Bool := xs.any fun y => eqFlat y x
def asSq (S : Sto) : D → Option (List D)
  | .tup ds => some ds
  | d => asR S d
theorem flat_sem {K : PySem.W.Frag} {I : Hp} {α : Am} {v : V} {d : D} (r : Rp K I α v d) (h : flatD d = true) : flatV v = true := by
  cases r <;> first | rfl | cases h
theorem eqFlat_sem {K : PySem.W.Frag} {I : Hp} {α : Am} {v u : V} {d e : D} (r : Rp K I α v d) (s : Rp K I α u e) (h : flatD d = true) (g : flatD e = true) : eqV v u = eqFlat d e := by
  cases r <;> first | (cases s <;> first | rfl | exact absurd g Bool.false_ne_true) | exact absurd h Bool.false_ne_true
theorem inD_sem {K : PySem.W.Frag} {I : Hp} {α : Am} {v : V} {d : D} (r : Rp K I α v d) (h : flatD d = true) : ∀ {vs : List V} {ds : List D}, RpL K I α vs ds → ds.all flatD = true → vs.all flatV = true ∧ inV v vs = inD d ds
  | _, _, .nil, _ => ⟨rfl, rfl⟩
  | _, _, .cons (v := u) (d := e) (vs := vs) (ds := ds) q s, g => by
    have g' : flatD e = true ∧ ds.all flatD = true := by simpa using g
    obtain ⟨h1, h2⟩ := inD_sem r h s g'.2
    refine ⟨by rw [List.all_cons, flat_sem q g'.1, h1]; rfl, ?_⟩
    unfold inV inD at h2 ⊢
    rw [List.any_cons, List.any_cons, h2, eqFlat_sem q r g'.1 h]
def oIn (neg : Bool) : DOp := fun S x y k => match y with
  | .str b => (match x with | .str a => k (.bl (neg ^^ !(Builtin.Str.occurrences b a 0 b.length 1).isEmpty)) | _ => False)
  | _ => opt (asSq S y) fun ds => flatD x = true ∧ ds.all flatD = true ∧ k (.bl (neg ^^ inD x ds))
theorem asSq_sem {K : PySem.W.Frag} {w : Wd} {v : V} {d : D} {ds : List D} (ok : Ok K w) (r : Rp K w.I w.α v d) (h : asSq w.S d = some ds) : ∃ p vs, v = .ref p ∧ (SqL K w.H p vs ∨ SqT K w.H p vs) ∧ RpL K w.I w.α vs ds := by
  cases d with
  | tup xs =>
    cases h
    obtain ⟨p, vs, rfl, hp, r⟩ := r.tup'
    exact ⟨p, vs, rfl, .inr (ok.sqT hp), r⟩
  | _ =>
    obtain ⟨p, vs, e, hp, r⟩ := asR_sem ok r h
    exact ⟨p, vs, e, .inl hp, r⟩
def rInU (K : PySem.W.Frag) : R2 := fun x y H Q => rIn K false x y H Q ∨ ∃ i j, x = .str i ∧ y = .str j ∧ Q (.bl (!(Builtin.Str.occurrences j i 0 j.length 1).isEmpty)) H
def rNotInU (K : PySem.W.Frag) : R2 := fun x y H Q => rIn K true x y H Q ∨ ∃ i j, x = .str i ∧ y = .str j ∧ Q (.bl (!(!(Builtin.Str.occurrences j i 0 j.length 1).isEmpty))) H
theorem op_inU {X : Cx} : OpR X (compareOp .In) (rInU X.K) := op_in_seq.or op_in_str
theorem op_notInU {X : Cx} : OpR X (compareOp .NotIn) (rNotInU X.K) := op_notIn_seq.or L2.op_notIn_str
theorem sem_in {K : PySem.W.Frag} : SemOp K (rInU K) (oIn false) := by
  intro w x y d e Qd Q ok rx ry h q
  have sq : opt (asSq w.S e) (fun ds => flatD d = true ∧ ds.all flatD = true ∧ Qd (.bl (false ^^ inD d ds))) → rIn K false x y w.H Q := fun h => by
    obtain ⟨ds, hd, h1, h2, h⟩ := opt_of h
    obtain ⟨p, vs, rfl, hp, r⟩ := asSq_sem ok ry hd
    obtain ⟨g1, g2⟩ := inD_sem rx h1 r h2
    refine ⟨p, vs, rfl, hp, flat_sem rx h1, g1, ?_⟩
    rw [g2]
    exact q _ _ w (by simpa using h) (.refl w) rfl ok (.bl _)
  cases e with
  | str b =>
    cases d with
    | str a =>
      cases rx; cases ry
      exact .inr ⟨a, b, rfl, rfl, q _ _ w (by simpa [oIn] using h) (.refl w) rfl ok (.bl _)⟩
    | _ => exact h.elim
  | _ => exact .inl (sq h)
theorem sem_notIn {K : PySem.W.Frag} : SemOp K (rNotInU K) (oIn true) := by
  intro w x y d e Qd Q ok rx ry h q
  have sq : opt (asSq w.S e) (fun ds => flatD d = true ∧ ds.all flatD = true ∧ Qd (.bl (true ^^ inD d ds))) → rIn K true x y w.H Q := fun h => by
    obtain ⟨ds, hd, h1, h2, h⟩ := opt_of h
    obtain ⟨p, vs, rfl, hp, r⟩ := asSq_sem ok ry hd
    obtain ⟨g1, g2⟩ := inD_sem rx h1 r h2
    refine ⟨p, vs, rfl, hp, flat_sem rx h1, g1, ?_⟩
    rw [g2]
    exact q _ _ w (by simpa using h) (.refl w) rfl ok (.bl _)
  cases e with
  | str b =>
    cases d with
    | str a =>
      cases rx; cases ry
      exact .inr ⟨a, b, rfl, rfl, q _ _ w (by simpa [oIn] using h) (.refl w) rfl ok (.bl _)⟩
    | _ => exact h.elim
  | _ => exact .inl (sq h)
/-! ### items, slices, len -/
def oIx : DOp := fun S x y k => match y with
  | .int i => (match x with
    | .str z => z.length ≤ sizeLine ∧ opt (atI z.cps.toList i) fun c => k (.str ⟨#[c]⟩)
    | _ => opt (asSq S x) fun ds => opt (atI ds i) k)
  | _ => False
theorem atI_sem {K : PySem.W.Frag} {I : Hp} {α : Am} {vs : List V} {ds : List D} {i : Int} {d : D} (r : RpL K I α vs ds) (h : atI ds i = some d) : ∃ v, atI vs i = some v ∧ Rp K I α v d := by
  unfold atI at h ⊢
  rw [r.length]
  cases e : ixN ds.length i with
  | none => rw [e] at h; cases h
  | some j =>
    rw [e] at h
    exact r.get h
theorem sem_ix {K : PySem.W.Frag} : SemOp K (rIx K) oIx := by
  intro w x y d e Qd Q ok rx ry h q
  cases e with
  | int i =>
    cases ry
    have sq : opt (asSq w.S d) (fun ds => opt (atI ds i) Qd) → rIx K x (.int i) w.H Q := fun h => by
      obtain ⟨ds, hd, h⟩ := opt_of h
      obtain ⟨z, hz, h⟩ := opt_of h
      obtain ⟨p, vs, rfl, hp, r⟩ := asSq_sem ok rx hd
      obtain ⟨v, hv, rv⟩ := atI_sem r hz
      rcases hp with hp | hp
      · exact .inl ⟨p, vs, i, v, rfl, rfl, hp, hv, q _ _ w h (.refl w) rfl ok rv⟩
      · exact .inr (.inl ⟨p, vs, i, v, rfl, rfl, hp, hv, q _ _ w h (.refl w) rfl ok rv⟩)
    cases d with
    | str z =>
      cases rx
      obtain ⟨hl, h⟩ := h
      obtain ⟨c, hc, h⟩ := opt_of h
      exact .inr (.inr ⟨z, i, c, rfl, rfl, hl, hc, q _ _ w h (.refl w) rfl ok (.str _)⟩)
    | _ => exact sq h
  | _ => exact h.elim
/-- the items of xs[lo:hi] -/
def cutD (xs : List D) (lo hi : Option Int) : List D := (xs.drop (HT.sIx xs.length 0 lo)).take (HT.sIx xs.length xs.length hi - HT.sIx xs.length 0 lo)
theorem cut_sem {K : PySem.W.Frag} {I : Hp} {α : Am} {vs : List V} {ds : List D} {lo hi : Option Int} (r : RpL K I α vs ds) : RpL K I α (cutV vs lo hi) (cutD ds lo hi) := by
  unfold cutV cutD
  rw [r.length]
  exact (r.drop _).take _
abbrev DO := Lo → Sto → (Option Int → Sto → Prop) → (Err → Sto → Prop) → Prop
def dNoP : DO := fun _ S Q _ => Q none S
def dPart (t : DE) : DO := fun δ S Q E => t δ S (fun d S1 => match d with
  | .int i => Q (some i) S1
  | _ => False) E
def toO (K : PySem.W.Frag) (W : WX) (t : DO) : TO := fun σ H Q => ∃ (w : Wd) (δ : Lo) (Qd : Option Int → Sto → Prop) (Ed : Err → Sto → Prop), w.H = H ∧ Ok K w ∧ LoR K w σ δ ∧ t δ w.S Qd Ed ∧
  (∀ o w', Qd o w'.S → Le w w' → Ok K w' → Q o w'.H) ∧ eC K W σ w Ed
section
variable {X : Cx} {W : WX} {e : Expr} {te : DE} {tl th : DO} {lo hi : Option Expr} {p2 pos : Pos}
theorem do_none : PO X none (toO X.K W dNoP) := ⟨fun pins s σ H Q I h => po_none.run pins s σ H Q I (by
  obtain ⟨w, δ, Qd, Ed, rfl, ok, lo, t, q, _⟩ := h
  exact q none w t (.refl w) ok)⟩
theorem do_some (h : PE X e (toE X.K W te)) : PO X (some e) (toO X.K W (dPart te)) := ⟨fun pins s σ H Q I hh => (po_some h).run pins s σ H Q I (by
  obtain ⟨w, δ, Qd, Ed, rfl, ok, lo, t, q, ec⟩ := hh
  refine ⟨w, δ, _, Ed, rfl, ok, lo, t, fun d v w1 t1 l1 ok1 r1 => ?_, ec⟩
  cases d with
  | int i =>
    cases r1
    exact ⟨i, rfl, q _ w1 t1 l1 ok1⟩
  | _ => exact t1.elim)⟩
/-- x[lo:hi]: of a tuple, of a text, of a list (a new one) -/
def dSl (te : DE) (tl th : DO) : DE := fun δ S Q E => te δ S (fun x S1 => tl δ S1 (fun l S2 => th δ S2 (fun h S3 => match x with
  | .tup ds => Q (.tup (cutD ds l h)) S3
  | .str z => z.length ≤ sizeLine ∧ Q (.str (cutS z l h)) S3
  | _ => opt (asR S3 x) fun ds => Q (.lst (cutD ds l h)) S3) E) E) E
def rSlU (K : PySem.W.Frag) : V → Option Int → Option Int → Hp → VK → Prop := fun x l h H Q => rSlA K x l h H Q ∨ rSlL K x l h H Q ∨ rSlS x l h H Q
theorem SlR.or {r r' : V → Option Int → Option Int → Hp → VK → Prop} (a : SlR X r) (b : SlR X r') : SlR X fun x l h H Q => r x l h H Q ∨ r' x l h H Q := fun pins s σ H x v vl vu lo hi sl Q I rx hs pl pu h => by
  rcases h with h | h
  · exact a pins s σ H x v vl vu lo hi sl Q I rx hs pl pu h
  · exact b pins s σ H x v vl vu lo hi sl Q I rx hs pl pu h
theorem sl_U : SlR X (rSlU X.K) := SlR.or sl_tupA (SlR.or sl_list sl_str)
end
end DL

set_option maxHeartbeats 4000000
namespace DL
open PySem PySem.Spec L2
/-! ## 6. Slices, tests, built-ins, attributes -/
section
variable {X : Cx} {W : WX} {e a b c : Expr} {te ta tb tc : DE} {tl th : DO} {lo hi : Option Expr} {p2 pos : Pos}
theorem de_sl (he : PE X e (toE X.K W te)) (hl : PO X lo (toO X.K W tl)) (hh : PO X hi (toO X.K W th)) : PE X (.Subscript e (.Slice lo hi none p2) pos) (toE X.K W (dSl te tl th)) := pimp (pe_slice sl_U he hl hh) fun σ H Q h => by
  obtain ⟨w, δ, Qd, Ed, rfl, ok, lo, t, q, ec⟩ := h
  refine ⟨w, δ, _, Ed, rfl, ok, lo, t, fun d v w1 t1 l1 ok1 r1 => ?_, ec⟩
  refine ⟨w1, δ, _, Ed, rfl, ok1, lo.up l1, t1, fun o1 w2 t2 l2 ok2 => ?_, ec.up l1⟩
  refine ⟨w2, δ, _, Ed, rfl, ok2, (lo.up l1).up l2, t2, fun o2 w3 t3 l3 ok3 => ?_, (ec.up l1).up l2⟩
  have r3 := (r1.up l2).up l3
  have l := (l1.trans l2).trans l3
  have fin : ∀ z v w', Qd z w'.S → Le w3 w' → Ok X.K w' → Rp X.K w'.I w'.α v z → Q v w'.H := fun z v w' a b c d => q z v w' a (l.trans b) c d
  have ls : opt (asR w3.S d) (fun ds => Qd (.lst (cutD ds o1 o2)) w3.S) → rSlU X.K v o1 o2 w3.H Q := fun h => by
    obtain ⟨ds, hd, h⟩ := opt_of h
    obtain ⟨p, vs, rfl, hp, r⟩ := asR_sem ok3 r3 hd
    exact .inr (.inl ⟨p, vs, rfl, hp, fun t ht => lay_lst (Qd := fun z => Qd z w3.S) ok3 (cut_sem r) h (fun z v w' a b c d e => fin z v w' (by rw [c]; exact a) b d e) ht⟩)
  cases d with
  | tup ds =>
    obtain ⟨p, vs, rfl, hp, r⟩ := r3.tup'
    refine .inl ⟨p, vs, rfl, ok3.sqT hp, fun hw => ?_, fun _ t ht => lay_tup (Qd := fun z => Qd z w3.S) ok3 (cut_sem r) t3 (fun z v w' a b c d e => fin z v w' (by rw [c]; exact a) b d e) ht⟩
    have e1 : cutD ds o1 o2 = ds := by
      unfold cutD
      rw [r.length] at hw
      rw [hw.1, hw.2, List.drop_zero, Nat.sub_zero, List.take_length]
    have t3 : Qd (.tup (cutD ds o1 o2)) w3.S := t3
    rw [e1] at t3
    exact fin _ _ w3 t3 (.refl w3) ok3 r3
  | str z =>
    cases r3
    exact .inr (.inr ⟨z, rfl, t3.1, fin _ _ w3 t3.2 (.refl w3) ok3 (.str _)⟩)
  | _ => exact ls t3
/-! ### truth -/
def tru (S : Sto) (d : D) (k : Bool → Prop) : Prop := match d with
  | .non => k false
  | .bl b => k b
  | .int i => k (i != 0)
  | .str y => y.length ≤ sizeLine ∧ k ((y.length : Int) != 0)
  | _ => opt (asSq S d) fun ds => k (!ds.isEmpty)
theorem RpL.isEmpty {K : PySem.W.Frag} {I : Hp} {α : Am} {vs : List V} {ds : List D} (r : RpL K I α vs ds) : vs.isEmpty = ds.isEmpty := by
  cases r <;> rfl
theorem tru_sem {K : PySem.W.Frag} {w : Wd} {v : V} {d : D} {k : Bool → Prop} (ok : Ok K w) (r : Rp K w.I w.α v d) (h : tru w.S d k) : ∃ b, TruV K v w.H b ∧ k b := by
  have sq : opt (asSq w.S d) (fun ds => k (!ds.isEmpty)) → ∃ b, TruV K v w.H b ∧ k b := fun h => by
    obtain ⟨ds, hd, h⟩ := opt_of h
    obtain ⟨p, vs, rfl, hp, r⟩ := asSq_sem ok r hd
    refine ⟨_, ?_, h⟩
    rcases hp with hp | hp
    · exact .inl ⟨vs, hp, by rw [r.isEmpty]⟩
    · exact .inr (.inl ⟨vs, hp, by rw [r.isEmpty]⟩)
  cases d with
  | non => cases r; exact ⟨false, rfl, h⟩
  | bl b => cases r; exact ⟨b, rfl, h⟩
  | int i => cases r; exact ⟨_, rfl, h⟩
  | str y => cases r; exact ⟨_, ⟨h.1, rfl⟩, h.2⟩
  | _ => exact sq h
def dTru (t : DE) : DT := fun δ S Q E => t δ S (fun d S1 => tru S1 d fun b => Q b S1) E
theorem dt_tru (ha : PE X a (toE X.K W ta)) (he : ∀ whole, isTrue a X.env whole = (do let v ← whole; standAt a.pos; holding [v] (truthy v)) := by intro _; rfl) : PT X a (toT X.K W (dTru ta)) := pimpT (pt_truth ha he) fun σ H Q h => by
  obtain ⟨w, δ, Qd, Ed, rfl, ok, lo, t, q, ec⟩ := h
  refine ⟨w, δ, _, Ed, rfl, ok, lo, t, fun d v w1 t1 l1 ok1 r1 => ?_, ec⟩
  obtain ⟨b, hb, h⟩ := tru_sem ok1 r1 t1
  exact ⟨b, hb, q b w1 h l1 ok1⟩
/-! ### and, or, not; if else -/
def cnd (b : Bool) (A B : Prop) : Prop := match b with
  | true => A
  | false => B
theorem cnd_ite {b : Bool} {A B : Prop} (h : cnd b A B) : if b = true then A else B := by
  cases b with
  | true => rw [if_pos rfl]; exact h
  | false => rw [if_neg Bool.false_ne_true]; exact h
def dAnd (t u : DT) : DT := fun δ S Q E => t δ S (fun b S1 => cnd b (u δ S1 Q E) (Q false S1)) E
def dOr (t u : DT) : DT := fun δ S Q E => t δ S (fun b S1 => cnd b (Q true S1) (u δ S1 Q E)) E
def dNot (t : DT) : DT := fun δ S Q E => t δ S (fun b S1 => Q (!b) S1) E
variable {tA tB : DT} {rest : List Expr}
theorem dt_not (h : PT X a (toT X.K W tA)) : PT X (.UnaryOp .Not a pos) (toT X.K W (dNot tA)) := pimpT (pt_not h) fun σ H Q h => by
  obtain ⟨w, δ, Qd, Ed, rfl, ok, lo, t, q, ec⟩ := h
  exact ⟨w, δ, _, Ed, rfl, ok, lo, t, fun b w1 t1 l1 ok1 => q _ w1 t1 l1 ok1, ec⟩
theorem dw_and1 (h : PT X a (toT X.K W tA)) : PW X (.BoolOp .And [a] pos) (toT X.K W tA) := pw_and1 h
theorem dw_or1 (h : PT X a (toT X.K W tA)) : PW X (.BoolOp .Or [a] pos) (toT X.K W tA) := pw_or1 h
theorem dw_and (ha : PT X a (toT X.K W tA)) (hb : PW X (.BoolOp .And (b :: rest) pos) (toT X.K W tB)) : PW X (.BoolOp .And (a :: b :: rest) pos) (toT X.K W (dAnd tA tB)) := pimpW (pw_and ha hb) fun σ H Q h => by
  obtain ⟨w, δ, Qd, Ed, rfl, ok, lo, t, q, ec⟩ := h
  refine ⟨w, δ, _, Ed, rfl, ok, lo, t, fun b w1 t1 l1 ok1 => cnd_ite ?_, ec⟩
  cases b with
  | true => exact ⟨w1, δ, _, Ed, rfl, ok1, lo.up l1, t1, fun b w2 t2 l2 ok2 => q _ w2 t2 (l1.trans l2) ok2, ec.up l1⟩
  | false => exact q _ w1 t1 l1 ok1
theorem dw_or (ha : PT X a (toT X.K W tA)) (hb : PW X (.BoolOp .Or (b :: rest) pos) (toT X.K W tB)) : PW X (.BoolOp .Or (a :: b :: rest) pos) (toT X.K W (dOr tA tB)) := pimpW (pw_or ha hb) fun σ H Q h => by
  obtain ⟨w, δ, Qd, Ed, rfl, ok, lo, t, q, ec⟩ := h
  refine ⟨w, δ, _, Ed, rfl, ok, lo, t, fun b w1 t1 l1 ok1 => cnd_ite ?_, ec⟩
  cases b with
  | true => exact q _ w1 t1 l1 ok1
  | false => exact ⟨w1, δ, _, Ed, rfl, ok1, lo.up l1, t1, fun b w2 t2 l2 ok2 => q _ w2 t2 (l1.trans l2) ok2, ec.up l1⟩
theorem dt_w (h : PW X e (toT X.K W tA)) : PT X e (toT X.K W tA) := h.pt
/-- as values, by truth -/
def dAndV (t u : DE) : DE := fun δ S Q E => t δ S (fun d S1 => tru S1 d fun b => cnd b (u δ S1 Q E) (Q d S1)) E
def dOrV (t u : DE) : DE := fun δ S Q E => t δ S (fun d S1 => tru S1 d fun b => cnd b (Q d S1) (u δ S1 Q E)) E
def dNotV (t : DE) : DE := fun δ S Q E => t δ S (fun d S1 => tru S1 d fun b => Q (.bl (!b)) S1) E
theorem de_one {op} (h : PE X a (toE X.K W ta)) : PE X (.BoolOp op [a] pos) (toE X.K W ta) := pe_one h
theorem de_and (ha : PE X a (toE X.K W ta)) (hb : PE X (.BoolOp .And (b :: rest) pos) (toE X.K W tb)) : PE X (.BoolOp .And (a :: b :: rest) pos) (toE X.K W (dAndV ta tb)) := pimp (pe_andT ha hb) fun σ H Q h => by
  obtain ⟨w, δ, Qd, Ed, rfl, ok, lo, t, q, ec⟩ := h
  refine ⟨w, δ, _, Ed, rfl, ok, lo, t, fun d v w1 t1 l1 ok1 r1 => ?_, ec⟩
  obtain ⟨b, hb, h⟩ := tru_sem ok1 r1 t1
  refine ⟨b, hb, cnd_ite ?_⟩
  cases b with
  | true => exact ⟨w1, δ, _, Ed, rfl, ok1, lo.up l1, h, fun d v w2 t2 l2 ok2 r2 => q _ _ w2 t2 (l1.trans l2) ok2 r2, ec.up l1⟩
  | false => exact q _ _ w1 h l1 ok1 r1
theorem de_or (ha : PE X a (toE X.K W ta)) (hb : PE X (.BoolOp .Or (b :: rest) pos) (toE X.K W tb)) : PE X (.BoolOp .Or (a :: b :: rest) pos) (toE X.K W (dOrV ta tb)) := pimp (pe_orT ha hb) fun σ H Q h => by
  obtain ⟨w, δ, Qd, Ed, rfl, ok, lo, t, q, ec⟩ := h
  refine ⟨w, δ, _, Ed, rfl, ok, lo, t, fun d v w1 t1 l1 ok1 r1 => ?_, ec⟩
  obtain ⟨b, hb, h⟩ := tru_sem ok1 r1 t1
  refine ⟨b, hb, cnd_ite ?_⟩
  cases b with
  | true => exact q _ _ w1 h l1 ok1 r1
  | false => exact ⟨w1, δ, _, Ed, rfl, ok1, lo.up l1, h, fun d v w2 t2 l2 ok2 r2 => q _ _ w2 t2 (l1.trans l2) ok2 r2, ec.up l1⟩
theorem de_not (ha : PE X a (toE X.K W ta)) : PE X (.UnaryOp .Not a pos) (toE X.K W (dNotV ta)) := pimp (pe_notT ha) fun σ H Q h => by
  obtain ⟨w, δ, Qd, Ed, rfl, ok, lo, t, q, ec⟩ := h
  refine ⟨w, δ, _, Ed, rfl, ok, lo, t, fun d v w1 t1 l1 ok1 r1 => ?_, ec⟩
  obtain ⟨b, hb, h⟩ := tru_sem ok1 r1 t1
  exact ⟨b, hb, q _ _ w1 h l1 ok1 (.bl _)⟩
def dIfE (c : DT) (t u : DE) : DE := fun δ S Q E => c δ S (fun b S1 => cnd b (t δ S1 Q E) (u δ S1 Q E)) E
theorem de_ifE (hc : PT X c (toT X.K W tA)) (ha : PE X a (toE X.K W ta)) (hb : PE X b (toE X.K W tb)) : PE X (.IfExp c a b pos) (toE X.K W (dIfE tA ta tb)) := pimp (pe_ifExp hc ha hb) fun σ H Q h => by
  obtain ⟨w, δ, Qd, Ed, rfl, ok, lo, t, q, ec⟩ := h
  refine ⟨w, δ, _, Ed, rfl, ok, lo, t, fun b w1 t1 l1 ok1 => cnd_ite ?_, ec⟩
  cases b with
  | true => exact ⟨w1, δ, _, Ed, rfl, ok1, lo.up l1, t1, fun d v w2 t2 l2 ok2 r2 => q _ _ w2 t2 (l1.trans l2) ok2 r2, ec.up l1⟩
  | false => exact ⟨w1, δ, _, Ed, rfl, ok1, lo.up l1, t1, fun d v w2 t2 l2 ok2 r2 => q _ _ w2 t2 (l1.trans l2) ok2 r2, ec.up l1⟩
/-! ### a < b < c -/
def dChain (f g : DOp) (ta tb tc : DE) : DE := fun δ S Q E => ta δ S (fun x S1 => tb δ S1 (fun y S2 => f S2 x y fun z => match z with
  | .bl k => cnd k (tc δ S2 (fun u S3 => g S3 y u fun z => Q z S3) E) (Q (.bl false) S2)
  | _ => False) E) E
theorem toE_chain {K : PySem.W.Frag} {r r' : R2} {f g : DOp} (hs : SemOp K r f) (hs' : SemOp K r' g) (σ : L2.St) (H : Hp) (Q : VK) (h : toE K W (dChain f g ta tb tc) σ H Q) : tChain r r' (toE K W ta) (toE K W tb) (toE K W tc) σ H Q := by
  obtain ⟨w, δ, Qd, Ed, rfl, ok, lo, t, q, ec⟩ := h
  refine ⟨w, δ, _, Ed, rfl, ok, lo, t, fun x v w1 t1 l1 ok1 r1 => ?_, ec⟩
  refine ⟨w1, δ, _, Ed, rfl, ok1, lo.up l1, t1, fun y u w2 t2 l2 ok2 r2 => ?_, ec.up l1⟩
  have l12 := l1.trans l2
  refine hs w2 v u x y _ _ ok2 (r1.up l2) r2 t2 fun z v3 w3 h3 l3 e3 ok3 r3 => ?_
  cases z with
  | bl k =>
    cases r3
    refine ⟨k, rfl, cnd_ite ?_⟩
    cases k with
    | false => exact q _ _ w3 (by rw [e3]; exact h3) (l12.trans l3) ok3 (.bl _)
    | true =>
      refine ⟨w3, δ, _, Ed, rfl, ok3, (lo.up l12).up l3, (by rw [e3]; exact h3), fun z v4 w4 t4 l4 ok4 r4 => ?_, (ec.up l12).up l3⟩
      refine hs' w4 u v4 y z _ Q ok4 ((r2.up l3).up l4) r4 t4 fun z v5 w5 h5 l5 e5 ok5 r5 => ?_
      exact q z v5 w5 (by rw [e5]; exact h5) (((l12.trans l3).trans l4).trans l5) ok5 r5
  | _ => exact h3.elim
theorem de_chain {op op' : CmpOp} {r r' : R2} {f g : DOp} (ho : OpR X (compareOp op) r) (hs : SemOp X.K r f) (ho' : OpR X (compareOp op') r') (hs' : SemOp X.K r' g) (ha : PE X a (toE X.K W ta)) (hb : PE X b (toE X.K W tb)) (hc : PE X c (toE X.K W tc))
    (hm : lastMarks [op, op'] [b, c] = false := by with_unfolding_all rfl) : PE X (.Compare a [op, op'] [b, c] pos) (toE X.K W (dChain f g ta tb tc)) := pimp (pe_chain ho ho' ha hb hc hm) (toE_chain hs hs')
theorem dt_chain {op op' : CmpOp} {r r' : R2} {f g : DOp} (ho : OpR X (compareOp op) r) (hs : SemOp X.K r f) (ho' : OpR X (compareOp op') r') (hs' : SemOp X.K r' g) (ha : PE X a (toE X.K W ta)) (hb : PE X b (toE X.K W tb)) (hc : PE X c (toE X.K W tc))
    (hm : lastMarks [op, op'] [b, c] = false := by with_unfolding_all rfl) : PT X (.Compare a [op, op'] [b, c] pos) (toT X.K W (dB (dChain f g ta tb tc))) :=
  pimpT (pt_chain ho ho' ha hb hc hm) fun σ H Q h => tTest_mono (toE_chain hs hs') σ H Q (toT_test σ H Q h)
/-! ### attributes of instances -/
/-- what stands in the fields of an instance: frozen, or a cell -/
def asI (S : Sto) : D → Option (Addr × List (Str × D))
  | .ins C fs => some (C, fs)
  | .m n => match S n with
    | some (.ins C fs) => some (C, fs)
    | _ => none
  | _ => none
theorem asI_sem {K : PySem.W.Frag} {w : Wd} {v : V} {d : D} {C : Addr} {fs : List (Str × D)} (ok : Ok K w) (r : Rp K w.I w.α v d) (h : asI w.S d = some (C, fs)) : ∃ p dx vs, v = .ref p ∧ w.H p = some (.ins C dx vs) ∧ RpF K w.I w.α vs fs := by
  cases d with
  | ins C' fs' =>
    cases h
    obtain ⟨p, dx, vs, rfl, hp, r⟩ := r.ins'
    exact ⟨p, dx, vs, rfl, ok.sub _ _ hp, r⟩
  | m n =>
    unfold asI at h
    cases e : w.S n with
    | none => simp [e] at h
    | some c =>
      cases c with
      | lst => simp [e] at h
      | dT => simp [e] at h
      | dK => simp [e] at h
      | ins C' fs' =>
        simp only [e] at h
        cases h
        obtain ⟨p, rfl, hp⟩ := r.m'
        obtain ⟨q, o, h1, h2, _, dx, vs, rfl, r⟩ := ok.cel n _ e
        rw [hp] at h1
        cases h1
        exact ⟨p, dx, vs, rfl, h2, r⟩
  | _ => cases h
/-- e.f, e an instance of one of the classes Cs -/
def dFld (Cs : List Addr) (f : Str) (t : DE) : DE := fun δ S Q E => t δ S (fun d S1 => opt (asI S1 d) fun q => q.1 ∈ Cs ∧ opt (q.2.lookup f) fun z => Q z S1) E
theorem de_fld {Cs : List Addr} {f : Str} (hc : ∀ C ∈ Cs, Cls X.K C ∧ NoAttr X.K C f) (he : PE X e (toE X.K W te)) (hb : attributeBase e f X.env (eval e X.env) = eval e X.env := by rfl) : PE X (.Attribute e f pos) (toE X.K W (dFld Cs f te)) := pimp (pe_fld he hb) fun σ H Q h => by
  obtain ⟨w, δ, Qd, Ed, rfl, ok, lo, t, q, ec⟩ := h
  refine ⟨w, δ, _, Ed, rfl, ok, lo, t, fun d v w1 t1 l1 ok1 r1 => ?_, ec⟩
  obtain ⟨⟨C, fs⟩, hd, hC, h⟩ := opt_of t1
  obtain ⟨z, hz, h⟩ := opt_of h
  obtain ⟨p, dx, vs, rfl, hp, r⟩ := asI_sem ok1 r1 hd
  obtain ⟨v, hv, rv⟩ := r.lookup hz
  exact ⟨p, C, dx, vs, v, rfl, hp, (hc C hC).1, (hc C hC).2, hv, q z v w1 h l1 ok1 rv⟩
end
/-! ### built-in functions -/
def oLen : DCl := fun S ds k => match ds with
  | [.str z] => z.length ≤ sizeLine ∧ k (.int z.length)
  | [d] => opt (asSq S d) fun xs => k (.int xs.length)
  | _ => False
theorem RpL.one' {K : PySem.W.Frag} {I : Hp} {α : Am} {vs : List V} {d : D} (r : RpL K I α vs [d]) : ∃ v, vs = [v] ∧ Rp K I α v d := by
  cases r with
  | cons h r => cases r; exact ⟨_, rfl, h⟩
theorem RpL.two' {K : PySem.W.Frag} {I : Hp} {α : Am} {vs : List V} {d e : D} (r : RpL K I α vs [d, e]) : ∃ v u, vs = [v, u] ∧ Rp K I α v d ∧ Rp K I α u e := by
  cases r with
  | cons h r =>
    obtain ⟨u, rfl, h2⟩ := r.one'
    exact ⟨_, _, rfl, h, h2⟩
theorem sem_len {K : PySem.W.Frag} : SemCl K (fun xs H Q => ∃ x n, xs = [x] ∧ LenV K x H n ∧ Q (.int n) H) oLen := by
  intro w xs ds Qd Q ok r h q
  unfold oLen at h
  split at h
  · obtain ⟨v, rfl, rr⟩ := r.one'
    cases rr
    exact ⟨_, _, rfl, (show LenV K (.str _) w.H _ from ⟨h.1, rfl⟩), q _ _ w h.2 (.refl w) rfl ok (.int _)⟩
  · obtain ⟨v, rfl, rr⟩ := r.one'
    obtain ⟨ys, hy, h⟩ := opt_of h
    obtain ⟨p, vs, rfl, hp, rs⟩ := asSq_sem ok rr hy
    refine ⟨_, vs.length, rfl, ?_, ?_⟩
    · rcases hp with hp | hp
      · exact .inl ⟨vs, hp, rfl⟩
      · exact .inr ⟨vs, hp, rfl⟩
    · rw [rs.length]
      exact q _ _ w h (.refl w) rfl ok (.int _)
  · exact h.elim
def oInt : DCl := fun _ ds k => match ds with
  | [.int i] => k (.int i)
  | [.bl b] => k (.int (if b then 1 else 0))
  | _ => False
theorem sem_int {K : PySem.W.Frag} : SemCl K (fun xs H Q => (∃ i, xs = [.int i] ∧ Q (.int i) H) ∨ ∃ k, xs = [.bl k] ∧ Q (.int (if k then 1 else 0)) H) oInt := by
  intro w xs ds Qd Q ok r h q
  unfold oInt at h
  split at h
  · obtain ⟨v, rfl, rr⟩ := r.one'
    cases rr
    exact .inl ⟨_, rfl, q _ _ w h (.refl w) rfl ok (.int _)⟩
  · obtain ⟨v, rfl, rr⟩ := r.one'
    cases rr
    exact .inr ⟨_, rfl, q _ _ w h (.refl w) rfl ok (.int _)⟩
  · exact h.elim
def oAbs : DCl := fun _ ds k => match ds with
  | [.int i] => k (.int (if i < 0 then -i else i))
  | _ => False
theorem sem_abs {K : PySem.W.Frag} : SemCl K (fun xs H Q => ∃ i, xs = [.int i] ∧ Q (.int (if i < 0 then -i else i)) H) oAbs := by
  intro w xs ds Qd Q ok r h q
  unfold oAbs at h
  split at h
  · obtain ⟨v, rfl, rr⟩ := r.one'
    cases rr
    exact ⟨_, rfl, q _ _ w h (.refl w) rfl ok (.int _)⟩
  · exact h.elim
/-- tuple(x) -/
def oTuple : DCl := fun S ds k => match ds with
  | [d] => opt (asSq S d) fun xs => k (.tup xs)
  | _ => False
theorem sem_tuple {K : PySem.W.Frag} : SemCl K (fun xs H Q => ∃ p ys, xs = [.ref p] ∧ ((SqL K H p ys ∧ ∀ l, H l = none → Q (.ref l) (upd H l (.tup ys))) ∨ (SqT K H p ys ∧ Q (.ref p) H))) oTuple := by
  intro w xs ds Qd Q ok r h q
  unfold oTuple at h
  split at h
  · rename_i d
    obtain ⟨v, rfl, rr⟩ := r.one'
    obtain ⟨ys, hy, h2⟩ := opt_of h
    cases d with
    | tup zs =>
      cases hy
      obtain ⟨p, vs, rfl, hp, rs, g⟩ := rr.tupG
      exact ⟨p, vs, rfl, .inr ⟨ok.sqT hp, q _ _ w h2 (.refl w) rfl ok (.tup hp rs g)⟩⟩
    | _ =>
      obtain ⟨p, vs, rfl, hp, rs⟩ := asR_sem ok rr hy
      exact ⟨p, vs, rfl, .inl ⟨hp, fun l hl => lay_tup ok rs h2 q hl⟩⟩
  · exact h.elim
/-- list(x): a new list -/
def dListOf (a : DA) : DA := fun δ S Q E => a δ S (fun ds S1 => match ds with
  | [d] => opt (asSq S1 d) fun xs => Q xs S1
  | _ => False) E
/-- a new list stands beside -/
theorem fresh_side {K : PySem.W.Frag} {w w1 : Wd} {p : Addr} {o : HO} (l1 : Le w w1) (ok1 : Ok K w1) (hp : w1.H p = none) :
    Le w (w1.side (upd w1.H p o)) ∧ Ok K (w1.side (upd w1.H p o)) ∧ w.H p = none ∧ w1.I p = none ∧ ∀ n, w1.S n ≠ none → w1.α n ≠ some p := by
  have e : HpLe w1.H (upd w1.H p o) := HpLe.upd hp
  refine ⟨l1.trans (.side e), ok1.side e, ?_, ok1.noI hp, fun n hn hα => ?_⟩
  · cases z : w.H p with
    | none => rfl
    | some o => exact absurd hp (l1.there p (by rw [z]; simp))
  · cases z : w1.S n with
    | none => exact hn z
    | some c =>
      obtain ⟨q', u, h1, h2, _⟩ := ok1.cel n c z
      rw [hα] at h1
      cases h1
      rw [hp] at h2
      cases h2
section
variable {X : Cx} {W : WX} {e a b : Expr} {es : List Expr} {ta tb : DE} {tas : DA} {p pos : Pos} {x : Str}
theorem df_listOf (hg : Gl X "list") (hm : X.mg "list" = none) (hv : bootBuiltins "list" = some (.type "list")) (ha : PA X (e :: es) (toA X.K W tas))
    (he : starEach (e :: es) X.env = (false, eval e X.env) :: starEach es X.env := by rfl) (hpl : (backTo pos (starEach es X.env)).any (·.1) = false := by rfl) : PE X (.Call (.Name "list" p) (e :: es) [] pos) (toF X.K W (dListOf tas)) :=
  pimp (pe_callTy call_list_of hg hm hv ha (by decide) (by decide) he hpl) fun σ H Q h => by
  obtain ⟨w, δ, Qd, Ed, rfl, ok, lo, t, q, ec⟩ := h
  refine ⟨w, δ, _, Ed, rfl, ok, lo, t, fun ds v w1 t1 l1 ok1 r1 => ?_, ec⟩
  split at t1
  · obtain ⟨v, rfl, rr⟩ := r1.one'
    obtain ⟨ys, hy, h⟩ := opt_of t1
    obtain ⟨p, vs, rfl, hp, r⟩ := asSq_sem ok1 rr hy
    refine ⟨p, vs, rfl, hp, fun l hl => ?_⟩
    obtain ⟨a1, a2, a3, a4, a5⟩ := fresh_side (o := .lst vs) l1 ok1 hl
    exact q ys vs l (w1.side (upd w1.H l (.lst vs))) h a1 a2 r upd_same a3 a4 a5
  · exact t1.elim
/-- a * b, a + b of lists: a new list -/
def dRep (ta tb : DE) : DA := fun δ S Q E => ta δ S (fun x S1 => tb δ S1 (fun y S2 => opt (asL S2 x) fun ds => match y with
  | .int j => -(2 ^ 63) ≤ j ∧ j < 2 ^ 63 ∧ ds.length * j.toNat ≤ sizeLine ∧ Q (List.replicate j.toNat ds).flatten S2
  | _ => False) E) E
theorem df_rep (ha : PE X a (toE X.K W ta)) (hb : PE X b (toE X.K W tb)) : PE X (.BinOp a .Mult b pos) (toF X.K W (dRep ta tb)) := pimp (pe_op op_rep ha hb) fun σ H Q h => by
  obtain ⟨w, δ, Qd, Ed, rfl, ok, lo, t, q, ec⟩ := h
  refine ⟨w, δ, _, Ed, rfl, ok, lo, t, fun x v w1 t1 l1 ok1 r1 => ?_, ec⟩
  refine ⟨w1, δ, _, Ed, rfl, ok1, lo.up l1, t1, fun y u w2 t2 l2 ok2 r2 => ?_, ec.up l1⟩
  obtain ⟨ds, hd, h⟩ := opt_of t2
  obtain ⟨p, vs, rfl, hp, r⟩ := asL_sem ok2 (r1.up l2) hd
  cases y with
  | int j =>
    cases r2
    obtain ⟨h1, h2, h3, h⟩ := h
    refine ⟨p, j, vs, rfl, rfl, hp, h1, h2, by rw [r.length]; exact h3, fun l hl => ?_⟩
    obtain ⟨a1, a2, a3, a4, a5⟩ := fresh_side (o := .lst (List.replicate j.toNat vs).flatten) (l1.trans l2) ok2 hl
    exact q _ _ l (w2.side (upd w2.H l (.lst (List.replicate j.toNat vs).flatten))) h a1 a2 (r.flat _) upd_same a3 a4 a5
  | _ => exact h.elim
def dCat (ta tb : DE) : DA := fun δ S Q E => ta δ S (fun x S1 => tb δ S1 (fun y S2 => opt (asL S2 x) fun ds => opt (asL S2 y) fun es => ds.length + es.length ≤ sizeLine ∧ Q (ds ++ es) S2) E) E
theorem df_cat (ha : PE X a (toE X.K W ta)) (hb : PE X b (toE X.K W tb)) : PE X (.BinOp a .Add b pos) (toF X.K W (dCat ta tb)) := pimp (pe_op op_cat ha hb) fun σ H Q h => by
  obtain ⟨w, δ, Qd, Ed, rfl, ok, lo, t, q, ec⟩ := h
  refine ⟨w, δ, _, Ed, rfl, ok, lo, t, fun x v w1 t1 l1 ok1 r1 => ?_, ec⟩
  refine ⟨w1, δ, _, Ed, rfl, ok1, lo.up l1, t1, fun y u w2 t2 l2 ok2 r2 => ?_, ec.up l1⟩
  obtain ⟨ds, hd, h⟩ := opt_of t2
  obtain ⟨es, he, hz, h⟩ := opt_of h
  obtain ⟨p, vs, rfl, hp, r⟩ := asL_sem ok2 (r1.up l2) hd
  obtain ⟨p2, vs2, rfl, hp2, r'⟩ := asL_sem ok2 r2 he
  refine ⟨p, p2, vs, vs2, rfl, rfl, hp, hp2, by rw [r.length, r'.length]; exact hz, fun l hl => ?_⟩
  obtain ⟨a1, a2, a3, a4, a5⟩ := fresh_side (o := .lst (vs ++ vs2)) (l1.trans l2) ok2 hl
  exact q _ _ l (w2.side (upd w2.H l (.lst (vs ++ vs2)))) h a1 a2 (r.append r') upd_same a3 a4 a5
end
end DL

set_option maxHeartbeats 4000000
namespace DL
open PySem PySem.Spec L2
/-! ## 7. Statements -/
structure EndsR (K : PySem.W.Frag) (W : WX) (w : Wd) (B : DEnds) (D : Ends) : Prop where
  nx : ∀ δ' σ' w', B.nx δ' w'.S → Le w w' → Ok K w' → LoR K w' σ' δ' → D.nx σ' w'.H
  rt : ∀ d v w', B.rt d w'.S → Le w w' → Ok K w' → Rp K w'.I w'.α v d → D.rt v w'.H
  bk : ∀ δ' σ' w', B.bk δ' w'.S → Le w w' → Ok K w' → LoR K w' σ' δ' → D.bk σ' w'.H
  ct : ∀ δ' σ' w', B.ct δ' w'.S → Le w w' → Ok K w' → LoR K w' σ' δ' → D.ct σ' w'.H
  ex : ∀ er dx δ' σ' w', B.ex er δ' w'.S → Le w w' → Ok K w' → LoR K w' σ' δ' → ErR K w' er dx → W (.ref er.C) (some dx) σ' w'.H
theorem EndsR.up {K : PySem.W.Frag} {W : WX} {w w1 : Wd} {B : DEnds} {D : Ends} (h : EndsR K W w B D) (l : Le w w1) : EndsR K W w1 B D :=
  ⟨fun a b c d e f g => h.nx a b c d (l.trans e) f g, fun a b c d e f g => h.rt a b c d (l.trans e) f g, fun a b c d e f g => h.bk a b c d (l.trans e) f g, fun a b c d e f g => h.ct a b c d (l.trans e) f g,
    fun a b c d e f g i j k => h.ex a b c d e f (l.trans g) i j k⟩
theorem EndsR.eC {K : PySem.W.Frag} {W : WX} {w : Wd} {B : DEnds} {D : Ends} {σ : L2.St} {δ : Lo} (h : EndsR K W w B D) (lo : LoR K w σ δ) : eC K W σ w (fun er S => B.ex er δ S) :=
  fun er w' dx a b c d => h.ex er dx δ σ w' a b c (lo.up b) d
def toS (K : PySem.W.Frag) (W : WX) (t : DS) : TS := fun D σ H => ∃ (w : Wd) (δ : Lo) (B : DEnds), w.H = H ∧ Ok K w ∧ LoR K w σ δ ∧ t B δ w.S ∧ EndsR K W w B D
theorem simp' {X : Cx} {st : Stmt} {t t' : TS} (h : PS X st t) (f : ∀ D σ H, t' D σ H → t D σ H) : PS X st t' := ⟨fun pins s σ H D I q => h.run pins s σ H D I (f _ _ _ q)⟩
theorem simps {X : Cx} {st : List Stmt} {t t' : TS} (h : PSs X st t) (f : ∀ D σ H, t' D σ H → t D σ H) : PSs X st t' := ⟨fun pins s σ H D I q => h.run pins s σ H D I (f _ _ _ q)⟩
def dSkip : DS := fun B δ S => B.nx δ S
def dSeq (t u : DS) : DS := fun B δ S => t { B with nx := fun δ' S' => u B δ' S' } δ S
def dBrk : DS := fun B δ S => B.bk δ S
def dCnt : DS := fun B δ S => B.ct δ S
def dRet (t : DE) : DS := fun B δ S => t δ S (fun d S1 => B.rt d S1) (fun er S1 => B.ex er δ S1)
def dRetN : DS := fun B _ S => B.rt .non S
def dEx (t : DE) : DS := fun B δ S => t δ S (fun _ S1 => B.nx δ S1) (fun er S1 => B.ex er δ S1)
def dSet (i : Nat) (t : DE) : DS := fun B δ S => t δ S (fun d S1 => B.nx (δ.set i (some d)) S1) (fun er S1 => B.ex er δ S1)
def dIf (c : DT) (t u : DS) : DS := fun B δ S => c δ S (fun b S1 => cnd b (t B δ S1) (u B δ S1)) (fun er S1 => B.ex er δ S1)
section
variable {X : Cx} {W : WX} {st : Stmt} {rest : List Stmt} {t u : DS} {e c : Expr} {te : DE} {tc : DT} {pos : Pos}
theorem dss_nil : PSs X [] (toS X.K W dSkip) := simps pss_nil fun D σ H ⟨w, δ, B, hH, ok, lo, t, r⟩ => by
  subst hH
  exact r.nx δ σ w t (.refl w) ok lo
theorem dss_cons (h1 : PS X st (toS X.K W t)) (h2 : PSs X rest (toS X.K W u)) : PSs X (st :: rest) (toS X.K W (dSeq t u)) := simps (pss_cons h1 h2) fun D σ H ⟨w, δ, B, hH, ok, lo, t, r⟩ => by
  subst hH
  refine ⟨w, δ, _, rfl, ok, lo, t, ⟨fun δ' σ' w' a b c d => ⟨w', δ', B, rfl, c, d, a, r.up b⟩, r.rt, r.bk, r.ct, r.ex⟩⟩
theorem dss_one (h1 : PS X st (toS X.K W t)) : PSs X [st] (toS X.K W t) := pss_one h1
theorem ds_pass : PS X (.Pass pos) (toS X.K W dSkip) := simp' ps_pass fun D σ H ⟨w, δ, B, hH, ok, lo, t, r⟩ => by
  subst hH
  exact r.nx δ σ w t (.refl w) ok lo
theorem ds_break : PS X (.Break pos) (toS X.K W dBrk) := simp' ps_break fun D σ H ⟨w, δ, B, hH, ok, lo, t, r⟩ => by
  subst hH
  exact r.bk δ σ w t (.refl w) ok lo
theorem ds_cont : PS X (.Continue pos) (toS X.K W dCnt) := simp' ps_continue fun D σ H ⟨w, δ, B, hH, ok, lo, t, r⟩ => by
  subst hH
  exact r.ct δ σ w t (.refl w) ok lo
theorem ds_ret (h : PE X e (toE X.K W te)) : PS X (.Return (some e) pos) (toS X.K W (dRet te)) := simp' (ps_ret h) fun D σ H ⟨w, δ, B, hH, ok, lo, t, r⟩ => by
  subst hH
  exact ⟨w, δ, _, _, rfl, ok, lo, t, fun d v w1 a b c f => r.rt d v w1 a b c f, r.eC lo⟩
theorem ds_retN : PS X (.Return none pos) (toS X.K W dRetN) := simp' ps_retN fun D σ H ⟨w, δ, B, hH, ok, lo, t, r⟩ => by
  subst hH
  exact r.rt .non .non w t (.refl w) ok .non
theorem ds_expr (h : PE X e (toE X.K W te)) (hs : swapsWith e none pos.line X.env = pure false := by rfl) : PS X (.Expr e pos) (toS X.K W (dEx te)) := simp' (ps_expr h hs) fun D σ H ⟨w, δ, B, hH, ok, lo, t, r⟩ => by
  subst hH
  exact ⟨w, δ, _, _, rfl, ok, lo, t, fun d v w1 a b c f => r.nx δ σ w1 a b c (lo.up b), r.eC lo⟩
theorem ds_doc {x j pos pos'} : PS X (.Expr (.Constant (.str x) j pos) pos') (toS X.K W dSkip) := simp' ps_doc fun D σ H ⟨w, δ, B, hH, ok, lo, t, r⟩ => by
  subst hH
  exact r.nx δ σ w t (.refl w) ok lo
theorem ds_set {i : Nat} {x : Str} {pos' : Pos} (hN : X.N.Nodup) (hi : X.N[i]? = some x) (hx : Loc X.env.scope x) (h : PE X e (toE X.K W te)) (hs : swapsWith e (some (.Name x pos')) pos.line X.env = pure false := by rfl)
    (hf : X.fn x = true ∨ X.env.scope.names.lookup x = some .local := by first | exact .inl rfl | exact .inr rfl | assumption) : PS X (.Assign [.Name x pos'] e pos) (toS X.K W (dSet i te)) := simp' (ps_set hN hi hx h hs hf) fun D σ H ⟨w, δ, B, hH, ok, lo, t, r⟩ => by
  subst hH
  exact ⟨w, δ, _, _, rfl, ok, lo, t, fun d v w1 a b c f => r.nx _ _ w1 a b c ((lo.up b).set i f), r.eC lo⟩
theorem ds_if {a b : List Stmt} (hc : PT X c (toT X.K W tc)) (ha : PSs X a (toS X.K W t)) (hb : PSs X b (toS X.K W u)) : PS X (.If c a b pos) (toS X.K W (dIf tc t u)) := simp' (ps_if hc ha hb) fun D σ H ⟨w, δ, B, hH, ok, lo, t, r⟩ => by
  subst hH
  refine ⟨w, δ, _, _, rfl, ok, lo, t, fun b w1 t1 l1 ok1 => cnd_ite ?_, r.eC lo⟩
  cases b with
  | true => exact ⟨w1, δ, B, rfl, ok1, lo.up l1, t1, r.up l1⟩
  | false => exact ⟨w1, δ, B, rfl, ok1, lo.up l1, t1, r.up l1⟩
/-- what is in the i-th place is frozen ahead of the statement -/
def dFrz (i : Nat) (t : DS) : DS := fun B δ S => match δ[i]? with
  | some (some (.m n)) => (match S n with
    | some (.lst ds) => t B (δ.set i (some (.lst ds))) (del S n)
    | some (.ins C fs) => t B (δ.set i (some (.ins C fs))) (del S n)
    | _ => False)
  | _ => t B δ S
theorem LoR.put (h : LoR K w σ δ) {i : Nat} {v : V} {d : D} (e : σ[i]? = some (some v)) (r : Rp K w.I w.α v d) : LoR K w σ (δ.set i (some d)) := by
  have q := h.set i r
  have hi : i < σ.length := by
    by_cases hi : i < σ.length
    · exact hi
    · rw [List.getElem?_eq_none (by omega)] at e
      cases e
  have z : σ.set i (some v) = σ := by
    apply List.ext_getElem?
    intro j
    by_cases hij : i = j
    · subst hij
      rw [List.getElem?_set_self hi, e]
    · rw [List.getElem?_set_ne hij]
  rw [z] at q
  exact q
theorem frz_S {K : PySem.W.Frag} {i : Nat} (D : Ends) (σ : L2.St) (H : Hp) (h : toS K W (dFrz i t) D σ H) : toS K W t D σ H := by
  obtain ⟨w, δ, B, hH, ok, lo, h, r⟩ := h
  subst hH
  unfold dFrz at h
  split at h
  · rename_i n hn
    obtain ⟨v, hv, rv⟩ := lo.2 i _ hn
    obtain ⟨p, rfl, hp⟩ := rv.m'
    split at h
    · rename_i ds hs
      obtain ⟨q, o, h1, h2, h3, vs, rfl, rr⟩ := ok.cel n _ hs
      rw [hp] at h1
      cases h1
      have l : Le w (w.frz n p (.lst vs)) := .frz ok hs hp
      exact ⟨w.frz n p (.lst vs), _, B, rfl, ok.frz hs hp h2, (lo.up l).put hv (.lst upd_same (rr.up l)), h, r.up l⟩
    · rename_i C fs hs
      obtain ⟨q, o, h1, h2, h3, dx, vs, rfl, rr⟩ := ok.cel n _ hs
      rw [hp] at h1
      cases h1
      have l : Le w (w.frz n p (.ins C dx vs)) := .frz ok hs hp
      exact ⟨w.frz n p (.ins C dx vs), _, B, rfl, ok.frz hs hp h2, (lo.up l).put hv (.ins upd_same (rr.up l)), h, r.up l⟩
    · exact h.elim
  · exact ⟨w, δ, B, rfl, ok, lo, h, r⟩
theorem ds_frz (i : Nat) (h : PS X st (toS X.K W t)) : PS X st (toS X.K W (dFrz i t)) := simp' h frz_S
theorem dss_frz (i : Nat) (h : PSs X rest (toS X.K W t)) : PSs X rest (toS X.K W (dFrz i t)) := simps h frz_S
/-! ### targets -/
abbrev DG := D → Lo → Sto → (Lo → Sto → Prop) → Prop
def SemG (K : PySem.W.Frag) (g : TG) (f : DG) : Prop := ∀ (w : Wd) (v : V) (d : D) (σ : L2.St) (δ : Lo) (Qd : Lo → Sto → Prop) (Q : L2.St → Hp → Prop), Ok K w → Rp K w.I w.α v d → LoR K w σ δ → f d δ w.S Qd →
  (∀ δ' σ' w', Qd δ' w'.S → Le w w' → Ok K w' → LoR K w' σ' δ' → Q σ' w'.H) → g v σ w.H Q
def gN (i : Nat) : DG := fun d δ S Q => Q (δ.set i (some d)) S
/-- names in a row -/
def setsD : List Nat → List D → Lo → Option Lo
  | [], [], δ => some δ
  | i :: is, d :: ds, δ => setsD is ds (δ.set i (some d))
  | _, _, _ => none
def gT (is : List Nat) : DG := fun d δ S Q => match d with
  | .tup ds => opt (setsD is ds δ) fun δ' => Q δ' S
  | _ => False
theorem sem_gN {K : PySem.W.Frag} {i : Nat} : SemG K (gName i) (gN i) := fun w v d σ δ Qd Q ok r lo h q => q _ _ w h (.refl w) ok (lo.set i r)
def gNames : List Nat → TGs
  | [] => gNil
  | i :: is => gCons (gName i) (gNames is)
theorem sem_names {K : PySem.W.Frag} {w : Wd} {Q : L2.St → Hp → Prop} {Qd : Lo → Sto → Prop} (ok : Ok K w) (q : ∀ δ' σ' w', Qd δ' w'.S → Le w w' → Ok K w' → LoR K w' σ' δ' → Q σ' w'.H) :
    ∀ (is : List Nat) (ds : List D) (vs : List V) (σ : L2.St) (δ δ' : Lo), RpL K w.I w.α vs ds → LoR K w σ δ → setsD is ds δ = some δ' → Qd δ' w.S → gNames is vs σ w.H Q
  | [], [], _, σ, δ, _, r, lo, h, hq => by
    cases r
    cases h
    exact ⟨rfl, q _ _ w hq (.refl w) ok lo⟩
  | i :: is, d :: ds, _, σ, δ, δ', r, lo, h, hq => by
    cases r with
    | cons r1 r2 => exact ⟨_, _, rfl, sem_names ok q is ds _ _ _ _ r2 (lo.set i r1) h hq⟩
  | [], _ :: _, _, _, _, _, _, _, h, _ => by cases h
  | _ :: _, [], _, _, _, _, _, _, h, _ => by cases h
theorem setsD_len : ∀ {is : List Nat} {ds : List D} {δ δ' : Lo}, setsD is ds δ = some δ' → ds.length = is.length
  | [], [], _, _, _ => rfl
  | _ :: is, _ :: ds, _, _, h => congrArg (· + 1) (setsD_len (is := is) (ds := ds) h)
  | [], _ :: _, _, _, h => by cases h
  | _ :: _, [], _, _, h => by cases h
theorem sem_gT {K : PySem.W.Frag} {is : List Nat} {n : Nat} (hn : is.length = n) : SemG K (gTup K n (gNames is)) (gT is) := fun w v d σ δ Qd Q ok r lo h q => by
  cases d with
  | tup ds =>
    obtain ⟨δ', h1, h2⟩ := opt_of h
    obtain ⟨p, vs, rfl, hp, rr⟩ := r.tup'
    exact ⟨p, vs, rfl, ok.sqT hp, by rw [rr.length, setsD_len h1, hn], sem_names ok q is ds vs σ δ δ' rr lo h1 h2⟩
  | _ => exact h.elim
def dAsg (g : DG) (t : DE) : DS := fun B δ S => t δ S (fun d S1 => g d δ S1 fun δ' S2 => B.nx δ' S2) (fun er S1 => B.ex er δ S1)
theorem ds_asg {tg : Expr} {g : TG} {f : DG} (h : PE X e (toE X.K W te)) (hg : PG X tg g) (sg : SemG X.K g f) (hs : PE X e (toE X.K W te) → PG X tg g → PS X (.Assign [tg] e pos) (tAsg (toE X.K W te) g) := by intro h hg; exact ps_asg h hg) :
    PS X (.Assign [tg] e pos) (toS X.K W (dAsg f te)) := simp' (hs h hg) fun D σ H ⟨w, δ, B, hH, ok, lo, t, r⟩ => by
  subst hH
  exact ⟨w, δ, _, _, rfl, ok, lo, t, fun d v w1 a b c f => sg w1 v d σ δ _ _ c f (lo.up b) a fun δ' σ' w2 a2 b2 c2 d2 => r.nx _ _ w2 a2 (b.trans b2) c2 d2, r.eC lo⟩
/-! ### loops -/
abbrev DI := Lo → Sto → (List D → (Sto → Prop) → Sto → Prop) → (Err → Sto → Prop) → Prop
/-- what a walk needs of the world behind -/
structure Lw (w w' : Wd) : Prop where
  ii : HpLe w.I w'.I
  aa : ∀ n p, w.α n = some p → w'.α n = some p
theorem Le.lw {w w' : Wd} (l : Le w w') : Lw w w' := ⟨l.ii, l.aa⟩
theorem RpL.upw {K : PySem.W.Frag} {w w' : Wd} {v : List V} {d : List D} (h : RpL K w.I w.α v d) (l : Lw w w') : RpL K w'.I w'.α v d := RpL.le l.ii l.aa h
structure Walks (K : PySem.W.Frag) (w0 : Wd) (J : It) (ds : List D) (kp : Sto → Prop) : Prop where
  go : ∀ w i, Lw w0 w → Ok K w → kp w.S → i < ds.length → J.go i w.H
  stop : ∀ w, Lw w0 w → Ok K w → kp w.S → J.stop ds.length w.H
  yld : ∀ w i x H', Lw w0 w → Ok K w → kp w.S → i < ds.length → J.yld i w.H x H' → ∃ w', w'.H = H' ∧ Le w w' ∧ Ok K w' ∧ w'.S = w.S ∧ ∃ d, ds[i]? = some d ∧ Rp K w'.I w'.α x d
def toI (K : PySem.W.Frag) (W : WX) (t : DI) : TI := fun σ H R => ∃ (w : Wd) (δ : Lo) (Qd : List D → (Sto → Prop) → Sto → Prop) (Ed : Err → Sto → Prop), w.H = H ∧ Ok K w ∧ LoR K w σ δ ∧ t δ w.S Qd Ed ∧
  (∀ ds kp w' J, Qd ds kp w'.S → Le w w' → Ok K w' → Walks K w' J ds kp → R J w'.H) ∧ eC K W σ w Ed
theorem simpI {X : Cx} {tg e : Expr} {t t' : TI} (h : PI X tg e t) (f : ∀ σ H R, t' σ H R → t σ H R) : PI X tg e t' := ⟨fun pins s σ H R I q => h.run pins s σ H R I (f _ _ _ q)⟩
def dLoop (kp : Sto → Prop) (g : DG) (body : DS) : List D → DS
  | [] => fun B δ S => kp S ∧ B.nx δ S
  | d :: ds => fun B δ S => kp S ∧ g d δ S fun δ1 S1 => body { nx := fun δ2 S2 => dLoop kp g body ds B δ2 S2, ct := fun δ2 S2 => dLoop kp g body ds B δ2 S2, bk := B.nx, rt := B.rt, ex := B.ex } δ1 S1
def dFor (src : DI) (g : DG) (body : DS) : DS := fun B δ S => src δ S (fun ds kp S1 => dLoop kp g body ds B δ S1) (fun er S1 => B.ex er δ S1)
theorem dLoop_kp {kp : Sto → Prop} {g : DG} {body : DS} {ds : List D} {B : DEnds} {δ : Lo} {S : Sto} (h : dLoop kp g body ds B δ S) : kp S := by
  cases ds with
  | nil => exact h.1
  | cons d ds => exact h.1
theorem ds_for {tg iter : Expr} {body : List Stmt} {src : DI} {g : TG} {f : DG} {tb : DS} (hp : PassesOwn (model X.prog X.w) X.A X.env X.xe) (hc : X.calm = true) (hi : PI X tg iter (toI X.K W src)) (hg : PG X tg g) (sg : SemG X.K g f) (hb : PSs X body (toS X.K W tb))
    (hs : ∀ x, foldedSetIterable iter X.env x = pure x := by intro _; rfl) : PS X (.For tg iter body [] pos) (toS X.K W (dFor src f tb)) := simp' (ps_for hp hc hi hg hb hs) fun D σ H ⟨w, δ, B, hH, ok, lo, t, r⟩ => by
  subst hH
  refine ⟨w, δ, _, _, rfl, ok, lo, t, fun ds kp w1 J t1 l1 ok1 wk => ?_, r.eC lo⟩
  refine ⟨fun i m σ' H' => m = ds.length - i ∧ i ≤ ds.length ∧ ∃ (w' : Wd) (δ' : Lo), w'.H = H' ∧ Le w1 w' ∧ Ok X.K w' ∧ LoR X.K w' σ' δ' ∧ dLoop kp f tb (ds.drop i) B δ' w'.S, ⟨ds.length, by simp, Nat.zero_le _, w1, δ, rfl, .refl w1, ok1, lo.up l1, t1⟩, ?_⟩
  rintro i m σ' H' ⟨rfl, hi, w', δ', rfl, l', ok', lo', h'⟩
  by_cases hlt : i < ds.length
  · refine .inr ⟨wk.go w' i l'.lw ok' (dLoop_kp h') hlt, fun σ2 H2 => ∃ (w' : Wd) (δ' : Lo), w'.H = H2 ∧ Le w1 w' ∧ Ok X.K w' ∧ LoR X.K w' σ2 δ' ∧ dLoop kp f tb (ds.drop (i + 1)) B δ' w'.S, fun σ2 H2 q => ⟨ds.length - (i + 1), by omega, rfl, hlt, q⟩, fun x H2 hy => ?_⟩
    obtain ⟨w2, rfl, l2, ok2, e2, d, hd, rd⟩ := wk.yld w' i x H2 l'.lw ok' (dLoop_kp h') hlt hy
    rw [List.drop_eq_getElem_cons hlt] at h'
    have hd' : ds[i] = d := by
      rw [List.getElem?_eq_getElem hlt] at hd
      exact Option.some.inj hd
    rw [hd'] at h'
    obtain ⟨_, h'⟩ := h'
    rw [← e2] at h'
    refine sg w2 x d σ' δ' _ _ ok2 rd (lo'.up l2) h' fun δ3 σ3 w3 a3 b3 c3 d3 => ?_
    have l13 : Le w1 w3 := (l'.trans l2).trans b3
    have rr := r.up (l1.trans l13)
    exact ⟨w3, δ3, _, rfl, c3, d3, a3, ⟨fun δ4 σ4 w4 a b c d => ⟨w4, δ4, rfl, l13.trans b, c, d, a⟩, rr.rt, rr.nx, fun δ4 σ4 w4 a b c d => ⟨w4, δ4, rfl, l13.trans b, c, d, a⟩, rr.ex⟩⟩
  · have e : i = ds.length := by omega
    subst e
    rw [List.drop_length] at h'
    exact .inl ⟨wk.stop w' l'.lw ok' h'.1, r.nx δ' σ' w' h'.2 (l1.trans l') ok' lo'⟩
def dWl (c : DT) (body : DS) : Nat → DS
  | 0 => fun _ _ _ => False
  | n + 1 => fun B δ S => c δ S (fun b S1 => cnd b (body { nx := fun δ2 S2 => dWl c body n B δ2 S2, ct := fun δ2 S2 => dWl c body n B δ2 S2, bk := B.nx, rt := B.rt, ex := B.ex } δ S1) (B.nx δ S1)) (fun er S1 => B.ex er δ S1)
def dWhile (c : DT) (body : DS) : DS := fun B δ S => ∃ n, dWl c body n B δ S
theorem ds_while {body : List Stmt} {tb : DS} (hp : PassesOwn (model X.prog X.w) X.A X.env X.xe) (hc : PT X c (toT X.K W tc)) (hb : PSs X body (toS X.K W tb)) : PS X (.While c body [] pos) (toS X.K W (dWhile tc tb)) := simp' (ps_while hp hc hb) fun D σ H ⟨w, δ, B, hH, ok, lo, t, r⟩ => by
  subst hH
  obtain ⟨n, t⟩ := t
  refine ⟨fun m σ' H' => ∃ (w' : Wd) (δ' : Lo), w'.H = H' ∧ Le w w' ∧ Ok X.K w' ∧ LoR X.K w' σ' δ' ∧ dWl tc tb m B δ' w'.S, ⟨n, w, δ, rfl, .refl w, ok, lo, t⟩, ?_⟩
  rintro m σ' H' ⟨w', δ', rfl, l', ok', lo', h'⟩
  cases m with
  | zero => exact h'.elim
  | succ m =>
    refine ⟨w', δ', _, _, rfl, ok', lo', h', fun b w1 t1 l1 ok1 => cnd_ite ?_, (r.up l').eC lo'⟩
    have l01 := l'.trans l1
    cases b with
    | false => exact r.nx δ' σ' w1 t1 l01 ok1 (lo'.up l1)
    | true =>
      have rr := r.up l01
      refine ⟨fun σ2 H2 => ∃ (w' : Wd) (δ' : Lo), w'.H = H2 ∧ Le w w' ∧ Ok X.K w' ∧ LoR X.K w' σ2 δ' ∧ dWl tc tb m B δ' w'.S, fun σ2 H2 q => ⟨m, Nat.lt_succ_self m, q⟩, ?_⟩
      exact ⟨w1, δ', _, rfl, ok1, lo'.up l1, t1, ⟨fun δ4 σ4 w4 a b c d => ⟨w4, δ4, rfl, l01.trans b, c, d, a⟩, rr.rt, rr.nx, fun δ4 σ4 w4 a b c d => ⟨w4, δ4, rfl, l01.trans b, c, d, a⟩, rr.ex⟩⟩
end
end DL

set_option maxHeartbeats 4000000
namespace DL
open PySem PySem.Spec L2
/-! ## 8. What loops walk -/
def kpOf (S : Sto) : D → Sto → Prop
  | .m n => fun S' => S' n = S n
  | _ => fun _ => True
section
variable {K : PySem.W.Frag} {w : Wd} {p : Addr} {ds es : List D} {kp : Sto → Prop}
theorem SqL.uniq {H : Hp} {xs ys : List V} (h : SqL K H p xs) (g : SqL K H p ys) (r : ∀ zs, SqL K H p zs → zs = xs) : ys = xs := r ys g
/-- a list's reading is one: over a heap that is held -/
theorem rd_of {d : D} {v : V} (ok : Ok K w) (r : Rp K w.I w.α v d) (h : asR w.S d = some ds) :
    ∃ p, v = .ref p ∧ ∀ w', Lw w w' → Ok K w' → kpOf w.S d w'.S → ∃ vs, SqL K w'.H p vs ∧ RpL K w'.I w'.α vs ds := by
  cases d with
  | rol xs =>
    cases h
    obtain ⟨p, vs, rfl, hp, r⟩ := r.rol'
    exact ⟨p, rfl, fun w' l ok' _ => ⟨vs, ok'.sqL (SqL.le hp l.ii), r.upw l⟩⟩
  | lst xs =>
    cases h
    obtain ⟨p, vs, rfl, hp, r⟩ := r.lst'
    exact ⟨p, rfl, fun w' l ok' _ => ⟨vs, SqL.of (ok'.sub _ _ (l.ii _ _ hp)), r.upw l⟩⟩
  | m n =>
    obtain ⟨p, rfl, hp⟩ := r.m'
    refine ⟨p, rfl, fun w' l ok' k => ?_⟩
    have k : w'.S n = w.S n := k
    unfold asR at h
    cases e : w.S n with
    | none => simp [e] at h
    | some c =>
      cases c with
      | ins => simp [e] at h
      | dT => simp [e] at h
      | dK => simp [e] at h
      | lst xs =>
        simp only [e] at h
        cases h
        obtain ⟨q, vs, h1, h2, h3⟩ := ok'.celL (by rw [k]; exact e)
        rw [l.aa n p hp] at h1
        cases h1
        exact ⟨vs, SqL.of h2, h3⟩
  | _ => cases h
theorem walks_list (h : ∀ w', Lw w w' → Ok K w' → kp w'.S → ∃ vs, SqL K w'.H p vs ∧ RpL K w'.I w'.α vs ds) : Walks K w (Itl K p) ds kp := by
  refine ⟨fun w' i l ok k hi => ?_, fun w' l ok k => ?_, fun w' i x H' l ok k hi hy => ?_⟩
  · obtain ⟨vs, hv, r⟩ := h w' l ok k
    have hi' : i < vs.length := by rw [r.length]; exact hi
    exact ⟨vs, vs[i], hv, List.getElem?_eq_getElem hi'⟩
  · obtain ⟨vs, hv, r⟩ := h w' l ok k
    exact ⟨vs, hv, by rw [r.length]; exact Nat.le_refl _⟩
  · obtain ⟨vs, hv, r⟩ := h w' l ok k
    obtain ⟨rfl, hy⟩ := hy
    obtain ⟨d, hd, rd⟩ := r.get' (hy vs hv)
    exact ⟨w', rfl, .refl w', ok, rfl, d, hd, rd⟩
theorem walks_tup (h : ∀ w', Lw w w' → Ok K w' → kp w'.S → ∃ vs, SqT K w'.H p vs ∧ RpL K w'.I w'.α vs ds) : Walks K w (Itt K p) ds kp := by
  refine ⟨fun w' i l ok k hi => ?_, fun w' l ok k => ?_, fun w' i x H' l ok k hi hy => ?_⟩
  · obtain ⟨vs, hv, r⟩ := h w' l ok k
    have hi' : i < vs.length := by rw [r.length]; exact hi
    exact ⟨vs, vs[i], hv, List.getElem?_eq_getElem hi'⟩
  · obtain ⟨vs, hv, r⟩ := h w' l ok k
    exact ⟨vs, hv, by rw [r.length]; exact Nat.le_refl _⟩
  · obtain ⟨vs, hv, r⟩ := h w' l ok k
    obtain ⟨rfl, hy⟩ := hy
    obtain ⟨d, hd, rd⟩ := r.get' (hy vs hv)
    exact ⟨w', rfl, .refl w', ok, rfl, d, hd, rd⟩
/-- lo, lo + 1, .. -/
def rngD (lo : Int) : Nat → List D
  | 0 => []
  | n + 1 => .int lo :: rngD (lo + 1) n
theorem rngD_len : ∀ (n : Nat) (lo : Int), (rngD lo n).length = n
  | 0, _ => rfl
  | n + 1, lo => congrArg (· + 1) (rngD_len n (lo + 1))
theorem rngD_get : ∀ (n i : Nat) (lo : Int), i < n → (rngD lo n)[i]? = some (.int (lo + i))
  | n + 1, 0, lo, _ => by simp [rngD]
  | n + 1, i + 1, lo, h => by
    have q := rngD_get n i (lo + 1) (by omega)
    show (rngD (lo + 1) n)[i]? = _
    rw [q]
    congr 2
    omega
theorem walks_rng {lo : Int} {n : Nat} : Walks K w (Itr lo n) (rngD lo n) kp := by
  refine ⟨fun w' i l ok k hi => by rw [rngD_len] at hi; exact hi, fun w' l ok k => by rw [rngD_len]; exact Nat.le_refl _, fun w' i x H' l ok k hi hy => ?_⟩
  rw [rngD_len] at hi
  obtain ⟨rfl, rfl⟩ := hy
  exact ⟨w', rfl, .refl w', ok, rfl, _, rngD_get n i lo hi, .int _⟩
/-- lo, lo + c, .. -/
def rngC (lo c : Int) : Nat → List D
  | 0 => []
  | n + 1 => .int lo :: rngC (lo + c) c n
theorem rngC_len : ∀ (n : Nat) (lo c : Int), (rngC lo c n).length = n
  | 0, _, _ => rfl
  | n + 1, lo, c => congrArg (· + 1) (rngC_len n (lo + c) c)
theorem rngC_get : ∀ (n i : Nat) (lo c : Int), i < n → (rngC lo c n)[i]? = some (.int (lo + i * c))
  | n + 1, 0, lo, c, _ => by simp [rngC]
  | n + 1, i + 1, lo, c, h => by
    have q := rngC_get n i (lo + c) c (by omega)
    show (rngC (lo + c) c n)[i]? = _
    rw [q]
    congr 2
    have e : ((i + 1 : Nat) : Int) * c = (i : Int) * c + c := by
      rw [show ((i + 1 : Nat) : Int) = (i : Int) + 1 by omega, Int.add_mul, Int.one_mul]
    rw [e]
    omega
theorem walks_rngC {lo c : Int} {n : Nat} : Walks K w (Itc lo c n) (rngC lo c n) kp := by
  refine ⟨fun w' i l ok k hi => by rw [rngC_len] at hi; exact hi, fun w' l ok k => by rw [rngC_len]; exact Nat.le_refl _, fun w' i x H' l ok k hi hy => ?_⟩
  rw [rngC_len] at hi
  obtain ⟨rfl, rfl⟩ := hy
  exact ⟨w', rfl, .refl w', ok, rfl, _, rngC_get n i lo c hi, .int _⟩
/-- the signs of a text -/
def signD (x : Str) : List D := x.cps.toList.map fun c => .str ⟨#[c]⟩
theorem walks_str {x : Str} : Walks K w (Its x) (signD x) kp := by
  have hl : (signD x).length = x.cps.size := by unfold signD; rw [List.length_map, Array.length_toList]
  refine ⟨fun w' i l ok k hi => by rw [hl] at hi; exact hi, fun w' l ok k => by rw [hl]; exact Nat.le_refl _, fun w' i y H' l ok k hi hy => ?_⟩
  obtain ⟨rfl, c, hc, rfl⟩ := hy
  refine ⟨w', rfl, .refl w', ok, rfl, .str ⟨#[c]⟩, ?_, .str _⟩
  unfold signD
  rw [List.getElem?_map, Array.getElem?_toList, hc]
  rfl
def enumD (n : Nat) : List D → List D
  | [] => []
  | d :: ds => .tup [.int (n : Nat), d] :: enumD (n + 1) ds
theorem enumD_len : ∀ (ds : List D) (n : Nat), (enumD n ds).length = ds.length
  | [], _ => rfl
  | d :: ds, n => congrArg (· + 1) (enumD_len ds (n + 1))
theorem enumD_get : ∀ (ds : List D) (n i : Nat) (d : D), ds[i]? = some d → (enumD n ds)[i]? = some (.tup [.int ((n + i : Nat) : Int), d])
  | [], _, _, _, h => by simp at h
  | e :: ds, n, 0, d, h => by
    simp at h
    subst h
    rfl
  | e :: ds, n, i + 1, d, h => by
    have q := enumD_get ds (n + 1) i d (by simpa using h)
    show (enumD (n + 1) ds)[i]? = _
    rw [q, show n + 1 + i = n + (i + 1) by omega]
theorem lay_at {T : Addr} {vs : List V} {w' : Wd} (ok : Ok K w') (hT : w'.H T = none) (r : RpL K w'.I w'.α vs ds) : ∃ w2, w2.H = upd w'.H T (.tup vs) ∧ Le w' w2 ∧ Ok K w2 ∧ w2.S = w'.S ∧ Rp K w2.I w2.α (.ref T) (.tup ds) :=
  ⟨w'.lay T (.tup vs), rfl, .lay ok hT, ok.lay hT, rfl, .tupN upd_same (r.up (.lay ok hT))⟩
theorem walks_enum (h : ∀ w', Lw w w' → Ok K w' → kp w'.S → ∃ vs, SqL K w'.H p vs ∧ RpL K w'.I w'.α vs ds) : Walks K w (Ite K p) (enumD 0 ds) kp := by
  refine ⟨fun w' i l ok k hi => ?_, fun w' l ok k => ?_, fun w' i x H' l ok k hi hy => ?_⟩
  · obtain ⟨vs, hv, r⟩ := h w' l ok k
    rw [enumD_len] at hi
    have hi' : i < vs.length := by rw [r.length]; exact hi
    exact ⟨vs, vs[i], hv, List.getElem?_eq_getElem hi'⟩
  · obtain ⟨vs, hv, r⟩ := h w' l ok k
    exact ⟨vs, hv, by rw [r.length, enumD_len]; exact Nat.le_refl _⟩
  · obtain ⟨vs, hv, r⟩ := h w' l ok k
    obtain ⟨T, y, rfl, hT, rfl, hy⟩ := hy
    obtain ⟨d, hd, rd⟩ := r.get' (hy vs hv)
    obtain ⟨w2, e, l2, ok2, eS, rr⟩ := lay_at ok hT (RpL.cons (.int (i : Nat)) (.one rd))
    refine ⟨w2, e, l2, ok2, eS, _, ?_, rr⟩
    have q := enumD_get ds 0 i d hd
    rw [Nat.zero_add] at q
    exact q
def zipD : List D → List D → List D
  | a :: as, b :: bs => .tup [a, b] :: zipD as bs
  | _, _ => []
theorem zipD_len : ∀ (as bs : List D), (zipD as bs).length = min as.length bs.length
  | [], _ => by simp [zipD]
  | _ :: _, [] => by simp [zipD]
  | a :: as, b :: bs => by
    have q := zipD_len as bs
    simp only [zipD, List.length_cons, q]
    omega
theorem zipD_get : ∀ (as bs : List D) (i : Nat) (a b : D), as[i]? = some a → bs[i]? = some b → (zipD as bs)[i]? = some (.tup [a, b])
  | [], _, _, _, _, h, _ => by simp at h
  | _ :: _, [], _, _, _, _, h => by simp at h
  | x :: as, y :: bs, 0, a, b, h, g => by
    simp at h g
    subst h
    subst g
    rfl
  | x :: as, y :: bs, i + 1, a, b, h, g => by
    show (zipD as bs)[i]? = _
    exact zipD_get as bs i a b (by simpa using h) (by simpa using g)
theorem walks_zip {q : Addr} (h : ∀ w', Lw w w' → Ok K w' → kp w'.S → ∃ vs, SqL K w'.H p vs ∧ RpL K w'.I w'.α vs ds) (g : ∀ w', Lw w w' → Ok K w' → kp w'.S → ∃ vs, SqL K w'.H q vs ∧ RpL K w'.I w'.α vs es) : Walks K w (Itz K p q) (zipD ds es) kp := by
  refine ⟨fun w' i l ok k hi => ?_, fun w' l ok k => ?_, fun w' i x H' l ok k hi hy => ?_⟩
  · obtain ⟨vs, hv, r⟩ := h w' l ok k
    obtain ⟨us, hu, s⟩ := g w' l ok k
    rw [zipD_len] at hi
    have hi' : i < vs.length := by rw [r.length]; omega
    have hi2 : i < us.length := by rw [s.length]; omega
    exact ⟨vs, us, vs[i], us[i], hv, hu, List.getElem?_eq_getElem hi', List.getElem?_eq_getElem hi2⟩
  · obtain ⟨vs, hv, r⟩ := h w' l ok k
    obtain ⟨us, hu, s⟩ := g w' l ok k
    refine ⟨vs, us, hv, hu, ?_⟩
    rw [r.length, s.length, zipD_len]
    omega
  · obtain ⟨vs, hv, r⟩ := h w' l ok k
    obtain ⟨us, hu, s⟩ := g w' l ok k
    obtain ⟨T, x, y, rfl, hT, rfl, hx, hy⟩ := hy
    obtain ⟨d, hd, rd⟩ := r.get' (hx vs hv)
    obtain ⟨e, he, re⟩ := s.get' (hy us hu)
    obtain ⟨w2, e2, l2, ok2, eS, rr⟩ := lay_at ok hT (RpL.cons rd (.one re))
    exact ⟨w2, e2, l2, ok2, eS, _, zipD_get ds es i d e hd he, rr⟩
theorem walks_zipT {q : Addr} (h : ∀ w', Lw w w' → Ok K w' → kp w'.S → ∃ vs, SqT K w'.H p vs ∧ RpL K w'.I w'.α vs ds) (g : ∀ w', Lw w w' → Ok K w' → kp w'.S → ∃ vs, SqT K w'.H q vs ∧ RpL K w'.I w'.α vs es) : Walks K w (RZ.ItzT K p q) (zipD ds es) kp := by
  refine ⟨fun w' i l ok k hi => ?_, fun w' l ok k => ?_, fun w' i x H' l ok k hi hy => ?_⟩
  · obtain ⟨vs, hv, r⟩ := h w' l ok k
    obtain ⟨us, hu, s⟩ := g w' l ok k
    rw [zipD_len] at hi
    have hi' : i < vs.length := by rw [r.length]; omega
    have hi2 : i < us.length := by rw [s.length]; omega
    exact ⟨vs, us, vs[i], us[i], hv, hu, List.getElem?_eq_getElem hi', List.getElem?_eq_getElem hi2⟩
  · obtain ⟨vs, hv, r⟩ := h w' l ok k
    obtain ⟨us, hu, s⟩ := g w' l ok k
    refine ⟨vs, us, hv, hu, ?_⟩
    rw [r.length, s.length, zipD_len]
    omega
  · obtain ⟨vs, hv, r⟩ := h w' l ok k
    obtain ⟨us, hu, s⟩ := g w' l ok k
    obtain ⟨T, x, y, rfl, hT, rfl, hx, hy⟩ := hy
    obtain ⟨d, hd, rd⟩ := r.get' (hx vs hv)
    obtain ⟨e, he, re⟩ := s.get' (hy us hu)
    obtain ⟨w2, e2, l2, ok2, eS, rr⟩ := lay_at ok hT (RpL.cons rd (.one re))
    exact ⟨w2, e2, l2, ok2, eS, _, zipD_get ds es i d e hd he, rr⟩
end
/-! ### their rules -/
theorem PI.or {X : Cx} {tg e : Expr} {a b : TI} (h : PI X tg e a) (g : PI X tg e b) : PI X tg e fun σ H R => a σ H R ∨ b σ H R := ⟨fun pins s σ H R I q => by
  rcases q with q | q
  · exact h.run pins s σ H R I q
  · exact g.run pins s σ H R I q⟩
/-- for .. in x: a list, a tuple, a text -/
def iSeq (t : DE) : DI := fun δ S Q E => t δ S (fun d S1 => match d with
  | .tup ds => Q ds (fun _ => True) S1
  | .str x => Q (signD x) (fun _ => True) S1
  | _ => opt (asR S1 d) fun ds => Q ds (kpOf S1 d) S1) E
/-- what pyIter gives of a value -/
def rSeqI (K : PySem.W.Frag) : V → Hp → (It → Hp → Prop) → Prop := fun v H R => (∃ a xs, v = .ref a ∧ SqL K H a xs ∧ R (Itl K a) H) ∨ (∃ a xs, v = .ref a ∧ SqT K H a xs ∧ R (Itt K a) H) ∨ ∃ x, v = .str x ∧ R (Its x) H
theorem it_seq {X : Cx} {tg : Expr} {pins : List (Addr × Obj)} {s : Shared} {σ : L2.St} {H : Hp} {R : It → Hp → Prop} {x : V} {v : Value} (I : Inv X pins σ H s) (r : RelV x v) (h : rSeqI X.K x H R) : wpAny (model X.prog X.w) X.A (pyIter v) (PIE X pins σ tg R) X.xe s := by
  rcases h with ⟨a, xs, rfl, hq, q⟩ | ⟨a, xs, rfl, hq, q⟩ | ⟨x, rfl, q⟩
  · cases r
    obtain ⟨its, _, hp, _⟩ := I.list hq
    exact wpAny_pyIter_list hp.isList (pi_one (tk := s.toks) I _ (turn_list a _) ⟨_, Heap.get?_push_size _ rfl, rfl, rfl⟩ q)
  · cases r
    obtain ⟨its, _, hp, _⟩ := I.tuple hq
    exact wpAny_pyIter_tuple (show s.heap.IsTuple a its.toArray from hp) (pi_one (tk := s.toks) I _ (turn_tuple a _) ⟨_, Heap.get?_push_size _ rfl, rfl, rfl⟩ q)
  · obtain ⟨t, rfl⟩ := r
    by_cases ha : x.cps.all (· < 128) = true
    · exact wpAny_pyIter_ascii ha (pi_one (tk := s.toks) I _ (turn_str _ x t "str_ascii_iterator" (.inl rfl)) ⟨_, Heap.get?_push_size _ rfl, rfl, rfl⟩ q)
    · exact wpAny_pyIter_wide (Bool.eq_false_iff.mpr ha) (pi_one (tk := s.toks) I _ (turn_str _ x t "str_iterator" (.inr rfl)) ⟨_, Heap.get?_push_size _ rfl, rfl, rfl⟩ q)
section
variable {X : Cx} {W : WX} {tg e e2 e3 : Expr} {te : DE} {ta : DA} {p pos tpos : Pos} {elts : List Expr} {kk : Nat}
theorem di_seq (he : PE X e (toE X.K W te)) : PI X tg e (toI X.K W (iSeq te)) := by
  refine ⟨fun pins s σ H R I h => ?_⟩
  obtain ⟨w, δ, Qd, Ed, rfl, ok, lo, t, q, ec⟩ := h
  refine thn (he.run pins s σ _ (fun x H1 => rSeqI X.K x H1 R) I ⟨w, δ, _, Ed, rfl, ok, lo, t, fun d v w1 t1 l1 ok1 r1 => ?_, ec⟩) fun v s1 ⟨x, H1, I1, r1, hq⟩ => it_seq I1 r1 hq
  have ls : opt (asR w1.S d) (fun ds => Qd ds (kpOf w1.S d) w1.S) → rSeqI X.K v w1.H R := fun h => by
    obtain ⟨ds, hd, h⟩ := opt_of h
    obtain ⟨p, vs, rfl, hp, _⟩ := asR_sem ok1 r1 hd
    obtain ⟨p', e, st⟩ := rd_of ok1 r1 hd
    cases e
    exact .inl ⟨p, vs, rfl, hp, q ds _ w1 _ h l1 ok1 (walks_list st)⟩
  cases d with
  | tup ds =>
    obtain ⟨p, vs, rfl, hp, r⟩ := r1.tup'
    exact .inr (.inl ⟨p, vs, rfl, ok1.sqT hp, q ds _ w1 _ t1 l1 ok1 (walks_tup fun w' l ok' _ => ⟨vs, ok'.sqT (SqT.le hp l.ii), r.upw l⟩)⟩)
  | str x =>
    cases r1
    exact .inr (.inr ⟨x, rfl, q _ _ w1 _ t1 l1 ok1 walks_str⟩)
  | _ => exact ls t1
/-- range(j), range(i, j), range(i, j, c) -/
def iR1 (t : DA) : DI := fun δ S Q E => t δ S (fun ds S1 => match ds with
  | [.int j] => -(2 ^ 62) ≤ j ∧ j < 2 ^ 62 ∧ Q (rngD 0 j.toNat) (fun _ => True) S1
  | _ => False) E
def iR2 (t : DA) : DI := fun δ S Q E => t δ S (fun ds S1 => match ds with
  | [.int i, .int j] => (-(2 ^ 62) ≤ i ∧ i < 2 ^ 62 ∧ -(2 ^ 62) ≤ j ∧ j < 2 ^ 62) ∧ Q (rngD i (j - i).toNat) (fun _ => True) S1
  | _ => False) E
def iR3 (t : DA) : DI := fun δ S Q E => t δ S (fun ds S1 => match ds with
  | [.int i, .int j, .int c] => ∃ n, RgC i j c n ∧ Q (rngC i c n) (fun _ => True) S1
  | _ => False) E
theorem di_range1 (hg : Gl X "range") (hm : X.mg "range" = none) (ha : PA X [e] (toA X.K W ta)) (hs : starEach [e] X.env = [(false, eval e X.env)] := by rfl) : PI X tg (.Call (.Name "range" p) [e] [] pos) (toI X.K W (iR1 ta)) := simpI (pi_range1 hg hm ha hs) fun σ H R h => by
  obtain ⟨w, δ, Qd, Ed, rfl, ok, lo, t, q, ec⟩ := h
  refine ⟨w, δ, _, Ed, rfl, ok, lo, t, fun ds vs w1 t1 l1 ok1 r1 => ?_, ec⟩
  split at t1
  · obtain ⟨v, rfl, rr⟩ := r1.one'
    cases rr
    exact ⟨_, rfl, t1.1, t1.2.1, q _ _ w1 _ t1.2.2 l1 ok1 walks_rng⟩
  · exact t1.elim
theorem di_range2 (hg : Gl X "range") (hm : X.mg "range" = none) (ha : PA X [e, e2] (toA X.K W ta)) (hs : starEach [e, e2] X.env = [(false, eval e X.env), (false, eval e2 X.env)] := by rfl) (hs2 : starEach [e2] X.env = [(false, eval e2 X.env)] := by rfl) :
    PI X tg (.Call (.Name "range" p) [e, e2] [] pos) (toI X.K W (iR2 ta)) := simpI (pi_range2 hg hm ha hs hs2) fun σ H R h => by
  obtain ⟨w, δ, Qd, Ed, rfl, ok, lo, t, q, ec⟩ := h
  refine ⟨w, δ, _, Ed, rfl, ok, lo, t, fun ds vs w1 t1 l1 ok1 r1 => ?_, ec⟩
  split at t1
  · obtain ⟨v, u, rfl, ra, rb⟩ := r1.two'
    cases ra
    cases rb
    exact ⟨_, _, rfl, t1.1, q _ _ w1 _ t1.2 l1 ok1 walks_rng⟩
  · exact t1.elim
theorem di_range3 (hg : Gl X "range") (hm : X.mg "range" = none) (ha : PA X [e, e2, e3] (toA X.K W ta)) (hs : starEach [e, e2, e3] X.env = (false, eval e X.env) :: starEach [e2, e3] X.env := by rfl) (hpl : (backTo pos (starEach [e2, e3] X.env)).any (·.1) = false := by rfl) :
    PI X tg (.Call (.Name "range" p) [e, e2, e3] [] pos) (toI X.K W (iR3 ta)) := simpI (pi_range3 hg hm ha hs hpl) fun σ H R h => by
  obtain ⟨w, δ, Qd, Ed, rfl, ok, lo, t, q, ec⟩ := h
  refine ⟨w, δ, _, Ed, rfl, ok, lo, t, fun ds vs w1 t1 l1 ok1 r1 => ?_, ec⟩
  split at t1
  · cases r1 with
    | cons ra r2 =>
      obtain ⟨v, u, rfl, rb, rc⟩ := r2.two'
      cases ra
      cases rb
      cases rc
      obtain ⟨n, h1, h2⟩ := t1
      exact ⟨_, _, _, n, rfl, h1, q _ _ w1 _ h2 l1 ok1 walks_rngC⟩
  · exact t1.elim
/-- enumerate(list) -/
def iEnm (t : DA) : DI := fun δ S Q E => t δ S (fun ds S1 => match ds with
  | [d] => opt (asR S1 d) fun xs => Q (enumD 0 xs) (kpOf S1 d) S1
  | _ => False) E
theorem di_enum (hg : Gl X "enumerate") (hm : X.mg "enumerate" = none) (ha : PA X [e] (toA X.K W ta)) (hs : starEach [e] X.env = [(false, eval e X.env)] := by rfl) :
    PI X (.Tuple elts kk tpos) (.Call (.Name "enumerate" p) [e] [] pos) (toI X.K W (iEnm ta)) := simpI (pi_enum hg hm ha hs) fun σ H R h => by
  obtain ⟨w, δ, Qd, Ed, rfl, ok, lo, t, q, ec⟩ := h
  refine ⟨w, δ, _, Ed, rfl, ok, lo, t, fun ds vs w1 t1 l1 ok1 r1 => ?_, ec⟩
  split at t1
  · obtain ⟨v, rfl, rr⟩ := r1.one'
    obtain ⟨xs, hx, h⟩ := opt_of t1
    obtain ⟨p, us, rfl, hp, _⟩ := asR_sem ok1 rr hx
    obtain ⟨p', e, st⟩ := rd_of ok1 rr hx
    cases e
    exact ⟨p, us, rfl, hp, q _ _ w1 _ h l1 ok1 (walks_enum st)⟩
  · exact t1.elim
/-- zip of two lists, of two tuples -/
def iZp (t : DA) : DI := fun δ S Q E => t δ S (fun ds S1 => match ds with
  | [.tup a, .tup b] => Q (zipD a b) (fun _ => True) S1
  | [d, f] => opt (asR S1 d) fun xs => opt (asR S1 f) fun ys => Q (zipD xs ys) (fun S' => kpOf S1 d S' ∧ kpOf S1 f S') S1
  | _ => False) E
theorem di_zip (hg : Gl X "zip") (hm : X.mg "zip" = none) (ha : PA X [e, e2] (toA X.K W ta)) (hs : starEach [e, e2] X.env = (false, eval e X.env) :: starEach [e2] X.env := by rfl) (hpl : (backTo pos (starEach [e2] X.env)).any (·.1) = false := by rfl) :
    PI X (.Tuple elts kk tpos) (.Call (.Name "zip" p) [e, e2] [] pos) (toI X.K W (iZp ta)) := simpI (RZ.pi_zipA hg hm ha hs hpl) fun σ H R h => by
  obtain ⟨w, δ, Qd, Ed, rfl, ok, lo, t, q, ec⟩ := h
  refine ⟨w, δ, _, Ed, rfl, ok, lo, t, fun ds vs w1 t1 l1 ok1 r1 => ?_, ec⟩
  split at t1
  · obtain ⟨v, u, rfl, ra, rb⟩ := r1.two'
    obtain ⟨p1, v1, rfl, hp1, s1⟩ := ra.tup'
    obtain ⟨p2, v2, rfl, hp2, s2⟩ := rb.tup'
    exact ⟨p1, p2, v1, v2, rfl, .inr ⟨ok1.sqT hp1, ok1.sqT hp2, q _ _ w1 _ t1 l1 ok1 (walks_zipT (fun w' l ok' _ => ⟨v1, ok'.sqT (SqT.le hp1 l.ii), s1.upw l⟩) (fun w' l ok' _ => ⟨v2, ok'.sqT (SqT.le hp2 l.ii), s2.upw l⟩))⟩⟩
  · obtain ⟨v, u, rfl, ra, rb⟩ := r1.two'
    obtain ⟨xs, hx, h⟩ := opt_of t1
    obtain ⟨ys, hy, h⟩ := opt_of h
    obtain ⟨p1, v1, rfl, hp1, _⟩ := asR_sem ok1 ra hx
    obtain ⟨p1', e1, st1⟩ := rd_of ok1 ra hx
    cases e1
    obtain ⟨p2, v2, rfl, hp2, _⟩ := asR_sem ok1 rb hy
    obtain ⟨p2', e2, st2⟩ := rd_of ok1 rb hy
    cases e2
    exact ⟨p1, p2, v1, v2, rfl, .inl ⟨hp1, hp2, q _ _ w1 _ h l1 ok1 (walks_zip (fun w' l ok' k => st1 w' l ok' k.1) (fun w' l ok' k => st2 w' l ok' k.2))⟩⟩
  · exact t1.elim
end
end DL

set_option maxHeartbeats 4000000
namespace DL
open PySem PySem.Spec L2
/-! ## 9. Comprehensions -/
def wipeD (δ : Lo) : List Nat → Lo
  | [] => δ
  | v :: vs => (wipeD δ vs).set v none
theorem LoR.wipe {K : PySem.W.Frag} {w : Wd} {σ : L2.St} {δ : Lo} (h : LoR K w σ δ) : ∀ vs : List Nat, LoR K w (L2.wipe σ vs) (wipeD δ vs)
  | [] => h
  | v :: vs => (LoR.wipe h vs).non v
theorem wipe_at (σ : L2.St) (j : Nat) : ∀ vs : List Nat, (L2.wipe σ vs)[j]? = if j ∈ vs then (σ[j]?).map (fun _ => none) else σ[j]?
  | [] => by simp [L2.wipe]
  | v :: vs => by
    have ih := wipe_at σ j vs
    have hl := wipe_length σ vs
    show ((L2.wipe σ vs).set v none)[j]? = _
    by_cases hj : v = j
    · subst hj
      by_cases hb : v < σ.length
      · rw [List.getElem?_set_self (by rw [hl]; exact hb), if_pos (List.mem_cons_self ..), List.getElem?_eq_getElem hb]
        rfl
      · rw [List.getElem?_eq_none (by rw [List.length_set, hl]; omega), List.getElem?_eq_none (by omega)]
        simp
    · rw [List.getElem?_set_ne hj, ih]
      have e : (j ∈ v :: vs) ↔ j ∈ vs := by
        rw [List.mem_cons]
        exact ⟨fun z => z.elim (fun y => absurd y.symm hj) id, .inr⟩
      by_cases h : j ∈ vs
      · rw [if_pos h, if_pos (e.mpr h)]
      · rw [if_neg h, if_neg fun z => h (e.mp z)]
theorem wipe_idem (σ : L2.St) (vs : List Nat) : L2.wipe (L2.wipe σ vs) vs = L2.wipe σ vs := by
  apply List.ext_getElem?
  intro j
  rw [wipe_at, wipe_at]
  by_cases h : j ∈ vs
  · rw [if_pos h, if_pos h]
    cases σ[j]? <;> rfl
  · rw [if_neg h, if_neg h]
theorem wipe_set (τ : L2.St) {i : Nat} {x : Option V} {vs : List Nat} (h : i ∈ vs) : L2.wipe (τ.set i x) vs = L2.wipe τ vs := by
  apply List.ext_getElem?
  intro j
  rw [wipe_at, wipe_at]
  by_cases hj : j ∈ vs
  · rw [if_pos hj, if_pos hj, List.getElem?_set]
    by_cases hij : i = j
    · rw [if_pos hij]
      subst hij
      by_cases hi : i < τ.length
      · rw [if_pos hi, List.getElem?_eq_getElem hi]
        rfl
      · rw [if_neg hi, List.getElem?_eq_none (by omega)]
    · rw [if_neg hij]
  · rw [if_neg hj, if_neg hj, List.getElem?_set_ne (fun z : i = j => hj (by rw [← z]; exact h))]
/-- a target whose names are the block's own -/
def SemGW (K : PySem.W.Frag) (vs : List Nat) (g : TG) (f : DG) : Prop := ∀ (w : Wd) (v : V) (d : D) (σ : L2.St) (δ : Lo) (Qd : Lo → Sto → Prop) (Q : L2.St → Hp → Prop), Ok K w → Rp K w.I w.α v d → LoR K w σ δ → f d δ w.S Qd →
  (∀ δ' σ' w', Qd δ' w'.S → Le w w' → Ok K w' → LoR K w' σ' δ' → L2.wipe σ' vs = L2.wipe σ vs → Q σ' w'.H) → g v σ w.H Q
theorem sgw_gN {K : PySem.W.Frag} {i : Nat} {vs : List Nat} (hi : i ∈ vs) : SemGW K vs (gName i) (gN i) := fun w v d σ δ Qd Q ok r lo h q => q _ _ w h (.refl w) ok (lo.set i r) (wipe_set σ hi)
theorem sgw_names {K : PySem.W.Frag} {w : Wd} {Q : L2.St → Hp → Prop} {Qd : Lo → Sto → Prop} {nv : List Nat} {τ : L2.St} (ok : Ok K w) (q : ∀ δ' σ' w', Qd δ' w'.S → Le w w' → Ok K w' → LoR K w' σ' δ' → L2.wipe σ' nv = L2.wipe τ nv → Q σ' w'.H) :
    ∀ (is : List Nat) (ds : List D) (vs : List V) (σ : L2.St) (δ δ' : Lo), (∀ i ∈ is, i ∈ nv) → L2.wipe σ nv = L2.wipe τ nv → RpL K w.I w.α vs ds → LoR K w σ δ → setsD is ds δ = some δ' → Qd δ' w.S → gNames is vs σ w.H Q
  | [], [], _, σ, δ, _, _, hw, r, lo, h, hq => by
    cases r
    cases h
    exact ⟨rfl, q _ _ w hq (.refl w) ok lo hw⟩
  | i :: is, d :: ds, _, σ, δ, δ', hi, hw, r, lo, h, hq => by
    cases r with
    | cons r1 r2 => exact ⟨_, _, rfl, sgw_names ok q is ds _ _ _ _ (fun j hj => hi j (List.mem_cons_of_mem _ hj)) ((wipe_set σ (hi i (List.mem_cons_self ..))).trans hw) r2 (lo.set i r1) h hq⟩
  | [], _ :: _, _, _, _, _, _, _, _, _, h, _ => by cases h
  | _ :: _, [], _, _, _, _, _, _, _, _, h, _ => by cases h
theorem sgw_gT {K : PySem.W.Frag} {is : List Nat} {n : Nat} {vs : List Nat} (hn : is.length = n) (hi : ∀ i ∈ is, i ∈ vs) : SemGW K vs (gTup K n (gNames is)) (gT is) := fun w v d σ δ Qd Q ok r lo h q => by
  cases d with
  | tup ds =>
    obtain ⟨δ', h1, h2⟩ := opt_of h
    obtain ⟨p, us, rfl, hp, rr⟩ := r.tup'
    exact ⟨p, us, rfl, ok.sqT hp, by rw [rr.length, setsD_len h1, hn], sgw_names ok q is ds us σ δ δ' hi rfl rr lo h1 h2⟩
  | _ => exact h.elim
/-- an object that stands beside the world -/
structure Bs (w : Wd) (p : Addr) : Prop where
  h : w.H p ≠ none
  i : w.I p = none
  a : ∀ n, w.S n ≠ none → w.α n ≠ some p
  t : ∀ ts, w.H p ≠ some (.tup ts)
section
variable {K : PySem.W.Frag} {w w1 w' : Wd} {p : Addr} {o : HO}
theorem Bs.same (b : Bs w p) (l : Le w w') : w'.H p = w.H p := by
  cases e : w.H p with
  | none => exact absurd e b.h
  | some o => exact l.hh p o e b.a
theorem Bs.up (b : Bs w p) (l : Le w w') : Bs w' p := by
  refine ⟨by rw [b.same l]; exact b.h, ?_, fun n hs hα => ?_, by rw [b.same l]; exact b.t⟩
  · cases e : w'.I p with
    | none => rfl
    | some u =>
      rcases l.newI p (by rw [e]; simp) with z | z | ⟨n, hs, z⟩ | ⟨ts, z⟩
      · exact absurd b.i z
      · exact absurd z b.h
      · exact absurd z (b.a n hs)
      · exact absurd z (b.t ts)
  · rcases l.newA n p hα with z | ⟨_, z⟩
    · rcases l.dom n hs with y | y
      · exact b.a n y z
      · rw [y] at z; cases z
    · exact b.h z
theorem Bs.ok (b : Bs w p) (ok : Ok K w) : Ok K (w.side (upd w.H p o)) := by
  refine ⟨fun q u e => ?_, fun n c e => ?_, ok.inj, ok.fin⟩
  · have hq : q ≠ p := fun z => by
      have e : w.I q = some u := e
      rw [z, b.i] at e; cases e
    exact (upd_ne hq).trans (ok.sub q u e)
  · obtain ⟨q, u, h1, h2, h3, h4⟩ := ok.cel n c e
    have hq : q ≠ p := fun z => b.a n (by have e : w.S n = some c := e; rw [e]; simp) (by rw [← z]; exact h1)
    exact ⟨q, u, h1, (upd_ne hq).trans h2, h3, h4⟩
theorem Bs.put (b : Bs w p) (ho : ∀ ts, o ≠ .tup ts := by intro _ z; cases z) : Bs (w.side (upd w.H p o)) p := ⟨by show upd w.H p o p ≠ none; rw [upd_same]; simp, b.i, b.a, by show ∀ ts, upd w.H p o p ≠ _; rw [upd_same]; exact fun ts z => ho ts (Option.some.inj z)⟩
theorem Le.put (l : Le w1 w) (h : w1.H p = none) : Le w1 (w.side (upd w.H p o)) := by
  refine ⟨l.ii, l.aa, fun q u e hq => ?_, fun q e => ?_, l.newI, l.newA, l.dom⟩
  · have hp : q ≠ p := fun z => by rw [z, h] at e; cases e
    exact (upd_ne hp).trans (l.hh q u e hq)
  · show upd w.H p o q ≠ none
    by_cases hq : q = p
    · rw [hq, upd_same]; simp
    · rw [upd_ne hq]; exact l.there q e
end
def W0 : WX := fun _ _ _ _ => False
theorem eC0 {K : PySem.W.Frag} {σ : L2.St} {w : Wd} : eC K W0 σ w (fun _ _ => False) := fun _ _ _ h => h.elim
def dYes : DT := fun _ S Q _ => Q true S
theorem dts_nil {X : Cx} {W : WX} : PTs X [] (toT X.K W dYes) := ⟨fun pins s σ H Q I h => pts_nil.run pins s σ H Q I (by
  obtain ⟨w, δ, Qd, Ed, rfl, ok, lo, t, q, _⟩ := h
  exact q true w t (.refl w) ok)⟩
theorem dts_one {X : Cx} {W : WX} {c : Expr} {t : DT} (h : PT X c (toT X.K W t)) : PTs X [c] (toT X.K W t) := pts_one h
/-- the turns: the items left, what is made -/
def dLcL (kp : Sto → Prop) (g : DG) (c : DT) (elt : DE) (δ : Lo) : List D → List D → Sto → (List D → Sto → Prop) → Prop
  | [], acc, S, Q => kp S ∧ Q acc S
  | d :: ds, acc, S, Q => kp S ∧ g d δ S fun δ1 S1 => c δ1 S1 (fun b S2 => cnd b (elt δ1 S2 (fun y S3 => acc.length < sizeLine ∧ dLcL kp g c elt δ ds (acc ++ [y]) S3 Q) (fun _ _ => False)) (dLcL kp g c elt δ ds acc S2 Q)) (fun _ _ => False)
def dLc (src : DI) (g : DG) (c : DT) (elt : DE) (vs : List Nat) : DA := fun δ S Q E => src δ S (fun ds kp S1 => dLcL kp g c elt (wipeD δ vs) ds [] S1 Q) E
theorem dLcL_kp {kp : Sto → Prop} {g : DG} {c : DT} {elt : DE} {δ : Lo} {ds acc : List D} {S : Sto} {Q : List D → Sto → Prop} (h : dLcL kp g c elt δ ds acc S Q) : kp S := by
  cases ds with
  | nil => exact h.1
  | cons d ds => exact h.1
theorem toF_lc {K : PySem.W.Frag} {W : WX} {src : DI} {g : TG} {f : DG} {c : DT} {elt : DE} {vs : List Nat} (sg : SemGW K vs g f) (σ : L2.St) (H : Hp) (Q : VK) (h : toF K W (dLc src f c elt vs) σ H Q) : tLc (toI K W src) g (toT K W0 c) (toE K W0 elt) vs σ H Q := by
  obtain ⟨w, δ, Qd, Ed, rfl, ok, lo, t, q, ec⟩ := h
  refine ⟨w, δ, _, Ed, rfl, ok, lo, t, fun ds kp w1 J t1 l1 ok1 wk A hA => ?_, ec⟩
  obtain ⟨f1, f2, f3, f4, f5⟩ := fresh_side (o := .lst []) l1 ok1 hA
  have b0 : Bs (w1.side (upd w1.H A (.lst []))) A := ⟨by show upd w1.H A (.lst []) A ≠ none; rw [upd_same]; simp, f4, f5, by intro ts; show upd w1.H A (.lst []) A ≠ _; rw [upd_same]; simp⟩
  refine ⟨fun i m H' => m = ds.length - i ∧ i ≤ ds.length ∧ ∃ (w' : Wd) (acc : List D) (vacc : List V), w'.H = H' ∧ Le w1 w' ∧ Ok K w' ∧ Bs w' A ∧ w'.H A = some (.lst vacc) ∧ RpL K w'.I w'.α vacc acc ∧ dLcL kp f c elt (wipeD δ vs) (ds.drop i) acc w'.S Qd,
    ⟨ds.length, by simp, Nat.zero_le _, w1.side (upd w1.H A (.lst [])), [], [], rfl, .side (HpLe.upd hA), f2, b0, upd_same, .nil, t1⟩, ?_⟩
  rintro i m H' ⟨rfl, hi, w', acc, vacc, rfl, l', ok', b', hA', r', h'⟩
  have low : LoR K w' (L2.wipe σ vs) (wipeD δ vs) := ((lo.up l1).up l').wipe vs
  by_cases hlt : i < ds.length
  · refine .inr ⟨wk.go w' i l'.lw ok' (dLcL_kp h') hlt, fun H2 => ∃ (w' : Wd) (acc : List D) (vacc : List V), w'.H = H2 ∧ Le w1 w' ∧ Ok K w' ∧ Bs w' A ∧ w'.H A = some (.lst vacc) ∧ RpL K w'.I w'.α vacc acc ∧ dLcL kp f c elt (wipeD δ vs) (ds.drop (i + 1)) acc w'.S Qd,
      fun H2 z => ⟨ds.length - (i + 1), by omega, rfl, hlt, z⟩, fun x H2 hy => ?_⟩
    obtain ⟨w2, rfl, l2, ok2, e2, d, hd, rd⟩ := wk.yld w' i x H2 l'.lw ok' (dLcL_kp h') hlt hy
    rw [List.drop_eq_getElem_cons hlt] at h'
    have hd' : ds[i] = d := by
      rw [List.getElem?_eq_getElem hlt] at hd
      exact Option.some.inj hd
    rw [hd'] at h'
    obtain ⟨_, h'⟩ := h'
    rw [← e2] at h'
    refine sg w2 x d _ _ _ _ ok2 rd (low.up l2) h' fun δ3 σ3 w3 a3 l3 ok3 lo3 ew => ⟨ew.trans (wipe_idem σ vs), ?_⟩
    refine ⟨w3, δ3, _, _, rfl, ok3, lo3, a3, fun b w4 a4 l4 ok4 => cnd_ite ?_, eC0⟩
    have l14 : Le w' w4 := (l2.trans l3).trans l4
    cases b with
    | true =>
      refine ⟨w4, δ3, _, _, rfl, ok4, lo3.up l4, a4, fun y v w5 a5 l5 ok5 r5 => ?_, eC0⟩
      obtain ⟨hz, a5⟩ := a5
      have l15 := l14.trans l5
      have b5 := b'.up l15
      refine ⟨vacc, (b'.same l15).trans hA', by rw [r'.length]; exact hz, w5.side (upd w5.H A (.lst (vacc ++ [v]))), acc ++ [y], vacc ++ [v], rfl, (l'.trans l15).put hA, b5.ok ok5, b5.put, upd_same, (r'.up l15).append (.one r5), a5⟩
    | false => exact ⟨w4, acc, vacc, rfl, l'.trans l14, ok4, b'.up l14, (b'.same l14).trans hA', r'.up l14, a4⟩
  · have e : i = ds.length := by omega
    subst e
    rw [List.drop_length] at h'
    refine .inl ⟨wk.stop w' l'.lw ok' h'.1, q acc vacc A w' h'.2 (l1.trans l') ok' r' hA' f3 b'.i b'.a⟩
section
variable {X : Cx} {W : WX} {tg iter elt : Expr} {ifs : List Expr} {scope : Scope} {own : List (Str × Nat)} {pos : Pos} {src : DI} {g : TG} {f : DG} {c : DT} {te : DE}
theorem df_lc (hc : X.calm = true) (hN : X.N.Nodup) (hi : PI X tg iter (toI X.K W src)) (ok : BlkOk X.N X.env.scope scope own) (sg : SemGW X.K (own.map (·.2)) g f)
    (hg : ∀ (s : Shared) (H : Hp) (C : Addr) (cl : List (Str × Addr)) (fp : List Addr), PG (X.blk s H scope (compEnvC scope cl C X.env) fp) tg g) (ht : ∀ (s : Shared) (H : Hp) (C : Addr) (cl : List (Str × Addr)) (fp : List Addr), PTs (X.blk s H scope (compEnvC scope cl C X.env) fp) ifs (toT X.K W0 c))
    (he : ∀ (s : Shared) (H : Hp) (C : Addr) (cl : List (Str × Addr)) (fp : List Addr), PE (X.blk s H scope (compEnvC scope cl C X.env) fp) elt (toE X.K W0 te)) (hs : ∀ x, foldedSetIterable iter X.env x = pure x := by intro _; rfl) :
    PE X (.ListComp elt [⟨tg, iter, ifs, 0⟩] scope pos) (toF X.K W (dLc src f c te (own.map (·.2)))) := pimp (pe_lc hc hN hi ok hg ht he hs) (toF_lc sg)
/-- y = [..]: frozen; a cell -/
theorem fz_F {K : PySem.W.Frag} {ta : DA} (σ : L2.St) (H : Hp) (Q : VK) (h : toE K W (dFz ta) σ H Q) : toF K W ta σ H Q := by
  obtain ⟨w, δ, Qd, Ed, rfl, ok, lo, t, q, ec⟩ := h
  refine ⟨w, δ, _, Ed, rfl, ok, lo, t, fun xs vs p w1 t1 l1 ok1 r1 hp h0 hI hn => ?_, ec⟩
  refine q (.lst xs) (.ref p) ⟨upd w1.I p (.lst vs), w1.α, w1.S, w1.H⟩ t1 ?_ (ok1.know hp hI hn) (.lst upd_same (r1.le (HpLe.upd hI) fun _ _ z => z))
  refine l1.newly (K := K) h0 (HpLe.upd hI) (fun q' z => ?_) (fun _ _ z => z) (fun _ _ z => .inl z) fun _ z => .inl z
  by_cases hq : q' = p
  · exact .inr hq
  · rw [upd_ne hq] at z; exact .inl z
theorem new_F {K : PySem.W.Frag} {ta : DA} (σ : L2.St) (H : Hp) (Q : VK) (h : toE K W (dNew ta) σ H Q) : toF K W ta σ H Q := by
  obtain ⟨w, δ, Qd, Ed, rfl, ok, lo, t, q, ec⟩ := h
  refine ⟨w, δ, _, Ed, rfl, ok, lo, t, fun xs vs p w1 t1 l1 ok1 r1 hp h0 hI hn => ?_, ec⟩
  obtain ⟨n, hα, hS⟩ := ok1.free
  have up : ∀ k q, w1.α k = some q → (if k = n then some p else w1.α k) = some q := fun k q e => by
    have hk : k ≠ n := fun z => by rw [z, hα] at e; cases e
    rw [if_neg hk]; exact e
  refine q (.m n) (.ref p) ⟨w1.I, fun k => if k = n then some p else w1.α k, put w1.S n (.lst xs), w1.H⟩ (t1 n hS) ?_ (ok1.grip hp hI hα hn ⟨vs, rfl, r1.le (fun _ _ z => z) up⟩) (.m (if_pos rfl))
  refine l1.newly (K := K) h0 (fun _ _ z => z) (fun _ z => .inl z) up (fun k q' z => ?_) fun k z => ?_
  · have z : (if k = n then some p else w1.α k) = some q' := z
    by_cases hk : k = n
    · rw [if_pos hk] at z
      cases z
      rw [hk]
      exact .inr ⟨hα, rfl⟩
    · rw [if_neg hk] at z
      exact .inl z
  · have z : put w1.S n (.lst xs) k ≠ none := z
    by_cases hk : k = n
    · rw [hk]; exact .inr hα
    · rw [put_ne hk] at z
      exact .inl z
theorem asg_mono {i : Nat} {t t' : TE} (f : ∀ σ H Q, t' σ H Q → t σ H Q) (D : Ends) (σ : L2.St) (H : Hp) (h : tAsg t' (gName i) D σ H) : tAsg t (gName i) D σ H := f _ _ _ h
theorem asg_set {K : PySem.W.Frag} {i : Nat} {t : DE} (D : Ends) (σ : L2.St) (H : Hp) (h : toS K W (dSet i t) D σ H) : tAsg (toE K W t) (gName i) D σ H := by
  obtain ⟨w, δ, B, rfl, ok, lo, t, r⟩ := h
  exact ⟨w, δ, _, _, rfl, ok, lo, t, fun d v w1 a b c f => r.nx _ _ w1 a b c ((lo.up b).set i f), r.eC lo⟩
/-- the rule of y = [.. for ..], by the rule of the kit -/
theorem ds_setLc {st : Stmt} {i : Nat} {vs : List Nat} {t : DE} (hs : PS X st (tAsg (tLc (toI X.K W src) g (toT X.K W0 c) (toE X.K W0 te) vs) (gName i))) (sg : SemGW X.K vs g f) (hf : ∀ σ H Q, toE X.K W t σ H Q → toF X.K W (dLc src f c te vs) σ H Q) : PS X st (toS X.K W (dSet i t)) :=
  simp' hs fun D σ H h => asg_mono (fun σ H Q q => toF_lc sg σ H Q (hf σ H Q q)) D σ H (asg_set D σ H h)
end
end DL

set_option maxHeartbeats 4000000
namespace DLX
open PySem PySem.Spec PySem.W L2 NdefX
/-! ## The __init__ of an error of one's own that begins with super().__init__(..) -/
section
variable {prog : Program} {w : World} {A : Around} {E : Value → Shared → Prop} {h : Heap} {g : Array GenState} {d : Drawn} {t : Nat} {os : OsState}
/-- the bound built-in __init__ is called -/
theorem call_mw {u e t0 C N : Addr} {nm q : Str} {bs bm : List Value} {hdct : Bool} {sn : List Str} {sub : List Value} {ab : Bool} {col : Option Bool} {dd : Option Addr} {k0 k1 k2 k3 k5 : Option Value} {ws : List Value} {Q : Value → Shared → Prop}
    (hC : h.get? C = some (excClassObj nm q C N bs bm hdct sn sub ab col dd k0 k1 k2 k3 k5 "ValueError.__new__")) (he : h.get? e = some (HandSPX.excO C t0)) (hu : h.get? u = some (kxs_mw "ValueError.__init__" e)) (hz : ws.length ≤ sizeLine)
    (hq : ∀ h' t1, (∀ b o, b ≠ e → h.get? b = some o → h'.get? b = some o) → h'.get? e = some (HandSPX.excO C t1) → Q .none ⟨h', g, d, t, os⟩) :
    wpAny (model prog w) A (call (.ref u) ws) Q E ⟨h, g, d, t, os⟩ := by
  have FB := F.excBase_ValueError
  refine wpAny_call (codeAny_of_tree ?_)
  show wpAny (model prog w) A.in1 (callAny (Value.ref u) { pos := ws, kw := [] }) _ _ _
  unfold callAny
  refine wpAny_bind (wpAny_load hu ?_)
  have ty : (Value.type "method-wrapper" == Value.type "method" || Value.type "method-wrapper" == Value.type "builtin_function_or_method" || Value.type "method-wrapper" == Value.type "method-wrapper") = true := by decide
  simp only [kxs_mw, ty, if_true]
  refine KFB.if_so (by decide) (wpAny_bind (check_bound_init FB.toExcCallFacts hC he rfl ?_))
  refine wpAny_bind (wpAny_pure (wpAny_pure ⟨plainId_quiet FB.init.plain _, codeAny_builtin FB.initEntry ?_⟩))
  exact exc_init_tree (t0 := t0) (cls := .ref C) (dv := none) (c2 := .none) (c3 := .none) (b4 := .bool false) he hz fun h' k e' _ => hq h' _ k e'
end
/-- what the written part says of such a class and of its __init__ -/
structure SupC (P : Program) (K : Frag) (mg : Str → Option Value) (C cc : Addr) (F : NF) : Prop where
  oex : OexC K C
  cell : ∃ ccl ccd ccs, K.lookup cc = some ⟨ccl, ccd, .cell (some (.ref C)), ccs⟩
  code : codeIn K (.ref F.c) F.qual = true
  file : ∃ (vs : Array Value) (file : Str) (tf : Tok) (c1 : Value) (c2 : Option Addr) (c3 : Array (Option Value)), K.lookup F.c = some ⟨c1, c2, .fields vs, c3⟩ ∧ vs[2]? = some (.str file tf) ∧ ((P.main.file : Str) == file) = true
  sup : ks_superIn K C C "__init__" = some (some (.builtin "ValueError.__init__"))
  self : mroIn K C (.ref C) = some true
  ve : subIn K (.ref C) (.type "ValueError") = some true
  third : nsIn K cStatics "thirdparty.any" = some none
  noS : mg "super" = none
  top : (P.main.scope.names.lookup ("super" : Str)).isSome = false
section
variable {CX : CXT} {P : Program} {w : World} {K : Frag} {mg : Str → Option Value} {base : Heap} {N ps : List Str} {F : NF} {f cc C : Addr} {k : Nat} {sp : Sp} {oc kV doc pm ctv : Value} {od an : Option Addr} {osl : Array (Option Value)}
  {p0 p1 p2 p3 p4 : Pos} {e : Expr} {es : List Expr} {rest : List Stmt} {ar : Arg} {pl : Env → Sem Bool}
theorem sup_ok (T : SupC P K mg C cc F) (lk : K.lookup f = some ⟨oc, od, .func (fnX F.name F.qual F.params F.body F.scope F.cl .none kV doc pm an (.ref F.c) ctv), osl⟩) (hcl : F.cl = [(("__class__" : Str), cc)]) (S : NScope N ps ["__class__"] F.scope)
    (hbody : F.body = .Expr (.Call (.Attribute (.Call (.Name "super" p0) [] [] p1) "__init__" p2) (e :: es) [] p3) p4 :: rest) (har : (F.params.posonlyargs ++ F.params.args).head? = some ar) (har2 : ps.head? = some ar.arg)
    (hks : F.scope.names.lookup ("super" : Str) = some .globalImplicit) (len : ∀ vs H Q E, sp vs H Q E → vs.length = ps.length)
    (hst : ∀ env : Env, starEach (e :: es) env = (false, eval e env) :: starEach es env) (hpl : ∀ env : Env, (backTo p3 (starEach es env)).any (·.1) = false)
    (hev : ∀ env : Env, eval (.Call (.Attribute (.Call (.Name "super" p0) [] [] p1) "__init__" p2) (e :: es) [] p3) env = (do
      let ov ← attributeBase (.Call (.Name "super" p0) [] [] p1) "__init__" env (eval (.Call (.Name "super" p0) [] [] p1) env)
      standAt p2.atName
      let (f, first) ← holding [ov] (getMethod ov "__init__" (pl env))
      callWith p3 f first (backTo p3 (starEach (e :: es) env)) []))
    (hsw : ∀ env : Env, swapsWith (.Call (.Attribute (.Call (.Name "super" p0) [] [] p1) "__init__" p2) (e :: es) [] p3) none p4.line env = pure false)
    (hrd : ∀ (A : Around) (outer : List Env) (s : Shared) (H : Hp) (vs : List V) (Q : VK) (E : XK), sp vs H Q E → ∃ (ta : TA) (tr : TS) (x : Addr) (ws : List V), vs = .ref x :: ws ∧ H x = some (exo x C none) ∧
      PA (ncx CX P w K mg base N F f A outer s H E) (e :: es) ta ∧ PSs (ncx CX P w K mg base N F f A outer s H E) rest tr ∧ ta (startF N vs [some (.ref C)]) H (fun us H1 => H1 = H ∧ us.length ≤ 1000) ∧
      tr { nx := fun _ H' => Q .non H', rt := Q } (startF N vs [some (.ref C)]) H) :
    FnOk P w K mg base CX (k + 1) f (fnX F.name F.qual F.params F.body F.scope F.cl .none kV doc pm an (.ref F.c) ctv) ps sp := by
  refine ⟨len, fun A outer s H args us vs Q E hr e0 hbi r hsp => ?_⟩
  have KX : K.In s.heap := e0.mod.kin.keeps fun b o z => (e0.bs b o z).1
  have lim : s.heap.NoLimit := e0.mod.nolimit.keeps fun b o z => (e0.bs b o z).1
  have hl := len _ _ _ _ hsp
  obtain ⟨ccl, ccd, ccs, hcc⟩ := T.cell
  obtain ⟨fvs, file, tf, c1, c2, c3, hfc, hf2, hff⟩ := T.file
  obtain ⟨ta, tr, x, ws, hvs, hx, hpa, hps, hta, htr⟩ := hrd A outer s H vs Q E hsp
  refine ks_codeAny_call_defAt (body := F.body) (fd := fnX F.name F.qual F.params F.body F.scope F.cl .none kV doc pm an (.ref F.c) ctv) hr.depth (KX _ _ lk) rfl lim (codeRec_of KX T.code) rfl hbi S.nocell
    (fun ⟨n, _⟩ hy => S.par n (List.of_mem_zip hy).1) (fun h₁ hns kp => ?_) S.co S.gen S.kind
  have CA : CellsAt F.cl ["__class__"] [some (.ref C)] s.heap H := by
    have q := e0.bs cc _ (e0.mod.kin _ _ hcc)
    refine ⟨rfl, fun y c hy => ?_, fun y z c h1 h2 => ?_, fun i y hi => ?_⟩
    · rw [hcl, List.lookup_cons] at hy
      split at hy
      · cases hy
        exact ⟨q.2, _, _, q.1, rfl⟩
      · cases hy
    · rw [hcl, List.lookup_cons] at h1 h2
      split at h1
      · rename_i e1
        split at h2
        · rename_i e2
          rw [beq_iff_eq.mp e1, beq_iff_eq.mp e2]
        · cases h2
      · cases h1
    · cases i with
      | zero =>
        cases hi
        refine ⟨cc, by rw [hcl]; rfl, fun v hv => ?_⟩
        cases hv
        exact ⟨.ref C, rfl, _, q.1, rfl⟩
      | succ i => cases hi
  have I0 : Inv (ncx CX P w K mg base N F f A outer s H E) [] (startF N vs [some (.ref C)]) H { s with heap := h₁, toks := s.toks + (ps.zip us).length } := inv_startN S hr.hd e0 hl r CA hns kp
  show PySem.wpAt (model P w) (A.deeper (envF F f s.heap.objs.size)) (.func F.body (envF F f s.heap.objs.size)) (execs F.body (envF F f s.heap.objs.size)) _ _ _
  have fin : ∀ {fl : Flow} {s' : Shared}, SP (ncx CX P w K mg base N F f A outer s H E) [] { nx := fun _ H' => Q .non H', rt := Q } fl s' → CR CX outer P w H s Q E (.ok (.ret (match fl with | .ret v => v | _ => .none))) s' := by
    intro fl s' hs
    cases fl with
    | ret u =>
      obtain ⟨v, σ', H', J, rv, q⟩ := hs
      exact ⟨v, H', J.os, J.bare, J.base, J.hok, rv, q⟩
    | next =>
      obtain ⟨σ', H', J, q⟩ := hs
      exact ⟨.non, H', J.os, J.bare, J.base, J.hok, rfl, q⟩
    | brk =>
      obtain ⟨_, _, _, q⟩ := hs
      exact q.elim
    | cont =>
      obtain ⟨_, _, _, q⟩ := hs
      exact q.elim
  rw [show execs F.body (envF F f s.heap.objs.size) = execs (.Expr (.Call (.Attribute (.Call (.Name "super" p0) [] [] p1) "__init__" p2) (e :: es) [] p3) p4 :: rest) (envF F f s.heap.objs.size) from by rw [hbody]]
  obtain ⟨hp, gn, dr, tk, os⟩ := s
  refine ks_wpAt_execs_cons (ks_wpAt_Expr_any (ks_wpAt_MethodCall (pl := pl _) ?_ (hev _)) ?_ (hsw _))
  · refine ks_wpAt_super_base (f := f) (cc := F.c) (fd := fnX F.name F.qual F.params F.body F.scope F.cl .none kV doc pm an (.ref F.c) ctv) hks (S.frk "__class__" (by simp)) (by decide) rfl (kp _ _ (KX _ _ lk)) rfl har rfl (kp _ _ (KX _ _ hfc)) rfl hf2 hff T.top ?_
    obtain ⟨mb, hb1, hb2⟩ := I0.mod.blt
    refine ks_loadName_global S.kind hks (Calls.loadGlobal_builtin (I0.mod.glob.keeps I0.bk) T.noS (hb1.keeps I0.bk) ((hb2 "super" (by decide)).trans (by first | exact PyProof.Rows.Boot.«super» | decide +kernel)) ⟨rfl, ?_⟩)
    obtain ⟨ml, hml, hloc⟩ := I0.loc
    refine wpAny_loadName_free S.kind (S.frk "__class__" (by simp)) (by show F.cl.lookup ("__class__" : Str) = some cc; rw [hcl]; rfl) ⟨_, kp _ _ (KX _ _ hcc), rfl⟩ ?_
    have hN0 : N[0]? = some ar.arg := by
      have z := S.pre
      cases ps with
      | nil => cases har2
      | cons p pr =>
        cases har2
        cases N with
        | nil => simp at z
        | cons n nr =>
          rw [show (ar.arg :: pr).length + [("__class__" : Str)].length = (pr.length + 1) + 1 from rfl, List.take_succ_cons] at z
          injection z with z1 _
          rw [z1]
          rfl
    obtain ⟨ux, rx, lx⟩ := hloc 0 ar.arg (.ref x) hN0 (by rw [hvs]; rfl) (.inl (S.par _ (by cases ps with | nil => cases har2 | cons p pr => cases har2; exact List.mem_cons_self ..)))
    cases rx
    have kloc : F.scope.names.lookup ar.arg = some .local := S.par _ (by cases ps with | nil => cases har2 | cons p pr => cases har2; exact List.mem_cons_self ..)
    have lx' : ml ar.arg = some (.ref x) := by
      rcases lx with ⟨_, z⟩ | ⟨z, _⟩
      · exact z
      · rcases z with z | z
        · have z : F.scope.names.lookup ar.arg = some .cell := z
          rw [kloc] at z; cases z
        · have z : F.scope.names.lookup ar.arg = some .free := z
          rw [kloc] at z; cases z
    refine wpAny_loadName_local S.kind kloc hml lx' ?_
    obtain ⟨nm, q, Nn, bs, bm, sn, sub, ab, col, dd, k0, k1, k2, k3, k5, hC, hbm⟩ := T.oex.cls
    have hC1 := I0.kIn _ _ hC
    refine ks_wpAny_isType_cls hC1 rfl ⟨rfl, ?_⟩
    obtain ⟨t1, hox⟩ := exo_at I0.hok hx
    refine ks_wpAny_call_super hC1 rfl hox rfl (fun c z => nomatch z) (looks_mroIn I0.kIn T.self) (fun h2 hso k2 => ?_)
    -- the super object stands; its __init__ is asked
    have I2 : Inv (ncx CX P w K mg base N F f A outer ⟨hp, gn, dr, tk, os⟩ H E) [] (startF N vs [some (.ref C)]) H ⟨h2, gn, dr, tk + (ps.zip us).length, os⟩ := I0.kept (t' := tk + (ps.zip us).length) k2
    have hxC : x ≠ C := fun z => by rw [z, hC1] at hox; cases hox
    have hsup := T.sup
    unfold ks_superIn at hsup
    have hcls : clsIn K C = some { name := nm, bases := bs, mro := .ref C :: bm, ns := Nn, qualname := q, hasDict := true, slotNames := sn, subclasses := sub, abstract := ab, collection := col, hasDel := false } := by unfold clsIn; rw [hC] <;> rfl
    rw [hcls] at hsup
    have J : InstAt h2 x (HandSPX.excO C t1) C none := ⟨k2 _ _ hox, rfl, rfl, trivial⟩
    refine kxs_getMethod kxs_ValueError hso (looks_opaque I2.kIn T.third) (l₀ := .ref C :: bm) ?_ rfl I2.kIn hsup (J.type.andThen (looks_subIn I2.kIn T.ve)) hxC (by decide) ?_
    · exact fun A Q E s k q => wpAny_bind ((looks_clsIn I2.kIn hcls) A _ E s k (wpAny_pure q))
    have hu2 : (h2.push (kxs_mw "ValueError.__init__" x)).get? h2.objs.size = some (kxs_mw "ValueError.__init__" x) := Heap.get?_push_at rfl rfl
    have I3 := ClX.pin_new (o := kxs_mw "ValueError.__init__" x) (a := h2.objs.size) (t' := tk + (ps.zip us).length + 1) I2 (fun b o z => Heap.get?_push_of_some _ z) (Nat.le_refl _) hu2 (fun v z => nomatch z)
    refine kxs_callWith (i := "ValueError.__init__") (x := x) (by rw [hst]; show (false || (backTo p3 (starEach es _)).any (·.1)) = false; rw [hpl]; rfl) ?_
    rw [hst]
    refine Calls.evalArgs_plain ?_
    have hrun := hpa.run p3 _ _ _ H _ I3 hta
    rw [hst] at hrun
    refine thn hrun fun us1 s4 hq => ?_
    obtain ⟨vs4, H4, I4, r4, rfl, hz⟩ := hq
    refine ⟨ClX.pin_at I4, ?_⟩
    obtain ⟨t4, hox4⟩ := exo_at I4.hok hx
    have hu4 : s4.heap.get? h2.objs.size = some (kxs_mw "ValueError.__init__" x) := ClX.pin_at I4
    have I5 := ClX.unpin I4
    obtain ⟨h4, g4, d4, tk4, os4⟩ := s4
    refine call_mw (I5.kIn _ _ hC) hox4 hu4 (by show us1.length ≤ sizeLine; rw [← Paired.length r4, sizeLine_eq]; omega) fun h' t5 k5 e5 => ?_
    have J5 := I5.write (t' := tk4) (x := x) (e := x) (o := exo x C none) (by rw [hx]; exact True.intro) (.inl rfl) k5 ⟨_, e5⟩ (exo_ok e5)
    have eu : upd H4 x (exo x C none) = H4 := by
      funext b
      by_cases hb : b = x
      · rw [hb, upd_same, hx]
      · rw [upd_ne hb]
    rw [eu] at J5
    refine wpAt_of_wpAny (wpAny_mono (hps.run [] _ _ _ _ J5 htr) (fun fl s' hs => fin hs) fun ev s' hs => hs)
  · simp [interactive, S.kind]
end
end DLX

set_option maxHeartbeats 4000000
namespace DLT
open PySem PySem.Spec L2
/-! ## try: .. except A as e: .. except B: ..: clauses with and without a name -/
abbrev Cl := Value × Option Nat × (Addr → Value → Option Addr → TS)
/-- behind a suite that held the error by a name the name is gone -/
def goneE (o : Option Nat) (D : Ends) : Ends := match o with
  | none => D
  | some i => { nx := fun σ H => D.nx (σ.set i none) H, rt := D.rt, bk := fun σ H => D.bk (σ.set i none) H, ct := fun σ H => D.ct (σ.set i none) H }
def heldS (o : Option Nat) (a : Addr) (σ : L2.St) : L2.St := match o with
  | none => σ
  | some i => σ.set i (some (.ref a))
def wish (K : PySem.W.Frag) (Wo : WX) (D : Ends) : List Cl → WX
  | [] => Wo
  | (c, o, ts) :: l => fun cls d σ H => ∃ b, PySem.W.exmOne K cls c = some b ∧ (b = true → ∀ a, H a = none → ts a cls d (goneE o D) (heldS o a σ) H) ∧ (b = false → wish K Wo D l cls d σ H)
inductive Cls' (X : Cx) : List ExceptHandler → List Cl → Prop
  | nil : Cls' X [] []
  | bare {x c ts s0 ss p1 p2 hs l} (hc : Names X x c) (hs' : ∀ (a : Addr) (ox : Obj) (cls : Value) (d : Option Addr) (pn : List (Addr × Obj)), Zc cls d ox → (∃ vs, ox.data = .fields vs) → PSs (X.suite a ((a, ox) :: pn)) (s0 :: ss) (ts a cls d)) (r : Cls' X hs l) :
      Cls' X (.ExceptHandler (some (.Name x p1)) none (s0 :: ss) p2 :: hs) ((c, none, ts) :: l)
  | named {x c ts s0 ss p1 p2 hs l n i} (hc : Names X x c) (hN : X.N.Nodup) (hi : X.N[i]? = some n) (hl : X.env.kindOf n = some .local)
      (hs' : ∀ (a : Addr) (ox : Obj) (cls : Value) (d : Option Addr) (pn : List (Addr × Obj)), Zc cls d ox → (∃ vs, ox.data = .fields vs) → PSs (X.suite a ((a, ox) :: pn)) (s0 :: ss) (ts a cls d)) (r : Cls' X hs l) :
      Cls' X (.ExceptHandler (some (.Name x p1)) (some n) (s0 :: ss) p2 :: hs) ((c, some i, ts) :: l)
section
variable {X : Cx} {body : List Stmt} {h0 : ExceptHandler} {hs : List ExceptHandler} {l : List Cl} {pos : Pos} {tb : WX → TS} {Wo : WX}
theorem ps_try (h1 : X.stack = X.env :: X.outer) (h2 : X.env.frame = some X.env.locals) (tk : Takes X Wo)
    (hb : ∀ (W : WX) (pn : List (Addr × Obj)) (xe : Value → Shared → Prop), Takes (X.tr pn xe) W → PassesOwn (model X.prog X.w) X.A X.env xe → PSs (X.tr pn xe) body (tb W)) (hh : Cls' X (h0 :: hs) l) :
    PS X (.Try body (h0 :: hs) [] [] pos) (fun D σ H => tb (wish X.K Wo D l) D σ H) := by
  constructor
  intro pins s σ H D I rd
  have ok := I.ok
  have fr : X.A.frames = some (X.env :: X.outer) := ok.frames.trans (by rw [h1])
  refine wpAny_Try_except ?_
  have run := (hb (wish X.K Wo D l) (X.pn ++ pins) (fun e s₁ => wpAny (model X.prog X.w) X.A (noteFrame e X.env) (fun _ s₂ => wpAny (model X.prog X.w) X.A (setFlight e none) (fun _ s₃ => wpAny (model X.prog X.w) X.A (handleBy e X.env (h0 :: hs)) (SP X pins D) X.xe s₃) X.xe s₂) X.xe s₁)
    (fun u s' xx => by
      obtain ⟨a, G, sI, pins', σ', H', cls, d, rfl, J0, nb, up, sky, na, os, bare, wi⟩ := xx
      have J : Inv X pins σ' H' sI := J0.ofTry ok
      rw [h1] at sky
      show wpAny (model X.prog X.w) X.A (noteFrame (Value.ref a) X.env) _ _ _
      refine Sky.land Zc.steady fr h2 sky fun hA flA upA => ?_
      have JA : Inv X pins σ' H' { s' with heap := hA } := J.landed nb flA.1 (up.trans upA) os bare
      obtain ⟨oA, vA, eA, zA, dA⟩ := flA.there
      have out : a ∉ frs (X.env :: X.outer) := fun hm => by
        obtain ⟨_, o', e', hnf⟩ := flA.2.2.1.mem hm
        rw [eA] at e'
        cases e'
        exact hnf _ dA
      have aL : a ≠ X.env.locals := fun z => out (List.mem_filterMap.mpr ⟨X.env, List.mem_cons_self, by rw [h2, z]⟩)
      have aF : a ∉ X.fs := fun hm => by
        obtain ⟨e, he, q⟩ := List.mem_filterMap.mp hm
        exact out (List.mem_filterMap.mpr ⟨e, List.mem_cons_of_mem _ he, q⟩)
      have SA := JA.suite eA dA na aL aF
      have LT : PySem.W.Looks (model X.prog X.w) hA (typeOf (.ref a)) cls := fun A Q E s k q => wpAny_typeOf_ref (k _ _ eA) (by rw [zA.1]; exact q)
      have test : ∀ {x : Str} {np : Pos} {c : Value} {Q : Value → Shared → Prop} {E : Value → Shared → Prop}, Names X x c → Q c { s' with heap := hA } → wpAny (model X.prog X.w) (X.A.mark (some (.ref a))) (eval (.Name x np) X.env) Q E { s' with heap := hA } := by
        intro x np c Q E hc q
        obtain ⟨hg, hdb, hm | ⟨hm, hv, hn⟩⟩ := hc
        · exact ld_glob (X := X.suite a ((a, oA) :: (X.pn ++ pins))) SA hg hm q hdb
        · exact ld_blt (X := X.suite a ((a, oA) :: (X.pn ++ pins))) SA hg hm hv q hn hdb
      have go : ∀ {hs' : List ExceptHandler} {l' : List Cl}, Cls' X hs' l' → wish X.K Wo D l' cls d σ' H' → wpAny (model X.prog X.w) X.A (handleBy (.ref a) X.env hs') (SP X pins D) X.xe { s' with heap := hA } := by
        intro hs' l' hk
        induction hk with
        | nil =>
          intro wi
          refine wpAny_handleBy_nil ?_
          obtain ⟨k1, k2, k3, ox, vs, T, oT, ts', he, hz, hd, hv1, hr⟩ := id flA
          unfold PySem.passOn
          refine wpAny_bind (wpAny_field he hd hv1 ?_)
          rw [if_neg (show ¬ ((Value.ref T == Value.none) = true) by simp)]
          have last : wpAny (model X.prog X.w) X.A (setFlight (.ref a) X.env.frame) (fun _ s4 => wpAny (model X.prog X.w) X.A (throw (.ref a) : Sem Flow) (SP X pins D) X.xe s4) X.xe { s' with heap := hA } := by
            rw [h2]
            refine HandSPX.setFlight_upZ flA fun hB fB uB => wpAny_throw (tk _ _ ?_)
            exact ⟨a, G, sI, pins, σ', H', cls, d, rfl, J, nb, (up.trans upA).trans uB, .inr (.inr (by rw [h1]; exact fB)), na, os, bare, wi⟩
          first
            | exact wpAny_bind (wpAny_pure (wpAny_bind last))
            | exact wpAny_bind last
        | @bare x c ts s0 ss p1 p2 hs2 l2 hc hsu r ih =>
          intro wi
          obtain ⟨b, hb1, hy, hn⟩ := wi
          refine wpAny_handleBy_cons (codeAny_handlers_test ?_) (by intro q; cases q)
          refine test hc ((PySem.W.exm_one (M := model X.prog X.w) JA.kIn LT hb1).here ?_)
          cases b with
          | false =>
            show wpAny _ X.A (handleBy (.ref a) X.env hs2) _ _ _
            exact ih (hn rfl)
          | true =>
            refine codeAny_handlers_suite (HandSPX.lands_againZ flA fun hB fB uB => ?_)
            have JB : Inv X pins σ' H' { s' with heap := hB } := J.landed nb fB.1 ((up.trans upA).trans uB) os bare
            obtain ⟨oB, vB, eB, zB, dB⟩ := fB.there
            have SB := JB.suite eB dB na aL aF
            refine wpAny_mono ((hsu a oB cls d (X.pn ++ pins) zB ⟨_, dB⟩).run [] _ _ H' _ SB (hy rfl a na)) (fun f s6 hsp => ?_) (fun _ _ z => z.elim)
            cases f <;> simp only [SP] at hsp ⊢
            all_goals first
              | (obtain ⟨v6, σ6, H6, S6, r6, q6⟩ := hsp; exact ⟨v6, σ6, H6, S6.unsuite ok, r6, q6⟩)
              | (obtain ⟨σ6, H6, S6, q6⟩ := hsp; exact ⟨σ6, H6, S6.unsuite ok, q6⟩)
        | @named x c ts s0 ss p1 p2 hs2 l2 n i hc hN hi hl hsu r ih =>
          intro wi
          obtain ⟨b, hb1, hy, hn⟩ := wi
          refine wpAny_handleBy_cons (codeAny_handlers_test ?_) (by intro q; cases q)
          refine test hc ((PySem.W.exm_one (M := model X.prog X.w) JA.kIn LT hb1).here ?_)
          cases b with
          | false =>
            show wpAny _ X.A (handleBy (.ref a) X.env hs2) _ _ _
            exact ih (hn rfl)
          | true =>
            refine codeAny_handlers_suite_as (HandSPX.lands_againZ flA fun hB fB uB => ?_)
            have JB : Inv X pins σ' H' { s' with heap := hB } := J.landed nb fB.1 ((up.trans upA).trans uB) os bare
            obtain ⟨oB, vB, eB, zB, dB⟩ := fB.there
            have SB := JB.suite eB dB na aL aF
            refine store_ok (X := X.suite a ((a, oB) :: (X.pn ++ pins))) (v := .ref a) SB hN hi (.inl hl) rfl (fun s5 S5 => ?_) (.inr hl)
            refine wpAny_mono ((hsu a oB cls d (X.pn ++ pins) zB ⟨_, dB⟩).run [] s5 _ H' _ S5 (hy rfl a na)) (fun f s6 hsp => ?_) (fun _ _ z => z.elim)
            cases f <;> simp only [SP] at hsp
            all_goals first
              | (obtain ⟨v6, σ6, H6, S6, r6, q6⟩ := hsp; exact gone_ok (S6.unsuite ok) hN hi hl fun s7 J7 => ⟨v6, _, _, J7, r6, q6⟩)
              | (obtain ⟨σ6, H6, S6, q6⟩ := hsp; exact gone_ok (S6.unsuite ok) hN hi hl fun s7 J7 => ⟨_, _, J7, q6⟩)
      exact go hh wi) PassesOwn.looking).run [] s σ H D (I.toTry _) rd
  refine wpAny_mono run (fun f s1 hsp => ?_) (fun _ _ z => z)
  cases f <;> simp only [SP] at hsp ⊢
  · obtain ⟨σ', H', J', q⟩ := hsp
    exact wpAny_execs_nil ⟨σ', H', J'.ofTry ok, q⟩
  all_goals first
    | (obtain ⟨v6, σ6, H6, S6, r6, q6⟩ := hsp; exact ⟨v6, σ6, H6, S6.ofTry ok, r6, q6⟩)
    | (obtain ⟨σ6, H6, S6, q6⟩ := hsp; exact ⟨σ6, H6, S6.ofTry ok, q6⟩)
end
end DLT

set_option maxHeartbeats 4000000
namespace DL
open PySem PySem.Spec L2
/-! ## 10. Cells that change -/
/-- o.append(e), o a cell -/
def dApp (to te : DE) : DE := fun δ S Q E => to δ S (fun x S1 => match x with
  | .m n => (∃ ds, S1 n = some (.lst ds)) ∧ te δ S1 (fun d S2 => ∃ ds, S2 n = some (.lst ds) ∧ ds.length < sizeLine ∧ Q .non (put S2 n (.lst (ds ++ [d])))) E
  | _ => False) E
section
variable {X : Cx} {W : WX} {o e i : Expr} {to te ti : DE} {pos apos tpos : Pos} {t : DS}
theorem celL_at {K : PySem.W.Frag} {w : Wd} {n : Nat} {p : Addr} {ds : List D} (ok : Ok K w) (h : w.S n = some (.lst ds)) (hp : w.α n = some p) : ∃ vs, w.H p = some (.lst vs) ∧ RpL K w.I w.α vs ds := by
  obtain ⟨q, vs, h1, h2, h3⟩ := ok.celL h
  rw [hp] at h1
  cases h1
  exact ⟨vs, h2, h3⟩
theorem setL {K : PySem.W.Frag} {w : Wd} {n : Nat} {p : Addr} {ds es : List D} {vs : List V} (ok : Ok K w) (h : w.S n = some (.lst ds)) (hp : w.α n = some p) (r : RpL K w.I w.α vs es) :
    Le w (w.set n p (.lst es) (.lst vs)) ∧ Ok K (w.set n p (.lst es) (.lst vs)) := ⟨.set h hp, ok.set h hp ⟨vs, rfl, r⟩⟩
theorem de_app (ho : PE X o (toE X.K W to)) (he : PE X e (toE X.K W te)) (hs : PE X o (toE X.K W to) → PE X e (toE X.K W te) → PE X (.Call (.Attribute o "append" apos) [e] [] pos) (tBM X.K "list" rAppend (toE X.K W to) (tCons (toE X.K W te) tNil)) := by intro ho he; exact pe_bm PySem.F.plainAttrs_list PySem.F.slot_list_append PySem.F.type_list_append mt_append ho (pa_cons he pa_nil)) :
    PE X (.Call (.Attribute o "append" apos) [e] [] pos) (toE X.K W (dApp to te)) := pimp (hs ho he) fun σ H Q h => by
  obtain ⟨w, δ, Qd, Ed, rfl, ok, lo, t, q, ec⟩ := h
  refine ⟨w, δ, _, Ed, rfl, ok, lo, t, fun x v w1 t1 l1 ok1 r1 => ?_, ec⟩
  cases x with
  | m n =>
    obtain ⟨p, rfl, hp⟩ := r1.m'
    obtain ⟨⟨ds0, hs0⟩, t1⟩ := t1
    obtain ⟨vs0, h0, _⟩ := celL_at ok1 hs0 hp
    refine ⟨.inl ⟨rfl, vs0, SqL.of h0⟩, w1, δ, _, Ed, rfl, ok1, lo.up l1, t1, fun y u w2 t2 l2 ok2 r2 => ?_, ec.up l1⟩
    obtain ⟨ds, hd, hz, h⟩ := t2
    obtain ⟨vs, hv, rv⟩ := celL_at ok2 hd (l2.aa _ _ hp)
    obtain ⟨l3, ok3⟩ := setL ok2 hd (l2.aa _ _ hp) (rv.append (.one r2))
    exact ⟨p, vs, u, rfl, rfl, hv, by rw [rv.length]; exact hz, q _ _ _ h ((l1.trans l2).trans l3) ok3 .non⟩
  | _ => exact t1.elim
/-- o.extend(e) -/
def dExt (to te : DE) : DE := fun δ S Q E => to δ S (fun x S1 => match x with
  | .m n => (∃ ds, S1 n = some (.lst ds)) ∧ te δ S1 (fun d S2 => ∃ ds, S2 n = some (.lst ds) ∧ opt (asL S2 d) fun es => ds.length + es.length ≤ sizeLine ∧ Q .non (put S2 n (.lst (ds ++ es)))) E
  | _ => False) E
theorem de_ext (ho : PE X o (toE X.K W to)) (he : PE X e (toE X.K W te)) (hs : PE X o (toE X.K W to) → PE X e (toE X.K W te) → PE X (.Call (.Attribute o "extend" apos) [e] [] pos) (tBM X.K "list" rExtend (toE X.K W to) (tCons (toE X.K W te) tNil)) := by intro ho he; exact pe_bm PySem.F.plainAttrs_list PySem.F.slot_list_extend PySem.F.type_list_extend mt_extend ho (pa_cons he pa_nil)) :
    PE X (.Call (.Attribute o "extend" apos) [e] [] pos) (toE X.K W (dExt to te)) := pimp (hs ho he) fun σ H Q h => by
  obtain ⟨w, δ, Qd, Ed, rfl, ok, lo, t, q, ec⟩ := h
  refine ⟨w, δ, _, Ed, rfl, ok, lo, t, fun x v w1 t1 l1 ok1 r1 => ?_, ec⟩
  cases x with
  | m n =>
    obtain ⟨p, rfl, hp⟩ := r1.m'
    obtain ⟨⟨ds0, hs0⟩, t1⟩ := t1
    obtain ⟨vs0, h0, _⟩ := celL_at ok1 hs0 hp
    refine ⟨.inl ⟨rfl, vs0, SqL.of h0⟩, w1, δ, _, Ed, rfl, ok1, lo.up l1, t1, fun y u w2 t2 l2 ok2 r2 => ?_, ec.up l1⟩
    obtain ⟨ds, hd, t2⟩ := t2
    obtain ⟨es, he, hz, h⟩ := opt_of t2
    obtain ⟨vs, hv, rv⟩ := celL_at ok2 hd (l2.aa _ _ hp)
    obtain ⟨p2, us, rfl, hp2, ru⟩ := asL_sem ok2 r2 he
    obtain ⟨l3, ok3⟩ := setL ok2 hd (l2.aa _ _ hp) (rv.append ru)
    exact ⟨p, p2, vs, us, rfl, rfl, hv, hp2, by rw [rv.length, ru.length]; exact hz, q _ _ _ h ((l1.trans l2).trans l3) ok3 .non⟩
  | _ => exact t1.elim
/-- o.pop() -/
def dPop (to : DE) : DE := fun δ S Q E => to δ S (fun x S1 => match x with
  | .m n => ∃ ds d, S1 n = some (.lst (ds ++ [d])) ∧ Q d (put S1 n (.lst ds))
  | _ => False) E
theorem de_pop (ho : PE X o (toE X.K W to)) (hs : PE X o (toE X.K W to) → PE X (.Call (.Attribute o "pop" apos) [] [] pos) (tBM0 X.K "list" rPop (toE X.K W to)) := by intro ho; exact pe_bm0 PySem.F.plainAttrs_list PySem.F.slot_list_pop PySem.F.type_list_pop mt_pop ho) :
    PE X (.Call (.Attribute o "pop" apos) [] [] pos) (toE X.K W (dPop to)) := pimp (hs ho) fun σ H Q h => by
  obtain ⟨w, δ, Qd, Ed, rfl, ok, lo, t, q, ec⟩ := h
  refine ⟨w, δ, _, Ed, rfl, ok, lo, t, fun x v w1 t1 l1 ok1 r1 => ?_, ec⟩
  cases x with
  | m n =>
    obtain ⟨p, rfl, hp⟩ := r1.m'
    obtain ⟨ds, d, hd, h⟩ := t1
    obtain ⟨vs, hv, rv⟩ := celL_at ok1 hd hp
    have hl := rv.length
    have r0 := rv.take ds.length
    rw [List.take_left] at r0
    obtain ⟨y, hy, ry⟩ := rv.get (i := ds.length) (d := d) (by simp)
    have e0 : vs.length - 1 = ds.length := by rw [hl]; simp
    have e1 : vs.take ds.length = vs.dropLast := by rw [List.dropLast_eq_take, e0]
    rw [e1] at r0
    obtain ⟨l3, ok3⟩ := setL ok1 hd hp r0
    exact ⟨.inl ⟨rfl, vs, SqL.of hv⟩, p, vs, y, rfl, rfl, hv, by rw [e0]; exact hy, q _ _ _ h (l1.trans l3) ok3 (ry.up l3)⟩
  | _ => exact t1.elim
/-- o[i] = e -/
def dSetI (to ti te : DE) : DS := fun B δ S => te δ S (fun d S1 => to δ S1 (fun x S2 => ti δ S2 (fun y S3 => match x with
  | .m n => (match y with
    | .int k => ∃ ds j, S3 n = some (.lst ds) ∧ ixN ds.length k = some j ∧ B.nx δ (put S3 n (.lst (ds.set j d)))
    | _ => False)
  | _ => False) (fun er S4 => B.ex er δ S4)) (fun er S4 => B.ex er δ S4)) (fun er S4 => B.ex er δ S4)
theorem ds_setI (ho : PE X o (toE X.K W to)) (hi : PE X i (toE X.K W ti)) (he : PE X e (toE X.K W te)) (hs : PE X o (toE X.K W to) → PE X i (toE X.K W ti) → PE X e (toE X.K W te) → PS X (.Assign [.Subscript o i tpos] e pos) (tAsg (toE X.K W te) (gSub (toE X.K W to) (toE X.K W ti) rSetL)) := by intro ho hi he; exact ps_asg he (pg_sub ho hi set_list)) :
    PS X (.Assign [.Subscript o i tpos] e pos) (toS X.K W (dSetI to ti te)) := simp' (hs ho hi he) fun D σ H ⟨w, δ, B, hH, ok, lo, t, r⟩ => by
  subst hH
  refine ⟨w, δ, _, _, rfl, ok, lo, t, fun d v w1 t1 l1 ok1 r1 => ?_, r.eC lo⟩
  refine ⟨w1, δ, _, _, rfl, ok1, lo.up l1, t1, fun x u w2 t2 l2 ok2 r2 => ?_, (r.up l1).eC (lo.up l1)⟩
  have l12 := l1.trans l2
  refine ⟨w2, δ, _, _, rfl, ok2, lo.up l12, t2, fun y z w3 t3 l3 ok3 r3 => ?_, (r.up l12).eC (lo.up l12)⟩
  cases x with
  | m n =>
    obtain ⟨p, rfl, hp⟩ := r2.m'
    cases y with
    | int k =>
      cases r3
      obtain ⟨ds, j, hd, hj, h⟩ := t3
      have hp3 := l3.aa _ _ hp
      obtain ⟨vs, hv, rv⟩ := celL_at ok3 hd hp3
      obtain ⟨l4, ok4⟩ := setL ok3 hd hp3 (rv.set j ((r1.up l2).up l3))
      have l := (l12.trans l3).trans l4
      exact ⟨p, vs, k, j, rfl, rfl, hv, by rw [rv.length]; exact hj, r.nx _ _ _ h l ok4 (lo.up l)⟩
    | _ => exact t3.elim
  | _ => exact t3.elim
/-- o.f = e, o an instance that is a cell -/
def putD (f : Str) (v : D) : List (Str × D) → List (Str × D)
  | [] => [(f, v)]
  | (g, u) :: r => if g = f then (f, v) :: r else (g, u) :: putD f v r
def dSetF (Cs : List Addr) (f : Str) (to te : DE) : DS := fun B δ S => te δ S (fun d S1 => to δ S1 (fun x S2 => match x with
  | .m n => ∃ C fs, S2 n = some (.ins C fs) ∧ C ∈ Cs ∧ fs.length < 1000 ∧ B.nx δ (put S2 n (.ins C (putD f d fs)))
  | _ => False) (fun er S4 => B.ex er δ S4)) (fun er S4 => B.ex er δ S4)
end
end DL

set_option maxHeartbeats 4000000
namespace DL
open PySem PySem.Spec L2
/-! ## 11. Attributes stored, op= -/
theorem RpF.put {K : PySem.W.Frag} {I : Hp} {α : Am} {f : Str} {v : V} {d : D} (r : Rp K I α v d) : ∀ {vs : List (Str × V)} {ds : List (Str × D)}, RpF K I α vs ds → RpF K I α (putF f v vs) (putD f d ds)
  | _, _, .nil => .cons r .nil
  | _, _, .cons (f := g) h s => by
    unfold putF putD
    by_cases hg : g = f
    · rw [if_pos hg, if_pos hg, hg]
      exact .cons r s
    · rw [if_neg hg, if_neg hg]
      exact .cons h (RpF.put r s)
section
variable {X : Cx} {W : WX} {o e : Expr} {to te : DE} {pos tpos : Pos}
theorem ds_setF {Cs : List Addr} {f : Str} (hc : ∀ C ∈ Cs, Cls X.K C ∧ NoAttr X.K C f) (ho : PE X o (toE X.K W to)) (he : PE X e (toE X.K W te)) (hs : swapsWith e (some (.Attribute o f tpos)) pos.line X.env = pure false := by rfl) :
    PS X (.Assign [.Attribute o f tpos] e pos) (toS X.K W (dSetF Cs f to te)) := simp' (ps_fld ho he hs) fun D σ H ⟨w, δ, B, hH, ok, lo, t, r⟩ => by
  subst hH
  refine ⟨w, δ, _, _, rfl, ok, lo, t, fun d v w1 t1 l1 ok1 r1 => ?_, r.eC lo⟩
  refine ⟨w1, δ, _, _, rfl, ok1, lo.up l1, t1, fun x u w2 t2 l2 ok2 r2 => ?_, (r.up l1).eC (lo.up l1)⟩
  cases x with
  | m n =>
    obtain ⟨p, rfl, hp⟩ := r2.m'
    obtain ⟨C, fs, hs, hC, hz, h⟩ := t2
    obtain ⟨q, oo, h1, h2, _, dx, vs, rfl, rv⟩ := ok2.cel n _ hs
    rw [hp] at h1
    cases h1
    have rn := rv.put (f := f) (r1.up l2)
    have l3 : Le w2 (w2.set n p (.ins C (putD f d fs)) (.ins C dx (putF f v vs))) := .set hs hp
    have ok3 : Ok X.K (w2.set n p (.ins C (putD f d fs)) (.ins C dx (putF f v vs))) := ok2.set hs hp ⟨dx, _, rfl, rn⟩
    have l := (l1.trans l2).trans l3
    exact ⟨p, C, dx, vs, rfl, h2, (hc C hC).1, (hc C hC).2, by rw [rv.length]; exact hz, r.nx _ _ _ h l ok3 (lo.up l)⟩
  | _ => exact t2.elim
def dAug (i : Nat) (f : DOp) (te : DE) : DS := fun B δ S => match δ[i]? with
  | some (some x) => te δ S (fun y S1 => f S1 x y fun z => B.nx (δ.set i (some z)) S1) (fun er S1 => B.ex er δ S1)
  | _ => False
theorem ds_aug {i : Nat} {x : Str} {op : Operator} {r : R2} {f : DOp} (hN : X.N.Nodup) (hi : X.N[i]? = some x) (hx : Loc X.env.scope x) (he : PE X e (toE X.K W te)) (ho : OpR X (inplaceOp op) r) (sm : SemOp X.K r f)
    (hf : X.fn x = true ∨ X.env.scope.names.lookup x = some .local := by first | exact .inl rfl | exact .inr rfl | assumption) : PS X (.AugAssign (.Name x tpos) op e pos) (toS X.K W (dAug i f te)) := simp' (ps_aug (ti := r) hN hi hx he ho hf) fun D σ H ⟨w, δ, B, hH, ok, lo, t, rr⟩ => by
  subst hH
  unfold dAug at t
  split at t
  · rename_i d hd
    obtain ⟨v, hv, rv⟩ := lo.2 i d hd
    refine ⟨v, hv, w, δ, _, _, rfl, ok, lo, t, fun y u w1 t1 l1 ok1 r1 => ?_, rr.eC lo⟩
    refine sm w1 v u d y _ _ ok1 (rv.up l1) r1 t1 fun z v3 w3 h3 l3 e3 ok3 r3 => ?_
    have l := l1.trans l3
    exact rr.nx _ _ w3 (by rw [e3]; exact h3) l ok3 ((lo.up l).set i r3)
  · exact t.elim
end
/-! ## 12. Defs -/
/-- a def as a function of data: its body over n names; the cells that it made are dropped at its end -/
def fnD (n : Nat) (body : DS) : DFn := fun us S Q E => body { nx := fun _ S' => ∃ S'', Sub S'' S' ∧ Q .non S'', rt := fun d S' => ∃ S'', Sub S'' S' ∧ Q d S'', bk := fun _ _ => False, ct := fun _ _ => False, ex := fun er _ S' => ∃ S'', Sub S'' S' ∧ E er S'' }
  (us.map some ++ List.replicate (n - us.length) none) S
def toSp (K : PySem.W.Frag) (n : Nat) (m : DFn) : Sp := fun vs H Q E => vs.length = n ∧ ∃ (w : Wd) (us : List D) (Qd : D → Sto → Prop) (Ed : Err → Sto → Prop), w.H = H ∧ Ok K w ∧ RpL K w.I w.α vs us ∧ m us w.S Qd Ed ∧
  (∀ d v w', Qd d w'.S → Le w w' → Ok K w' → Rp K w'.I w'.α v d → Q v w'.H) ∧ ∀ er w' dx, Ed er w'.S → Le w w' → Ok K w' → ErR K w' er dx → E (.ref er.C) (some dx) w'.H
abbrev WF (E : XK) : WX := fun cls d _ H => E cls d H
section
variable {P : Program} {w0 : World} {K : PySem.W.Frag} {mg : Str → Option Value} {base : Heap}
theorem lo_start {w : Wd} {N : List Str} : ∀ {vs : List V} {us : List D}, RpL K w.I w.α vs us → LoR K w (L2.start N vs) (us.map some ++ List.replicate (N.length - us.length) none) := by
  intro vs us r
  have hl := r.length
  refine ⟨by unfold L2.start; simp [hl], fun i d h => ?_⟩
  have hi : i < us.length := by
    by_cases hi : i < us.length
    · exact hi
    · rw [List.getElem?_append_right (by simpa using hi), List.getElem?_replicate] at h
      split at h <;> cases h
  rw [List.getElem?_append_left (by simpa using hi), List.getElem?_map] at h
  cases hu : us[i]? with
  | none => rw [hu] at h; cases h
  | some u =>
    rw [hu] at h
    cases h
    obtain ⟨v, hv, rv⟩ := r.get hu
    refine ⟨v, ?_, rv⟩
    unfold L2.start
    rw [List.getElem?_append_left (by rw [List.length_map, hl]; exact hi), List.getElem?_map, hv]
    rfl
/-- a body's end, over data and over the heap -/
theorem ends_fn {w : Wd} {Qd : D → Sto → Prop} {Ed : Err → Sto → Prop} {Q : VK} {E : XK} (q : ∀ d v w', Qd d w'.S → Le w w' → Ok K w' → Rp K w'.I w'.α v d → Q v w'.H) (e : ∀ er w' dx, Ed er w'.S → Le w w' → Ok K w' → ErR K w' er dx → E (.ref er.C) (some dx) w'.H) :
    EndsR K (WF E) w { nx := fun _ S' => ∃ S'', Sub S'' S' ∧ Qd .non S'', rt := fun d S' => ∃ S'', Sub S'' S' ∧ Qd d S'', bk := fun _ _ => False, ct := fun _ _ => False, ex := fun er _ S' => ∃ S'', Sub S'' S' ∧ Ed er S'' } { nx := fun _ H' => Q .non H', rt := Q } :=
  ⟨fun _ _ w' ⟨S, s, h⟩ l ok _ => q .non .non (w'.drop S) h (l.trans (.drop s)) (ok.drop s) .non, fun d v w' ⟨S, s, h⟩ l ok r => q d v (w'.drop S) h (l.trans (.drop s)) (ok.drop s) r, fun _ _ _ h => h.elim, fun _ _ _ h => h.elim,
    fun er dx _ _ w' ⟨S, s, h⟩ l ok _ r => e er (w'.drop S) dx h (l.trans (.drop s)) (ok.drop s) r⟩
/-- THE RULE: a def by its body's reading -/
theorem fn_ok {x qual : Str} {st : Stmt} {f : Addr} {fd : FuncData} {N ps : List Str} {k : Nat} {t : DS} (F : Fun K x qual st f fd) (S : FnScope N ps (defScope st))
    (hb : ∀ (cdv : Value) (A : Around) (outer : List Env) (s : Shared) (H : Hp) (E : XK), Room k (A.deeper (PyProof.Rows.envOfC qual (defScope st) s.heap.objs.size f cdv)) → PSs (cxOf (L2.CX P w0) P w0 K mg base N qual (defScope st) f cdv A outer s H E) (defBody st) (toS K (WF E) t)) :
    FnOk P w0 K mg base (L2.CX P w0) (k + 1) f fd ps (toSp K ps.length (fnD N.length t)) := by
  refine F.okX S (fun vs H Q E h => h.1) (fun cdv A outer s H vs Q E hr h => ⟨_, hb cdv A outer s H E hr, ?_⟩)
  obtain ⟨_, w, us, Qd, Ed, rfl, ok, r, h, q, e⟩ := h
  exact ⟨w, _, _, rfl, ok, lo_start r, h, ends_fn q e⟩
end
/-! ### calls -/
/-- f(e, ..): dd the defaults that fill up -/
def dCall (n : Nat) (m : DFn) (dd : List D) (ta : DA) : DE := fun δ S Q E => ta δ S (fun us S1 => (us ++ dd).length = n ∧ m (us ++ dd) S1 Q E) E
theorem sp_of {K : PySem.W.Frag} {W : WX} {w w1 : Wd} {σ : L2.St} {Qd : D → Sto → Prop} {Ed : Err → Sto → Prop} {Q : VK} {n : Nat} {m : DFn} {us : List D} {vs : List V} (ok1 : Ok K w1) (l : Le w w1) (r : RpL K w1.I w1.α vs us) (hn : us.length = n) (h : m us w1.S Qd Ed)
    (q : ∀ d v w', Qd d w'.S → Le w w' → Ok K w' → Rp K w'.I w'.α v d → Q v w'.H) (ec : eC K W σ w Ed) : toSp K n m vs w1.H Q (WE W σ) :=
  ⟨by rw [r.length]; exact hn, w1, us, Qd, Ed, rfl, ok1, r, h, fun d v w' a b c e => q d v w' a (l.trans b) c e, fun er w' dx a b c e => ec er w' dx a (l.trans b) c e⟩
/-- the defaults: values of the text that stand for the data dd -/
structure Dfl (K : PySem.W.Frag) (dvs : List V) (dd : List D) : Prop where
  r : ∀ I α, RpL K I α dvs dd
theorem Dfl.nil {K : PySem.W.Frag} : Dfl K [] [] := ⟨fun _ _ => .nil⟩
section
variable {X : Cx} {W : WX} {k n : Nat} {f C : Addr} {fd : FuncData} {ps : List Str} {m : DFn} {x mt : Str} {p pos apos : Pos} {o e : Expr} {es : List Expr} {to : DE} {ta : DA} {ds : List Value} {dvs : List V} {dd : List D} {pl : Sem Bool}
theorem de_call (F : FnOk X.prog X.w X.K X.mg X.base (L2.CX X.prog X.w) k f fd ps (toSp X.K n m)) (hr : Room k X.A) (tk : Takes X W) (hg : Gl X x) (hm : X.mg x = some (.ref f)) (hk : PySem.W.keepIn X.K (.ref f) = true) (hb : Binds X.K fd ps ds) (hd : Vals dvs ds) (hdd : Dfl X.K dvs dd) (ha : PA X (e :: es) (toA X.K W ta))
    (hdb : (x == ("__debug__" : Str)) = false := by decide) (he : starEach (e :: es) X.env = (false, eval e X.env) :: starEach es X.env := by rfl) (hpl : (backTo pos (starEach es X.env)).any (·.1) = false := by rfl) : PE X (.Call (.Name x p) (e :: es) [] pos) (toE X.K W (dCall n m dd ta)) := pimp (pe_callSD F hr hg hm hk hb hd (fun σ => passAt tk σ) ha hdb he hpl) fun σ H Q h => by
  obtain ⟨w, δ, Qd, Ed, rfl, ok, lo, t, q, ec⟩ := h
  exact ⟨w, δ, _, Ed, rfl, ok, lo, t, fun us vs w1 t1 l1 ok1 r1 => sp_of ok1 l1 (r1.append (hdd.r _ _)) t1.1 t1.2 q ec, ec⟩
/-- the callee runs, what it raises is taken at the slots that stand -/
theorem run_at {pins : List (Addr × Obj)} {σ : L2.St} {H : Hp} {s : Shared} {Q : VK} {us : List Value} {vs : List V} (F : FnOk X.prog X.w X.K X.mg X.base (L2.CX X.prog X.w) k f fd ps (toSp X.K n m)) (hr : Room k X.A) (tk : Takes X W) (hb : Binds X.K fd ps ds) (hd : Vals dvs ds)
    (I : Inv X pins σ H s) (r : Vals vs us) (h : toSp X.K n m (vs ++ dvs) H Q (WE W σ)) : wpAny (model X.prog X.w) X.A (call (.ref f) us) (EP X pins σ Q) X.xe s :=
  run_fnSD (E := WE W) F hr hb hd (passAt tk σ) I r h
/-- o.m(e, ..) of an instance of the class at C -/
def dMeth (C : Addr) (mt : Str) (n : Nat) (m : DFn) (dd : List D) (to : DE) (ta : DA) : DE := fun δ S Q E => to δ S (fun d S1 => opt (asI S1 d) fun q => q.1 = C ∧ q.2.lookup mt = none ∧ ta δ S1 (fun us S2 => (d :: (us ++ dd)).length = n ∧ m (d :: (us ++ dd)) S2 Q E) E) E
theorem de_meth (ho : PE X o (toE X.K W to)) (c : Cls X.K C) (hM : Meth X.K C mt f) (F : FnOk X.prog X.w X.K X.mg X.base (L2.CX X.prog X.w) k f fd ps (toSp X.K n m)) (hr : Room k X.A) (tk : Takes X W) (hb : Binds X.K fd ps ds) (hd : Vals dvs ds) (hdd : Dfl X.K dvs dd) (ha : PA X (e :: es) (toA X.K W ta))
    (h1 : starEach (e :: es) X.env = (false, eval e X.env) :: starEach es X.env := by rfl) (h2 : (backTo pos (starEach es X.env)).any (·.1) = false := by rfl)
    (h3 : eval (.Call (.Attribute o mt apos) (e :: es) [] pos) X.env = (eval o X.env >>= fun ov => standAt apos.atName >>= fun _ => holding [ov] (getMethod ov mt pl) >>= fun p => callWith pos p.1 p.2 (backTo pos (starEach (e :: es) X.env)) (backToKw pos (keywordEach [] X.env))) := by rfl) :
    PE X (.Call (.Attribute o mt apos) (e :: es) [] pos) (toE X.K W (dMeth C mt n m dd to ta)) := by
  constructor
  intro pins s σ H Q I h
  obtain ⟨w, δ, Qd, Ed, rfl, ok, lo, t, q, ec⟩ := h
  refine PySem.W.methodCall_KW (pl := pl) (thn (ho.run pins s σ _ (fun x H1 => ∃ (w1 : Wd) (d : D), w1.H = H1 ∧ Le w w1 ∧ Ok X.K w1 ∧ Rp X.K w1.I w1.α x d ∧ opt (asI w1.S d) fun q => q.1 = C ∧ q.2.lookup mt = none ∧ ta δ w1.S (fun us S2 => (d :: (us ++ dd)).length = n ∧ m (d :: (us ++ dd)) S2 Qd Ed) Ed) I
    ⟨w, δ, _, Ed, rfl, ok, lo, t, fun d v w1 t1 l1 ok1 r1 => ⟨w1, d, rfl, l1, ok1, r1, t1⟩, ec⟩) fun u s1 hq => ?_) h3
  obtain ⟨x, H1, I1, rx, w1, d, rfl, l1, ok1, r1, t1⟩ := hq
  obtain ⟨⟨C', fs⟩, hd', hC, hl, g1⟩ := opt_of t1
  obtain ⟨a, dx, vs, rfl, ha1, rf⟩ := asI_sem ok1 r1 hd'
  have hC : C' = C := hC
  subst hC
  cases rx
  refine getmeth_ok I1 ha1 c hM (rf.lookupN hl) ?_
  refine PySem.W.callWith_K (first := [.ref a]) (h₀ := X.base) I.ok.mod.kin hM.kp (thn (ha.run pos pins s1 σ _ (fun ws H2 => ∃ (w2 : Wd) (us : List D), w2.H = H2 ∧ Le w1 w2 ∧ Ok X.K w2 ∧ RpL X.K w2.I w2.α ws us ∧ (d :: (us ++ dd)).length = n ∧ m (d :: (us ++ dd)) w2.S Qd Ed) I1
    ⟨w1, δ, _, Ed, rfl, ok1, lo.up l1, g1, fun us vs w2 t2 l2 ok2 r2 => ⟨w2, us, rfl, l2, ok2, r2, t2⟩, ec.up l1⟩) fun us s2 hq2 => ?_) h1 h2
  obtain ⟨ws, H2, I2, rw2, w2, us2, rfl, l2, ok2, r2, hn, hm2⟩ := hq2
  refine ⟨I2.kIn, ?_⟩
  exact run_at (us := .ref a :: us) (vs := .ref a :: ws) F hr tk hb hd I2 (.cons rfl rw2) (sp_of (us := d :: (us2 ++ dd)) ok2 (l1.trans l2) (.cons (r1.up l2) (r2.append (hdd.r _ _))) hn hm2 q ec)
/-- o.m() -/
theorem de_meth0 (ho : PE X o (toE X.K W to)) (c : Cls X.K C) (hM : Meth X.K C mt f) (F : FnOk X.prog X.w X.K X.mg X.base (L2.CX X.prog X.w) k f fd ps (toSp X.K n m)) (hr : Room k X.A) (tk : Takes X W) (hb : Binds X.K fd ps ds) (hd : Vals dvs ds) (hdd : Dfl X.K dvs dd)
    (h3 : eval (.Call (.Attribute o mt apos) [] [] pos) X.env = (eval o X.env >>= fun ov => standAt apos.atName >>= fun _ => holding [ov] (getMethod ov mt pl) >>= fun p => callWith pos p.1 p.2 (backTo pos (starEach [] X.env)) (backToKw pos (keywordEach [] X.env))) := by rfl) :
    PE X (.Call (.Attribute o mt apos) [] [] pos) (toE X.K W (dMeth C mt n m dd to dNil)) := by
  constructor
  intro pins s σ H Q I h
  obtain ⟨w, δ, Qd, Ed, rfl, ok, lo, t, q, ec⟩ := h
  refine PySem.W.methodCall_KW (pl := pl) (thn (ho.run pins s σ _ (fun x H1 => ∃ (w1 : Wd) (d : D), w1.H = H1 ∧ Le w w1 ∧ Ok X.K w1 ∧ Rp X.K w1.I w1.α x d ∧ opt (asI w1.S d) fun q => q.1 = C ∧ q.2.lookup mt = none ∧ dNil δ w1.S (fun us S2 => (d :: (us ++ dd)).length = n ∧ m (d :: (us ++ dd)) S2 Qd Ed) Ed) I
    ⟨w, δ, _, Ed, rfl, ok, lo, t, fun d v w1 t1 l1 ok1 r1 => ⟨w1, d, rfl, l1, ok1, r1, t1⟩, ec⟩) fun u s1 hq => ?_) h3
  obtain ⟨x, H1, I1, rx, w1, d, rfl, l1, ok1, r1, t1⟩ := hq
  obtain ⟨⟨C', fs⟩, hd', hC, hl, g1⟩ := opt_of t1
  obtain ⟨a, dx, vs, rfl, ha1, rf⟩ := asI_sem ok1 r1 hd'
  have hC : C' = C := hC
  subst hC
  cases rx
  refine getmeth_ok I1 ha1 c hM (rf.lookupN hl) ?_
  exact PySem.W.callWith_K0 (first := [.ref a]) I1.kIn hM.kp (run_at (us := [.ref a]) (vs := [.ref a]) F hr tk hb hd I1 (.cons rfl .nil) (sp_of (us := d :: ([] ++ dd)) ok1 l1 (.cons r1 (hdd.r _ _)) g1.1 g1.2 q ec))
end
end DL

set_option maxHeartbeats 4000000
namespace DL
open PySem PySem.Spec L2
/-! ## 13. Instances made -/
section
variable {X : Cx} {W : WX} {k n : Nat} {f C : Addr} {fd : FuncData} {ps : List Str} {m : DFn} {x : Str} {p pos : Pos} {e : Expr} {es : List Expr} {ta : DA} {ds : List Value} {dvs : List V} {dd : List D} {sp : Sp} {E : L2.St → XK}
theorem make_at {pins : List (Addr × Obj)} {σ : L2.St} {H : Hp} {s : Shared} {Q : VK} {us : List Value} {vs : List V} (M : Mk X.K C f) (F : FnOk X.prog X.w X.K X.mg X.base (L2.CX X.prog X.w) k f fd ps sp) (hr : Room (k + 1) X.A) (hb : Binds X.K fd ps ds) (hd : Vals dvs ds)
    (hx : PassesAt (L2.CX X.prog X.w) X σ (E σ)) (I : Inv X pins σ H s) (r : Vals vs us) (h : ∀ y dy, H y = none → H dy = none → dy ≠ y → sp (.ref y :: (vs ++ dvs)) (upd (upd H dy (.own y)) y (.ins C dy [])) (fun v H2 => v = .non ∧ Q (.ref y) H2) (E σ)) :
    wpAny (model X.prog X.w) X.A (call (.ref C) us) (EP X pins σ Q) X.xe s := by
  let dy := s.heap.objs.size
  have J := Inv.made (C := C) I
  have hsp := h (dy + 1) dy (I.hok.fresh (Nat.le_succ _)) (I.hok.fresh (Nat.le_refl _)) (Nat.ne_of_lt (Nat.lt_succ_self _))
  have rr : Vals (V.ref (dy + 1) :: (vs ++ dvs)) (Value.ref (dy + 1) :: (us ++ ds)) := .cons rfl (r.append hd)
  have hl : (Value.ref (dy + 1) :: us ++ ds).length = ps.length := rr.length.symm.trans (F.len _ _ _ _ hsp)
  have run := F.run _ X.stack _ _ ⟨Value.ref (dy + 1) :: us, []⟩ (Value.ref (dy + 1) :: (us ++ ds)) _ _ (E σ) (hr.make C us []) (J.env0.make C us []) (hb _ (Value.ref (dy + 1) :: us) J.kIn hl) rr hsp
  refine wpAny_call (make_map (f := f) I.kIn M.makes M.init (beq_iff_eq.mp M.fn) (codeAny_mono run fun res s' hq => ?_))
  cases res with
  | error er => exact hx pins _ _ er s' J hq
  | ok fl =>
    cases fl with
    | ret u =>
      obtain ⟨v, H3, J3, rv, ev, q⟩ := J.after hq
      rw [ev] at rv
      exact ⟨rv, V.ref (dy + 1), H3, J3, rfl, q⟩
    | _ => exact hq.elim
def tMakeS (C : Addr) (sp : Sp) (dvs : List V) (E : L2.St → XK) (t : TA) : TE := fun σ H Q => t σ H fun vs H1 => ∀ y dy, H1 y = none → H1 dy = none → dy ≠ y → sp (.ref y :: (vs ++ dvs)) (upd (upd H1 dy (.own y)) y (.ins C dy [])) (fun v H2 => v = .non ∧ Q (.ref y) H2) (E σ)
theorem pe_makeS {t : TA} (M : Mk X.K C f) (F : FnOk X.prog X.w X.K X.mg X.base (L2.CX X.prog X.w) k f fd ps sp) (hr : Room (k + 1) X.A) (hg : Gl X x) (hm : X.mg x = some (.ref C)) (hb : Binds X.K fd ps ds) (hd : Vals dvs ds) (hx : ∀ σ, PassesAt (L2.CX X.prog X.w) X σ (E σ)) (ha : PA X (e :: es) t)
    (hdb : (x == ("__debug__" : Str)) = false := by decide) (h1 : starEach (e :: es) X.env = (false, eval e X.env) :: starEach es X.env := by rfl) (h2 : (backTo pos (starEach es X.env)).any (·.1) = false := by rfl) :
    PE X (.Call (.Name x p) (e :: es) [] pos) (tMakeS C sp dvs E t) := by
  constructor
  intro pins s σ H Q I h
  refine wpAny_Call_Name_kw (ld_glob I hg hm (PySem.W.callWith_K (h₀ := X.base) I.ok.mod.kin M.kp (thn (ha.run pos pins s σ H _ I h) fun us s1 hq => ?_) h1 h2) hdb)
  obtain ⟨vs, H1, J, r, q⟩ := hq
  exact ⟨J.kIn, make_at M F hr hb hd (hx σ) J r q⟩
/-- C(e, ..): an instance that is made, then never changes; one that may change -/
def dMakeF (C : Addr) (n : Nat) (m : DFn) (dd : List D) (ta : DA) : DE := fun δ S Q E => ta δ S (fun us S1 => us.length + dd.length + 1 = n ∧ ∀ k, Fr S1 k → m (.m k :: (us ++ dd)) (put S1 k (.ins C [])) (fun d S2 => d = .non ∧ ∃ fs, S2 k = some (.ins C fs) ∧ Q (.ins C fs) (del S2 k)) (fun er S2 => ∃ S3, Sub S3 S2 ∧ E er S3)) E
def dMakeM (C : Addr) (n : Nat) (m : DFn) (dd : List D) (ta : DA) : DE := fun δ S Q E => ta δ S (fun us S1 => us.length + dd.length + 1 = n ∧ ∀ k, Fr S1 k → m (.m k :: (us ++ dd)) (put S1 k (.ins C [])) (fun d S2 => d = .non ∧ (∃ fs, S2 k = some (.ins C fs)) ∧ Q (.m k) S2) (fun er S2 => ∃ S3, Sub S3 S2 ∧ E er S3)) E
theorem made_w {K : PySem.W.Frag} {w : Wd} {y dy : Addr} (ok : Ok K w) (hy : w.H y = none) (hd : w.H dy = none) (ne : dy ≠ y) :
    ∃ (w2 : Wd) (k : Nat), Fr w.S k ∧ w2.H = upd (upd w.H dy (.own y)) y (.ins C dy []) ∧ w2.S = put w.S k (.ins C []) ∧ w2.α k = some y ∧ Le w w2 ∧ Ok K w2 := by
  obtain ⟨k, hα, hS⟩ := ok.free
  have e : HpLe w.H (upd w.H dy (.own y)) := HpLe.upd hd
  have ok1 := ok.side e
  have l1 : Le w (w.side (upd w.H dy (.own y))) := .side e
  have hy1 : (w.side (upd w.H dy (.own y))).H y = none := (upd_ne (Ne.symm ne)).trans hy
  have hα1 : (w.side (upd w.H dy (.own y))).α k = none := hα
  refine ⟨(w.side (upd w.H dy (.own y))).cell k y (.ins C []) (.ins C dy []), k, hS, rfl, rfl, if_pos rfl, l1.trans (.cell hy1 hα1), ok1.cell hy1 hα1 ⟨dy, [], rfl, .nil⟩⟩
theorem toE_make {K : PySem.W.Frag} {W : WX} (fin : D → Sto → Nat → Prop) (Qd : D → Sto → Prop) {σ : L2.St} {w : Wd} {Ed : Err → Sto → Prop} {Q : VK} {us : List D} {vs : List V} (ok : Ok K w) (r : RpL K w.I w.α vs us) (hdd : Dfl K dvs dd) (hn : us.length + dd.length + 1 = n)
    (h : ∀ k, Fr w.S k → m (.m k :: (us ++ dd)) (put w.S k (.ins C [])) (fun d S2 => d = .non ∧ fin d S2 k) (fun er S2 => ∃ S3, Sub S3 S2 ∧ Ed er S3))
    (q : ∀ k w' y, fin .non w'.S k → Le w w' → Ok K w' → w'.α k = some y → Q (.ref y) w'.H) (ec : eC K W σ w Ed) :
    ∀ y dy, w.H y = none → w.H dy = none → dy ≠ y → toSp K n m (.ref y :: (vs ++ dvs)) (upd (upd w.H dy (.own y)) y (.ins C dy [])) (fun v H2 => v = .non ∧ Q (.ref y) H2) (WE W σ) := by
  intro y dy hy hd ne
  obtain ⟨w2, k, hk, eH, eS, hα, l, ok2⟩ := made_w (C := C) ok hy hd ne
  have rd := hdd.r w2.I w2.α
  refine ⟨by rw [List.length_cons, List.length_append, r.length, rd.length]; exact hn, w2, .m k :: (us ++ dd), _, _, eH, ok2, .cons (.m hα) ((r.up l).append rd), by rw [eS]; exact h k hk, fun d v w' a b c rv => ?_, fun er w' dx a b c re => ?_⟩
  · obtain ⟨rfl, a⟩ := a
    cases rv
    exact ⟨rfl, q k w' y a (l.trans b) c (b.aa _ _ hα)⟩
  · obtain ⟨S3, s, a⟩ := a
    exact ec er (w'.drop S3) dx a ((l.trans b).trans (.drop s)) (c.drop s) re
theorem de_makeF (M : Mk X.K C f) (F : FnOk X.prog X.w X.K X.mg X.base (L2.CX X.prog X.w) k f fd ps (toSp X.K n m)) (hr : Room (k + 1) X.A) (tk : Takes X W) (hg : Gl X x) (hm : X.mg x = some (.ref C)) (hb : Binds X.K fd ps ds) (hd : Vals dvs ds) (hdd : Dfl X.K dvs dd) (ha : PA X (e :: es) (toA X.K W ta))
    (hdb : (x == ("__debug__" : Str)) = false := by decide) (h1 : starEach (e :: es) X.env = (false, eval e X.env) :: starEach es X.env := by rfl) (h2 : (backTo pos (starEach es X.env)).any (·.1) = false := by rfl) : PE X (.Call (.Name x p) (e :: es) [] pos) (toE X.K W (dMakeF C n m dd ta)) := pimp (pe_makeS M F hr hg hm hb hd (fun σ => passAt tk σ) ha hdb h1 h2) fun σ H Q h => by
  obtain ⟨w, δ, Qd, Ed, rfl, ok, lo, t, q, ec⟩ := h
  refine ⟨w, δ, _, Ed, rfl, ok, lo, t, fun us vs w1 t1 l1 ok1 r1 => ?_, ec⟩
  refine toE_make (fun _ S2 k => ∃ fs, S2 k = some (.ins C fs) ∧ Qd (.ins C fs) (del S2 k)) Qd ok1 r1 hdd t1.1 t1.2 (fun k w' y a b c hα => ?_) (ec.up l1)
  obtain ⟨fs, hs, hq⟩ := a
  obtain ⟨p', o, h1, h2, h3, dx, vs', rfl, rv⟩ := c.cel k _ hs
  rw [hα] at h1
  cases h1
  have l : Le w' (w'.frz k y (.ins C dx vs')) := .frz c hs hα
  exact q (.ins C fs) (.ref y) (w'.frz k y (.ins C dx vs')) hq ((l1.trans b).trans l) (c.frz hs hα h2) (.ins upd_same (rv.up l))
theorem de_makeM (M : Mk X.K C f) (F : FnOk X.prog X.w X.K X.mg X.base (L2.CX X.prog X.w) k f fd ps (toSp X.K n m)) (hr : Room (k + 1) X.A) (tk : Takes X W) (hg : Gl X x) (hm : X.mg x = some (.ref C)) (hb : Binds X.K fd ps ds) (hd : Vals dvs ds) (hdd : Dfl X.K dvs dd) (ha : PA X (e :: es) (toA X.K W ta))
    (hdb : (x == ("__debug__" : Str)) = false := by decide) (h1 : starEach (e :: es) X.env = (false, eval e X.env) :: starEach es X.env := by rfl) (h2 : (backTo pos (starEach es X.env)).any (·.1) = false := by rfl) : PE X (.Call (.Name x p) (e :: es) [] pos) (toE X.K W (dMakeM C n m dd ta)) := pimp (pe_makeS M F hr hg hm hb hd (fun σ => passAt tk σ) ha hdb h1 h2) fun σ H Q h => by
  obtain ⟨w, δ, Qd, Ed, rfl, ok, lo, t, q, ec⟩ := h
  refine ⟨w, δ, _, Ed, rfl, ok, lo, t, fun us vs w1 t1 l1 ok1 r1 => ?_, ec⟩
  refine toE_make (fun _ S2 k => (∃ fs, S2 k = some (.ins C fs)) ∧ Qd (.m k) S2) Qd ok1 r1 hdd t1.1 t1.2 (fun k w' y a b c hα => ?_) (ec.up l1)
  exact q (.m k) (.ref y) w' a.2 (l1.trans b) c (.m hα)
end
/-! ## 14. Errors -/
/-- an own error: its class at C, the names of its fields in the order of their stores -/
structure ErrC (P : Program) (w0 : World) (K : PySem.W.Frag) (mg : Str → Option Value) (base : Heap) (x : Str) (C : Addr) (fs : List Str) : Prop where
  gC : mg x = some (.ref C)
  oex : OexC K C
  few : fs.length ≤ 900
  ini : ∃ (fI : Addr) (fd : FuncData) (ps : List Str), PySem.W.findIn K (.ref C) "__init__" = some (some (.ref fI)) ∧ PySem.W.typeIn K (.ref fI) = some (.type "function") ∧ Binds K fd ps [] ∧ ps.length = fs.length + 1 ∧
    FnOk P w0 K mg base (L2.CX P w0) 1 fI fd ps (fun vs H Q _ => ∃ (y : Addr) (ws : List V), vs = .ref y :: ws ∧ ws.length = fs.length ∧ vs.length = ps.length ∧ H y = some (exo y C none) ∧
      ∀ d, H d = none → d ≠ y → Q .non (upd (upd H d (exd d (fs.zip ws).reverse)) y (exo y C (some d))))
def tErr (C : Addr) (fs : List Str) (ta : TA) : L2.St → Hp → XK → Prop := fun σ H Q => ta σ H fun vs H1 => vs.length = fs.length ∧ ∀ d, H1 d = none → Q (.ref C) (some d) (upd H1 d (.xd (fs.zip vs).reverse))
def dRaise (C : Addr) (fs : List Str) (ta : DA) : DS := fun B δ S => ta δ S (fun us S1 => us.length = fs.length ∧ B.ex ⟨C, (fs.zip us).reverse⟩ δ S1) (fun er S1 => B.ex er δ S1)
theorem RpF.append {K : PySem.W.Frag} {I : Hp} {α : Am} : ∀ {vs : List (Str × V)} {ds : List (Str × D)} {ws es}, RpF K I α vs ds → RpF K I α ws es → RpF K I α (vs ++ ws) (ds ++ es)
  | _, _, _, _, .nil, s => s
  | _, _, _, _, .cons h r, s => .cons h (RpF.append r s)
theorem RpF.reverse {K : PySem.W.Frag} {I : Hp} {α : Am} : ∀ {vs : List (Str × V)} {ds : List (Str × D)}, RpF K I α vs ds → RpF K I α vs.reverse ds.reverse
  | _, _, .nil => .nil
  | _, _, .cons h r => by
    rw [List.reverse_cons, List.reverse_cons]
    exact (RpF.reverse r).append (.cons h .nil)
theorem rpf_zip {K : PySem.W.Frag} {I : Hp} {α : Am} : ∀ (fs : List Str) {vs : List V} {ds : List D}, RpL K I α vs ds → RpF K I α (fs.zip vs) (fs.zip ds)
  | [], _, _, _ => .nil
  | _ :: _, _, _, .nil => .nil
  | f :: fs, _, _, .cons h r => .cons h (rpf_zip fs r)
section
variable {X : Cx} {W : WX} {x : Str} {C : Addr} {fs : List Str} {p pos rpos : Pos} {e : Expr} {es : List Expr} {ta : DA}
/-- raise C(e, ..) -/
theorem ds_raise (T : ErrC X.prog X.w X.K X.mg X.base x C fs) (hr : Room 2 X.A) (hc : X.calm = true) (tk : Takes X W) (hg : Gl X x) (ha : PA X (e :: es) (toA X.K W ta)) (hdb : (x == ("__debug__" : Str)) = false := by decide)
    (h1 : starEach (e :: es) X.env = (false, eval e X.env) :: starEach es X.env := by rfl) (h2 : (backTo pos (starEach es X.env)).any (·.1) = false := by rfl) : PS X (.Raise (some (.Call (.Name x p) (e :: es) [] pos)) none rpos) (toS X.K W (dRaise C fs ta)) := by
  obtain ⟨fI, fd, ps, hi, ti, hb, hl, F⟩ := T.ini
  refine simp' (ps_raise hc tk (pmk_oex (CX := L2.CX X.prog X.w) T.oex hi ti F hr hb .nil passL hg T.gC ha hdb h1 h2)) fun D σ H ⟨w, δ, B, hH, ok, lo, t, r⟩ => ?_
  subst hH
  refine ⟨w, δ, _, _, rfl, ok, lo, t, fun us vs w1 t1 l1 ok1 r1 => ?_, r.eC lo⟩
  obtain ⟨hn, hB⟩ := t1
  have hvl : vs.length = fs.length := by rw [r1.length]; exact hn
  have few := T.few
  refine ⟨by omega, fun y hy => ⟨y, vs, by rw [List.append_nil], hvl, by rw [List.append_nil, List.length_cons, hvl, hl], upd_same, fun d hd hne => ⟨rfl, d, (fs.zip vs).reverse, upd_same, (upd_ne hne).trans upd_same, ?_, ?_⟩⟩⟩
  · rw [upd_ne hne] at hd
    exact hd
  · have hd1 : w1.H d = none := by
      rw [upd_ne hne] at hd
      exact hd
    have e1 : upd (L2.del (upd (upd (upd w1.H y (exo y C none)) d (exd d (fs.zip vs).reverse)) y (exo y C (some d))) y) d (.xd (fs.zip vs).reverse) = upd w1.H d (.xd (fs.zip vs).reverse) := by
      funext b
      by_cases hbd : b = d
      · rw [hbd, upd_same, upd_same]
      · rw [upd_ne hbd, upd_ne hbd]
        by_cases hby : b = y
        · rw [hby, L2.del_same, hy]
        · rw [L2.del_ne hby, upd_ne hby, upd_ne hbd, upd_ne hby]
    rw [e1]
    have l2 : Le w1 (w1.lay d (.xd (fs.zip vs).reverse)) := .lay ok1 hd1
    exact r.ex ⟨C, (fs.zip us).reverse⟩ d δ σ (w1.lay d (.xd (fs.zip vs).reverse)) hB (l1.trans l2) (ok1.lay hd1) ((lo.up l1).up l2) ⟨_, upd_same, (rpf_zip fs (r1.up l2)).reverse⟩
end
/-! ### try -/
/-- a clause: does it take an error of the class; the slot of its name; its suite, for any place of the error and of its dict -/
structure Hd where
  mt : Addr → Option Bool
  sl : Option Nat
  su : Addr → Addr → Err → DS
def unset (o : Option Nat) (δ : Lo) : Lo := match o with
  | none => δ
  | some i => δ.set i none
def heldD (o : Option Nat) (a dx : Addr) (er : Err) (δ : Lo) : Lo := match o with
  | none => δ
  | some i => δ.set i (some (.exc a dx er.C er.fs))
def dHs (B : DEnds) (er : Err) (δ : Lo) (S : Sto) : List Hd → Prop
  | [] => B.ex er δ S
  | h :: r => opt (h.mt er.C) fun b => cnd b (∀ a dx, h.su a dx er { nx := fun δ' S' => B.nx (unset h.sl δ') S', rt := B.rt, bk := fun δ' S' => B.bk (unset h.sl δ') S', ct := fun δ' S' => B.ct (unset h.sl δ') S', ex := fun _ _ _ => False } (heldD h.sl a dx er δ) S) (dHs B er δ S r)
def dTry (hs : List Hd) (body : DS) : DS := fun B δ S => body { nx := B.nx, rt := B.rt, bk := B.bk, ct := B.ct, ex := fun er δ' S' => dHs B er δ' S' hs } δ S
/-- a suite's reading -/
def toSu (K : PySem.W.Frag) (su : Addr → Addr → Err → DS) (a : Addr) (cls : Value) (d : Option Addr) : TS := fun D σ H => ∃ (dx : Addr) (er : Err), d = some dx ∧ cls = .ref er.C ∧ toS K W0 (su a dx er) D σ H
inductive HsR (X : Cx) : List ExceptHandler → List (Value × Hd) → Prop
  | nil : HsR X [] []
  | bare {x c s0 ss p1 p2 hs l} {h : Hd} (hc : Names X x c) (hm : ∀ C b, h.mt C = some b → PySem.W.exmOne X.K (.ref C) c = some b) (e : h.sl = none)
      (su : ∀ (a : Addr) (ox : Obj) (dx C : Addr) (fs : List (Str × D)) (pn : List (Addr × Obj)), Zc (.ref C) (some dx) ox → (∃ vs, ox.data = .fields vs) → PSs (X.suite a ((a, ox) :: pn)) (s0 :: ss) (toS X.K W0 (h.su a dx ⟨C, fs⟩))) (r : HsR X hs l) :
      HsR X (.ExceptHandler (some (.Name x p1)) none (s0 :: ss) p2 :: hs) ((c, h) :: l)
  | named {x c s0 ss p1 p2 hs l n i} {h : Hd} (hc : Names X x c) (hm : ∀ C b, h.mt C = some b → PySem.W.exmOne X.K (.ref C) c = some b) (e : h.sl = some i) (hN : X.N.Nodup) (hi : X.N[i]? = some n) (hl : X.env.kindOf n = some .local)
      (su : ∀ (a : Addr) (ox : Obj) (dx C : Addr) (fs : List (Str × D)) (pn : List (Addr × Obj)), Zc (.ref C) (some dx) ox → (∃ vs, ox.data = .fields vs) → PSs (X.suite a ((a, ox) :: pn)) (s0 :: ss) (toS X.K W0 (h.su a dx ⟨C, fs⟩))) (r : HsR X hs l) :
      HsR X (.ExceptHandler (some (.Name x p1)) (some n) (s0 :: ss) p2 :: hs) ((c, h) :: l)
def clOf (K : PySem.W.Frag) (q : Value × Hd) : DLT.Cl := (q.1, q.2.sl, fun a cls d => toSu K q.2.su a cls d)
theorem su_run {X : Cx} {suite : List Stmt} {h : Hd} (su : ∀ (a : Addr) (ox : Obj) (dx C : Addr) (fs : List (Str × D)) (pn : List (Addr × Obj)), Zc (.ref C) (some dx) ox → (∃ vs, ox.data = .fields vs) → PSs (X.suite a ((a, ox) :: pn)) suite (toS X.K W0 (h.su a dx ⟨C, fs⟩)))
    (a : Addr) (ox : Obj) (cls : Value) (d : Option Addr) (pn : List (Addr × Obj)) (hz : Zc cls d ox) (hf : ∃ vs, ox.data = .fields vs) : PSs (X.suite a ((a, ox) :: pn)) suite (toSu X.K h.su a cls d) := ⟨fun pins s σ H D I q => by
  obtain ⟨dx, er, rfl, rfl, q⟩ := q
  exact (su a ox dx er.C er.fs pn hz hf).run pins s σ H D I q⟩
theorem HsR.cls {X : Cx} : ∀ {hs : List ExceptHandler} {l : List (Value × Hd)}, HsR X hs l → DLT.Cls' X hs (l.map (clOf X.K))
  | _, _, .nil => .nil
  | _, _, .bare (c := c) (h := h) hc hm e su r => by
    show DLT.Cls' X _ ((c, h.sl, fun a cls d => toSu X.K h.su a cls d) :: _)
    rw [e]
    exact .bare hc (su_run su) (HsR.cls r)
  | _, _, .named (c := c) (h := h) hc hm e hN hi hl su r => by
    show DLT.Cls' X _ ((c, h.sl, fun a cls d => toSu X.K h.su a cls d) :: _)
    rw [e]
    exact .named hc hN hi hl (su_run su) (HsR.cls r)
theorem HsR.mts {X : Cx} : ∀ {hs : List ExceptHandler} {l : List (Value × Hd)}, HsR X hs l → ∀ q ∈ l, ∀ C b, q.2.mt C = some b → PySem.W.exmOne X.K (.ref C) q.1 = some b
  | _, _, .nil, _, hq => by cases hq
  | _, _, .bare hc hm e su r, q, hq => by
    rcases List.mem_cons.mp hq with rfl | hq
    · exact hm
    · exact HsR.mts r q hq
  | _, _, .named hc hm e hN hi hl su r, q, hq => by
    rcases List.mem_cons.mp hq with rfl | hq
    · exact hm
    · exact HsR.mts r q hq
theorem wish_of {K : PySem.W.Frag} {Wo : WX} {w : Wd} {B : DEnds} {D : Ends} {σ : L2.St} {δ : Lo} {er : Err} {dx : Addr} (ok : Ok K w) (lo : LoR K w σ δ) (re : ErR K w er dx) (r : EndsR K Wo w B D) :
    ∀ l : List (Value × Hd), (∀ q ∈ l, ∀ C b, q.2.mt C = some b → PySem.W.exmOne K (.ref C) q.1 = some b) → dHs B er δ w.S (l.map (·.2)) → DLT.wish K Wo D (l.map (clOf K)) (.ref er.C) (some dx) σ w.H
  | [], _, h => r.ex er dx δ σ w h (.refl w) ok lo re
  | (c, h) :: l, hm, hh => by
    obtain ⟨b, hb, hh⟩ := opt_of hh
    refine ⟨b, hm (c, h) (List.mem_cons_self ..) er.C b hb, fun eb a _ => ?_, fun eb => ?_⟩
    · subst eb
      refine ⟨dx, er, rfl, rfl, w, heldD h.sl a dx er δ, _, rfl, ok, ?_, hh a dx, ?_⟩
      · obtain ⟨vs, h1, h2⟩ := re
        cases h.sl with
        | none => exact lo
        | some i => exact lo.set i (.exc h1 h2)
      · cases hsl : h.sl with
        | none => exact ⟨r.nx, r.rt, r.bk, r.ct, fun _ _ _ _ _ z => z.elim⟩
        | some i => exact ⟨fun δ' σ' w' a b c d => r.nx _ _ w' a b c (d.non i), r.rt, fun δ' σ' w' a b c d => r.bk _ _ w' a b c (d.non i), fun δ' σ' w' a b c d => r.ct _ _ w' a b c (d.non i), fun _ _ _ _ _ z => z.elim⟩
    · subst eb
      exact wish_of ok lo re r l (fun q hq => hm q (List.mem_cons_of_mem _ hq)) hh
section
variable {X : Cx} {W : WX} {body : List Stmt} {h0 : ExceptHandler} {hs : List ExceptHandler} {l : List (Value × Hd)} {tb : DS} {pos : Pos}
theorem ds_try (h1 : X.stack = X.env :: X.outer) (h2 : X.env.frame = some X.env.locals) (tk : Takes X W) (hh : HsR X (h0 :: hs) l)
    (hb : ∀ (W' : WX) (pn : List (Addr × Obj)) (xe : Value → Shared → Prop), Takes (X.tr pn xe) W' → PassesOwn (model X.prog X.w) X.A X.env xe → PSs (X.tr pn xe) body (toS X.K W' tb)) :
    PS X (.Try body (h0 :: hs) [] [] pos) (toS X.K W (dTry (l.map (·.2)) tb)) := simp' (DLT.ps_try (tb := fun W' => toS X.K W' tb) h1 h2 tk hb hh.cls) fun D σ H ⟨w, δ, B, hH, ok, lo, t, r⟩ => by
  subst hH
  exact ⟨w, δ, _, rfl, ok, lo, t, ⟨r.nx, r.rt, r.bk, r.ct, fun er dx δ' σ' w' a b c d e => wish_of c d e (r.up b) l hh.mts a⟩⟩
/-- e.f, e the error that the suite holds, its class one of Cs -/
def dXf (Cs : List Addr) (a dx : Addr) (er : Err) (f : Str) (t : DE) : DE := fun δ S Q E => er.C ∈ Cs ∧ t δ S (fun d S1 => match d with
  | .exc a' dx' C' fs => a' = a ∧ dx' = dx ∧ C' = er.C ∧ opt (fs.lookup f) fun z => Q z S1
  | _ => False) E
theorem de_xf {X : Cx} {a dx C : Addr} {fs : List (Str × D)} {oe : Obj} {pn : List (Addr × Obj)} {e : Expr} {te : DE} {pos : Pos} {n : Str} {Cs : List Addr} (hx : ∀ C ∈ Cs, XfC X.K C ∧ PySem.W.findIn X.K (.ref C) n = some none) (hz : Zc (.ref C) (some dx) oe) (hf : ∃ vs, oe.data = .fields vs)
    (he : PE (X.suite a ((a, oe) :: pn)) e (toE X.K W0 te)) (hb : attributeBase e n X.env (eval e X.env) = eval e X.env := by rfl) : PE (X.suite a ((a, oe) :: pn)) (.Attribute e n pos) (toE X.K W0 (dXf Cs a dx ⟨C, fs⟩ n te)) := by
  by_cases hC : C ∈ Cs
  · refine pimp (pe_xf (hx C hC).1 (hx C hC).2 hz hf he hb) fun σ H Q h => ?_
    obtain ⟨w, δ, Qd, Ed, rfl, ok, lo, ⟨_, t⟩, q, ec⟩ := h
    refine ⟨w, δ, _, Ed, rfl, ok, lo, t, fun d v w1 t1 l1 ok1 r1 => ?_, ec⟩
    cases d with
    | exc a' dx' C' fs' =>
      obtain ⟨rfl, rfl, rfl, h⟩ := t1
      obtain ⟨z, hz', h⟩ := opt_of h
      cases r1 with
      | exc hI rf =>
        obtain ⟨v, hv, rv⟩ := rf.lookup hz'
        exact ⟨rfl, rfl, dx', _, v, rfl, ok1.sub _ _ hI, hv, q z v w1 h l1 ok1 rv⟩
    | _ => exact t1.elim
  · refine ⟨fun pins s σ H Q I h => ?_⟩
    obtain ⟨w, δ, Qd, Ed, _, _, _, ⟨hc, _⟩, _⟩ := h
    exact absurd hc hC
end
end DL

set_option maxHeartbeats 4000000
namespace DL
open PySem PySem.Spec L2
/-! ## 15. isinstance -/
inductive Tag where
  | ty (n : String)
  | own (C : Addr)
deriving DecidableEq
def Tag.val : Tag → Value
  | .ty n => .type n
  | .own C => .ref C
def Tag.v : Tag → V
  | .ty n => .ty n
  | .own C => .ref C
theorem Tag.cls (t : Tag) : ClsV t.v t.val := by
  cases t with
  | ty n => exact .ty n
  | own C => exact .own C
/-- the type of a datum -/
def tyD (S : Sto) : D → Option Tag
  | .non => some (.ty "NoneType")
  | .bl _ => some (.ty "bool")
  | .int _ => some (.ty "int")
  | .str _ => some (.ty "str")
  | .lst _ => some (.ty "list")
  | .rol _ => some (.ty "list")
  | .tup _ => some (.ty "tuple")
  | .ins C _ => some (.own C)
  | .m n => (match S n with
    | some (.lst _) => some (.ty "list")
    | some (.ins C _) => some (.own C)
    | _ => none)
  | _ => none
/-- what the written part says of an own class whose instances are asked for their type -/
structure InsT (K : PySem.W.Frag) (C : Addr) : Prop where
  cl : Cls K C
  ha : PySem.W.findIn K (.ref C) "__class__" = some (some (.builtin "object.__class__"))
  hn : PySem.W.specialIn K (.builtin "object.__class__") "__get__" = some (some (.builtin "getset_descriptor.__get__"))
  htk : PySem.W.takesIn K (.builtin "object.__class__") = some true
  hm : PySem.W.mroIn K C (.type "object") = some true
def kTys : List String := ["NoneType", "bool", "int", "str", "list", "tuple"]
/-- is one of the type t an instance of c: Cs, the own classes (none the heir of another) -/
def isi1 (Cs : List Addr) : Tag → Tag → Option Bool
  | .ty a, .ty b => if a ∈ kTys ∧ b ∈ kTys then some (decide (a = b) || (decide (a = "bool") && decide (b = "int"))) else none
  | .ty a, .own C => if a ∈ kTys ∧ C ∈ Cs then some false else none
  | .own C, .ty b => if C ∈ Cs ∧ b ∈ kTys then some false else none
  | .own C, .own C' => if C ∈ Cs ∧ C' ∈ Cs then some (decide (C = C')) else none
structure IsiF (K : PySem.W.Frag) (Cs : List Addr) : Prop where
  ins : ∀ C ∈ Cs, InsT K C
  one : ∀ t c b, isi1 Cs t c = some b → PySem.W.kitOne K t.val c.val = some b
theorem rd_lst {K : PySem.W.Frag} {H : Hp} {p : Addr} {vs : List V} (h : SqL K H p vs) : TyX K H (.ref p) (.type "list") := by
  rcases h with h | ⟨o, its, n, h1, h2, _⟩
  · rcases h with h | ⟨o, h⟩
    · exact .base (.lst h)
    · exact .base (.frz h)
  · exact .kList h1 h2
theorem rd_tup {K : PySem.W.Frag} {H : Hp} {p : Addr} {vs : List V} (h : SqT K H p vs) : TyX K H (.ref p) (.type "tuple") := by
  rcases h with h | ⟨o, its, n, h1, h2, _⟩
  · rcases h with h | ⟨o, h⟩
    · exact .base (.tup h)
    · exact .fTuple h
  · exact .kTuple h1 h2
theorem tyx_of {K : PySem.W.Frag} {w : Wd} {v : V} {d : D} {t : Tag} {Cs : List Addr} (F : IsiF K Cs) (ok : Ok K w) (r : Rp K w.I w.α v d) (h : tyD w.S d = some t) (ht : ∀ C, t = .own C → C ∈ Cs) : TyX K w.H v t.val := by
  cases d with
  | non => cases r; cases h; exact .base .non
  | bl b => cases r; cases h; exact .base (.bl b)
  | int i => cases r; cases h; exact .base (.int i)
  | str i => cases r; cases h; exact .base (.str i)
  | lst xs =>
    obtain ⟨p, vs, rfl, hp, _⟩ := r.lst'
    cases h
    exact .base (.lst (ok.sub _ _ hp))
  | rol xs =>
    obtain ⟨p, vs, rfl, hp, _⟩ := r.rol'
    cases h
    exact rd_lst (ok.sqL hp)
  | tup xs =>
    obtain ⟨p, vs, rfl, hp, _⟩ := r.tup'
    cases h
    exact rd_tup (ok.sqT hp)
  | ins C fs =>
    obtain ⟨p, dx, vs, rfl, hp, _⟩ := r.ins'
    cases h
    have q := F.ins C (ht C rfl)
    exact .base (.ins (ok.sub _ _ hp) q.cl q.ha q.hn q.htk q.hm)
  | m n =>
    unfold tyD at h
    cases e : w.S n with
    | none => simp [e] at h
    | some c =>
      obtain ⟨p, rfl, hp⟩ := r.m'
      obtain ⟨p', o, h1, h2, _, h4⟩ := ok.cel n c e
      rw [hp] at h1
      cases h1
      cases c with
      | lst xs =>
        simp only [e] at h
        cases h
        obtain ⟨vs, rfl, _⟩ := h4
        exact .base (.lst h2)
      | ins C fs =>
        simp only [e] at h
        cases h
        obtain ⟨dx, vs, rfl, _⟩ := h4
        have q := F.ins C (ht C rfl)
        exact .base (.ins h2 q.cl q.ha q.hn q.htk q.hm)
      | dT => simp [e] at h
      | dK => simp [e] at h
  | cv v => cases h
  | exc => cases h
theorem isi_own {Cs : List Addr} {t c : Tag} {b : Bool} (h : isi1 Cs t c = some b) : ∀ C, t = .own C → C ∈ Cs := by
  rintro C rfl
  cases c with
  | ty n =>
    have h : (if C ∈ Cs ∧ n ∈ kTys then some false else none) = some b := h
    by_cases q : C ∈ Cs ∧ n ∈ kTys
    · exact q.1
    · rw [if_neg q] at h; cases h
  | own C' =>
    have h : (if C ∈ Cs ∧ C' ∈ Cs then some (decide (C = C')) else none) = some b := h
    by_cases q : C ∈ Cs ∧ C' ∈ Cs
    · exact q.1
    · rw [if_neg q] at h; cases h
/-- any of several -/
def isiA (Cs : List Addr) (t : Tag) : List Tag → Option Bool
  | [] => some false
  | c :: cs => match isi1 Cs t c with
    | some true => some true
    | some false => isiA Cs t cs
    | none => none
theorem isiA_kit {K : PySem.W.Frag} {Cs : List Addr} (F : IsiF K Cs) {t : Tag} : ∀ {cs : List Tag} {b : Bool}, isiA Cs t cs = some b → PySem.W.kitAny K t.val (cs.map Tag.val) = some b
  | [], b, h => by
    cases h
    exact kitAny_nil
  | c :: cs, b, h => by
    unfold isiA at h
    split at h
    · rename_i q
      cases h
      exact kitAny_cons (F.one _ _ _ q) (fun z => nomatch z) fun _ => rfl
    · rename_i q
      exact kitAny_cons (F.one _ _ _ q) (fun _ => isiA_kit F h) fun z => nomatch z
    · cases h
def dIsi (Cs : List Addr) (c : Tag) (ta : DE) : DE := fun δ S Q E => ta δ S (fun d S1 => opt (tyD S1 d) fun t => opt (isi1 Cs t c) fun b => Q (.bl b) S1) E
def dIsiT (Cs : List Addr) (c : Tag) (cs : List Tag) (ta : DE) : DE := fun δ S Q E => ta δ S (fun d S1 => opt (tyD S1 d) fun t => opt (isiA Cs t (c :: cs)) fun b => Q (.bl b) S1) E
section
variable {X : Cx} {W : WX} {a e : Expr} {es : List Expr} {ta : DE} {p pos tpos : Pos} {Cs : List Addr}
/-- constants in a row -/
def tCs (vs : List V) : TA := fun _ H Q => Q vs H
theorem pcs_nil : PA X [] (tCs []) := pa_nil
theorem pcs_cons {v : V} {vs : List V} (h : PE X e (tC v)) (hr : PA X es (tCs vs)) (hs : starEach (e :: es) X.env = (false, eval e X.env) :: starEach es X.env := by rfl) : PA X (e :: es) (tCs (v :: vs)) := pimpA (pa_cons h hr hs) fun _ _ _ h => h
theorem de_isi {c : Tag} (F : IsiF X.K Cs) (ha : PE X a (toE X.K W ta)) (hc : PE X e (tC c.v)) (hg : Gl X "isinstance") (hm : X.mg "isinstance" = none) (hv : bootBuiltins "isinstance" = some (.builtin "isinstance"))
    (h0 : starEach (a :: [e]) X.env = (false, eval a X.env) :: starEach [e] X.env := by rfl) (h1 : starEach (e :: []) X.env = (false, eval e X.env) :: starEach [] X.env := by rfl) (hpl : (backTo pos (starEach [e] X.env)).any (·.1) = false := by rfl) :
    PE X (.Call (.Name "isinstance" p) (a :: [e]) [] pos) (toE X.K W (dIsi Cs c ta)) :=
  pimp (pe_callB call_isi hg hm hv (pa_cons ha (pcs_cons hc pcs_nil h1) h0) (by decide) (by decide) h0 hpl) fun σ H Q h => by
  obtain ⟨w, δ, Qd, Ed, rfl, ok, lo, t, q, ec⟩ := h
  refine ⟨w, δ, _, Ed, rfl, ok, lo, t, fun d v w1 t1 l1 ok1 r1 => ?_, ec⟩
  obtain ⟨t', h1, h2⟩ := opt_of t1
  obtain ⟨b, h3, h4⟩ := opt_of h2
  exact ⟨v, c.v, t'.val, c.val, b, rfl, c.cls, tyx_of F ok1 r1 h1 (isi_own h3), F.one _ _ _ h3, q _ _ w1 h4 l1 ok1 (.bl b)⟩
theorem isiA_own {t c : Tag} {cs : List Tag} {b : Bool} (h : isiA Cs t (c :: cs) = some b) : ∀ C, t = .own C → C ∈ Cs := by
  unfold isiA at h
  split at h
  · rename_i q; exact isi_own q
  · rename_i q; exact isi_own q
  · cases h
theorem tags_cls : ∀ cs : List Tag, Paired ClsV (cs.map Tag.v) (cs.map Tag.val)
  | [] => .nil
  | c :: cs => .cons c.cls (tags_cls cs)
theorem de_isiT {c : Tag} {cs : List Tag} {x1} (F : IsiF X.K Cs) (hl : (c :: cs).length ≤ 1000) (ha : PE X a (toE X.K W ta)) (hc : PA X es (tCs ((c :: cs).map Tag.v))) (hg : Gl X "isinstance") (hm : X.mg "isinstance" = none) (hv : bootBuiltins "isinstance" = some (.builtin "isinstance"))
    (h0 : starEach (a :: [.Tuple es x1 tpos]) X.env = (false, eval a X.env) :: starEach [.Tuple es x1 tpos] X.env := by rfl) (h1 : starEach (.Tuple es x1 tpos :: []) X.env = (false, eval (.Tuple es x1 tpos) X.env) :: starEach [] X.env := by rfl)
    (hpl : (backTo pos (starEach [.Tuple es x1 tpos] X.env)).any (·.1) = false := by rfl) :
    PE X (.Call (.Name "isinstance" p) (a :: [.Tuple es x1 tpos]) [] pos) (toE X.K W (dIsiT Cs c cs ta)) :=
  pimp (pe_callB call_isiT hg hm hv (pa_cons ha (pa_cons (pe_tup hc) pa_nil h1) h0) (by decide) (by decide) h0 hpl) fun σ H Q h => by
  obtain ⟨w, δ, Qd, Ed, rfl, ok, lo, t, q, ec⟩ := h
  refine ⟨w, δ, _, Ed, rfl, ok, lo, t, fun d v w1 t1 l1 ok1 r1 => ?_, ec⟩
  obtain ⟨t', h1, h2⟩ := opt_of t1
  obtain ⟨b, h3, h4⟩ := opt_of h2
  refine ⟨by rw [sizeLine_eq, List.length_map]; omega, fun tp htp => ?_⟩
  have ok2 := ok1.lay (o := .tup ((c :: cs).map Tag.v)) htp
  have l2 : Le w1 (w1.lay tp (.tup ((c :: cs).map Tag.v))) := .lay ok1 htp
  exact ⟨v, tp, _, t'.val, _, b, rfl, upd_same, tags_cls _, tyx_of F ok2 (r1.up l2) h1 (isiA_own h3), isiA_kit F h3, q _ _ (w1.lay tp (.tup ((c :: cs).map Tag.v))) h4 (l1.trans l2) ok2 (.bl b)⟩
end
end DL

set_option maxHeartbeats 4000000
namespace DL
open PySem PySem.Spec L2 He
/-! ## 16. The facts of the written part, as checks -/
def oexB (K : PySem.W.Frag) (C : Addr) : Bool := (match K.lookup C with
  | some ⟨.type "type", _, .cls cd, sl⟩ => (match cd.mro, sl.toList with
    | .ref C' :: bm, [_, _, _, _, some (.builtin n), _] => C' == C && (n == "ValueError.__new__" && (!cd.hasDel && (cd.hasDict && PySem.HandSPX.refsVE bm)))
    | _, _ => false)
  | _ => false) && (eqO (PySem.W.findIn K (.ref C) "__setattr__") (some (some (.builtin "object.__setattr__"))) && (decide (PySem.W.subIn K (.ref C) (.type "BaseException") = some true) && (decide (PySem.W.typeIn K (.ref C) = some (.type "type")) && PySem.W.keepIn K (.ref C))))
theorem oexB_ok {K : PySem.W.Frag} {C : Addr} (h : oexB K C = true) : OexC K C := by
  obtain ⟨q, h⟩ := ba h
  obtain ⟨h1, h⟩ := ba h
  obtain ⟨h2, h⟩ := ba h
  obtain ⟨h3, h4⟩ := ba h
  refine ⟨?_, eqO_ok h1, of_decide_eq_true h2, of_decide_eq_true h3, h4⟩
  split at q
  · rename_i dd cd sl ho
    split at q
    · rename_i C' bm k0 k1 k2 k3 n k5 hm hs
      obtain ⟨q1, q⟩ := ba q
      obtain ⟨q2, q⟩ := ba q
      obtain ⟨q3, q⟩ := ba q
      obtain ⟨q4, q5⟩ := ba q
      obtain rfl := beq_iff_eq.mp q1
      obtain rfl := beq_iff_eq.mp q2
      obtain ⟨nm, bs, mro, ns, qn, hd, sn, sub, ab, col, del⟩ := cd
      dsimp only at hm q3 q4
      subst hm q4
      have q3 : del = false := by simpa using q3
      subst q3
      have hsl : sl = #[k0, k1, k2, k3, some (.builtin "ValueError.__new__"), k5] := by
        obtain ⟨l⟩ := sl
        simp only at hs
        rw [hs]
      subst hsl
      exact ⟨nm, qn, ns, bs, bm, sn, sub, ab, col, dd, k0, k1, k2, k3, k5, ho, q5⟩
    · cases q
  · cases q
/-- an error's __init__ -/
structure ErD where
  C : Addr
  qual : Str
  params : Arguments
  body : List Stmt
  scope : Scope
abbrev FnE : Type := Option (Str × Str × Arguments × FuncBody × Scope × Addr × Addr)
def errV (K : PySem.W.Frag) (C : Addr) : FnE := match K.lookup (ma K C "__init__") with
  | some ⟨_, _, .func fd, _⟩ => some (fd.name, fd.qualname, fd.params, fd.body, fd.scope, fd.globals, fd.builtins)
  | _ => none
def ErD.val (d : ErD) : FnE := some ("__init__", d.qual, d.params, .stmts d.body, d.scope, mainGlobals, builtinsNs)
def fileIs (file : Str) : Option Value → Bool
  | some (.str f _) => file == f
  | _ => false
theorem fileIs_ok {file : Str} {o : Option Value} (h : fileIs file o = true) : ∃ fl tf, o = some (.str fl tf) ∧ (file == fl) = true := by
  unfold fileIs at h
  split at h
  · exact ⟨_, _, rfl, h⟩
  · cases h
def errB (file : Str) (K : PySem.W.Frag) (d : ErD) : Bool := oexB K d.C && (eqO (PySem.W.findIn K (.ref d.C) "__init__") (some (some (.ref (ma K d.C "__init__")))) && (decide (PySem.W.typeIn K (.ref (ma K d.C "__init__")) = some (.type "function")) &&
  ((match K.lookup (ma K d.C "__init__") with
    | some ⟨_, _, .func fd, _⟩ => (match fd.closure, fd.defaults, fd.code with
      | [(n, cc)], .none, .ref c => n == ("__class__" : Str) && ((match K.lookup cc with
          | some ⟨_, _, .cell (some (.ref C')), _⟩ => C' == d.C
          | _ => false) && (PySem.W.codeIn K (.ref c) d.qual && (match K.lookup c with
          | some ⟨_, _, .fields vs, _⟩ => fileIs file (vs[2]?)
          | _ => false)))
      | _, _, _ => false)
    | _ => false) &&
  (eqO (PySem.W.ks_superIn K d.C d.C "__init__") (some (some (.builtin "ValueError.__init__"))) && (decide (PySem.W.mroIn K d.C (.ref d.C) = some true) && (decide (PySem.W.subIn K (.ref d.C) (.type "ValueError") = some true) && eqO (PySem.W.nsIn K cStatics "thirdparty.any") (some none)))))))
structure ErrT (file : Str) (K : PySem.W.Frag) (d : ErD) : Prop where
  oex : OexC K d.C
  fn : ∃ (fI cc c : Addr) (kV doc pm : Value) (an : Option Addr) (ctv oc : Value) (od : Option Addr) (osl : Array (Option Value)), PySem.W.findIn K (.ref d.C) "__init__" = some (some (.ref fI)) ∧ PySem.W.typeIn K (.ref fI) = some (.type "function") ∧
    K.lookup fI = some ⟨oc, od, .func (PySem.W.fnX "__init__" d.qual d.params d.body d.scope [(("__class__" : Str), cc)] .none kV doc pm an (.ref c) ctv), osl⟩ ∧ (∃ ccl ccd ccs, K.lookup cc = some ⟨ccl, ccd, .cell (some (.ref d.C)), ccs⟩) ∧ PySem.W.codeIn K (.ref c) d.qual = true ∧
    ∃ (vs : Array Value) (fl : Str) (tf : Tok) (c1 : Value) (c2 : Option Addr) (c3 : Array (Option Value)), K.lookup c = some ⟨c1, c2, .fields vs, c3⟩ ∧ vs[2]? = some (.str fl tf) ∧ (file == fl) = true
  sup : PySem.W.ks_superIn K d.C d.C "__init__" = some (some (.builtin "ValueError.__init__"))
  self : PySem.W.mroIn K d.C (.ref d.C) = some true
  ve : PySem.W.subIn K (.ref d.C) (.type "ValueError") = some true
  third : PySem.W.nsIn K cStatics "thirdparty.any" = some none
theorem errB_ok {file : Str} {K : PySem.W.Frag} {d : ErD} (h : errB file K d = true) (e : errV K d.C = d.val) : ErrT file K d := by
  obtain ⟨h1, h⟩ := ba h
  obtain ⟨h2, h⟩ := ba h
  obtain ⟨h3, h⟩ := ba h
  obtain ⟨h4, h⟩ := ba h
  obtain ⟨h5, h⟩ := ba h
  obtain ⟨h6, h⟩ := ba h
  obtain ⟨h7, h8⟩ := ba h
  refine ⟨oexB_ok h1, ?_, eqO_ok h5, of_decide_eq_true h6, of_decide_eq_true h7, eqO_ok h8⟩
  unfold errV at e
  cases q : K.lookup (ma K d.C "__init__") with
  | none => rw [q] at e; cases e
  | some o =>
    obtain ⟨oc, od, dt, osl⟩ := o
    rw [q] at e h4
    cases dt with
    | func fd =>
      obtain ⟨n1, n2, n3, n4, n5, n6, n7, n8, n9, n10, n11, n12, n13, n14, n15⟩ := fd
      have e2 : (some (n1, n2, n3, n4, n5, n6, n15) : FnE) = some (("__init__" : Str), d.qual, d.params, FuncBody.stmts d.body, d.scope, mainGlobals, builtinsNs) := e
      simp only [Option.some.injEq, Prod.mk.injEq] at e2
      obtain ⟨g1, g2, g3, g4, g5, g6, g7⟩ := e2
      subst g1 g2 g3 g4 g5 g6 g7
      dsimp only at h4
      split at h4
      · rename_i n cc c
        obtain ⟨k1, h4⟩ := ba h4
        obtain ⟨k2, h4⟩ := ba h4
        obtain ⟨k3, k4⟩ := ba h4
        obtain rfl := beq_iff_eq.mp k1
        refine ⟨ma K d.C "__init__", cc, c, n9, n10, n11, n12, n14, oc, od, osl, eqO_ok h2, of_decide_eq_true h3, q, ?_, k3, ?_⟩
        · split at k2
          · rename_i ccl ccd C' ccs hcc
            obtain rfl := beq_iff_eq.mp k2
            exact ⟨_, _, _, hcc⟩
          · cases k2
        · split at k4
          · rename_i c1 c2 vs c3 hc
            obtain ⟨fl, tf, hv, hf⟩ := fileIs_ok k4
            exact ⟨vs, fl, tf, c1, c2, c3, hc, hv, hf⟩
          · cases k4
      · cases h4
    | _ => cases e
/-! ### own classes -/
def insB (K : PySem.W.Frag) (C : Addr) : Bool := (PySem.W.plainGet K C Str.empty && (PySem.W.hasDictIn K C && (PySem.W.plainOver K C && eqO (PySem.W.findIn K (.ref C) "__setattr__") (some (some (.builtin "object.__setattr__")))))) &&
  (eqO (PySem.W.findIn K (.ref C) "__class__") (some (some (.builtin "object.__class__"))) && (eqO (PySem.W.specialIn K (.builtin "object.__class__") "__get__") (some (some (.builtin "getset_descriptor.__get__"))) &&
  (decide (PySem.W.takesIn K (.builtin "object.__class__") = some true) && decide (PySem.W.mroIn K C (.type "object") = some true))))
theorem insB_ok {K : PySem.W.Frag} {C : Addr} (h : insB K C = true) : InsT K C := by
  obtain ⟨c, h⟩ := ba h
  obtain ⟨c1, c⟩ := ba c
  obtain ⟨c2, c⟩ := ba c
  obtain ⟨c3, c4⟩ := ba c
  obtain ⟨h1, h⟩ := ba h
  obtain ⟨h2, h⟩ := ba h
  obtain ⟨h3, h4⟩ := ba h
  exact ⟨⟨c1, c2, c3, eqO_ok c4⟩, eqO_ok h1, eqO_ok h2, of_decide_eq_true h3, of_decide_eq_true h4⟩
def tagsOf (Cs : List Addr) : List Tag := kTys.map Tag.ty ++ Cs.map Tag.own
def isiB (Cs : List Addr) (K : PySem.W.Frag) : Bool := Cs.all (insB K) && (tagsOf Cs).all fun t => (tagsOf Cs).all fun c => decide (PySem.W.kitOne K t.val c.val = isi1 Cs t c)
theorem isi_in {Cs : List Addr} {t c : Tag} {b : Bool} (h : isi1 Cs t c = some b) : t ∈ tagsOf Cs ∧ c ∈ tagsOf Cs := by
  have ty : ∀ {n : String}, n ∈ kTys → Tag.ty n ∈ tagsOf Cs := fun h => List.mem_append_left _ (List.mem_map_of_mem h)
  have ow : ∀ {n : Addr}, n ∈ Cs → Tag.own n ∈ tagsOf Cs := fun h => List.mem_append_right _ (List.mem_map_of_mem h)
  cases t with
  | ty a =>
    cases c with
    | ty b =>
      by_cases q : a ∈ kTys ∧ b ∈ kTys
      · exact ⟨ty q.1, ty q.2⟩
      · have h : (if a ∈ kTys ∧ b ∈ kTys then _ else none) = some _ := h
        rw [if_neg q] at h; cases h
    | own b =>
      by_cases q : a ∈ kTys ∧ b ∈ Cs
      · exact ⟨ty q.1, ow q.2⟩
      · have h : (if a ∈ kTys ∧ b ∈ Cs then _ else none) = some _ := h
        rw [if_neg q] at h; cases h
  | own a =>
    cases c with
    | ty b =>
      by_cases q : a ∈ Cs ∧ b ∈ kTys
      · exact ⟨ow q.1, ty q.2⟩
      · have h : (if a ∈ Cs ∧ b ∈ kTys then _ else none) = some _ := h
        rw [if_neg q] at h; cases h
    | own b =>
      by_cases q : a ∈ Cs ∧ b ∈ Cs
      · exact ⟨ow q.1, ow q.2⟩
      · have h : (if a ∈ Cs ∧ b ∈ Cs then _ else none) = some _ := h
        rw [if_neg q] at h; cases h
theorem isiB_ok {K : PySem.W.Frag} {Cs : List Addr} (h : isiB Cs K = true) : IsiF K Cs := by
  obtain ⟨h1, h2⟩ := ba h
  refine ⟨fun C hC => insB_ok (List.all_eq_true.mp h1 C hC), fun t c b e => ?_⟩
  obtain ⟨i1, i2⟩ := isi_in e
  have q := of_decide_eq_true (List.all_eq_true.mp (List.all_eq_true.mp h2 t i1) c i2)
  rw [q]
  exact e
/-- which errors a clause takes -/
def exmB (tab : List (Addr × Bool)) (c : Addr) (K : PySem.W.Frag) : Bool := tab.all fun p => decide (PySem.W.exmOne K (.ref p.1) (.ref c) = some p.2)
theorem exmB_ok {K : PySem.W.Frag} {c : Addr} : ∀ {tab : List (Addr × Bool)}, exmB tab c K = true → ∀ C b, tab.lookup C = some b → PySem.W.exmOne K (.ref C) (.ref c) = some b
  | [], _, _, _, h => by cases h
  | (C', b') :: r, h, C, b, e => by
    obtain ⟨h1, h2⟩ := ba (show (decide (PySem.W.exmOne K (.ref C') (.ref c) = some b') && r.all fun p => decide (PySem.W.exmOne K (.ref p.1) (.ref c) = some p.2)) = true from h)
    rw [List.lookup_cons] at e
    cases q : C == C' with
    | true =>
      rw [q] at e
      cases e
      rw [beq_iff_eq.mp q]
      exact of_decide_eq_true h1
    | false =>
      rw [q] at e
      exact exmB_ok h2 C b e
theorem glob_tup {K : PySem.W.Frag} {x : Str} {ns : List Int} (h : tupB K x (ns.map Dv.int) = true) (I : Hp) (α : Am) (hf : ns.map D.int = fldD := by rfl) : Rp K I α (.ref (ga K x)) (.tup (ns.map D.int)) := by
  refine .tup (tupB_ok h I) ?_ (.inr hf)
  rw [List.map_map]
  exact rpl_ints ns
/-! ### the Hook -/
structure HkD where
  fa : List Fa
  fn : List DefD
  bs : List (PySem.W.Frag → Bool)
  en : List ErD
abbrev AlH : Type := Bool × List FnW × List FnE
def obsH (file : Str) (q : HkD) (K : PySem.W.Frag) : AlH := ((q.fa.all fun f => f.ok K) && ((q.fn.all fun d => d.ok K) && ((q.bs.all fun b => b K) && q.en.all fun d => errB file K d)), q.fn.map fun d => fnW K d.at_, q.en.map fun d => errV K d.C)
def valH (q : HkD) : AlH := (true, q.fn.map DefD.val, q.en.map ErD.val)
def SaysH (file : Str) (q : HkD) (K : PySem.W.Frag) : Prop := obsH file q K = valH q
def obsHG (n : Nat) (file : Str) (q : HkD) (g : Addr → Option Obj) : AlH := obsH file q (frG g (cStatics :: asD g n))
def hookH (n : Nat) (file : Str) (q : HkD) : PySem.W.Hook where
  α := AlH
  obs := fun s => obsHG n file q s.heap.get?
  val := fun _ => valH q
  says := fun _ h => ∃ K : PySem.W.Frag, K.In h ∧ SaysH file q K
  of := fun _ _ e => ⟨_, frG_in, e⟩
  keeps := fun _ _ _ ⟨K, hK, c⟩ k => ⟨K, PySem.W.Frag.In.keeps hK k, c⟩
theorem obsHG_eq {n : Nat} {file : Str} {q : HkD} {g : Addr → Option Obj} {s : Shared} (h : ∀ a, g a = s.heap.get? a) : obsHG n file q g = (hookH n file q).obs s := by
  have e : g = s.heap.get? := funext h
  rw [e] <;> rfl
section
variable {file : Str} {q : HkD} {K : PySem.W.Frag}
theorem SaysH.all (c : SaysH file q K) : (q.fa.all fun f => f.ok K) = true ∧ (q.fn.all fun d => d.ok K) = true ∧ (q.bs.all fun b => b K) = true ∧ (q.en.all fun d => errB file K d) = true := by
  obtain ⟨a, h⟩ := ba (show ((q.fa.all fun f => f.ok K) && ((q.fn.all fun d => d.ok K) && ((q.bs.all fun b => b K) && q.en.all fun d => errB file K d))) = true from congrArg (fun z : AlH => z.1) c)
  obtain ⟨b, h⟩ := ba h
  obtain ⟨c, d⟩ := ba h
  exact ⟨a, b, c, d⟩
theorem SaysH.fact (c : SaysH file q K) (i : Nat) {f : Fa} (h : q.fa[i]? = some f := by rfl) : f.ok K = true := List.all_eq_true.mp c.all.1 f (List.mem_of_getElem? h)
theorem SaysH.bool (c : SaysH file q K) (i : Nat) {f : PySem.W.Frag → Bool} (h : q.bs[i]? = some f := by rfl) : f K = true := List.all_eq_true.mp c.all.2.2.1 f (List.mem_of_getElem? h)
theorem SaysH.def_ (c : SaysH file q K) (i : Nat) {d : DefD} (h : q.fn[i]? = some d := by rfl) : ∃ fd, FunD K d.name d.qual d.params d.body d.scope (d.dvs K) (d.kws K) (fAd K d.at_) fd := by
  have e : q.fn.map (fun d => fnW K d.at_) = q.fn.map DefD.val := congrArg (fun z : AlH => z.2.1) c
  have e2 : (q.fn.map fun d => fnW K d.at_)[i]? = (q.fn.map DefD.val)[i]? := by rw [e]
  rw [List.getElem?_map, List.getElem?_map, h] at e2
  exact DefD.funD (Option.some.inj e2) (List.all_eq_true.mp c.all.2.1 d (List.mem_of_getElem? h))
theorem SaysH.err (c : SaysH file q K) (i : Nat) {d : ErD} (h : q.en[i]? = some d := by rfl) : ErrT file K d := by
  have e : q.en.map (fun d => errV K d.C) = q.en.map ErD.val := congrArg (fun z : AlH => z.2.2) c
  have e2 : (q.en.map fun d => errV K d.C)[i]? = (q.en.map ErD.val)[i]? := by rw [e]
  rw [List.getElem?_map, List.getElem?_map, h] at e2
  exact errB_ok (List.all_eq_true.mp c.all.2.2.2 d (List.mem_of_getElem? h)) (Option.some.inj e2)
end
end DL

set_option maxHeartbeats 4000000
namespace DL
open PySem PySem.Spec L2 He
/-! ## 17. Errors by their text -/
section
variable {P : Program} {w : World} {K : PySem.W.Frag} {mg : Str → Option Value} {base : Heap} {d : ErD} {x : Str}
theorem supC_of (T : ErrT P.main.file K d) {F : NdefX.NF} {cc : Addr} (hc : ∃ ccl ccd ccs, K.lookup cc = some ⟨ccl, ccd, .cell (some (.ref d.C)), ccs⟩) (hcode : PySem.W.codeIn K (.ref F.c) F.qual = true)
    (hf : ∃ (vs : Array Value) (fl : Str) (tf : Tok) (c1 : Value) (c2 : Option Addr) (c3 : Array (Option Value)), K.lookup F.c = some ⟨c1, c2, .fields vs, c3⟩ ∧ vs[2]? = some (.str fl tf) ∧ (P.main.file == fl) = true) (noS : mg "super" = none) (top : (P.main.scope.names.lookup ("super" : Str)).isSome = false) :
    DLX.SupC P K mg d.C cc F := ⟨T.oex, hc, hcode, hf, T.sup, T.self, T.ve, T.third, noS, top⟩
theorem err1 (T : ErrT P.main.file K d) (noS : mg "super" = none) (top : (P.main.scope.names.lookup ("super" : Str)).isSome = false) (gC : mg x = some (.ref d.C)) {f : Str} {p0 p1 p2 p3 p4 q1 q2 q3 q4 q5 : Pos} {ar : Arg}
    (hbody : d.body = [.Expr (.Call (.Attribute (.Call (.Name "super" p0) [] [] p1) "__init__" p2) [.Name f q1] [] p3) p4, .Assign [.Attribute (.Name "self" q2) f q3] (.Name f q4) q5])
    (S : NdefX.NScope ["self", f, "__class__"] ["self", f] ["__class__"] d.scope) (har : (d.params.posonlyargs ++ d.params.args).head? = some ar) (ha2 : ar.arg = "self") (hks : d.scope.names.lookup ("super" : Str) = some .globalImplicit)
    (hno : PySem.W.findIn K (.ref d.C) f = some none)
    (hbind : ∀ (cl : List (Str × Addr)) (kV doc pm : Value) (an : Option Addr) (cdv ct : Value) (us : List Value), us.length = 2 → bindArgs (PySem.W.fnX "__init__" d.qual d.params d.body d.scope cl .none kV doc pm an cdv ct) ⟨us, []⟩ = pure ((["self", f] : List Str).zip us))
    (hev : ∀ env : Env, eval (.Call (.Attribute (.Call (.Name "super" p0) [] [] p1) "__init__" p2) [.Name f q1] [] p3) env = (do
      let ov ← attributeBase (.Call (.Name "super" p0) [] [] p1) "__init__" env (eval (.Call (.Name "super" p0) [] [] p1) env)
      standAt p2.atName
      let (f', first) ← holding [ov] (getMethod ov "__init__" (do return (← importBound (.Call (.Name "super" p0) [] [] p1) env).getD true))
      callWith p3 f' first (backTo p3 (starEach [.Name f q1] env)) []))
    (hd1 : (f == ("__debug__" : Str)) = false := by decide) (hd2 : (f == ("__classdict__" : Str)) = false := by decide) : ErrC P w K mg base x d.C [f] := by
  obtain ⟨fI, cc, c, kV, doc, pm, an, ctv, oc, od, osl, i1, i2, i3, i4, i5, i6⟩ := T.fn
  refine ⟨gC, T.oex, Nat.le_of_ble_eq_true rfl, fI, PySem.W.fnX "__init__" d.qual d.params d.body d.scope [(("__class__" : Str), cc)] .none kV doc pm an (.ref c) ctv, ["self", f], i1, i2, .all (fun us hl => hbind _ _ _ _ _ _ _ us hl), rfl, ?_⟩
  refine DLX.sup_ok (P := P) (w := w) (K := K) (mg := mg) (base := base) (CX := L2.CX P w) (N := ["self", f, "__class__"]) (ps := ["self", f]) (F := ⟨"__init__", d.qual, d.params, d.body, d.scope, [(("__class__" : Str), cc)], c⟩) (C := d.C) (cc := cc) (k := 0) (e := .Name f q1) (es := []) (rest := [.Assign [.Attribute (.Name "self" q2) f q3] (.Name f q4) q5])
    (pl := fun env => do return (← importBound (.Call (.Name "super" p0) [] [] p1) env).getD true) (supC_of T i4 i5 i6 noS top) i3 rfl S hbody har (by rw [ha2]; rfl) hks (fun vs H Q E h => ?_) (fun env => rfl) (fun env => rfl) hev (fun env => rfl) fun A outer s H vs Q E h => ?_
  · obtain ⟨y, ws, rfl, h1, h2, _⟩ := h
    exact h2
  · obtain ⟨y, ws, rfl, h1, h2, h3, h4⟩ := h
    match ws, h1 with
    | [v], _ =>
    have kf : Vis d.scope f := Or.inl (S.par f (by simp))
    have ks : Vis d.scope ("self" : Str) := Or.inl (S.par "self" (by simp))
    refine ⟨tCons (tVar 1) tNil, tOst K f (tVar 0) (tVar 1), y, [v], rfl, h3, pa_cons (pv 1 rfl kf hd1 hd2) pa_nil, pss_one (ps_ost (pv 0 rfl ks) (pv 1 rfl kf hd1 hd2)), ?_, ?_⟩
    · exact ⟨v, rfl, rfl, Nat.le_of_ble_eq_true rfl⟩
    · exact ⟨v, rfl, .ref y, rfl, y, d.C, rfl, T.oex, hno, Or.inl ⟨h3, fun dx hdx hne => h4 dx hdx hne⟩⟩
theorem err2 (T : ErrT P.main.file K d) (noS : mg "super" = none) (top : (P.main.scope.names.lookup ("super" : Str)).isSome = false) (gC : mg x = some (.ref d.C)) {f g : Str} {p0 p1 p2 p3 p4 q1 q2 q3 q4 q5 r1 r2 r3 r4 r5 : Pos} {ar : Arg}
    (hbody : d.body = [.Expr (.Call (.Attribute (.Call (.Name "super" p0) [] [] p1) "__init__" p2) [.Name f q1, .Name g r1] [] p3) p4, .Assign [.Attribute (.Name "self" q2) f q3] (.Name f q4) q5, .Assign [.Attribute (.Name "self" r2) g r3] (.Name g r4) r5])
    (S : NdefX.NScope ["self", f, g, "__class__"] ["self", f, g] ["__class__"] d.scope) (har : (d.params.posonlyargs ++ d.params.args).head? = some ar) (ha2 : ar.arg = "self") (hks : d.scope.names.lookup ("super" : Str) = some .globalImplicit)
    (hno : PySem.W.findIn K (.ref d.C) f = some none) (hno2 : PySem.W.findIn K (.ref d.C) g = some none)
    (hbind : ∀ (cl : List (Str × Addr)) (kV doc pm : Value) (an : Option Addr) (cdv ct : Value) (us : List Value), us.length = 3 → bindArgs (PySem.W.fnX "__init__" d.qual d.params d.body d.scope cl .none kV doc pm an cdv ct) ⟨us, []⟩ = pure ((["self", f, g] : List Str).zip us))
    (hev : ∀ env : Env, eval (.Call (.Attribute (.Call (.Name "super" p0) [] [] p1) "__init__" p2) [.Name f q1, .Name g r1] [] p3) env = (do
      let ov ← attributeBase (.Call (.Name "super" p0) [] [] p1) "__init__" env (eval (.Call (.Name "super" p0) [] [] p1) env)
      standAt p2.atName
      let (f', first) ← holding [ov] (getMethod ov "__init__" (do return (← importBound (.Call (.Name "super" p0) [] [] p1) env).getD true))
      callWith p3 f' first (backTo p3 (starEach [.Name f q1, .Name g r1] env)) []))
    (hd1 : (f == ("__debug__" : Str)) = false := by decide) (hd2 : (f == ("__classdict__" : Str)) = false := by decide) (hd3 : (g == ("__debug__" : Str)) = false := by decide) (hd4 : (g == ("__classdict__" : Str)) = false := by decide) : ErrC P w K mg base x d.C [f, g] := by
  obtain ⟨fI, cc, c, kV, doc, pm, an, ctv, oc, od, osl, i1, i2, i3, i4, i5, i6⟩ := T.fn
  refine ⟨gC, T.oex, Nat.le_of_ble_eq_true rfl, fI, PySem.W.fnX "__init__" d.qual d.params d.body d.scope [(("__class__" : Str), cc)] .none kV doc pm an (.ref c) ctv, ["self", f, g], i1, i2, .all (fun us hl => hbind _ _ _ _ _ _ _ us hl), rfl, ?_⟩
  refine DLX.sup_ok (P := P) (w := w) (K := K) (mg := mg) (base := base) (CX := L2.CX P w) (N := ["self", f, g, "__class__"]) (ps := ["self", f, g]) (F := ⟨"__init__", d.qual, d.params, d.body, d.scope, [(("__class__" : Str), cc)], c⟩) (C := d.C) (cc := cc) (k := 0) (e := .Name f q1) (es := [.Name g r1]) (rest := [.Assign [.Attribute (.Name "self" q2) f q3] (.Name f q4) q5, .Assign [.Attribute (.Name "self" r2) g r3] (.Name g r4) r5])
    (pl := fun env => do return (← importBound (.Call (.Name "super" p0) [] [] p1) env).getD true) (supC_of T i4 i5 i6 noS top) i3 rfl S hbody har (by rw [ha2]; rfl) hks (fun vs H Q E h => ?_) (fun env => rfl) (fun env => rfl) hev (fun env => rfl) fun A outer s H vs Q E h => ?_
  · obtain ⟨y, ws, rfl, h1, h2, _⟩ := h
    exact h2
  · obtain ⟨y, ws, rfl, h1, h2, h3, h4⟩ := h
    match ws, h1 with
    | [v, u], _ =>
    have kf : Vis d.scope f := Or.inl (S.par f (by simp))
    have kg : Vis d.scope g := Or.inl (S.par g (by simp))
    have ks : Vis d.scope ("self" : Str) := Or.inl (S.par "self" (by simp))
    refine ⟨tCons (tVar 1) (tCons (tVar 2) tNil), tSeq (tOst K f (tVar 0) (tVar 1)) (tOst K g (tVar 0) (tVar 2)), y, [v, u], rfl, h3, pa_cons (pv 1 rfl kf hd1 hd2) (pa_cons (pv 2 rfl kg hd3 hd4) pa_nil), pss_cons (ps_ost (pv 0 rfl ks) (pv 1 rfl kf hd1 hd2)) (pss_one (ps_ost (pv 0 rfl ks) (pv 2 rfl kg hd3 hd4))), ?_, ?_⟩
    · exact ⟨v, rfl, u, rfl, rfl, Nat.le_of_ble_eq_true rfl⟩
    · refine ⟨v, rfl, .ref y, rfl, y, d.C, rfl, T.oex, hno, Or.inl ⟨h3, fun dx hdx hne => ?_⟩⟩
      refine ⟨u, rfl, .ref y, rfl, y, d.C, rfl, T.oex, hno2, Or.inr ⟨dx, [(f, v)], upd_same, (upd_ne hne).trans upd_same, Nat.le_of_ble_eq_true rfl, ?_⟩⟩
      have q := h4 dx hdx hne
      have e1 : upd (upd (upd H dx (exd dx [(f, v)])) y (exo y d.C (some dx))) dx (exd dx [(g, u), (f, v)]) = upd (upd H dx (exd dx [(g, u), (f, v)])) y (exo y d.C (some dx)) := by
        funext b
        by_cases hb : b = dx
        · rw [hb, upd_same, upd_ne hne, upd_same]
        · rw [upd_ne hb]
          by_cases hy : b = y
          · rw [hy, upd_same, upd_same]
          · rw [upd_ne hy, upd_ne hy, upd_ne hb, upd_ne hb]
      show Q .non (upd (upd (upd H dx (exd dx [(f, v)])) y (exo y d.C (some dx))) dx (exd dx [(g, u), (f, v)]))
      rw [e1]
      exact q
end
end DL

set_option maxHeartbeats 4000000
namespace DL
open PySem PySem.Spec L2 He
/-! ## 18. What callers take; the ends -/
structure Cal (P : Program) (w0 : World) (K : PySem.W.Frag) (mg : Str → Option Value) (base : Heap) (k : Nat) (f : Addr) (n : Nat) (m : DFn) (dd : List D) : Prop where
  ex : ∃ (fd : FuncData) (ps : List Str) (ds : List Value) (dvs : List V), FnOk P w0 K mg base (L2.CX P w0) k f fd ps (toSp K n m) ∧ Binds K fd ps ds ∧ Vals dvs ds ∧ Dfl K dvs dd ∧ PySem.W.keepIn K (.ref f) = true
theorem Dfl.one {K : PySem.W.Frag} {v : V} {d : D} (h : ∀ I α, Rp K I α v d) : Dfl K [v] [d] := ⟨fun I α => .one (h I α)⟩
section
variable {P : Program} {w0 : World} {K : PySem.W.Frag} {mg : Str → Option Value} {base : Heap}
/-- a def by its body's reading, found by the head -/
theorem fn_okD {x qual : Str} {st : Stmt} {dvs : List V} {f : Addr} {fd : FuncData} {N ps : List Str} {k : Nat} {t : DS} (F : FunD K x qual (defArgs st) (defBody st) (defScope st) dvs [] f fd) (S : FnScope N ps (defScope st))
    (hb : ∀ (cdv : Value) (A : Around) (outer : List Env) (s : Shared) (H : Hp) (E : XK), Room k (A.deeper (PyProof.Rows.envOfC qual (defScope st) s.heap.objs.size f cdv)) → PSs (cxOf (L2.CX P w0) P w0 K mg base N qual (defScope st) f cdv A outer s H E) (defBody st) (toS K (WF E) t)) :
    FnOk P w0 K mg base (L2.CX P w0) (k + 1) f fd ps (toSp K ps.length (fnD N.length t)) := by
  refine F.ok S (fun vs H Q E h => h.1) (fun cdv A outer s H vs Q E hr h => ⟨_, hb cdv A outer s H E hr, ?_⟩)
  obtain ⟨_, w, us, Qd, Ed, rfl, ok, r, h, q, e⟩ := h
  exact ⟨w, _, _, rfl, ok, lo_start r, h, ends_fn q e⟩
/-- nothing is promised: the bottom of a def that calls itself -/
def mBot : DFn := fun _ _ _ _ => False
theorem fn_bot {k n : Nat} {f : Addr} {fd : FuncData} {ps : List Str} : FnOk P w0 K mg base (L2.CX P w0) k f fd ps (toSp K n mBot) := by
  refine ⟨fun vs H Q E h => ?_, fun A outer s H args us vs Q E hr e0 hbi r h => ?_⟩
  · obtain ⟨_, w, us, Qd, Ed, _, _, _, h, _⟩ := h
    exact h.elim
  · obtain ⟨_, w, us, Qd, Ed, _, _, _, h, _⟩ := h
    exact h.elim
theorem Cal.bot {k n : Nat} {f : Addr} {x qual : Str} {st : Stmt} {dvs : List V} {fd : FuncData} {ps : List Str} (F : FunD K x qual (defArgs st) (defBody st) (defScope st) dvs [] f fd) (b : Binds K fd ps []) : Cal P w0 K mg base k f n mBot [] :=
  ⟨fd, ps, [], [], fn_bot, b, .nil, .nil, F.kp⟩
end
section
variable {X : Cx} {W : WX} {k n : Nat} {f C : Addr} {m : DFn} {x mt : Str} {p pos apos : Pos} {o e : Expr} {es : List Expr} {to : DE} {ta : DA} {dd : List D} {pl : Sem Bool}
theorem de_callC (c : Cal X.prog X.w X.K X.mg X.base k f n m dd) (hr : Room k X.A) (tk : Takes X W) (hg : Gl X x) (hm : X.mg x = some (.ref f)) (ha : PA X (e :: es) (toA X.K W ta))
    (hdb : (x == ("__debug__" : Str)) = false := by decide) (h1 : starEach (e :: es) X.env = (false, eval e X.env) :: starEach es X.env := by rfl) (h2 : (backTo pos (starEach es X.env)).any (·.1) = false := by rfl) : PE X (.Call (.Name x p) (e :: es) [] pos) (toE X.K W (dCall n m dd ta)) := by
  obtain ⟨fd, ps, ds, dvs, F, hb, hd, hdd, hk⟩ := c.ex
  exact de_call F hr tk hg hm hk hb hd hdd ha hdb h1 h2
theorem de_methC (c : Cal X.prog X.w X.K X.mg X.base k f n m dd) (ho : PE X o (toE X.K W to)) (cc : Cls X.K C) (hM : Meth X.K C mt f) (hr : Room k X.A) (tk : Takes X W) (ha : PA X (e :: es) (toA X.K W ta))
    (h1 : starEach (e :: es) X.env = (false, eval e X.env) :: starEach es X.env := by rfl) (h2 : (backTo pos (starEach es X.env)).any (·.1) = false := by rfl)
    (h3 : eval (.Call (.Attribute o mt apos) (e :: es) [] pos) X.env = (eval o X.env >>= fun ov => standAt apos.atName >>= fun _ => holding [ov] (getMethod ov mt pl) >>= fun p => callWith pos p.1 p.2 (backTo pos (starEach (e :: es) X.env)) (backToKw pos (keywordEach [] X.env))) := by rfl) :
    PE X (.Call (.Attribute o mt apos) (e :: es) [] pos) (toE X.K W (dMeth C mt n m dd to ta)) := by
  obtain ⟨fd, ps, ds, dvs, F, hb, hd, hdd, hk⟩ := c.ex
  exact de_meth ho cc hM F hr tk hb hd hdd ha h1 h2 h3
theorem de_methC0 (c : Cal X.prog X.w X.K X.mg X.base k f n m dd) (ho : PE X o (toE X.K W to)) (cc : Cls X.K C) (hM : Meth X.K C mt f) (hr : Room k X.A) (tk : Takes X W)
    (h3 : eval (.Call (.Attribute o mt apos) [] [] pos) X.env = (eval o X.env >>= fun ov => standAt apos.atName >>= fun _ => holding [ov] (getMethod ov mt pl) >>= fun p => callWith pos p.1 p.2 (backTo pos (starEach [] X.env)) (backToKw pos (keywordEach [] X.env))) := by rfl) :
    PE X (.Call (.Attribute o mt apos) [] [] pos) (toE X.K W (dMeth C mt n m dd to dNil)) := by
  obtain ⟨fd, ps, ds, dvs, F, hb, hd, hdd, hk⟩ := c.ex
  exact de_meth0 ho cc hM F hr tk hb hd hdd h3
theorem de_makeFC (c : Cal X.prog X.w X.K X.mg X.base k f n m dd) (M : Mk X.K C f) (hr : Room (k + 1) X.A) (tk : Takes X W) (hg : Gl X x) (hm : X.mg x = some (.ref C)) (ha : PA X (e :: es) (toA X.K W ta))
    (hdb : (x == ("__debug__" : Str)) = false := by decide) (h1 : starEach (e :: es) X.env = (false, eval e X.env) :: starEach es X.env := by rfl) (h2 : (backTo pos (starEach es X.env)).any (·.1) = false := by rfl) : PE X (.Call (.Name x p) (e :: es) [] pos) (toE X.K W (dMakeF C n m dd ta)) := by
  obtain ⟨fd, ps, ds, dvs, F, hb, hd, hdd, hk⟩ := c.ex
  exact de_makeF M F hr tk hg hm hb hd hdd ha hdb h1 h2
theorem de_makeMC (c : Cal X.prog X.w X.K X.mg X.base k f n m dd) (M : Mk X.K C f) (hr : Room (k + 1) X.A) (tk : Takes X W) (hg : Gl X x) (hm : X.mg x = some (.ref C)) (ha : PA X (e :: es) (toA X.K W ta))
    (hdb : (x == ("__debug__" : Str)) = false := by decide) (h1 : starEach (e :: es) X.env = (false, eval e X.env) :: starEach es X.env := by rfl) (h2 : (backTo pos (starEach es X.env)).any (·.1) = false := by rfl) : PE X (.Call (.Name x p) (e :: es) [] pos) (toE X.K W (dMakeM C n m dd ta)) := by
  obtain ⟨fd, ps, ds, dvs, F, hb, hd, hdd, hk⟩ := c.ex
  exact de_makeM M F hr tk hg hm hb hd hdd ha hdb h1 h2
end
/-! ### the law's end -/
theorem walk_ofEB {l : PySem.W.OpenLaw} {n k : Nat} {q : Program} {loose : List Str} {XP : (Str → Option Value) → Heap → Prop} {YP : World → Heap → Prop} {d : DefRec} {CX : World → CXT} {x : Str}
    (hn : l.most = some n) (hn2 : n ≤ sizeLine) (hdf : d.params.defaults = []) (hr : Room k callerA)
    (F : ∀ (w : World) (mg : Str → Option Value) (fa : Addr) (h : Heap), YP w h → h.Ns mainGlobals mg → mg d.name = some (.ref fa) →
      ∃ (K : PySem.W.Frag) (fd : FuncData) (sp : Sp), K.In h ∧ (∀ (s : Shared) (u : Value), BindsTo s fd ⟨[u], []⟩ [(x, u)]) ∧
        (∀ (H : Hp) (a : Addr) (ns : List Int), ns.length ≤ n → (∀ z ∈ ns, Builtin.Int.intBits z ≤ 1048576) → SqL K H a (ns.map V.int) → sp [.ref a] H (fun v _ => v = .bl true) fun _ _ _ => False) ∧
        ∀ base : Heap, K.In base → base.Ns mainGlobals mg → FnOk l.prog w K mg base (CX w) k fa fd [x] sp)
    (hCX : ∀ (w : World) (H : Hp) (s : Shared) (e : Value) (s' : Shared), CX w [] H s (fun _ _ _ => False) e s' → False) :
    PySem.W.WalkO q loose XP YP l.row.toRowW d [] (fun f vs => PySem.call f vs) := by
  refine Att.attach_callB hn hdf fun w s₀ s₁ mg mb fa o pm cd doc a vs ns G Y ho hd hcd hmg hobj hints hlen hbits hg => ?_
  obtain ⟨K, fd, sp, KX, hb, hsp, hF⟩ := F w mg fa _ Y G.T.g hmg
  exact law_call KX G.T.g G.T.b G.T.builtins G.T.nolimit hg hobj hints (Nat.le_trans hlen hn2) hr hF hb (fun H hO hS => hsp H a ns hlen hbits hS) fun H e s' => hCX w H s₁ e s'
theorem cx_none {P : Program} (w : World) (H : Hp) (s : Shared) (e : Value) (s' : Shared) (x : L2.CX P w [] H s (fun _ _ _ => False) e s') : False := by
  obtain ⟨_, _, _, _, _, _, _, _, _, _, _, _, _, z⟩ := x
/-- a law's meaning over data -/
theorem law_sp {K : PySem.W.Frag} {m : DFn} {H : Hp} {a : Addr} {ns : List Int} (h : m [.rol (ns.map .int)] (fun _ => none) (fun d _ => d = .bl true) fun _ _ => False) (hS : SqL K H a (ns.map V.int)) : toSp K 1 m [.ref a] H (fun v _ => v = .bl true) fun _ _ _ => False := by
  refine ⟨rfl, ⟨H, fun _ => none, fun _ => none, H⟩, [.rol (ns.map .int)], _, _, rfl, ⟨fun _ _ z => z, fun n c z => (nomatch z), fun n m p z => (absurd rfl z), ⟨0, fun _ _ => rfl⟩⟩, .one (.rol hS (rpl_ints ns)), h, fun d v w' z _ _ r => ?_, fun _ _ _ z => z.elim⟩
  subst z
  exact r.bl'
end DL

set_option maxHeartbeats 4000000
namespace DL
open PySem PySem.Spec L2
/-! ## 19. Short words for the printed readings -/
abbrev oSub : DOp := oI0 fun i j => i - j
abbrev oPow : DOp := oI CPow fun i j => i ^ j.toNat
abbrev oLt : DOp := oC0 fun i j => decide (i < j)
abbrev oLe : DOp := oC0 fun i j => decide (i ≤ j)
abbrev oGt : DOp := oC0 fun i j => decide (j < i)
abbrev oGe : DOp := oC0 fun i j => decide (j ≤ i)
theorem sem_sub {K : PySem.W.Frag} : SemOp K (rI0 fun i j => .int (i - j)) oSub := sem_I0
theorem sem_pow {K : PySem.W.Frag} : SemOp K (rI CPow fun i j => .int (i ^ j.toNat)) oPow := sem_I
theorem sem_lt {K : PySem.W.Frag} : SemOp K (rI0 fun i j => .bl (decide (i < j))) oLt := sem_C0
theorem sem_le {K : PySem.W.Frag} : SemOp K (rI0 fun i j => .bl (decide (i ≤ j))) oLe := sem_C0
theorem sem_gt {K : PySem.W.Frag} : SemOp K (rI0 fun i j => .bl (decide (j < i))) oGt := sem_C0
theorem sem_ge {K : PySem.W.Frag} : SemOp K (rI0 fun i j => .bl (decide (j ≤ i))) oGe := sem_C0
/-- //, %: a positive right side is asked for little, a negative one must be small -/
def oFd : DOp := fun _ x y k => match x, y with
  | .int i, .int j => if 0 < j then j.natAbs.log2 < 9000 ∧ k (.int (i / j)) else (j ≠ 0 ∧ j.natAbs < 1073741824) ∧ k (.int (i.fdiv j))
  | _, _ => False
def oMod : DOp := fun _ x y k => match x, y with
  | .int i, .int j => if 0 < j then k (.int (i % j)) else j ≠ 0 ∧ k (.int (i.fmod j))
  | _, _ => False
def rFdU : R2 := fun x y H Q => rI CDivW (fun i j => .int (i / j)) x y H Q ∨ rI CDivN (fun i j => .int (i.fdiv j)) x y H Q
def rModU : R2 := fun x y H Q => rI (fun _ j => 0 < j) (fun i j => .int (i % j)) x y H Q ∨ rI (fun _ j => j ≠ 0) (fun i j => .int (i.fmod j)) x y H Q
theorem op_fdU {X : Cx} : OpR X (binaryOp .FloorDiv) rFdU := op_fdivW.or op_fdivN
theorem op_modU {X : Cx} : OpR X (binaryOp .Mod) rModU := op_mod.or op_modN
theorem sem_fd {K : PySem.W.Frag} : SemOp K rFdU oFd := by
  intro w x y d e Qd Q ok rx ry h q
  unfold oFd at h
  split at h
  · rename_i i j
    cases rx; cases ry
    by_cases hj : 0 < j
    · rw [if_pos hj] at h
      exact .inl ⟨i, j, rfl, rfl, ⟨hj, h.1⟩, q _ _ w h.2 (.refl w) rfl ok (.int _)⟩
    · rw [if_neg hj] at h
      exact .inr ⟨i, j, rfl, rfl, h.1, q _ _ w h.2 (.refl w) rfl ok (.int _)⟩
  · exact h.elim
theorem sem_mod {K : PySem.W.Frag} : SemOp K rModU oMod := by
  intro w x y d e Qd Q ok rx ry h q
  unfold oMod at h
  split at h
  · rename_i i j
    cases rx; cases ry
    by_cases hj : 0 < j
    · rw [if_pos hj] at h
      exact .inl ⟨i, j, rfl, rfl, hj, q _ _ w h (.refl w) rfl ok (.int _)⟩
    · rw [if_neg hj] at h
      exact .inr ⟨i, j, rfl, rfl, h.1, q _ _ w h.2 (.refl w) rfl ok (.int _)⟩
  · exact h.elim
section
variable {X : Cx} {W : WX} {a b e : Expr} {es : List Expr} {ta tb : DE} {tas : DA} {p pos : Pos}
theorem de_neg (ha : PE X a (toE X.K W ta)) : PE X (.UnaryOp .USub a pos) (toE X.K W (dUn oNeg ta)) := pimp (pe_un un_neg ha) (toE_un sem_neg)
theorem de_ixU (ha : PE X a (toE X.K W ta)) (hb : PE X b (toE X.K W tb)) (hp : PlainIx b := by exact fun _ _ => rfl) : PE X (.Subscript a b pos) (toE X.K W (dBin oIx ta tb)) := de_ix ix_seq sem_ix ha hb hp
theorem de_len (hg : Gl X "len") (hm : X.mg "len" = none) (ha : PA X (e :: es) (toA X.K W tas)) (he : starEach (e :: es) X.env = (false, eval e X.env) :: starEach es X.env := by rfl) (hpl : (backTo pos (starEach es X.env)).any (·.1) = false := by rfl) :
    PE X (.Call (.Name "len" p) (e :: es) [] pos) (toE X.K W (dCl oLen tas)) := de_callB call_len sem_len hg hm PyProof.Rows.Boot.«len» ha (by decide) (by decide) he hpl
theorem de_abs (hg : Gl X "abs") (hm : X.mg "abs" = none) (ha : PA X (e :: es) (toA X.K W tas)) (he : starEach (e :: es) X.env = (false, eval e X.env) :: starEach es X.env := by rfl) (hpl : (backTo pos (starEach es X.env)).any (·.1) = false := by rfl) :
    PE X (.Call (.Name "abs" p) (e :: es) [] pos) (toE X.K W (dCl oAbs tas)) := de_callB call_abs sem_abs hg hm PyProof.Rows.Boot.«abs» ha (by decide) (by decide) he hpl
theorem de_intC (hg : Gl X "int") (hm : X.mg "int" = none) (ha : PA X (e :: es) (toA X.K W tas)) (he : starEach (e :: es) X.env = (false, eval e X.env) :: starEach es X.env := by rfl) (hpl : (backTo pos (starEach es X.env)).any (·.1) = false := by rfl) :
    PE X (.Call (.Name "int" p) (e :: es) [] pos) (toE X.K W (dCl oInt tas)) := de_callTy call_int1 sem_int hg hm PyProof.Rows.Boot.«int» ha (by decide) (by decide) he hpl
theorem de_tupleC (hg : Gl X "tuple") (hm : X.mg "tuple" = none) (ha : PA X (e :: es) (toA X.K W tas)) (he : starEach (e :: es) X.env = (false, eval e X.env) :: starEach es X.env := by rfl) (hpl : (backTo pos (starEach es X.env)).any (·.1) = false := by rfl) :
    PE X (.Call (.Name "tuple" p) (e :: es) [] pos) (toE X.K W (dCl oTuple tas)) := de_callTy call_tuple_of sem_tuple hg hm PyProof.Rows.Boot.«tuple» ha (by decide) (by decide) he hpl
theorem df_listC (hg : Gl X "list") (hm : X.mg "list" = none) (ha : PA X (e :: es) (toA X.K W tas)) (he : starEach (e :: es) X.env = (false, eval e X.env) :: starEach es X.env := by rfl) (hpl : (backTo pos (starEach es X.env)).any (·.1) = false := by rfl) :
    PE X (.Call (.Name "list" p) (e :: es) [] pos) (toF X.K W (dListOf tas)) := df_listOf hg hm PyProof.Rows.Boot.«list» ha he hpl
theorem pc_ty {x : Str} {n : String} (hg : Gl X x) (hm : X.mg x = none) (hv : bootBuiltins x = some (.type n)) (hn : x ≠ "__name__" := by decide) (hd : (x == ("__debug__" : Str)) = false := by decide) : PE X (.Name x pos) (tC (Tag.ty n).v) := pe_bltn hg hm hv rfl hn hd
theorem pc_own {x : Str} {C : Addr} (hg : Gl X x) (hm : X.mg x = some (.ref C)) (hd : (x == ("__debug__" : Str)) = false := by decide) : PE X (.Name x pos) (tC (Tag.own C).v) := pe_glob hg hm rfl hd
end
end DL

set_option maxHeartbeats 4000000
namespace DL
open PySem PySem.Spec L2
/-! ## 20. [e for a in xs for b in ys] -/
def dLc2L (kp : Sto → Prop) (g : DG) (c : DT) (src1 : DI) (g1 : DG) (c1 : DT) (elt : DE) (vs1 : List Nat) (δ : Lo) : List D → List D → Sto → (List D → Sto → Prop) → Prop
  | [], acc, S, Q => kp S ∧ Q acc S
  | d :: ds, acc, S, Q => kp S ∧ g d δ S fun δ1 S1 => c δ1 S1 (fun b S2 => cnd b (src1 δ1 S2 (fun ds1 kp1 S3 => dLcL kp1 g1 c1 elt (wipeD δ1 vs1) ds1 acc S3 fun acc' S4 => dLc2L kp g c src1 g1 c1 elt vs1 δ ds acc' S4 Q) (fun _ _ => False)) (dLc2L kp g c src1 g1 c1 elt vs1 δ ds acc S2 Q)) (fun _ _ => False)
def dLc2 (src : DI) (g : DG) (c : DT) (src1 : DI) (g1 : DG) (c1 : DT) (elt : DE) (vs vs1 : List Nat) : DA := fun δ S Q E => src δ S (fun ds kp S1 => dLc2L kp g c src1 g1 c1 elt vs1 (wipeD δ vs) ds [] S1 Q) E
theorem dLc2L_kp {kp : Sto → Prop} {g : DG} {c : DT} {src1 : DI} {g1 : DG} {c1 : DT} {elt : DE} {vs1 : List Nat} {δ : Lo} {ds acc : List D} {S : Sto} {Q : List D → Sto → Prop} (h : dLc2L kp g c src1 g1 c1 elt vs1 δ ds acc S Q) : kp S := by
  cases ds with
  | nil => exact h.1
  | cons d ds => exact h.1
/-- slots, the object beside changed -/
theorem LoR.upS {K : PySem.W.Frag} {w w' : Wd} {σ : L2.St} {δ : Lo} {H' : Hp} (h : LoR K w σ δ) (l : Le w w') : LoR K (w'.side H') σ δ := ⟨h.1, (h.up l).2⟩
theorem toF_lc2 {K : PySem.W.Frag} {W : WX} {src : DI} {g : TG} {f : DG} {c : DT} {src1 : DI} {g1 : TG} {f1 : DG} {c1 : DT} {elt : DE} {vs vs1 : List Nat} (sg : SemGW K vs g f) (sg1 : SemGW K vs1 g1 f1) (σ : L2.St) (H : Hp) (Q : VK) (h : toF K W (dLc2 src f c src1 f1 c1 elt vs vs1) σ H Q) :
    tLc2 (toI K W src) g (toT K W0 c) (toI K W0 src1) g1 (toT K W0 c1) (toE K W0 elt) vs vs1 σ H Q := by
  obtain ⟨w, δ, Qd, Ed, rfl, ok, lo, t, q, ec⟩ := h
  refine ⟨w, δ, _, Ed, rfl, ok, lo, t, fun ds kp w1 J t1 l1 ok1 wk A hA => ?_, ec⟩
  obtain ⟨f1', f2, f3, f4, f5⟩ := fresh_side (o := .lst []) l1 ok1 hA
  have b0 : Bs (w1.side (upd w1.H A (.lst []))) A := ⟨by show upd w1.H A (.lst []) A ≠ none; rw [upd_same]; simp, f4, f5, by intro ts; show upd w1.H A (.lst []) A ≠ _; rw [upd_same]; simp⟩
  refine ⟨fun i m H' => m = ds.length - i ∧ i ≤ ds.length ∧ ∃ (w' : Wd) (acc : List D) (vacc : List V), w'.H = H' ∧ Le w1 w' ∧ Ok K w' ∧ Bs w' A ∧ w'.H A = some (.lst vacc) ∧ RpL K w'.I w'.α vacc acc ∧ dLc2L kp f c src1 f1 c1 elt vs1 (wipeD δ vs) (ds.drop i) acc w'.S Qd,
    ⟨ds.length, by simp, Nat.zero_le _, w1.side (upd w1.H A (.lst [])), [], [], rfl, .side (HpLe.upd hA), f2, b0, upd_same, .nil, t1⟩, ?_⟩
  rintro i m H' ⟨rfl, hi, w', acc, vacc, rfl, l', ok', b', hA', r', h'⟩
  have low : LoR K w' (L2.wipe σ vs) (wipeD δ vs) := ((lo.up l1).up l').wipe vs
  by_cases hlt : i < ds.length
  · refine .inr ⟨wk.go w' i l'.lw ok' (dLc2L_kp h') hlt, fun H2 => ∃ (w' : Wd) (acc : List D) (vacc : List V), w'.H = H2 ∧ Le w1 w' ∧ Ok K w' ∧ Bs w' A ∧ w'.H A = some (.lst vacc) ∧ RpL K w'.I w'.α vacc acc ∧ dLc2L kp f c src1 f1 c1 elt vs1 (wipeD δ vs) (ds.drop (i + 1)) acc w'.S Qd,
      fun H2 z => ⟨ds.length - (i + 1), by omega, rfl, hlt, z⟩, fun x H2 hy => ?_⟩
    obtain ⟨w2, rfl, l2, ok2, e2, d, hd, rd⟩ := wk.yld w' i x H2 l'.lw ok' (dLc2L_kp h') hlt hy
    rw [List.drop_eq_getElem_cons hlt] at h'
    have hd' : ds[i] = d := by
      rw [List.getElem?_eq_getElem hlt] at hd
      exact Option.some.inj hd
    rw [hd'] at h'
    obtain ⟨_, h'⟩ := h'
    rw [← e2] at h'
    refine sg w2 x d _ _ _ _ ok2 rd (low.up l2) h' fun δ3 σ3 w3 a3 l3 ok3 lo3 ew => ⟨ew.trans (wipe_idem σ vs), ?_⟩
    refine ⟨w3, δ3, _, _, rfl, ok3, lo3, a3, fun b w4 a4 l4 ok4 => cnd_ite ?_, eC0⟩
    have l14 : Le w' w4 := (l2.trans l3).trans l4
    cases b with
    | true =>
      refine ⟨w4, δ3, _, _, rfl, ok4, lo3.up l4, a4, fun ds1 kp1 w5 J1 t5 l5 ok5 wk5 => ?_, eC0⟩
      have l15 : Le w' w5 := l14.trans l5
      have lo5 : LoR K w5 σ3 δ3 := (lo3.up l4).up l5
      refine ⟨fun j k H' => k = ds1.length - j ∧ j ≤ ds1.length ∧ ∃ (w'' : Wd) (acc : List D) (vacc : List V), w''.H = H' ∧ Le w1 w'' ∧ Lw w5 w'' ∧ LoR K w'' σ3 δ3 ∧ Ok K w'' ∧ Bs w'' A ∧ w''.H A = some (.lst vacc) ∧ RpL K w''.I w''.α vacc acc ∧
          dLcL kp1 f1 c1 elt (wipeD δ3 vs1) (ds1.drop j) acc w''.S (fun acc' S4 => dLc2L kp f c src1 f1 c1 elt vs1 (wipeD δ vs) (ds.drop (i + 1)) acc' S4 Qd),
        ⟨ds1.length, by simp, Nat.zero_le _, w5, acc, vacc, rfl, l'.trans l15, (Le.refl w5).lw, lo5, ok5, b'.up l15, (b'.same l15).trans hA', r'.up l15, t5⟩, ?_⟩
      rintro j k H' ⟨rfl, hj, w6, acc6, vacc6, rfl, l6, m6, lo6, ok6, b6, hA6, r6, h6⟩
      have low6 : LoR K w6 (L2.wipe σ3 vs1) (wipeD δ3 vs1) := lo6.wipe vs1
      by_cases hjt : j < ds1.length
      · refine .inr ⟨wk5.go w6 j m6 ok6 (dLcL_kp h6) hjt, fun H2 => ∃ (w'' : Wd) (acc : List D) (vacc : List V), w''.H = H2 ∧ Le w1 w'' ∧ Lw w5 w'' ∧ LoR K w'' σ3 δ3 ∧ Ok K w'' ∧ Bs w'' A ∧ w''.H A = some (.lst vacc) ∧ RpL K w''.I w''.α vacc acc ∧
            dLcL kp1 f1 c1 elt (wipeD δ3 vs1) (ds1.drop (j + 1)) acc w''.S (fun acc' S4 => dLc2L kp f c src1 f1 c1 elt vs1 (wipeD δ vs) (ds.drop (i + 1)) acc' S4 Qd),
          fun H2 z => ⟨ds1.length - (j + 1), by omega, rfl, hjt, z⟩, fun x1 H2 hy1 => ?_⟩
        obtain ⟨w7, rfl, l7, ok7, e7, d1, hd1, rd1⟩ := wk5.yld w6 j x1 H2 m6 ok6 (dLcL_kp h6) hjt hy1
        rw [List.drop_eq_getElem_cons hjt] at h6
        have hd1' : ds1[j] = d1 := by
          rw [List.getElem?_eq_getElem hjt] at hd1
          exact Option.some.inj hd1
        rw [hd1'] at h6
        obtain ⟨_, h6⟩ := h6
        rw [← e7] at h6
        refine sg1 w7 x1 d1 _ _ _ _ ok7 rd1 (low6.up l7) h6 fun δ8 σ8 w8 a8 l8 ok8 lo8 ew8 => ⟨ew8.trans (wipe_idem σ3 vs1), ?_⟩
        refine ⟨w8, δ8, _, _, rfl, ok8, lo8, a8, fun b1 w9 a9 l9 ok9 => cnd_ite ?_, eC0⟩
        have l69 : Le w6 w9 := (l7.trans l8).trans l9
        cases b1 with
        | true =>
          refine ⟨w9, δ8, _, _, rfl, ok9, lo8.up l9, a9, fun y v w10 a10 l10 ok10 r10 => ?_, eC0⟩
          obtain ⟨hz, a10⟩ := a10
          have l610 := l69.trans l10
          have b10 := b6.up l610
          -- the list stands in the heap at A: it changes there
          have l1e : Le w1 (w10.side (upd w10.H A (.lst (vacc6 ++ [v])))) := (l6.trans l610).put hA
          refine ⟨vacc6, (b6.same l610).trans hA6, by rw [r6.length]; exact hz, w10.side (upd w10.H A (.lst (vacc6 ++ [v]))), acc6 ++ [y], vacc6 ++ [v], rfl, l1e, ⟨fun a b z => l610.ii a b (m6.ii a b z), fun a b z => l610.aa a b (m6.aa a b z)⟩, lo6.upS l610, b10.ok ok10, b10.put, upd_same, (r6.up l610).append (.one r10), a10⟩
        | false => exact ⟨w9, acc6, vacc6, rfl, l6.trans l69, ⟨fun a b z => l69.ii a b (m6.ii a b z), fun a b z => l69.aa a b (m6.aa a b z)⟩, lo6.up l69, ok9, b6.up l69, (b6.same l69).trans hA6, r6.up l69, a9⟩
      · have e : j = ds1.length := by omega
        subst e
        rw [List.drop_length] at h6
        refine .inl ⟨wk5.stop w6 m6 ok6 h6.1, w6, acc6, vacc6, rfl, l6, ok6, b6, hA6, r6, h6.2⟩
    | false => exact ⟨w4, acc, vacc, rfl, l'.trans l14, ok4, b'.up l14, (b'.same l14).trans hA', r'.up l14, a4⟩
  · have e : i = ds.length := by omega
    subst e
    rw [List.drop_length] at h'
    refine .inl ⟨wk.stop w' l'.lw ok' h'.1, q acc vacc A w' h'.2 (l1.trans l') ok' r' hA' f3 b'.i b'.a⟩
section
variable {X : Cx} {W : WX} {tg iter elt tg1 iter1 : Expr} {ifs ifs1 : List Expr} {scope : Scope} {own : List (Str × Nat)} {pos : Pos} {src src1 : DI} {g g1 : TG} {f f1 : DG} {c c1 : DT} {te : DE} {vs1 : List Nat}
theorem df_lc2 (hc : X.calm = true) (hN : X.N.Nodup) (hi : PI X tg iter (toI X.K W src)) (ok : BlkOk X.N X.env.scope scope own) (hv : ∀ i ∈ vs1, i ∈ own.map (·.2)) (sg : SemGW X.K (own.map (·.2)) g f) (sg1 : SemGW X.K vs1 g1 f1)
    (hg : ∀ (s : Shared) (H : Hp) (C : Addr) (cl : List (Str × Addr)) (fp : List Addr), PG (X.blk s H scope (compEnvC scope cl C X.env) fp) tg g) (ht : ∀ (s : Shared) (H : Hp) (C : Addr) (cl : List (Str × Addr)) (fp : List Addr), PTs (X.blk s H scope (compEnvC scope cl C X.env) fp) ifs (toT X.K W0 c))
    (hi1 : ∀ (s : Shared) (H : Hp) (C : Addr) (cl : List (Str × Addr)) (fp : List Addr), PI (X.blk s H scope (compEnvC scope cl C X.env) fp) tg1 iter1 (toI X.K W0 src1))
    (hg1 : ∀ (s : Shared) (H : Hp) (C : Addr) (cl : List (Str × Addr)) (fp : List Addr), PG (X.blk s H scope (compEnvC scope cl C X.env) fp) tg1 g1) (ht1 : ∀ (s : Shared) (H : Hp) (C : Addr) (cl : List (Str × Addr)) (fp : List Addr), PTs (X.blk s H scope (compEnvC scope cl C X.env) fp) ifs1 (toT X.K W0 c1))
    (he : ∀ (s : Shared) (H : Hp) (C : Addr) (cl : List (Str × Addr)) (fp : List Addr), PE (X.blk s H scope (compEnvC scope cl C X.env) fp) elt (toE X.K W0 te)) (hs : ∀ x, foldedSetIterable iter X.env x = pure x := by intro _; rfl) (hs1 : ∀ env x, foldedSetIterable iter1 env x = pure x := by intro _ _; rfl) :
    PE X (.ListComp elt [⟨tg, iter, ifs, 0⟩, ⟨tg1, iter1, ifs1, 0⟩] scope pos) (toF X.K W (dLc2 src f c src1 f1 c1 te (own.map (·.2)) vs1)) := pimp (pe_lc2 hc hN hi ok hv hg ht hi1 hg1 ht1 he hs hs1) (toF_lc2 sg sg1)
theorem ds_setLc2 {st : Stmt} {i : Nat} {vs : List Nat} {t : DE} (hs : PS X st (tAsg (tLc2 (toI X.K W src) g (toT X.K W0 c) (toI X.K W0 src1) g1 (toT X.K W0 c1) (toE X.K W0 te) vs vs1) (gName i))) (sg : SemGW X.K vs g f) (sg1 : SemGW X.K vs1 g1 f1)
    (hf : ∀ σ H Q, toE X.K W t σ H Q → toF X.K W (dLc2 src f c src1 f1 c1 te vs vs1) σ H Q) : PS X st (toS X.K W (dSet i t)) :=
  simp' hs fun D σ H h => asg_mono (fun σ H Q q => toF_lc2 sg sg1 σ H Q (hf σ H Q q)) D σ H (asg_set D σ H h)
end
end DL

set_option maxHeartbeats 4000000
namespace DL
open PySem PySem.Spec L2 He
/-! ## 21. Calls with keywords -/
/-- where a parameter's value comes from -/
inductive Sl where
  | p (i : Nat)
  | k (i : Nat)
  | d (i : Nat)
def Sl.at_ {α : Type} (us zs ds : List α) : Sl → Option α
  | .p i => us[i]?
  | .k i => zs[i]?
  | .d i => ds[i]?
def mixK {α : Type} (sl : List Sl) (us zs ds : List α) : List α := sl.filterMap (Sl.at_ us zs ds)
theorem opt_get {R : V → Value → Prop} {us : List V} {vs : List Value} (r : Paired R us vs) : ∀ i : Nat, (us[i]? = none ∧ vs[i]? = none) ∨ ∃ u v, us[i]? = some u ∧ vs[i]? = some v ∧ R u v := by
  induction r with
  | nil => intro i; exact .inl ⟨by simp, by simp⟩
  | cons h t ih =>
    intro i
    cases i with
    | zero => exact .inr ⟨_, _, rfl, rfl, h⟩
    | succ i => simpa using ih i
theorem mix_vals {us zs ds : List V} {us' zs' ds' : List Value} (r1 : Vals us us') (r2 : Vals zs zs') (r3 : Vals ds ds') : ∀ sl : List Sl, Vals (mixK sl us zs ds) (mixK sl us' zs' ds')
  | [] => .nil
  | s :: sl => by
    have ih := mix_vals r1 r2 r3 sl
    have q : (Sl.at_ us zs ds s = none ∧ Sl.at_ us' zs' ds' s = none) ∨ ∃ u v, Sl.at_ us zs ds s = some u ∧ Sl.at_ us' zs' ds' s = some v ∧ RelV u v := by
      cases s with
      | p i => exact opt_get r1 i
      | k i => exact opt_get r2 i
      | d i => exact opt_get r3 i
    unfold mixK at ih ⊢
    rcases q with ⟨a, b⟩ | ⟨u, v, a, b, c⟩
    · rw [List.filterMap_cons, List.filterMap_cons, a, b]
      exact ih
    · rw [List.filterMap_cons, List.filterMap_cons, a, b]
      exact .cons c ih
theorem RpL.getO {K : PySem.W.Frag} {I : Hp} {α : Am} {vs : List V} {ds : List D} (r : RpL K I α vs ds) (i : Nat) : (vs[i]? = none ∧ ds[i]? = none) ∨ ∃ v d, vs[i]? = some v ∧ ds[i]? = some d ∧ Rp K I α v d := by
  cases e : ds[i]? with
  | some d =>
    obtain ⟨v, a, b⟩ := r.get e
    exact .inr ⟨v, d, a, rfl, b⟩
  | none =>
    refine .inl ⟨?_, rfl⟩
    rw [List.getElem?_eq_none_iff] at e ⊢
    rw [r.length]
    exact e
theorem mix_rp {K : PySem.W.Frag} {I : Hp} {α : Am} {us zs ds : List V} {us' zs' ds' : List D} (r1 : RpL K I α us us') (r2 : RpL K I α zs zs') (r3 : RpL K I α ds ds') : ∀ sl : List Sl, RpL K I α (mixK sl us zs ds) (mixK sl us' zs' ds')
  | [] => .nil
  | s :: sl => by
    have ih := mix_rp r1 r2 r3 sl
    have q : (Sl.at_ us zs ds s = none ∧ Sl.at_ us' zs' ds' s = none) ∨ ∃ u v, Sl.at_ us zs ds s = some u ∧ Sl.at_ us' zs' ds' s = some v ∧ Rp K I α u v := by
      cases s with
      | p i => exact r1.getO i
      | k i => exact r2.getO i
      | d i => exact r3.getO i
    unfold mixK at ih ⊢
    rcases q with ⟨a, b⟩ | ⟨u, v, a, b, c⟩
    · rw [List.filterMap_cons, List.filterMap_cons, a, b]
      exact ih
    · rw [List.filterMap_cons, List.filterMap_cons, a, b]
      exact .cons c ih
/-- a def that is called with np values and the keywords ks -/
structure CalK (P : Program) (w0 : World) (K : PySem.W.Frag) (mg : Str → Option Value) (base : Heap) (k : Nat) (f : Addr) (n : Nat) (m : DFn) (np : Nat) (ks : List Str) (sl : List Sl) (dd : List D) : Prop where
  ex : ∃ (fd : FuncData) (ps : List Str) (its : List Value) (dvs : List V), FnOk P w0 K mg base (L2.CX P w0) k f fd ps (toSp K n m) ∧ KBn K fd ps np ks (fun us ws => mixK sl us ws its) (fun vs zs => mixK sl vs zs dvs) ∧ Dfl K dvs dd ∧ PySem.W.keepIn K (.ref f) = true
section
variable {K : PySem.W.Frag} {x qual : Str} {params : Arguments} {body : List Stmt} {scope : Scope} {dvs : List V} {f : Addr} {fd : FuncData} {ps : List Str}
theorem kb_dfl (F : FunD K x qual params body scope dvs [] f fd) (n : Nat) (ks : List Str) (sl : List Sl) (hd : dvs ≠ [])
    (h : ∀ (T : Addr) (kV doc pm : Value) (an : Option Addr) (cdv ct : Value) (us its ws : List Value), us.length = n → its.length = dvs.length → ws.length = ks.length →
      ∃ k, bindArgs (PySem.W.fnOf x qual params body scope (.ref T) kV doc pm an cdv ct) ⟨us, ks.zip ws⟩ = seqItems? (.ref T) >>= k ∧ k (some its.toArray) = pure (ps.zip (mixK sl us ws its))) :
    ∃ its : List Value, KBn K fd ps n ks (fun us ws => mixK sl us ws its) (fun vs zs => mixK sl vs zs dvs) :=
  F.kbindsD n ks (fun us its ws => mixK sl us ws its) hd (fun r1 r2 r3 => mix_vals r1 r3 r2 sl) h
theorem kb_non (F : FunD K x qual params body scope [] [] f fd) (n : Nat) (ks : List Str) (sl : List Sl)
    (h : ∀ (kV doc pm : Value) (an : Option Addr) (cdv ct : Value) (us ws : List Value), us.length = n → ws.length = ks.length → bindArgs (PySem.W.fnOf x qual params body scope .none kV doc pm an cdv ct) ⟨us, ks.zip ws⟩ = pure (ps.zip (mixK sl us ws []))) :
    KBn K fd ps n ks (fun us ws => mixK sl us ws []) (fun vs zs => mixK sl vs zs []) := by
  obtain ⟨oc, od, dV, kV, doc, pm, an, cdv, ct, osl, rfl, lk, hcd, hD, hK⟩ := F.ex
  rcases hD with ⟨_, rfl⟩ | ⟨e, _⟩
  · exact ⟨fun s us ws X l1 l2 => .of_eq (h kV doc pm an cdv ct us ws l1 l2), fun r1 r2 => mix_vals r1 r2 .nil sl⟩
  · exact absurd rfl e
end
/-! ### the keywords' values -/
section
variable {X : Cx} {W : WX} {e : Expr} {es : List Expr} {kws : List Keyword} {nm : Option Str} {kpos : Pos} {te : DE} {ta tk : DA}
theorem dk_nil : PK X [] (toA X.K W dNil) := ⟨fun pos pins s σ H Q I h => pk_nil.run pos pins s σ H Q I (by
  obtain ⟨w, δ, Qd, Ed, rfl, ok, lo, t, q, _⟩ := h
  exact q [] [] w t (.refl w) ok .nil)⟩
theorem dk_cons (ha : PE X e (toE X.K W te)) (hr : PK X kws (toA X.K W ta)) : PK X (⟨nm, e, kpos⟩ :: kws) (toA X.K W (dCons te ta)) := ⟨fun pos pins s σ H Q I h => (pk_cons ha hr).run pos pins s σ H Q I (by
  obtain ⟨w, δ, Qd, Ed, rfl, ok, lo, t, q, ec⟩ := h
  refine ⟨w, δ, _, Ed, rfl, ok, lo, t, fun x v w1 t1 l1 ok1 r1 => ?_, ec⟩
  refine ⟨w1, δ, _, Ed, rfl, ok1, lo.up l1, t1, fun y u w2 t2 l2 ok2 r2 => ?_, ec.up l1⟩
  exact q (x :: y) (v :: u) w2 t2 (l1.trans l2) ok2 (.cons (r1.up l2) r2))⟩
end
section
variable {X : Cx} {W : WX} {k n np : Nat} {f C : Addr} {fd : FuncData} {ps ks : List Str} {sl : List Sl} {m : DFn} {x mt : Str} {p pos apos : Pos} {o e : Expr} {es : List Expr} {kws : List Keyword} {to : DE} {ta tk : DA} {its : List Value} {dvs : List V} {dd : List D} {pl : Sem Bool}
theorem run_kw {pins : List (Addr × Obj)} {σ : L2.St} {H : Hp} {s : Shared} {Q : VK} {us ws : List Value} {vs zs : List V} (F : FnOk X.prog X.w X.K X.mg X.base (L2.CX X.prog X.w) k f fd ps (toSp X.K n m)) (hr : Room k X.A) (tk' : Takes X W)
    (hb : KBn X.K fd ps np ks (fun us ws => mixK sl us ws its) (fun vs zs => mixK sl vs zs dvs)) (I : Inv X pins σ H s) (r : Vals vs us) (rz : Vals zs ws) (l1 : vs.length = np) (l2 : zs.length = ks.length) (h : toSp X.K n m (mixK sl vs zs dvs) H Q (WE W σ)) :
    wpAny (model X.prog X.w) X.A (call (.ref f) us (ks.zip ws)) (EP X pins σ Q) X.xe s := by
  have r2 := hb.rel r rz
  refine wpAny_call (codeAny_mono (F.run X.A X.stack s H ⟨us, ks.zip ws⟩ (mixK sl us ws its) (mixK sl vs zs dvs) Q (WE W σ) hr I.env0 (hb.to s us ws I.kIn (r.length.symm.trans l1) (rz.length.symm.trans l2)) r2 h) fun r s' hq => ?_)
  cases r with
  | error e => exact passAt tk' σ pins H s e s' I hq
  | ok fl =>
    cases fl with
    | ret u => exact I.after hq
    | next => exact False.elim hq
    | brk => exact False.elim hq
    | cont => exact False.elim hq
/-- o.m(k = e, ..) -/
def dMethK (C : Addr) (mt : Str) (n : Nat) (m : DFn) (nk : Nat) (sl : List Sl) (dd : List D) (to : DE) (tk : DA) : DE := fun δ S Q E => to δ S (fun d S1 => opt (asI S1 d) fun q => q.1 = C ∧ q.2.lookup mt = none ∧ tk δ S1 (fun zs S2 => zs.length = nk ∧ (mixK sl [d] zs dd).length = n ∧ m (mixK sl [d] zs dd) S2 Q E) E) E
theorem de_methK0 (c : CalK X.prog X.w X.K X.mg X.base k f n m 1 ks sl dd) (ho : PE X o (toE X.K W to)) (cc : Cls X.K C) (hM : Meth X.K C mt f) (hr : Room k X.A) (tk' : Takes X W) (hkw : PK X kws (toA X.K W tk))
    (hall : (backToKw pos (keywordEach kws X.env)).all (·.1.isSome) = true := by rfl) (hks : (backToKw pos (keywordEach kws X.env)).filterMap (·.1) = ks := by rfl) (hpl : (backToKw pos (keywordEach kws X.env)).any (·.1.isNone) = false := by rfl)
    (h3 : eval (.Call (.Attribute o mt apos) [] kws pos) X.env = (eval o X.env >>= fun ov => standAt apos.atName >>= fun _ => holding [ov] (getMethod ov mt pl) >>= fun p => callWith pos p.1 p.2 (backTo pos (starEach [] X.env)) (backToKw pos (keywordEach kws X.env))) := by rfl) :
    PE X (.Call (.Attribute o mt apos) [] kws pos) (toE X.K W (dMethK C mt n m ks.length sl dd to tk)) := by
  obtain ⟨fd, ps, its, dvs, F, hb, hdd, hk⟩ := c.ex
  constructor
  intro pins s σ H Q I h
  obtain ⟨w, δ, Qd, Ed, rfl, ok, lo, t, q, ec⟩ := h
  refine PySem.W.methodCall_KW (pl := pl) (thn (ho.run pins s σ _ (fun x H1 => ∃ (w1 : Wd) (d : D), w1.H = H1 ∧ Le w w1 ∧ Ok X.K w1 ∧ Rp X.K w1.I w1.α x d ∧ opt (asI w1.S d) fun q => q.1 = C ∧ q.2.lookup mt = none ∧ tk δ w1.S (fun zs S2 => zs.length = ks.length ∧ (mixK sl [d] zs dd).length = n ∧ m (mixK sl [d] zs dd) S2 Qd Ed) Ed) I
    ⟨w, δ, _, Ed, rfl, ok, lo, t, fun d v w1 t1 l1 ok1 r1 => ⟨w1, d, rfl, l1, ok1, r1, t1⟩, ec⟩) fun u s1 hq => ?_) h3
  obtain ⟨x, H1, I1, rx, w1, d, rfl, l1, ok1, r1, t1⟩ := hq
  obtain ⟨⟨C', fs⟩, hd', hC, hl, g1⟩ := opt_of t1
  obtain ⟨a, dx, vs, rfl, ha1, rf⟩ := asI_sem ok1 r1 hd'
  have hC : C' = C := hC
  subst hC
  cases rx
  refine getmeth_ok I1 ha1 cc hM (rf.lookupN hl) ?_
  refine PySem.W.callWith_KW0 (first := [.ref a]) (h₀ := X.base) I1.ok.mod.kin hM.kp hall (hplain := by show (false || _) = false; rw [hpl]; rfl) (thn (hkw.run pos pins s1 σ _ (fun ws H2 => ∃ (w2 : Wd) (zs : List D), w2.H = H2 ∧ Le w1 w2 ∧ Ok X.K w2 ∧ RpL X.K w2.I w2.α ws zs ∧ zs.length = ks.length ∧ (mixK sl [d] zs dd).length = n ∧ m (mixK sl [d] zs dd) w2.S Qd Ed) I1
    ⟨w1, δ, _, Ed, rfl, ok1, lo.up l1, g1, fun us vs w2 t2 l2 ok2 r2 => ⟨w2, us, rfl, l2, ok2, r2, t2⟩, ec.up l1⟩) fun us s2 hq2 => ?_)
  obtain ⟨ws, H2, I2, rw2, w2, zs, rfl, l2, ok2, r2, hn1, hn, hm2⟩ := hq2
  refine ⟨I2.kIn, ?_⟩
  rw [hks]
  exact run_kw (us := [.ref a]) (vs := [.ref a]) F hr tk' hb I2 (.cons rfl .nil) rw2 rfl (by rw [r2.length]; exact hn1) (sp_of (us := mixK sl [d] zs dd) ok2 (l1.trans l2) (mix_rp (.one (r1.up l2)) r2 (hdd.r _ _) sl) hn hm2 q ec)
end
end DL

set_option maxHeartbeats 4000000
namespace DL
open PySem PySem.Spec L2 He
/-! ## 28. self.f op= e -/
def dAugF (Cs : List Addr) (f : Str) (g : DOp) (to te : DE) : DS := fun B δ S => to δ S (fun x S1 => match x with
  | .m n => ∃ C fs v, S1 n = some (.ins C fs) ∧ C ∈ Cs ∧ fs.lookup f = some v ∧ te δ S1 (fun y S2 => g S2 v y fun z => ∃ fs', S2 n = some (.ins C fs') ∧ fs'.length < 1000 ∧ B.nx δ (put S2 n (.ins C (putD f z fs')))) (fun er S4 => B.ex er δ S4)
  | _ => False) (fun er S4 => B.ex er δ S4)
section
variable {X : Cx} {W : WX} {o e : Expr} {to te : DE} {pos tpos : Pos}
theorem ds_augF {Cs : List Addr} {f : Str} {op : Operator} {r : R2} {g : DOp} (hc : ∀ C ∈ Cs, Cls X.K C ∧ NoAttr X.K C f) (ho : PE X o (toE X.K W to)) (he : PE X e (toE X.K W te)) (hop : InOp X op r) (sm : SemOp X.K r g) : PS X (.AugAssign (.Attribute o f tpos) op e pos) (toS X.K W (dAugF Cs f g to te)) :=
  simp' (ps_fldaug ho he hop) fun D σ H ⟨w, δ, B, hH, ok, lo, t, r⟩ => by
  subst hH
  refine ⟨w, δ, _, _, rfl, ok, lo, t, fun x u w1 t1 l1 ok1 r1 => ?_, r.eC lo⟩
  cases x with
  | m n =>
    obtain ⟨p, rfl, hp⟩ := r1.m'
    obtain ⟨C, fs, v, hs, hC, hv, h⟩ := t1
    obtain ⟨q, oo, h1, h2, _, dx, vs, rfl, rv⟩ := ok1.cel n _ hs
    rw [hp] at h1
    cases h1
    obtain ⟨v', hv', rv'⟩ := rv.lookup hv
    refine ⟨p, C, dx, vs, v', rfl, h2, (hc C hC).1, (hc C hC).2, hv', w1, δ, _, _, rfl, ok1, lo.up l1, h, fun y u w2 t2 l2 ok2 r2 => ?_, (r.up l1).eC (lo.up l1)⟩
    refine sm w2 v' u v y _ _ ok2 (rv'.up l2) r2 t2 fun z v3 w3 h3 l3 e3 ok3 r3 => ?_
    obtain ⟨fs', hs', hz, h4⟩ := h3
    rw [← e3] at hs'
    have hp3 := l3.aa _ _ (l2.aa _ _ hp)
    obtain ⟨q', oo', g1, g2, _, dx', vs', rfl, rw'⟩ := ok3.cel n _ hs'
    rw [hp3] at g1
    cases g1
    have rn := rw'.put (f := f) r3
    have l4 : Le w3 (w3.set n p (.ins C (putD f z fs')) (.ins C dx' (putF f v3 vs'))) := .set hs' hp3
    have ok4 : Ok X.K (w3.set n p (.ins C (putD f z fs')) (.ins C dx' (putF f v3 vs'))) := ok3.set hs' hp3 ⟨dx', _, rfl, rn⟩
    have l := ((l1.trans l2).trans l3).trans l4
    exact ⟨dx', vs', g2, by rw [rw'.length]; exact hz, r.nx _ _ _ (by show B.nx δ (put w3.S n _); rw [e3]; exact h4) l ok4 (lo.up l)⟩
  | _ => exact t1.elim
end
/-! ## 29. o.reverse(), o.clear() -/
def dRev (g : List D → List D) (to : DE) : DE := fun δ S Q E => to δ S (fun x S1 => match x with
  | .m n => ∃ ds, S1 n = some (.lst ds) ∧ Q .non (put S1 n (.lst (g ds)))
  | _ => False) E
section
variable {X : Cx} {W : WX} {o e : Expr} {to te : DE} {pos apos : Pos}
theorem toE_rev {σ : L2.St} {H : Hp} {Q : VK} {g : List D → List D} {gv : List V → List V} (hg : ∀ {K : PySem.W.Frag} {I : Hp} {α : Am} {vs : List V} {ds : List D}, RpL K I α vs ds → RpL K I α (gv vs) (g ds)) {K : PySem.W.Frag} (h : toE K W (dRev g to) σ H Q) :
    toE K W to σ H fun x H1 => ∃ l xs, x = .ref l ∧ H1 l = some (.lst xs) ∧ Q .non (upd H1 l (.lst (gv xs))) := by
  obtain ⟨w, δ, Qd, Ed, rfl, ok, lo, t, q, ec⟩ := h
  refine ⟨w, δ, _, Ed, rfl, ok, lo, t, fun x v w1 t1 l1 ok1 r1 => ?_, ec⟩
  cases x with
  | m n =>
    obtain ⟨p, rfl, hp⟩ := r1.m'
    obtain ⟨ds, hs, h⟩ := t1
    obtain ⟨q', oo, h1, h2, _, vs, rfl, rv⟩ := ok1.cel n _ hs
    rw [hp] at h1
    cases h1
    obtain ⟨l3, ok3⟩ := setL ok1 hs hp (hg rv)
    exact ⟨p, vs, rfl, h2, q .non .non _ h (l1.trans l3) ok3 .non⟩
  | _ => exact t1.elim
theorem de_rev (ho : PE X o (toE X.K W to)) (hs : PE X o (toE X.K W to) → PE X (.Call (.Attribute o "reverse" apos) [] [] pos) (tBM0 X.K "list" rReverse (toE X.K W to)) := by intro ho; exact pe_bm0 PySem.F.plainAttrs_list PySem.F.slot_list_reverse PySem.F.type_list_reverse mt_reverse ho) :
    PE X (.Call (.Attribute o "reverse" apos) [] [] pos) (toE X.K W (dRev List.reverse to)) := pimp (hs ho) fun σ H Q h => by
  obtain ⟨w, δ, Qd, Ed, rfl, ok, lo, t, q, ec⟩ := toE_rev (gv := List.reverse) (fun r => r.reverse) h
  refine ⟨w, δ, Qd, Ed, rfl, ok, lo, t, fun d v w1 a b c e => ?_, ec⟩
  obtain ⟨l, xs, rfl, h1, h2⟩ := q d v w1 a b c e
  exact ⟨.inl ⟨rfl, xs, SqL.of h1⟩, l, xs, rfl, rfl, h1, h2⟩
end
/-! ## 30. C(k = e, ..) -/
section
variable {X : Cx} {W : WX} {k n np : Nat} {f C : Addr} {fd : FuncData} {ps ks : List Str} {sl : List Sl} {m : DFn} {x : Str} {p pos : Pos} {kws : List Keyword} {tk : DA} {its : List Value} {dvs : List V} {dd : List D}
theorem make_kw {pins : List (Addr × Obj)} {σ : L2.St} {H : Hp} {s : Shared} {Q : VK} {ws : List Value} {zs : List V} (M : Mk X.K C f) (F : FnOk X.prog X.w X.K X.mg X.base (L2.CX X.prog X.w) k f fd ps (toSp X.K n m)) (hr : Room (k + 1) X.A) (tk' : Takes X W)
    (hb : KBn X.K fd ps 1 ks (fun us ws => mixK sl us ws its) (fun vs zs => mixK sl vs zs dvs)) (I : Inv X pins σ H s) (rz : Vals zs ws) (l2 : zs.length = ks.length)
    (h : ∀ y dy, H y = none → H dy = none → dy ≠ y → toSp X.K n m (mixK sl [.ref y] zs dvs) (upd (upd H dy (.own y)) y (.ins C dy [])) (fun v H2 => v = .non ∧ Q (.ref y) H2) (WE W σ)) :
    wpAny (model X.prog X.w) X.A (call (.ref C) [] (ks.zip ws)) (EP X pins σ Q) X.xe s := by
  let dy := s.heap.objs.size
  have J := Inv.made (C := C) I
  have hsp := h (dy + 1) dy (I.hok.fresh (Nat.le_succ _)) (I.hok.fresh (Nat.le_refl _)) (Nat.ne_of_lt (Nat.lt_succ_self _))
  have r1 : Vals [V.ref (dy + 1)] [Value.ref (dy + 1)] := .cons rfl .nil
  have r2 := hb.rel r1 rz
  have run := F.run _ X.stack _ _ ⟨[Value.ref (dy + 1)], ks.zip ws⟩ (mixK sl [Value.ref (dy + 1)] ws its) _ _ (WE W σ) (hr.make C [] (ks.zip ws)) (J.env0.make C [] (ks.zip ws)) (hb.to _ [Value.ref (dy + 1)] ws J.kIn rfl (rz.length.symm.trans l2)) r2 hsp
  refine wpAny_call (make_map (f := f) I.kIn M.makes M.init (beq_iff_eq.mp M.fn) (codeAny_mono run fun res s' hq => ?_))
  cases res with
  | error er => exact passAt tk' σ pins _ _ er s' J hq
  | ok fl =>
    cases fl with
    | ret u =>
      obtain ⟨v, H3, J3, rv, ev, q⟩ := J.after hq
      rw [ev] at rv
      exact ⟨rv, V.ref (dy + 1), H3, J3, rfl, q⟩
    | _ => exact hq.elim
/-- an instance made by keywords alone: one that may change; one that never changes -/
def dMakeMK (C : Addr) (n : Nat) (m : DFn) (nk : Nat) (sl : List Sl) (dd : List D) (tk : DA) : DE := fun δ S Q E => tk δ S (fun zs S1 => zs.length = nk ∧ ∀ k, Fr S1 k → (mixK sl [.m k] zs dd).length = n ∧ m (mixK sl [.m k] zs dd) (put S1 k (.ins C [])) (fun d S2 => d = .non ∧ (∃ fs, S2 k = some (.ins C fs)) ∧ Q (.m k) S2) (fun er S2 => ∃ S3, DL.Sub S3 S2 ∧ E er S3)) E
theorem de_makeMK (c : CalK X.prog X.w X.K X.mg X.base k f n m 1 ks sl dd) (M : Mk X.K C f) (hr : Room (k + 1) X.A) (tk' : Takes X W) (hg : Gl X x) (hm : X.mg x = some (.ref C)) (hkw : PK X kws (toA X.K W tk))
    (hall : (backToKw pos (keywordEach kws X.env)).all (·.1.isSome) = true := by rfl) (hks : (backToKw pos (keywordEach kws X.env)).filterMap (·.1) = ks := by rfl) (hdb : (x == ("__debug__" : Str)) = false := by decide)
    (hpl : ((backTo pos (starEach [] X.env)).any (·.1) || (backToKw pos (keywordEach kws X.env)).any (·.1.isNone)) = false := by rfl) : PE X (.Call (.Name x p) [] kws pos) (toE X.K W (dMakeMK C n m ks.length sl dd tk)) := by
  obtain ⟨fd, ps, its, dvs, F, hb, hdd, hk⟩ := c.ex
  refine ⟨fun pins s σ H Q I h => ?_⟩
  obtain ⟨w, δ, Qd, Ed, rfl, ok, lo, t, q, ec⟩ := h
  refine wpAny_Call_Name_kw (ld_glob I hg hm ?_ hdb)
  refine PySem.W.callWith_KW0 (h₀ := X.base) I.ok.mod.kin M.kp hall ?_ hpl
  refine thn (hkw.run pos pins s σ _ (fun ws H2 => ∃ (w2 : Wd) (zs : List D), w2.H = H2 ∧ Le w w2 ∧ Ok X.K w2 ∧ RpL X.K w2.I w2.α ws zs ∧ zs.length = ks.length ∧ ∀ k, Fr w2.S k → (mixK sl [.m k] zs dd).length = n ∧ m (mixK sl [.m k] zs dd) (put w2.S k (.ins C [])) (fun d S2 => d = .non ∧ (∃ fs, S2 k = some (.ins C fs)) ∧ Qd (.m k) S2) (fun er S2 => ∃ S3, DL.Sub S3 S2 ∧ Ed er S3)) I
    ⟨w, δ, _, Ed, rfl, ok, lo, t, fun us vs w2 t2 l2 ok2 r2 => ⟨w2, us, rfl, l2, ok2, r2, t2⟩, ec⟩) fun us s2 hq2 => ?_
  obtain ⟨ws, H2, I2, rw2, w2, zs, rfl, l2, ok2, r2, hn1, hm2⟩ := hq2
  refine ⟨I2.kIn, ?_⟩
  rw [hks]
  refine make_kw M F hr tk' hb I2 rw2 (by rw [r2.length]; exact hn1) fun y dy hy hd ne => ?_
  obtain ⟨w3, j, hj, eH, eS, hα, l3, ok3⟩ := made_w (C := C) ok2 hy hd ne
  have rd := hdd.r w3.I w3.α
  obtain ⟨hn, hmj⟩ := hm2 j hj
  have rm : RpL X.K w3.I w3.α (mixK sl [.ref y] ws dvs) (mixK sl [.m j] zs dd) := mix_rp (.one (.m hα)) (r2.up l3) rd sl
  refine ⟨by rw [rm.length]; exact hn, w3, _, _, _, eH, ok3, rm, by rw [eS]; exact hmj, fun d v w' a b c rv => ?_, fun er w' dx a b c re => ?_⟩
  · obtain ⟨rfl, ⟨fs, hf⟩, a⟩ := a
    cases rv
    exact ⟨rfl, q (.m j) (.ref y) w' a ((l2.trans l3).trans b) c (.m (b.aa _ _ hα))⟩
  · obtain ⟨S3, s3, a⟩ := a
    exact ec er (w'.drop S3) dx a (((l2.trans l3).trans b).trans (.drop s3)) (c.drop s3) re
end
end DL

set_option maxHeartbeats 4000000
/-! ## 40. enumerate and zip over lists and tuples -/
namespace DLZ
open PySem PySem.Spec PyProof.Rows L2
inductive Kd where
  | l | t
def Kd.sq (K : PySem.W.Frag) : Kd → Hp → Addr → List V → Prop
  | .l => fun H a xs => SqL K H a xs
  | .t => fun H a xs => SqT K H a xs
def Kd.walk : Kd → Heap → Addr → Addr → Nat → Prop
  | .l => fun h i a n => h.IsListIter i a n
  | .t => fun h i a n => h.IsTupleIter i a n
def Kd.stand : Kd → Heap → Addr → Array Value → Prop
  | .l => fun h a vs => h.IsList a vs
  | .t => fun h a vs => h.IsTuple a vs
theorem Kd.draws (k : Kd) {prog : Program} {w : World} {A : Around} (hh : A.handled = none) (it a : Addr) (hne : a ≠ it) (vs : Array Value) : Draws prog w A it [it, a] vs.size (fun i v => vs[i]? = some v) (fun i h => k.walk h it a i ∧ k.stand h a vs) := by
  cases k with
  | l => exact Draws.list hh it a hne vs
  | t => exact Draws.tuple hh it a hne vs
theorem Kd.read (k : Kd) {X : Cx} {pins : List (Addr × Obj)} {σ : L2.St} {H : Hp} {s : Shared} (I : Inv X pins σ H s) {a : Addr} {xs : List V} (h : k.sq X.K H a xs) : ∃ us : List Value, Vals xs us ∧ k.stand s.heap a us.toArray := by
  cases k with
  | l =>
    obtain ⟨us, rv, p, _⟩ := I.list h
    exact ⟨us, rv, p.isList⟩
  | t =>
    obtain ⟨us, rv, p, _⟩ := I.tuple h
    exact ⟨us, rv, p⟩
theorem Kd.one (k : Kd) {X : Cx} {pins : List (Addr × Obj)} {σ : L2.St} {H : Hp} {s : Shared} (I : Inv X pins σ H s) {a : Addr} {xs ys : List V} (h : k.sq X.K H a xs) (g : k.sq X.K H a ys) : ys = xs := by
  cases k with
  | l => exact I.list_inj g h
  | t => exact I.tuple_inj g h
theorem Kd.old (k : Kd) {h : Heap} {a : Addr} {vs : Array Value} (q : k.stand h a vs) : a < h.objs.size := by
  cases k with
  | l => obtain ⟨o, ho, _⟩ := q; exact Heap.lt_size ho
  | t => obtain ⟨o, ho, _⟩ := q; exact Heap.lt_size ho
theorem Kd.walk_obj (k : Kd) {h : Heap} {i a : Addr} {n : Nat} (q : k.walk h i a n) : ∃ o, h.get? i = some o ∧ ∀ v, o.data ≠ .cell v := by
  cases k with
  | l => obtain ⟨o, ho, hc, hd⟩ := q; exact ⟨o, ho, fun v z => by rw [hd] at z; cases z⟩
  | t => obtain ⟨o, ho, hc, hd⟩ := q; exact ⟨o, ho, fun v z => by rw [hd] at z; cases z⟩
theorem Kd.walk_keep (k : Kd) {h h' : Heap} {i a : Addr} {n : Nat} (q : k.walk h i a n) (e : ∀ o, h.get? i = some o → h'.get? i = some o) : k.walk h' i a n := by
  cases k with
  | l => exact Heap.IsListIter.at q e
  | t => exact Heap.IsTupleIter.at q e
theorem Kd.stand_keep (k : Kd) {h h' : Heap} {a : Addr} {vs : Array Value} (q : k.stand h a vs) (e : ∀ o, h.get? a = some o → h'.get? a = some o) : k.stand h' a vs := by
  cases k with
  | l => exact Heap.IsList.at q e
  | t => exact Heap.IsTuple.at q e
/-! ### enumerate -/
def ItE (K : PySem.W.Frag) (k : Kd) (a : Addr) : It :=
  ⟨fun i H => ∃ (xs : List V) (x : V), k.sq K H a xs ∧ xs[i]? = some x, fun i H v H' => ∃ T x, v = .ref T ∧ H T = none ∧ H' = upd H T (.tup [.int (i : Nat), x]) ∧ ∀ xs, k.sq K H a xs → xs[i]? = some x, fun i H => ∃ xs : List V, k.sq K H a xs ∧ xs.length = i⟩
/-- the iterator e over the iterator it of what stands at a -/
def Enm (k : Kd) (a e it : Addr) (i : Nat) (h : Heap) : Prop := (∃ old, IsEnum h e it ((i : Nat) : Int) old) ∧ k.walk h it a i ∧ e ≠ it ∧ a ≠ it ∧ e ≠ a
theorem turn_enumA {P : Program} {w : World} {K : PySem.W.Frag} {elts : List Expr} {kk : Nat} {tpos : Pos} (k : Kd) (a e it : Addr) : Turn P w K (.Tuple elts kk tpos) (ItE K k a) [e, it] e (Enm k a e it) where
  mem := List.mem_cons_self ..
  obj := fun i h st b hb => by
    obtain ⟨⟨old, he⟩, hw, _⟩ := st
    rcases List.mem_cons.mp hb with rfl | hb
    · exact ⟨_, he, fun v q => nomatch q⟩
    · rw [List.mem_singleton.mp hb]; exact k.walk_obj hw
  keep := fun i h h' st kp => by
    obtain ⟨⟨old, he⟩, hw, n1, n2, n3⟩ := st
    exact ⟨⟨old, kp e (List.mem_cons_self ..) _ he⟩, k.walk_keep hw fun o q => kp it (List.mem_cons_of_mem _ (List.mem_singleton.mpr rfl)) o q, n1, n2, n3⟩
  item := by
    rintro X rfl rfl rfl hc i pins s σ H E I hf ⟨⟨old, he⟩, hw, n1, n2, n3⟩ ⟨xs, x, hq, hx⟩
    obtain ⟨us, rv, hs⟩ := k.read I hq
    obtain ⟨u, hu, ru⟩ := rv.get hx
    have hlt : i < us.toArray.size := by
      have := (List.getElem?_eq_some_iff.mp hu).1
      simpa using this
    have hel : e < s.heap.objs.size := Heap.lt_size he
    have hil : it < s.heap.objs.size := by obtain ⟨_, q, _⟩ := k.walk_obj hw; exact Heap.lt_size q
    have D := k.draws (prog := X.prog) (w := X.w) (A := X.A.in1) (show X.A.in1.handled = none from I.ok.hd hc) it a n2 us.toArray
    refine wpAny_pyNext_enum_itemD D he ⟨hw, hs⟩ hlt n1 (by simp [n1, n3]) fun y h' tk hy ho hst hT hsz hk => ?_
    have hyu : y = u := by
      rw [List.getElem?_toArray, hu] at hy
      exact (Option.some.inj hy).symm
    subst hyu
    refine ⟨_, rfl, wpAny_letOwnedTupleGo_enum (s := { s with heap := h', toks := tk + 1 }) ho fun h2 he2 sb => ?_⟩
    have hT2 : h2.get? s.heap.objs.size = some { cls := .type "tuple", data := .seq #[.int i tk, y] } := (sb.2 _ (Nat.ne_of_gt hel)).trans hT
    have new : ObjOk X.prog X.w (upd H s.heap.objs.size (.tup [.int (i : Nat), x])) h2 s.heap.objs.size (.tup [.int (i : Nat), x]) :=
      ⟨by show 2 ≤ sizeLine; decide, [.int i tk, y], .cons ⟨_, rfl⟩ (.cons ru .nil), ⟨_, hT2, rfl, _, rfl⟩⟩
    have I1 : Inv X pins σ (upd H s.heap.objs.size (.tup [.int (i : Nat), x])) { s with heap := h2, toks := tk + 1 } :=
      I.turnedNew (ch := [e, it]) (fun b ob hb q => (sb.2 b (fun z => hb (by simp [z]))).trans (hk b ob (fun z => hb (by simp [z])) (fun z => hb (by simp [z])) q)) hf (Nat.le_refl _) new
    refine ⟨.ref s.heap.objs.size, _, I1, rfl, ⟨_, x, rfl, I.hok.fresh (Nat.le_refl _), rfl, fun ys hy => by rw [k.one I hq hy]; exact hx⟩, ⟨⟨y, ?_⟩, k.walk_keep hst.1 fun o q => (sb.2 it (Ne.symm n1)).trans q, n1, n2, n3⟩, fun b hb => ?_⟩
    · have e1 : ((i + 1 : Nat) : Int) = (i : Int) + 1 := by omega
      rw [e1]; exact he2
    · have hb' : b < s.heap.objs.size := by
        rcases List.mem_cons.mp hb with rfl | hb
        · exact hel
        · rw [List.mem_singleton.mp hb]; exact hil
      rw [upd_ne (Nat.ne_of_lt hb')]
      exact (hf b hb).1
  done := by
    rintro X rfl rfl rfl hc i pins s σ H E I hf ⟨⟨old, he⟩, hw, n1, n2, n3⟩ ⟨xs, hq, hx⟩
    obtain ⟨us, rv, hs⟩ := k.read I hq
    obtain ⟨f0, f1, f2, f3, f4, f5⟩ := hf it (List.mem_cons_of_mem _ (List.mem_singleton.mpr rfl))
    have hl := rv.length
    have hn : us.toArray.size = i := by simp; omega
    have D := k.draws (prog := X.prog) (w := X.w) (A := X.A.in1) (show X.A.in1.handled = none from I.ok.hd hc) it a n2 us.toArray
    exact wpAny_pyNext_enum_endD D he ⟨hn ▸ hw, hs⟩ fun h2 kp => ⟨rfl, I.turned (t' := s.toks) (fun b o hb q => kp b o hb q) f0 f1 f3 f4 f5⟩
  self := fun A i s Q E st h => let ⟨⟨_, he⟩, _⟩ := st; wpAny_pyIter_enum he h
def iEnumA (K : PySem.W.Frag) (ta : TA) : TI := fun σ H R => ta σ H fun vs H1 => ∃ k a xs, vs = [.ref a] ∧ Kd.sq K k H1 a xs ∧ R (ItE K k a) H1
/-- an enumerate that begins -/
abbrev enO (it : Addr) : Obj := { cls := .type "enumerate", data := .fields #[.none, .bool false, .ref it, rawInt 0, .none, .none] }
theorem enum_new1 {v : Value} {o : Obj} {J : Heap → Prop} (B : Begins v o J) : Meets (Builtin.«enumerate.__new__» ⟨[.type "enumerate", v], []⟩) (fun _ R s => J s.heap ∧ R (.ok (.ret (.ref (s.heap.push o).objs.size))) { s with heap := (s.heap.push o).push (enO s.heap.objs.size) }) :=
  .of_wp fun prog w A R s ⟨j, r⟩ => by
    obtain ⟨hp, g, d, tk, os⟩ := s
    have sub := sub_enumerate
    have itr : ∀ {A2 : Around} {E2 : Value → Shared → Prop} {Q2 : Value → Shared → Prop}, Q2 (.ref hp.objs.size) ⟨hp.push o, g, d, tk, os⟩ → wpAny (model prog w) A2 (pyIter v) Q2 E2 ⟨hp, g, d, tk, os⟩ :=
      fun z => B.iter prog w _ _ ⟨hp, g, d, tk, os⟩ _ j z
    wp_walk using itr
    refine wpAny_stack_any fun _ => wpAny_pure ?_
    split
    · rename_i cl _ _ _ _ _
      cases (cl == Value.type "enumerate") <;> (wp_walk using itr; exact ⟨_, rfl, r⟩)
    · wp_walk using itr; exact ⟨_, rfl, r⟩
theorem enum_begin1 {prog : Program} {w : World} {A : Around} {E : Value → Shared → Prop} {s : Shared} {v : Value} {o : Obj} {J : Heap → Prop} {Q : Value → Shared → Prop} (B : Begins v o J) (j : J s.heap)
    (r : ∀ h2, IsEnum h2 (s.heap.objs.size + 1) s.heap.objs.size 0 .none → h2.get? s.heap.objs.size = some o → (∀ b u, s.heap.get? b = some u → h2.get? b = some u) → Q (.ref (s.heap.objs.size + 1)) { s with heap := h2 }) :
    wpAny (model prog w) A (call (.type "enumerate") [v]) Q E s := by
  refine callType_new F.called_enumerate (by decide) (F.typeCall_enumerate_1 _) (F.newCall_enumerate_1 _) (fun u => F.args_object_init_2 u _) F.entry_enumerate_new (enum_new1 B) ⟨j, ?_⟩
  have z : (s.heap.push o).objs.size = s.heap.objs.size + 1 := Heap.size_push ..
  show _ ∧ _
  rw [z]
  have en : IsEnum ((s.heap.push o).push (enO s.heap.objs.size)) (s.heap.objs.size + 1) s.heap.objs.size 0 .none := by
    have q := Heap.get?_push_size (s.heap.push o) (o := enO s.heap.objs.size) rfl
    rwa [z] at q
  exact ⟨⟨_, en, rfl⟩, r _ en (Heap.get?_push_of_some _ (Heap.get?_push_size _ B.free)) fun b u x => Heap.get?_push_of_some _ (Heap.get?_push_of_some _ x)⟩
def Kd.itO : Kd → Addr → Obj
  | .l => fun a => { cls := .type "list_iterator", data := .fields #[.ref a, .int 0 0] }
  | .t => fun a => { cls := .type "tuple_iterator", data := .fields #[.ref a, .int 0 0] }
theorem Kd.begins (k : Kd) (a : Addr) (vs : Array Value) : Begins (.ref a) (k.itO a) (fun h => k.stand h a vs) := by
  cases k with
  | l => exact begins_list a vs
  | t => exact begins_tuple a vs
theorem Kd.walk0 (k : Kd) {h : Heap} {i a : Addr} (e : h.get? i = some (k.itO a)) : k.walk h i a 0 := by
  cases k with
  | l => exact ⟨_, e, rfl, rfl⟩
  | t => exact ⟨_, e, rfl, rfl⟩
theorem pi_enumA {X : Cx} {e : Expr} {ta : TA} {p pos tpos : Pos} {elts : List Expr} {kk : Nat} (hg : Gl X "enumerate") (hm : X.mg "enumerate" = none) (ha : PA X [e] ta) (st : starEach [e] X.env = [(false, eval e X.env)] := by rfl) :
    PI X (.Tuple elts kk tpos) (.Call (.Name "enumerate" p) [e] [] pos) (iEnumA X.K ta) := by
  refine ⟨fun pins s σ H R I h => ?_⟩
  refine Call_ (ld_blt I hg hm boot_enumerate (PyProof.Rows.callWith_type1 (thn (ha.run pos pins s σ H _ I h) fun us s1 ⟨vs, H1, I1, r1, k, a, xs, ex, hq, q⟩ => ?_) st rfl))
  subst ex
  cases r1 with
  | cons r rr =>
    cases rr
    cases r
    obtain ⟨ws, rv, hs⟩ := k.read I1 hq
    have al := k.old hs
    refine enum_begin1 (k.begins a ws.toArray) hs fun h2 en ho kp => wpAny_pyIter_enum en ?_
    have I2 : Inv X pins σ H1 { s1 with heap := h2 } := I1.kept (t' := s1.toks) kp
    refine ⟨s1.heap.objs.size + 1, [s1.heap.objs.size + 1, s1.heap.objs.size], _, _, H1, rfl, I2, turn_enumA k a (s1.heap.objs.size + 1) s1.heap.objs.size, ⟨⟨.none, en⟩, k.walk0 ho, Nat.succ_ne_self _, Nat.ne_of_lt al, Nat.ne_of_gt (Nat.lt_succ_of_lt al)⟩, fun b hb => ?_, q⟩
    have le : s1.heap.objs.size ≤ b := by
      rcases List.mem_cons.mp hb with rfl | hb
      · exact Nat.le_add_right _ _
      · rw [List.mem_singleton.mp hb]; exact Nat.le_refl _
    exact I1.fpOk le (I1.hok.fresh le)
end DLZ

set_option maxHeartbeats 4000000
namespace DLZ
open PySem PySem.Spec PyProof.Rows L2
/-! ### zip of two, each a list or a tuple -/
def ItZ (K : PySem.W.Frag) (k1 k2 : Kd) (a b : Addr) : It :=
  ⟨fun i H => ∃ (xs ys : List V) (x y : V), k1.sq K H a xs ∧ k2.sq K H b ys ∧ xs[i]? = some x ∧ ys[i]? = some y, fun i H v H' => ∃ T x y, v = .ref T ∧ H T = none ∧ H' = upd H T (.tup [x, y]) ∧ (∀ xs, k1.sq K H a xs → xs[i]? = some x) ∧ ∀ ys, k2.sq K H b ys → ys[i]? = some y,
    fun i H => ∃ xs ys : List V, k1.sq K H a xs ∧ k2.sq K H b ys ∧ i ≤ xs.length ∧ i ≤ ys.length ∧ (i = xs.length ∨ i = ys.length)⟩
def Zpp (k1 k2 : Kd) (a b z TI TO i1 i2 : Addr) (i : Nat) (h : Heap) : Prop := IsZip h z TI TO .none ∧ IsTupOf2 h TI (.ref i1) (.ref i2) ∧ (∃ x y, IsTupOf2 h TO x y) ∧ k1.walk h i1 a i ∧ k2.walk h i2 b i
theorem five {c z TI TO i1 i2 : Addr} {P : Addr → Prop} (hc : c ∈ [z, TI, TO, i1, i2]) (p1 : P z) (p2 : P TI) (p3 : P TO) (p4 : P i1) (p5 : P i2) : P c := by
  simp only [List.mem_cons, List.not_mem_nil, or_false] at hc
  rcases hc with rfl | rfl | rfl | rfl | rfl <;> assumption
theorem turn_zipA {P : Program} {w : World} {K : PySem.W.Frag} {elts : List Expr} {kk : Nat} {tpos : Pos} (k1 k2 : Kd) {a b z TI TO i1 i2 : Addr} (D : ZipSep2 z TI TO i1 i2 [i1, a] [i2, b]) (ai : a ≠ i1) (bi : b ≠ i2) : Turn P w K (.Tuple elts kk tpos) (ItZ K k1 k2 a b) [z, TI, TO, i1, i2] z (Zpp k1 k2 a b z TI TO i1 i2) where
  mem := List.mem_cons_self ..
  obj := fun i h ⟨hz, hI, ⟨x, y, hO⟩, w1, w2⟩ c hc => by
    exact five (P := fun c => ∃ o, h.get? c = some o ∧ ∀ v, o.data ≠ .cell v) hc ⟨_, hz, fun v q => nomatch q⟩ ⟨_, hI, fun v q => nomatch q⟩ ⟨_, hO, fun v q => nomatch q⟩ (k1.walk_obj w1) (k2.walk_obj w2)
  keep := fun i h h2 ⟨hz, hI, ⟨x, y, hO⟩, w1, w2⟩ kp => ⟨kp z (by simp) _ hz, kp TI (by simp) _ hI, ⟨x, y, kp TO (by simp) _ hO⟩, k1.walk_keep w1 fun o q => kp i1 (by simp) o q, k2.walk_keep w2 fun o q => kp i2 (by simp) o q⟩
  item := by
    rintro X rfl rfl rfl hc i pins s σ H E I hf ⟨hz, hI, ⟨x0, y0, hO⟩, w1, w2⟩ ⟨xs, ys, x, y, hqx, hqy, hx, hy⟩
    obtain ⟨us, rv, s1⟩ := k1.read I hqx
    obtain ⟨us2, rv2, s2⟩ := k2.read I hqy
    obtain ⟨u, hu, ru⟩ := rv.get hx
    obtain ⟨u2, hu2, ru2⟩ := rv2.get hy
    have l1 : i < us.toArray.size := by have := (List.getElem?_eq_some_iff.mp hu).1; simpa using this
    have l2 : i < us2.toArray.size := by have := (List.getElem?_eq_some_iff.mp hu2).1; simpa using this
    have zl : z < s.heap.objs.size := Heap.lt_size hz
    have hd : X.A.in1.handled = none := I.ok.hd hc
    have D1 := k1.draws (prog := X.prog) (w := X.w) hd i1 a ai us.toArray
    have D2 := k2.draws (prog := X.prog) (w := X.w) hd i2 b bi us2.toArray
    refine wpAny_pyNext_zipD2_item D D1 D2 hz hI hO ⟨w1, s1⟩ ⟨w2, s2⟩ l1 l2 fun v1 v2 h2 tk e1 e2 z2 O2 t1 t2 T2 hsz kp => ?_
    have ev1 : v1 = u := by rw [List.getElem?_toArray, hu] at e1; exact (Option.some.inj e1).symm
    have ev2 : v2 = u2 := by rw [List.getElem?_toArray, hu2] at e2; exact (Option.some.inj e2).symm
    subst ev1 ev2
    refine ⟨_, rfl, wpAny_letOwnedTupleGo_zip (s := { s with heap := h2, toks := tk }) z2 fun h3 z3 sb => ?_⟩
    have T3 : h3.get? s.heap.objs.size = some { cls := .type "tuple", data := .seq #[v1, v2] } := (sb.2 _ (Nat.ne_of_gt zl)).trans T2
    have new : ObjOk X.prog X.w (upd H s.heap.objs.size (.tup [x, y])) h3 s.heap.objs.size (.tup [x, y]) := ⟨by show 2 ≤ sizeLine; decide, [v1, v2], .cons ru (.cons ru2 .nil), ⟨_, T3, rfl, _, rfl⟩⟩
    have I1 : Inv X pins σ (upd H s.heap.objs.size (.tup [x, y])) { s with heap := h3, toks := tk } :=
      I.turnedNew (t' := tk) (ch := [z, TI, TO, i1, i2]) (fun c o hb q => (sb.2 c (fun e => hb (by simp [e]))).trans (kp c o (fun e => hb (by simp [e])) (fun e => hb (by simp [e])) (fun e => hb (by simp [e])) (fun e => hb (by simp [e])) q)) hf (Nat.le_refl _) new
    refine ⟨.ref s.heap.objs.size, _, I1, rfl, ⟨_, x, y, rfl, I.hok.fresh (Nat.le_refl _), rfl, fun l hl => by rw [k1.one I hqx hl]; exact hx, fun l hl => by rw [k2.one I hqy hl]; exact hy⟩, ⟨z3, ?_, ⟨v1, v2, (sb.2 _ D.TOz).trans O2⟩, k1.walk_keep t1.1 fun o q => (sb.2 _ (Ne.symm D.zi1)).trans q, k2.walk_keep t2.1 fun o q => (sb.2 _ (Ne.symm D.zi2)).trans q⟩, fun c hcm => ?_⟩
    · exact (sb.2 _ D.TIz).trans (kp _ _ D.TIz D.TITO D.TIi1 D.TIi2 hI)
    · have lt : c < s.heap.objs.size := five (P := fun c => c < s.heap.objs.size) hcm zl (Heap.lt_size hI) (Heap.lt_size hO) (by obtain ⟨_, q, _⟩ := k1.walk_obj w1; exact Heap.lt_size q) (by obtain ⟨_, q, _⟩ := k2.walk_obj w2; exact Heap.lt_size q)
      rw [upd_ne (Nat.ne_of_lt lt)]
      exact (hf c hcm).1
  done := by
    rintro X rfl rfl rfl hc i pins s σ H E I hf ⟨hz, hI, ⟨x0, y0, hO⟩, w1, w2⟩ ⟨xs, ys, hqx, hqy, le1, le2, en⟩
    obtain ⟨us, rv, s1⟩ := k1.read I hqx
    obtain ⟨us2, rv2, s2⟩ := k2.read I hqy
    have l1 := rv.length
    have l2 := rv2.length
    have hd : X.A.in1.handled = none := I.ok.hd hc
    have D1 := k1.draws (prog := X.prog) (w := X.w) hd i1 a ai us.toArray
    have D2 := k2.draws (prog := X.prog) (w := X.w) hd i2 b bi us2.toArray
    exact wpAny_pyNext_zipD2_end D D1 D2 hz hI hO ⟨w1, s1⟩ ⟨w2, s2⟩ (by simp; omega) (by simp; omega) (by simp; omega) fun h2 tk kp => ⟨rfl, I.turnedL (t' := tk) (ch := [z, TI, TO, i1, i2]) (fun c o hb q => kp c o (fun e => hb (by simp [e])) (fun e => hb (by simp [e])) (fun e => hb (by simp [e])) (fun e => hb (by simp [e])) q) hf⟩
  self := fun A i s Q E st h => wpAny_pyIter_zip st.1 h
def iZipB (K : PySem.W.Frag) (ta : TA) : TI := fun σ H R => ta σ H fun vs H1 => ∃ k1 k2 a b xs ys, vs = [.ref a, .ref b] ∧ Kd.sq K k1 H1 a xs ∧ Kd.sq K k2 H1 b ys ∧ R (ItZ K k1 k2 a b) H1
theorem pi_zipB {X : Cx} {e e2 : Expr} {ta : TA} {p pos tpos : Pos} {elts : List Expr} {kk : Nat} (hg : Gl X "zip") (hm : X.mg "zip" = none) (ha : PA X [e, e2] ta) (st : starEach [e, e2] X.env = (false, eval e X.env) :: starEach [e2] X.env := by rfl) (pl : (backTo pos (starEach [e2] X.env)).any (·.1) = false := by rfl) :
    PI X (.Tuple elts kk tpos) (.Call (.Name "zip" p) [e, e2] [] pos) (iZipB X.K ta) := by
  refine ⟨fun pins s σ H R I h => ?_⟩
  refine Call_ (ld_blt I hg hm PyProof.Rows.boot_zip (PyProof.Rows.callWith_type1 (thn (ha.run pos pins s σ H _ I h) fun us s1 ⟨vs, H1, I1, r1, k1, k2, a, b, xs, ys, ex, hqx, hqy, q⟩ => ?_) st pl))
  subst ex
  cases r1 with
  | cons r rr =>
    cases rr with
    | cons r' rr =>
      cases rr
      cases r
      cases r'
      obtain ⟨ws, rv, t1⟩ := k1.read I1 hqx
      obtain ⟨ws2, rv2, t2⟩ := k2.read I1 hqy
      have al := k1.old t1
      have bl := k2.old t2
      refine zip_begins2 (k1.begins a ws.toArray) (k2.begins b ws2.toArray) t1 t2 fun h2 hz hI hO o1 o2 hsz kp => wpAny_pyIter_zip hz ?_
      have I2 : Inv X pins σ H1 { s1 with heap := h2 } := I1.kept (t' := s1.toks) kp
      have le : ∀ j, s1.heap.objs.size ≤ s1.heap.objs.size + j := fun j => Nat.le_add_right _ _
      have ne : ∀ j k : Nat, j ≠ k → s1.heap.objs.size + j ≠ s1.heap.objs.size + k := fun j k h e => h (Nat.add_left_cancel e)
      have na : ∀ j, a ≠ s1.heap.objs.size + j := fun j => Nat.ne_of_lt (Nat.lt_of_lt_of_le al (le j))
      have nb : ∀ j, b ≠ s1.heap.objs.size + j := fun j => Nat.ne_of_lt (Nat.lt_of_lt_of_le bl (le j))
      have D : ZipSep2 (s1.heap.objs.size + 4) (s1.heap.objs.size + 2) (s1.heap.objs.size + 3) (s1.heap.objs.size + 0) (s1.heap.objs.size + 1) [s1.heap.objs.size + 0, a] [s1.heap.objs.size + 1, b] :=
        ⟨ne _ _ (by decide), ne _ _ (by decide), ne _ _ (by decide), ne _ _ (by decide), by simp, by simp only [List.mem_cons, List.not_mem_nil, or_false]; exact fun h => h.elim (ne _ _ (by decide)) (Ne.symm (na 4)), by simp only [List.mem_cons, List.not_mem_nil, or_false]; exact fun h => h.elim (ne _ _ (by decide)) (Ne.symm (na 3)), ne _ _ (by decide), by simp,
          by simp only [List.mem_cons, List.not_mem_nil, or_false]; exact fun h => h.elim (ne _ _ (by decide)) (Ne.symm (nb 4)), by simp only [List.mem_cons, List.not_mem_nil, or_false]; exact fun h => h.elim (ne _ _ (by decide)) (Ne.symm (nb 3)),
          by simp only [List.mem_cons, List.not_mem_nil, or_false]; exact fun h => h.elim (ne _ _ (by decide)) (Ne.symm (nb 0)), by simp only [List.mem_cons, List.not_mem_nil, or_false]; exact fun h => h.elim (ne _ _ (by decide)) (Ne.symm (na 1))⟩
      refine ⟨s1.heap.objs.size + 4, [s1.heap.objs.size + 4, s1.heap.objs.size + 2, s1.heap.objs.size + 3, s1.heap.objs.size + 0, s1.heap.objs.size + 1], _, _, H1, rfl, I2, turn_zipA k1 k2 D (na 0) (nb 1), ⟨hz, hI, ⟨_, _, hO⟩, k1.walk0 o1, k2.walk0 o2⟩, fun c hc => ?_, q⟩
      have lc : s1.heap.objs.size ≤ c := five (P := fun c => s1.heap.objs.size ≤ c) hc (le 4) (le 2) (le 3) (le 0) (le 1)
      exact I1.fpOk lc (I1.hok.fresh lc)
end DLZ

set_option maxHeartbeats 4000000
namespace DL
open PySem PySem.Spec L2 DLZ
/-! ## 41. enumerate, zip over data -/
section
variable {K : PySem.W.Frag} {w : Wd} {p q : Addr} {v : V} {d : D} {ds es : List D} {kp : Sto → Prop}
theorem rd_any (ok : Ok K w) (r : Rp K w.I w.α v d) (h : asSq w.S d = some ds) : ∃ (k : Kd) (p : Addr), v = .ref p ∧ ∀ w', Lw w w' → Ok K w' → kpOf w.S d w'.S → ∃ vs, k.sq K w'.H p vs ∧ RpL K w'.I w'.α vs ds := by
  have ls : asR w.S d = some ds → ∃ (k : Kd) (p : Addr), v = .ref p ∧ ∀ w', Lw w w' → Ok K w' → kpOf w.S d w'.S → ∃ vs, k.sq K w'.H p vs ∧ RpL K w'.I w'.α vs ds := fun h => by
    obtain ⟨p, e, g⟩ := rd_of ok r h
    exact ⟨.l, p, e, g⟩
  cases d with
  | tup xs =>
    cases h
    obtain ⟨p, vs, rfl, hp, r⟩ := r.tup'
    exact ⟨.t, p, rfl, fun w' l ok' _ => ⟨vs, ok'.sqT (SqT.le hp l.ii), r.upw l⟩⟩
  | _ => exact ls h
theorem walks_en {k : Kd} (h : ∀ w', Lw w w' → Ok K w' → kp w'.S → ∃ vs, k.sq K w'.H p vs ∧ RpL K w'.I w'.α vs ds) : Walks K w (ItE K k p) (enumD 0 ds) kp := by
  refine ⟨fun w' i l ok kk hi => ?_, fun w' l ok kk => ?_, fun w' i x H' l ok kk hi hy => ?_⟩
  · obtain ⟨vs, hv, r⟩ := h w' l ok kk
    rw [enumD_len] at hi
    have hi' : i < vs.length := by rw [r.length]; exact hi
    exact ⟨vs, vs[i], hv, List.getElem?_eq_getElem hi'⟩
  · obtain ⟨vs, hv, r⟩ := h w' l ok kk
    exact ⟨vs, hv, by rw [r.length, enumD_len]⟩
  · obtain ⟨vs, hv, r⟩ := h w' l ok kk
    obtain ⟨T, y, rfl, hT, rfl, hy⟩ := hy
    obtain ⟨d, hd, rd⟩ := r.get' (hy vs hv)
    obtain ⟨w2, e, l2, ok2, eS, rr⟩ := lay_at ok hT (RpL.cons (.int (i : Nat)) (.one rd))
    refine ⟨w2, e, l2, ok2, eS, _, ?_, rr⟩
    have z := enumD_get ds 0 i d hd
    rw [Nat.zero_add] at z
    exact z
theorem walks_zp {k1 k2 : Kd} (h : ∀ w', Lw w w' → Ok K w' → kp w'.S → ∃ vs, k1.sq K w'.H p vs ∧ RpL K w'.I w'.α vs ds) (g : ∀ w', Lw w w' → Ok K w' → kp w'.S → ∃ vs, k2.sq K w'.H q vs ∧ RpL K w'.I w'.α vs es) : Walks K w (ItZ K k1 k2 p q) (zipD ds es) kp := by
  refine ⟨fun w' i l ok kk hi => ?_, fun w' l ok kk => ?_, fun w' i x H' l ok kk hi hy => ?_⟩
  · obtain ⟨vs, hv, r⟩ := h w' l ok kk
    obtain ⟨us, hu, s⟩ := g w' l ok kk
    rw [zipD_len] at hi
    have hi' : i < vs.length := by rw [r.length]; omega
    have hi2 : i < us.length := by rw [s.length]; omega
    exact ⟨vs, us, vs[i], us[i], hv, hu, List.getElem?_eq_getElem hi', List.getElem?_eq_getElem hi2⟩
  · obtain ⟨vs, hv, r⟩ := h w' l ok kk
    obtain ⟨us, hu, s⟩ := g w' l ok kk
    refine ⟨vs, us, hv, hu, ?_⟩
    rw [r.length, s.length, zipD_len]
    omega
  · obtain ⟨vs, hv, r⟩ := h w' l ok kk
    obtain ⟨us, hu, s⟩ := g w' l ok kk
    obtain ⟨T, x, y, rfl, hT, rfl, hx, hy⟩ := hy
    obtain ⟨d, hd, rd⟩ := r.get' (hx vs hv)
    obtain ⟨e, he, re⟩ := s.get' (hy us hu)
    obtain ⟨w2, e2, l2, ok2, eS, rr⟩ := lay_at ok hT (RpL.cons rd (.one re))
    exact ⟨w2, e2, l2, ok2, eS, _, zipD_get ds es i d e hd he, rr⟩
end
def iEnA (t : DA) : DI := fun δ S Q E => t δ S (fun ds S1 => match ds with
  | [d] => opt (asSq S1 d) fun xs => Q (enumD 0 xs) (kpOf S1 d) S1
  | _ => False) E
def iZpA (t : DA) : DI := fun δ S Q E => t δ S (fun ds S1 => match ds with
  | [d, f] => opt (asSq S1 d) fun xs => opt (asSq S1 f) fun ys => Q (zipD xs ys) (fun S' => kpOf S1 d S' ∧ kpOf S1 f S') S1
  | _ => False) E
section
variable {X : Cx} {W : WX} {e e2 : Expr} {ta : DA} {p pos tpos : Pos} {elts : List Expr} {kk : Nat}
theorem asSq_kd {K : PySem.W.Frag} {w : Wd} {v : V} {d : D} {ds : List D} (ok : Ok K w) (r : Rp K w.I w.α v d) (h : asSq w.S d = some ds) : ∃ (k : Kd) (p : Addr) (vs : List V), v = .ref p ∧ k.sq K w.H p vs ∧ (∀ w', Lw w w' → Ok K w' → kpOf w.S d w'.S → ∃ vs, k.sq K w'.H p vs ∧ RpL K w'.I w'.α vs ds) := by
  obtain ⟨k, p, e, g⟩ := rd_any ok r h
  obtain ⟨vs, hv, _⟩ := g w (Le.refl w).lw ok (by cases d <;> first | trivial | rfl)
  exact ⟨k, p, vs, e, hv, g⟩
theorem di_enA (hg : Gl X "enumerate") (hm : X.mg "enumerate" = none) (ha : PA X [e] (toA X.K W ta)) (st : starEach [e] X.env = [(false, eval e X.env)] := by rfl) :
    PI X (.Tuple elts kk tpos) (.Call (.Name "enumerate" p) [e] [] pos) (toI X.K W (iEnA ta)) := simpI (pi_enumA hg hm ha st) fun σ H R h => by
  obtain ⟨w, δ, Qd, Ed, rfl, ok, lo, t, q, ec⟩ := h
  refine ⟨w, δ, _, Ed, rfl, ok, lo, t, fun ds vs w1 t1 l1 ok1 r1 => ?_, ec⟩
  split at t1
  · obtain ⟨v, rfl, rr⟩ := r1.one'
    obtain ⟨xs, hx, h⟩ := opt_of t1
    obtain ⟨k, a, us, rfl, hu, g⟩ := asSq_kd ok1 rr hx
    exact ⟨k, a, us, rfl, hu, q _ _ w1 _ h l1 ok1 (walks_en g)⟩
  · exact t1.elim
theorem di_zpA (hg : Gl X "zip") (hm : X.mg "zip" = none) (ha : PA X [e, e2] (toA X.K W ta)) (st : starEach [e, e2] X.env = (false, eval e X.env) :: starEach [e2] X.env := by rfl) (pl : (backTo pos (starEach [e2] X.env)).any (·.1) = false := by rfl) :
    PI X (.Tuple elts kk tpos) (.Call (.Name "zip" p) [e, e2] [] pos) (toI X.K W (iZpA ta)) := simpI (pi_zipB hg hm ha st pl) fun σ H R h => by
  obtain ⟨w, δ, Qd, Ed, rfl, ok, lo, t, q, ec⟩ := h
  refine ⟨w, δ, _, Ed, rfl, ok, lo, t, fun ds vs w1 t1 l1 ok1 r1 => ?_, ec⟩
  split at t1
  · obtain ⟨v, u, rfl, ra, rb⟩ := r1.two'
    obtain ⟨xs, hx, h⟩ := opt_of t1
    obtain ⟨ys, hy, h⟩ := opt_of h
    obtain ⟨k1, a, us, rfl, hu, g1⟩ := asSq_kd ok1 ra hx
    obtain ⟨k2, b, us2, rfl, hu2, g2⟩ := asSq_kd ok1 rb hy
    exact ⟨k1, k2, a, b, us, us2, rfl, hu, hu2, q _ _ w1 _ h l1 ok1 (walks_zp (fun w' l ok' z => g1 w' l ok' z.1) (fun w' l ok' z => g2 w' l ok' z.2))⟩
  · exact t1.elim
end
/-! ## 42. sum, all, any, max, min, str -/
def intsD : List D → Option (List Int)
  | [] => some []
  | .int i :: r => (intsD r).map (i :: ·)
  | _ :: _ => none
def blsD : List D → Option (List Bool)
  | [] => some []
  | .bl i :: r => (blsD r).map (i :: ·)
  | _ :: _ => none
@[simp] theorem intsD_map : ∀ ns : List Int, intsD (ns.map .int) = some ns
  | [] => rfl
  | n :: r => by rw [List.map_cons, intsD, intsD_map r]; rfl
@[simp] theorem blsD_map : ∀ ns : List Bool, blsD (ns.map .bl) = some ns
  | [] => rfl
  | n :: r => by rw [List.map_cons, blsD, blsD_map r]; rfl
theorem intsD_of : ∀ {xs : List D} {ns : List Int}, intsD xs = some ns → xs = ns.map .int
  | [], _, h => by cases h; rfl
  | .int i :: r, ns, h => by
    unfold intsD at h
    cases e : intsD r with
    | none => rw [e] at h; cases h
    | some l => rw [e] at h; cases h; rw [intsD_of e]; rfl
  | .non :: _, _, h | .bl _ :: _, _, h | .str _ :: _, _, h | .lst _ :: _, _, h | .tup _ :: _, _, h | .rol _ :: _, _, h | .ins _ _ :: _, _, h | .cv _ :: _, _, h | .exc _ _ _ _ :: _, _, h | .m _ :: _, _, h => by cases h
theorem blsD_of : ∀ {xs : List D} {ns : List Bool}, blsD xs = some ns → xs = ns.map .bl
  | [], _, h => by cases h; rfl
  | .bl i :: r, ns, h => by
    unfold blsD at h
    cases e : blsD r with
    | none => rw [e] at h; cases h
    | some l => rw [e] at h; cases h; rw [blsD_of e]; rfl
  | .non :: _, _, h | .int _ :: _, _, h | .str _ :: _, _, h | .lst _ :: _, _, h | .tup _ :: _, _, h | .rol _ :: _, _, h | .ins _ _ :: _, _, h | .cv _ :: _, _, h | .exc _ _ _ _ :: _, _, h | .m _ :: _, _, h => by cases h
theorem rpl_int {K : PySem.W.Frag} {I : Hp} {α : Am} : ∀ {ns : List Int} {vs : List V}, RpL K I α vs (ns.map .int) → vs = ns.map .int
  | [], _, .nil => rfl
  | n :: r, _, .cons h t => by rw [h.int', rpl_int t]; rfl
theorem rpl_bl {K : PySem.W.Frag} {I : Hp} {α : Am} : ∀ {ns : List Bool} {vs : List V}, RpL K I α vs (ns.map .bl) → vs = ns.map .bl
  | [], _, .nil => rfl
  | n :: r, _, .cons h t => by rw [h.bl', rpl_bl t]; rfl
def oSum : DCl := fun S ds k => match ds with
  | [d] => opt (asR S d) fun xs => opt (intsD xs) fun ns => k (.int ns.sum)
  | _ => False
def oAll : DCl := fun S ds k => match ds with
  | [d] => opt (asR S d) fun xs => opt (blsD xs) fun ns => k (.bl (ns.all id))
  | _ => False
def oAny : DCl := fun S ds k => match ds with
  | [d] => opt (asR S d) fun xs => opt (blsD xs) fun ns => k (.bl (ns.any id))
  | _ => False
def oMax2 : DCl := fun _ ds k => match ds with
  | [.int i, .int j] => k (.int (if j > i then j else i))
  | _ => False
def oMin2 : DCl := fun _ ds k => match ds with
  | [.int i, .int j] => k (.int (if j < i then j else i))
  | _ => False
def oMaxL : DCl := fun S ds k => match ds with
  | [d] => opt (asR S d) fun xs => opt (intsD xs) fun ns => 0 < ns.length ∧ ∀ m, m ∈ ns → (∀ y, y ∈ ns → y ≤ m) → k (.int m)
  | _ => False
def oMinL : DCl := fun S ds k => match ds with
  | [d] => opt (asR S d) fun xs => opt (intsD xs) fun ns => 0 < ns.length ∧ ∀ m, m ∈ ns → (∀ y, y ∈ ns → m ≤ y) → k (.int m)
  | _ => False
def oStrI : DCl := fun _ ds k => match ds with
  | [.int i] => i.natAbs.log2 < 1920 ∧ k (.str (toString i))
  | _ => False
section
variable {K : PySem.W.Frag}
theorem sem_sum : SemCl K (rSum K) oSum := by
  intro w xs ds Qd Q ok r h q
  unfold oSum at h
  split at h
  · obtain ⟨v, rfl, rr⟩ := r.one'
    obtain ⟨ys, hy, h⟩ := opt_of h
    obtain ⟨ns, hn, h⟩ := opt_of h
    obtain ⟨p, vs, rfl, hp, rv⟩ := asR_sem ok rr hy
    rw [intsD_of hn] at rv
    exact ⟨p, ns, rfl, rpl_int rv ▸ hp, q _ _ w h (.refl w) rfl ok (.int _)⟩
  · exact h.elim
theorem sem_all : SemCl K (rAll K) oAll := by
  intro w xs ds Qd Q ok r h q
  unfold oAll at h
  split at h
  · obtain ⟨v, rfl, rr⟩ := r.one'
    obtain ⟨ys, hy, h⟩ := opt_of h
    obtain ⟨ns, hn, h⟩ := opt_of h
    obtain ⟨p, vs, rfl, hp, rv⟩ := asR_sem ok rr hy
    rw [blsD_of hn] at rv
    exact ⟨p, ns, rfl, rpl_bl rv ▸ hp, q _ _ w h (.refl w) rfl ok (.bl _)⟩
  · exact h.elim
theorem sem_any : SemCl K (rAny K) oAny := by
  intro w xs ds Qd Q ok r h q
  unfold oAny at h
  split at h
  · obtain ⟨v, rfl, rr⟩ := r.one'
    obtain ⟨ys, hy, h⟩ := opt_of h
    obtain ⟨ns, hn, h⟩ := opt_of h
    obtain ⟨p, vs, rfl, hp, rv⟩ := asR_sem ok rr hy
    rw [blsD_of hn] at rv
    exact ⟨p, ns, rfl, rpl_bl rv ▸ hp, q _ _ w h (.refl w) rfl ok (.bl _)⟩
  · exact h.elim
theorem sem_maxL : SemCl K (rMax K) oMaxL := by
  intro w xs ds Qd Q ok r h q
  unfold oMaxL at h
  split at h
  · obtain ⟨v, rfl, rr⟩ := r.one'
    obtain ⟨ys, hy, h⟩ := opt_of h
    obtain ⟨ns, hn, h0, h⟩ := opt_of h
    obtain ⟨p, vs, rfl, hp, rv⟩ := asR_sem ok rr hy
    rw [intsD_of hn] at rv
    exact ⟨p, ns, rfl, rpl_int rv ▸ hp, h0, fun m a b => q _ _ w (h m a b) (.refl w) rfl ok (.int _)⟩
  · exact h.elim
theorem sem_minL : SemCl K (rMin K) oMinL := by
  intro w xs ds Qd Q ok r h q
  unfold oMinL at h
  split at h
  · obtain ⟨v, rfl, rr⟩ := r.one'
    obtain ⟨ys, hy, h⟩ := opt_of h
    obtain ⟨ns, hn, h0, h⟩ := opt_of h
    obtain ⟨p, vs, rfl, hp, rv⟩ := asR_sem ok rr hy
    rw [intsD_of hn] at rv
    exact ⟨p, ns, rfl, rpl_int rv ▸ hp, h0, fun m a b => q _ _ w (h m a b) (.refl w) rfl ok (.int _)⟩
  · exact h.elim
theorem sem_max2 : SemCl K (fun xs H Q => ∃ i j, xs = [.int i, .int j] ∧ Q (.int (if j > i then j else i)) H) oMax2 := by
  intro w xs ds Qd Q ok r h q
  unfold oMax2 at h
  split at h
  · obtain ⟨v, u, rfl, ra, rb⟩ := r.two'
    cases ra; cases rb
    exact ⟨_, _, rfl, q _ _ w h (.refl w) rfl ok (.int _)⟩
  · exact h.elim
theorem sem_min2 : SemCl K (fun xs H Q => ∃ i j, xs = [.int i, .int j] ∧ Q (.int (if j < i then j else i)) H) oMin2 := by
  intro w xs ds Qd Q ok r h q
  unfold oMin2 at h
  split at h
  · obtain ⟨v, u, rfl, ra, rb⟩ := r.two'
    cases ra; cases rb
    exact ⟨_, _, rfl, q _ _ w h (.refl w) rfl ok (.int _)⟩
  · exact h.elim
theorem sem_strI : SemCl K (fun xs H Q => ∃ i, xs = [.int i] ∧ i.natAbs.log2 < 1920 ∧ Q (.str (toString i)) H) oStrI := by
  intro w xs ds Qd Q ok r h q
  unfold oStrI at h
  split at h
  · obtain ⟨v, rfl, rr⟩ := r.one'
    cases rr
    exact ⟨_, rfl, h.1, q _ _ w h.2 (.refl w) rfl ok (.str _)⟩
  · exact h.elim
end
section
variable {X : Cx} {W : WX} {e : Expr} {es : List Expr} {ta : DA} {p pos : Pos}
theorem de_sum (hc : X.calm = true) (hg : Gl X "sum") (hm : X.mg "sum" = none) (ha : PA X (e :: es) (toA X.K W ta)) (h1 : starEach (e :: es) X.env = (false, eval e X.env) :: starEach es X.env := by rfl) (h2 : (backTo pos (starEach es X.env)).any (·.1) = false := by rfl) : PE X (.Call (.Name "sum" p) (e :: es) [] pos) (toE X.K W (dCl oSum ta)) := de_callB (cr_sum hc) sem_sum hg hm (by rfl) ha (by decide) (by decide) h1 h2
theorem de_all (hc : X.calm = true) (hg : Gl X "all") (hm : X.mg "all" = none) (ha : PA X (e :: es) (toA X.K W ta)) (h1 : starEach (e :: es) X.env = (false, eval e X.env) :: starEach es X.env := by rfl) (h2 : (backTo pos (starEach es X.env)).any (·.1) = false := by rfl) : PE X (.Call (.Name "all" p) (e :: es) [] pos) (toE X.K W (dCl oAll ta)) := de_callB (cr_all hc) sem_all hg hm (by rfl) ha (by decide) (by decide) h1 h2
theorem de_any (hc : X.calm = true) (hg : Gl X "any") (hm : X.mg "any" = none) (ha : PA X (e :: es) (toA X.K W ta)) (h1 : starEach (e :: es) X.env = (false, eval e X.env) :: starEach es X.env := by rfl) (h2 : (backTo pos (starEach es X.env)).any (·.1) = false := by rfl) : PE X (.Call (.Name "any" p) (e :: es) [] pos) (toE X.K W (dCl oAny ta)) := de_callB (cr_any hc) sem_any hg hm (by rfl) ha (by decide) (by decide) h1 h2
theorem de_max2 (hc : X.calm = true) (hg : Gl X "max") (hm : X.mg "max" = none) (ha : PA X (e :: es) (toA X.K W ta)) (h1 : starEach (e :: es) X.env = (false, eval e X.env) :: starEach es X.env := by rfl) (h2 : (backTo pos (starEach es X.env)).any (·.1) = false := by rfl) : PE X (.Call (.Name "max" p) (e :: es) [] pos) (toE X.K W (dCl oMax2 ta)) := de_callB (call_max2 hc) sem_max2 hg hm (by rfl) ha (by decide) (by decide) h1 h2
theorem de_min2 (hc : X.calm = true) (hg : Gl X "min") (hm : X.mg "min" = none) (ha : PA X (e :: es) (toA X.K W ta)) (h1 : starEach (e :: es) X.env = (false, eval e X.env) :: starEach es X.env := by rfl) (h2 : (backTo pos (starEach es X.env)).any (·.1) = false := by rfl) : PE X (.Call (.Name "min" p) (e :: es) [] pos) (toE X.K W (dCl oMin2 ta)) := de_callB (call_min2 hc) sem_min2 hg hm (by rfl) ha (by decide) (by decide) h1 h2
theorem de_maxL (hc : X.calm = true) (hg : Gl X "max") (hm : X.mg "max" = none) (ha : PA X (e :: es) (toA X.K W ta)) (h1 : starEach (e :: es) X.env = (false, eval e X.env) :: starEach es X.env := by rfl) (h2 : (backTo pos (starEach es X.env)).any (·.1) = false := by rfl) : PE X (.Call (.Name "max" p) (e :: es) [] pos) (toE X.K W (dCl oMaxL ta)) := de_callB (cr_max hc) sem_maxL hg hm (by rfl) ha (by decide) (by decide) h1 h2
theorem de_minL (hc : X.calm = true) (hg : Gl X "min") (hm : X.mg "min" = none) (ha : PA X (e :: es) (toA X.K W ta)) (h1 : starEach (e :: es) X.env = (false, eval e X.env) :: starEach es X.env := by rfl) (h2 : (backTo pos (starEach es X.env)).any (·.1) = false := by rfl) : PE X (.Call (.Name "min" p) (e :: es) [] pos) (toE X.K W (dCl oMinL ta)) := de_callB (cr_min hc) sem_minL hg hm (by rfl) ha (by decide) (by decide) h1 h2
theorem de_strI (hg : Gl X "str") (hm : X.mg "str" = none) (ha : PA X (e :: es) (toA X.K W ta)) (h1 : starEach (e :: es) X.env = (false, eval e X.env) :: starEach es X.env := by rfl) (h2 : (backTo pos (starEach es X.env)).any (·.1) = false := by rfl) : PE X (.Call (.Name "str" p) (e :: es) [] pos) (toE X.K W (dCl oStrI ta)) := de_callTy call_str_int sem_strI hg hm (by rfl) ha (by decide) (by decide) h1 h2
end
end DL

set_option maxHeartbeats 4000000
namespace DL
open PySem PySem.Spec L2
/-! ## 32. A def's reading, weakened -/
/-- p promises less than m -/
def Sp2 (p m : DFn) : Prop := ∀ us S Q E, p us S Q E → m us S Q E
section
variable {P : Program} {w0 : World} {K : PySem.W.Frag} {mg : Str → Option Value} {base : Heap} {k n : Nat} {f C : Addr} {m p : DFn} {dd : List D}
theorem toSp_weak (h : Sp2 p m) {vs : List V} {H : Hp} {Q : VK} {E : XK} (g : toSp K n p vs H Q E) : toSp K n m vs H Q E := by
  obtain ⟨hn, w, us, Qd, Ed, e, ok, r, t, q, ec⟩ := g
  exact ⟨hn, w, us, Qd, Ed, e, ok, r, h _ _ _ _ t, q, ec⟩
theorem fn_weak {fd : FuncData} {ps : List Str} (h : Sp2 p m) (F : FnOk P w0 K mg base (L2.CX P w0) k f fd ps (toSp K n m)) : FnOk P w0 K mg base (L2.CX P w0) k f fd ps (toSp K n p) :=
  ⟨fun vs H Q E g => F.len _ _ _ _ (toSp_weak h g), fun A outer s H args us vs Q E hr e0 hbi r g => F.run A outer s H args us vs Q E hr e0 hbi r (toSp_weak h g)⟩
theorem Cal.weak (c : Cal P w0 K mg base k f n m dd) (h : Sp2 p m) : Cal P w0 K mg base k f n p dd := by
  obtain ⟨fd, ps, ds, dvs, F, b, v, d, kp⟩ := c.ex
  exact ⟨fd, ps, ds, dvs, fn_weak h F, b, v, d, kp⟩
theorem CalK.weak {np : Nat} {ks : List Str} {sl : List Sl} (c : CalK P w0 K mg base k f n m np ks sl dd) (h : Sp2 p m) : CalK P w0 K mg base k f n p np ks sl dd := by
  obtain ⟨fd, ps, its, dvs, F, b, d, kp⟩ := c.ex
  exact ⟨fd, ps, its, dvs, fn_weak h F, b, d, kp⟩
end
/-- C(..) as a function of data: an instance that never changes; one that may -/
def mkF (C : Addr) (m : DFn) : DFn := fun us S Q E => ∀ k, Fr S k → m (.m k :: us) (put S k (.ins C [])) (fun d S2 => d = .non ∧ ∃ fs, S2 k = some (.ins C fs) ∧ Q (.ins C fs) (del S2 k)) (fun er S2 => ∃ S3, Sub S3 S2 ∧ E er S3)
def mkM (C : Addr) (m : DFn) : DFn := fun us S Q E => ∀ k, Fr S k → m (.m k :: us) (put S k (.ins C [])) (fun d S2 => d = .non ∧ (∃ fs, S2 k = some (.ins C fs)) ∧ Q (.m k) S2) (fun er S2 => ∃ S3, Sub S3 S2 ∧ E er S3)
section
variable {X : Cx} {W : WX} {k n : Nat} {f C : Addr} {m p : DFn} {x : Str} {pp pos : Pos} {e : Expr} {es : List Expr} {ta : DA} {dd : List D}
theorem de_makePF (hp : Sp2 p (mkF C m)) (c : Cal X.prog X.w X.K X.mg X.base k f (n + 1) m dd) (M : Mk X.K C f) (hr : Room (k + 1) X.A) (tk : Takes X W) (hg : Gl X x) (hm : X.mg x = some (.ref C)) (ha : PA X (e :: es) (toA X.K W ta))
    (hdb : (x == ("__debug__" : Str)) = false := by decide) (h1 : starEach (e :: es) X.env = (false, eval e X.env) :: starEach es X.env := by rfl) (h2 : (backTo pos (starEach es X.env)).any (·.1) = false := by rfl) : PE X (.Call (.Name x pp) (e :: es) [] pos) (toE X.K W (dCall n p dd ta)) := by
  obtain ⟨fd, ps, ds, dvs, F, hb, hd, hdd, hk⟩ := c.ex
  refine pimp (pe_makeS M F hr hg hm hb hd (fun σ => passAt tk σ) ha hdb h1 h2) fun σ H Q h => ?_
  obtain ⟨w, δ, Qd, Ed, rfl, ok, lo, t, q, ec⟩ := h
  refine ⟨w, δ, _, Ed, rfl, ok, lo, t, fun us vs w1 t1 l1 ok1 r1 => ?_, ec⟩
  have hl := t1.1
  rw [List.length_append] at hl
  refine toE_make (fun _ S2 k => ∃ fs, S2 k = some (.ins C fs) ∧ Qd (.ins C fs) (del S2 k)) Qd ok1 r1 hdd (by omega) (hp _ _ _ _ t1.2) (fun k w' y a b c hα => ?_) (ec.up l1)
  obtain ⟨fs, hs, hq⟩ := a
  obtain ⟨p', o, h1, h2, h3, dx, vs', rfl, rv⟩ := c.cel k _ hs
  rw [hα] at h1
  cases h1
  have l : Le w' (w'.frz k y (.ins C dx vs')) := .frz c hs hα
  exact q (.ins C fs) (.ref y) (w'.frz k y (.ins C dx vs')) hq ((l1.trans b).trans l) (c.frz hs hα h2) (.ins upd_same (rv.up l))
theorem de_makePM (hp : Sp2 p (mkM C m)) (c : Cal X.prog X.w X.K X.mg X.base k f (n + 1) m dd) (M : Mk X.K C f) (hr : Room (k + 1) X.A) (tk : Takes X W) (hg : Gl X x) (hm : X.mg x = some (.ref C)) (ha : PA X (e :: es) (toA X.K W ta))
    (hdb : (x == ("__debug__" : Str)) = false := by decide) (h1 : starEach (e :: es) X.env = (false, eval e X.env) :: starEach es X.env := by rfl) (h2 : (backTo pos (starEach es X.env)).any (·.1) = false := by rfl) : PE X (.Call (.Name x pp) (e :: es) [] pos) (toE X.K W (dCall n p dd ta)) := by
  obtain ⟨fd, ps, ds, dvs, F, hb, hd, hdd, hk⟩ := c.ex
  refine pimp (pe_makeS M F hr hg hm hb hd (fun σ => passAt tk σ) ha hdb h1 h2) fun σ H Q h => ?_
  obtain ⟨w, δ, Qd, Ed, rfl, ok, lo, t, q, ec⟩ := h
  refine ⟨w, δ, _, Ed, rfl, ok, lo, t, fun us vs w1 t1 l1 ok1 r1 => ?_, ec⟩
  have hl := t1.1
  rw [List.length_append] at hl
  refine toE_make (fun _ S2 k => (∃ fs, S2 k = some (.ins C fs)) ∧ Qd (.m k) S2) Qd ok1 r1 hdd (by omega) (hp _ _ _ _ t1.2) (fun k w' y a b c hα => ?_) (ec.up l1)
  exact q (.m k) (.ref y) w' a.2 (l1.trans b) c (.m hα)
end
/-! ### .. by keywords alone -/
def noP : List Sl → Bool
  | [] => true
  | .p _ :: _ => false
  | _ :: r => noP r
theorem mix_noP {α : Type} {us zs ds : List α} : ∀ {sl : List Sl}, noP sl = true → mixK sl us zs ds = mixK sl [] zs ds
  | [], _ => rfl
  | .p _ :: _, h => nomatch h
  | .k i :: r, h => by
    have ih := mix_noP (us := us) (zs := zs) (ds := ds) (sl := r) h
    unfold mixK at ih ⊢
    rw [List.filterMap_cons, List.filterMap_cons, ih]
    rfl
  | .d i :: r, h => by
    have ih := mix_noP (us := us) (zs := zs) (ds := ds) (sl := r) h
    unfold mixK at ih ⊢
    rw [List.filterMap_cons, List.filterMap_cons, ih]
    rfl
def dCallK (n : Nat) (m : DFn) (nk : Nat) (sl : List Sl) (dd : List D) (tk : DA) : DE := fun δ S Q E => tk δ S (fun zs S1 => zs.length = nk ∧ (mixK sl [] zs dd).length = n ∧ m (mixK sl [] zs dd) S1 Q E) E
section
variable {X : Cx} {W : WX} {k n : Nat} {f C : Addr} {fd : FuncData} {ps ks : List Str} {sl : List Sl} {m pp : DFn} {x : Str} {p pos : Pos} {kws : List Keyword} {tk : DA} {dd : List D}
theorem de_makePMK (hp : Sp2 pp (mkM C m)) (c : CalK X.prog X.w X.K X.mg X.base k f (n + 1) m 1 ks (.p 0 :: sl) dd) (M : Mk X.K C f) (hr : Room (k + 1) X.A) (tk' : Takes X W) (hg : Gl X x) (hm : X.mg x = some (.ref C)) (hkw : PK X kws (toA X.K W tk)) (hno : noP sl = true := by rfl)
    (hall : (backToKw pos (keywordEach kws X.env)).all (·.1.isSome) = true := by rfl) (hks : (backToKw pos (keywordEach kws X.env)).filterMap (·.1) = ks := by rfl) (hdb : (x == ("__debug__" : Str)) = false := by decide)
    (hpl : ((backTo pos (starEach [] X.env)).any (·.1) || (backToKw pos (keywordEach kws X.env)).any (·.1.isNone)) = false := by rfl) : PE X (.Call (.Name x p) [] kws pos) (toE X.K W (dCallK n pp ks.length sl dd tk)) := by
  have e : ∀ (k : Nat) (zs : List D), mixK (.p 0 :: sl) [D.m k] zs dd = .m k :: mixK sl [] zs dd := fun k zs => by
    rw [← mix_noP (us := [D.m k]) hno]
    rfl
  obtain ⟨fd, ps, its, dvs, F, hb, hdd, hk⟩ := c.ex
  refine ⟨fun pins s σ H Q I h => ?_⟩
  obtain ⟨w, δ, Qd, Ed, rfl, ok, lo, t, q, ec⟩ := h
  refine wpAny_Call_Name_kw (ld_glob I hg hm ?_ hdb)
  refine PySem.W.callWith_KW0 (h₀ := X.base) I.ok.mod.kin M.kp hall ?_ hpl
  refine thn (hkw.run pos pins s σ _ (fun ws H2 => ∃ (w2 : Wd) (zs : List D), w2.H = H2 ∧ Le w w2 ∧ Ok X.K w2 ∧ RpL X.K w2.I w2.α ws zs ∧ zs.length = ks.length ∧ (mixK sl [] zs dd).length = n ∧ pp (mixK sl [] zs dd) w2.S Qd Ed) I
    ⟨w, δ, _, Ed, rfl, ok, lo, t, fun us vs w2 t2 l2 ok2 r2 => ⟨w2, us, rfl, l2, ok2, r2, t2⟩, ec⟩) fun us s2 hq2 => ?_
  obtain ⟨ws, H2, I2, rw2, w2, zs, rfl, l2, ok2, r2, hn1, hn, hm2⟩ := hq2
  refine ⟨I2.kIn, ?_⟩
  rw [hks]
  refine make_kw M F hr tk' hb I2 rw2 (by rw [r2.length]; exact hn1) fun y dy hy hd ne => ?_
  obtain ⟨w3, j, hj, eH, eS, hα, l3, ok3⟩ := made_w (C := C) ok2 hy hd ne
  have rd := hdd.r w3.I w3.α
  have hmj := hp _ _ _ _ hm2 j hj
  rw [← e j zs] at hmj
  have rm : RpL X.K w3.I w3.α (mixK (.p 0 :: sl) [.ref y] ws dvs) (mixK (.p 0 :: sl) [.m j] zs dd) := mix_rp (.one (.m hα)) (r2.up l3) rd (.p 0 :: sl)
  refine ⟨by rw [rm.length, e j zs, List.length_cons, hn], w3, _, _, _, eH, ok3, rm, by rw [eS]; exact hmj, fun d v w' a b c rv => ?_, fun er w' dx a b c re => ?_⟩
  · obtain ⟨rfl, ⟨fs, hf⟩, a⟩ := a
    cases rv
    exact ⟨rfl, q (.m j) (.ref y) w' a ((l2.trans l3).trans b) c (.m (b.aa _ _ hα))⟩
  · obtain ⟨S3, s3, a⟩ := a
    exact ec er (w'.drop S3) dx a (((l2.trans l3).trans b).trans (.drop s3)) (c.drop s3) re
theorem de_makePFK (hp : Sp2 pp (mkF C m)) (c : CalK X.prog X.w X.K X.mg X.base k f (n + 1) m 1 ks (.p 0 :: sl) dd) (M : Mk X.K C f) (hr : Room (k + 1) X.A) (tk' : Takes X W) (hg : Gl X x) (hm : X.mg x = some (.ref C)) (hkw : PK X kws (toA X.K W tk)) (hno : noP sl = true := by rfl)
    (hall : (backToKw pos (keywordEach kws X.env)).all (·.1.isSome) = true := by rfl) (hks : (backToKw pos (keywordEach kws X.env)).filterMap (·.1) = ks := by rfl) (hdb : (x == ("__debug__" : Str)) = false := by decide)
    (hpl : ((backTo pos (starEach [] X.env)).any (·.1) || (backToKw pos (keywordEach kws X.env)).any (·.1.isNone)) = false := by rfl) : PE X (.Call (.Name x p) [] kws pos) (toE X.K W (dCallK n pp ks.length sl dd tk)) := by
  have e : ∀ (k : Nat) (zs : List D), mixK (.p 0 :: sl) [D.m k] zs dd = .m k :: mixK sl [] zs dd := fun k zs => by
    rw [← mix_noP (us := [D.m k]) hno]
    rfl
  obtain ⟨fd, ps, its, dvs, F, hb, hdd, hk⟩ := c.ex
  refine ⟨fun pins s σ H Q I h => ?_⟩
  obtain ⟨w, δ, Qd, Ed, rfl, ok, lo, t, q, ec⟩ := h
  refine wpAny_Call_Name_kw (ld_glob I hg hm ?_ hdb)
  refine PySem.W.callWith_KW0 (h₀ := X.base) I.ok.mod.kin M.kp hall ?_ hpl
  refine thn (hkw.run pos pins s σ _ (fun ws H2 => ∃ (w2 : Wd) (zs : List D), w2.H = H2 ∧ Le w w2 ∧ Ok X.K w2 ∧ RpL X.K w2.I w2.α ws zs ∧ zs.length = ks.length ∧ (mixK sl [] zs dd).length = n ∧ pp (mixK sl [] zs dd) w2.S Qd Ed) I
    ⟨w, δ, _, Ed, rfl, ok, lo, t, fun us vs w2 t2 l2 ok2 r2 => ⟨w2, us, rfl, l2, ok2, r2, t2⟩, ec⟩) fun us s2 hq2 => ?_
  obtain ⟨ws, H2, I2, rw2, w2, zs, rfl, l2, ok2, r2, hn1, hn, hm2⟩ := hq2
  refine ⟨I2.kIn, ?_⟩
  rw [hks]
  refine make_kw M F hr tk' hb I2 rw2 (by rw [r2.length]; exact hn1) fun y dy hy hd ne => ?_
  obtain ⟨w3, j, hj, eH, eS, hα, l3, ok3⟩ := made_w (C := C) ok2 hy hd ne
  have rd := hdd.r w3.I w3.α
  have hmj := hp _ _ _ _ hm2 j hj
  rw [← e j zs] at hmj
  have rm : RpL X.K w3.I w3.α (mixK (.p 0 :: sl) [.ref y] ws dvs) (mixK (.p 0 :: sl) [.m j] zs dd) := mix_rp (.one (.m hα)) (r2.up l3) rd (.p 0 :: sl)
  refine ⟨by rw [rm.length, e j zs, List.length_cons, hn], w3, _, _, _, eH, ok3, rm, by rw [eS]; exact hmj, fun d v w' a b c rv => ?_, fun er w' dx a b c re => ?_⟩
  · obtain ⟨rfl, fs, hs, hq⟩ := a
    cases rv
    obtain ⟨p', o, h1, h2, h3, dx, vs', rfl, rv⟩ := c.cel j _ hs
    have hα' := b.aa _ _ hα
    rw [hα'] at h1
    cases h1
    have l : Le w' (w'.frz j y (.ins C dx vs')) := .frz c hs hα'
    exact ⟨rfl, q (.ins C fs) (.ref y) (w'.frz j y (.ins C dx vs')) hq (((l2.trans l3).trans b).trans l) (c.frz hs hα' h2) (.ins upd_same (rv.up l))⟩
  · obtain ⟨S3, s3, a⟩ := a
    exact ec er (w'.drop S3) dx a (((l2.trans l3).trans b).trans (.drop s3)) (c.drop s3) re
end
end DL

set_option maxHeartbeats 4000000
namespace DL
open PySem L2
/-! ## 33. Evaluation: what is left to do has a name, so that simp goes on at the head alone -/
abbrev QD := D → Sto → Prop
abbrev QL := List D → Sto → Prop
abbrev QB := Bool → Sto → Prop
abbrev QE := Err → Sto → Prop
def qV (Q : QD) (S : Sto) : D → Prop := fun z => Q z S
def qBin1 (f : DOp) (tb : DE) (δ : Lo) (Q : QD) (E : QE) : QD := fun x S1 => tb δ S1 (fun y S2 => f S2 x y (qV Q S2)) E
def qBin2 (f : DOp) (x : D) (Q : QD) : QD := fun y S2 => f S2 x y (qV Q S2)
def qUn (f : DUn) (Q : QD) : QD := fun x S1 => f S1 x (qV Q S1)
def qCons1 (u : DA) (δ : Lo) (Q : QL) (E : QE) : QD := fun x S1 => u δ S1 (fun xs S2 => Q (x :: xs) S2) E
def qCons2 (x : D) (Q : QL) : QL := fun xs S2 => Q (x :: xs) S2
def qCl (f : DCl) (Q : QD) : QL := fun xs S1 => f S1 xs (qV Q S1)
def qTup (Q : QD) : QL := fun xs S1 => xs.length ≤ sizeLine ∧ Q (.tup xs) S1
def qLst (Q : QL) : QL := fun xs S1 => xs.length ≤ sizeLine ∧ Q xs S1
def qFz (Q : QD) : QL := fun xs S1 => Q (.lst xs) S1
/-- a new cell: any that is free -/
def aNew (c : Cell) (S : Sto) (Q : QD) : Prop := ∀ n, Fr S n → Q (.m n) (put S n c)
def qNew (Q : QD) : QL := fun xs S1 => aNew (.lst xs) S1 Q
def qTest (Q : QB) : QD := fun d S1 => match d with
  | .bl b => Q b S1
  | _ => False
def qB (Q : QB) (S : Sto) : Bool → Prop := fun b => Q b S
def qTru (Q : QB) : QD := fun d S1 => tru S1 d (qB Q S1)
def qNot (Q : QB) : QB := fun b S1 => Q (!b) S1
def qAnd (q : DT) (δ : Lo) (Q : QB) (E : QE) : QB := fun b S1 => cnd b (q δ S1 Q E) (Q false S1)
def qOr (q : DT) (δ : Lo) (Q : QB) (E : QE) : QB := fun b S1 => cnd b (Q true S1) (q δ S1 Q E)
def qAndVb (t : DE) (δ : Lo) (d : D) (Q : QD) (E : QE) (S : Sto) : Bool → Prop := fun b => cnd b (t δ S Q E) (Q d S)
def qOrVb (t : DE) (δ : Lo) (d : D) (Q : QD) (E : QE) (S : Sto) : Bool → Prop := fun b => cnd b (Q d S) (t δ S Q E)
def qAndV (t : DE) (δ : Lo) (Q : QD) (E : QE) : QD := fun d S1 => tru S1 d (qAndVb t δ d Q E S1)
def qOrV (t : DE) (δ : Lo) (Q : QD) (E : QE) : QD := fun d S1 => tru S1 d (qOrVb t δ d Q E S1)
def qNotVb (Q : QD) (S : Sto) : Bool → Prop := fun b => Q (.bl (!b)) S
def qNotV (Q : QD) : QD := fun d S1 => tru S1 d (qNotVb Q S1)
def qIfE (t u : DE) (δ : Lo) (Q : QD) (E : QE) : QB := fun b S1 => cnd b (t δ S1 Q E) (u δ S1 Q E)
def qChV (g : DOp) (tc : DE) (δ : Lo) (y : D) (Q : QD) (E : QE) (S : Sto) : D → Prop := fun z => match z with
  | .bl b => cnd b (tc δ S (fun u S3 => g S3 y u fun z => Q z S3) E) (Q (.bl false) S)
  | _ => False
def qCh2 (f g : DOp) (tc : DE) (δ : Lo) (x : D) (Q : QD) (E : QE) : QD := fun y S2 => f S2 x y (qChV g tc δ y Q E S2)
def qCh1 (f g : DOp) (tb tc : DE) (δ : Lo) (Q : QD) (E : QE) : QD := fun x S1 => tb δ S1 (qCh2 f g tc δ x Q E) E
/-! branches that wait -/
def iffS (b : Bool) (s t : DS) (B : DEnds) (δ : Lo) (S : Sto) : Prop := cnd b (s B δ S) (t B δ S)
def andS (b : Bool) (q : DT) (δ : Lo) (S : Sto) (Q : QB) (E : QE) : Prop := cnd b (q δ S Q E) (Q false S)
def orrS (b : Bool) (q : DT) (δ : Lo) (S : Sto) (Q : QB) (E : QE) : Prop := cnd b (Q true S) (q δ S Q E)
def andVS (b : Bool) (t : DE) (δ : Lo) (d : D) (S : Sto) (Q : QD) (E : QE) : Prop := cnd b (t δ S Q E) (Q d S)
def orrVS (b : Bool) (t : DE) (δ : Lo) (d : D) (S : Sto) (Q : QD) (E : QE) : Prop := cnd b (Q d S) (t δ S Q E)
def ifES (b : Bool) (t u : DE) (δ : Lo) (S : Sto) (Q : QD) (E : QE) : Prop := cnd b (t δ S Q E) (u δ S Q E)
def chnS (b : Bool) (g : DOp) (tc : DE) (δ : Lo) (y : D) (S : Sto) (Q : QD) (E : QE) : Prop := cnd b (tc δ S (qBin2 g y Q) E) (Q (.bl false) S)
def qBl (Q : QD) (S : Sto) : Bool → Prop := fun b => Q (.bl b) S
def qXor (neg : Bool) (k : D → Prop) : Bool → Prop := fun b => k (.bl (neg ^^ b))
def qLenK (k : D → Prop) : List D → Prop := fun ds => k (.int ds.length)
def qTupK (k : D → Prop) : List D → Prop := fun ds => k (.tup ds)
def qLk (Q : QL) (S : Sto) : List D → Prop := fun ds => Q ds S
def qNx (B : DEnds) (S : Sto) : Lo → Prop := fun δ' => B.nx δ' S
def qLo (Q : Lo → Sto → Prop) (S : Sto) : Lo → Prop := fun δ' => Q δ' S
def qChr (k : D → Prop) : Nat → Prop := fun c => k (.str ⟨#[c]⟩)
def qSetC (n : Nat) (xs : List D) (d : D) (δ : Lo) (B : DEnds) (S : Sto) : Nat → Prop := fun a => B.nx δ (put S n (.lst (xs.set a d)))
def qExtK (n : Nat) (xs : List D) (Q : QD) (S : Sto) : List D → Prop := fun es => xs.length + es.length ≤ sizeLine ∧ Q .non (put S n (.lst (xs ++ es)))
def qCt2 (ds : List D) (Q : QL) (S : Sto) : List D → Prop := fun es => ds.length + es.length ≤ sizeLine ∧ Q (ds ++ es) S
def qCt1 (o : Option (List D)) (Q : QL) (S : Sto) : List D → Prop := fun ds => opt o (qCt2 ds Q S)
def hsS (o : Option Bool) (sl : Option Nat) (su : Addr → Addr → Err → DS) (B : DEnds) (er : Err) (δ : Lo) (S : Sto) (hs : List Hd) : Prop := match o with
  | some true => ∀ a dx, su a dx er { nx := fun δ' S' => B.nx (unset sl δ') S', rt := B.rt, bk := fun δ' S' => B.bk (unset sl δ') S', ct := fun δ' S' => B.ct (unset sl δ') S', ex := fun _ _ _ => False } (heldD sl a dx er δ) S
  | some false => dHs B er δ S hs
  | none => False
def var (o : Option (Option D)) (k : D → Prop) : Prop := match o with
  | some (some d) => k d
  | _ => False
/-! statements -/
def eB (B : DEnds) (δ : Lo) : QE := fun er S1 => B.ex er δ S1
def kSeq (t : DS) (B : DEnds) : DEnds := { B with nx := fun δ' S' => t B δ' S' }
def qSet (i : Nat) (δ : Lo) (B : DEnds) : QD := fun d S1 => B.nx (δ.set i (some d)) S1
def qRet (B : DEnds) : QD := fun d S1 => B.rt d S1
def qEx (δ : Lo) (B : DEnds) : QD := fun _ S1 => B.nx δ S1
def qIf (s t : DS) (B : DEnds) (δ : Lo) : QB := fun b S1 => cnd b (s B δ S1) (t B δ S1)
def qFor (g : DG) (s : DS) (B : DEnds) (δ : Lo) : List D → (Sto → Prop) → Sto → Prop := fun ds kp S1 => dLoop kp g s ds B δ S1
def qRaise (C : Addr) (fs : List Str) (B : DEnds) (δ : Lo) : QL := fun us S1 => us.length = fs.length ∧ B.ex ⟨C, (fs.zip us).reverse⟩ δ S1
def qCall (n : Nat) (m : DFn) (dd : List D) (Q : QD) (E : QE) : QL := fun us S1 => (us ++ dd).length = n ∧ m (us ++ dd) S1 Q E
/-- the end of a def: cells may be dropped -/
def drp (S' : Sto) (P : Sto → Prop) : Prop := ∃ S'', Sub S'' S' ∧ P S''
def bFn (Q : QD) (E : QE) : DEnds := { nx := fun _ S' => drp S' (Q .non), rt := fun d S' => drp S' (Q d), bk := fun _ _ => False, ct := fun _ _ => False, ex := fun er _ S' => drp S' (E er) }
def kLp (kp : Sto → Prop) (g : DG) (body : DS) (ds : List D) (B : DEnds) : DEnds := { nx := fun δ2 S2 => dLoop kp g body ds B δ2 S2, ct := fun δ2 S2 => dLoop kp g body ds B δ2 S2, bk := B.nx, rt := B.rt, ex := B.ex }
def qLp (kp : Sto → Prop) (g : DG) (body : DS) (ds : List D) (B : DEnds) : Lo → Sto → Prop := fun δ1 S1 => body (kLp kp g body ds B) δ1 S1
def kTry (hs : List Hd) (B : DEnds) : DEnds := { nx := B.nx, rt := B.rt, bk := B.bk, ct := B.ct, ex := fun er δ' S' => dHs B er δ' S' hs }
def kSu (sl : Option Nat) (B : DEnds) : DEnds := { nx := fun δ' S' => B.nx (unset sl δ') S', rt := B.rt, bk := fun δ' S' => B.bk (unset sl δ') S', ct := fun δ' S' => B.ct (unset sl δ') S', ex := fun _ _ _ => False }
section
variable {δ : Lo} {S : Sto} {Q : QD} {Qa : QL} {Qt : QB} {E : QE} {B : DEnds} {i n : Nat} {ta tb tc : DE} {u : DA} {p q : DT} {s t : DS} {d x y z : D} {k : D → Prop} {kb : Bool → Prop} {xs ys : List D} {f g : DOp} {b : Bool} {er : Err}
@[simp] theorem ev_var : dVar i δ S Q E = var δ[i]? (qV Q S) := rfl
@[simp] theorem ev_var1 : var (some (some d)) k = k d := rfl
@[simp] theorem ev_qV : qV Q S d = Q d S := rfl
@[simp] theorem ev_c : dC d δ S Q E = Q d S := rfl
@[simp] theorem ev_bin : dBin f ta tb δ S Q E = ta δ S (qBin1 f tb δ Q E) E := rfl
@[simp] theorem ev_bin1 : qBin1 f tb δ Q E x S = tb δ S (qBin2 f x Q) E := rfl
@[simp] theorem ev_bin2 : qBin2 f x Q y S = f S x y (qV Q S) := rfl
@[simp] theorem ev_un {f : DUn} : dUn f ta δ S Q E = ta δ S (qUn f Q) E := rfl
@[simp] theorem ev_un1 {f : DUn} : qUn f Q x S = f S x (qV Q S) := rfl
@[simp] theorem ev_nil : dNil δ S Qa E = Qa [] S := rfl
@[simp] theorem ev_cons : dCons ta u δ S Qa E = ta δ S (qCons1 u δ Qa E) E := rfl
@[simp] theorem ev_cons1 : qCons1 u δ Qa E x S = u δ S (qCons2 x Qa) E := rfl
@[simp] theorem ev_cons2 : qCons2 x Qa xs S = Qa (x :: xs) S := rfl
@[simp] theorem ev_cl {f : DCl} : dCl f u δ S Q E = u δ S (qCl f Q) E := rfl
@[simp] theorem ev_cl1 {f : DCl} : qCl f Q xs S = f S xs (qV Q S) := rfl
@[simp] theorem ev_tup : dTup u δ S Q E = u δ S (qTup Q) E := rfl
@[simp] theorem ev_tup1 : qTup Q xs S = (xs.length ≤ sizeLine ∧ Q (.tup xs) S) := rfl
@[simp] theorem ev_lst : dLst u δ S Qa E = u δ S (qLst Qa) E := rfl
@[simp] theorem ev_lst1 : qLst Qa xs S = (xs.length ≤ sizeLine ∧ Qa xs S) := rfl
@[simp] theorem ev_fz : dFz u δ S Q E = u δ S (qFz Q) E := rfl
@[simp] theorem ev_fz1 : qFz Q xs S = Q (.lst xs) S := rfl
@[simp] theorem ev_new : dNew u δ S Q E = u δ S (qNew Q) E := rfl
@[simp] theorem ev_new1 : qNew Q xs S = aNew (.lst xs) S Q := rfl
@[simp] theorem ev_b : dB ta δ S Qt E = ta δ S (qTest Qt) E := rfl
@[simp] theorem ev_b1 : qTest Qt (.bl b) S = Qt b S := rfl
@[simp] theorem ev_tru : dTru ta δ S Qt E = ta δ S (qTru Qt) E := rfl
@[simp] theorem ev_tru1 : qTru Qt d S = tru S d (qB Qt S) := rfl
@[simp] theorem ev_qB : qB Qt S b = Qt b S := rfl
@[simp] theorem ev_not : dNot p δ S Qt E = p δ S (qNot Qt) E := rfl
@[simp] theorem ev_not1 : qNot Qt b S = Qt (!b) S := rfl
@[simp] theorem ev_and : dAnd p q δ S Qt E = p δ S (qAnd q δ Qt E) E := rfl
@[simp] theorem ev_and1 : qAnd q δ Qt E b S = andS b q δ S Qt E := rfl
@[simp] theorem ev_or : dOr p q δ S Qt E = p δ S (qOr q δ Qt E) E := rfl
@[simp] theorem ev_or1 : qOr q δ Qt E b S = orrS b q δ S Qt E := rfl
@[simp] theorem ev_andV : dAndV ta tb δ S Q E = ta δ S (qAndV tb δ Q E) E := rfl
@[simp] theorem ev_andV1 : qAndV tb δ Q E d S = tru S d (qAndVb tb δ d Q E S) := rfl
@[simp] theorem ev_andV2 : qAndVb tb δ d Q E S b = andVS b tb δ d S Q E := rfl
@[simp] theorem ev_orV : dOrV ta tb δ S Q E = ta δ S (qOrV tb δ Q E) E := rfl
@[simp] theorem ev_orV1 : qOrV tb δ Q E d S = tru S d (qOrVb tb δ d Q E S) := rfl
@[simp] theorem ev_orV2 : qOrVb tb δ d Q E S b = orrVS b tb δ d S Q E := rfl
@[simp] theorem ev_notV : dNotV ta δ S Q E = ta δ S (qNotV Q) E := rfl
@[simp] theorem ev_notV1 : qNotV Q d S = tru S d (qNotVb Q S) := rfl
@[simp] theorem ev_notV2 : qNotVb Q S b = Q (.bl (!b)) S := rfl
@[simp] theorem ev_ifE : dIfE p ta tb δ S Q E = p δ S (qIfE ta tb δ Q E) E := rfl
@[simp] theorem ev_ifE1 : qIfE ta tb δ Q E b S = ifES b ta tb δ S Q E := rfl
@[simp] theorem ev_yes : dYes δ S Qt E = Qt true S := rfl
@[simp] theorem ev_chain : dChain f g ta tb tc δ S Q E = ta δ S (qCh1 f g tb tc δ Q E) E := by
  unfold dChain
  congr 1
@[simp] theorem ev_chain1 : qCh1 f g tb tc δ Q E x S = tb δ S (qCh2 f g tc δ x Q E) E := rfl
@[simp] theorem ev_chain2 : qCh2 f g tc δ x Q E y S = f S x y (qChV g tc δ y Q E S) := rfl
@[simp] theorem ev_chain3 : qChV g tc δ y Q E S (.bl b) = chnS b g tc δ y S Q E := rfl
@[simp] theorem cnd_t {A C : Prop} : cnd true A C = A := rfl
@[simp] theorem cnd_f {A C : Prop} : cnd false A C = C := rfl
@[simp] theorem iffS_t {s t : DS} : iffS true s t B δ S = s B δ S := rfl
@[simp] theorem iffS_f {s t : DS} : iffS false s t B δ S = t B δ S := rfl
@[simp] theorem iffS_n {s t : DS} : iffS (!b) s t B δ S = iffS b t s B δ S := by cases b <;> rfl
@[simp] theorem andS_t {q : DT} : andS true q δ S Qt E = q δ S Qt E := rfl
@[simp] theorem andS_f {q : DT} : andS false q δ S Qt E = Qt false S := rfl
@[simp] theorem orrS_t {q : DT} : orrS true q δ S Qt E = Qt true S := rfl
@[simp] theorem orrS_f {q : DT} : orrS false q δ S Qt E = q δ S Qt E := rfl
@[simp] theorem andVS_t : andVS true ta δ d S Q E = ta δ S Q E := rfl
@[simp] theorem andVS_f : andVS false ta δ d S Q E = Q d S := rfl
@[simp] theorem orrVS_t : orrVS true ta δ d S Q E = Q d S := rfl
@[simp] theorem orrVS_f : orrVS false ta δ d S Q E = ta δ S Q E := rfl
@[simp] theorem ifES_t : ifES true ta tb δ S Q E = ta δ S Q E := rfl
@[simp] theorem ifES_f : ifES false ta tb δ S Q E = tb δ S Q E := rfl
@[simp] theorem chnS_t : chnS true g tc δ y S Q E = tc δ S (qBin2 g y Q) E := rfl
@[simp] theorem chnS_f : chnS false g tc δ y S Q E = Q (.bl false) S := rfl
@[simp] theorem ev_qBl : qBl Q S b = Q (.bl b) S := rfl
@[simp] theorem ev_qXor {neg : Bool} : qXor neg k b = k (.bl (neg ^^ b)) := rfl
@[simp] theorem ev_qLenK : qLenK k xs = k (.int xs.length) := rfl
@[simp] theorem ev_qTupK : qTupK k xs = k (.tup xs) := rfl
@[simp] theorem ev_qLk : qLk Qa S xs = Qa xs S := rfl
@[simp] theorem ev_qNx : qNx B S δ = B.nx δ S := rfl
@[simp] theorem ev_qLo {Ql : Lo → Sto → Prop} : qLo Ql S δ = Ql δ S := rfl
@[simp] theorem ev_qChr {c : Nat} : qChr k c = k (.str ⟨#[c]⟩) := rfl
@[simp] theorem ev_qSetC : qSetC n xs d δ B S i = B.nx δ (put S n (.lst (xs.set i d))) := rfl
@[simp] theorem ev_qExtK : qExtK n xs Q S ys = (xs.length + ys.length ≤ sizeLine ∧ Q .non (put S n (.lst (xs ++ ys)))) := rfl
@[simp] theorem ev_qCt2 : qCt2 xs Qa S ys = (xs.length + ys.length ≤ sizeLine ∧ Qa (xs ++ ys) S) := rfl
@[simp] theorem ev_qCt1 {o : Option (List D)} : qCt1 o Qa S xs = opt o (qCt2 xs Qa S) := rfl
theorem iff_of {s t : DS} (h : b = true → s B δ S) (h2 : b = false → t B δ S) : iffS b s t B δ S := by
  cases b with
  | true => exact h rfl
  | false => exact h2 rfl
theorem iff_dec {P : Prop} [Decidable P] {s t : DS} (h : P → s B δ S) (h2 : ¬ P → t B δ S) : iffS (decide P) s t B δ S := by
  by_cases z : P
  · rw [decide_eq_true z]; exact h z
  · rw [decide_eq_false z]; exact h2 z
theorem and_of {q : DT} (h : b = true → q δ S Qt E) (h2 : b = false → Qt false S) : andS b q δ S Qt E := by
  cases b with
  | true => exact h rfl
  | false => exact h2 rfl
theorem or_of {q : DT} (h : b = true → Qt true S) (h2 : b = false → q δ S Qt E) : orrS b q δ S Qt E := by
  cases b with
  | true => exact h rfl
  | false => exact h2 rfl
theorem cnd_of {b : Bool} {A C : Prop} (h : b = true → A) (g : b = false → C) : cnd b A C := by
  cases b with
  | true => exact h rfl
  | false => exact g rfl
theorem cnd_dec {P A C : Prop} [Decidable P] (h : P → A) (g : ¬ P → C) : cnd (decide P) A C := by
  by_cases q : P
  · rw [decide_eq_true q]; exact h q
  · rw [decide_eq_false q]; exact g q
theorem cnd_and {b c : Bool} {A C : Prop} : cnd (b && c) A C = cnd b (cnd c A C) C := by cases b <;> rfl
theorem cnd_or {b c : Bool} {A C : Prop} : cnd (b || c) A C = cnd b A (cnd c A C) := by cases b <;> rfl
@[simp] theorem cnd_not {b : Bool} {A C : Prop} : cnd (!b) A C = cnd b C A := by cases b <;> rfl
@[simp] theorem opt_s {A : Type} {a : A} {k : A → Prop} : opt (some a) k = k a := rfl
@[simp] theorem opt_n {A : Type} {k : A → Prop} : opt none k = False := rfl
theorem opt_eq {A : Type} {o : Option A} {a : A} {k : A → Prop} (h : o = some a) (g : k a) : opt o k := by rw [h]; exact g
/-! truth -/
@[simp] theorem tru_non : tru S .non kb = kb false := rfl
@[simp] theorem tru_bl : tru S (.bl b) kb = kb b := rfl
@[simp] theorem tru_int {j : Int} : tru S (.int j) kb = kb (j != 0) := rfl
@[simp] theorem tru_tup : tru S (.tup xs) kb = kb (!xs.isEmpty) := rfl
@[simp] theorem tru_lst : tru S (.lst xs) kb = kb (!xs.isEmpty) := rfl
@[simp] theorem tru_str {z : Str} : tru S (.str z) kb = (z.length ≤ sizeLine ∧ kb ((z.length : Int) != 0)) := rfl
/-! lists -/
@[simp] theorem asSq_tup : asSq S (.tup xs) = some xs := rfl
@[simp] theorem asSq_lst : asSq S (.lst xs) = some xs := rfl
@[simp] theorem asSq_rol : asSq S (.rol xs) = some xs := rfl
@[simp] theorem asR_lst : asR S (.lst xs) = some xs := rfl
@[simp] theorem asR_rol : asR S (.rol xs) = some xs := rfl
@[simp] theorem asL_lst : asL S (.lst xs) = some xs := rfl
def celO : Option Cell → Option (List D)
  | some (.lst ds) => some ds
  | _ => none
@[simp] theorem celO_l : celO (some (.lst xs)) = some xs := rfl
@[simp] theorem asR_m : asR S (.m n) = celO (S n) := by
  show (match S n with | some (.lst ds) => some ds | _ => none) = celO (S n)
  unfold celO
  rfl
@[simp] theorem asSq_m : asSq S (.m n) = celO (S n) := asR_m
@[simp] theorem asL_m : asL S (.m n) = celO (S n) := asR_m
/-- the item of an optional row at a place -/
def ixO (o : Option (List D)) (j : Int) (k : D → Prop) : Prop := opt o fun ds => opt (atI ds j) k
@[simp] theorem ixO_s {j : Int} : ixO (some xs) j k = opt (atI xs j) k := rfl
@[simp] theorem ix_tup {j : Int} : oIx S (.tup xs) (.int j) k = opt (atI xs j) k := rfl
@[simp] theorem ix_lst {j : Int} : oIx S (.lst xs) (.int j) k = opt (atI xs j) k := rfl
@[simp] theorem ix_rol {j : Int} : oIx S (.rol xs) (.int j) k = opt (atI xs j) k := rfl
@[simp] theorem ix_m {j : Int} : oIx S (.m n) (.int j) k = ixO (celO (S n)) j k := by
  show opt (asSq S (.m n)) _ = _
  rw [asSq_m]
  rfl
@[simp] theorem ix_str {z : Str} {j : Int} : oIx S (.str z) (.int j) k = (z.length ≤ sizeLine ∧ opt (atI z.cps.toList j) (qChr k)) := rfl
theorem at_nat {A : Type} {l : List A} {j : Nat} {a : A} (h : l[j]? = some a) : atI l (j : Int) = some a := by
  have hl : j < l.length := by
    by_cases q : j < l.length
    · exact q
    · rw [List.getElem?_eq_none (by omega)] at h
      cases h
  unfold atI ixN
  rw [if_pos (by omega), if_pos (by omega)]
  simpa using h
theorem at_int {A : Type} {l : List A} {j : Int} {a : A} (h0 : 0 ≤ j) (h : l[j.toNat]? = some a) : atI l j = some a := by
  have q := at_nat h
  rwa [Int.toNat_of_nonneg h0] at q
theorem at_get {A : Type} {l : List A} {j : Int} (h0 : 0 ≤ j) (h1 : j < l.length) : atI l j = some (l[j.toNat]'(by omega)) := at_int h0 (List.getElem?_eq_getElem (by omega))
@[simp] theorem at_0 {A : Type} {l : List A} {a : A} : atI (a :: l) 0 = some a := by
  unfold atI ixN
  rw [if_pos (by decide), if_pos (by simp)]
  rfl
@[simp] theorem at_1 {A : Type} {l : List A} {a b : A} : atI (a :: b :: l) 1 = some b := at_nat (j := 1) rfl
@[simp] theorem at_2 {A : Type} {l : List A} {a b c : A} : atI (a :: b :: c :: l) 2 = some c := at_nat (j := 2) rfl
@[simp] theorem at_3 {A : Type} {l : List A} {a b c d : A} : atI (a :: b :: c :: d :: l) 3 = some d := at_nat (j := 3) rfl
@[simp] theorem at_4 {A : Type} {l : List A} {a b c d e : A} : atI (a :: b :: c :: d :: e :: l) 4 = some e := at_nat (j := 4) rfl
theorem at_last {A : Type} {l : List A} {a : A} : atI (l ++ [a]) (-1) = some a := by
  unfold atI ixN
  rw [if_neg (by decide), if_pos (by simp; omega)]
  have e : ((-1 : Int) + ((l ++ [a]).length : Int)).toNat = l.length := by
    rw [List.length_append, List.length_singleton]
    omega
  show (l ++ [a])[((-1 : Int) + ((l ++ [a]).length : Int)).toNat]? = some a
  rw [e]
  simp
/-! numbers -/
/-- an optional row behind which a row stands -/
def catO (xs : List D) (o : Option (List D)) (k : D → Prop) : Prop := opt o fun b => xs.length + b.length ≤ sizeLine ∧ k (.lst (xs ++ b))
@[simp] theorem catO_s : catO xs (some ys) k = (xs.length + ys.length ≤ sizeLine ∧ k (.lst (xs ++ ys))) := rfl
@[simp] theorem add_int {i j : Int} : oAdd S (.int i) (.int j) k = k (.int (i + j)) := rfl
@[simp] theorem add_tup : oAdd S (.tup xs) (.tup ys) k = (xs.length + ys.length ≤ sizeLine ∧ k (.tup (xs ++ ys))) := rfl
@[simp] theorem add_lst : oAdd S (.lst xs) y k = catO xs (asL S y) k := rfl
@[simp] theorem add_m : oAdd S (.m n) y k = opt (celO (S n)) fun a => catO a (asL S y) k := by
  show opt (asL S (.m n)) _ = _
  rw [asL_m]
  rfl
@[simp] theorem add_str {a b : Str} : oAdd S (.str a) (.str b) k = (a.length + b.length ≤ sizeLine ∧ k (.str (a ++ b))) := rfl
@[simp] theorem i0_int {g : Int → Int → Int} {i j : Int} : oI0 g S (.int i) (.int j) k = k (.int (g i j)) := rfl
@[simp] theorem sub_int {i j : Int} : oSub S (.int i) (.int j) k = k (.int (i - j)) := rfl
@[simp] theorem i_int {C : Int → Int → Prop} {g : Int → Int → Int} {i j : Int} : oI C g S (.int i) (.int j) k = (C i j ∧ k (.int (g i j))) := rfl
@[simp] theorem c0_int {g : Int → Int → Bool} {i j : Int} : oC0 g S (.int i) (.int j) k = k (.bl (g i j)) := rfl
@[simp] theorem lt_int {i j : Int} : oLt S (.int i) (.int j) k = k (.bl (decide (i < j))) := rfl
@[simp] theorem le_int {i j : Int} : oLe S (.int i) (.int j) k = k (.bl (decide (i ≤ j))) := rfl
@[simp] theorem gt_int {i j : Int} : oGt S (.int i) (.int j) k = k (.bl (decide (i > j))) := rfl
@[simp] theorem ge_int {i j : Int} : oGe S (.int i) (.int j) k = k (.bl (decide (i ≥ j))) := rfl
@[simp] theorem mul_int {i j : Int} : oMul S (.int i) (.int j) k = ((CMul i j ∨ CMulW i j) ∧ k (.int (i * j))) := rfl
@[simp] theorem mul_tup {j : Int} : oMul S (.tup xs) (.int j) k = (xs ≠ [] ∧ 2 ≤ j ∧ j ≤ 1000 ∧ xs.length ≤ 1000 ∧ k (.tup (List.replicate j.toNat xs).flatten)) := rfl
@[simp] theorem neg_int {i : Int} : oNeg S (.int i) k = k (.int (-i)) := rfl
theorem fd_int {i j : Int} (h : 0 < j) (h2 : j < 1073741824) (g : k (.int (i / j))) : oFd S (.int i) (.int j) k := by
  show (if 0 < j then j.natAbs.log2 < 9000 ∧ k (.int (i / j)) else _)
  rw [if_pos h]
  refine ⟨?_, g⟩
  have : j.natAbs.log2 < 30 := (Nat.log2_lt (by omega)).mpr (by omega)
  omega
/-- the evaluation of // and % by a number above 0 -/
@[simp] theorem fd_ev {i j : Int} (h : 0 < j) : oFd S (.int i) (.int j) k = (j.natAbs.log2 < 9000 ∧ k (.int (i / j))) := by
  show (if 0 < j then j.natAbs.log2 < 9000 ∧ k (.int (i / j)) else _) = _
  rw [if_pos h]
@[simp] theorem mod_ev {i j : Int} (h : 0 < j) : oMod S (.int i) (.int j) k = k (.int (i % j)) := by
  show (if 0 < j then k (.int (i % j)) else _) = _
  rw [if_pos h]
theorem mod_int {i j : Int} (h : 0 < j) (g : k (.int (i % j))) : oMod S (.int i) (.int j) k := by
  show (if 0 < j then k (.int (i % j)) else _)
  rw [if_pos h]
  exact g
@[simp] theorem eq_int {neg : Bool} {i j : Int} : oEq neg S (.int i) (.int j) k = k (.bl (neg ^^ decide (i = j))) := rfl
@[simp] theorem eq_str {neg : Bool} {i j : Str} : oEq neg S (.str i) (.str j) k = k (.bl (neg ^^ (i == j))) := rfl
@[simp] theorem eq_bl {neg : Bool} {i j : Bool} : oEq neg S (.bl i) (.bl j) k = k (.bl (neg ^^ decide (i = j))) := rfl
@[simp] theorem eq_non {neg : Bool} : oEq neg S .non .non k = k (.bl (neg ^^ true)) := rfl
@[simp] theorem isN_ev {neg : Bool} : oIsN neg S d .non k = opt (isN d) (qXor neg k) := rfl
@[simp] theorem isN_non : isN .non = some true := rfl
@[simp] theorem isN_int {j : Int} : isN (.int j) = some false := rfl
@[simp] theorem isN_bl : isN (.bl b) = some false := rfl
@[simp] theorem isN_str {z : Str} : isN (.str z) = some false := rfl
@[simp] theorem isN_tup : isN (.tup xs) = some false := rfl
@[simp] theorem isN_lst : isN (.lst xs) = some false := rfl
@[simp] theorem isN_m : isN (.m n) = some false := rfl
@[simp] theorem isN_ins {C : Addr} {fs : List (Str × D)} : isN (.ins C fs) = some false := rfl
/-! built-ins -/
@[simp] theorem len_lst : oLen S [.lst xs] k = k (.int xs.length) := rfl
@[simp] theorem len_tup : oLen S [.tup xs] k = k (.int xs.length) := rfl
@[simp] theorem len_rol : oLen S [.rol xs] k = k (.int xs.length) := rfl
@[simp] theorem len_str {z : Str} : oLen S [.str z] k = (z.length ≤ sizeLine ∧ k (.int z.length)) := rfl
@[simp] theorem len_m : oLen S [.m n] k = opt (celO (S n)) (qLenK k) := by
  show opt (asSq S (.m n)) _ = _
  rw [asSq_m]
  rfl
@[simp] theorem int_int {j : Int} : oInt S [.int j] k = k (.int j) := rfl
@[simp] theorem int_bl : oInt S [.bl b] k = k (.int (if b then 1 else 0)) := rfl
@[simp] theorem abs_int {j : Int} : oAbs S [.int j] k = k (.int (if j < 0 then -j else j)) := rfl
@[simp] theorem tuple_of : oTuple S [d] k = opt (asSq S d) (qTupK k) := rfl
def qListOf (Q : QL) : QL := fun ds S1 => (match ds with
  | [d] => opt (asSq S1 d) fun xs => Q xs S1
  | _ => False)
@[simp] theorem ev_listOf : dListOf u δ S Qa E = u δ S (qListOf Qa) E := rfl
@[simp] theorem ev_listOf1 : qListOf Qa [d] S = opt (asSq S d) (qLk Qa S) := rfl
def qRep2 (x : D) (Q : QL) : QD := fun y S2 => opt (asL S2 x) fun ds => match y with
  | .int j => -(2 ^ 63) ≤ j ∧ j < 2 ^ 63 ∧ ds.length * j.toNat ≤ sizeLine ∧ Q (List.replicate j.toNat ds).flatten S2
  | _ => False
def qRep1 (tb : DE) (δ : Lo) (Q : QL) (E : QE) : QD := fun x S1 => tb δ S1 (qRep2 x Q) E
@[simp] theorem ev_rep : dRep ta tb δ S Qa E = ta δ S (qRep1 tb δ Qa E) E := rfl
@[simp] theorem ev_rep1 : qRep1 tb δ Qa E x S = tb δ S (qRep2 x Qa) E := rfl
@[simp] theorem ev_rep2 {j : Int} : qRep2 (.lst xs) Qa (.int j) S = (-(2 ^ 63) ≤ j ∧ j < 2 ^ 63 ∧ xs.length * j.toNat ≤ sizeLine ∧ Qa (List.replicate j.toNat xs).flatten S) := rfl
def qCat2 (x : D) (Q : QL) : QD := fun y S2 => opt (asL S2 x) fun ds => opt (asL S2 y) fun es => ds.length + es.length ≤ sizeLine ∧ Q (ds ++ es) S2
def qCat1 (tb : DE) (δ : Lo) (Q : QL) (E : QE) : QD := fun x S1 => tb δ S1 (qCat2 x Q) E
@[simp] theorem ev_cat : dCat ta tb δ S Qa E = ta δ S (qCat1 tb δ Qa E) E := rfl
@[simp] theorem ev_cat1 : qCat1 tb δ Qa E x S = tb δ S (qCat2 x Qa) E := rfl
@[simp] theorem ev_cat2 : qCat2 x Qa y S = opt (asL S x) (qCt1 (asL S y) Qa S) := rfl
/-! statements -/
@[simp] theorem ev_skip : dSkip B δ S = B.nx δ S := rfl
@[simp] theorem ev_seq : dSeq s t B δ S = s (kSeq t B) δ S := rfl
@[simp] theorem kSeq_nx : (kSeq t B).nx δ S = t B δ S := rfl
@[simp] theorem kSeq_rt : (kSeq t B).rt d S = B.rt d S := rfl
@[simp] theorem kSeq_bk : (kSeq t B).bk δ S = B.bk δ S := rfl
@[simp] theorem kSeq_ct : (kSeq t B).ct δ S = B.ct δ S := rfl
@[simp] theorem kSeq_ex : (kSeq t B).ex er δ S = B.ex er δ S := rfl
@[simp] theorem ev_brk : dBrk B δ S = B.bk δ S := rfl
@[simp] theorem ev_cnt : dCnt B δ S = B.ct δ S := rfl
@[simp] theorem ev_ret : dRet ta B δ S = ta δ S (qRet B) (eB B δ) := rfl
@[simp] theorem ev_ret1 : qRet B d S = B.rt d S := rfl
@[simp] theorem ev_retN : dRetN B δ S = B.rt .non S := rfl
@[simp] theorem ev_eB : eB B δ er S = B.ex er δ S := rfl
@[simp] theorem ev_ex : dEx ta B δ S = ta δ S (qEx δ B) (eB B δ) := rfl
@[simp] theorem ev_ex1 : qEx δ B d S = B.nx δ S := rfl
@[simp] theorem ev_set : dSet i ta B δ S = ta δ S (qSet i δ B) (eB B δ) := rfl
@[simp] theorem ev_set1 : qSet i δ B d S = B.nx (δ.set i (some d)) S := rfl
@[simp] theorem ev_if : dIf p s t B δ S = p δ S (qIf s t B δ) (eB B δ) := rfl
@[simp] theorem ev_if1 : qIf s t B δ b S = iffS b s t B δ S := rfl
@[simp] theorem ev_for {src : DI} {g : DG} : dFor src g s B δ S = src δ S (qFor g s B δ) (eB B δ) := rfl
@[simp] theorem ev_for1 {g : DG} {kp : Sto → Prop} : qFor g s B δ xs kp S = dLoop kp g s xs B δ S := rfl
@[simp] theorem ev_gN {Ql : Lo → Sto → Prop} : gN i d δ S Ql = Ql (δ.set i (some d)) S := rfl
@[simp] theorem ev_gT {is : List Nat} {Ql : Lo → Sto → Prop} : gT is (.tup xs) δ S Ql = opt (setsD is xs δ) (qLo Ql S) := rfl
@[simp] theorem setsD_nil : setsD [] [] δ = some δ := rfl
@[simp] theorem setsD_cons {is : List Nat} : setsD (i :: is) (d :: xs) δ = setsD is xs (δ.set i (some d)) := rfl
def qAsg (g : DG) (δ : Lo) (B : DEnds) : QD := fun d S1 => g d δ S1 fun δ' S2 => B.nx δ' S2
@[simp] theorem ev_asg {g : DG} : dAsg g ta B δ S = ta δ S (qAsg g δ B) (eB B δ) := rfl
@[simp] theorem ev_asg1 {is : List Nat} : qAsg (gT is) δ B (.tup xs) S = opt (setsD is xs δ) (qNx B S) := rfl
@[simp] theorem ev_raise {C : Addr} {fs : List Str} : dRaise C fs u B δ S = u δ S (qRaise C fs B δ) (eB B δ) := rfl
@[simp] theorem ev_raise1 {C : Addr} {fs : List Str} : qRaise C fs B δ xs S = (xs.length = fs.length ∧ B.ex ⟨C, (fs.zip xs).reverse⟩ δ S) := rfl
@[simp] theorem ev_call {m : DFn} {dd : List D} : dCall n m dd u δ S Q E = u δ S (qCall n m dd Q E) E := rfl
@[simp] theorem ev_call1 {m : DFn} {dd : List D} : qCall n m dd Q E xs S = ((xs ++ dd).length = n ∧ m (xs ++ dd) S Q E) := rfl
@[simp] theorem ev_fnD {us : List D} : fnD n s us S Q E = s (bFn Q E) (us.map some ++ List.replicate (n - us.length) none) S := rfl
@[simp] theorem bFn_nx : (bFn Q E).nx δ S = drp S (Q .non) := rfl
@[simp] theorem bFn_rt : (bFn Q E).rt d S = drp S (Q d) := rfl
@[simp] theorem bFn_bk : (bFn Q E).bk δ S = False := rfl
@[simp] theorem bFn_ct : (bFn Q E).ct δ S = False := rfl
@[simp] theorem bFn_ex : (bFn Q E).ex er δ S = drp S (E er) := rfl
theorem drp_self {P : Sto → Prop} (h : P S) : drp S P := ⟨S, .refl S, h⟩
theorem drp_of {S0 : Sto} {P : Sto → Prop} (h : P S0) (s : Sub S0 S) : drp S P := ⟨S0, s, h⟩
theorem lp_nil {kp : Sto → Prop} {g : DG} : dLoop kp g s [] B δ S = (kp S ∧ B.nx δ S) := rfl
theorem lp_cons {kp : Sto → Prop} {g : DG} : dLoop kp g s (d :: xs) B δ S = (kp S ∧ g d δ S (qLp kp g s xs B)) := rfl
@[simp] theorem ev_lp {kp : Sto → Prop} {g : DG} : qLp kp g s xs B δ S = s (kLp kp g s xs B) δ S := rfl
@[simp] theorem kLp_nx {kp : Sto → Prop} {g : DG} : (kLp kp g s xs B).nx δ S = dLoop kp g s xs B δ S := rfl
@[simp] theorem kLp_ct {kp : Sto → Prop} {g : DG} : (kLp kp g s xs B).ct δ S = dLoop kp g s xs B δ S := rfl
@[simp] theorem kLp_bk {kp : Sto → Prop} {g : DG} : (kLp kp g s xs B).bk δ S = B.nx δ S := rfl
@[simp] theorem kLp_rt {kp : Sto → Prop} {g : DG} : (kLp kp g s xs B).rt d S = B.rt d S := rfl
@[simp] theorem kLp_ex {kp : Sto → Prop} {g : DG} : (kLp kp g s xs B).ex er δ S = B.ex er δ S := rfl
@[simp] theorem ev_try {hs : List Hd} : dTry hs s B δ S = s (kTry hs B) δ S := rfl
@[simp] theorem kTry_nx {hs : List Hd} : (kTry hs B).nx δ S = B.nx δ S := rfl
@[simp] theorem kTry_rt {hs : List Hd} : (kTry hs B).rt d S = B.rt d S := rfl
@[simp] theorem kTry_bk {hs : List Hd} : (kTry hs B).bk δ S = B.bk δ S := rfl
@[simp] theorem kTry_ct {hs : List Hd} : (kTry hs B).ct δ S = B.ct δ S := rfl
@[simp] theorem kTry_ex {hs : List Hd} : (kTry hs B).ex er δ S = dHs B er δ S hs := rfl
@[simp] theorem hs_nil : dHs B er δ S [] = B.ex er δ S := rfl
@[simp] theorem hs_cons {mt : Addr → Option Bool} {sl : Option Nat} {su : Addr → Addr → Err → DS} {hs : List Hd} : dHs B er δ S (⟨mt, sl, su⟩ :: hs) = hsS (mt er.C) sl su B er δ S hs := by
  show opt (mt er.C) _ = _
  cases mt er.C with
  | none => rfl
  | some b => cases b <;> rfl
@[simp] theorem hsS_t {sl : Option Nat} {su : Addr → Addr → Err → DS} {hs : List Hd} : hsS (some true) sl su B er δ S hs = ∀ a dx, su a dx er (kSu sl B) (heldD sl a dx er δ) S := rfl
@[simp] theorem hsS_f {sl : Option Nat} {su : Addr → Addr → Err → DS} {hs : List Hd} : hsS (some false) sl su B er δ S hs = dHs B er δ S hs := rfl
@[simp] theorem kSu_nx {sl : Option Nat} : (kSu sl B).nx δ S = B.nx (unset sl δ) S := rfl
@[simp] theorem kSu_rt {sl : Option Nat} : (kSu sl B).rt d S = B.rt d S := rfl
@[simp] theorem kSu_bk {sl : Option Nat} : (kSu sl B).bk δ S = B.bk (unset sl δ) S := rfl
@[simp] theorem kSu_ct {sl : Option Nat} : (kSu sl B).ct δ S = B.ct (unset sl δ) S := rfl
@[simp] theorem unset_n : unset none δ = δ := rfl
@[simp] theorem unset_s : unset (some i) δ = δ.set i none := rfl
@[simp] theorem held_n {a dx : Addr} : heldD none a dx er δ = δ := rfl
@[simp] theorem held_s {a dx : Addr} : heldD (some i) a dx er δ = δ.set i (some (.exc a dx er.C er.fs)) := rfl
def xfK (a dx C : Addr) (fs : List (Str × D)) (f : Str) (Q : QD) : QD := fun d S1 => match d with
  | .exc a' dx' C' fs' => a' = a ∧ dx' = dx ∧ C' = C ∧ opt (fs'.lookup f) fun z => Q z S1
  | _ => False
@[simp] theorem ev_xf {Cs : List Addr} {a dx : Addr} {f : Str} : dXf Cs a dx er f ta δ S Q E = (er.C ∈ Cs ∧ ta δ S (xfK a dx er.C er.fs f Q) E) := by
  unfold dXf
  congr 1
@[simp] theorem ev_xf1 {a dx C : Addr} {fs : List (Str × D)} {f : Str} : xfK a dx C fs f Q (.exc a dx C fs) S = opt (fs.lookup f) (qV Q S) := by
  unfold xfK
  simp
  rfl
/-! cells -/
@[simp] theorem put_s {c : Cell} : put S n c n = some c := put_same
theorem put_n {c : Cell} {j : Nat} (h : j ≠ n) : put S n c j = S j := put_ne h
@[simp] theorem put_p {c c' : Cell} : put (put S n c) n c' = put S n c' := put_put
@[simp] theorem del_put {c : Cell} (h : S n = none) : DL.del (put S n c) n = S := by
  funext k
  by_cases q : k = n
  · rw [q, DL.del_same, h]
  · rw [DL.del_ne q, put_ne q]
@[simp] theorem put_del {c : Cell} (h : S n = some c) : put S n c = S := by
  funext k
  by_cases q : k = n
  · rw [q, put_same, h]
  · rw [put_ne q]
/-- a cell that stands is not the one that is new -/
theorem put_old {c c' : Cell} {j : Nat} (h : S j = some c') (hn : S n = none) : put S n c j = some c' := by
  rw [put_ne (fun z => by rw [z, hn] at h; cases h), h]
theorem put_old' {c : Cell} {j : Nat} (h : S j ≠ none) (hn : S n = none) : put S n c j = S j := put_ne fun z => h (by rw [z]; exact hn)
theorem put_comm {c c' : Cell} {j : Nat} (h : j ≠ n) : put (put S n c) j c' = put (put S j c') n c := by
  funext k
  by_cases q : k = n
  · subst q; rw [put_ne (Ne.symm h), put_same, put_same]
  · rw [put_ne q]
    by_cases r : k = j
    · subst r; rw [put_same, put_same]
    · rw [put_ne r, put_ne r, put_ne q]
theorem sub_put {S0 : Sto} {c : Cell} (h : S n = none) (s : Sub S S0) : Sub S (put S0 n c) := s.put h
def appK (n : Nat) (d : D) (Q : QD) (S : Sto) : Prop := ∃ ds, S n = some (.lst ds) ∧ ds.length < sizeLine ∧ Q .non (put S n (.lst (ds ++ [d])))
def qApp2 (n : Nat) (Q : QD) : QD := fun d S2 => appK n d Q S2
def qApp1 (te : DE) (δ : Lo) (Q : QD) (E : QE) : QD := fun x S1 => match x with
  | .m n => (∃ ds, S1 n = some (.lst ds)) ∧ te δ S1 (qApp2 n Q) E
  | _ => False
@[simp] theorem ev_app : dApp ta tb δ S Q E = ta δ S (qApp1 tb δ Q E) E := by
  unfold dApp
  congr 1
@[simp] theorem ev_app1 : qApp1 tb δ Q E (.m n) S = ((∃ ds, S n = some (.lst ds)) ∧ tb δ S (qApp2 n Q) E) := rfl
@[simp] theorem ev_app2 : qApp2 n Q d S = appK n d Q S := rfl
theorem app_at (h : S n = some (.lst xs)) : appK n d Q S = (xs.length < sizeLine ∧ Q .non (put S n (.lst (xs ++ [d])))) := by
  unfold appK
  rw [h]
  refine propext ⟨fun ⟨ds, e, h1, h2⟩ => ?_, fun ⟨h1, h2⟩ => ⟨xs, rfl, h1, h2⟩⟩
  cases e
  exact ⟨h1, h2⟩
@[simp] theorem app_put : appK n d Q (put S n (.lst xs)) = (xs.length < sizeLine ∧ Q .non (put S n (.lst (xs ++ [d])))) := by rw [app_at put_same, put_put]
def extK (n : Nat) (d : D) (Q : QD) (S : Sto) : Prop := ∃ ds, S n = some (.lst ds) ∧ opt (asL S d) fun es => ds.length + es.length ≤ sizeLine ∧ Q .non (put S n (.lst (ds ++ es)))
def qExt2 (n : Nat) (Q : QD) : QD := fun d S2 => extK n d Q S2
def qExt1 (te : DE) (δ : Lo) (Q : QD) (E : QE) : QD := fun x S1 => match x with
  | .m n => (∃ ds, S1 n = some (.lst ds)) ∧ te δ S1 (qExt2 n Q) E
  | _ => False
@[simp] theorem ev_ext : dExt ta tb δ S Q E = ta δ S (qExt1 tb δ Q E) E := by
  unfold dExt
  congr 1
@[simp] theorem ev_ext1 : qExt1 tb δ Q E (.m n) S = ((∃ ds, S n = some (.lst ds)) ∧ tb δ S (qExt2 n Q) E) := rfl
@[simp] theorem ev_ext2 : qExt2 n Q d S = extK n d Q S := rfl
theorem ext_at (h : S n = some (.lst xs)) : extK n d Q S = opt (asL S d) fun es => xs.length + es.length ≤ sizeLine ∧ Q .non (put S n (.lst (xs ++ es))) := by
  unfold extK
  rw [h]
  refine propext ⟨fun ⟨ds, e, h1⟩ => ?_, fun h1 => ⟨xs, rfl, h1⟩⟩
  cases e
  exact h1
@[simp] theorem ext_put : extK n d Q (put S n (.lst xs)) = opt (asL (put S n (.lst xs)) d) (qExtK n xs Q S) := by
  rw [ext_at put_same]
  simp only [put_put]
  rfl
@[simp] theorem ex_put : (∃ ds, put S n (.lst xs) n = some (.lst ds)) = True := eq_true ⟨xs, put_same⟩
def popK (n : Nat) (Q : QD) (S : Sto) : Prop := ∃ ds d, S n = some (.lst (ds ++ [d])) ∧ Q d (put S n (.lst ds))
def qPop (Q : QD) : QD := fun x S1 => match x with
  | .m n => popK n Q S1
  | _ => False
@[simp] theorem ev_pop : dPop ta δ S Q E = ta δ S (qPop Q) E := by
  unfold dPop
  congr 1
@[simp] theorem ev_pop1 : qPop Q (.m n) S = popK n Q S := rfl
def setK (S : Sto) (x y d : D) (k : Sto → Prop) : Prop := match x with
  | .m n => (match y with
    | .int i => ∃ ds j, S n = some (.lst ds) ∧ ixN ds.length i = some j ∧ k (put S n (.lst (ds.set j d)))
    | _ => False)
  | _ => False
def qSetI3 (x d : D) (δ : Lo) (B : DEnds) : QD := fun y S3 => setK S3 x y d fun S4 => B.nx δ S4
def qSetI2 (ti : DE) (d : D) (δ : Lo) (B : DEnds) : QD := fun x S2 => ti δ S2 (qSetI3 x d δ B) (eB B δ)
def qSetI1 (to ti : DE) (δ : Lo) (B : DEnds) : QD := fun d S1 => to δ S1 (qSetI2 ti d δ B) (eB B δ)
@[simp] theorem ev_setI : dSetI ta tb tc B δ S = tc δ S (qSetI1 ta tb δ B) (eB B δ) := rfl
@[simp] theorem ev_setI1 : qSetI1 ta tb δ B d S = ta δ S (qSetI2 tb d δ B) (eB B δ) := rfl
@[simp] theorem ev_setI2 : qSetI2 tb d δ B x S = tb δ S (qSetI3 x d δ B) (eB B δ) := rfl
def setC (n : Nat) (j : Int) (d : D) (δ : Lo) (B : DEnds) (S : Sto) : Prop := setK S (.m n) (.int j) d fun S4 => B.nx δ S4
@[simp] theorem ev_setI3 {j : Int} : qSetI3 (.m n) d δ B (.int j) S = setC n j d δ B S := rfl
theorem set_at {j : Int} (h : S n = some (.lst xs)) : setC n j d δ B S = opt (ixN xs.length j) (qSetC n xs d δ B S) := by
  show (∃ ds a, S n = some (.lst ds) ∧ ixN ds.length j = some a ∧ _) = _
  rw [h]
  refine propext ⟨fun ⟨ds, a, e, h1, h2⟩ => ?_, fun h1 => ?_⟩
  · cases e
    rw [h1]
    exact h2
  · cases e : ixN xs.length j with
    | none => rw [e] at h1; exact h1.elim
    | some a => rw [e] at h1; exact ⟨xs, a, rfl, e, h1⟩
@[simp] theorem set_put {j : Int} : setC n j d δ B (put S n (.lst xs)) = opt (ixN xs.length j) (qSetC n xs d δ B S) := by
  rw [set_at put_same]
  unfold qSetC
  simp only [put_put]
theorem ixN_nat {n j : Nat} (h : j < n) : ixN n (j : Int) = some j := by
  unfold ixN
  rw [if_pos (by omega), if_pos (by omega)]
  simp
theorem ixN_int {n : Nat} {j : Int} (h0 : 0 ≤ j) (h : j < n) : ixN n j = some j.toNat := by
  unfold ixN
  rw [if_pos h0, if_pos h]
@[simp] theorem ixN_in {n : Nat} {j : Int} (h0 : 0 ≤ j) (h : j < n) : ixN n j = some j.toNat := ixN_int h0 h
@[simp] theorem ixN_0 {n : Nat} : ixN (n + 1) 0 = some 0 := ixN_nat (j := 0) (by omega)
@[simp] theorem ixN_1 {n : Nat} : ixN (n + 1 + 1) 1 = some 1 := ixN_nat (j := 1) (by omega)
/-- freezing at a return -/
def frzC (i : Nat) (n : Nat) (o : Option Cell) (t : DS) (B : DEnds) (δ : Lo) (S : Sto) : Prop := match o with
  | some (.lst ds) => t B (δ.set i (some (.lst ds))) (DL.del S n)
  | some (.ins C fs) => t B (δ.set i (some (.ins C fs))) (DL.del S n)
  | _ => False
def frzK (i : Nat) (t : DS) (B : DEnds) (δ : Lo) (S : Sto) (o : Option (Option D)) : Prop := match o with
  | some (some (.m n)) => frzC i n (S n) t B δ S
  | _ => t B δ S
@[simp] theorem ev_frz : dFrz i t B δ S = frzK i t B δ S δ[i]? := by
  unfold dFrz
  generalize δ[i]? = o
  match o with
  | none => rfl
  | some none => rfl
  | some (some d) => cases d <;> rfl
@[simp] theorem frzK_m : frzK i t B δ S (some (some (.m n))) = frzC i n (S n) t B δ S := rfl
@[simp] theorem frzK_int {j : Int} : frzK i t B δ S (some (some (.int j))) = t B δ S := rfl
@[simp] theorem frzK_lst : frzK i t B δ S (some (some (.lst xs))) = t B δ S := rfl
@[simp] theorem frzK_tup : frzK i t B δ S (some (some (.tup xs))) = t B δ S := rfl
@[simp] theorem frzK_ins {C : Addr} {fs : List (Str × D)} : frzK i t B δ S (some (some (.ins C fs))) = t B δ S := rfl
@[simp] theorem frzC_l : frzC i n (some (.lst xs)) t B δ S = t B (δ.set i (some (.lst xs))) (DL.del S n) := rfl
@[simp] theorem frzC_i {C : Addr} {fs : List (Str × D)} : frzC i n (some (.ins C fs)) t B δ S = t B (δ.set i (some (.ins C fs))) (DL.del S n) := rfl
end
end DL

set_option maxHeartbeats 4000000
namespace DL
open PySem L2
/-! ## 34. Walks, comprehensions, fields, isinstance, slices evaluated -/
abbrev QI := List D → (Sto → Prop) → Sto → Prop
def kT : Sto → Prop := fun _ => True
@[simp] theorem kT_s {S : Sto} : kT S = True := rfl
def kM (S : Sto) (n : Nat) : Sto → Prop := fun S' => S' n = S n
@[simp] theorem kM_s {S S' : Sto} {n : Nat} : kM S n S' = (S' n = S n) := rfl
def qI (Q : QI) (S : Sto) : List D → (Sto → Prop) → Prop := fun ds kp => Q ds kp S
def seqI (S : Sto) (d : D) (k : List D → (Sto → Prop) → Prop) : Prop := match d with
  | .tup ds => k ds kT
  | .str x => k (signD x) kT
  | _ => opt (asR S d) fun ds => k ds (kpOf S d)
def qSeqI (Q : QI) : QD := fun d S1 => seqI S1 d (qI Q S1)
section
variable {δ : Lo} {S : Sto} {Q : QD} {Qa : QL} {Qt : QB} {Qi : QI} {E : QE} {B : DEnds} {i n : Nat} {ta : DE} {u : DA} {c : DT} {d : D} {xs ys : List D} {src src1 : DI} {g g1 : DG} {c1 : DT} {vs vs1 : List Nat} {k : List D → (Sto → Prop) → Prop} {kp : Sto → Prop}
@[simp] theorem ev_qI : qI Qi S xs kp = Qi xs kp S := rfl
@[simp] theorem ev_iSeq : iSeq ta δ S Qi E = ta δ S (qSeqI Qi) E := by
  unfold iSeq
  congr 1
@[simp] theorem ev_iSeq1 : qSeqI Qi d S = seqI S d (qI Qi S) := rfl
@[simp] theorem seqI_tup : seqI S (.tup xs) k = k xs kT := rfl
@[simp] theorem seqI_lst : seqI S (.lst xs) k = k xs kT := rfl
@[simp] theorem seqI_rol : seqI S (.rol xs) k = k xs kT := rfl
@[simp] theorem seqI_str {x : Str} : seqI S (.str x) k = k (signD x) kT := rfl
def seqM (S : Sto) (n : Nat) (o : Option (List D)) (k : List D → (Sto → Prop) → Prop) : Prop := opt o fun ds => k ds (kM S n)
@[simp] theorem seqI_m : seqI S (.m n) k = seqM S n (celO (S n)) k := by
  show opt (asR S (.m n)) _ = _
  rw [asR_m]
  rfl
@[simp] theorem seqM_s : seqM S n (some xs) k = k xs (kM S n) := rfl
def qR1 (Q : QI) : QL := fun ds S1 => match ds with
  | [.int j] => -(2 ^ 62) ≤ j ∧ j < 2 ^ 62 ∧ Q (rngD 0 j.toNat) (fun _ => True) S1
  | _ => False
def qR2 (Q : QI) : QL := fun ds S1 => match ds with
  | [.int i, .int j] => (-(2 ^ 62) ≤ i ∧ i < 2 ^ 62 ∧ -(2 ^ 62) ≤ j ∧ j < 2 ^ 62) ∧ Q (rngD i (j - i).toNat) (fun _ => True) S1
  | _ => False
def qR3 (Q : QI) : QL := fun ds S1 => match ds with
  | [.int i, .int j, .int c] => ∃ n, RgC i j c n ∧ Q (rngC i c n) (fun _ => True) S1
  | _ => False
@[simp] theorem ev_iR1 : iR1 u δ S Qi E = u δ S (qR1 Qi) E := rfl
@[simp] theorem ev_iR1' {j : Int} : qR1 Qi [.int j] S = (-(2 ^ 62) ≤ j ∧ j < 2 ^ 62 ∧ Qi (rngD 0 j.toNat) kT S) := rfl
@[simp] theorem ev_iR2 : iR2 u δ S Qi E = u δ S (qR2 Qi) E := rfl
@[simp] theorem ev_iR2' {i j : Int} : qR2 Qi [.int i, .int j] S = ((-(2 ^ 62) ≤ i ∧ i < 2 ^ 62 ∧ -(2 ^ 62) ≤ j ∧ j < 2 ^ 62) ∧ Qi (rngD i (j - i).toNat) kT S) := rfl
@[simp] theorem ev_iR3 : iR3 u δ S Qi E = u δ S (qR3 Qi) E := rfl
@[simp] theorem ev_iR3' {i j c : Int} : qR3 Qi [.int i, .int j, .int c] S = ∃ n, RgC i j c n ∧ Qi (rngC i c n) kT S := rfl
def qEnm (Q : QI) : QL := fun ds S1 => match ds with
  | [d] => opt (asR S1 d) fun xs => Q (enumD 0 xs) (kpOf S1 d) S1
  | _ => False
def qEnK (Q : QI) (n : Nat) (S : Sto) : List D → Prop := fun xs => Q (enumD 0 xs) (kM S n) S
@[simp] theorem ev_enK : qEnK Qi n S xs = Qi (enumD 0 xs) (kM S n) S := rfl
@[simp] theorem ev_iEnm : iEnm u δ S Qi E = u δ S (qEnm Qi) E := rfl
@[simp] theorem ev_enm_lst : qEnm Qi [.lst xs] S = Qi (enumD 0 xs) kT S := rfl
@[simp] theorem ev_enm_m : qEnm Qi [.m n] S = opt (celO (S n)) (qEnK Qi n S) := by
  show opt (asR S (.m n)) _ = _
  rw [asR_m]
  rfl
def qZp (Q : QI) : QL := fun ds S1 => match ds with
  | [.tup a, .tup b] => Q (zipD a b) (fun _ => True) S1
  | [d, f] => opt (asR S1 d) fun xs => opt (asR S1 f) fun ys => Q (zipD xs ys) (fun S' => kpOf S1 d S' ∧ kpOf S1 f S') S1
  | _ => False
@[simp] theorem ev_iZp : iZp u δ S Qi E = u δ S (qZp Qi) E := rfl
@[simp] theorem ev_zp_tt : qZp Qi [.tup xs, .tup ys] S = Qi (zipD xs ys) kT S := rfl
@[simp] theorem ev_zp_ll : qZp Qi [.lst xs, .lst ys] S = Qi (zipD xs ys) kT S := by
  show Qi (zipD xs ys) (fun S' => True ∧ True) S = _
  congr 1
  funext S'
  simp
/-! comprehensions -/
def qLc (g : DG) (c : DT) (ta : DE) (vs : List Nat) (δ : Lo) (Qa : QL) : QI := fun ds kp S1 => dLcL kp g c ta (wipeD δ vs) ds [] S1 Qa
@[simp] theorem ev_lc : dLc src g c ta vs δ S Qa E = src δ S (qLc g c ta vs δ Qa) E := rfl
@[simp] theorem ev_lc1 : qLc g c ta vs δ Qa xs kp S = dLcL kp g c ta (wipeD δ vs) xs [] S Qa := rfl
def qLc2 (g : DG) (c : DT) (src1 : DI) (g1 : DG) (c1 : DT) (ta : DE) (vs vs1 : List Nat) (δ : Lo) (Qa : QL) : QI := fun ds kp S1 => dLc2L kp g c src1 g1 c1 ta vs1 (wipeD δ vs) ds [] S1 Qa
@[simp] theorem ev_lc2 : dLc2 src g c src1 g1 c1 ta vs vs1 δ S Qa E = src δ S (qLc2 g c src1 g1 c1 ta vs vs1 δ Qa) E := rfl
@[simp] theorem ev_lc21 : qLc2 g c src1 g1 c1 ta vs vs1 δ Qa xs kp S = dLc2L kp g c src1 g1 c1 ta vs1 (wipeD δ vs) xs [] S Qa := rfl
@[simp] theorem wipe_nil : wipeD δ [] = δ := rfl
@[simp] theorem wipe_cons : wipeD δ (i :: vs) = (wipeD δ vs).set i none := rfl
end
abbrev eF : QE := fun _ _ => False
/-- an item: its tests, its element, or nothing -/
def qLcB (elt : DE) (R : QD) (N : Sto → Prop) (δ1 : Lo) : QB := fun b S2 => cnd b (elt δ1 S2 R eF) (N S2)
def lcS (b : Bool) (elt : DE) (δ1 : Lo) (S2 : Sto) (R : QD) (N : Sto → Prop) : Prop := cnd b (elt δ1 S2 R eF) (N S2)
def qLcT (c : DT) (elt : DE) (R : QD) (N : Sto → Prop) : Lo → Sto → Prop := fun δ1 S1 => c δ1 S1 (qLcB elt R N δ1) eF
section
variable {kp : Sto → Prop} {g : DG} {i : Nat} {c : DT} {elt : DE} {δ δ1 : Lo} {S S1 : Sto} {Qa : QL} {R : QD} {N : Sto → Prop} {b : Bool}
@[simp] theorem ev_lcT : qLcT c elt R N δ1 S1 = c δ1 S1 (qLcB elt R N δ1) eF := rfl
@[simp] theorem ev_lcB : qLcB elt R N δ1 b S1 = lcS b elt δ1 S1 R N := rfl
@[simp] theorem lcS_t : lcS true elt δ1 S1 R N = elt δ1 S1 R eF := rfl
@[simp] theorem lcS_f : lcS false elt δ1 S1 R N = N S1 := rfl
theorem lc_nil {acc : List D} : dLcL kp g c elt δ [] acc S Qa = (kp S ∧ Qa acc S) := rfl
theorem lc_cons {d : D} {ds acc : List D} : dLcL kp g c elt δ (d :: ds) acc S Qa = (kp S ∧ g d δ S (qLcT c elt (fun y S3 => acc.length < sizeLine ∧ dLcL kp g c elt δ ds (acc ++ [y]) S3 Qa) (fun S2 => dLcL kp g c elt δ ds acc S2 Qa))) := rfl
/-- by cases: Some: the element; None: left out -/
def mayO (o : Option D) (R : QD) (N : Sto → Prop) (S : Sto) : Prop := match o with
  | some y => R y S
  | none => N S
@[simp] theorem mayO_s {y : D} : mayO (some y) R N S = R y S := rfl
@[simp] theorem mayO_n : mayO none R N S = N S := rfl
theorem lc_go {A : Type} (f : A → D) (m : A → Option D) (hk : kp S) : ∀ (xs : List A) (acc : List D), acc.length + xs.length ≤ sizeLine → (∀ a ∈ xs, ∀ (R : QD) (N : Sto → Prop), mayO (m a) R N S → g (f a) δ S (qLcT c elt R N)) → Qa (acc ++ xs.filterMap m) S → dLcL kp g c elt δ (xs.map f) acc S Qa
  | [], acc, _, _, q => ⟨hk, by simpa using q⟩
  | a :: xs, acc, hl, h, q => by
    rw [List.length_cons] at hl
    refine ⟨hk, h a (List.mem_cons_self ..) _ _ ?_⟩
    cases hm : m a with
    | none =>
      rw [List.filterMap_cons_none hm] at q
      exact lc_go f m hk xs acc (by omega) (fun a ha => h a (List.mem_cons_of_mem _ ha)) q
    | some y =>
      rw [List.filterMap_cons_some hm] at q
      refine ⟨by omega, lc_go f m hk xs (acc ++ [y]) (by rw [List.length_append, List.length_singleton]; omega) (fun a ha => h a (List.mem_cons_of_mem _ ha)) (by simpa using q)⟩
/-- filter and map; the items are the f a -/
theorem lc_flt {A : Type} (f : A → D) (m : A → Option D) (xs : List A) (hl : xs.length ≤ sizeLine) (hk : kp S) (h : ∀ a ∈ xs, ∀ (R : QD) (N : Sto → Prop), mayO (m a) R N S → g (f a) δ S (qLcT c elt R N)) (q : Qa (xs.filterMap m) S) : dLcL kp g c elt δ (xs.map f) [] S Qa :=
  lc_go f m hk xs [] (by simpa using hl) h (by simpa using q)
theorem lc_map {A : Type} (f : A → D) (m : A → D) (xs : List A) (hl : xs.length ≤ sizeLine) (hk : kp S) (h : ∀ a ∈ xs, ∀ (R : QD) (N : Sto → Prop), R (m a) S → g (f a) δ S (qLcT c elt R N)) (q : Qa (xs.map m) S) : dLcL kp g c elt δ (xs.map f) [] S Qa :=
  lc_flt f (fun a => some (m a)) xs hl hk h (by rw [List.filterMap_eq_map']; exact q)
/-- by its trajectory: the stores, the elements -/
theorem lc_st (Sf : Nat → Sto) (m : Nat → D) (ds : List D) (hk : ∀ j, j ≤ ds.length → kp (Sf j)) (hl : ds.length ≤ sizeLine) (h : ∀ j d, ds[j]? = some d → ∀ (R : QD) (N : Sto → Prop), R (m j) (Sf (j + 1)) → g d δ (Sf j) (qLcT c elt R N)) (q : Qa ((List.range ds.length).map m) (Sf ds.length)) : dLcL kp g c elt δ ds [] (Sf 0) Qa := by
  have go : ∀ (k j : Nat) (acc : List D), j + k = ds.length → acc = (List.range j).map m → dLcL kp g c elt δ (ds.drop j) acc (Sf j) Qa := by
    intro k
    induction k with
    | zero =>
      intro j acc hj ha
      rw [List.drop_eq_nil_of_le (by omega), lc_nil]
      have e : j = ds.length := by omega
      subst e
      exact ⟨hk _ (Nat.le_refl _), by rw [ha]; exact q⟩
    | succ k ih =>
      intro j acc hj ha
      have hlt : j < ds.length := by omega
      rw [List.drop_eq_getElem_cons hlt, lc_cons]
      refine ⟨hk _ (by omega), h j _ (List.getElem?_eq_getElem hlt) _ _ ⟨by rw [ha]; simp; omega, ?_⟩⟩
      refine ih (j + 1) _ (by omega) ?_
      rw [ha, List.range_succ, List.map_append]
      rfl
  exact go ds.length 0 [] (by omega) rfl
end
theorem rngD_map : ∀ (n : Nat) (lo : Int), rngD lo n = ((List.range n).map fun (j : Nat) => D.int (lo + (j : Int)))
  | 0, _ => rfl
  | n + 1, lo => by
    rw [List.range_succ_eq_map, rngD, rngD_map n (lo + 1)]
    simp
    intro a _
    omega
theorem rngD_split {lo : Int} {m : Nat} {d : D} {ds : List D} (h : d :: ds = rngD lo m) : ∃ m', m = m' + 1 ∧ d = .int lo ∧ ds = rngD (lo + 1) m' := by
  cases m with
  | zero => cases h
  | succ m' =>
    unfold rngD at h
    injection h with h1 h2
    exact ⟨m', rfl, h1, h2⟩
@[simp] theorem rngD_0 {lo : Int} : rngD lo 0 = [] := rfl
theorem rngD_s {lo : Int} {n : Nat} : rngD lo (n + 1) = .int lo :: rngD (lo + 1) n := rfl
section
variable {kp : Sto → Prop} {g : DG} {body : DS} {B : DEnds} {δ : Lo} {S : Sto}
/-- a loop by its trajectory: no way out but the end -/
theorem lp_st (δf : Nat → Lo) (Sf : Nat → Sto) (ds : List D) (hk : ∀ j, j ≤ ds.length → kp (Sf j)) (h : ∀ j d, ds[j]? = some d → ∀ B1 : DEnds, B1.rt = B.rt → B1.ex = B.ex → B1.bk = B.nx → B1.nx (δf (j + 1)) (Sf (j + 1)) → B1.ct (δf (j + 1)) (Sf (j + 1)) → g d (δf j) (Sf j) fun δ1 S1 => body B1 δ1 S1)
    (q : B.nx (δf ds.length) (Sf ds.length)) : dLoop kp g body ds B (δf 0) (Sf 0) := by
  have go : ∀ (k j : Nat), j + k = ds.length → dLoop kp g body (ds.drop j) B (δf j) (Sf j) := by
    intro k
    induction k with
    | zero =>
      intro j hj
      rw [List.drop_eq_nil_of_le (by omega), lp_nil]
      have e : j = ds.length := by omega
      subst e
      exact ⟨hk _ (Nat.le_refl _), q⟩
    | succ k ih =>
      intro j hj
      have hlt : j < ds.length := by omega
      rw [List.drop_eq_getElem_cons hlt, lp_cons]
      exact ⟨hk _ (by omega), h j _ (List.getElem?_eq_getElem hlt) (kLp kp g body (ds.drop (j + 1)) B) rfl rfl rfl (ih (j + 1) (by omega)) (ih (j + 1) (by omega))⟩
  exact go ds.length 0 (by omega)
/-- a loop by an invariant -/
theorem lp_inv (Inv : List D → Lo → Sto → Prop) (hk : ∀ ds δ S, Inv ds δ S → kp S)
    (step : ∀ d ds δ S, Inv (d :: ds) δ S → ∀ B1 : DEnds, B1.rt = B.rt → B1.ex = B.ex → B1.bk = B.nx → (∀ δ2 S2, Inv ds δ2 S2 → B1.nx δ2 S2) → (∀ δ2 S2, Inv ds δ2 S2 → B1.ct δ2 S2) → g d δ S fun δ1 S1 => body B1 δ1 S1)
    (fin : ∀ δ S, Inv [] δ S → B.nx δ S) : ∀ ds δ S, Inv ds δ S → dLoop kp g body ds B δ S
  | [], δ, S, h => ⟨hk _ _ _ h, fin δ S h⟩
  | d :: ds, δ, S, h => ⟨hk _ _ _ h, step d ds δ S h (kLp kp g body ds B) rfl rfl rfl (fun δ2 S2 h2 => lp_inv Inv hk step fin ds δ2 S2 h2) (fun δ2 S2 h2 => lp_inv Inv hk step fin ds δ2 S2 h2)⟩
/-- one statement by itself: what holds behind it, then the rest -/
theorem seq_step {s t : DS} (P : Lo → Sto → Prop) (h : ∀ B1 : DEnds, B1.rt = B.rt → B1.ex = B.ex → B1.bk = B.bk → B1.ct = B.ct → (∀ δ' S', P δ' S' → B1.nx δ' S') → s B1 δ S) (k : ∀ δ' S', P δ' S' → t B δ' S') : dSeq s t B δ S :=
  h (kSeq t B) rfl rfl rfl rfl k
end
/-! isinstance, fields, slices -/
section
variable {Cs : List Addr} {δ : Lo} {S : Sto} {Q : QD} {E : QE} {c : Tag} {cs : List Tag} {ta to te : DE} {n : Nat} {d : D} {xs : List D} {C : Addr} {fs : List (Str × D)} {f mt : Str} {u : DA} {m : DFn} {dd : List D} {B : DEnds}
def isK (Cs : List Addr) (c : Tag) (Q : QD) (S : Sto) (o : Option Tag) : Prop := opt o fun t => opt (isi1 Cs t c) fun b => Q (.bl b) S
def isKs (Cs : List Addr) (cs : List Tag) (Q : QD) (S : Sto) (o : Option Tag) : Prop := opt o fun t => opt (isiA Cs t cs) fun b => Q (.bl b) S
def qIsi (Cs : List Addr) (c : Tag) (Q : QD) : QD := fun d S1 => isK Cs c Q S1 (tyD S1 d)
def qIsiT (Cs : List Addr) (cs : List Tag) (Q : QD) : QD := fun d S1 => isKs Cs cs Q S1 (tyD S1 d)
@[simp] theorem ev_isi : dIsi Cs c ta δ S Q E = ta δ S (qIsi Cs c Q) E := rfl
@[simp] theorem ev_isi1 : qIsi Cs c Q d S = isK Cs c Q S (tyD S d) := rfl
@[simp] theorem ev_isiT : dIsiT Cs c cs ta δ S Q E = ta δ S (qIsiT Cs (c :: cs) Q) E := rfl
@[simp] theorem ev_isiT1 {cs : List Tag} : qIsiT Cs cs Q d S = isKs Cs cs Q S (tyD S d) := rfl
@[simp] theorem isK_s {t : Tag} : isK Cs c Q S (some t) = opt (isi1 Cs t c) (qBl Q S) := rfl
@[simp] theorem isKs_s {t : Tag} : isKs Cs cs Q S (some t) = opt (isiA Cs t cs) (qBl Q S) := rfl
@[simp] theorem ty_non : tyD S .non = some (.ty "NoneType") := rfl
@[simp] theorem ty_bl {b : Bool} : tyD S (.bl b) = some (.ty "bool") := rfl
@[simp] theorem ty_int {b : Int} : tyD S (.int b) = some (.ty "int") := rfl
@[simp] theorem ty_str {b : Str} : tyD S (.str b) = some (.ty "str") := rfl
@[simp] theorem ty_lst : tyD S (.lst xs) = some (.ty "list") := rfl
@[simp] theorem ty_rol : tyD S (.rol xs) = some (.ty "list") := rfl
@[simp] theorem ty_tup : tyD S (.tup xs) = some (.ty "tuple") := rfl
@[simp] theorem ty_ins : tyD S (.ins C fs) = some (Tag.own C) := rfl
def tyO : Option Cell → Option Tag
  | some (.lst _) => some (.ty "list")
  | some (.ins C _) => some (.own C)
  | _ => none
@[simp] theorem ty_m : tyD S (.m n) = tyO (S n) := by
  show (match S n with | some (.lst _) => some (Tag.ty "list") | some (.ins C _) => some (Tag.own C) | _ => none) = _
  unfold tyO
  rfl
@[simp] theorem tyO_l : tyO (some (.lst xs)) = some (Tag.ty "list") := rfl
@[simp] theorem tyO_i : tyO (some (.ins C fs)) = some (Tag.own C) := rfl
theorem isi_ty {a b : String} (h : a ∈ kTys ∧ b ∈ kTys) : isi1 Cs (Tag.ty a) (Tag.ty b) = some (decide (a = b) || (decide (a = "bool") && decide (b = "int"))) := if_pos h
@[simp] theorem isi_int_int : isi1 Cs (.ty "int") (.ty "int") = some true := (isi_ty (by decide)).trans (by decide)
@[simp] theorem isi_int_bool : isi1 Cs (.ty "int") (.ty "bool") = some false := (isi_ty (by decide)).trans (by decide)
@[simp] theorem isi_int_str : isi1 Cs (.ty "int") (.ty "str") = some false := (isi_ty (by decide)).trans (by decide)
@[simp] theorem isi_int_list : isi1 Cs (.ty "int") (.ty "list") = some false := (isi_ty (by decide)).trans (by decide)
@[simp] theorem isi_int_tuple : isi1 Cs (.ty "int") (.ty "tuple") = some false := (isi_ty (by decide)).trans (by decide)
@[simp] theorem isi_bool_int : isi1 Cs (.ty "bool") (.ty "int") = some true := (isi_ty (by decide)).trans (by decide)
@[simp] theorem isi_bool_bool : isi1 Cs (.ty "bool") (.ty "bool") = some true := (isi_ty (by decide)).trans (by decide)
@[simp] theorem isi_bool_str : isi1 Cs (.ty "bool") (.ty "str") = some false := (isi_ty (by decide)).trans (by decide)
@[simp] theorem isi_bool_list : isi1 Cs (.ty "bool") (.ty "list") = some false := (isi_ty (by decide)).trans (by decide)
@[simp] theorem isi_bool_tuple : isi1 Cs (.ty "bool") (.ty "tuple") = some false := (isi_ty (by decide)).trans (by decide)
@[simp] theorem isi_non_int : isi1 Cs (.ty "NoneType") (.ty "int") = some false := (isi_ty (by decide)).trans (by decide)
@[simp] theorem isi_non_bool : isi1 Cs (.ty "NoneType") (.ty "bool") = some false := (isi_ty (by decide)).trans (by decide)
@[simp] theorem isi_non_str : isi1 Cs (.ty "NoneType") (.ty "str") = some false := (isi_ty (by decide)).trans (by decide)
@[simp] theorem isi_non_list : isi1 Cs (.ty "NoneType") (.ty "list") = some false := (isi_ty (by decide)).trans (by decide)
@[simp] theorem isi_non_tuple : isi1 Cs (.ty "NoneType") (.ty "tuple") = some false := (isi_ty (by decide)).trans (by decide)
@[simp] theorem isi_str_int : isi1 Cs (.ty "str") (.ty "int") = some false := (isi_ty (by decide)).trans (by decide)
@[simp] theorem isi_str_bool : isi1 Cs (.ty "str") (.ty "bool") = some false := (isi_ty (by decide)).trans (by decide)
@[simp] theorem isi_str_str : isi1 Cs (.ty "str") (.ty "str") = some true := (isi_ty (by decide)).trans (by decide)
@[simp] theorem isi_str_list : isi1 Cs (.ty "str") (.ty "list") = some false := (isi_ty (by decide)).trans (by decide)
@[simp] theorem isi_str_tuple : isi1 Cs (.ty "str") (.ty "tuple") = some false := (isi_ty (by decide)).trans (by decide)
@[simp] theorem isi_list_int : isi1 Cs (.ty "list") (.ty "int") = some false := (isi_ty (by decide)).trans (by decide)
@[simp] theorem isi_list_bool : isi1 Cs (.ty "list") (.ty "bool") = some false := (isi_ty (by decide)).trans (by decide)
@[simp] theorem isi_list_str : isi1 Cs (.ty "list") (.ty "str") = some false := (isi_ty (by decide)).trans (by decide)
@[simp] theorem isi_list_list : isi1 Cs (.ty "list") (.ty "list") = some true := (isi_ty (by decide)).trans (by decide)
@[simp] theorem isi_list_tuple : isi1 Cs (.ty "list") (.ty "tuple") = some false := (isi_ty (by decide)).trans (by decide)
@[simp] theorem isi_tuple_int : isi1 Cs (.ty "tuple") (.ty "int") = some false := (isi_ty (by decide)).trans (by decide)
@[simp] theorem isi_tuple_bool : isi1 Cs (.ty "tuple") (.ty "bool") = some false := (isi_ty (by decide)).trans (by decide)
@[simp] theorem isi_tuple_str : isi1 Cs (.ty "tuple") (.ty "str") = some false := (isi_ty (by decide)).trans (by decide)
@[simp] theorem isi_tuple_list : isi1 Cs (.ty "tuple") (.ty "list") = some false := (isi_ty (by decide)).trans (by decide)
@[simp] theorem isi_tuple_tuple : isi1 Cs (.ty "tuple") (.ty "tuple") = some true := (isi_ty (by decide)).trans (by decide)
theorem isi_ty_own {a : String} (h : a ∈ kTys ∧ C ∈ Cs) : isi1 Cs (Tag.ty a) (Tag.own C) = some false := if_pos h
theorem isi_own_ty {b : String} (h : C ∈ Cs ∧ b ∈ kTys) : isi1 Cs (Tag.own C) (Tag.ty b) = some false := if_pos h
theorem isi_own_own {C' : Addr} (h : C ∈ Cs ∧ C' ∈ Cs) : isi1 Cs (Tag.own C) (Tag.own C') = some (decide (C = C')) := if_pos h
@[simp] theorem isiA_nil {t : Tag} : isiA Cs t [] = some false := rfl
def orO (o r : Option Bool) : Option Bool := match o with
  | some true => some true
  | some false => r
  | none => none
@[simp] theorem orO_t {r : Option Bool} : orO (some true) r = some true := rfl
@[simp] theorem orO_f {r : Option Bool} : orO (some false) r = r := rfl
@[simp] theorem isiA_cons {t : Tag} : isiA Cs t (c :: cs) = orO (isi1 Cs t c) (isiA Cs t cs) := rfl
/-! fields -/
def celI : Option Cell → Option (Addr × List (Str × D))
  | some (.ins C fs) => some (C, fs)
  | _ => none
@[simp] theorem celI_i : celI (some (.ins C fs)) = some (C, fs) := rfl
@[simp] theorem asI_ins : asI S (.ins C fs) = some (C, fs) := rfl
@[simp] theorem asI_m : asI S (.m n) = celI (S n) := by
  show (match S n with | some (.ins C fs) => some (C, fs) | _ => none) = celI (S n)
  unfold celI
  rfl
def fldK (Cs : List Addr) (f : Str) (Q : QD) (S : Sto) (o : Option (Addr × List (Str × D))) : Prop := opt o fun q => q.1 ∈ Cs ∧ opt (q.2.lookup f) (qV Q S)
def qFld (Cs : List Addr) (f : Str) (Q : QD) : QD := fun d S1 => fldK Cs f Q S1 (asI S1 d)
@[simp] theorem ev_fld : dFld Cs f ta δ S Q E = ta δ S (qFld Cs f Q) E := rfl
@[simp] theorem ev_fld1 : qFld Cs f Q d S = fldK Cs f Q S (asI S d) := rfl
@[simp] theorem fldK_s : fldK Cs f Q S (some (C, fs)) = (C ∈ Cs ∧ opt (fs.lookup f) (qV Q S)) := rfl
def qArg (C : Addr) (n : Nat) (m : DFn) (dd : List D) (d : D) (Q : QD) (E : QE) : QL := fun us S2 => (d :: (us ++ dd)).length = n ∧ m (d :: (us ++ dd)) S2 Q E
def metK (C : Addr) (mt : Str) (n : Nat) (m : DFn) (dd : List D) (u : DA) (δ : Lo) (d : D) (Q : QD) (E : QE) (S : Sto) (o : Option (Addr × List (Str × D))) : Prop := opt o fun q => q.1 = C ∧ q.2.lookup mt = none ∧ u δ S (qArg C n m dd d Q E) E
def qMeth (C : Addr) (mt : Str) (n : Nat) (m : DFn) (dd : List D) (u : DA) (δ : Lo) (Q : QD) (E : QE) : QD := fun d S1 => metK C mt n m dd u δ d Q E S1 (asI S1 d)
@[simp] theorem ev_meth : dMeth C mt n m dd to u δ S Q E = to δ S (qMeth C mt n m dd u δ Q E) E := rfl
@[simp] theorem ev_meth1 : qMeth C mt n m dd u δ Q E d S = metK C mt n m dd u δ d Q E S (asI S d) := rfl
@[simp] theorem metK_s {C' : Addr} : metK C mt n m dd u δ d Q E S (some (C', fs)) = (C' = C ∧ fs.lookup mt = none ∧ u δ S (qArg C n m dd d Q E) E) := rfl
@[simp] theorem ev_arg : qArg C n m dd d Q E xs S = ((d :: (xs ++ dd)).length = n ∧ m (d :: (xs ++ dd)) S Q E) := rfl
def qArgK (n : Nat) (m : DFn) (nk : Nat) (sl : List Sl) (dd us : List D) (Q : QD) (E : QE) : QL := fun zs S2 => zs.length = nk ∧ (mixK sl us zs dd).length = n ∧ m (mixK sl us zs dd) S2 Q E
def metKK (C : Addr) (mt : Str) (n : Nat) (m : DFn) (nk : Nat) (sl : List Sl) (dd : List D) (u : DA) (δ : Lo) (d : D) (Q : QD) (E : QE) (S : Sto) (o : Option (Addr × List (Str × D))) : Prop := opt o fun q => q.1 = C ∧ q.2.lookup mt = none ∧ u δ S (qArgK n m nk sl dd [d] Q E) E
def qMethK (C : Addr) (mt : Str) (n : Nat) (m : DFn) (nk : Nat) (sl : List Sl) (dd : List D) (u : DA) (δ : Lo) (Q : QD) (E : QE) : QD := fun d S1 => opt (asI S1 d) fun q => q.1 = C ∧ q.2.lookup mt = none ∧ u δ S1 (qArgK n m nk sl dd [d] Q E) E
@[simp] theorem ev_methK {nk : Nat} {sl : List Sl} : dMethK C mt n m nk sl dd to u δ S Q E = to δ S (qMethK C mt n m nk sl dd u δ Q E) E := rfl
@[simp] theorem ev_methK1 {nk : Nat} {sl : List Sl} : qMethK C mt n m nk sl dd u δ Q E d S = metKK C mt n m nk sl dd u δ d Q E S (asI S d) := rfl
@[simp] theorem metKK_s {nk : Nat} {sl : List Sl} {C' : Addr} : metKK C mt n m nk sl dd u δ d Q E S (some (C', fs)) = (C' = C ∧ fs.lookup mt = none ∧ u δ S (qArgK n m nk sl dd [d] Q E) E) := rfl
@[simp] theorem ev_argK {nk : Nat} {sl : List Sl} {us : List D} : qArgK n m nk sl dd us Q E xs S = (xs.length = nk ∧ (mixK sl us xs dd).length = n ∧ m (mixK sl us xs dd) S Q E) := rfl
def setF (Cs : List Addr) (f : Str) (n : Nat) (d : D) (δ : Lo) (B : DEnds) (S : Sto) : Prop := ∃ C fs, S n = some (.ins C fs) ∧ C ∈ Cs ∧ fs.length < 1000 ∧ B.nx δ (put S n (.ins C (putD f d fs)))
def qSetF2 (Cs : List Addr) (f : Str) (d : D) (δ : Lo) (B : DEnds) : QD := fun x S2 => match x with
  | .m n => setF Cs f n d δ B S2
  | _ => False
def qSetF1 (Cs : List Addr) (f : Str) (to : DE) (δ : Lo) (B : DEnds) : QD := fun d S1 => to δ S1 (qSetF2 Cs f d δ B) (eB B δ)
@[simp] theorem ev_setF : dSetF Cs f to te B δ S = te δ S (qSetF1 Cs f to δ B) (eB B δ) := by
  unfold dSetF
  rfl
@[simp] theorem ev_setF1 : qSetF1 Cs f to δ B d S = to δ S (qSetF2 Cs f d δ B) (eB B δ) := rfl
@[simp] theorem ev_setF2 : qSetF2 Cs f d δ B (.m n) S = setF Cs f n d δ B S := rfl
theorem setF_at (h : S n = some (.ins C fs)) : setF Cs f n d δ B S = (C ∈ Cs ∧ fs.length < 1000 ∧ B.nx δ (put S n (.ins C (putD f d fs)))) := by
  unfold setF
  rw [h]
  refine propext ⟨fun ⟨C', fs', e, h1⟩ => ?_, fun h1 => ⟨C, fs, rfl, h1⟩⟩
  cases e
  exact h1
@[simp] theorem setF_put : setF Cs f n d δ B (put S n (.ins C fs)) = (C ∈ Cs ∧ fs.length < 1000 ∧ B.nx δ (put S n (.ins C (putD f d fs)))) := by
  rw [setF_at put_same, put_put]
@[simp] theorem putD_nil : putD f d [] = [(f, d)] := rfl
theorem putD_cons {g : Str} {e : D} : putD f d ((g, e) :: fs) = if g = f then (f, d) :: fs else (g, e) :: putD f d fs := rfl
def augF2 (Cs : List Addr) (f : Str) (n : Nat) (δ : Lo) (B : DEnds) (S : Sto) : D → Prop := fun z => ∃ C fs', S n = some (.ins C fs') ∧ C ∈ Cs ∧ fs'.length < 1000 ∧ B.nx δ (put S n (.ins C (putD f z fs')))
/-! slices -/
def slK (S : Sto) (x : D) (l h : Option Int) (k : D → Prop) : Prop := match x with
  | .tup ds => k (.tup (cutD ds l h))
  | .str z => z.length ≤ sizeLine ∧ k (.str (cutS z l h))
  | _ => opt (asR S x) fun ds => k (.lst (cutD ds l h))
abbrev QO := Option Int → Sto → Prop
def qSl3 (x : D) (l : Option Int) (Q : QD) : QO := fun h S3 => slK S3 x l h (qV Q S3)
def qSl2 (x : D) (th : DO) (δ : Lo) (Q : QD) (E : QE) : QO := fun l S2 => th δ S2 (qSl3 x l Q) E
def qSl1 (tl th : DO) (δ : Lo) (Q : QD) (E : QE) : QD := fun x S1 => tl δ S1 (qSl2 x th δ Q E) E
def qPart (Q : QO) : QD := fun d S1 => match d with
  | .int i => Q (some i) S1
  | _ => False
variable {tl th : DO} {Qo : QO} {lo hi : Option Int} {k : D → Prop} {x : D}
def qCutK (lo hi : Option Int) (k : D → Prop) : List D → Prop := fun ds => k (.lst (cutD ds lo hi))
@[simp] theorem ev_cutK : qCutK lo hi k xs = k (.lst (cutD xs lo hi)) := rfl
@[simp] theorem ev_sl : dSl te tl th δ S Q E = te δ S (qSl1 tl th δ Q E) E := by
  unfold dSl
  congr 1
@[simp] theorem ev_sl1 : qSl1 tl th δ Q E x S = tl δ S (qSl2 x th δ Q E) E := rfl
@[simp] theorem ev_sl2 : qSl2 x th δ Q E lo S = th δ S (qSl3 x lo Q) E := rfl
@[simp] theorem ev_sl3 : qSl3 x lo Q hi S = slK S x lo hi (qV Q S) := rfl
@[simp] theorem ev_noP : dNoP δ S Qo E = Qo none S := rfl
@[simp] theorem ev_part : dPart te δ S Qo E = te δ S (qPart Qo) E := by
  unfold dPart
  congr 1
@[simp] theorem ev_part1 {i : Int} : qPart Qo (.int i) S = Qo (some i) S := rfl
@[simp] theorem sl_tup : slK S (.tup xs) lo hi k = k (.tup (cutD xs lo hi)) := rfl
@[simp] theorem sl_str {z : Str} : slK S (.str z) lo hi k = (z.length ≤ sizeLine ∧ k (.str (cutS z lo hi))) := rfl
@[simp] theorem sl_lst : slK S (.lst xs) lo hi k = k (.lst (cutD xs lo hi)) := rfl
@[simp] theorem sl_rol : slK S (.rol xs) lo hi k = k (.lst (cutD xs lo hi)) := rfl
@[simp] theorem sl_m : slK S (.m n) lo hi k = opt (celO (S n)) (qCutK lo hi k) := by
  show opt (asR S (.m n)) _ = _
  rw [asR_m]
  rfl
theorem sIx_int {n d : Nat} {i : Int} (h : 0 ≤ i) : HT.sIx n d (some i) = min i.toNat n := by
  have q := HT.sIx_nat n d i.toNat
  rwa [Int.toNat_of_nonneg h] at q
theorem cut_to {i : Int} (h : 0 ≤ i) : cutD xs none (some i) = xs.take i.toNat := by
  unfold cutD
  rw [sIx_int h, HT.sIx_none]
  simp
theorem cut_from {i : Int} (h : 0 ≤ i) : cutD xs (some i) none = xs.drop i.toNat := by
  unfold cutD
  rw [sIx_int h, HT.sIx_none]
  by_cases q : i.toNat ≤ xs.length
  · rw [Nat.min_eq_left q]
    exact List.take_of_length_le (by rw [List.length_drop]; exact Nat.le_refl _)
  · rw [Nat.min_eq_right (by omega), List.drop_eq_nil_of_le (Nat.le_refl _), List.drop_eq_nil_of_le (by omega)]
    simp
theorem cut_mid {i j : Int} (h : 0 ≤ i) (h2 : i ≤ j) : cutD xs (some i) (some j) = (xs.drop i.toNat).take (j.toNat - i.toNat) := by
  unfold cutD
  rw [sIx_int h, sIx_int (by omega)]
  by_cases q : i.toNat ≤ xs.length
  · rw [Nat.min_eq_left q]
    by_cases q2 : j.toNat ≤ xs.length
    · rw [Nat.min_eq_left q2]
    · rw [Nat.min_eq_right (by omega), List.take_of_length_le (by rw [List.length_drop]; omega), List.take_of_length_le (by rw [List.length_drop]; omega)]
  · rw [List.drop_eq_nil_of_le (show xs.length ≤ min i.toNat xs.length by omega), List.drop_eq_nil_of_le (show xs.length ≤ i.toNat by omega)]
    simp
theorem cut_but : cutD xs none (some (-1)) = xs.take (xs.length - 1) := by
  have e : HT.sIx xs.length xs.length (some (-1)) = xs.length - 1 := by
    show (if (-1 : Int) < 0 then ((-1 : Int) + (xs.length : Int)).toNat else min (-1 : Int).toNat xs.length) = _
    rw [if_pos (by decide)]
    omega
  unfold cutD
  rw [e, HT.sIx_none]
  simp
end
theorem sz {n : Nat} (h : n ≤ 1000000) : n ≤ sizeLine := by rw [sizeLine_eq]; omega
theorem sz' {n : Nat} (h : n < 1000000) : n < sizeLine := by rw [sizeLine_eq]; omega
@[simp] theorem mul_l {i j : Int} (h : -(2 ^ 64) < i ∧ i < 2 ^ 64) : (CMul i j ∨ CMulW i j) = True := eq_true (.inl (.inl h))
@[simp] theorem mul_r {i j : Int} (h : -(2 ^ 64) < j ∧ j < 2 ^ 64) : (CMul i j ∨ CMulW i j) = True := eq_true (.inl (.inr h))
end DL
namespace DL
section
variable {δ : Lo} {S : Sto} {Q : QD} {E : QE} {n nk : Nat} {m : DFn} {sl : List Sl} {dd xs : List D} {u : DA}
def qCallK (n : Nat) (m : DFn) (nk : Nat) (sl : List Sl) (dd : List D) (Q : QD) (E : QE) : QL := fun zs S1 => zs.length = nk ∧ (mixK sl [] zs dd).length = n ∧ m (mixK sl [] zs dd) S1 Q E
@[simp] theorem ev_callK : dCallK n m nk sl dd u δ S Q E = u δ S (qCallK n m nk sl dd Q E) E := rfl
@[simp] theorem ev_callK1 : qCallK n m nk sl dd Q E xs S = (xs.length = nk ∧ (mixK sl [] xs dd).length = n ∧ m (mixK sl [] xs dd) S Q E) := rfl
end
/-- reading a string-keyed row -/
def ifb {A : Type} (b : Bool) (x y : A) : A := match b with
  | true => x
  | false => y
@[simp] theorem ifb_t {A : Type} {x y : A} : ifb true x y = x := rfl
@[simp] theorem ifb_f {A : Type} {x y : A} : ifb false x y = y := rfl
@[simp] theorem lk_nil {f : PySem.Str} : List.lookup f ([] : List (PySem.Str × D)) = none := rfl
@[simp] theorem lk_cons {f g : PySem.Str} {d : D} {fs : List (PySem.Str × D)} : List.lookup f ((g, d) :: fs) = ifb (f == g) (some d) (List.lookup f fs) := by
  rw [List.lookup_cons]
  cases f == g <;> rfl
end DL
namespace DL
section
variable {S : Sto} {n m k : Nat} {c : Cell}
theorem Fr.put (h : Fr (put S n c) m) : n < m ∧ Fr S m := by
  have h1 : n < m := by
    by_cases q : n < m
    · exact q
    · have z := h n (by omega); rw [put_same] at z; cases z
  refine ⟨h1, fun k hk => ?_⟩
  have z := h k hk
  rwa [put_ne (by omega)] at z
theorem Fr.sub (h : Fr S n) : Sub S (DL.put S n c) := (Sub.refl S).put h.no
theorem del_fr (h : Fr S n) : DL.del (DL.put S n c) n = S := del_put h.no
end
end DL
namespace DL
@[simp] theorem size_v : PySem.sizeLine = 16777216 := by rw [PySem.sizeLine_eq] <;> rfl
end DL
namespace DL
open PySem L2
section
variable {Cs : List Addr} {f : Str} {g : DOp} {to te : DE} {δ : Lo} {B : DEnds} {S : Sto} {n : Nat} {C : Addr} {fs : List (Str × D)} {v y z : D}
def augT (C : Addr) (f : Str) (n : Nat) (z : D) (δ : Lo) (B : DEnds) (S : Sto) (o : Option (Addr × List (Str × D))) : Prop := opt o fun q => q.1 = C ∧ q.2.length < 1000 ∧ B.nx δ (put S n (.ins C (putD f z q.2)))
def augS (C : Addr) (f : Str) (n : Nat) (δ : Lo) (B : DEnds) (S : Sto) : D → Prop := fun z => augT C f n z δ B S (celI (S n))
def qAug2 (C : Addr) (f : Str) (g : DOp) (v : D) (n : Nat) (δ : Lo) (B : DEnds) : QD := fun y S2 => g S2 v y (augS C f n δ B S2)
def augV (C : Addr) (f : Str) (g : DOp) (te : DE) (n : Nat) (δ : Lo) (B : DEnds) (S : Sto) : D → Prop := fun v => te δ S (qAug2 C f g v n δ B) (eB B δ)
def augK (Cs : List Addr) (f : Str) (g : DOp) (te : DE) (n : Nat) (δ : Lo) (B : DEnds) (S : Sto) (o : Option (Addr × List (Str × D))) : Prop := opt o fun q => q.1 ∈ Cs ∧ opt (q.2.lookup f) (augV q.1 f g te n δ B S)
def qAugF (Cs : List Addr) (f : Str) (g : DOp) (te : DE) (δ : Lo) (B : DEnds) : QD := fun x S1 => match x with
  | .m n => ∃ C fs v, S1 n = some (.ins C fs) ∧ C ∈ Cs ∧ fs.lookup f = some v ∧ te δ S1 (fun y S2 => g S2 v y fun z => ∃ fs', S2 n = some (.ins C fs') ∧ fs'.length < 1000 ∧ B.nx δ (put S2 n (.ins C (putD f z fs')))) (fun er S4 => B.ex er δ S4)
  | _ => False
@[simp] theorem ev_augF : dAugF Cs f g to te B δ S = to δ S (qAugF Cs f g te δ B) (eB B δ) := rfl
theorem augS_eq : augS C f n δ B S = fun z => ∃ fs', S n = some (.ins C fs') ∧ fs'.length < 1000 ∧ B.nx δ (put S n (.ins C (putD f z fs'))) := by
  funext z
  unfold augS augT
  refine propext ⟨fun h => ?_, fun ⟨fs', e, h⟩ => ?_⟩
  · cases q : S n with
    | none => rw [q] at h; exact h.elim
    | some c =>
      rw [q] at h
      cases c with
      | lst xs => exact h.elim
      | dT => exact h.elim
      | dK => exact h.elim
      | ins C' fs' =>
        obtain ⟨h1, h2⟩ := h
        have h1 : C' = C := h1
        subst h1
        exact ⟨fs', rfl, h2⟩
  · rw [e]
    exact ⟨rfl, h⟩
@[simp] theorem ev_augF1 : qAugF Cs f g te δ B (.m n) S = augK Cs f g te n δ B S (celI (S n)) := by
  show (∃ C fs v, S n = some (.ins C fs) ∧ C ∈ Cs ∧ fs.lookup f = some v ∧ te δ S (fun y S2 => g S2 v y fun z => ∃ fs', S2 n = some (.ins C fs') ∧ fs'.length < 1000 ∧ B.nx δ (put S2 n (.ins C (putD f z fs')))) (fun er S4 => B.ex er δ S4)) = _
  unfold augK
  refine propext ⟨fun ⟨C, fs, v, h1, h2, h3, h4⟩ => ?_, fun h => ?_⟩
  · rw [h1]
    refine ⟨h2, opt_eq h3 ?_⟩
    show te δ S (qAug2 C f g v n δ B) _
    unfold qAug2
    simp only [augS_eq]
    exact h4
  · cases q : S n with
    | none => rw [q] at h; exact h.elim
    | some c =>
      rw [q] at h
      cases c with
      | lst xs => exact h.elim
      | dT => exact h.elim
      | dK => exact h.elim
      | ins C' fs' =>
        obtain ⟨h1, h2⟩ := h
        obtain ⟨v, h3, h4⟩ := opt_of h2
        refine ⟨C', fs', v, rfl, h1, h3, ?_⟩
        have h4 : te δ S (qAug2 C' f g v n δ B) (eB B δ) := h4
        unfold qAug2 at h4
        simp only [augS_eq] at h4
        exact h4
@[simp] theorem augK_s : augK Cs f g te n δ B S (some (C, fs)) = (C ∈ Cs ∧ opt (fs.lookup f) (augV C f g te n δ B S)) := rfl
@[simp] theorem ev_augV : augV C f g te n δ B S v = te δ S (qAug2 C f g v n δ B) (eB B δ) := rfl
@[simp] theorem ev_aug2 : qAug2 C f g v n δ B y S = g S v y (augS C f n δ B S) := rfl
@[simp] theorem ev_augS : augS C f n δ B S z = augT C f n z δ B S (celI (S n)) := rfl
@[simp] theorem augT_s {C' : Addr} : augT C f n z δ B S (some (C', fs)) = (C' = C ∧ fs.length < 1000 ∧ B.nx δ (put S n (.ins C (putD f z fs)))) := rfl
/-! o.reverse() -/
def qRev (g : List D → List D) (Q : QD) : QD := fun x S1 => match x with
  | .m n => ∃ ds, S1 n = some (.lst ds) ∧ Q .non (put S1 n (.lst (g ds)))
  | _ => False
variable {Q : QD} {E : QE} {gl : List D → List D} {xs : List D}
@[simp] theorem ev_rev : dRev gl to δ S Q E = to δ S (qRev gl Q) E := by
  unfold dRev
  congr 1
def revK (gl : List D → List D) (n : Nat) (Q : QD) (S : Sto) (o : Option (List D)) : Prop := opt o fun ds => Q .non (put S n (.lst (gl ds)))
@[simp] theorem revK_s : revK gl n Q S (some xs) = Q .non (put S n (.lst (gl xs))) := rfl
@[simp] theorem ev_rev1 : qRev gl Q (.m n) S = revK gl n Q S (celO (S n)) := by
  show (∃ ds, S n = some (.lst ds) ∧ _) = _
  unfold revK
  refine propext ⟨fun ⟨ds, h, q⟩ => ?_, fun h => ?_⟩
  · rw [h]; exact q
  · cases q : S n with
    | none => rw [q] at h; exact h.elim
    | some c =>
      rw [q] at h
      cases c with
      | ins => exact h.elim
      | dT => exact h.elim
      | dK => exact h.elim
      | lst ds => exact ⟨ds, rfl, h⟩
end
end DL
namespace DL
open PySem L2
/-! ints in rows -/
def dI : D → Int
  | .int i => i
  | _ => 0
@[simp] theorem dI_map (ns : List Int) : (ns.map D.int).map dI = ns := by
  rw [List.map_map]
  exact (List.map_congr_left (g := id) fun _ _ => rfl).trans (List.map_id ns)
theorem int_inj {a b : List Int} (h : a.map D.int = b.map D.int) : a = b := by
  rw [← dI_map a, h, dI_map]
@[simp] theorem int_inj' {a b : List Int} : (a.map D.int = b.map D.int) = (a = b) := propext ⟨int_inj, fun h => by rw [h]⟩
/-- the number at a place -/
def gI (l : List Int) (j : Int) : Int := l.getD j.toNat 0
@[simp] theorem at_gI {l : List Int} {j : Int} (h0 : 0 ≤ j) (h1 : j < l.length) : atI (l.map D.int) j = some (.int (gI l j)) := by
  rw [at_get h0 (by rw [List.length_map]; exact h1), List.getElem_map]
  unfold gI
  rw [List.getD_eq_getElem?_getD, List.getElem?_eq_getElem (by omega)]
  rfl
theorem gI_eq {l : List Int} {j : Nat} (h : j < l.length) : gI l j = l[j] := by
  unfold gI
  rw [List.getD_eq_getElem?_getD, Int.toNat_natCast, List.getElem?_eq_getElem h]
  rfl
theorem rngD_at {lo : Int} {n j : Nat} {d : D} (h : (rngD lo n)[j]? = some d) : j < n ∧ d = .int (lo + j) := by
  have q := (List.getElem?_eq_some_iff.mp h).1
  rw [rngD_len] at q
  rw [rngD_get _ _ _ q] at h
  exact ⟨q, by cases h; rfl⟩
theorem natabs_if (z : Int) : (if z < 0 then -z else z) = (z.natAbs : Int) := by omega
theorem log_le {m : Int} (h : 0 < m) (h2 : m ≤ 10 ^ 60) : m.natAbs.log2 < 9000 := by
  have : m.natAbs.log2 < 220 := (Nat.log2_lt (by omega)).mpr (by
    have e : ((m.natAbs : Nat) : Int) = m := Int.natAbs_of_nonneg (by omega)
    have e2 : (10 : Int) ^ 60 < ((2 ^ 220 : Nat) : Int) := by decide
    omega)
  omega
end DL
namespace DL
open PySem L2
@[simp] theorem cpow_v {i j : Int} : CPow i j = (0 ≤ j ∧ j ≤ 1000000 ∧ i.natAbs < 2 ^ 64) := rfl
end DL
namespace DL
open PySem L2
@[simp] theorem mul_ml {x m j : Int} (h : 0 < m) (h1 : m ≤ 2 ^ 64) : (CMul (x % m) j ∨ CMulW (x % m) j) = True := by
  have a := Int.emod_nonneg x (b := m) (by omega)
  have b := Int.emod_lt_of_pos x h
  exact mul_l ⟨by omega, by omega⟩
end DL
namespace DL
@[simp] theorem log2_lit {m : Nat} (h : m < 2 ^ 64) : (Nat.log2 m < 9000) = True := by
  refine eq_true ?_
  by_cases z : m = 0
  · subst z; decide
  · have : m.log2 < 64 := (Nat.log2_lt z).mpr h
    omega
end DL
namespace DL
def addO {A : Type} (o : Option A) (l : List A) : List A := match o with
  | some x => x :: l
  | none => l
@[simp] theorem addO_s {A : Type} {x : A} {l : List A} : addO (some x) l = x :: l := rfl
@[simp] theorem addO_n {A : Type} {l : List A} : addO none l = l := rfl
section
variable {A : Type} {us zs ds : List A} {sl : List Sl} {i : Nat}
@[simp] theorem mixK_nil : mixK [] us zs ds = [] := rfl
@[simp] theorem mixK_p : mixK (.p i :: sl) us zs ds = addO us[i]? (mixK sl us zs ds) := by
  unfold mixK
  rw [List.filterMap_cons]
  show (match us[i]? with | none => _ | some b => _) = _
  cases us[i]? <;> rfl
@[simp] theorem mixK_k : mixK (.k i :: sl) us zs ds = addO zs[i]? (mixK sl us zs ds) := by
  unfold mixK
  rw [List.filterMap_cons]
  show (match zs[i]? with | none => _ | some b => _) = _
  cases zs[i]? <;> rfl
@[simp] theorem mixK_d : mixK (.d i :: sl) us zs ds = addO ds[i]? (mixK sl us zs ds) := by
  unfold mixK
  rw [List.filterMap_cons]
  show (match ds[i]? with | none => _ | some b => _) = _
  cases ds[i]? <;> rfl
end
end DL

set_option maxHeartbeats 4000000
namespace DL
open PySem PySem.Spec L2
/-! ## 43. list(range(..)), pop(i) -/
theorem rp_rg {K : PySem.W.Frag} {I : Hp} {α : Am} {a b : Int} : RpL K I α (rgV a b) (rngD a (b - a).toNat) := by
  rw [rngD_map]
  unfold rgV
  generalize List.range (b - a).toNat = l
  induction l with
  | nil => exact .nil
  | cons x l ih => exact .cons (.int _) ih
def dLRg1 (ta : DE) : DA := fun δ S Q E => ta δ S (fun d S1 => match d with
  | .int n => RgOk 0 n ∧ Q (rngD 0 (n - 0).toNat) S1
  | _ => False) E
def dLRg2 (ta tb : DE) : DA := fun δ S Q E => ta δ S (fun d S1 => tb δ S1 (fun f S2 => match d, f with
  | .int a, .int n => RgOk a n ∧ Q (rngD a (n - a).toNat) S2
  | _, _ => False) E) E
section
variable {X : Cx} {W : WX} {a b o i : Expr} {ta tb to ti : DE} {p pos pr posr apos : Pos}
theorem df_lrg1 (hc : X.calm = true) (hg : Gl X "list") (hm : X.mg "list" = none) (hg2 : Gl X "range") (hm2 : X.mg "range" = none) (ha : PE X a (toE X.K W ta)) (n1 : starEach [a] X.env = (false, eval a X.env) :: starEach [] X.env := by rfl)
    (n2 : starEach [.Call (.Name "range" pr) [a] [] posr] X.env = (false, eval (.Call (.Name "range" pr) [a] [] posr) X.env) :: starEach [] X.env := by rfl) : PE X (.Call (.Name "list" p) [.Call (.Name "range" pr) [a] [] posr] [] pos) (toF X.K W (dLRg1 ta)) :=
  pimp (pe_listRg hc hg hm (prg_1 hg2 hm2 ha n1) n2) fun σ H Q h => by
  obtain ⟨w, δ, Qd, Ed, rfl, ok, lo, t, q, ec⟩ := h
  refine ⟨w, δ, _, Ed, rfl, ok, lo, t, fun d v w1 t1 l1 ok1 r1 => ?_, ec⟩
  cases d with
  | int n =>
    cases r1
    obtain ⟨ok2, h⟩ := t1
    refine ⟨n, rfl, ok2, fun y hy => ?_⟩
    obtain ⟨l2, ok3, h0, hI, hn⟩ := fresh_side (o := .lst (rgV 0 n)) l1 ok1 hy
    exact q _ _ y (w1.side (upd w1.H y (.lst (rgV 0 n)))) h l2 ok3 rp_rg upd_same h0 hI hn
  | _ => exact t1.elim
theorem df_lrg2 (hc : X.calm = true) (hg : Gl X "list") (hm : X.mg "list" = none) (hg2 : Gl X "range") (hm2 : X.mg "range" = none) (ha : PE X a (toE X.K W ta)) (hb : PE X b (toE X.K W tb)) (n1 : starEach [a, b] X.env = (false, eval a X.env) :: starEach [b] X.env := by rfl)
    (n3 : starEach [b] X.env = (false, eval b X.env) :: starEach [] X.env := by rfl) (n4 : (backTo posr (starEach [b] X.env)).any (·.1) = false := by rfl)
    (n2 : starEach [.Call (.Name "range" pr) [a, b] [] posr] X.env = (false, eval (.Call (.Name "range" pr) [a, b] [] posr) X.env) :: starEach [] X.env := by rfl) : PE X (.Call (.Name "list" p) [.Call (.Name "range" pr) [a, b] [] posr] [] pos) (toF X.K W (dLRg2 ta tb)) :=
  pimp (pe_listRg hc hg hm (prg_2 hg2 hm2 ha hb n1 n3 n4) n2) fun σ H Q h => by
  obtain ⟨w, δ, Qd, Ed, rfl, ok, lo, t, q, ec⟩ := h
  refine ⟨w, δ, _, Ed, rfl, ok, lo, t, fun d v w1 t1 l1 ok1 r1 => ?_, ec⟩
  refine ⟨w1, δ, _, Ed, rfl, ok1, lo.up l1, t1, fun f u w2 t2 l2 ok2 r2 => ?_, ec.up l1⟩
  match d, f, t2, r1, r2 with
  | .int a', .int n', t2, r1, r2 =>
    cases r1; cases r2
    obtain ⟨okr, h⟩ := t2
    refine ⟨a', n', rfl, rfl, okr, fun y hy => ?_⟩
    obtain ⟨l3, ok3, h0, hI, hn⟩ := fresh_side (o := .lst (rgV a' n')) (l1.trans l2) ok2 hy
    exact q _ _ y (w2.side (upd w2.H y (.lst (rgV a' n')))) h l3 ok3 rp_rg upd_same h0 hI hn
/-- o.pop(i) -/
def dPopI (to ti : DE) : DE := fun δ S Q E => to δ S (fun x S1 => match x with
  | .m n => (∃ ds, S1 n = some (.lst ds)) ∧ ti δ S1 (fun y S2 => match y with
    | .int j => ∃ ds k d, S2 n = some (.lst ds) ∧ -(2 ^ 63) ≤ j ∧ j < 2 ^ 63 ∧ seqIndex? j ds.length = some k ∧ ds[k]? = some d ∧ Q d (put S2 n (.lst (ds.eraseIdx k)))
    | _ => False) E
  | _ => False) E
theorem RpL.erase {K : PySem.W.Frag} {I : Hp} {α : Am} : ∀ {vs : List V} {ds : List D} (k : Nat), RpL K I α vs ds → RpL K I α (vs.eraseIdx k) (ds.eraseIdx k)
  | _, _, _, .nil => .nil
  | _, _, 0, .cons _ t => t
  | _, _, k + 1, .cons h t => .cons h (RpL.erase k t)
theorem de_popI (ho : PE X o (toE X.K W to)) (hi : PE X i (toE X.K W ti)) (hs : PE X o (toE X.K W to) → PE X i (toE X.K W ti) → PE X (.Call (.Attribute o "pop" apos) [i] [] pos) (tBM X.K "list" rPopAt (toE X.K W to) (tCons (toE X.K W ti) tNil)) := by intro ho hi; exact pe_bm PySem.F.plainAttrs_list PySem.F.slot_list_pop PySem.F.type_list_pop mt_popAt ho (pa_cons hi pa_nil)) :
    PE X (.Call (.Attribute o "pop" apos) [i] [] pos) (toE X.K W (dPopI to ti)) := pimp (hs ho hi) fun σ H Q h => by
  obtain ⟨w, δ, Qd, Ed, rfl, ok, lo, t, q, ec⟩ := h
  refine ⟨w, δ, _, Ed, rfl, ok, lo, t, fun x v w1 t1 l1 ok1 r1 => ?_, ec⟩
  cases x with
  | m n =>
    obtain ⟨y, rfl, hp⟩ := r1.m'
    obtain ⟨⟨ds0, hs0⟩, t1⟩ := t1
    obtain ⟨vs0, h0, _⟩ := celL_at ok1 hs0 hp
    refine ⟨.inl ⟨rfl, vs0, SqL.of h0⟩, w1, δ, _, Ed, rfl, ok1, lo.up l1, t1, fun y' u w2 t2 l2 ok2 r2 => ?_, ec.up l1⟩
    cases y' with
    | int j =>
      cases r2
      obtain ⟨ds, k, d, hd, b0, b1, hk, hdk, h⟩ := t2
      obtain ⟨vs, hv, rv⟩ := celL_at ok2 hd (l2.aa _ _ hp)
      obtain ⟨z, hz, rz⟩ := rv.get hdk
      obtain ⟨l3, ok3⟩ := setL ok2 hd (l2.aa _ _ hp) (rv.erase k)
      exact ⟨y, vs, j, k, z, rfl, rfl, hv, b0, b1, by rw [rv.length]; exact hk, hz, q _ _ _ h ((l1.trans l2).trans l3) ok3 (rz.up l3)⟩
    | _ => exact t2.elim
  | _ => exact t1.elim
end
/-! ### evaluated -/
section
variable {δ : Lo} {S : Sto} {Q : QD} {Qa : QL} {Qi : QI} {E : QE} {u : DA} {ta tb to ti : DE} {n : Nat} {d x y : D} {xs ys : List D} {k : D → Prop} {ns : List Int} {bs : List Bool} {i j : Int}
def qLRg1 (Q : QL) : QD := fun d S1 => match d with
  | .int n => RgOk 0 n ∧ Q (rngD 0 (n - 0).toNat) S1
  | _ => False
@[simp] theorem ev_lrg1 : dLRg1 ta δ S Qa E = ta δ S (qLRg1 Qa) E := rfl
@[simp] theorem ev_lrg1' : qLRg1 Qa (.int i) S = (RgOk 0 i ∧ Qa (rngD 0 i.toNat) S) := by
  show (RgOk 0 i ∧ Qa (rngD 0 (i - 0).toNat) S) = _
  rw [Int.sub_zero]
def qLRg22 (d : D) (Q : QL) : QD := fun f S2 => match d, f with
  | .int a, .int n => RgOk a n ∧ Q (rngD a (n - a).toNat) S2
  | _, _ => False
def qLRg2 (tb : DE) (δ : Lo) (Q : QL) (E : QE) : QD := fun d S1 => tb δ S1 (qLRg22 d Q) E
@[simp] theorem ev_lrg2 : dLRg2 ta tb δ S Qa E = ta δ S (qLRg2 tb δ Qa E) E := rfl
@[simp] theorem ev_lrg2' : qLRg2 tb δ Qa E x S = tb δ S (qLRg22 x Qa) E := rfl
@[simp] theorem ev_lrg22 : qLRg22 (.int i) Qa (.int j) S = (RgOk i j ∧ Qa (rngD i (j - i).toNat) S) := rfl
theorem rgok {a b : Int} (h0 : 0 ≤ a) (h1 : b ≤ 16777216) (h2 : a ≤ 16777216) (h3 : 0 ≤ b) : RgOk a b := RgOk.of_le h0 h1 h2 h3
def popI (n : Nat) (j : Int) (Q : QD) (S2 : Sto) (o : Option (List D)) : Prop := opt o fun ds => -(2 ^ 63) ≤ j ∧ j < 2 ^ 63 ∧ opt (seqIndex? j ds.length) fun k => opt ds[k]? fun d => Q d (put S2 n (.lst (ds.eraseIdx k)))
def qPopI2 (n : Nat) (Q : QD) : QD := fun y S2 => match y with
  | .int j => popI n j Q S2 (celO (S2 n))
  | _ => False
def qPopI1 (ti : DE) (δ : Lo) (Q : QD) (E : QE) : QD := fun x S1 => match x with
  | .m n => (∃ ds, S1 n = some (.lst ds)) ∧ ti δ S1 (qPopI2 n Q) E
  | _ => False
theorem popI_eq : (fun (y : D) (S2 : Sto) => (match y with
    | .int j => ∃ ds k d, S2 n = some (.lst ds) ∧ -(2 ^ 63) ≤ j ∧ j < 2 ^ 63 ∧ seqIndex? j ds.length = some k ∧ ds[k]? = some d ∧ Q d (put S2 n (.lst (ds.eraseIdx k)))
    | _ => False : Prop)) = qPopI2 n Q := by
  funext y S2
  cases y with
  | int j =>
    show (∃ ds k d, _) = popI n j Q S2 (celO (S2 n))
    unfold popI
    refine propext ⟨fun ⟨ds, k, d, h1, h2, h3, h4, h5, h6⟩ => ?_, fun h => ?_⟩
    · rw [h1]
      exact ⟨h2, h3, opt_eq h4 (opt_eq h5 h6)⟩
    · obtain ⟨ds, h1, h2, h3, h⟩ := opt_of h
      obtain ⟨k, h4, h⟩ := opt_of h
      obtain ⟨d, h5, h6⟩ := opt_of h
      refine ⟨ds, k, d, ?_, h2, h3, h4, h5, h6⟩
      cases e : S2 n with
      | none => rw [e] at h1; cases h1
      | some c => rw [e] at h1; cases c with
        | ins => cases h1
        | dT => cases h1
        | dK => cases h1
        | lst ys => cases h1; rfl
  | _ => rfl
@[simp] theorem ev_popI : dPopI to ti δ S Q E = to δ S (qPopI1 ti δ Q E) E := by
  unfold dPopI
  congr 1
  funext x S1
  cases x with
  | m n =>
    show (_ ∧ ti δ S1 _ E) = (_ ∧ ti δ S1 (qPopI2 n Q) E)
    rw [← popI_eq]
  | _ => rfl
@[simp] theorem ev_popI1 : qPopI1 ti δ Q E (.m n) S = ((∃ ds, S n = some (.lst ds)) ∧ ti δ S (qPopI2 n Q) E) := rfl
@[simp] theorem ev_popI2 : qPopI2 n Q (.int j) S = popI n j Q S (celO (S n)) := rfl
@[simp] theorem popI_s : popI n j Q S (some xs) = (-(2 ^ 63) ≤ j ∧ j < 2 ^ 63 ∧ opt (seqIndex? j xs.length) fun k => opt xs[k]? fun d => Q d (put S n (.lst (xs.eraseIdx k)))) := rfl
/-! enumerate, zip -/
def qEnA (Q : QI) : QL := fun ds S1 => match ds with
  | [d] => opt (asSq S1 d) fun xs => Q (enumD 0 xs) (kpOf S1 d) S1
  | _ => False
def qEnK' (Q : QI) (kp : Sto → Prop) (S : Sto) : List D → Prop := fun xs => Q (enumD 0 xs) kp S
@[simp] theorem ev_enA : iEnA u δ S Qi E = u δ S (qEnA Qi) E := rfl
@[simp] theorem ev_enA_t : qEnA Qi [.tup xs] S = Qi (enumD 0 xs) kT S := rfl
@[simp] theorem ev_enA_l : qEnA Qi [.lst xs] S = Qi (enumD 0 xs) kT S := rfl
@[simp] theorem ev_enA_r : qEnA Qi [.rol xs] S = Qi (enumD 0 xs) kT S := rfl
@[simp] theorem ev_enA_m : qEnA Qi [.m n] S = opt (celO (S n)) (qEnK' Qi (kM S n) S) := by
  show opt (asSq S (.m n)) _ = _
  rw [asSq_m]
  rfl
@[simp] theorem ev_enK' {kp : Sto → Prop} : qEnK' Qi kp S xs = Qi (enumD 0 xs) kp S := rfl
def qZpA (Q : QI) : QL := fun ds S1 => match ds with
  | [d, f] => opt (asSq S1 d) fun xs => opt (asSq S1 f) fun ys => Q (zipD xs ys) (fun S' => kpOf S1 d S' ∧ kpOf S1 f S') S1
  | _ => False
@[simp] theorem ev_zpA : iZpA u δ S Qi E = u δ S (qZpA Qi) E := rfl
theorem kT2 : (fun S' : Sto => True ∧ True) = kT := by funext S'; exact propext ⟨fun _ => trivial, fun _ => ⟨trivial, trivial⟩⟩
@[simp] theorem ev_zpA_tt : qZpA Qi [.tup xs, .tup ys] S = Qi (zipD xs ys) kT S := by rw [← kT2]; rfl
@[simp] theorem ev_zpA_tl : qZpA Qi [.tup xs, .lst ys] S = Qi (zipD xs ys) kT S := by rw [← kT2]; rfl
@[simp] theorem ev_zpA_lt : qZpA Qi [.lst xs, .tup ys] S = Qi (zipD xs ys) kT S := by rw [← kT2]; rfl
@[simp] theorem ev_zpA_ll : qZpA Qi [.lst xs, .lst ys] S = Qi (zipD xs ys) kT S := by rw [← kT2]; rfl
theorem zipD_map {A B : Type} {f : A → D} {g : B → D} : ∀ {l : List A} {r : List B}, zipD (l.map f) (r.map g) = (l.zip r).map fun q => .tup [f q.1, g q.2]
  | [], _ => rfl
  | _ :: _, [] => rfl
  | a :: l, b :: r => by
    show D.tup [f a, g b] :: zipD (l.map f) (r.map g) = _
    rw [zipD_map]
    rfl
theorem enumD_map {A : Type} {f : A → D} : ∀ {l : List A} {n : Nat}, enumD n (l.map f) = (l.zipIdx n).map fun q => .tup [.int q.2, f q.1]
  | [], _ => rfl
  | a :: l, n => by
    show D.tup [.int n, f a] :: enumD (n + 1) (l.map f) = _
    rw [enumD_map]
    rfl
/-! the built-ins -/
@[simp] theorem sum_l : oSum S [.lst (ns.map .int)] k = k (.int ns.sum) := by
  show opt (intsD (ns.map .int)) _ = _
  rw [intsD_map] <;> rfl
@[simp] theorem sum_r : oSum S [.rol (ns.map .int)] k = k (.int ns.sum) := by
  show opt (intsD (ns.map .int)) _ = _
  rw [intsD_map] <;> rfl
@[simp] theorem all_l : oAll S [.lst (bs.map .bl)] k = k (.bl (bs.all id)) := by
  show opt (blsD (bs.map .bl)) _ = _
  rw [blsD_map] <;> rfl
@[simp] theorem any_l : oAny S [.lst (bs.map .bl)] k = k (.bl (bs.any id)) := by
  show opt (blsD (bs.map .bl)) _ = _
  rw [blsD_map] <;> rfl
@[simp] theorem max2_i : oMax2 S [.int i, .int j] k = k (.int (if j > i then j else i)) := rfl
@[simp] theorem min2_i : oMin2 S [.int i, .int j] k = k (.int (if j < i then j else i)) := rfl
@[simp] theorem strI_i : oStrI S [.int i] k = (i.natAbs.log2 < 1920 ∧ k (.str (toString i))) := rfl
end
end DL

set_option maxHeartbeats 4000000
namespace DL
open PySem L2
/-! ## 24. Plain data -/
mutual
def pln : Nat → D → Bool
  | _, .non => true
  | _, .bl _ => true
  | _, .int _ => true
  | _, .str x => PyData.strOk x
  | n + 1, .lst xs => plnL n xs
  | n + 1, .tup xs => plnL n xs
  | n + 1, .rol xs => plnL n xs
  | _, _ => false
def plnL : Nat → List D → Bool
  | _, [] => true
  | n, x :: xs => pln n x && plnL n xs
end
mutual
theorem pln_py : ∀ (n : Nat) (d : D), pln n d = true → (pyOf d).canLay0 = true ∧ (pyOf d).depth ≤ n ∧ PyData.eqv (pyOf d) (pyOf d) = true
  | _, .non, _ => ⟨rfl, Nat.zero_le _, rfl⟩
  | _, .bl b, _ => ⟨rfl, Nat.zero_le _, by simp [pyOf, PyData.eqv]⟩
  | _, .int _, _ => ⟨rfl, Nat.zero_le _, by simp [pyOf, PyData.eqv]⟩
  | 0, .str x, h => ⟨by simpa [pln, pyOf, PyData.canLay0] using h, Nat.zero_le _, by simp [pyOf, PyData.eqv]⟩
  | n + 1, .str x, h => ⟨by simpa [pln, pyOf, PyData.canLay0] using h, Nat.zero_le _, by simp [pyOf, PyData.eqv]⟩
  | n + 1, .lst xs, h => by
    obtain ⟨a, b, c⟩ := plnL_py n xs (by simpa [pln] using h)
    exact ⟨by simpa [pyOf, PyData.canLay0] using a, by simp only [pyOf, PyData.depth]; omega, by simpa [pyOf, PyData.eqv] using c⟩
  | n + 1, .tup xs, h => by
    obtain ⟨a, b, c⟩ := plnL_py n xs (by simpa [pln] using h)
    exact ⟨by simpa [pyOf, PyData.canLay0] using a, by simp only [pyOf, PyData.depth]; omega, by simpa [pyOf, PyData.eqv] using c⟩
  | n + 1, .rol xs, h => by
    obtain ⟨a, b, c⟩ := plnL_py n xs (by simpa [pln] using h)
    exact ⟨by simpa [pyOf, PyData.canLay0] using a, by simp only [pyOf, PyData.depth]; omega, by simpa [pyOf, PyData.eqv] using c⟩
  | 0, .lst _, h => by simp [pln] at h
  | 0, .tup _, h => by simp [pln] at h
  | 0, .rol _, h => by simp [pln] at h
  | 0, .ins _ _, h => by simp [pln] at h
  | _ + 1, .ins _ _, h => by simp [pln] at h
  | 0, .cv _, h => by simp [pln] at h
  | _ + 1, .cv _, h => by simp [pln] at h
  | 0, .exc _ _ _ _, h => by simp [pln] at h
  | _ + 1, .exc _ _ _ _, h => by simp [pln] at h
  | 0, .m _, h => by simp [pln] at h
  | _ + 1, .m _, h => by simp [pln] at h
theorem plnL_py : ∀ (n : Nat) (ds : List D), plnL n ds = true → PyData.canLayAll0 (pyOfL ds) = true ∧ PyData.depthAll (pyOfL ds) ≤ n ∧ PyData.eqvAll (pyOfL ds) (pyOfL ds) = true
  | _, [], _ => ⟨rfl, Nat.zero_le _, rfl⟩
  | n, d :: ds, h => by
    have h' : pln n d = true ∧ plnL n ds = true := by simpa [plnL] using h
    obtain ⟨a, b, c⟩ := pln_py n d h'.1
    obtain ⟨a2, b2, c2⟩ := plnL_py n ds h'.2
    exact ⟨by simp [pyOfL, PyData.canLayAll0, a, a2], by simp only [pyOfL, PyData.depthAll]; omega, by simp [pyOfL, PyData.eqvAll, c, c2]⟩
end
theorem pln_shp {n : Nat} {d : D} (h : pln n d = true) (hn : n ≤ 64) : shp (pyOf d) := by
  obtain ⟨a, b, _⟩ := pln_py n d h
  show SeqAt.shaped (pyOf d) = true
  unfold SeqAt.shaped
  rw [a]
  simp
  omega

section
variable {neg : Bool} {S : Sto} {k : D → Prop} {xs ys : List D} {n : Nat} {a b : List Int} {d : D}
theorem plnL_map {A : Type} {m : Nat} {f : A → D} : ∀ {l : List A}, (∀ x ∈ l, pln m (f x) = true) → plnL m (l.map f) = true
  | [], _ => rfl
  | x :: l, h => by
    show (pln m (f x) && plnL m (l.map f)) = true
    rw [h x (List.mem_cons_self ..), plnL_map fun y hy => h y (List.mem_cons_of_mem _ hy)]
    rfl
theorem pln_int {m : Nat} {i : Int} : pln m (.int i) = true := by cases m <;> rfl
theorem plnL_ints {m : Nat} : plnL m (a.map D.int) = true := plnL_map fun _ _ => pln_int
theorem pln_ints {m : Nat} : pln (m + 1) (.tup (a.map D.int)) = true := plnL_ints
theorem eqv_ints : ∀ {a b : List Int}, PyData.eqvAll (pyOfL (a.map D.int)) (pyOfL (b.map D.int)) = decide (a = b)
  | [], [] => rfl
  | [], _ :: _ => rfl
  | _ :: _, [] => rfl
  | x :: a, y :: b => by
    show (PyData.eqv (.int x) (.int y) && PyData.eqvAll (pyOfL (a.map D.int)) (pyOfL (b.map D.int))) = _
    rw [eqv_ints]
    by_cases h : x = y
    · subst h
      by_cases h2 : a = b
      · subst h2; simp [PyData.eqv]
      · simp [PyData.eqv, h2]
    · simp [PyData.eqv, h]
theorem pyS_m (h : S n = some (.lst xs)) : pyS S (.m n) = pyOf (.lst xs) := by
  show (match S n with | some (.lst ds) => PyData.list (pyOfL ds) | _ => .dict []) = _
  rw [h]
  rfl
/-- == of rows of numbers -/
@[simp] theorem eq_tt : oEq neg S (.tup (a.map .int)) (.tup (b.map .int)) k = k (.bl (neg ^^ decide (a = b))) := by
  show (shp _ ∧ shp _ ∧ k (.bl (neg ^^ PyData.eqvAll _ _))) = _
  have h1 : shp (pyS S (.tup (a.map .int))) := pln_shp (n := 1) (d := .tup (a.map .int)) plnL_ints (by decide)
  have h2 : shp (pyS S (.tup (b.map .int))) := pln_shp (n := 1) (d := .tup (b.map .int)) plnL_ints (by decide)
  rw [eqv_ints]
  exact propext ⟨fun h => h.2.2, fun h => ⟨h1, h2, h⟩⟩
@[simp] theorem eq_ll : oEq neg S (.lst (a.map .int)) (.lst (b.map .int)) k = k (.bl (neg ^^ decide (a = b))) := by
  show (shp _ ∧ shp _ ∧ k (.bl (neg ^^ PyData.eqvAll _ _))) = _
  have h1 : shp (pyS S (.lst (a.map .int))) := pln_shp (n := 1) (d := .lst (a.map .int)) plnL_ints (by decide)
  have h2 : shp (pyS S (.lst (b.map .int))) := pln_shp (n := 1) (d := .lst (b.map .int)) plnL_ints (by decide)
  rw [eqv_ints]
  exact propext ⟨fun h => h.2.2, fun h => ⟨h1, h2, h⟩⟩
theorem eq_ml (h : S n = some (.lst (a.map .int))) : oEq neg S (.m n) (.lst (b.map .int)) k = k (.bl (neg ^^ decide (a = b))) := by
  have e := pyS_m h
  show (shp (pyS S (.m n)) ∧ shp _ ∧ k (.bl (neg ^^ PyData.eqv (pyS S (.m n)) (pyS S (.lst (b.map .int)))))) = _
  rw [e]
  exact eq_ll (S := S)
/-- == with itself, of plain data -/
theorem eq_self {n : Nat} (h : pln n d = true) (hn : n ≤ 64) : oEq neg S d d k = k (.bl (!neg)) := by
  obtain ⟨a, b, c⟩ := pln_py n d h
  have hs := pln_shp h hn
  cases d with
  | non => cases neg <;> rfl
  | bl b => cases neg <;> simp
  | int b => cases neg <;> simp
  | str b => cases neg <;> simp
  | lst xs =>
    show (shp _ ∧ shp _ ∧ k (.bl (neg ^^ PyData.eqv (pyOf (.lst xs)) (pyOf (.lst xs))))) = _
    rw [c]
    have hs : shp (pyS S (.lst xs)) := hs
    exact propext ⟨fun h => by simpa using h.2.2, fun h => ⟨hs, hs, by simpa using h⟩⟩
  | tup xs =>
    show (shp _ ∧ shp _ ∧ k (.bl (neg ^^ PyData.eqv (pyOf (.tup xs)) (pyOf (.tup xs))))) = _
    rw [c]
    have hs : shp (pyS S (.tup xs)) := hs
    exact propext ⟨fun h => by simpa using h.2.2, fun h => ⟨hs, hs, by simpa using h⟩⟩
  | rol xs =>
    show (shp _ ∧ shp _ ∧ k (.bl (neg ^^ PyData.eqv (pyOf (.rol xs)) (pyOf (.rol xs))))) = _
    rw [c]
    have hs : shp (pyS S (.rol xs)) := hs
    exact propext ⟨fun h => by simpa using h.2.2, fun h => ⟨hs, hs, by simpa using h⟩⟩
  | ins C fs => cases n <;> simp [pln] at h
  | cv v => cases n <;> simp [pln] at h
  | exc => cases n <;> simp [pln] at h
  | m => cases n <;> simp [pln] at h
end
end DL

set_option maxHeartbeats 4000000
namespace DL
open PySem L2
/-! ## 37. Values of any kind; invariants of comprehensions; draws from a row -/
section
variable {kp : Sto → Prop} {g : DG} {c : DT} {elt : DE} {δ : Lo} {S : Sto} {Qa : QL}
theorem lc_inv (Inv : List D → List D → Sto → Prop) (hk : ∀ ds acc S, Inv ds acc S → kp S) (hl : ∀ d ds acc S, Inv (d :: ds) acc S → acc.length < sizeLine)
    (step : ∀ d ds acc S, Inv (d :: ds) acc S → ∀ (R : QD) (N : Sto → Prop), (∀ y S', Inv ds (acc ++ [y]) S' → R y S') → (∀ S', Inv ds acc S' → N S') → g d δ S (qLcT c elt R N))
    (fin : ∀ acc S, Inv [] acc S → Qa acc S) : ∀ ds acc S, Inv ds acc S → dLcL kp g c elt δ ds acc S Qa
  | [], acc, S, h => ⟨hk _ _ _ h, fin acc S h⟩
  | d :: ds, acc, S, h => ⟨hk _ _ _ h, step d ds acc S h _ _ (fun y S' h' => ⟨hl _ _ _ _ h, lc_inv Inv hk hl step fin ds _ S' h'⟩) fun S' h' => lc_inv Inv hk hl step fin ds acc S' h'⟩
theorem lc_D (m : D → D) (xs : List D) (hl : xs.length ≤ sizeLine) (hk : kp S) (h : ∀ a ∈ xs, ∀ (R : QD) (N : Sto → Prop), R (m a) S → g a δ S (qLcT c elt R N)) (q : Qa (xs.map m) S) : dLcL kp g c elt δ xs [] S Qa := by
  have := lc_map (kp := kp) (g := g) (c := c) (elt := elt) (δ := δ) (Qa := Qa) id m xs hl hk h q
  rwa [List.map_id] at this
end
/-- values whose type is known -/
def Gd (S : Sto) : D → Prop
  | .m n => (celO (S n)).isSome
  | .cv _ | .exc .. | .ins .. => False
  | _ => True
def GdN (S : Sto) : Nat → D → Prop
  | 0, d => Gd S d
  | r + 1, d => Gd S d ∧ ∀ xs, asSq S d = some xs → xs.length ≤ 1000000 ∧ ∀ x ∈ xs, GdN S r x
def isIntB : D → Bool
  | .int _ => true
  | .bl _ => true
  | _ => false
def isBlB : D → Bool
  | .bl _ => true
  | _ => false
def isTupB : D → Bool
  | .tup _ => true
  | _ => false
def kpS (S : Sto) : D → Sto → Prop
  | .m n => kM S n
  | _ => kT
section
variable {S : Sto} {d : D} {xs : List D} {Cs : List Addr} {Q : QD} {k : D → Prop}
theorem GdN.gd : ∀ {r : Nat}, GdN S r d → Gd S d
  | 0, h => h
  | _ + 1, h => h.1
@[simp] theorem gd_non : Gd S .non := trivial
@[simp] theorem gd_bl {b : Bool} : Gd S (.bl b) := trivial
@[simp] theorem gd_int {b : Int} : Gd S (.int b) := trivial
@[simp] theorem gd_str {b : Str} : Gd S (.str b) := trivial
@[simp] theorem gd_tup : Gd S (.tup xs) := trivial
@[simp] theorem gd_lst : Gd S (.lst xs) := trivial
@[simp] theorem gd_rol : Gd S (.rol xs) := trivial
theorem gd_m {n : Nat} (h : S n = some (.lst xs)) : Gd S (.m n) := by show (celO (S n)).isSome = true; rw [h]; rfl
theorem k_sq (h : Gd S d) : isKs Cs [.ty "list", .ty "tuple"] Q S (tyD S d) = Q (.bl (asSq S d).isSome) S := by
  cases d with
  | m n =>
    have h : (celO (S n)).isSome = true := h
    cases e : S n with
    | none => rw [e] at h; cases h
    | some c =>
      rw [e] at h
      cases c with
      | ins => cases h
      | dT => cases h
      | dK => cases h
      | lst xs => simp [e]
  | cv => exact h.elim
  | exc => exact h.elim
  | ins => exact h.elim
  | tup => simp
  | lst => simp
  | rol => simp
  | _ => simp <;> exact Iff.rfl
theorem k_tup (h : Gd S d) : isK Cs (.ty "tuple") Q S (tyD S d) = Q (.bl (isTupB d)) S := by
  cases d with
  | m n =>
    have h : (celO (S n)).isSome = true := h
    cases e : S n with
    | none => rw [e] at h; cases h
    | some c =>
      rw [e] at h
      cases c with
      | ins => cases h
      | dT => cases h
      | dK => cases h
      | lst xs => simp [e]; rfl
  | cv => exact h.elim
  | exc => exact h.elim
  | ins => exact h.elim
  | _ => simp <;> rfl
theorem k_int (h : Gd S d) : isK Cs (.ty "int") Q S (tyD S d) = Q (.bl (isIntB d)) S := by
  cases d with
  | m n =>
    have h : (celO (S n)).isSome = true := h
    cases e : S n with
    | none => rw [e] at h; cases h
    | some c =>
      rw [e] at h
      cases c with
      | ins => cases h
      | dT => cases h
      | dK => cases h
      | lst xs => simp [e]; rfl
  | cv => exact h.elim
  | exc => exact h.elim
  | ins => exact h.elim
  | _ => simp <;> rfl
theorem k_bool (h : Gd S d) : isK Cs (.ty "bool") Q S (tyD S d) = Q (.bl (isBlB d)) S := by
  cases d with
  | m n =>
    have h : (celO (S n)).isSome = true := h
    cases e : S n with
    | none => rw [e] at h; cases h
    | some c =>
      rw [e] at h
      cases c with
      | ins => cases h
      | dT => cases h
      | dK => cases h
      | lst xs => simp [e]; rfl
  | cv => exact h.elim
  | exc => exact h.elim
  | ins => exact h.elim
  | _ => simp <;> rfl
theorem len_sq (h : asSq S d = some xs) : oLen S [d] k = k (.int xs.length) := by
  cases d with
  | tup => cases h; simp
  | lst => cases h; simp
  | rol => cases h; simp
  | m n =>
    rw [asSq_m] at h
    simp [h]
  | _ => cases h
theorem kpS_self : kpS S d S := by
  cases d <;> first | trivial | exact rfl
theorem seq_sq {k : List D → (Sto → Prop) → Prop} (h : asSq S d = some xs) : seqI S d k = k xs (kpS S d) := by
  cases d with
  | tup => cases h; simp; rfl
  | lst => cases h; simp; rfl
  | rol => cases h; simp; rfl
  | m n =>
    rw [asSq_m] at h
    simp [h]
    rfl
  | _ => cases h
end
/-- a number below -/
def plcB (c : Int) : D → Bool
  | .int i => decide (0 ≤ i ∧ i < c)
  | _ => false
def posB : D → Bool
  | .int i => decide (0 < i)
  | _ => false
def fldB : D → Bool
  | .int i => decide (i ∈ ([2, 3, 5, 7, 11, 13, 17, 19, 23, 29, 31] : List Int))
  | _ => false
def tapeB (S : Sto) (p k : Int) (d : D) : Bool := match asSq S d with
  | some xs => decide ((xs.length : Int) = k) && xs.all (plcB p)
  | none => false
def tapesB (S : Sto) (p k b : Int) (d : D) : Bool := match asSq S d with
  | some xs => decide ((xs.length : Int) = b) && xs.all (tapeB S p k)
  | none => false
def rowB (p k : Int) : D → Bool
  | .tup xs => decide ((xs.length : Int) = k) && xs.all (plcB p)
  | _ => false
@[simp] theorem plc_int {c i : Int} : plcB c (.int i) = decide (0 ≤ i ∧ i < c) := rfl
theorem plc_of {c : Int} {d : D} (h : plcB c d = true) : ∃ i, d = .int i ∧ 0 ≤ i ∧ i < c := by
  cases d with
  | int i => exact ⟨i, rfl, of_decide_eq_true h⟩
  | _ => cases h
theorem all_plc {c : Int} : ∀ {xs : List D}, xs.all (plcB c) = true → ∃ ns : List Int, xs = ns.map .int ∧ ∀ i ∈ ns, 0 ≤ i ∧ i < c
  | [], _ => ⟨[], rfl, fun i h => by cases h⟩
  | d :: xs, h => by
    rw [List.all_cons, Bool.and_eq_true] at h
    obtain ⟨i, rfl, hi⟩ := plc_of h.1
    obtain ⟨ns, rfl, hn⟩ := all_plc h.2
    exact ⟨i :: ns, rfl, fun j hj => (List.mem_cons.mp hj).elim (fun e => e ▸ hi) (hn j)⟩
theorem all_plc_int {c : Int} {ns : List Int} (h : ∀ i ∈ ns, 0 ≤ i ∧ i < c) : (ns.map D.int).all (plcB c) = true := by
  rw [List.all_eq_true]
  intro d hd
  obtain ⟨i, hi, rfl⟩ := List.mem_map.mp hd
  exact decide_eq_true (h i hi)
def pInt : DFn := fun us S Q _ => match us with
  | [d] => Gd S d ∧ Q (.bl (isIntB d && !isBlB d)) S
  | _ => False
def pPlace : DFn := fun us S Q _ => match us with
  | [d, .int c] => Gd S d ∧ Q (.bl (plcB c d)) S
  | _ => False
def pAbove : DFn := fun us S Q _ => match us with
  | [d] => Gd S d ∧ Q (.bl (posB d)) S
  | _ => False
def pSeq : DFn := fun us S Q _ => match us with
  | [d] => Gd S d ∧ Q (.bl (asSq S d).isSome) S
  | _ => False
def pFld : DFn := fun us S Q _ => match us with
  | [d] => Gd S d ∧ Q (.bl (fldB d)) S
  | _ => False
def pTape : DFn := fun us S Q _ => match us with
  | [d, .int p, .int k] => GdN S 1 d ∧ Q (.bl (tapeB S p k d)) S
  | _ => False
def pRow : DFn := fun us S Q _ => match us with
  | [d, .int p, .int k] => GdN S 1 d ∧ Q (.bl (rowB p k d)) S
  | _ => False
section
variable {S : Sto} {d : D} {Q : QD} {E : QE} {c p k : Int}
@[simp] theorem ev_pInt : pInt [d] S Q E = (Gd S d ∧ Q (.bl (isIntB d && !isBlB d)) S) := rfl
@[simp] theorem ev_pPlace : pPlace [d, .int c] S Q E = (Gd S d ∧ Q (.bl (plcB c d)) S) := rfl
@[simp] theorem ev_pAbove : pAbove [d] S Q E = (Gd S d ∧ Q (.bl (posB d)) S) := rfl
@[simp] theorem ev_pSeq : pSeq [d] S Q E = (Gd S d ∧ Q (.bl (asSq S d).isSome) S) := rfl
@[simp] theorem ev_pFld : pFld [d] S Q E = (Gd S d ∧ Q (.bl (fldB d)) S) := rfl
@[simp] theorem ev_pTape : pTape [d, .int p, .int k] S Q E = (GdN S 1 d ∧ Q (.bl (tapeB S p k d)) S) := rfl
@[simp] theorem ev_pRow : pRow [d, .int p, .int k] S Q E = (GdN S 1 d ∧ Q (.bl (rowB p k d)) S) := rfl
end
/-! a row that is drawn from, in turn -/
def stC (xs : List Int) (pos : Int) : Cell := .lst [.lst (xs.map .int), .int pos]
def tkK (many : Int) (S : Sto) (n : Nat) (Q : QD) (o : Option Cell) : Prop := match o with
  | some (.lst [.lst xs, .int pos]) => xs = (xs.map dI).map .int ∧ 0 < xs.length ∧ ∀ v, 0 ≤ v → v < max 1 many → Q (.int v) (put S n (stC (xs.map dI) (pos + 1)))
  | _ => False
def pTake : DFn := fun us S Q _ => match us with
  | [.m n, .int many] => tkK many S n Q (S n)
  | _ => False
section
variable {S : Sto} {n : Nat} {many pos : Int} {xs : List Int} {Q : QD} {E : QE}
@[simp] theorem ev_pTake : pTake [.m n, .int many] S Q E = tkK many S n Q (S n) := rfl
@[simp] theorem ev_tkK : tkK many S n Q (some (stC xs pos)) = (0 < xs.length ∧ ∀ v, 0 ≤ v → v < max 1 many → Q (.int v) (put S n (stC xs (pos + 1)))) := by
  show ((_ : Prop) ∧ _ ∧ _) = _
  rw [dI_map, List.length_map]
  simp
theorem tkK_of {o : Option Cell} (h : tkK many S n Q o) : ∃ xs pos, o = some (stC xs pos) ∧ 0 < xs.length ∧ ∀ v, 0 ≤ v → v < max 1 many → Q (.int v) (put S n (stC xs (pos + 1))) := by
  match o, h with
  | some (.lst [.lst xs, .int pos]), ⟨h1, h2, h3⟩ => exact ⟨xs.map dI, pos, by rw [stC, ← h1], by rw [List.length_map]; exact h2, h3⟩
/-- many draws -/
theorem lc_takes {kp : Sto → Prop} {g : DG} {c : DT} {elt : DE} {δ : Lo} {Qa : QL} (h : S n = some (stC xs pos)) (hk : ∀ pos, kp (put S n (stC xs pos))) (ds : List D) (hl : ds.length ≤ 1000000)
    (step : ∀ d ∈ ds, ∀ pos' (R : QD) (N : Sto → Prop), (∀ v pos'', 0 ≤ v → v < many → R (.int v) (put S n (stC xs pos''))) → g d δ (put S n (stC xs pos')) (qLcT c elt R N))
    (q : ∀ (vs : List Int) pos', vs.length = ds.length → (∀ v ∈ vs, 0 ≤ v ∧ v < many) → Qa (vs.map .int) (put S n (stC xs pos'))) : dLcL kp g c elt δ ds [] S Qa := by
  refine lc_inv (fun rs acc S' => (∃ l, ds = l ++ rs) ∧ ∃ (vs : List Int) (pos' : Int), acc = vs.map .int ∧ vs.length + rs.length = ds.length ∧ (∀ v ∈ vs, 0 ≤ v ∧ v < many) ∧ S' = put S n (stC xs pos')) ?_ ?_ ?_ ?_ ds [] S ⟨⟨[], rfl⟩, [], pos, rfl, by simp, (fun v hv => by cases hv), (put_del h).symm⟩
  · rintro rs acc S' ⟨_, vs, pos', _, _, _, rfl⟩
    exact hk pos'
  · rintro d rs acc S' ⟨_, vs, pos', rfl, hl', _, _⟩
    have := sz' (n := vs.length) (by rw [List.length_cons] at hl'; omega)
    rwa [List.length_map]
  · rintro d rs acc S' ⟨⟨l, hds⟩, vs, pos', rfl, hl', hv, rfl⟩ R N hR hN
    refine step d (by rw [hds]; simp) pos' R N fun v pos'' h0 h1 => hR _ _ ⟨⟨l ++ [d], by rw [hds]; simp⟩, vs ++ [v], pos'', by simp, by rw [List.length_cons] at hl'; simp; omega, fun w hw => ?_, rfl⟩
    rcases List.mem_append.mp hw with hw | hw
    · exact hv w hw
    · rw [List.mem_singleton.mp hw]; exact ⟨h0, h1⟩
  · rintro acc S' ⟨_, vs, pos', rfl, hl', hv, rfl⟩
    exact q vs pos' (by simpa using hl') hv
end
/-- plain data whose depth is bounded -/
inductive Tp : Nat → D → Prop
  | non (r) : Tp (r + 1) .non
  | bl (r b) : Tp (r + 1) (.bl b)
  | int (r i) : Tp (r + 1) (.int i)
  | str (r x) : Tp (r + 1) (.str x)
  | tup {r xs} (h : ∀ x ∈ xs, Tp r x) (l : xs.length ≤ 100000) : Tp (r + 1) (.tup xs)
  | lst {r xs} (h : ∀ x ∈ xs, Tp r x) (l : xs.length ≤ 100000) : Tp (r + 1) (.lst xs)
/-- .. without lists -/
inductive Tt : Nat → D → Prop
  | non (r) : Tt (r + 1) .non
  | bl (r b) : Tt (r + 1) (.bl b)
  | int (r i) : Tt (r + 1) (.int i)
  | str (r x) : Tt (r + 1) (.str x)
  | tup {r xs} (h : ∀ x ∈ xs, Tt r x) (l : xs.length ≤ 100000) : Tt (r + 1) (.tup xs)
theorem Tp.up {r : Nat} {d : D} (h : Tp r d) : Tp (r + 1) d := by
  induction h with
  | non => exact .non _
  | bl => exact .bl _ _
  | int => exact .int _ _
  | str => exact .str _ _
  | tup h l ih => exact .tup ih l
  | lst h l ih => exact .lst ih l
theorem Tp.gd {r : Nat} {d : D} {S : Sto} (h : Tp r d) : Gd S d := by cases h <;> trivial
theorem Tp.gdN : ∀ {r : Nat} {d : D} {S : Sto}, Tp (r + 1) d → GdN S r d
  | 0, d, S, h => h.gd
  | r + 1, d, S, h => ⟨h.gd, fun xs hx => by
    cases h with
    | non => cases hx
    | bl => cases hx
    | int => cases hx
    | str => cases hx
    | tup h l => cases hx; exact ⟨by omega, fun x hx => (h x hx).gdN⟩
    | lst h l => cases hx; exact ⟨by omega, fun x hx => (h x hx).gdN⟩⟩
def pSame (r : Nat) : DFn := fun us S Q _ => match us with
  | [a, b] => a = b ∧ Tp r b ∧ Q (.bl true) S
  | _ => False
def pAlike (r : Nat) : DFn := fun us S Q _ => match us with
  | [a, b] => a = b ∧ Tt r b ∧ Q (.bl true) S
  | _ => False
@[simp] theorem ev_pSame {r : Nat} {a b : D} {S : Sto} {Q : QD} {E : QE} : pSame r [a, b] S Q E = (a = b ∧ Tp r b ∧ Q (.bl true) S) := rfl
@[simp] theorem ev_pAlike {r : Nat} {a b : D} {S : Sto} {Q : QD} {E : QE} : pAlike r [a, b] S Q E = (a = b ∧ Tt r b ∧ Q (.bl true) S) := rfl
/-! one stage of a def, once -/
theorem iff_b {b : Bool} {s t : DS} {B : DEnds} {δ : Lo} {S : Sto} (h : b = true) (g : s B δ S) : iffS b s t B δ S := by rw [h]; exact g
theorem iff_nb {b : Bool} {s t : DS} {B : DEnds} {δ : Lo} {S : Sto} (h : b = false) (g : t B δ S) : iffS b s t B δ S := by rw [h]; exact g
end DL
namespace DL
open PySem L2
section
variable {S : Sto} {d : D} {xs ys : List D} {k : D → Prop} {Qi : QI} {neg : Bool} {i j : Int} {l : List Int}
theorem ix_sq (h : asSq S d = some xs) : oIx S d (.int j) k = opt (atI xs j) k := by
  cases d with
  | tup => cases h; simp
  | lst => cases h; simp
  | rol => cases h; simp
  | m n =>
    rw [asSq_m] at h
    simp [h]
  | _ => cases h
theorem tup_sq (h : asSq S d = some xs) : oTuple S [d] k = k (.tup xs) := by simp [h]
theorem zpA_sq (h : asSq S d = some ys) : qZpA Qi [.tup xs, d] S = Qi (zipD xs ys) (fun S' => kT S' ∧ kpOf S d S') S := by
  unfold qZpA
  simp only [asSq_tup, opt_s, h]
  rfl
theorem kpOf_self : kpOf S d S := by cases d <;> first | trivial | exact rfl
theorem inD_ints : inD (.int i) (l.map .int) = decide (i ∈ l) := by
  unfold inD
  rw [List.any_map]
  induction l with
  | nil => rfl
  | cons a l ih =>
    rw [List.any_cons, ih]
    show ((a == i) || _) = _
    by_cases e : a = i
    · subst e; simp
    · have e' : (a == i) = false := by simpa using e
      have e2 : ¬ i = a := fun z => e z.symm
      rw [e']
      simp [e2]
theorem flat_ints : (l.map D.int).all flatD = true := by
  rw [List.all_map]
  exact List.all_eq_true.mpr fun _ _ => rfl
@[simp] theorem in_tup : oIn neg S (.int i) (.tup (l.map .int)) k = k (.bl (neg ^^ decide (i ∈ l))) := by
  show opt (asSq S (.tup (l.map .int))) (fun ds => flatD (.int i) = true ∧ ds.all flatD = true ∧ k (.bl (neg ^^ inD (.int i) ds))) = _
  rw [asSq_tup, opt_s, flat_ints, inD_ints]
  exact propext ⟨fun h => h.2.2, fun h => ⟨rfl, rfl, h⟩⟩
end
end DL
namespace DL
open PySem L2
section
variable {S : Sto} {k : D → Prop} {A : Type} {l : List A}
@[simp] theorem all_map {f : A → Bool} : oAll S [.lst (l.map fun a => .bl (f a))] k = k (.bl (l.all f)) := by
  have e : (l.map fun a => D.bl (f a)) = (l.map f).map .bl := by rw [List.map_map]; rfl
  rw [e, all_l, List.all_map]
  rfl
@[simp] theorem any_map {f : A → Bool} : oAny S [.lst (l.map fun a => .bl (f a))] k = k (.bl (l.any f)) := by
  have e : (l.map fun a => D.bl (f a)) = (l.map f).map .bl := by rw [List.map_map]; rfl
  rw [e, any_l, List.any_map]
  rfl
@[simp] theorem sum_map {f : A → Int} : oSum S [.lst (l.map fun a => .int (f a))] k = k (.int (l.map f).sum) := by
  have e : (l.map fun a => D.int (f a)) = (l.map f).map .int := by rw [List.map_map]; rfl
  rw [e, sum_l]
end
end DL
@[simp] theorem DL.all_tt {A : Type} {l : List A} : (l.all fun _ => true) = true := List.all_eq_true.mpr fun _ _ => rfl
namespace DL
open PySem L2
theorem eq_m_nil {neg : Bool} {S : Sto} {n : Nat} {xs : List D} {k : D → Prop} (h : S n = some (.lst xs)) (hp : plnL 60 xs = true) : oEq neg S (.m n) (.lst []) k = k (.bl (neg ^^ xs.isEmpty)) := by
  have e := pyS_m h
  show (shp (pyS S (.m n)) ∧ shp (pyS S (.lst [])) ∧ k (.bl (neg ^^ PyData.eqv (pyS S (.m n)) (pyS S (.lst []))))) = _
  rw [e]
  have h1 : shp (pyOf (.lst xs)) := pln_shp (n := 61) (d := .lst xs) hp (by decide)
  have h2 : shp (pyS S (.lst [])) := pln_shp (n := 1) (d := .lst []) rfl (by decide)
  have h3 : PyData.eqv (pyOf (.lst xs)) (pyS S (.lst [])) = xs.isEmpty := by cases xs <;> rfl
  rw [h3]
  exact propext ⟨fun h => h.2.2, fun h => ⟨h1, h2, h⟩⟩
end DL
theorem DL.rngD_mem' {d : DL.D} {lo : Int} {n : Nat} (h : d ∈ DL.rngD lo n) : ∃ i, d = .int i ∧ lo ≤ i ∧ i < lo + n := by
  rw [DL.rngD_map] at h
  obtain ⟨j, hj, rfl⟩ := List.mem_map.mp h
  exact ⟨_, rfl, by omega, by have := List.mem_range.mp hj; omega⟩
namespace DL
open PySem L2
theorem erase_map {A B : Type} {f : A → B} : ∀ (l : List A) (k : Nat), (l.map f).eraseIdx k = (l.eraseIdx k).map f
  | [], _ => rfl
  | _ :: _, 0 => rfl
  | a :: l, k + 1 => by
    show f a :: (l.map f).eraseIdx k = _
    rw [erase_map]
    rfl
theorem pop_int {n : Nat} {j : Int} {Q : QD} {S : Sto} {l : List Int} (h0 : 0 ≤ j) (h1 : j < l.length) (h2 : l.length ≤ 1000000) : popI n j Q S (some (l.map .int)) = Q (.int (gI l j)) (put S n (.lst ((l.eraseIdx j.toNat).map .int))) := by
  have e : seqIndex? j (l.map D.int).length = some j.toNat := by
    unfold seqIndex?
    have h3 : ¬ j < 0 := by omega
    simp [h3, h0, h1]
  have e2 : (l.map D.int)[j.toNat]? = some (.int (gI l j)) := by
    have hj : j.toNat < l.length := by omega
    have q := gI_eq hj
    rw [Int.toNat_of_nonneg h0] at q
    simp [q, hj]
  rw [popI_s, e, opt_s, e2, opt_s, erase_map]
  exact propext ⟨fun h => h.2.2, fun h => ⟨by omega, by omega, h⟩⟩
end DL
namespace DL
open PySem L2
def whoB (c : Int) : D → Bool
  | .int i => decide (c ≤ i)
  | _ => false
def pWhole : DFn := fun us S Q _ => match us with
  | [d, .int c] => Gd S d ∧ Q (.bl (whoB c d)) S
  | _ => False
def pNum : DFn := fun us S Q _ => match us with
  | [d] => Gd S d ∧ Q (.bl (whoB 0 d)) S
  | _ => False
@[simp] theorem ev_pWhole {d : D} {c : Int} {S : Sto} {Q : QD} {E : QE} : pWhole [d, .int c] S Q E = (Gd S d ∧ Q (.bl (whoB c d)) S) := rfl
@[simp] theorem ev_pNum {d : D} {S : Sto} {Q : QD} {E : QE} : pNum [d] S Q E = (Gd S d ∧ Q (.bl (whoB 0 d)) S) := rfl
@[simp] theorem isIntB_int {i : Int} : isIntB (.int i) = true := rfl
@[simp] theorem isBlB_int {i : Int} : isBlB (.int i) = false := rfl
@[simp] theorem whoB_int {c i : Int} : whoB c (.int i) = decide (c ≤ i) := rfl
@[simp] theorem posB_int {i : Int} : posB (.int i) = decide (0 < i) := rfl
@[simp] theorem fldB_int {i : Int} : fldB (.int i) = decide (i ∈ ([2, 3, 5, 7, 11, 13, 17, 19, 23, 29, 31] : List Int)) := rfl
end DL
namespace DL
open PySem L2
theorem GdN.at1 {S : Sto} {d : D} {r : Nat} {xs : List D} (h : GdN S (r + 1) d) (e : asSq S d = some xs) : xs.length ≤ 1000000 ∧ ∀ x ∈ xs, GdN S r x := h.2 xs e
theorem gd_ints {S : Sto} {r : List Int} (h : r.length ≤ 1000000) : GdN S 1 (.tup (r.map .int)) := ⟨trivial, fun xs hx => by
  cases hx
  refine ⟨by rw [List.length_map]; exact h, fun x hx => ?_⟩
  obtain ⟨y, _, rfl⟩ := List.mem_map.mp hx
  trivial⟩
theorem row_ok {p : Int} {r : List Int} (h : ∀ x ∈ r, 0 ≤ x ∧ x < p) : rowB p r.length (.tup (r.map .int)) = true := by
  show (decide (((r.map D.int).length : Int) = r.length) && _) = true
  rw [all_plc_int h]
  simp
end DL
namespace DL
open PySem L2
theorem gd_sq {S : Sto} {d : D} {xs : List D} (e : asSq S d = some xs) : Gd S d := by
  cases d with
  | m n =>
    rw [asSq_m] at e
    show (celO (S n)).isSome = true
    rw [e]; rfl
  | cv => cases e
  | exc => cases e
  | ins => cases e
  | _ => trivial
theorem gd_1 {S : Sto} {d : D} {r : List Int} (e : asSq S d = some (r.map .int)) (h : r.length ≤ 1000000) : GdN S 1 d := ⟨gd_sq e, fun xs hx => by
  rw [e] at hx
  cases hx
  refine ⟨by rw [List.length_map]; exact h, fun x hx => ?_⟩
  obtain ⟨y, _, rfl⟩ := List.mem_map.mp hx
  trivial⟩
theorem tape_ok {S : Sto} {d : D} {r : List Int} {p : Int} (e : asSq S d = some (r.map .int)) (h : ∀ x ∈ r, 0 ≤ x ∧ x < p) : tapeB S p r.length d = true := by
  unfold tapeB
  rw [e]
  show (decide (((r.map D.int).length : Int) = r.length) && _) = true
  rw [all_plc_int h]
  simp
end DL
namespace DL
open PySem L2
theorem asSq_put {S : Sto} {d : D} {xs : List D} {a : Nat} {c : Cell} (e : asSq S d = some xs) (h : S a = none) : asSq (put S a c) d = some xs := by
  cases d with
  | m n =>
    rw [asSq_m] at e ⊢
    have : n ≠ a := fun z => by rw [z, h] at e; cases e
    rw [put_ne this, e]
  | tup => exact e
  | lst => exact e
  | rol => exact e
  | _ => cases e
end DL
namespace DL
open PySem L2
theorem opt_any {ds : List D} {v : Int} {k : D → Prop} (h0 : 0 ≤ v) (h1 : v < ds.length) (h : ∀ d ∈ ds, k d) : opt (atI ds v) k := opt_eq (at_get h0 h1) (h _ (List.getElem_mem _))
end DL
namespace DL
theorem GdN.down : ∀ {r : Nat} {S : Sto} {d : D}, GdN S (r + 1) d → GdN S r d
  | 0, _, _, h => h.1
  | r + 1, _, _, h => ⟨h.1, fun xs e => ⟨(h.2 xs e).1, fun x hx => ((h.2 xs e).2 x hx).down⟩⟩
end DL
namespace DL
open PySem L2
section
variable {S : Sto} {n : Nat} {many pos : Int} {xs : List Int}
/-- many rows of draws -/
theorem lc_rows {kp : Sto → Prop} {g : DG} {c : DT} {elt : DE} {δ : Lo} {Qa : QL} {k : Nat} (f : List Int → D) (h : S n = some (stC xs pos)) (hk : ∀ pos, kp (put S n (stC xs pos))) (ds : List D) (hl : ds.length ≤ 1000000)
    (step : ∀ d ∈ ds, ∀ pos' (R : QD) (N : Sto → Prop), (∀ (vs : List Int) pos'', vs.length = k → (∀ v ∈ vs, 0 ≤ v ∧ v < many) → R (f vs) (put S n (stC xs pos''))) → g d δ (put S n (stC xs pos')) (qLcT c elt R N))
    (q : ∀ (rs : List (List Int)) pos', rs.length = ds.length → (∀ r ∈ rs, r.length = k ∧ ∀ v ∈ r, 0 ≤ v ∧ v < many) → Qa (rs.map f) (put S n (stC xs pos'))) : dLcL kp g c elt δ ds [] S Qa := by
  refine lc_inv (fun rs acc S' => (∃ l, ds = l ++ rs) ∧ ∃ (vs : List (List Int)) (pos' : Int), acc = vs.map f ∧ vs.length + rs.length = ds.length ∧ (∀ r ∈ vs, r.length = k ∧ ∀ v ∈ r, 0 ≤ v ∧ v < many) ∧ S' = put S n (stC xs pos')) ?_ ?_ ?_ ?_ ds [] S ⟨⟨[], rfl⟩, [], pos, rfl, by simp, (fun v hv => by cases hv), (put_del h).symm⟩
  · rintro rs acc S' ⟨_, vs, pos', _, _, _, rfl⟩
    exact hk pos'
  · rintro d rs acc S' ⟨_, vs, pos', rfl, hl', _, _⟩
    have := sz' (n := vs.length) (by rw [List.length_cons] at hl'; omega)
    rwa [List.length_map]
  · rintro d rs acc S' ⟨⟨l, hds⟩, vs, pos', rfl, hl', hv, rfl⟩ R N hR hN
    refine step d (by rw [hds]; simp) pos' R N fun r pos'' h0 h1 => hR _ _ ⟨⟨l ++ [d], by rw [hds]; simp⟩, vs ++ [r], pos'', by simp, by rw [List.length_cons] at hl'; simp; omega, fun w hw => ?_, rfl⟩
    rcases List.mem_append.mp hw with hw | hw
    · exact hv w hw
    · rw [List.mem_singleton.mp hw]; exact ⟨h0, h1⟩
  · rintro acc S' ⟨_, vs, pos', rfl, hl', hv, rfl⟩
    exact q vs pos' (by simpa using hl') hv
end
end DL
namespace DL
open PySem L2
theorem enA_sq {S : Sto} {d : D} {xs : List D} {Qi : QI} (h : asSq S d = some xs) : qEnA Qi [d] S = Qi (enumD 0 xs) (kpOf S d) S := by
  unfold qEnA
  simp only [h, opt_s]
end DL
namespace DL
open PySem L2
/-! two clauses -/
def qL2i (g1 : DG) (elt : DE) (vs1 : List Nat) (δ1 : Lo) (acc : List D) (R : QL) : QI := fun ds1 kp1 S3 => dLcL kp1 g1 dYes elt (wipeD δ1 vs1) ds1 acc S3 R
def qL2 (src1 : DI) (g1 : DG) (elt : DE) (vs1 : List Nat) (acc : List D) (R : QL) : Lo → Sto → Prop := fun δ1 S1 => src1 δ1 S1 (qL2i g1 elt vs1 δ1 acc R) eF
section
variable {g g1 : DG} {elt : DE} {vs1 : List Nat} {δ δ1 : Lo} {acc xs : List D} {R Qa : QL} {kp kp1 : Sto → Prop} {S : Sto} {src1 : DI}
@[simp] theorem ev_qL2 : qL2 src1 g1 elt vs1 acc R δ1 S = src1 δ1 S (qL2i g1 elt vs1 δ1 acc R) eF := rfl
@[simp] theorem ev_qL2i : qL2i g1 elt vs1 δ1 acc R xs kp1 S = dLcL kp1 g1 dYes elt (wipeD δ1 vs1) xs acc S R := rfl
theorem lc2_map {A : Type} (f : A → D) (m : A → List D) (hk : kp S) : ∀ (xs : List A) (acc : List D), acc.length + (xs.flatMap m).length ≤ sizeLine →
    (∀ a ∈ xs, ∀ (acc : List D) (R : QL), acc.length + (m a).length ≤ sizeLine → R (acc ++ m a) S → g (f a) δ S (qL2 src1 g1 elt vs1 acc R)) → Qa (acc ++ xs.flatMap m) S → dLc2L kp g dYes src1 g1 dYes elt vs1 δ (xs.map f) acc S Qa
  | [], acc, _, _, q => ⟨hk, by simpa using q⟩
  | a :: xs, acc, hl, h, q => by
    rw [List.flatMap_cons, List.length_append] at hl
    refine ⟨hk, h a (List.mem_cons_self ..) acc (fun acc' S4 => dLc2L kp g dYes src1 g1 dYes elt vs1 δ (xs.map f) acc' S4 Qa) (by omega) ?_⟩
    exact lc2_map f m hk xs _ (by rw [List.length_append]; omega) (fun b hb => h b (List.mem_cons_of_mem _ hb)) (by rw [List.append_assoc, ← List.flatMap_cons]; exact q)
end
end DL

set_option maxHeartbeats 4000000
namespace DL
open PySem L2
/-! ## 38. == by an own __eq__ (that leaves the store as it was) -/
def oOwn (C : Addr) (m : DFn) : DOp := fun S x y k => (∃ fs, asI S x = some (C, fs)) ∧ (∃ gs, asI S y = some (C, gs)) ∧ m [x, y] S (fun z S' => S' = S ∧ k z) (fun _ _ => False)
def rOwnD (K : PySem.W.Frag) (C : Addr) (m : DFn) : R2 := fun x y H Q => ∃ (w : Wd) (d e : D), w.H = H ∧ Ok K w ∧ Rp K w.I w.α x d ∧ Rp K w.I w.α y e ∧ (∃ fs, asI w.S d = some (C, fs)) ∧ (∃ gs, asI w.S e = some (C, gs)) ∧
  ∃ Qd : D → Prop, m [d, e] w.S (fun z S' => S' = w.S ∧ Qd z) (fun _ _ => False) ∧ ∀ z v w', Qd z → Le w w' → w'.S = w.S → Ok K w' → Rp K w'.I w'.α v z → Q v w'.H
theorem sem_own {K : PySem.W.Frag} {C : Addr} {m : DFn} : SemOp K (rOwnD K C m) (oOwn C m) :=
  fun w x y d e Qd Q ok rx ry h q => ⟨w, d, e, rfl, ok, rx, ry, h.1, h.2.1, Qd, h.2.2, q⟩
section
variable {X : Cx} {W : WX} {k : Nat} {f C : Addr} {m : DFn}
theorem op_ownD (c : Cal X.prog X.w X.K X.mg X.base k f 2 m []) (hM : Meth X.K C "__eq__" f) (hr : Room k X.A) (tk : Takes X W) : OpR X (compareOp .Eq) (rOwnD X.K C m) := by
  intro pins s σ H x y v u Q I rx ry h
  obtain ⟨w, d, e, rfl, ok, rd, re, ⟨fs, hd⟩, ⟨gs, he⟩, Qd, hm, q⟩ := h
  obtain ⟨a, dx, vs, rfl, ha, _⟩ := asI_sem ok rd hd
  obtain ⟨b, dy, ws, rfl, hb, _⟩ := asI_sem ok re he
  cases rx
  cases ry
  obtain ⟨fd, ps, ds, dvs, F, hbi, hds, hdd, hk⟩ := c.ex
  obtain ⟨mA, J, _⟩ := ins_get I.hok ha
  obtain ⟨mB, J', _⟩ := ins_get I.hok hb
  obtain ⟨od, J, _⟩ := J.look
  obtain ⟨od', J', _⟩ := J'.look
  obtain ⟨mm, hF⟩ := I.fr
  show wpAny (model X.prog X.w) X.A (richCompare .Eq (.ref a) (.ref b)) (EP X pins σ Q) X.xe s
  refine PySem.W.cmp_K (op := .Eq) (tb := .ref C) hr.units0 hF I.ok.mod.kin J J'.type (by simp [PySem.W.notFirst]) hM.at_ hM.fn ?_
  have r2 : RpL X.K w.I w.α ([V.ref a, V.ref b] ++ dvs) ([d, e] ++ []) := (RpL.cons rd (.cons re .nil)).append (hdd.r _ _)
  have sp : toSp X.K 2 m ([V.ref a, V.ref b] ++ dvs) w.H Q (WE W σ) := sp_of (us := [d, e]) (Qd := fun z S' => S' = w.S ∧ Qd z) (Ed := fun _ _ => False) ok (.refl w) r2 rfl hm
    (fun z v w' h1 h2 h3 h4 => q z v w' h1.2 h2 h1.1 h3 h4) (fun er w' dx h1 => h1.elim)
  refine wpAny_mono (run_at (us := [.ref a, .ref b]) (vs := [.ref a, .ref b]) F hr tk hbi hds I (.cons rfl (.cons rfl .nil)) sp) (fun r s' z => ?_) fun _ _ x => x
  obtain ⟨z', H', I', rz, qz⟩ := z
  exact SlX.cmpback rz ⟨z', H', I', rz, qz⟩
end
/-! evaluation -/
theorem ev_own {C : Addr} {m : DFn} {S : Sto} {x y : D} {k : D → Prop} : oOwn C m S x y k = ((∃ fs, asI S x = some (C, fs)) ∧ (∃ gs, asI S y = some (C, gs)) ∧ m [x, y] S (fun z S' => S' = S ∧ k z) (fun _ _ => False)) := rfl
end DL
namespace DL
open PySem L2
section
variable {S : Sto} {k : Nat} {c : Cell}
theorem gd_asSq {d : D} (h : Gd S d) (hk : S k = none) : asSq (put S k c) d = asSq S d := by
  cases d with
  | m n =>
    have h : (celO (S n)).isSome = true := h
    have : n ≠ k := fun z => by rw [z, hk] at h; cases h
    rw [asSq_m, asSq_m, put_ne this]
  | _ => rfl
theorem gd_put {d : D} (h : Gd S d) (hk : S k = none) : Gd (put S k c) d := by
  cases d with
  | m n =>
    have h' : (celO (S n)).isSome = true := h
    have : n ≠ k := fun z => by rw [z, hk] at h'; cases h'
    show (celO (put S k c n)).isSome = true
    rw [put_ne this]
    exact h'
  | _ => exact h
theorem gdN_put (hk : S k = none) : ∀ {r : Nat} {d : D}, GdN S r d → GdN (put S k c) r d
  | 0, _, h => gd_put h hk
  | r + 1, d, h => ⟨gd_put h.1 hk, fun xs e => by
    rw [gd_asSq h.1 hk] at e
    exact ⟨(h.2 xs e).1, fun x hx => gdN_put hk ((h.2 xs e).2 x hx)⟩⟩
theorem tapeB_put {p w : Int} {d : D} (h : GdN S 1 d) (hk : S k = none) : tapeB (put S k c) p w d = tapeB S p w d := by
  unfold tapeB
  rw [gd_asSq h.gd hk]
theorem tapesB_put {p w b : Int} {d : D} (h : GdN S 2 d) (hk : S k = none) : tapesB (put S k c) p w b d = tapesB S p w b d := by
  unfold tapesB
  rw [gd_asSq h.gd hk]
  cases e : asSq S d with
  | none => rfl
  | some xs =>
    have : xs.all (tapeB (put S k c) p w) = xs.all (tapeB S p w) := by
      have h2 := (h.2 xs e).2
      clear e
      induction xs with
      | nil => rfl
      | cons x xs ih => rw [List.all_cons, List.all_cons, tapeB_put (h2 x (List.mem_cons_self ..)) hk, ih fun y hy => h2 y (List.mem_cons_of_mem _ hy)]
    show (_ && _) = (_ && _)
    rw [this]
end
end DL

set_option maxHeartbeats 4000000
/-! ## 46. x[lo:hi:c]: a step -/
namespace DL
open PySem PySem.Spec L2 PyProof.Rows HT
def stA (n : Nat) (lo hi : Option Int) (c : Int) : Int := (Builtin.Slice.sliceAdjust lo hi c (n : Int)).1
def stN (n : Nat) (lo hi : Option Int) (c : Int) : Nat := Builtin.Slice.slicePlaces (Builtin.Slice.sliceAdjust lo hi c (n : Int)).1 (Builtin.Slice.sliceAdjust lo hi c (n : Int)).2 c
/-- the places of t[lo:hi:c] -/
def stI (n : Nat) (lo hi : Option Int) (c : Int) : List Nat := (List.range (stN n lo hi c)).map fun (m : Nat) => (stA n lo hi c + (m : Int) * c).toNat
def stpT {A : Type} (xs : List A) (lo hi : Option Int) (c : Int) : List A := (stI xs.length lo hi c).filterMap (xs[·]?)
/-- the places of a list's xs[lo:hi:c] -/
def slI (n : Nat) (lo hi : Option Int) (c : Int) : List Nat := sliceRange (sliceBounds lo hi (some c) n).1 (sliceBounds lo hi (some c) n).2.1 (sliceBounds lo hi (some c) n).2.2
def stpL {A : Type} (xs : List A) (lo hi : Option Int) (c : Int) : List A := (slI xs.length lo hi c).filterMap (xs[·]?)
theorem pick_whole {A : Type} (xs : List A) : ((List.range xs.length).map fun (m : Nat) => ((0 : Int) + (m : Int) * 1).toNat).filterMap (xs[·]?) = xs := by
  have e : ((List.range xs.length).map fun (m : Nat) => ((0 : Int) + (m : Int) * 1).toNat) = List.range xs.length := by
    conv => rhs; rw [← List.map_id (List.range xs.length)]
    exact List.map_congr_left fun m _ => by simp
  rw [e]
  induction xs with
  | nil => rfl
  | cons x xs ih =>
    rw [List.length_cons, List.range_succ_eq_map, List.filterMap_cons]
    simp only [List.getElem?_cons_zero, List.filterMap_map]
    rw [show ((fun (i : Nat) => (x :: xs)[i]?) ∘ Nat.succ) = fun i => xs[i]? by funext i; simp]
    rw [ih (by
      conv => rhs; rw [← List.map_id (List.range xs.length)]
      exact List.map_congr_left fun m _ => by simp)]
theorem pick_map {A B : Type} (f : A → B) (xs : List A) (is : List Nat) : is.filterMap ((xs.map f)[·]?) = (is.filterMap (xs[·]?)).map f := by
  rw [List.map_filterMap]
  congr 1
  funext i
  simp
theorem stpT_map {A B : Type} {f : A → B} {xs : List A} {lo hi : Option Int} {c : Int} : stpT (xs.map f) lo hi c = (stpT xs lo hi c).map f := by
  unfold stpT
  rw [List.length_map]
  exact pick_map f xs _
theorem stpL_map {A B : Type} {f : A → B} {xs : List A} {lo hi : Option Int} {c : Int} : stpL (xs.map f) lo hi c = (stpL xs lo hi c).map f := by
  unfold stpL
  rw [List.length_map]
  exact pick_map f xs _
theorem pick_len {A : Type} (xs : List A) (is : List Nat) : (is.filterMap (xs[·]?)).length ≤ is.length := List.length_filterMap_le _ _
theorem vals_pick {xs : List V} {us : List Value} (r : Vals xs us) (is : List Nat) : Vals (is.filterMap (xs[·]?)) (is.filterMap (us[·]?)) := by
  induction is with
  | nil => exact .nil
  | cons i is ih =>
    rw [List.filterMap_cons, List.filterMap_cons]
    rcases opt_get r i with ⟨a, b⟩ | ⟨u, v, a, b, q⟩
    · rw [a, b]; exact ih
    · rw [a, b]; exact .cons q ih
theorem rpl_pick {K : PySem.W.Frag} {I : Hp} {α : Am} {vs : List V} {ds : List D} (r : RpL K I α vs ds) (is : List Nat) : RpL K I α (is.filterMap (vs[·]?)) (is.filterMap (ds[·]?)) := by
  induction is with
  | nil => exact .nil
  | cons i is ih =>
    rw [List.filterMap_cons, List.filterMap_cons]
    rcases r.getO i with ⟨a, b⟩ | ⟨u, v, a, b, q⟩
    · rw [a, b]; exact ih
    · rw [a, b]; exact .cons q ih
section
variable {prog : Program} {w : World} {A : Around} {E : Value → Shared → Prop} {s : Shared}
theorem sliceApplied_stp {sl : Addr} {vl vu vs : Value} {lo hi : Option Int} {c : Int} {n : Nat} {Q : Int × Int × Nat → Shared → Prop} (hs : s.heap.IsSliceOf sl vl vu vs) (pl : IsPart vl lo) (pu : IsPart vu hi) (ps : IsPart vs (some c)) (h0 : c ≠ 0)
    (h : Q (stA n lo hi c, c, stN n lo hi c) s) : wpAny (model prog w) A (Builtin.Slice.sliceApplied (.ref sl) (pure (n : Int))) Q E s := by
  obtain ⟨os, hos, hcs, hds⟩ := id hs
  unfold Builtin.Slice.sliceApplied Builtin.Slice.sliceFields
  refine wpAny_bind (wpAny_bind (wpAny_field hos hds (x := vl) rfl (wpAny_bind (wpAny_field hos hds (x := vu) rfl (wpAny_bind (wpAny_field hos hds (x := vs) rfl (wpAny_pure ?_)))))))
  refine wpAny_bind (slicePart_ ps ?_)
  show wpAny _ _ (if (c == 0) = true then _ else _) _ _ s
  rw [if_neg (by simpa using h0)]
  refine wpAny_bind (slicePart_ pl (wpAny_bind (slicePart_ pu (wpAny_bind (wpAny_pure ?_)))))
  show wpAny _ _ (pure (stA n lo hi c, c, stN n lo hi c)) _ _ s
  exact wpAny_pure h
theorem getItem_tuple_stp {t sl : Addr} {items : Array Value} {vl vu vs : Value} {lo hi : Option Int} {c : Int} {Q : Value → Shared → Prop} (ht : IsTup s.heap t items) (hs : s.heap.IsSliceOf sl vl vu vs) (pl : IsPart vl lo) (pu : IsPart vu hi) (ps : IsPart vs (some c)) (h0 : c ≠ 0)
    (hsz : stN items.size lo hi c ≤ sizeLine)
    (h1 : (stA items.size lo hi c == 0 && c == 1 && stN items.size lo hi c == items.size) = true → Q (.ref t) s)
    (h2 : ¬ (stA items.size lo hi c == 0 && c == 1 && stN items.size lo hi c == items.size) = true → Q (.ref s.heap.objs.size) { s with heap := s.heap.push { cls := .type "tuple", data := .seq (stpT items.toList lo hi c).toArray } }) : wpAny (model prog w) A (getItem (.ref t) (.ref sl)) Q E s := by
  have e : ((List.range (stN items.size lo hi c)).filterMap fun (k : Nat) => items[(stA items.size lo hi c + (k : Int) * c).toNat]?).toArray = (stpT items.toList lo hi c).toArray := by
    unfold stpT stI
    rw [List.filterMap_map, Array.length_toList]
    congr 2
    funext k
    simp
  have htake : sizeOk (.seq (stpT items.toList lo hi c).toArray) := by
    show (stpT items.toList lo hi c).toArray.size ≤ sizeLine
    rw [List.size_toArray]
    refine Nat.le_trans (pick_len _ _) ?_
    unfold stI
    rw [List.length_map, List.length_range, Array.length_toList]
    exact hsz
  obtain ⟨os, hos, hcs, hds⟩ := id hs
  have hTs : s.TypeIs (.ref sl) "slice" := ⟨os, hos, hcs⟩
  unfold getItem
  try with_reducible refine wpAny_holding ?_
  first | refine wpAny_bind (wpAny_pure ?_) | skip
  refine wpAny_bind (wpAny_sequenceKey ht.typeIs (by decide) ?_)
  refine wpAny_bind (wpAny_callSpecial?_slot (name := Str.ofString "__getitem__") ht.typeIs PyProof.Rows.slot_tuple_getitem
    (wpAny_call_entry PyProof.Rows.slot_tuple_getitem ht.typeIs entry_tuple_getitem ?_ (args_tuple_getitem _ _)))
  show wpAny _ _ (Builtin.Tuple.tupleItemsOf (.ref t) >>= _) _ _ s
  refine wpAny_bind (tupleItemsOf_ ht ?_)
  refine wpAny_bind (wpAny_typeOf hTs ?_)
  rw [if_pos (by decide)]
  refine wpAny_bind (sliceApplied_stp hs pl pu ps h0 ?_)
  show wpAny _ _ (if (stA items.size lo hi c == 0 && c == 1 && stN items.size lo hi c == items.size) = true then _ else _) _ _ s
  by_cases hw : (stA items.size lo hi c == 0 && c == 1 && stN items.size lo hi c == items.size) = true
  · rw [if_pos hw]
    refine wpAny_bind ?_
    show wpAny _ _ (typeOf (.ref t) >>= fun T => pure (T == .type "tuple")) _ _ s
    refine wpAny_bind (wpAny_typeOf ht.typeIs (wpAny_pure ?_))
    first
      | rw [if_pos (by decide)]
      | simp only [beq_self_eq_true, if_true]
    first
      | exact wpAny_bind (wpAny_rule (wpAny_pure ⟨_, rfl, wpAny_pure (h1 hw)⟩))
      | exact wpAny_bind (wpAny_rule (wpAny_bind (wpAny_pure (wpAny_pure ⟨_, rfl, wpAny_pure (h1 hw)⟩))))
  · rw [if_neg hw, e]
    first
      | exact wpAny_bind (m := Builtin.Tuple.tupleExact _) (wpAny_newObj_type (wpAny_pure ⟨_, rfl, wpAny_pure (h2 hw)⟩) htake)
      | exact wpAny_bind (m := Builtin.Tuple.tupleExact _) (wpAny_newObj_type (wpAny_bind (wpAny_pure (wpAny_pure ⟨_, rfl, wpAny_pure (h2 hw)⟩))) htake)
      | exact wpAny_bind (wpAny_bind (m := Builtin.Tuple.tupleExact _) (wpAny_newObj_type (wpAny_pure (wpAny_pure ⟨_, rfl, wpAny_pure (h2 hw)⟩)) htake))
      | exact wpAny_bind (wpAny_bind (m := Builtin.Tuple.tupleExact _) (wpAny_newObj_type (wpAny_pure ⟨_, rfl, wpAny_pure (h2 hw)⟩) htake))
end
/-- what a stepped slice of a value is -/
def SlS (X : Cx) (r : V → Option Int → Option Int → Int → Hp → VK → Prop) : Prop :=
  ∀ (pins : List (Addr × Obj)) (s : Shared) (σ : L2.St) (H : Hp) (x : V) (v vl vu vs : Value) (lo hi : Option Int) (c : Int) (sl : Addr) (Q : VK), Inv X pins σ H s → RelV x v → s.heap.IsSliceOf sl vl vu vs → IsPart vl lo → IsPart vu hi → IsPart vs (some c) → r x lo hi c H Q →
    ∃ T id, typeLookup (.type T) "__getitem__" = pure (some (.builtin id)) ∧ s.TypeIs v T ∧ wpAny (model X.prog X.w) X.A (getItem v (.ref sl)) (EP X pins σ Q) X.xe s
theorem SlS.or {X : Cx} {r r' : V → Option Int → Option Int → Int → Hp → VK → Prop} (h : SlS X r) (h' : SlS X r') : SlS X (fun x lo hi c H Q => r x lo hi c H Q ∨ r' x lo hi c H Q) := by
  intro pins s σ H x v vl vu vs lo hi c sl Q I rx hs pl pu ps q
  rcases q with q | q
  · exact h pins s σ H x v vl vu vs lo hi c sl Q I rx hs pl pu ps q
  · exact h' pins s σ H x v vl vu vs lo hi c sl Q I rx hs pl pu ps q
def tSlS (r : V → Option Int → Option Int → Int → Hp → VK → Prop) (te : TE) (tl th ts : TO) : TE := fun σ H Q => te σ H fun x H1 => tl σ H1 fun l H2 => th σ H2 fun u H3 => ts σ H3 fun z H4 => ∃ c, z = some c ∧ r x l u c H4 Q
section
variable {X : Cx} {e st : Expr} {te : TE} {lo hi : Option Expr} {tl th ts : TO} {pos p2 : Pos}
theorem pe_sliceS {r : V → Option Int → Option Int → Int → Hp → VK → Prop} (hr : SlS X r) (he : PE X e te) (hl : PO X lo tl) (hu : PO X hi th) (hs : PO X (some st) ts) : PE X (.Subscript e (.Slice lo hi (some st) p2) pos) (tSlS r te tl th ts) := by
  refine ⟨fun pins s σ H Q I h => ?_⟩
  refine Subscript_ (thn (he.run pins s σ H _ I h) fun v s1 ⟨x, H1, I1, r1, q1⟩ => ?_)
  refine wpAny_Slice (thn (hl.run pins s1 σ H1 _ I1 q1) fun vl s2 ⟨l, H2, I2, pl, q2⟩ => thn (hu.run pins s2 σ H2 _ I2 q2) fun vu s3 ⟨u, H3, I3, pu, q3⟩ => ?_)
  refine thn (hs.run pins s3 σ H3 _ I3 q3) fun vs s4 ⟨z, H4, I4, ps, c, hz, q4⟩ => ?_
  subst hz
  have I5 : Inv X pins σ H4 { s4 with heap := s4.heap.push { cls := .type "slice", data := .fields #[vl, vu, vs] } } := I4.kept (t' := s4.toks) fun b ob q => Heap.get?_push_of_some _ q
  obtain ⟨T, id, hT, ht, hg⟩ := hr pins { s4 with heap := s4.heap.push { cls := .type "slice", data := .fields #[vl, vu, vs] } } σ H4 x v vl vu vs l u c s4.heap.objs.size Q I5 r1 (Heap.IsSliceOf.new ..) pl pu ps q4
  show wpAny (model X.prog X.w) X.A (subscriptTail e (.Slice lo hi (some st) p2) v (.ref s4.heap.objs.size)) (EP X pins σ Q) X.xe { s4 with heap := s4.heap.push { cls := .type "slice", data := .fields #[vl, vu, vs] } }
  exact tail_any (ops := [v, .ref s4.heap.objs.size]) ht hT hg (by with_unfolding_all rfl)
end
/-- t[lo:hi:c] -/
def rStT (K : PySem.W.Frag) : V → Option Int → Option Int → Int → Hp → VK → Prop := fun x lo hi c H Q => ∃ a xs, x = .ref a ∧ SqT K H a xs ∧ c ≠ 0 ∧ stN xs.length lo hi c ≤ sizeLine ∧
  ((stA xs.length lo hi c == 0 && c == 1 && stN xs.length lo hi c == xs.length) = true → Q (.ref a) H) ∧ ∀ p, H p = none → Q (.ref p) (upd H p (.tup (stpT xs lo hi c)))
theorem st_tup {X : Cx} : SlS X (rStT X.K) := by
  intro pins s σ H x v vl vu vs lo hi c sl Q I rx hs pl pu ps h
  obtain ⟨a, xs, rfl, hx, h0, hz, q1, q2⟩ := h
  cases rx
  obtain ⟨its, r, ht, hzz⟩ := I.tuple hx
  have hlen : its.toArray.size = xs.length := by rw [List.size_toArray]; exact r.length.symm
  refine ⟨"tuple", _, PyProof.Rows.slot_tuple_getitem.lookup, ht.typeIs, ?_⟩
  refine getItem_tuple_stp ht hs pl pu ps h0 (by rw [hlen]; exact hz) (fun hw => ⟨.ref a, H, I, rfl, q1 (by rw [← hlen]; exact hw)⟩) fun _ => ?_
  have el : its.length = xs.length := r.length.symm
  refine ⟨.ref s.heap.objs.size, _, I.laid (t' := s.toks) (o := .tup (stpT xs lo hi c)) (fun b ob q => Heap.get?_push_of_some _ q) (Nat.le_refl _) ?_, rfl, q2 _ (I.hok.fresh (Nat.le_refl _))⟩
  refine ⟨Nat.le_trans (pick_len _ _) ?_, _, vals_pick r (stI xs.length lo hi c), ?_⟩
  · unfold stI
    rw [List.length_map, List.length_range]
    exact hz
  · have : stpT its.toArray.toList lo hi c = (stI xs.length lo hi c).filterMap (its[·]?) := by
      unfold stpT
      rw [← el]
    rw [this]
    exact IsTup.new _ _
/-- xs[lo:hi:c] -/
def rStL (K : PySem.W.Frag) : V → Option Int → Option Int → Int → Hp → VK → Prop := fun x lo hi c H Q => ∃ a xs, x = .ref a ∧ SqL K H a xs ∧ c ≠ 0 ∧ (slI xs.length lo hi c).length ≤ sizeLine ∧ ∀ p, H p = none → Q (.ref p) (upd H p (.lst (stpL xs lo hi c)))
theorem st_list {X : Cx} : SlS X (rStL X.K) := by
  intro pins s σ H x v vl vu vs lo hi c sl Q I rx hs pl pu ps h
  obtain ⟨a, xs, rfl, hx, h0, hz1, q⟩ := h
  cases rx
  obtain ⟨its, r, ht, hz⟩ := I.list hx
  have hlen := r.length
  refine ⟨"list", _, slot_list_getitem.lookup, ht.isList.typeIs, ?_⟩
  refine wpAny_getItem_list_slice ht.isList hs pl pu ps (by simpa using h0) ?_ (by rw [List.size_toArray] <;> omega)
  have e : slicePick its.toArray lo hi (some c) = ((slI xs.length lo hi c).filterMap (its[·]?)).toArray := by
    unfold slicePick slI
    rw [List.size_toArray, ← hlen]
    simp
  rw [e]
  refine ⟨.ref s.heap.objs.size, _, I.laid (t' := s.toks) (o := .lst (stpL xs lo hi c)) (fun b ob q => Heap.get?_push_of_some _ q) (Nat.le_refl _) ?_, rfl, q _ (I.hok.fresh (Nat.le_refl _))⟩
  exact ⟨Nat.le_trans (pick_len _ _) hz1, _, 0, vals_pick r (slI xs.length lo hi c), Heap.get?_push_size _ rfl⟩
def rStU (K : PySem.W.Frag) : V → Option Int → Option Int → Int → Hp → VK → Prop := fun x l h c H Q => rStT K x l h c H Q ∨ rStL K x l h c H Q
theorem st_U {X : Cx} : SlS X (rStU X.K) := st_tup.or st_list
def stK (S : Sto) (x : D) (l h : Option Int) (c : Int) (k : D → Prop) : Prop := match x with
  | .tup ds => c ≠ 0 ∧ stN ds.length l h c ≤ sizeLine ∧ k (.tup (stpT ds l h c))
  | _ => opt (asR S x) fun ds => c ≠ 0 ∧ (slI ds.length l h c).length ≤ sizeLine ∧ k (.lst (stpL ds l h c))
/-- x[lo:hi:c] -/
def dSlS (te : DE) (tl th ts : DO) : DE := fun δ S Q E => te δ S (fun x S1 => tl δ S1 (fun l S2 => th δ S2 (fun h S3 => ts δ S3 (fun z S4 => match z with
  | some c => stK S4 x l h c fun d => Q d S4
  | none => False) E) E) E) E
section
variable {X : Cx} {W : WX} {e st : Expr} {te : DE} {tl th ts : DO} {lo hi : Option Expr} {p2 pos : Pos}
theorem de_slS (he : PE X e (toE X.K W te)) (hl : PO X lo (toO X.K W tl)) (hh : PO X hi (toO X.K W th)) (hs : PO X (some st) (toO X.K W ts)) : PE X (.Subscript e (.Slice lo hi (some st) p2) pos) (toE X.K W (dSlS te tl th ts)) := pimp (pe_sliceS st_U he hl hh hs) fun σ H Q h => by
  obtain ⟨w, δ, Qd, Ed, rfl, ok, lo, t, q, ec⟩ := h
  refine ⟨w, δ, _, Ed, rfl, ok, lo, t, fun d v w1 t1 l1 ok1 r1 => ?_, ec⟩
  refine ⟨w1, δ, _, Ed, rfl, ok1, lo.up l1, t1, fun o1 w2 t2 l2 ok2 => ?_, ec.up l1⟩
  refine ⟨w2, δ, _, Ed, rfl, ok2, (lo.up l1).up l2, t2, fun o2 w3 t3 l3 ok3 => ?_, (ec.up l1).up l2⟩
  refine ⟨w3, δ, _, Ed, rfl, ok3, ((lo.up l1).up l2).up l3, t3, fun o3 w4 t4 l4 ok4 => ?_, ((ec.up l1).up l2).up l3⟩
  have r4 := ((r1.up l2).up l3).up l4
  have l := ((l1.trans l2).trans l3).trans l4
  cases o3 with
  | none => exact t4.elim
  | some c =>
    refine ⟨c, rfl, ?_⟩
    have t4 : stK w4.S d o1 o2 c fun d => Qd d w4.S := t4
    have fin : ∀ z v w', Qd z w'.S → Le w4 w' → Ok X.K w' → Rp X.K w'.I w'.α v z → Q v w'.H := fun z v w' a b c d => q z v w' a (l.trans b) c d
    have ls : opt (asR w4.S d) (fun ds => c ≠ 0 ∧ (slI ds.length o1 o2 c).length ≤ sizeLine ∧ Qd (.lst (stpL ds o1 o2 c)) w4.S) → rStU X.K v o1 o2 c w4.H Q := fun h => by
      obtain ⟨ds, hd, h0, hz, h⟩ := opt_of h
      obtain ⟨p, vs, rfl, hp, r⟩ := asR_sem ok4 r4 hd
      refine .inr ⟨p, vs, rfl, hp, h0, by rw [r.length]; exact hz, fun t ht => ?_⟩
      refine lay_lst (Qd := fun z => Qd z w4.S) ok4 (ds := stpL ds o1 o2 c) ?_ h (fun z v w' a b c d e => fin z v w' (by rw [c]; exact a) b d e) ht
      unfold stpL
      rw [r.length]
      exact rpl_pick r _
    cases d with
    | tup ds =>
      obtain ⟨h0, hz, h⟩ := t4
      obtain ⟨p, vs, rfl, hp, r⟩ := r4.tup'
      refine .inl ⟨p, vs, rfl, ok4.sqT hp, h0, by rw [r.length]; exact hz, fun hw => ?_, fun t ht => ?_⟩
      · have hw' : (stA ds.length o1 o2 c = 0 ∧ c = 1) ∧ stN ds.length o1 o2 c = ds.length := by
          rw [r.length] at hw
          simpa using hw
        obtain ⟨⟨a1, rfl⟩, a3⟩ := hw'
        have e1 : stpT ds o1 o2 1 = ds := by
          unfold stpT stI
          rw [a1, a3]
          exact pick_whole ds
        rw [e1] at h
        exact fin _ _ w4 h (.refl w4) ok4 r4
      · refine lay_tup (Qd := fun z => Qd z w4.S) ok4 (ds := stpT ds o1 o2 c) ?_ h (fun z v w' a b c d e => fin z v w' (by rw [c]; exact a) b d e) ht
        unfold stpT
        rw [r.length]
        exact rpl_pick r _
    | _ => exact ls t4
end
/-! what it is -/
def qS4 (x : D) (l h : Option Int) (Q : QD) : QO := fun z S4 => match z with
  | some c => stK S4 x l h c (qV Q S4)
  | none => False
def qS3 (x : D) (l : Option Int) (ts : DO) (δ : Lo) (Q : QD) (E : QE) : QO := fun h S3 => ts δ S3 (qS4 x l h Q) E
def qS2 (x : D) (th ts : DO) (δ : Lo) (Q : QD) (E : QE) : QO := fun l S2 => th δ S2 (qS3 x l ts δ Q E) E
def qS1 (tl th ts : DO) (δ : Lo) (Q : QD) (E : QE) : QD := fun x S1 => tl δ S1 (qS2 x th ts δ Q E) E
section
variable {te : DE} {tl th ts : DO} {δ : Lo} {S : Sto} {Q : QD} {E : QE} {x : D} {lo hi : Option Int} {c : Int} {ds : List D} {k : D → Prop}
@[simp] theorem ev_slS : dSlS te tl th ts δ S Q E = te δ S (qS1 tl th ts δ Q E) E := rfl
@[simp] theorem ev_slS1 : qS1 tl th ts δ Q E x S = tl δ S (qS2 x th ts δ Q E) E := rfl
@[simp] theorem ev_slS2 : qS2 x th ts δ Q E lo S = th δ S (qS3 x lo ts δ Q E) E := rfl
@[simp] theorem ev_slS3 : qS3 x lo ts δ Q E hi S = ts δ S (qS4 x lo hi Q) E := rfl
@[simp] theorem ev_slS4 : qS4 x lo hi Q (some c) S = stK S x lo hi c (qV Q S) := rfl
@[simp] theorem ev_stT : stK S (.tup ds) lo hi c k = (c ≠ 0 ∧ stN ds.length lo hi c ≤ sizeLine ∧ k (.tup (stpT ds lo hi c))) := rfl
@[simp] theorem ev_stL : stK S (.lst ds) lo hi c k = (c ≠ 0 ∧ (slI ds.length lo hi c).length ≤ sizeLine ∧ k (.lst (stpL ds lo hi c))) := rfl
theorem ev_stM {n : Nat} (h : S n = some (.lst ds)) : stK S (.m n) lo hi c k = (c ≠ 0 ∧ (slI ds.length lo hi c).length ≤ sizeLine ∧ k (.lst (stpL ds lo hi c))) := by
  show opt (asR S (.m n)) _ = _
  unfold asR
  simp [h, opt]
theorem range_pick {A : Type} (f : Nat → Nat) (xs : List A) {n : Nat} (g : Nat → A) (h : ∀ k, k < n → xs[f k]? = some (g k)) : (((List.range n).map f).filterMap (xs[·]?)) = (List.range n).map g := by
  rw [List.filterMap_map]
  have : ∀ l : List Nat, (∀ k ∈ l, k < n) → l.filterMap ((fun x => xs[x]?) ∘ f) = l.map g := fun l => by
    induction l with
    | nil => intro _; rfl
    | cons a l ih =>
      intro q
      rw [List.filterMap_cons]
      simp only [Function.comp]
      rw [h a (q a (List.mem_cons_self ..))]
      rw [List.map_cons, ← ih fun k hk => q k (List.mem_cons_of_mem _ hk)]

  exact this _ fun k hk => List.mem_range.mp hk
theorem rev_range {A : Type} (xs : List A) : ((List.range xs.length).map fun (k : Nat) => ((xs.length : Int) - 1 + -(k : Int)).toNat).filterMap (xs[·]?) = xs.reverse := by
  cases xs with
  | nil => rfl
  | cons a l =>
    rw [range_pick _ _ (fun k => (a :: l).reverse.getD k a) fun k hk => ?_]
    · refine List.ext_getElem (by simp) fun i h1 h2 => ?_
      rw [List.getElem_map, List.getElem_range, List.getD_eq_getElem?_getD, List.getElem?_eq_getElem h2]
      rfl
    · have h2 : k < (a :: l).reverse.length := by simpa using hk
      have e : (((a :: l).length : Int) - 1 + -(k : Int)).toNat = (a :: l).length - 1 - k := by omega
      show (a :: l)[_]? = _
      rw [e, List.getD_eq_getElem?_getD, List.getElem?_eq_getElem h2, List.getElem_reverse, List.getElem?_eq_getElem (by omega)]
      rfl
theorem slI_rev (n : Nat) : slI n none none (-1) = (List.range n).map fun (k : Nat) => ((n : Int) - 1 + -(k : Int)).toNat := by
  have e : (if (n : Int) - 1 > -1 then ((n : Int) - 1 - -1 - -1 - 1) / (- -1) else 0).toNat = n := by
    by_cases h : (n : Int) - 1 > -1
    · rw [if_pos h]
      simp; try omega
    · rw [if_neg h]; omega
  unfold slI sliceRange
  simp only [sliceBounds, Option.getD_some, show ¬ ((-1 : Int) > 0) by decide, if_false]
  rw [e]
  exact List.map_congr_left fun k _ => by congr 1; omega
theorem stI_rev (n : Nat) : stI n none none (-1) = (List.range n).map fun (k : Nat) => ((n : Int) - 1 + -(k : Int)).toNat := by
  have e : (if (n : Int) - 1 > -1 then ((n : Int) - 1 - -1 - 1) / (- -1) + 1 else 0).toNat = n := by
    by_cases h : (n : Int) - 1 > -1
    · rw [if_pos h]
      simp; try omega
    · rw [if_neg h]; omega
  unfold stI stN stA Builtin.Slice.sliceAdjust Builtin.Slice.slicePlaces
  simp only [show (-1 : Int) < 0 by decide, show ¬ ((-1 : Int) > 0) by decide, if_true, if_false]
  rw [e]
  exact List.map_congr_left fun k _ => by congr 1; omega
theorem stpL_rev : stpL ds none none (-1) = ds.reverse := by unfold stpL; rw [slI_rev]; exact rev_range ds
theorem stpT_rev : stpT ds none none (-1) = ds.reverse := by unfold stpT; rw [stI_rev]; exact rev_range ds
theorem slI_rev_len {n : Nat} : (slI n none none (-1)).length = n := by rw [slI_rev]; simp
theorem stN_rev {n : Nat} : stN n none none (-1) = n := by
  have := congrArg List.length (stI_rev n)
  unfold stI at this
  simpa using this
@[simp] theorem rev_T : stK S (.tup ds) none none (-1) k = (ds.length ≤ sizeLine ∧ k (.tup ds.reverse)) := by
  rw [ev_stT, stN_rev, stpT_rev]; simp
@[simp] theorem rev_L : stK S (.lst ds) none none (-1) k = (ds.length ≤ sizeLine ∧ k (.lst ds.reverse)) := by
  rw [ev_stL, slI_rev_len, stpL_rev]; simp
theorem rev_M {n : Nat} (h : S n = some (.lst ds)) : stK S (.m n) none none (-1) k = (ds.length ≤ sizeLine ∧ k (.lst ds.reverse)) := by
  rw [ev_stM h, slI_rev_len, stpL_rev]; simp
/-- one of c columns of b rows -/
theorem stN_col {b c p : Nat} (hb : 0 < b) (hp : p < c) : stA (b * c) (some (p : Int)) none (c : Int) = p ∧ stN (b * c) (some (p : Int)) none (c : Int) = b := by
  have h0 : c ≤ b * c := Nat.le_mul_of_pos_left c hb
  have h1 : ¬ ((c : Int) < 0) := by omega
  have h2 : (c : Int) > 0 := by omega
  have h3 : ¬ ((p : Int) < 0) := by omega
  have e : stA (b * c) (some (p : Int)) none (c : Int) = p := by
    unfold stA Builtin.Slice.sliceAdjust
    simp only [h1, h3, if_false]
    omega
  refine ⟨e, ?_⟩
  have e2 : (Builtin.Slice.sliceAdjust (some (p : Int)) none (c : Int) ((b * c : Nat) : Int)).2 = ((b * c : Nat) : Int) := by
    unfold Builtin.Slice.sliceAdjust
    simp only [h1, if_false]
  unfold stN
  have e' := e
  unfold stA at e'
  rw [e', e2]
  unfold Builtin.Slice.slicePlaces
  simp only [h2, if_true]
  rw [if_pos (by omega)]
  have e3 : ((b * c : Nat) : Int) - (p : Int) - 1 = ((c : Int) - p - 1) + ((b : Int) - 1) * (c : Int) := by
    rw [Int.sub_mul, Int.one_mul, ← Int.natCast_mul]
    omega
  rw [e3, Int.add_mul_ediv_right _ _ (by omega), Int.ediv_eq_zero_of_lt (by omega) (by omega)]
  omega
theorem stpT_col {A : Type} {xs : List A} {b c p : Nat} (hl : xs.length = b * c) (hb : 0 < b) (hp : p < c) (g : Nat → A) (h : ∀ j, j < b → xs[j * c + p]? = some (g j)) : stpT xs (some (p : Int)) none (c : Int) = (List.range b).map g := by
  obtain ⟨e1, e2⟩ := stN_col hb hp
  unfold stpT stI
  rw [hl, e1, e2]
  refine range_pick _ _ g fun k hk => ?_
  rw [← h k hk]
  congr 1
  have : (k : Int) * (c : Int) = ((k * c : Nat) : Int) := by rw [Int.natCast_mul]
  rw [this]
  omega
end
end DL

set_option maxHeartbeats 4000000
/-! ## 47. loops: over a range, over mapped items -/
namespace DL
open PySem PySem.Spec L2
theorem Sub.no {S S' : Sto} {n : Nat} (h : Sub S S') (g : S' n = none) : S n = none := by
  cases e : S n with
  | none => rfl
  | some c => rw [h n c e] at g; cases g
/-- a new cell beside -/
theorem Sub.new {S S' : Sto} {n : Nat} {c : Cell} (h : Sub S S') (g : S' n = none) : Sub S (DL.put S' n c) := h.put (h.no g)
theorem sum_const {A : Type} {c : Nat} : ∀ {l : List A}, (l.map fun _ => c).sum = l.length * c
  | [] => by simp
  | _ :: l => by rw [List.map_cons, List.sum_cons, sum_const (l := l), List.length_cons, Nat.succ_mul, Nat.add_comm]
def flB : D → Bool
  | .lst _ => false
  | .tup _ => false
  | .rol _ => false
  | _ => true
theorem eqv_flat {a b : D} : PyData.eqv (pyOf a) (pyOf b) = PyData.eqv (pyOf a) (pyOf b) := rfl
/-- == of plain data -/
theorem eq_pln {neg : Bool} {S : Sto} {a b : D} {k : D → Prop} {n m : Nat} (ha : pln n a = true) (hb : pln m b = true) (hn : n ≤ 64) (hm : m ≤ 64) : oEq neg S a b k = k (.bl (neg ^^ PyData.eqv (pyOf a) (pyOf b))) := by
  have h1 : shp (pyOf a) := pln_shp ha hn
  have h2 : shp (pyOf b) := pln_shp hb hm
  have s1 : pyS S a = pyOf a := by
    cases a <;> first | rfl | (cases n <;> simp [pln] at ha)
  have s2 : pyS S b = pyOf b := by
    cases b <;> first | rfl | (cases m <;> simp [pln] at hb)
  have gen : (shp (pyS S a) ∧ shp (pyS S b) ∧ k (.bl (neg ^^ PyData.eqv (pyS S a) (pyS S b)))) = k (.bl (neg ^^ PyData.eqv (pyOf a) (pyOf b))) := by
    rw [s1, s2]
    exact propext ⟨fun h => h.2.2, fun h => ⟨h1, h2, h⟩⟩
  cases a <;> cases b <;> first | exact gen | rfl
theorem eq_t_nil {neg : Bool} {S : Sto} {xs : List D} {k : D → Prop} (hp : plnL 60 xs = true) : oEq neg S (.tup xs) (.tup []) k = k (.bl (neg ^^ xs.isEmpty)) := by
  rw [eq_pln (n := 61) (m := 1) (show pln 61 (.tup xs) = true from hp) rfl (by decide) (by decide)]
  congr 3
  cases xs <;> rfl
section
variable {kp : Sto → Prop} {g : DG} {body : DS} {B : DEnds}
/-- for x in (a range): Inv k ahead of turn k -/
theorem lp_rng {lo : Int} {n : Nat} (Inv : Nat → Lo → Sto → Prop) (hk : ∀ k δ S, Inv k δ S → kp S)
    (step : ∀ k δ S, k < n → Inv k δ S → ∀ B1 : DEnds, B1.rt = B.rt → B1.ex = B.ex → B1.bk = B.nx → (∀ δ2 S2, Inv (k + 1) δ2 S2 → B1.nx δ2 S2) → (∀ δ2 S2, Inv (k + 1) δ2 S2 → B1.ct δ2 S2) → g (.int (lo + (k : Int))) δ S fun δ1 S1 => body B1 δ1 S1)
    (fin : ∀ δ S, Inv n δ S → B.nx δ S) {δ : Lo} {S : Sto} (h : Inv 0 δ S) : dLoop kp g body (rngD lo n) B δ S := by
  refine lp_inv (fun ds δ' S' => ∃ k, k ≤ n ∧ ds = rngD (lo + k) (n - k) ∧ Inv k δ' S') ?_ ?_ ?_ _ _ _ ⟨0, by omega, by simp, h⟩
  · rintro ds δ S ⟨k, _, _, h⟩
    exact hk _ _ _ h
  · rintro d ds δ S ⟨k, hkn, e, h⟩ B1 b1 b2 b3 b4 b5
    have hlt : k < n := by
      have := congrArg List.length e
      rw [rngD_len, List.length_cons] at this
      omega
    have e2 : rngD (lo + k) (n - k) = .int (lo + k) :: rngD (lo + ((k + 1 : Nat) : Int)) (n - (k + 1)) := by
      rw [show n - k = (n - (k + 1)) + 1 by omega]
      show D.int _ :: rngD _ _ = _
      rw [show lo + (k : Int) + 1 = lo + ((k + 1 : Nat) : Int) by omega]
    rw [e2] at e
    obtain ⟨rfl, rfl⟩ := List.cons.inj e
    exact step k δ S hlt h B1 b1 b2 b3 (fun δ2 S2 q => b4 _ _ ⟨k + 1, by omega, rfl, q⟩) (fun δ2 S2 q => b5 _ _ ⟨k + 1, by omega, rfl, q⟩)
  · rintro δ S ⟨k, hkn, e, h⟩
    have : k = n := by
      have := congrArg List.length e
      rw [rngD_len, List.length_nil] at this
      omega
    subst this
    exact fin _ _ h
/-- for x in (items f a) -/
theorem lp_map {A : Type} (f : A → D) (xs : List A) (Inv : List A → Lo → Sto → Prop) (hk : ∀ k δ S, Inv k δ S → kp S)
    (step : ∀ done x todo δ S, xs = done ++ x :: todo → Inv done δ S → ∀ B1 : DEnds, B1.rt = B.rt → B1.ex = B.ex → B1.bk = B.nx → (∀ δ2 S2, Inv (done ++ [x]) δ2 S2 → B1.nx δ2 S2) → (∀ δ2 S2, Inv (done ++ [x]) δ2 S2 → B1.ct δ2 S2) → g (f x) δ S fun δ1 S1 => body B1 δ1 S1)
    (fin : ∀ δ S, Inv xs δ S → B.nx δ S) {δ : Lo} {S : Sto} (h : Inv [] δ S) : dLoop kp g body (xs.map f) B δ S := by
  refine lp_inv (fun ds δ' S' => ∃ done todo, xs = done ++ todo ∧ ds = todo.map f ∧ Inv done δ' S') ?_ ?_ ?_ _ _ _ ⟨[], xs, rfl, rfl, h⟩
  · rintro ds δ S ⟨done, _, _, _, h⟩
    exact hk _ _ _ h
  · rintro d ds δ S ⟨done, todo, e1, e2, h⟩ B1 b1 b2 b3 b4 b5
    cases todo with
    | nil => cases e2
    | cons x todo =>
      cases e2
      exact step done x todo δ S e1 h B1 b1 b2 b3 (fun δ2 S2 q => b4 _ _ ⟨done ++ [x], todo, by rw [e1]; simp, rfl, q⟩) (fun δ2 S2 q => b5 _ _ ⟨done ++ [x], todo, by rw [e1]; simp, rfl, q⟩)
  · rintro δ S ⟨done, todo, e1, e2, h⟩
    obtain rfl : todo = [] := by cases todo with | nil => rfl | cons => cases e2
    rw [List.append_nil] at e1
    subst e1
    exact fin _ _ h
end
end DL

set_option maxHeartbeats 4000000
/-! ## 48. the hand: [draws, place] -/
namespace DL
open PySem PySem.Spec L2
def Hn (c : Cell) : Prop := ∃ (xs : List Int) (k : Nat), c = stC xs k
theorem Hn.mk {xs : List Int} {k : Nat} : Hn (stC xs k) := ⟨xs, k, rfl⟩
theorem Hn.new {xs : List Int} : Hn (.lst [.lst (xs.map .int), .int 0]) := ⟨xs, 0, rfl⟩
def hdK (many : Int) (S : Sto) (n : Nat) (Q : QD) (o : Option Cell) : Prop := match o with
  | some c => Hn c ∧ 0 < many ∧ ∀ v c', Hn c' → 0 ≤ v → v < many → Q (.int v) (put S n c')
  | none => False
def pHand : DFn := fun us S Q _ => match us with
  | [.m n, .int many] => hdK many S n Q (S n)
  | _ => False
@[simp] theorem ev_pHand {n : Nat} {many : Int} {S : Sto} {Q : QD} {E : QE} : pHand [.m n, .int many] S Q E = hdK many S n Q (S n) := rfl
@[simp] theorem ev_hdK {n : Nat} {many : Int} {S : Sto} {Q : QD} {c : Cell} : hdK many S n Q (some c) = (Hn c ∧ 0 < many ∧ ∀ v c', Hn c' → 0 ≤ v → v < many → Q (.int v) (put S n c')) := rfl
theorem hdK_of {many : Int} {S : Sto} {n : Nat} {Q : QD} {o : Option Cell} (h : hdK many S n Q o) : ∃ (xs : List Int) (k : Nat), o = some (stC xs k) ∧ 0 < many ∧ ∀ v, 0 ≤ v → v < many → Q (.int v) (put S n (stC xs ((k : Int) + 1))) := by
  cases o with
  | none => exact h.elim
  | some c =>
    obtain ⟨⟨xs, k, rfl⟩, hm, q⟩ := h
    exact ⟨xs, k, rfl, hm, fun v h0 h1 => q v _ ⟨xs, k + 1, by push_cast; rfl⟩ h0 h1⟩
def pDraws : DFn := fun us S Q _ => match us with
  | [.rol xs, .int many] => xs = (xs.map dI).map .int ∧ xs.length ≤ 63 ∧ 0 ≤ many ∧ many < 10000 ∧ ∀ dr : List Int, Q (.lst (dr.map .int)) S
  | _ => False
@[simp] theorem ev_pDraws {ns : List Int} {many : Int} {S : Sto} {Q : QD} {E : QE} : pDraws [.rol (ns.map .int), .int many] S Q E = (ns.length ≤ 63 ∧ 0 ≤ many ∧ many < 10000 ∧ ∀ dr : List Int, Q (.lst (dr.map .int)) S) := by
  show ((_ : Prop) ∧ _ ∧ _ ∧ _) = _
  rw [dI_map, List.length_map]
  simp
section
variable {kp : Sto → Prop} {g : DG} {c : DT} {elt : DE} {δ : Lo} {Qa : QL} {n : Nat} {S : Sto} {h0 : Cell}
/-- a comprehension whose turns draw: each gives P -/
theorem lc_hand {A : Type} (f : A → D) (P : A → Prop) (h : S n = some h0) (hh : Hn h0) (hk : ∀ c, Hn c → kp (put S n c)) (ds : List D) (hl : ds.length ≤ 1000000)
    (step : ∀ d ∈ ds, ∀ c1 (R : QD) (N : Sto → Prop), Hn c1 → (∀ v c2, Hn c2 → P v → R (f v) (put S n c2)) → g d δ (put S n c1) (qLcT c elt R N))
    (q : ∀ (vs : List A) c1, Hn c1 → vs.length = ds.length → (∀ v ∈ vs, P v) → Qa (vs.map f) (put S n c1)) : dLcL kp g c elt δ ds [] S Qa := by
  refine lc_inv (fun rs acc S' => (∃ l, ds = l ++ rs) ∧ ∃ (vs : List A) (c1 : Cell), acc = vs.map f ∧ Hn c1 ∧ vs.length + rs.length = ds.length ∧ (∀ v ∈ vs, P v) ∧ S' = put S n c1) ?_ ?_ ?_ ?_ ds [] S ⟨⟨[], rfl⟩, [], h0, rfl, hh, by simp, (fun v hv => by cases hv), (put_del h).symm⟩
  · rintro rs acc S' ⟨_, vs, c1, _, hc, _, _, rfl⟩
    exact hk c1 hc
  · rintro d rs acc S' ⟨_, vs, c1, rfl, hc, hl', _, _⟩
    have := sz' (n := vs.length) (by rw [List.length_cons] at hl'; omega)
    rwa [List.length_map]
  · rintro d rs acc S' ⟨⟨l, hds⟩, vs, c1, rfl, hc, hl', hv, rfl⟩ R N hR hN
    refine step d (by rw [hds]; simp) c1 R N hc fun v c2 hc2 hp => hR _ _ ⟨⟨l ++ [d], by rw [hds]; simp⟩, vs ++ [v], c2, by simp, hc2, by rw [List.length_cons] at hl'; simp; omega, fun w hw => ?_, rfl⟩
    rcases List.mem_append.mp hw with hw | hw
    · exact hv w hw
    · rw [List.mem_singleton.mp hw]; exact hp
  · rintro acc S' ⟨_, vs, c1, rfl, hc, hl', hv, rfl⟩
    exact q vs c1 hc (by simpa using hl') hv
end
end DL

set_option maxHeartbeats 4000000
/-! ## 49. == and != of alike data that hold instances with an __eq__ of their own -/
namespace GQ
open PySem PySem.SeqAt
open AutoSeq1 (wpAny_loadPart')
open MeetsSeq MeetsSeq2 MeetsSeq3 SeqRoads2
section
variable {prog : Program} {w : World} {A : Around} {R : Result → Shared → Prop}
theorem ne_loopG (l b : Addr) (N : Nat) (I : Nat → Shared → Prop) (hl : ListI prog w A (fun e s' => R (.error e) s') l b N I)
    (fin : ∀ s, I N s → R (.ok (.ret (.bool false))) s) (k : Nat) :
    ∀ i : Nat, N - i = k → i ≤ N → ∀ s, I i s →
      wpAny (model prog w) A.in1 (Builtin.«list.__eq__.loop» ⟨[.ref l, .ref b, rawInt i, rawInt 3], []⟩) (FinOf prog w A R) (fun e s' => R (.error e) s') s := by
  induction k with
  | zero =>
    intro i hk hi s h
    obtain ⟨us, vs, n, m, p1, p2, z1, z2, _⟩ := hl _ _ h
    have hN : i = N := by omega
    have hR : R (.ok (.ret (.bool false))) s := fin s (hN ▸ h)
    obtain ⟨hp, g, d, tk, os⟩ := s
    wp_walk using wpAny_loadPart' p1, wpAny_loadPart' p2
    have o1 : us[((i : Nat) : Int).toNat]? = none := by simp; omega
    have o2 : vs[((i : Nat) : Int).toNat]? = none := by simp; omega
    rw [o1, o2]
    wp_walk using wpAny_loadPart' p1, wpAny_loadPart' p2
    show R (.ok (.ret (.bool (us.size != vs.size)))) _
    rw [z1, z2]
    simpa using hR
  | succ k ih =>
    intro i hk hi s h
    obtain ⟨us, vs, n, m, p1, p2, z1, z2, turn⟩ := hl _ _ h
    have lt1 : i < us.size := by omega
    have lt2 : i < vs.size := by omega
    have ht := turn lt1 lt2
    obtain ⟨hp, g, d, tk, os⟩ := s
    wp_walk using wpAny_loadPart' p1, wpAny_loadPart' p2
    have o1 : us[((i : Nat) : Int).toNat]? = some us[i] := by simp [lt1]
    have o2 : vs[((i : Nat) : Int).toNat]? = some vs[i] := by simp [lt2]
    have hc : ((i : Int) + 1) = ((i + 1 : Nat) : Int) := by omega
    rw [o1, o2]
    refine wpAny_bind (wpAny_mono ht (fun r s2 q2 => ?_) fun _ _ x => x)
    obtain ⟨rfl, q2⟩ := q2
    have again := ih (i + 1) (by omega) (by omega) s2 q2
    obtain ⟨hp2, g2, d2, tk2, os2⟩ := s2
    wp_walk
    rw [hc]
    refine ⟨plainId_quiet plain_eq_loop _, codeAny_builtin entry_eq_loop ?_⟩
    rw [Around.under_plainId plain_eq_loop _]
    exact again
theorem list_neG (l b : Addr) (N : Nat) (I : Nat → Shared → Prop) (hl : ListI prog w A (fun e s' => R (.error e) s') l b N I)
    (fin : ∀ s, I N s → R (.ok (.ret (.bool false))) s) {s : Shared} (h : I 0 s) :
    wpAny (model prog w) A.in1 (Builtin.«list.__ne__» ⟨[.ref l, .ref b], []⟩) (FinOf prog w A R) (fun e s' => R (.error e) s') s := by
  obtain ⟨us, vs, n, m, p1, p2, z1, z2, _⟩ := hl _ _ h
  have again := ne_loopG (A := A) (R := R) l b N I hl fin _ 0 rfl (Nat.zero_le _) s h
  obtain ⟨hp, g, d, tk, os⟩ := s
  have f3 := AutoSeq1.sub_list_list
  have hne : ¬ (us.size != vs.size) = true := by simp [z1, z2]
  wp_walk using wpAny_loadPart' p1, wpAny_loadPart' p2
  refine ⟨plainId_quiet plain_eq_loop _, codeAny_builtin entry_eq_loop ?_⟩
  rw [Around.under_plainId plain_eq_loop _]
  exact again
end
section
variable {prog : Program} {w : World} {A : Around} {E : Value → Shared → Prop} {s : Shared}
theorem rc_neListG {l b : Addr} {N : Nat} {Q : Value → Shared → Prop} (hu : A.units < cLine) (I : Nat → Shared → Prop) (hl : ListI prog w A E l b N I)
    (fin : ∀ s, I N s → Q (.bool false) s) (h : I 0 s) : wpAny (model prog w) A (richCompare .NotEq (.ref l) (.ref b)) Q E s := by
  obtain ⟨us, vs, n, m, p1, p2, _, _, _⟩ := hl _ _ h
  refine wpAny_richCompare_same_room (op := .NotEq) ⟨_, p1, rfl⟩ ⟨_, p2, rfl⟩ F.slot_list_ne (call_here F.slot_list_ne ⟨_, p1, rfl⟩ F.entry_list_ne (F.args_list_ne_2 _ _) ?_) hu
  exact list_neG (R := wants (fun v s' => v ≠ .notImplemented ∧ Q v s') E) l b N I hl (fun s' q => ⟨(fun x => nomatch x), fin s' q⟩) h
end
end GQ
namespace L2
open PySem PySem.Spec
def RnG (X : Cx) (n : Nat) (D : Eqv) : Prop :=
  ∀ (A : Around) (pins : List (Addr × Obj)) (s : Shared) (σ : St) (H : Hp) (x y : V) (u v : Value), Sub X n A → Inv X pins σ H s → RelV x u → RelV y v → D x y H →
    wpAny (model X.prog X.w) A (richCompare .NotEq u v) (fun r s' => r = .bool false ∧ ∃ H', Inv X pins σ H' s' ∧ Ext H H') X.xe s
section
variable {X : Cx} {n m : Nat} {D D' : Eqv}
theorem rnG_list (hD : Mon D) (h : EqG X n D) : RnG X (n + 1) (DList D) := by
  intro A pins s σ H x y u v sb I rx ry d
  obtain ⟨a, b, xs, ys, rfl, rfl, ha, hb, p⟩ := d
  cases rx
  cases ry
  refine GQ.rc_neListG (N := xs.length) sb.room.units0 (fun _ s' => LoopI X pins σ H s') (fun i s' q => ?_) (fun s' q => ⟨rfl, q⟩) ⟨H, I, Ext.rfl'⟩
  obtain ⟨H1, I1, e1⟩ := id q
  obtain ⟨z, us, k, r, e⟩ := I1.hok a _ (e1 _ _ ha)
  obtain ⟨z2, vs, k2, r2, e2⟩ := I1.hok b _ (e1 _ _ hb)
  exact ⟨us.toArray, vs.toArray, k, k2, e, e2, by rw [List.size_toArray, ← r.length], by rw [List.size_toArray, ← r2.length, ← p.1], fun h1 h2 => turnG hD h sb p r r2 i h1 h2 s' q⟩
def rNeG (D : Eqv) : R2 := fun x y H Q => D x y H ∧ ∀ H', Ext H H' → Q (.bl false) H'
theorem op_neG (h : RnG X n D) (hr : Room n X.A) : OpR X (compareOp .NotEq) (rNeG D) := by
  intro pins s σ H x y v u Q I rx ry hq
  obtain ⟨d, q⟩ := hq
  show wpAny (model X.prog X.w) X.A (richCompare .NotEq v u) (EP X pins σ Q) X.xe s
  refine wpAny_mono (h X.A pins s σ H x y v u ⟨hr, rfl⟩ I rx ry d) (fun r s' z => ?_) fun _ _ x => x
  obtain ⟨rfl, H', I', e⟩ := z
  exact ⟨.bl false, H', I', rfl, q H' e⟩
end
end L2
namespace DL
open PySem PySem.Spec L2
def kN : Sto := fun _ => none
/-- the own == tells True of an instance and itself -/
def Self (m : DFn) (d : D) : Prop := m [d, d] kN (fun z _ => z = .bl true) (fun _ _ => False)
/-- data whose instances are equal to themselves, of depth n at most -/
inductive Alk (L : List (Addr × DFn)) : Nat → D → Prop
  | non (n) : Alk L n .non
  | bl (n b) : Alk L n (.bl b)
  | int (n i) : Alk L n (.int i)
  | str (n x) : Alk L n (.str x)
  | ins (n) {C m fs} (h : (C, m) ∈ L) (s : Self m (.ins C fs)) : Alk L n (.ins C fs)
  | lst {n xs} (h : ∀ x ∈ xs, Alk L n x) : Alk L (n + 1) (.lst xs)
  | tup {n xs} (h : ∀ x ∈ xs, Alk L n x) : Alk L (n + 1) (.tup xs)
def lowB : D → Bool
  | .lst _ => false
  | .tup _ => false
  | _ => true
def aN : Am := fun _ => none
def DD (K : PySem.W.Frag) (L : List (Addr × DFn)) (n : Nat) : Eqv := fun x y H => ∃ I d, HpLe I H ∧ Rp K I aN x d ∧ Rp K I aN y d ∧ Alk L n d
theorem ext_le {H H' : Hp} (e : Ext H H') {I : Hp} (h : HpLe I H) : HpLe I H' := fun p o q => e p o (h p o q)
theorem mon_DD {K : PySem.W.Frag} {L : List (Addr × DFn)} {n : Nat} : Mon (DD K L n) := fun _ _ _ _ e ⟨I, d, a, b, c, g⟩ => ⟨I, d, ext_le e a, b, c, g⟩
/-- what is called for == of a class -/
def EqCal (X : Cx) (k : Nat) (C : Addr) (m : DFn) : Prop := ∃ f, Cal X.prog X.w X.K X.mg X.base k f 2 m [] ∧ Meth X.K C "__eq__" f
section
variable {X : Cx} {k : Nat} {L : List (Addr × DFn)}
def InsR (K : PySem.W.Frag) (C : Addr) (m : DFn) : Addr → Addr → Hp → Prop := fun a b H => ∃ I fs, HpLe I H ∧ Rp K I aN (.ref a) (.ins C fs) ∧ Rp K I aN (.ref b) (.ins C fs) ∧ Self m (.ins C fs)
theorem eq_ins {C : Addr} {m : DFn} (h : EqCal X k C m) : EqG X k (DIns C (InsR X.K C m)) := by
  obtain ⟨f, c, hM⟩ := h
  obtain ⟨fd, ps, ds, dvs, F, hbi, hds, hdd, hk⟩ := c.ex
  have h0 : dvs = [] := by
    have := (hdd.r (fun _ => none) aN).length
    simpa using this
  subst h0
  cases hds
  have F2 : FnOk X.prog X.w X.K X.mg X.base (L2.CX X.prog X.w) k f fd ps (spEq (InsR X.K C m)) := by
    have wk : ∀ vs H Q E, spEq (InsR X.K C m) vs H Q E → toSp X.K 2 m vs H Q E := by
      rintro vs H Q E ⟨a, b, rfl, ⟨I, fs, hI, ra, rb, hs⟩, q⟩
      refine ⟨rfl, ⟨I, aN, kN, H⟩, [.ins C fs, .ins C fs], fun z _ => z = .bl true, fun _ _ => False, rfl, ⟨hI, fun n c z => (nomatch z), fun n m p z => absurd rfl z, ⟨0, fun _ _ => rfl⟩⟩, .cons ra (.cons rb .nil), hs, fun d v w' hd l ok r => ?_, fun _ _ _ z => z.elim⟩
      subst hd
      rw [r.bl']
      exact q _ fun p o hp => l.hh p o hp fun n hn => absurd rfl hn
    exact ⟨fun vs H Q E g => F.len _ _ _ _ (wk _ _ _ _ g), fun A outer s H args us vs Q E hr e0 hb r g => F.run A outer s H args us vs Q E hr e0 hb r (wk _ _ _ _ g)⟩
  exact eqG_ins (E := fun _ _ _ => False) F2 hM.at_ hM.fn hbi fun pins σ H s e s' _ hq => by
    obtain ⟨_, _, _, _, _, _, _, _, _, _, _, _, _, z⟩ := hq

theorem eq_alk (hL : ∀ q ∈ L, EqCal X k q.1 q.2) : ∀ n : Nat, EqG X (k + n) (DD X.K L n) := by
  have flat : ∀ n, EqG X (k + n) DFlat := fun n => eqG_flat.mono (by omega)
  have one : ∀ n, EqG X (k + n) (fun x y H => ∃ q ∈ L, DIns q.1 (InsR X.K q.1 q.2) x y H) := fun n A pins s σ H x y u v sb I rx ry d => by
    obtain ⟨q, hq, d⟩ := d
    exact (eq_ins (hL q hq)).mono (Nat.le_add_right k n) A pins s σ H x y u v sb I rx ry d
  have low : ∀ n {x y : V} {H : Hp} {I : Hp} {d : D}, HpLe I H → Rp X.K I aN x d → Rp X.K I aN y d → lowB d = true → Alk L n d → DFlat x y H ∨ ∃ q ∈ L, DIns q.1 (InsR X.K q.1 q.2) x y H := by
    intro n x y H I d hI rx ry hm ha
    cases ha with
    | non => cases rx; cases ry; exact .inl ⟨rfl, rfl, rfl⟩
    | bl => cases rx; cases ry; exact .inl ⟨rfl, rfl, by simp [eqV]⟩
    | int => cases rx; cases ry; exact .inl ⟨rfl, rfl, by simp [eqV]⟩
    | str => cases rx; cases ry; exact .inl ⟨rfl, rfl, by simp [eqV]⟩
    | ins _ h s =>
      obtain ⟨a, dx, vs, rfl, h1, r1⟩ := rx.ins'
      obtain ⟨b, dy, us, rfl, h2, r2⟩ := ry.ins'
      exact .inr ⟨_, h, a, b, dx, dy, vs, us, rfl, rfl, hI _ _ h1, hI _ _ h2, I, _, hI, .ins h1 r1, .ins h2 r2, s⟩
    | lst => cases hm
    | tup => cases hm
  intro n
  induction n with
  | zero =>
    intro A pins s σ H x y u v sb I rx ry d
    obtain ⟨J, e, hJ, r1, r2, ha⟩ := d
    have hm : lowB e = true := by cases ha <;> rfl
    exact (flat 0).or (one 0) A pins s σ H x y u v sb I rx ry (low 0 hJ r1 r2 hm ha)
  | succ n ih =>
    intro A pins s σ H x y u v sb I rx ry d
    obtain ⟨J, e, hJ, r1, r2, ha⟩ := d
    have prs : ∀ {vs us : List V} {ds : List D}, RpL X.K J aN vs ds → RpL X.K J aN us ds → (∀ z ∈ ds, Alk L n z) → Prs (DD X.K L n) vs us H := by
      intro vs us ds p1 p2 hz
      refine ⟨p1.length.trans p2.length.symm, fun i a b h1 h2 => ?_⟩
      obtain ⟨d1, g1, q1⟩ := p1.get' h1
      obtain ⟨d2, g2, q2⟩ := p2.get' h2
      rw [g1] at g2
      cases g2
      exact ⟨J, d1, hJ, q1, q2, hz _ (List.mem_of_getElem? g1)⟩
    cases ha with
    | lst h =>
      obtain ⟨a, vs, rfl, h1, p1⟩ := r1.lst'
      obtain ⟨b, us, rfl, h2, p2⟩ := r2.lst'
      exact eqG_list mon_DD ih A pins s σ H _ _ u v sb I rx ry ⟨a, b, vs, us, rfl, rfl, hJ _ _ h1, hJ _ _ h2, prs p1 p2 h⟩
    | tup h =>
      obtain ⟨a, vs, rfl, h1, p1⟩ := r1.tup'
      obtain ⟨b, us, rfl, h2, p2⟩ := r2.tup'
      exact eqG_tup mon_DD ih A pins s σ H _ _ u v sb I rx ry ⟨a, b, vs, us, rfl, rfl, SqT.le h1 hJ, SqT.le h2 hJ, prs p1 p2 h⟩
    | non => exact (flat (n + 1)).or (one (n + 1)) A pins s σ H x y u v sb I rx ry (low (n + 1) hJ r1 r2 rfl (.non _))
    | bl => exact (flat (n + 1)).or (one (n + 1)) A pins s σ H x y u v sb I rx ry (low (n + 1) hJ r1 r2 rfl (.bl _ _))
    | int => exact (flat (n + 1)).or (one (n + 1)) A pins s σ H x y u v sb I rx ry (low (n + 1) hJ r1 r2 rfl (.int _ _))
    | str => exact (flat (n + 1)).or (one (n + 1)) A pins s σ H x y u v sb I rx ry (low (n + 1) hJ r1 r2 rfl (.str _ _))
    | ins _ h g => exact (flat (n + 1)).or (one (n + 1)) A pins s σ H x y u v sb I rx ry (low (n + 1) hJ r1 r2 rfl (.ins _ h g))
end
end DL
namespace DL
open PySem PySem.Spec L2
/-! no cell within -/
mutual
def noM : D → Bool
  | .m _ => false
  | .lst xs => noML xs
  | .tup xs => noML xs
  | .rol xs => noML xs
  | .ins _ fs => noMF fs
  | .exc _ _ _ fs => noMF fs
  | _ => true
def noML : List D → Bool
  | [] => true
  | x :: xs => noM x && noML xs
def noMF : List (Str × D) → Bool
  | [] => true
  | (_, x) :: xs => noM x && noMF xs
end
section
variable {K : PySem.W.Frag} {I : Hp} {α β : Am}
mutual
theorem Rp.noM : ∀ {v d}, noM d = true → Rp K I α v d → Rp K I β v d
  | _, _, _, .non => .non
  | _, _, _, .bl b => .bl b
  | _, _, _, .int i => .int i
  | _, _, _, .str x => .str x
  | _, _, h, .lst p r => .lst p (RpL.noM (by simpa [DL.noM] using h) r)
  | _, _, h, .rol p r => .rol p (RpL.noM (by simpa [DL.noM] using h) r)
  | _, _, h, .tup p r g => .tup p (RpL.noM (by simpa [DL.noM] using h) r) g
  | _, _, h, .ins p r => .ins p (RpF.noM (by simpa [DL.noM] using h) r)
  | _, _, _, .cv v => .cv v
  | _, _, h, .exc p r => .exc p (RpF.noM (by simpa [DL.noM] using h) r)
  | _, _, h, .m _ => by simp [DL.noM] at h
theorem RpL.noM : ∀ {vs ds}, noML ds = true → RpL K I α vs ds → RpL K I β vs ds
  | _, _, _, .nil => .nil
  | _, _, h, .cons p r => .cons (Rp.noM (by simp [noML] at h; exact h.1) p) (RpL.noM (by simp [noML] at h; exact h.2) r)
theorem RpF.noM : ∀ {vs ds}, noMF ds = true → RpF K I α vs ds → RpF K I β vs ds
  | _, _, _, .nil => .nil
  | _, _, h, .cons p r => .cons (Rp.noM (by simp [noMF] at h; exact h.1) p) (RpF.noM (by simp [noMF] at h; exact h.2) r)
end
end
theorem noML_mem : ∀ {xs : List D}, (∀ x ∈ xs, noM x = true) → noML xs = true
  | [], _ => rfl
  | x :: xs, h => by
    rw [noML, h x (List.mem_cons_self ..), noML_mem fun y hy => h y (List.mem_cons_of_mem _ hy)]
    rfl
theorem noML_map {A : Type} {f : A → D} {l : List A} (h : ∀ x ∈ l, noM (f x) = true) : noML (l.map f) = true := noML_mem fun x hx => by
  obtain ⟨y, hy, rfl⟩ := List.mem_map.mp hx
  exact h y hy
@[simp] theorem noML_ints {l : List Int} : noML (l.map D.int) = true := noML_map fun _ _ => rfl
/-- the top of what is compared -/
def topB (neg : Bool) : D → Bool
  | .lst _ => true
  | .tup _ => !neg
  | .ins _ _ => !neg
  | _ => false
def oEqX (neg : Bool) (L : List (Addr × DFn)) : DOp := fun S x y k => oEq neg S x y k ∨ (x = y ∧ topB neg x = true ∧ noM x = true ∧ Alk L 8 x ∧ k (.bl (!neg)))
def DTop (K : PySem.W.Frag) (L : List (Addr × DFn)) : Eqv := fun x y H => DList (DD K L 7) x y H ∨ DTup K (DD K L 7) x y H ∨ ∃ q ∈ L, DIns q.1 (InsR K q.1 q.2) x y H
def rEqX (K : PySem.W.Frag) (L : List (Addr × DFn)) : R2 := fun x y H Q => rEqU K x y H Q ∨ rEqG (DTop K L) x y H Q
def rNeX (K : PySem.W.Frag) (L : List (Addr × DFn)) : R2 := fun x y H Q => rNeU K x y H Q ∨ rNeG (DList (DD K L 7)) x y H Q
section
variable {X : Cx} {k : Nat} {L : List (Addr × DFn)}
theorem rc_ins {C : Addr} {m : DFn} (h : EqCal X k C m) : RcG X k (DIns C (InsR X.K C m)) := by
  obtain ⟨f, c, hM⟩ := h
  obtain ⟨fd, ps, ds, dvs, F, hbi, hds, hdd, hk⟩ := c.ex
  have h0 : dvs = [] := by
    have := (hdd.r (fun _ => none) aN).length
    simpa using this
  subst h0
  cases hds
  have F2 : FnOk X.prog X.w X.K X.mg X.base (L2.CX X.prog X.w) k f fd ps (spEq (InsR X.K C m)) := by
    have wk : ∀ vs H Q E, spEq (InsR X.K C m) vs H Q E → toSp X.K 2 m vs H Q E := by
      rintro vs H Q E ⟨a, b, rfl, ⟨I, fs, hI, ra, rb, hs⟩, q⟩
      refine ⟨rfl, ⟨I, aN, kN, H⟩, [.ins C fs, .ins C fs], fun z _ => z = .bl true, fun _ _ => False, rfl, ⟨hI, fun n c z => (nomatch z), fun n m p z => absurd rfl z, ⟨0, fun _ _ => rfl⟩⟩, .cons ra (.cons rb .nil), hs, fun d v w' hd l ok r => ?_, fun _ _ _ z => z.elim⟩
      subst hd
      rw [r.bl']
      exact q _ fun p o hp => l.hh p o hp fun n hn => absurd rfl hn
    exact ⟨fun vs H Q E g => F.len _ _ _ _ (wk _ _ _ _ g), fun A outer s H args us vs Q E hr e0 hb r g => F.run A outer s H args us vs Q E hr e0 hb r (wk _ _ _ _ g)⟩
  exact rcG_ins (E := fun _ _ _ => False) F2 hM.at_ hM.fn hbi fun pins σ H s e s' _ hq => by
    obtain ⟨_, _, _, _, _, _, _, _, _, _, _, _, _, z⟩ := hq
theorem rc_top (hL : ∀ q ∈ L, EqCal X k q.1 q.2) : RcG X (k + 8) (DTop X.K L) := fun A pins s σ H x y u v sb I rx ry d => by
  have e7 := eq_alk hL 7
  rcases d with d | d | ⟨q, hq, d⟩
  · exact rcG_list mon_DD e7 A pins s σ H x y u v sb I rx ry d
  · exact rcG_tup mon_DD e7 A pins s σ H x y u v sb I rx ry d
  · exact rc_ins (hL q hq) A pins s σ H x y u v (sb.mono (by omega)) I rx ry d
theorem op_eqX (hL : ∀ q ∈ L, EqCal X k q.1 q.2) (hr : Room (k + 8) X.A) (hu : X.A.units + 64 < cLine) : OpR X (compareOp .Eq) (rEqX X.K L) := (op_eqU hu).or (op_eqG (rc_top hL) hr)
theorem op_neX (hL : ∀ q ∈ L, EqCal X k q.1 q.2) (hr : Room (k + 8) X.A) (hu : X.A.units + 64 < cLine) : OpR X (compareOp .NotEq) (rNeX X.K L) := (op_neU hu).or (op_neG (rnG_list mon_DD (eq_alk hL 7)) hr)
end
section
variable {K : PySem.W.Frag} {L : List (Addr × DFn)}
theorem dd_prs {w : Wd} (ok : Ok K w) {vs us : List V} {ds : List D} {n : Nat} (p1 : RpL K w.I w.α vs ds) (p2 : RpL K w.I w.α us ds) (hn : noML ds = true) (hz : ∀ z ∈ ds, Alk L n z) : Prs (DD K L n) vs us w.H := by
  refine ⟨p1.length.trans p2.length.symm, fun i a b h1 h2 => ?_⟩
  have q1 : RpL K w.I aN vs ds := RpL.noM hn p1
  have q2 : RpL K w.I aN us ds := RpL.noM hn p2
  obtain ⟨d1, g1, r1⟩ := q1.get' h1
  obtain ⟨d2, g2, r2⟩ := q2.get' h2
  rw [g1] at g2
  cases g2
  exact ⟨w.I, d1, ok.sub, r1, r2, hz _ (List.mem_of_getElem? g1)⟩
theorem side_q {w : Wd} {H' : Hp} {Qd : D → Prop} {Q : VK} {b : Bool} (ok : Ok K w) (e : Ext w.H H') (h : Qd (.bl b)) (q : ∀ z v w', Qd z → Le w w' → w'.S = w.S → Ok K w' → Rp K w'.I w'.α v z → Q v w'.H) : Q (.bl b) H' :=
  q _ _ (w.side H') h (Le.side e) rfl (ok.side e) (.bl b)
theorem sem_eqX : SemOp K (rEqX K L) (oEqX false L) := by
  intro w x y d e Qd Q ok rx ry h q
  rcases h with h | ⟨rfl, ht, hn, ha, h⟩
  · exact .inl (sem_eq w x y d e Qd Q ok rx ry h q)
  refine .inr ⟨?_, fun H' he => side_q ok he h q⟩
  cases ha with
  | lst hz =>
    obtain ⟨a, vs, rfl, h1, p1⟩ := rx.lst'
    obtain ⟨b, us, rfl, h2, p2⟩ := ry.lst'
    exact .inl ⟨a, b, vs, us, rfl, rfl, ok.sub _ _ h1, ok.sub _ _ h2, dd_prs ok p1 p2 (by simpa [noM] using hn) hz⟩
  | tup hz =>
    obtain ⟨a, vs, rfl, h1, p1⟩ := rx.tup'
    obtain ⟨b, us, rfl, h2, p2⟩ := ry.tup'
    exact .inr (.inl ⟨a, b, vs, us, rfl, rfl, ok.sqT h1, ok.sqT h2, dd_prs ok p1 p2 (by simpa [noM] using hn) hz⟩)
  | ins _ hm hs =>
    obtain ⟨a, dx, vs, rfl, h1, p1⟩ := rx.ins'
    obtain ⟨b, dy, us, rfl, h2, p2⟩ := ry.ins'
    exact .inr (.inr ⟨_, hm, a, b, dx, dy, vs, us, rfl, rfl, ok.sub _ _ h1, ok.sub _ _ h2, w.I, _, ok.sub, Rp.noM hn rx, Rp.noM hn ry, hs⟩)
  | _ => cases ht
theorem sem_neX : SemOp K (rNeX K L) (oEqX true L) := by
  intro w x y d e Qd Q ok rx ry h q
  rcases h with h | ⟨rfl, ht, hn, ha, h⟩
  · exact .inl (sem_ne w x y d e Qd Q ok rx ry h q)
  refine .inr ⟨?_, fun H' he => side_q ok he h q⟩
  cases ha with
  | lst hz =>
    obtain ⟨a, vs, rfl, h1, p1⟩ := rx.lst'
    obtain ⟨b, us, rfl, h2, p2⟩ := ry.lst'
    exact ⟨a, b, vs, us, rfl, rfl, ok.sub _ _ h1, ok.sub _ _ h2, dd_prs ok p1 p2 (by simpa [noM] using hn) hz⟩
  | _ => cases ht
end
/-- at data and itself -/
theorem eqX_self {neg : Bool} {L : List (Addr × DFn)} {S : Sto} {d : D} {k : D → Prop} (ha : Alk L 8 d) (hn : noM d = true) (ht : neg = false ∨ topB true d = true) (h : k (.bl (!neg))) : oEqX neg L S d d k := by
  cases ha with
  | non => exact .inl (by cases neg <;> exact h)
  | bl _ b => exact .inl (by cases neg <;> simpa [oEq] using h)
  | int _ b => exact .inl (by cases neg <;> simpa [oEq] using h)
  | str _ b => exact .inl (by cases neg <;> simpa [oEq] using h)
  | ins _ a b => exact .inr ⟨rfl, by cases neg <;> simp_all [topB], hn, .ins _ a b, h⟩
  | lst a => exact .inr ⟨rfl, by cases neg <;> rfl, hn, .lst a, h⟩
  | tup a => exact .inr ⟨rfl, by cases neg <;> simp_all [topB], hn, .tup a, h⟩
theorem eqX_of {neg : Bool} {L : List (Addr × DFn)} {S : Sto} {d e : D} {k : D → Prop} (h : oEq neg S d e k) : oEqX neg L S d e k := .inl h
end DL
namespace DL
open PySem PySem.Spec L2
theorem Cal.lift {P : Program} {w0 : World} {K : PySem.W.Frag} {mg : Str → Option Value} {base : Heap} {j k n : Nat} {f : Addr} {m : DFn} {dd : List D} (c : Cal P w0 K mg base j f n m dd) (h : j ≤ k) : Cal P w0 K mg base k f n m dd := by
  obtain ⟨fd, ps, ds, dvs, F, b, v, d, kp⟩ := c.ex
  exact ⟨fd, ps, ds, dvs, F.mono h, b, v, d, kp⟩
end DL
namespace DL
open PySem PySem.Spec L2
/-! ## 50. a, b = x, y; a, b, c = x, y, z -/
def dPar (i j : Nat) (ta : DA) : DS := fun B δ S => ta δ S (fun us S1 => match us with
  | [d, e] => B.nx ((δ.set i (some d)).set j (some e)) S1
  | _ => False) (fun er S1 => B.ex er δ S1)
def dPar3 (i j l : Nat) (ta : DA) : DS := fun B δ S => ta δ S (fun us S1 => match us with
  | [d, e, f] => B.nx (((δ.set i (some d)).set j (some e)).set l (some f)) S1
  | _ => False) (fun er S1 => B.ex er δ S1)
section
variable {X : Cx} {W : WX} {st : Stmt} {ta : DA} {i j l : Nat}
theorem ds_par (h : PS X st (tPar i j (toA X.K W ta))) : PS X st (toS X.K W (dPar i j ta)) := simp' h fun D σ H ⟨w, δ, B, hH, ok, lo, t, r⟩ => by
  subst hH
  refine ⟨w, δ, _, _, rfl, ok, lo, t, fun us vs w1 t1 l1 ok1 r1 => ?_, r.eC lo⟩
  match us, t1, r1 with
  | [d, e], t1, r1 =>
    obtain ⟨v, u, rfl, h1, h2⟩ := r1.two'
    exact ⟨v, u, rfl, r.nx _ _ w1 t1 l1 ok1 (((lo.up l1).set i h1).set j h2)⟩
theorem ds_par3 (h : PS X st (tPar3 i j l (toA X.K W ta))) : PS X st (toS X.K W (dPar3 i j l ta)) := simp' h fun D σ H ⟨w, δ, B, hH, ok, lo, t, r⟩ => by
  subst hH
  refine ⟨w, δ, _, _, rfl, ok, lo, t, fun us vs w1 t1 l1 ok1 r1 => ?_, r.eC lo⟩
  match us, t1, r1 with
  | [d, e, f], t1, .cons h1 (.cons h2 (.cons h3 .nil)) =>
    exact ⟨_, _, _, rfl, r.nx _ _ w1 t1 l1 ok1 ((((lo.up l1).set i h1).set j h2).set l h3)⟩
end
def qPar (i j : Nat) (B : DEnds) (δ : Lo) : QL := fun us S1 => match us with
  | [d, e] => B.nx ((δ.set i (some d)).set j (some e)) S1
  | _ => False
def qPar3 (i j l : Nat) (B : DEnds) (δ : Lo) : QL := fun us S1 => match us with
  | [d, e, f] => B.nx (((δ.set i (some d)).set j (some e)).set l (some f)) S1
  | _ => False
section
variable {B : DEnds} {δ : Lo} {S : Sto} {ta : DA} {i j l : Nat} {d e f : D}
@[simp] theorem ev_par : dPar i j ta B δ S = ta δ S (qPar i j B δ) (eB B δ) := rfl
@[simp] theorem ev_par3 : dPar3 i j l ta B δ S = ta δ S (qPar3 i j l B δ) (eB B δ) := rfl
@[simp] theorem ev_qpar : qPar i j B δ [d, e] S = B.nx ((δ.set i (some d)).set j (some e)) S := rfl
@[simp] theorem ev_qpar3 : qPar3 i j l B δ [d, e, f] S = B.nx (((δ.set i (some d)).set j (some e)).set l (some f)) S := rfl
end
end DL

set_option maxHeartbeats 4000000
/-! ## 51. < of nested data, in of nested data -/
namespace DL
open PySem PySem.Spec L2
section
variable {K : PySem.W.Frag}
theorem pln_dp {w : Wd} {v : V} {d : D} {n : Nat} (ok : Ok K w) (r : Rp K w.I w.α v d) (h : pln n d = true) : Dp K w.H v (pyOf d) := dp_of ok.sub d v r (pln_py n d h).1
theorem plnL_dp {w : Wd} {vs : List V} {ds : List D} {n : Nat} (ok : Ok K w) (r : RpL K w.I w.α vs ds) (h : plnL n ds = true) : DpAll K w.H vs (pyOfL ds) := dps_of ok.sub ds vs r (plnL_py n ds h).1
end
/-- <, of whole numbers and of alike data -/
def oLtD : DOp := fun S x y k => match x, y with
  | .int i, .int j => k (.bl (decide (i < j)))
  | _, _ => pln 60 x = true ∧ pln 60 y = true ∧ PySem.W.alike (pyOf x) (pyOf y) = true ∧ pyOf x ≠ .none ∧ k (.bl (PySem.W.dataLt (pyOf x) (pyOf y)))
def rLtN (K : PySem.W.Frag) : R2 := fun x y H Q => ∃ d e, Dp K H x d ∧ Dp K H y e ∧ PySem.W.alike d e = true ∧ d ≠ .none ∧ d.depth ≤ 60 ∧ Q (.bl (PySem.W.dataLt d e)) H
theorem op_ltN {X : Cx} (hu : X.A.units + 64 < cLine) : OpR X (compareOp .Lt) (rLtN X.K) := by
  intro pins s σ H x y v u Q I rx ry h
  obtain ⟨d, e, hd, he, ha, hn, hdep, q⟩ := h
  obtain ⟨as, r1⟩ := Dp.reads I d x v hd rx
  obtain ⟨bs, r2⟩ := Dp.reads I e y u he ry
  exact PySem.W.rcLt_alike d e X.A s v u as bs r1 r2 ha hn (by omega) X.prog X.w X.xe _ ⟨.bl _, H, I, rfl, q⟩
def rLtD (K : PySem.W.Frag) : R2 := fun x y H Q => rI0 (fun i j => .bl (decide (i < j))) x y H Q ∨ rLtN K x y H Q
theorem op_ltD {X : Cx} (hu : X.A.units + 64 < cLine) : OpR X (compareOp .Lt) (rLtD X.K) := op_lt.or (op_ltN hu)
theorem sem_ltD {K : PySem.W.Frag} : SemOp K (rLtD K) oLtD := by
  intro w x y d e Qd Q ok rx ry h q
  have gen : (pln 60 d = true ∧ pln 60 e = true ∧ PySem.W.alike (pyOf d) (pyOf e) = true ∧ pyOf d ≠ .none ∧ Qd (.bl (PySem.W.dataLt (pyOf d) (pyOf e)))) → rLtD K x y w.H Q := fun ⟨p1, p2, ha, hn, h⟩ =>
    .inr ⟨_, _, pln_dp ok rx p1, pln_dp ok ry p2, ha, hn, (pln_py 60 d p1).2.1, q _ _ w h (.refl w) rfl ok (.bl _)⟩
  cases d with
  | int i =>
    cases e with
    | int j =>
      cases rx; cases ry
      exact .inl ⟨i, j, rfl, rfl, q _ _ w h (.refl w) rfl ok (.bl _)⟩
    | _ => exact gen h
  | _ => exact gen h
/-- x in xs, by ==, of plain data -/
def oInD (neg : Bool) : DOp := fun S x y k => opt (asSq S y) fun ds => pln 60 x = true ∧ plnL 60 ds = true ∧ k (.bl (neg ^^ ds.any fun e => PyData.eqv (pyOf e) (pyOf x)))
def rInD (K : PySem.W.Frag) (neg : Bool) : R2 := fun x y H Q => ∃ p xs es d, y = .ref p ∧ (SqL K H p xs ∨ SqT K H p xs) ∧ Dp K H x d ∧ DpAll K H xs es ∧ d.canLay0 = true ∧ d.depth ≤ 60 ∧ PyData.canLayAll0 es = true ∧ Q (.bl (neg ^^ es.any fun e => PyData.eqv e d)) H
theorem any_reads {h : Heap} {d : PyData} : ∀ {es : List PyData} {us : List Value} {as : List Addr}, ReadsAll h us es as → PyData.canLayAll0 es = true → ∀ e : Value → Bool, (∀ v e0 as0, Reads h v e0 as0 → e0.canLay0 = true → e v = PyData.eqv e0 d) → us.any e = es.any fun e => PyData.eqv e d
  | [], _, _, .nil, _, _, _ => rfl
  | x :: es, _, _, .cons r rs, hc, e, he => by
    have hc' : x.canLay0 = true ∧ PyData.canLayAll0 es = true := by simpa [PyData.canLayAll0] using hc
    rw [List.any_cons, List.any_cons, he _ _ _ r hc'.1, any_reads rs hc'.2 e he]
theorem mem_reads {h : Heap} : ∀ {es : List PyData} {us : List Value} {as : List Addr} {v : Value}, ReadsAll h us es as → PyData.canLayAll0 es = true → v ∈ us → ∃ e0 as0, Reads h v e0 as0 ∧ e0.canLay0 = true
  | _, _, _, _, .nil, _, hv => by cases hv
  | x :: es, _, _, v, .cons r rs, hc, hv => by
    have hc' : x.canLay0 = true ∧ PyData.canLayAll0 es = true := by simpa [PyData.canLayAll0] using hc
    rcases List.mem_cons.mp hv with rfl | hv
    · exact ⟨_, _, r, hc'.1⟩
    · exact mem_reads rs hc'.2 hv
open Classical in
noncomputable def eqW (h : Heap) (d : PyData) (v : Value) : Bool := decide (∃ e0 as0, Reads h v e0 as0 ∧ e0.canLay0 = true ∧ PyData.eqv e0 d = true)
open Classical in
theorem eqW_at {h : Heap} {d e0 : PyData} {v : Value} {as0 : List Addr} (r : Reads h v e0 as0) (hc : e0.canLay0 = true) : eqW h d v = PyData.eqv e0 d := by
  unfold eqW
  cases e : PyData.eqv e0 d with
  | true => exact decide_eq_true ⟨e0, as0, r, hc, e⟩
  | false =>
    refine decide_eq_false ?_
    rintro ⟨e1, as1, r1, hc1, q⟩
    rw [SeqAt.Reads.unique e1 e0 v as1 as0 hc1 r1 r, e] at q
    cases q
theorem op_inN {X : Cx} (hu : X.A.units + 64 < cLine) : OpR X (compareOp .In) (rInD X.K false) := by
  intro pins s σ H x y v u Q I rx ry h
  obtain ⟨p, xs, es, d, rfl, hq, hd, hes, hc, hdep, hcs, q⟩ := h
  obtain ⟨as, r1⟩ := Dp.reads I d x v hd rx
  cases ry
  have at_ : ∀ {its : List Value}, Vals xs its → (∀ w, w ∈ its → SeqAt.EqAt X.A.in1 s w v (eqW s.heap d w)) ∧ its.any (eqW s.heap d) = es.any fun e => PyData.eqv e d := by
    intro its r
    obtain ⟨bs, rs⟩ := Dp.readsAll I es xs its hes r
    refine ⟨fun w hw => ?_, any_reads rs hcs _ fun w e0 as0 r0 h0 => eqW_at r0 h0⟩
    obtain ⟨e0, as0, r0, h0⟩ := mem_reads rs hcs hw
    rw [eqW_at r0 h0]
    exact SeqAt.eqAt_reads e0 d X.A.in1 s w v as0 as r0 r1 h0 hc (by show X.A.units + 1 + _ < _; omega)
  rcases hq with hq | hq
  · obtain ⟨its, r, pl, hz⟩ := I.list hq
    obtain ⟨a1, a2⟩ := at_ r
    refine SeqAt.in_listAt (eqW s.heap d) pl.isList (fun w hw => a1 w (by simpa using hw)) ⟨.bl _, H, I, rfl, ?_⟩
    rw [show its.toArray.any (eqW s.heap d) = its.any (eqW s.heap d) by simp, a2]
    simpa using q
  · obtain ⟨its, r, pl, hz⟩ := I.tuple hq
    obtain ⟨a1, a2⟩ := at_ r
    refine SeqAt.in_tupleAt (eqW s.heap d) pl (fun w hw => a1 w (by simpa using hw)) ⟨.bl _, H, I, rfl, ?_⟩
    rw [show its.toArray.any (eqW s.heap d) = its.any (eqW s.heap d) by simp, a2]
    simpa using q
theorem op_notInN {X : Cx} (hu : X.A.units + 64 < cLine) : OpR X (compareOp .NotIn) (rInD X.K true) := by
  intro pins s σ H x y v u Q I rx ry h
  obtain ⟨p, xs, es, d, rfl, hq, hd, hes, hc, hdep, hcs, q⟩ := h
  obtain ⟨as, r1⟩ := Dp.reads I d x v hd rx
  cases ry
  have at_ : ∀ {its : List Value}, Vals xs its → (∀ w, w ∈ its → SeqAt.EqAt X.A.in1 s w v (eqW s.heap d w)) ∧ its.any (eqW s.heap d) = es.any fun e => PyData.eqv e d := by
    intro its r
    obtain ⟨bs, rs⟩ := Dp.readsAll I es xs its hes r
    refine ⟨fun w hw => ?_, any_reads rs hcs _ fun w e0 as0 r0 h0 => eqW_at r0 h0⟩
    obtain ⟨e0, as0, r0, h0⟩ := mem_reads rs hcs hw
    rw [eqW_at r0 h0]
    exact SeqAt.eqAt_reads e0 d X.A.in1 s w v as0 as r0 r1 h0 hc (by show X.A.units + 1 + _ < _; omega)
  rcases hq with hq | hq
  · obtain ⟨its, r, pl, hz⟩ := I.list hq
    obtain ⟨a1, a2⟩ := at_ r
    refine SeqAt.notIn_listAt (eqW s.heap d) pl.isList (fun w hw => a1 w (by simpa using hw)) ⟨.bl _, H, I, rfl, ?_⟩
    rw [show its.toArray.any (eqW s.heap d) = its.any (eqW s.heap d) by simp, a2]
    simpa using q
  · obtain ⟨its, r, pl, hz⟩ := I.tuple hq
    obtain ⟨a1, a2⟩ := at_ r
    refine SeqAt.notIn_tupleAt (eqW s.heap d) pl (fun w hw => a1 w (by simpa using hw)) ⟨.bl _, H, I, rfl, ?_⟩
    rw [show its.toArray.any (eqW s.heap d) = its.any (eqW s.heap d) by simp, a2]
    simpa using q
theorem sem_inDD {K : PySem.W.Frag} {neg : Bool} : SemOp K (rInD K neg) (oInD neg) := by
  intro w x y d e Qd Q ok rx ry h q
  obtain ⟨ds, hd, h1, h2, h⟩ := opt_of h
  obtain ⟨p, vs, rfl, hp, r⟩ := asSq_sem ok ry hd
  obtain ⟨c1, c2, _⟩ := pln_py 60 d h1
  have e9 : ((pyOfL ds).any fun e => PyData.eqv e (pyOf d)) = ds.any fun e => PyData.eqv (pyOf e) (pyOf d) := by
    clear hd h2 r h
    induction ds with
    | nil => rfl
    | cons a l ih => rw [pyOfL, List.any_cons, List.any_cons, ih]
  refine ⟨p, vs, pyOfL ds, pyOf d, rfl, hp, pln_dp ok rx h1, plnL_dp ok r h2, c1, c2, (plnL_py 60 ds h2).1, ?_⟩
  rw [e9]
  exact q _ _ w h (.refl w) rfl ok (.bl _)
end DL
namespace DL
section
variable {S : Sto} {i j : Int} {k : D → Prop}
@[simp] theorem ltD_int : oLtD S (.int i) (.int j) k = k (.bl (decide (i < j))) := rfl
theorem inD_sq {neg : Bool} {x d : D} {ds : List D} (h : asSq S d = some ds) (h1 : pln 60 x = true) (h2 : plnL 60 ds = true) : oInD neg S x d k = k (.bl (neg ^^ ds.any fun e => PySem.PyData.eqv (pyOf e) (pyOf x))) := by
  show opt (asSq S d) _ = _
  rw [h]
  exact propext ⟨fun h => h.2.2, fun h => ⟨h1, h2, h⟩⟩
end
end DL
namespace DL
/-- whole numbers, and tuples of these -/
inductive Ti : Nat → D → Prop
  | int (n i) : Ti n (.int i)
  | tup {n xs} (h : ∀ x ∈ xs, Ti n x) (l : xs.length ≤ 1000000) : Ti (n + 1) (.tup xs)
theorem Ti.up {n : Nat} {d : D} (h : Ti n d) : ∀ {m : Nat}, n ≤ m → Ti m d := by
  induction h with
  | int => intro m _; exact .int _ _
  | tup _ l ih => intro m hm; cases m with | zero => omega | succ m => exact .tup (fun x hx => ih x hx (by omega)) l
theorem Ti.ints {n : Nat} {l : List Int} (h : l.length ≤ 1000000) : Ti (n + 1) (.tup (l.map .int)) := .tup (fun x hx => by obtain ⟨y, _, rfl⟩ := List.mem_map.mp hx; exact .int _ _) (by simpa using h)
theorem Ti.map {A : Type} {n : Nat} {f : A → D} {l : List A} (h : ∀ x ∈ l, Ti n (f x)) (hl : l.length ≤ 1000000) : Ti (n + 1) (.tup (l.map f)) := .tup (fun x hx => by obtain ⟨y, hy, rfl⟩ := List.mem_map.mp hx; exact h y hy) (by simpa using hl)
/-- what the law compares it finds alike -/
def pSameI (r : Nat) : DFn := fun us S Q _ => match us with
  | [a, b] => a = b ∧ Ti r b ∧ Q (.bl true) S
  | _ => False
@[simp] theorem ev_pSameI {r : Nat} {a b : D} {S : Sto} {Q : QD} {E : QE} : pSameI r [a, b] S Q E = (a = b ∧ Ti r b ∧ Q (.bl true) S) := rfl
end DL
namespace DL
open PySem L2
section
variable {kp : Sto → Prop} {g : DG} {body : DS} {B : DEnds}
/-- for k, x in enumerate(xs) -/
theorem lp_enum (xs : List D) (Inv : Nat → Lo → Sto → Prop) (hk : ∀ k δ S, Inv k δ S → kp S)
    (step : ∀ k δ S (hk : k < xs.length), Inv k δ S → ∀ B1 : DEnds, B1.rt = B.rt → B1.ex = B.ex → B1.bk = B.nx → (∀ δ2 S2, Inv (k + 1) δ2 S2 → B1.nx δ2 S2) → (∀ δ2 S2, Inv (k + 1) δ2 S2 → B1.ct δ2 S2) → g (.tup [.int (k : Int), xs[k]]) δ S fun δ1 S1 => body B1 δ1 S1)
    (fin : ∀ δ S, Inv xs.length δ S → B.nx δ S) {δ : Lo} {S : Sto} (h : Inv 0 δ S) : dLoop kp g body (enumD 0 xs) B δ S := by
  refine lp_inv (fun ds δ' S' => ∃ k, k ≤ xs.length ∧ ds = enumD k (xs.drop k) ∧ Inv k δ' S') ?_ ?_ ?_ _ _ _ ⟨0, by omega, by simp, h⟩
  · rintro ds δ S ⟨k, _, _, h⟩
    exact hk _ _ _ h
  · rintro d ds δ S ⟨k, hkn, e, h⟩ B1 b1 b2 b3 b4 b5
    have hlt : k < xs.length := by
      have := congrArg List.length e
      rw [enumD_len, List.length_cons, List.length_drop] at this
      omega
    rw [List.drop_eq_getElem_cons hlt] at e
    obtain ⟨rfl, rfl⟩ := List.cons.inj e
    exact step k δ S hlt h B1 b1 b2 b3 (fun δ2 S2 q => b4 _ _ ⟨k + 1, by omega, rfl, q⟩) (fun δ2 S2 q => b5 _ _ ⟨k + 1, by omega, rfl, q⟩)
  · rintro δ S ⟨k, hkn, e, h⟩
    have : k = xs.length := by
      have := congrArg List.length e
      rw [enumD_len, List.length_nil, List.length_drop] at this
      omega
    subst this
    exact fin _ _ h
end
theorem getD_map {A B : Type} {f : A → B} {l : List A} {k : Nat} {z : A} (h : k < l.length) : (l.map f)[k]'(by simpa using h) = f (l.getD k z) := by
  rw [List.getElem_map, List.getD_eq_getElem?_getD, List.getElem?_eq_getElem h]; rfl
theorem getD_mem {A : Type} {l : List A} {k : Nat} {z : A} (h : k < l.length) : l.getD k z ∈ l := by
  rw [List.getD_eq_getElem?_getD, List.getElem?_eq_getElem h]; exact List.getElem_mem _
theorem at_mapN {A : Type} {f : A → D} {l : List A} {k : Nat} {z : A} (h : k < l.length) : L2.atI (l.map f) (k : Int) = some (f (l.getD k z)) := by
  rw [at_nat (List.getElem?_eq_getElem (by simpa using h)), getD_map h]
theorem at_mapI {A : Type} {f : A → D} {l : List A} {j : Int} {z : A} (h0 : 0 ≤ j) (h1 : j < l.length) : L2.atI (l.map f) j = some (f (l.getD j.toNat z)) ∧ l.getD j.toNat z ∈ l := by
  have := at_mapN (f := f) (z := z) (show j.toNat < l.length by omega)
  rw [show ((j.toNat : Nat) : Int) = j by omega] at this
  exact ⟨this, getD_mem (by omega)⟩
end DL

set_option maxHeartbeats 4000000
/-! ## 52. xs.extend(t), t a tuple -/
namespace L2
open PySem PySem.Spec
open AutoSeq1 (wpAny_loadPart')
section
open AutoSeq1
theorem extend_tupG (l : Addr) (us : Array Value) (n : Nat) (b : Addr) (vs : Array Value) (m : Nat) (dd : Option Addr) (sl : Array (Option Value)) (h0 : ¬(!us.isEmpty && Builtin.List.listTooLong (us.size + vs.size)) = true) (h1 : us.size ≤ sizeLine) (h2 : us.size + vs.size ≤ sizeLine + 1) :
    Meets (Builtin.«list.extend» ⟨[.ref l, .ref b], []⟩) (fun _ R s => s.heap.get? l = some { cls := .type "list", dict := none, data := .seq us n, slots := #[] } ∧ s.heap.get? b = some { cls := .type "tuple", dict := dd, data := .seq vs m, slots := sl } ∧ R (.ok (.ret Value.none)) { s with heap := s.heap.update l (Obj.mapSeq fun x => x ++ vs), toks := s.toks }) :=
  .of_wp fun prog w A R s h => by
    obtain ⟨hp, g, d, tk, os⟩ := s
    obtain ⟨p1, p2, h⟩ := h
    have f1 := idx_int
    have f2 := sub_tuple_tuple
    have f3 := sub_list_list
    have f4 := sub_tuple_list
    have f5 := sub_list_tuple
    have hz : (us ++ vs).size ≤ sizeLine + 1 := by rw [Array.size_append]; exact h2
    wp_walk using (wpAny_updateSeq p1 rfl (hz := h1) (_hz' := hz)), wpAny_loadPart' p1, wpAny_loadPart' p2
    exact ⟨_, rfl, h⟩
end
def rExtendT (K : PySem.W.Frag) : V → List V → Hp → VK → Prop := fun x vs H Q => ∃ l b xs zs, x = .ref l ∧ vs = [.ref b] ∧ H l = some (.lst xs) ∧ SqT K H b zs ∧ xs.length + zs.length ≤ sizeLine ∧ Q .non (upd H l (.lst (xs ++ zs)))
section
variable {X : Cx}
theorem mt_extendT : MtM X "list.extend" (rExtendT X.K) := by
  intro pins s σ H x vs v us Q I rx rv h
  obtain ⟨l, b, xs, zs, rfl, rfl, hH, hB, hz, q⟩ := h
  cases rx
  obtain ⟨u, rfl, ru⟩ := rv.one
  cases ru
  obtain ⟨z, its, n, r, hl, e⟩ := I.lstM hH
  obtain ⟨its2, r2, ht, hz2⟩ := I.tuple hB
  obtain ⟨⟨cls, dd, data, sl⟩, ho, hc, m, hd⟩ := id ht
  simp only at hc hd
  subst hc hd
  have l2 := r2.length
  have l1 := r.length
  have hsz : its.toArray.size + its2.toArray.size ≤ sizeLine := by rw [List.size_toArray, List.size_toArray]; omega
  have long : ¬ (!its.toArray.isEmpty && Builtin.List.listTooLong (its.toArray.size + its2.toArray.size)) = true := by
    rw [notLongL hsz, Bool.and_false]
    simp
  refine call_meets F.slot_list_extend ⟨_, e, rfl⟩ F.entry_list_extend (F.args_list_extend_2 _ _) (extend_tupG l its.toArray n b its2.toArray m dd sl long (by omega) (by omega)) ⟨e, ho, ?_⟩
  refine ⟨.non, _, I.lset (its' := its ++ its2) hH e (by simp) (r.append r2) ?_, rfl, q⟩
  rw [List.length_append]
  omega
end
end L2
namespace DL
open PySem PySem.Spec L2
def exSq (S : Sto) : D → Option (List D)
  | .tup ds => some ds
  | d => asL S d
theorem exSq_sem {K : PySem.W.Frag} {w : Wd} {v : V} {d : D} {ds : List D} (ok : Ok K w) (r : Rp K w.I w.α v d) (h : exSq w.S d = some ds) : ∃ p vs, v = .ref p ∧ (w.H p = some (.lst vs) ∨ SqT K w.H p vs) ∧ RpL K w.I w.α vs ds := by
  cases d with
  | tup xs =>
    cases h
    obtain ⟨p, vs, rfl, hp, r⟩ := r.tup'
    exact ⟨p, vs, rfl, .inr (ok.sqT hp), r⟩
  | _ =>
    obtain ⟨p, vs, e, hp, r⟩ := asL_sem ok r h
    exact ⟨p, vs, e, .inl hp, r⟩
def rExtU (K : PySem.W.Frag) : V → List V → Hp → VK → Prop := fun x vs H Q => rExtend x vs H Q ∨ rExtendT K x vs H Q
theorem mt_extU {X : Cx} : MtM X "list.extend" (rExtU X.K) := fun pins s σ H x vs v us Q I rx rv h => by
  rcases h with h | h
  · exact mt_extend pins s σ H x vs v us Q I rx rv h
  · exact mt_extendT pins s σ H x vs v us Q I rx rv h
/-- o.extend(e), e a list or a tuple -/
def extAK (n : Nat) (d : D) (Q : QD) (S : Sto) : Prop := ∃ ds, S n = some (.lst ds) ∧ opt (exSq S d) fun es => ds.length + es.length ≤ sizeLine ∧ Q .non (put S n (.lst (ds ++ es)))
def qExtA2 (n : Nat) (Q : QD) : QD := fun d S2 => extAK n d Q S2
def qExtA1 (te : DE) (δ : Lo) (Q : QD) (E : QE) : QD := fun x S1 => match x with
  | .m n => (∃ ds, S1 n = some (.lst ds)) ∧ te δ S1 (qExtA2 n Q) E
  | _ => False
def dExtA (to te : DE) : DE := fun δ S Q E => to δ S (qExtA1 te δ Q E) E
section
variable {X : Cx} {W : WX} {o e : Expr} {to te : DE} {apos pos : Pos}
theorem de_extA (ho : PE X o (toE X.K W to)) (he : PE X e (toE X.K W te)) (hs : PE X o (toE X.K W to) → PE X e (toE X.K W te) → PE X (.Call (.Attribute o "extend" apos) [e] [] pos) (tBM X.K "list" (rExtU X.K) (toE X.K W to) (tCons (toE X.K W te) tNil)) := by intro ho he; exact pe_bm PySem.F.plainAttrs_list PySem.F.slot_list_extend PySem.F.type_list_extend mt_extU ho (pa_cons he pa_nil)) :
    PE X (.Call (.Attribute o "extend" apos) [e] [] pos) (toE X.K W (dExtA to te)) := pimp (hs ho he) fun σ H Q h => by
  obtain ⟨w, δ, Qd, Ed, rfl, ok, lo, t, q, ec⟩ := h
  refine ⟨w, δ, _, Ed, rfl, ok, lo, t, fun x v w1 t1 l1 ok1 r1 => ?_, ec⟩
  cases x with
  | m n =>
    obtain ⟨p, rfl, hp⟩ := r1.m'
    obtain ⟨⟨ds0, hs0⟩, t1⟩ := t1
    obtain ⟨vs0, h0, _⟩ := celL_at ok1 hs0 hp
    refine ⟨.inl ⟨rfl, vs0, SqL.of h0⟩, w1, δ, _, Ed, rfl, ok1, lo.up l1, t1, fun y u w2 t2 l2 ok2 r2 => ?_, ec.up l1⟩
    obtain ⟨ds, hd, t2⟩ := t2
    obtain ⟨es, he, hz, h⟩ := opt_of t2
    obtain ⟨vs, hv, rv⟩ := celL_at ok2 hd (l2.aa _ _ hp)
    obtain ⟨p2, us, rfl, hp2, ru⟩ := exSq_sem ok2 r2 he
    obtain ⟨l3, ok3⟩ := setL ok2 hd (l2.aa _ _ hp) (rv.append ru)
    have fin := q _ _ _ h ((l1.trans l2).trans l3) ok3 .non
    rcases hp2 with hp2 | hp2
    · exact .inl ⟨p, p2, vs, us, rfl, rfl, hv, hp2, by rw [rv.length, ru.length]; exact hz, fin⟩
    · exact .inr ⟨p, p2, vs, us, rfl, rfl, hv, hp2, by rw [rv.length, ru.length]; exact hz, fin⟩
  | _ => exact t1.elim
end
section
variable {δ : Lo} {S : Sto} {Q : QD} {E : QE} {ta tb : DE} {n : Nat} {d : D} {xs es : List D}
@[simp] theorem ev_extA : dExtA ta tb δ S Q E = ta δ S (qExtA1 tb δ Q E) E := rfl
@[simp] theorem ev_extA1 : qExtA1 tb δ Q E (.m n) S = ((∃ ds, S n = some (.lst ds)) ∧ tb δ S (qExtA2 n Q) E) := rfl
@[simp] theorem ev_extA2 : qExtA2 n Q d S = extAK n d Q S := rfl
theorem extA_at (h : S n = some (.lst xs)) (e : exSq S d = some es) : extAK n d Q S = (xs.length + es.length ≤ sizeLine ∧ Q .non (put S n (.lst (xs ++ es)))) := by
  unfold extAK
  rw [e, h]
  exact propext ⟨fun ⟨ds, e, h⟩ => by cases e; exact h, fun h => ⟨xs, rfl, h⟩⟩
end
end DL
namespace DL
open PySem L2
theorem gI_in {P : Int → Prop} {l : List Int} {j : Int} (h : ∀ x ∈ l, P x) (h0 : 0 ≤ j) (h1 : j < l.length) : P (gI l j) := by
  have hj : j.toNat < l.length := by omega
  have e := gI_eq hj
  rw [Int.toNat_of_nonneg h0] at e
  rw [e]
  exact h _ (List.getElem_mem _)
end DL
namespace DL
open PySem L2
theorem pop_map {A : Type} {f : A → D} {n : Nat} {j : Int} {Q : QD} {S : Sto} {l : List A} {z : A} (h0 : 0 ≤ j) (h1 : j < l.length) (h2 : l.length ≤ 1000000) : popI n j Q S (some (l.map f)) = Q (f (l.getD j.toNat z)) (put S n (.lst ((l.eraseIdx j.toNat).map f))) := by
  have e : seqIndex? j (l.map f).length = some j.toNat := by
    unfold seqIndex?
    have h3 : ¬ j < 0 := by omega
    simp [h3, h0, h1]
  have e2 : (l.map f)[j.toNat]? = some (f (l.getD j.toNat z)) := by
    have hj : j.toNat < l.length := by omega
    rw [List.getElem?_map, List.getD_eq_getElem?_getD, List.getElem?_eq_getElem hj]
    rfl
  rw [popI_s, e, opt_s, e2, opt_s, erase_map]
  exact propext ⟨fun h => h.2.2, fun h => ⟨by omega, by omega, h⟩⟩
end DL
namespace DL
open PySem L2
section
variable {kp : Sto → Prop} {g : DG} {c : DT} {elt : DE} {δ : Lo} {Qa : QL} {n : Nat} {S : Sto} {h0 : Cell}
/-- a comprehension whose turns draw: each item x gives a value that fits it -/
theorem lc_handR {A B : Type} (fa : A → D) (fb : B → D) (P : A → B → Prop) (xs : List A) (h : S n = some h0) (hh : Hn h0) (hk : ∀ c, Hn c → kp (put S n c)) (hl : xs.length ≤ 1000000)
    (step : ∀ x ∈ xs, ∀ c1 (R : QD) (N : Sto → Prop), Hn c1 → (∀ v c2, Hn c2 → P x v → R (fb v) (put S n c2)) → g (fa x) δ (put S n c1) (qLcT c elt R N))
    (q : ∀ (vs : List B) c1, Hn c1 → vs.length = xs.length → (∀ i (a : i < xs.length) (b : i < vs.length), P xs[i] vs[i]) → Qa (vs.map fb) (put S n c1)) : dLcL kp g c elt δ (xs.map fa) [] S Qa := by
  refine lc_inv (fun rs acc S' => ∃ (done todo : List A) (vs : List B) (c1 : Cell), xs = done ++ todo ∧ rs = todo.map fa ∧ acc = vs.map fb ∧ Hn c1 ∧ vs.length = done.length ∧ (∀ i (a : i < done.length) (b : i < vs.length), P done[i] vs[i]) ∧ S' = put S n c1) ?_ ?_ ?_ ?_ _ [] S ⟨[], xs, [], h0, rfl, rfl, rfl, hh, rfl, (fun i a => by simp at a), (put_del h).symm⟩
  · rintro rs acc S' ⟨_, _, vs, c1, _, _, _, hc, _, _, rfl⟩
    exact hk c1 hc
  · rintro d rs acc S' ⟨done, todo, vs, c1, e1, e2, rfl, hc, hl', _, _⟩
    have l1 := congrArg List.length e1
    have l2 := congrArg List.length e2
    simp at l1 l2
    have := sz' (n := vs.length) (by omega)
    rwa [List.length_map]
  · rintro d rs acc S' ⟨done, todo, vs, c1, e1, e2, rfl, hc, hl', hv, rfl⟩ R N hR hN
    cases todo with
    | nil => cases e2
    | cons x todo =>
      cases e2
      refine step x (by rw [e1]; simp) c1 R N hc fun v c2 hc2 hp => hR _ _ ⟨done ++ [x], todo, vs ++ [v], c2, by rw [e1]; simp, rfl, by simp, hc2, by simp; omega, fun i a b => ?_, rfl⟩
      by_cases e : i < done.length
      · have := hv i e (by omega)
        rw [List.getElem_append_left e, List.getElem_append_left (by omega)]
        exact this
      · have e3 : i = done.length := by simp at a; omega
        subst e3
        simp [hl'] at b ⊢
        exact hp
  · rintro acc S' ⟨done, todo, vs, c1, e1, e2, rfl, hc, hl', hv, rfl⟩
    obtain rfl : todo = [] := by cases todo with | nil => rfl | cons => cases e2
    rw [List.append_nil] at e1
    subst e1
    exact q vs c1 hc hl' hv
end
end DL

set_option maxHeartbeats 4000000
/-! ## 53. t * n for n at most 1 -/
namespace L2
open PySem PySem.Spec
open AutoSeq1 (wpAny_loadPart')
theorem tuple_mul1 (l : Addr) (us : Array Value) (m : Nat) (dd : Option Addr) (sl : Array (Option Value)) (u : Tok) :
    Meets (Builtin.«tuple.__mul__» ⟨[.ref l, .int 1 u], []⟩) (fun _ R s => s.heap.get? l = some { cls := .type "tuple", dict := dd, data := .seq us m, slots := sl } ∧ R (.ok (.ret (Value.ref l))) s) :=
  .of_wp fun prog w A R s h => by
    obtain ⟨hp, g, d, tk, os⟩ := s
    obtain ⟨hl, h⟩ := h
    have f1 := AutoSeq1.idx_int
    have c1 : (us.isEmpty || (1 : Int) == 1) = true := by simp
    wp_walk using wpAny_loadPart' hl
    exact ⟨_, rfl, h⟩
theorem tuple_mul0 (l : Addr) (us : Array Value) (m : Nat) (dd : Option Addr) (sl : Array (Option Value)) (u : Tok) (h1 : us.isEmpty = false) :
    Meets (Builtin.«tuple.__mul__» ⟨[.ref l, .int 0 u], []⟩) (fun _ R s => s.heap.get? l = some { cls := .type "tuple", dict := dd, data := .seq us m, slots := sl } ∧
      R (.ok (.ret (Value.ref s.heap.objs.size))) { s with heap := s.heap.push { cls := Value.type "tuple", data := Data.seq #[] }, toks := s.toks }) :=
  .of_wp fun prog w A R s h => by
    obtain ⟨hp, g, d, tk, os⟩ := s
    obtain ⟨hl, h⟩ := h
    have f1 := AutoSeq1.idx_int
    have c1 : (us.isEmpty || (0 : Int) == 1) = false := by simp [h1]
    have c2 : (decide ((0 : Int) ≤ 0) || us.isEmpty) = true := by simp
    wp_walk using wpAny_loadPart' hl
    exact ⟨_, rfl, h⟩
open PyProof.Rows in
/-- t * n, n 0 or 1 -/
def rRepS (K : PySem.W.Frag) : R2 := fun x y H Q => ∃ l k xs, x = .ref l ∧ y = .int k ∧ SqT K H l xs ∧ xs ≠ [] ∧ ((k = 1 ∧ Q (.ref l) H) ∨ (k = 0 ∧ ∀ p, H p = none → Q (.ref p) (upd H p (.tup []))))
section
variable {X : Cx}
open PyProof.Rows in
theorem op_repS : OpR X (binaryOp .Mult) (rRepS X.K) := by
  intro pins s σ H x y v u Q I rx ry h
  obtain ⟨l, k, xs, rfl, rfl, hT, hne, h⟩ := h
  cases rx
  obtain ⟨t, rfl⟩ := ry
  obtain ⟨its, r, ⟨⟨cls, dd, data, sl⟩, ho, hc, n, hd⟩, hs⟩ := I.tuple hT
  simp only at hc hd
  subst hc hd
  have hle : its.length = xs.length := r.length.symm
  have hi : its.toArray.isEmpty = false := by
    cases its with
    | nil => exact absurd (List.eq_nil_of_length_eq_zero hle.symm) hne
    | cons a b => rfl
  rcases h with ⟨rfl, q⟩ | ⟨rfl, q⟩
  · exact wpAny_binaryOp_repeat_ref (T := "tuple") (U := "int") (by decide) ⟨_, ho, rfl⟩ (fun s' => typeIs_int s' 1 t) noFill_tuple_mul F.fills_int_mul F.slot_int_rmul repeat_tuple F.slot_int_index.lookup
      (call_meets F.slot_int_rmul (typeIs_int s 1 t) F.entry_int_rmul (F.args_int_rmul_2 _ _) (int_rmul_tuple 1 t l its.toArray n dd sl)
        ⟨ho, rfl, ⟨_, ho, rfl⟩, call_meets F.slot_tuple_mul ⟨_, ho, rfl⟩ F.entry_tuple_mul (F.args_tuple_mul_2 _ _) (tuple_mul1 l its.toArray n dd sl t) ⟨ho, .ref l, H, I, rfl, q⟩⟩)
  · exact wpAny_binaryOp_repeat_ref (T := "tuple") (U := "int") (by decide) ⟨_, ho, rfl⟩ (fun s' => typeIs_int s' 0 t) noFill_tuple_mul F.fills_int_mul F.slot_int_rmul repeat_tuple F.slot_int_index.lookup
      (call_meets F.slot_int_rmul (typeIs_int s 0 t) F.entry_int_rmul (F.args_int_rmul_2 _ _) (int_rmul_tuple 0 t l its.toArray n dd sl)
        ⟨ho, rfl, ⟨_, ho, rfl⟩, call_meets F.slot_tuple_mul ⟨_, ho, rfl⟩ F.entry_tuple_mul (F.args_tuple_mul_2 _ _) (tuple_mul0 l its.toArray n dd sl t hi) ⟨ho, .ref s.heap.objs.size, _, I.laid (t' := s.toks) (o := .tup []) (fun b ob q => Heap.get?_push_of_some _ q) (Nat.le_refl _) ⟨Nat.zero_le _, _, .nil, IsTup.new _ _⟩, rfl, q _ (I.hok.fresh (Nat.le_refl _))⟩⟩)
end
end L2
namespace DL
open PySem PySem.Spec L2
/-- a * b, a tuple any number of times -/
def oMulT : DOp := fun S x y k => match x with
  | .tup a => (match y with | .int j => a ≠ [] ∧ 0 ≤ j ∧ j ≤ 1000 ∧ a.length ≤ 1000 ∧ k (.tup (List.replicate j.toNat a).flatten) | _ => False)
  | _ => oMul S x y k
def rMulT (K : PySem.W.Frag) : R2 := fun x y H Q => rMulU K x y H Q ∨ rRepS K x y H Q
theorem op_mulT {X : Cx} : OpR X (binaryOp .Mult) (rMulT X.K) := op_mulU.or op_repS
theorem sem_mulT {K : PySem.W.Frag} : SemOp K (rMulT K) oMulT := by
  intro w x y d e Qd Q ok rx ry h q
  cases d with
  | tup a =>
    cases e with
    | int j =>
      obtain ⟨h0, h2, h3, h4, h⟩ := h
      by_cases h5 : 2 ≤ j
      · exact .inl (sem_mul w x y (.tup a) (.int j) Qd Q ok rx ry ⟨h0, h5, h3, h4, h⟩ q)
      · cases ry
        obtain ⟨p, vs, rfl, hp, r1⟩ := rx.tup'
        refine .inr ⟨p, j, vs, rfl, rfl, ok.sqT hp, fun z => by subst z; cases r1; exact h0 rfl, ?_⟩
        rcases (by omega : j = 1 ∨ j = 0) with rfl | rfl
        · refine .inl ⟨rfl, ?_⟩
          have e : (List.replicate (1 : Int).toNat a).flatten = a := by simp
          rw [e] at h
          exact q _ _ w h (.refl w) rfl ok rx
        · exact .inr ⟨rfl, fun t ht => lay_tup (vs := []) (ds := []) ok .nil h q ht⟩
    | _ => exact h.elim
  | _ => exact .inl (sem_mul w x y _ e Qd Q ok rx ry h q)
section
variable {S : Sto} {k : D → Prop} {i j : Int} {xs : List D}
@[simp] theorem mulT_int : oMulT S (.int i) (.int j) k = ((CMul i j ∨ CMulW i j) ∧ k (.int (i * j))) := rfl
@[simp] theorem mulT_lst {y : D} : oMulT S (.lst xs) y k = oMul S (.lst xs) y k := rfl
@[simp] theorem mulT_tup : oMulT S (.tup xs) (.int j) k = (xs ≠ [] ∧ 0 ≤ j ∧ j ≤ 1000 ∧ xs.length ≤ 1000 ∧ k (.tup (List.replicate j.toNat xs).flatten)) := rfl
end
end DL

set_option maxHeartbeats 4000000
/-! ## 54. a, b, .. = a tuple or a list -/
namespace DL
open PySem PySem.Spec L2
def gAny (K : PySem.W.Frag) (n : Nat) (t : TGs) : TG := fun v σ H Q => gTup K n t v σ H Q ∨ gUnl K n t v σ H Q
theorem pg_any {X : Cx} {es : List Expr} {k : Nat} {t : TGs} {n : Nat} {pos : Pos} (hc : X.calm = true) (h : PGs X es t)
    (hn : (assignEach es X.env).length = n := by rfl) (hst : (assignEach es X.env).findIdx? (·.1) = none := by rfl) : PG X (.Tuple es k pos) (gAny X.K n t) := by
  refine ⟨fun pins s σ H v u Q I r hw => ?_⟩
  rcases hw with hw | hw
  · exact (pg_tup hc h hn hst).run pins s σ H v u Q I r hw
  · exact (pg_unl hc h hn hst).run pins s σ H v u Q I r hw
def gTA (is : List Nat) : DG := fun d δ S Q => opt (asSq S d) fun ds => opt (setsD is ds δ) fun δ' => Q δ' S
theorem sem_gTA {K : PySem.W.Frag} {is : List Nat} {n : Nat} (hn : is.length = n) : SemG K (gAny K n (gNames is)) (gTA is) := fun w v d σ δ Qd Q ok r lo h q => by
  obtain ⟨ds, h0, h⟩ := opt_of h
  obtain ⟨δ', h1, h2⟩ := opt_of h
  obtain ⟨p, vs, rfl, hp, rr⟩ := asSq_sem ok r h0
  have fin := sem_names ok q is ds vs σ δ δ' rr lo h1 h2
  have hl : vs.length = n := by rw [rr.length, setsD_len h1, hn]
  rcases hp with hp | hp
  · exact .inr ⟨p, vs, rfl, hp, hl, fin⟩
  · exact .inl ⟨p, vs, rfl, hp, hl, fin⟩
section
variable {is : List Nat} {ds : List D} {δ : Lo} {S : Sto} {Q : Lo → Sto → Prop}
@[simp] theorem gTA_t : gTA is (.tup ds) δ S Q = opt (setsD is ds δ) (qLo Q S) := rfl
@[simp] theorem gTA_l : gTA is (.lst ds) δ S Q = opt (setsD is ds δ) (qLo Q S) := rfl
@[simp] theorem asgA_t {B : DEnds} : qAsg (gTA is) δ B (.tup ds) S = opt (setsD is ds δ) (qNx B S) := rfl
@[simp] theorem asgA_l {B : DEnds} : qAsg (gTA is) δ B (.lst ds) S = opt (setsD is ds δ) (qNx B S) := rfl
theorem gTA_sq {d : D} (h : asSq S d = some ds) : gTA is d δ S Q = opt (setsD is ds δ) fun δ' => Q δ' S := by
  show opt (asSq S d) _ = _
  rw [h]; rfl
end
end DL
namespace DL
open PySem L2
theorem tp_alk {n : Nat} {d : D} {L : List (Addr × DFn)} (h : Tp n d) : noM d = true ∧ Alk L n d := by
  induction h with
  | non => exact ⟨rfl, .non _⟩
  | bl => exact ⟨rfl, .bl _ _⟩
  | int => exact ⟨rfl, .int _ _⟩
  | str => exact ⟨rfl, .str _ _⟩
  | tup _ l ih => exact ⟨by simpa [noM] using noML_mem fun x hx => (ih x hx).1, .tup fun x hx => (ih x hx).2⟩
  | lst _ l ih => exact ⟨by simpa [noM] using noML_mem fun x hx => (ih x hx).1, .lst fun x hx => (ih x hx).2⟩
theorem Alk.up {L : List (Addr × DFn)} {n : Nat} {d : D} (h : Alk L n d) : ∀ {m : Nat}, n ≤ m → Alk L m d := by
  induction h with
  | non => intro m _; exact .non _
  | bl => intro m _; exact .bl _ _
  | int => intro m _; exact .int _ _
  | str => intro m _; exact .str _ _
  | ins _ h s => intro m _; exact .ins _ h s
  | lst _ ih => intro m hm; cases m with | zero => omega | succ m => exact .lst fun x hx => ih x hx (by omega)
  | tup _ ih => intro m hm; cases m with | zero => omega | succ m => exact .tup fun x hx => ih x hx (by omega)
end DL

set_option maxHeartbeats 4000000
namespace DL
open PySem PySem.Spec L2
/-! ## dicts: keys ints and texts (dK), or tuples of these (dT) -/
section
variable {κ β : Type} [DecidableEq κ]
def vK (kvs : List (κ × β)) (k : κ) : Option β := (kvs.find? fun kv => decide (kv.1 = k)).map (·.2)
def pK (kvs : List (κ × β)) (k : κ) (v : β) : List (κ × β) :=
  if (kvs.any fun kv => decide (kv.1 = k)) = true then kvs.map (fun kv => if kv.1 = k then (kv.1, v) else kv) else kvs ++ [(k, v)]
theorem vK_V (kvs : List (κ × V)) (k : κ) : vK kvs k = valV kvs k := rfl
theorem pK_V (kvs : List (κ × V)) (k : κ) (v : V) : pK kvs k v = putK kvs k v := rfl
theorem anyK (kvs : List (κ × β)) (k : κ) : (kvs.any fun kv => decide (kv.1 = k)) = (kvs.map (·.1)).any fun j => decide (j = k) := by
  rw [List.any_map]; rfl
variable {K : PySem.W.Frag} {I : Hp} {α : Am}
theorem rk_get (k : κ) : ∀ {vs : List (κ × V)} {kvs : List (κ × D)}, vs.map (·.1) = kvs.map (·.1) → RpL K I α (vs.map (·.2)) (kvs.map (·.2)) →
    (vK kvs k = none ∧ vK vs k = none) ∨ ∃ d v, vK kvs k = some d ∧ vK vs k = some v ∧ Rp K I α v d
  | [], [], _, _ => .inl ⟨rfl, rfl⟩
  | [], _ :: _, h, _ => by simp at h
  | _ :: _, [], h, _ => by simp at h
  | (k1, v1) :: vs, (k2, d2) :: kvs, h, r => by
    simp only [List.map_cons, List.cons.injEq] at h
    obtain ⟨rfl, h⟩ := h
    simp only [List.map_cons] at r
    cases r with
    | cons r1 r2 =>
      by_cases e : k1 = k
      · exact .inr ⟨d2, v1, by simp [vK, e], by simp [vK, e], r1⟩
      · rcases rk_get k h r2 with ⟨a, b⟩ | ⟨d, v, a, b, c⟩
        · exact .inl ⟨by simpa [vK, e] using a, by simpa [vK, e] using b⟩
        · exact .inr ⟨d, v, by simpa [vK, e] using a, by simpa [vK, e] using b, c⟩
theorem rk_repl (k : κ) {v : V} {d : D} (rv : Rp K I α v d) : ∀ {vs : List (κ × V)} {kvs : List (κ × D)}, vs.map (·.1) = kvs.map (·.1) → RpL K I α (vs.map (·.2)) (kvs.map (·.2)) →
    RpL K I α ((vs.map fun kv => if kv.1 = k then (kv.1, v) else kv).map (·.2)) ((kvs.map fun kv => if kv.1 = k then (kv.1, d) else kv).map (·.2))
  | [], [], _, _ => .nil
  | [], _ :: _, h, _ => by simp at h
  | _ :: _, [], h, _ => by simp at h
  | (k1, v1) :: vs, (k2, d2) :: kvs, h, r => by
    simp only [List.map_cons, List.cons.injEq] at h
    obtain ⟨rfl, h⟩ := h
    simp only [List.map_cons] at r
    cases r with
    | cons r1 r2 =>
      have ih := rk_repl k rv h r2
      by_cases e : k1 = k
      · simp only [List.map_cons, if_pos e]; exact .cons rv ih
      · simp only [List.map_cons, if_neg e]; exact .cons r1 ih
theorem repl_keys (k : κ) (v : β) (kvs : List (κ × β)) : (kvs.map fun kv => if kv.1 = k then (kv.1, v) else kv).map (·.1) = kvs.map (·.1) := by
  rw [List.map_map]
  apply List.map_congr_left
  intro kv _
  by_cases e : kv.1 = k
  · show (if kv.1 = k then (kv.1, v) else kv).1 = kv.1
    rw [if_pos e]
  · show (if kv.1 = k then (kv.1, v) else kv).1 = kv.1
    rw [if_neg e]
theorem rk_put (k : κ) {v : V} {d : D} (rv : Rp K I α v d) {vs : List (κ × V)} {kvs : List (κ × D)} (h : vs.map (·.1) = kvs.map (·.1)) (r : RpL K I α (vs.map (·.2)) (kvs.map (·.2))) :
    (pK vs k v).map (·.1) = (pK kvs k d).map (·.1) ∧ RpL K I α ((pK vs k v).map (·.2)) ((pK kvs k d).map (·.2)) := by
  unfold pK
  rw [anyK, anyK, h]
  by_cases e : ((kvs.map (·.1)).any fun j => decide (j = k)) = true
  · rw [if_pos e, if_pos e]
    exact ⟨by rw [repl_keys, repl_keys, h], rk_repl k rv h r⟩
  · rw [if_neg e, if_neg e]
    exact ⟨by simp [h], by simpa using r.append (.one rv)⟩
theorem pK_new {kvs : List (κ × β)} {k : κ} {v : β} (h : k ∉ kvs.map (·.1)) : pK kvs k v = kvs ++ [(k, v)] := by
  unfold pK
  rw [anyK, if_neg]
  intro z
  obtain ⟨j, hj, e⟩ := List.any_eq_true.mp z
  exact h (by rw [← of_decide_eq_true e]; exact hj)
theorem pK_old {kvs : List (κ × β)} {k : κ} {v : β} (h : k ∈ kvs.map (·.1)) : pK kvs k v = kvs.map fun kv => if kv.1 = k then (kv.1, v) else kv := by
  unfold pK
  rw [anyK, if_pos]
  exact List.any_eq_true.mpr ⟨k, h, decide_eq_true rfl⟩
theorem pK_keys (kvs : List (κ × β)) (k : κ) (v : β) : (pK kvs k v).map (·.1) = if k ∈ kvs.map (·.1) then kvs.map (·.1) else kvs.map (·.1) ++ [k] := by
  by_cases h : k ∈ kvs.map (·.1)
  · rw [pK_old h, if_pos h, repl_keys]
  · rw [pK_new h, if_neg h]; simp
theorem rk_len {vs : List (κ × V)} {kvs : List (κ × D)} (h : vs.map (·.1) = kvs.map (·.1)) : vs.length = kvs.length := by
  simpa using congrArg List.length h
end
/-! ### keys -/
def kD : Key → D
  | .inl i => .int i
  | .inr x => .str x
def keyK : D → Option Key
  | .int i => some (.inl i)
  | .str x => some (.inr x)
  | _ => none
def keyL : List D → Option (List Key)
  | [] => some []
  | d :: r => (keyK d).bind fun k => (keyL r).map (k :: ·)
def keyT : D → Option (List Key)
  | .tup xs => keyL xs
  | _ => none
section
variable {K : PySem.W.Frag} {I : Hp} {α : Am}
theorem keyK_V {v : V} {d : D} {k : Key} (h : keyK d = some k) (r : Rp K I α v d) : v = kV k := by
  cases d <;> try (simp [keyK] at h)
  · cases r; cases h; rfl
  · cases r; cases h; rfl
theorem keyL_V : ∀ {vs : List V} {ds : List D} {ks : List Key}, keyL ds = some ks → RpL K I α vs ds → vs = ks.map kV
  | _, [], ks, h, r => by cases r; cases h; rfl
  | _, d :: ds, ks, h, r => by
    cases r with
    | cons r1 r2 =>
      unfold keyL at h
      cases e : keyK d with
      | none => rw [e] at h; cases h
      | some k =>
        rw [e] at h
        cases e2 : keyL ds with
        | none => rw [e2] at h; cases h
        | some ks' =>
          rw [e2] at h
          cases h
          rw [keyK_V e r1, keyL_V e2 r2]; rfl
theorem rp_kV (k : Key) : Rp K I α (kV k) (kD k) := by
  cases k with
  | inl i => exact .int i
  | inr x => exact .str x
theorem rpl_kV : ∀ ks : List Key, RpL K I α (ks.map kV) (ks.map kD)
  | [] => .nil
  | k :: r => .cons (rp_kV k) (rpl_kV r)
theorem keyL_int : ∀ xs : List Int, keyL (xs.map .int) = some (xs.map .inl)
  | [] => rfl
  | x :: r => by simp [keyL, keyK, keyL_int r]
@[simp] theorem keyT_int (xs : List Int) : keyT (.tup (xs.map .int)) = some (xs.map .inl) := keyL_int xs
@[simp] theorem keyK_int (i : Int) : keyK (.int i) = some (.inl i) := rfl
@[simp] theorem keyK_str (x : Str) : keyK (.str x) = some (.inr x) := rfl
theorem kD_int (xs : List Int) : (xs.map (Sum.inl : Int → Key)).map kD = xs.map .int := by rw [List.map_map]; rfl
end
/-! ### what a dict holds -/
def dgK (y : D) (k : Option D → Prop) : Option Cell → Prop
  | some (.dT kvs) => opt (keyT y) fun ks => y ≠ .tup fldD ∧ k (vK kvs ks)
  | some (.dK kvs) => opt (keyK y) fun ks => k (vK kvs ks)
  | _ => False
/-- the store behind d[y] = v -/
def dpK (y v : D) (k : Cell → Prop) : Option Cell → Prop
  | some (.dT kvs) => opt (keyT y) fun ks => y ≠ .tup fldD ∧ kvs.length < sizeLine ∧ k (.dT (pK kvs ks v))
  | some (.dK kvs) => opt (keyK y) fun ks => kvs.length < sizeLine ∧ k (.dK (pK kvs ks v))
  | _ => False
section
variable {K : PySem.W.Frag} {w : Wd} {n : Nat} {p : Addr} {v u : V} {y d : D}
theorem dic_at (ok : Ok K w) {kvs : List (List Key × D)} (hs : w.S n = some (.dT kvs)) (hp : w.α n = some p) :
    ∃ vs : List (List Key × V), w.H p = some (.dT vs) ∧ vs.map (·.1) = kvs.map (·.1) ∧ RpL K w.I w.α (vs.map (·.2)) (kvs.map (·.2)) := by
  obtain ⟨q, o, h1, h2, _, vs, rfl, h3, h4⟩ := ok.cel n _ hs
  rw [hp] at h1
  cases h1
  exact ⟨vs, h2, h3, h4⟩
theorem dik_at (ok : Ok K w) {kvs : List (Key × D)} (hs : w.S n = some (.dK kvs)) (hp : w.α n = some p) :
    ∃ vs : List (Key × V), w.H p = some (.dK vs) ∧ vs.map (·.1) = kvs.map (·.1) ∧ RpL K w.I w.α (vs.map (·.2)) (kvs.map (·.2)) := by
  obtain ⟨q, o, h1, h2, _, vs, rfl, h3, h4⟩ := ok.cel n _ hs
  rw [hp] at h1
  cases h1
  exact ⟨vs, h2, h3, h4⟩
theorem keyT_at {ks : List Key} (ok : Ok K w) (ry : Rp K w.I w.α v y) (h : keyT y = some ks) (hf : y ≠ .tup fldD) : ∃ b, v = .ref b ∧ w.H b = some (.tup (ks.map kV)) := by
  cases y <;> try (simp [keyT] at h)
  rename_i xs
  obtain ⟨b, vs, rfl, _, r, g⟩ := ry.tupG
  have e := keyL_V h r
  rw [e] at g
  rcases g with g | g
  · exact ⟨b, rfl, ok.sub _ _ g⟩
  · exact absurd (by rw [g]) hf
/-- a lookup, in the heap -/
theorem dg_sem {k : Option D → Prop} (ok : Ok K w) (hp : w.α n = some p) (ry : Rp K w.I w.α v y) (h : dgK y k (w.S n)) :
    ∃ (o : Option D) (o' : Option V), DGet w.H p v o' ∧ k o ∧ ((o = none ∧ o' = none) ∨ ∃ d u, o = some d ∧ o' = some u ∧ Rp K w.I w.α u d) := by
  unfold dgK at h
  split at h
  · rename_i kvs hs
    obtain ⟨ks, h1, h2, h3⟩ := opt_of h
    obtain ⟨vs, hv, e, r⟩ := dic_at ok hs hp
    obtain ⟨b, rfl, hb⟩ := keyT_at ok ry h1 h2
    refine ⟨vK kvs ks, vK vs ks, .t hv hb, h3, ?_⟩
    rcases rk_get ks e r with ⟨a, b⟩ | ⟨d, u, a, b, c⟩
    · exact .inl ⟨a, b⟩
    · exact .inr ⟨d, u, a, b, c⟩
  · rename_i kvs hs
    obtain ⟨ks, h1, h3⟩ := opt_of h
    obtain ⟨vs, hv, e, r⟩ := dik_at ok hs hp
    obtain rfl := keyK_V h1 ry
    refine ⟨vK kvs ks, vK vs ks, .k hv, h3, ?_⟩
    rcases rk_get ks e r with ⟨a, b⟩ | ⟨d, u, a, b, c⟩
    · exact .inl ⟨a, b⟩
    · exact .inr ⟨d, u, a, b, c⟩
  · exact h.elim
theorem isD_sem {k : Option D → Prop} {y : D} (ok : Ok K w) (hp : w.α n = some p) (h : dgK y k (w.S n)) : IsD w.H p := by
  unfold dgK at h
  split at h
  · rename_i kvs hs
    obtain ⟨vs, hv, _⟩ := dic_at ok hs hp
    exact .inr ⟨vs, .inl hv⟩
  · rename_i kvs hs
    obtain ⟨vs, hv, _⟩ := dik_at ok hs hp
    exact .inl ⟨vs, .inl hv⟩
  · exact h.elim
/-- a store -/
theorem dp_sem {k : Cell → Prop} (ok : Ok K w) (hp : w.α n = some p) (ry : Rp K w.I w.α v y) (ru : Rp K w.I w.α u d) (h : dpK y d k (w.S n)) :
    ∃ (c : Cell) (o : HO), DPut w.H p v u (upd w.H p o) ∧ k c ∧ Le w (w.set n p c o) ∧ Ok K (w.set n p c o) := by
  unfold dpK at h
  split at h
  · rename_i kvs hs
    obtain ⟨ks, h1, h2, hl, h3⟩ := opt_of h
    obtain ⟨vs, hv, e, r⟩ := dic_at ok hs hp
    obtain ⟨b, rfl, hb⟩ := keyT_at ok ry h1 h2
    obtain ⟨e2, r2⟩ := rk_put ks ru e r
    exact ⟨.dT (pK kvs ks d), .dT (pK vs ks u), .t hv hb (by rw [rk_len e]; exact hl), h3, .set hs hp, ok.set hs hp ⟨_, rfl, e2, r2⟩⟩
  · rename_i kvs hs
    obtain ⟨ks, h1, hl, h3⟩ := opt_of h
    obtain ⟨vs, hv, e, r⟩ := dik_at ok hs hp
    obtain rfl := keyK_V h1 ry
    obtain ⟨e2, r2⟩ := rk_put ks ru e r
    exact ⟨.dK (pK kvs ks d), .dK (pK vs ks u), .k hv (by rw [rk_len e]; exact hl), h3, .set hs hp, ok.set hs hp ⟨_, rfl, e2, r2⟩⟩
  · exact h.elim
end
/-! ### rules -/
def dDNewT : DE := fun δ S Q E => aNew (.dT []) S Q
def dDNewK : DE := fun δ S Q E => aNew (.dK []) S Q
/-- x is a cell -/
def cel1 (k : Nat → Prop) : D → Prop
  | .m n => k n
  | _ => False
@[simp] theorem cel1_m {k : Nat → Prop} {n : Nat} : cel1 k (.m n) = k n := rfl
theorem cel1_of {k : Nat → Prop} {x : D} (h : cel1 k x) : ∃ n, x = .m n ∧ k n := by
  cases x <;> first | exact h.elim | exact ⟨_, rfl, h⟩
def qDG2 (n : Nat) (Q : QD) : QD := fun y S2 => dgK y (fun o => opt o fun d => Q d S2) (S2 n)
def qDG1 (ti : DE) (δ : Lo) (Q : QD) (E : QE) : QD := fun x S1 => cel1 (fun n => ti δ S1 (qDG2 n Q) E) x
/-- d[k], there -/
def dDGet (to ti : DE) : DE := fun δ S Q E => to δ S (qDG1 ti δ Q E) E
def qDI2 (neg : Bool) (y : D) (Q : QD) : QD := fun x S2 => cel1 (fun n => dgK y (fun o => Q (.bl (neg ^^ o.isSome)) S2) (S2 n)) x
def qDI1 (neg : Bool) (to : DE) (δ : Lo) (Q : QD) (E : QE) : QD := fun y S1 => to δ S1 (qDI2 neg y Q) E
/-- k in d, k not in d -/
def dDIn (neg : Bool) (ti to : DE) : DE := fun δ S Q E => ti δ S (qDI1 neg to δ Q E) E
def qDGd (n : Nat) (y : D) (Q : QD) : QD := fun z S3 => dgK y (fun o => Q (o.getD z) S3) (S3 n)
def qDGc (n : Nat) (tx : DE) (δ : Lo) (Q : QD) (E : QE) : QD := fun y S2 => tx δ S2 (qDGd n y Q) E
def isDK : Option Cell → Prop
  | some (.dT _) => True
  | some (.dK _) => True
  | _ => False
def qDGb (ti tx : DE) (δ : Lo) (Q : QD) (E : QE) : QD := fun x S1 => cel1 (fun n => isDK (S1 n) ∧ ti δ S1 (qDGc n tx δ Q E) E) x
/-- d.get(k, z) -/
def dDGet2 (to ti tx : DE) : DE := fun δ S Q E => to δ S (qDGb ti tx δ Q E) E
def qDP3 (n : Nat) (d : D) (B : DEnds) (δ : Lo) : QD := fun y S3 => dpK y d (fun c => B.nx δ (put S3 n c)) (S3 n)
def qDP2 (ti : DE) (d : D) (B : DEnds) (δ : Lo) : QD := fun x S2 => cel1 (fun n => ti δ S2 (qDP3 n d B δ) (eB B δ)) x
def qDP1 (to ti : DE) (B : DEnds) (δ : Lo) : QD := fun d S1 => to δ S1 (qDP2 ti d B δ) (eB B δ)
/-- d[k] = e -/
def dDPut (to ti te : DE) : DS := fun B δ S => te δ S (qDP1 to ti B δ) (eB B δ)
def lenK (k : D → Prop) : Option Cell → Prop
  | some (.dT kvs) => k (.int kvs.length)
  | some (.dK kvs) => k (.int kvs.length)
  | _ => False
/-- len(d) -/
def oLenD : DCl := fun S ds k => match ds with
  | [.m n] => lenK k (S n)
  | _ => False
def rLenDD : List V → Hp → VK → Prop := fun xs H Q => ∃ p, xs = [.ref p] ∧ ((∃ kvs : List (List Key × V), H p = some (.dT kvs) ∧ Q (.int ((kvs.length : Nat) : Int)) H) ∨ ∃ kvs : List (Key × V), H p = some (.dK kvs) ∧ Q (.int ((kvs.length : Nat) : Int)) H)
theorem call_lenDD {X : Cx} : CallR X (.builtin "len") rLenDD := by
  intro pins s σ H xs us Q I r h
  obtain ⟨p, rfl, ⟨kvs, hp, q⟩ | ⟨kvs, hp, q⟩⟩ := h
  · exact call_len_dT pins s σ H _ us Q I r ⟨p, kvs, rfl, hp, q⟩
  · obtain ⟨u, rfl, rx⟩ := vals1 r
    obtain rfl : u = .ref p := rx
    exact d_len I (.inl hp) fun t s' I' => ⟨.int ((kvs.length : Nat) : Int), H, I', ⟨_, rfl⟩, q⟩
theorem sem_lenDD {K : PySem.W.Frag} : SemCl K rLenDD oLenD := by
  intro w xs ds Qd Q ok r h q
  unfold oLenD at h
  split at h
  · rename_i n
    obtain ⟨v, rfl, rr⟩ := r.one'
    obtain ⟨p, rfl, hp⟩ := rr.m'
    unfold lenK at h
    split at h
    · rename_i kvs hs
      obtain ⟨vs, hv, e, _⟩ := dic_at ok hs hp
      exact ⟨p, rfl, .inl ⟨vs, hv, by rw [rk_len e]; exact q _ _ w h (.refl w) rfl ok (.int _)⟩⟩
    · rename_i kvs hs
      obtain ⟨vs, hv, e, _⟩ := dik_at ok hs hp
      exact ⟨p, rfl, .inr ⟨vs, hv, by rw [rk_len e]; exact q _ _ w h (.refl w) rfl ok (.int _)⟩⟩
    · exact h.elim
  · exact h.elim
section
variable {X : Cx} {W : WX} {o e i x : Expr} {es : List Expr} {to te ti tx : DE} {tas : DA} {p pos apos tpos cpos : Pos} {t : DS}
theorem new_dic (w : Wd) {K : PySem.W.Frag} (ok : Ok K w) {q : Addr} {c : Cell} {u : HO} (hq : w.H q = none) (hc : ∀ α, CellR K w.I α c u) {Q : QD} (h : aNew c w.S Q) :
    ∃ n w', w'.H = upd w.H q u ∧ Le w w' ∧ Ok K w' ∧ Q (.m n) w'.S ∧ Rp K w'.I w'.α (.ref q) (.m n) := by
  obtain ⟨n, hα, hS⟩ := ok.free
  exact ⟨n, w.cell n q c u, rfl, .cell hq hα, ok.cell hq hα (hc _), h n hS, .m (if_pos rfl)⟩
theorem de_dnewT : PE X (.Dict [] [] pos) (toE X.K W dDNewT) := pimp pe_dnewT fun σ H Q h => by
  obtain ⟨w, δ, Qd, Ed, rfl, ok, lo, t, q, ec⟩ := h
  intro p hp
  obtain ⟨n, w', e, l, ok', h, r⟩ := new_dic w ok hp (c := .dT []) (fun _ => ⟨[], rfl, rfl, .nil⟩) t
  rw [← e]
  exact q _ _ _ h l ok' r
theorem de_dnewK : PE X (.Dict [] [] pos) (toE X.K W dDNewK) := pimp pe_dnewK fun σ H Q h => by
  obtain ⟨w, δ, Qd, Ed, rfl, ok, lo, t, q, ec⟩ := h
  intro p hp
  obtain ⟨n, w', e, l, ok', h, r⟩ := new_dic w ok hp (c := .dK []) (fun _ => ⟨[], rfl, rfl, .nil⟩) t
  rw [← e]
  exact q _ _ _ h l ok' r
theorem de_dget (hu : X.A.units + 1 < cLine) (ho : PE X o (toE X.K W to)) (hi : PE X i (toE X.K W ti)) (hs : NoSl i := by intro _ _; rfl) : PE X (.Subscript o i pos) (toE X.K W (dDGet to ti)) :=
  pimp (pe_dget hu ho hi hs) fun σ H Q h => by
  obtain ⟨w, δ, Qd, Ed, rfl, ok, lo, t, q, ec⟩ := h
  refine ⟨w, δ, _, Ed, rfl, ok, lo, t, fun x v w1 t1 l1 ok1 r1 => ?_, ec⟩
  obtain ⟨n, rfl, t1'⟩ := cel1_of t1
  obtain ⟨p, rfl, hp⟩ := r1.m'
  refine ⟨w1, δ, _, Ed, rfl, ok1, lo.up l1, t1', fun y u w2 t2 l2 ok2 r2 => ?_, ec.up l1⟩
  obtain ⟨od, ov, g, k, z⟩ := dg_sem ok2 (l2.aa _ _ hp) r2 t2
  obtain ⟨d, e, k⟩ := opt_of k
  rcases z with ⟨z, _⟩ | ⟨d', u', e1, rfl, ru⟩
  · rw [z] at e; cases e
  · rw [e1] at e
    cases e
    exact ⟨p, u', rfl, g, q _ _ w2 k (l1.trans l2) ok2 ru⟩
theorem de_din (hu : X.A.units + 1 < cLine) (hi : PE X i (toE X.K W ti)) (ho : PE X o (toE X.K W to)) (h1 : behindInMarks .In o = false := by first | exact nobehind _ (by decide) (by decide) | rfl) :
    PE X (.Compare i [.In] [o] pos) (toE X.K W (dDIn false ti to)) := pimp (pe_cmp (pc_din hu hi ho) h1) fun σ H Q h => by
  obtain ⟨w, δ, Qd, Ed, rfl, ok, lo, t, q, ec⟩ := h
  refine ⟨w, δ, _, Ed, rfl, ok, lo, t, fun y v w1 t1 l1 ok1 r1 => ?_, ec⟩
  refine ⟨w1, δ, _, Ed, rfl, ok1, lo.up l1, t1, fun x u w2 t2 l2 ok2 r2 => ?_, ec.up l1⟩
  obtain ⟨n, rfl, t3⟩ := cel1_of t2
  obtain ⟨p, rfl, hp⟩ := r2.m'
  obtain ⟨od, ov, g, k, z⟩ := dg_sem ok2 hp (r1.up l2) t3
  refine ⟨p, ov, rfl, g, q _ _ w2 k (l1.trans l2) ok2 ?_⟩
  rcases z with ⟨rfl, rfl⟩ | ⟨d', u', rfl, rfl, ru⟩ <;> exact .bl _
theorem de_dnotin (hu : X.A.units + 1 < cLine) (hi : PE X i (toE X.K W ti)) (ho : PE X o (toE X.K W to)) (h1 : behindInMarks .NotIn o = false := by first | exact nobehind _ (by decide) (by decide) | rfl) :
    PE X (.Compare i [.NotIn] [o] pos) (toE X.K W (dDIn true ti to)) := pimp (pe_cmp (pc_dnotin hu hi ho) h1) fun σ H Q h => by
  obtain ⟨w, δ, Qd, Ed, rfl, ok, lo, t, q, ec⟩ := h
  refine ⟨w, δ, _, Ed, rfl, ok, lo, t, fun y v w1 t1 l1 ok1 r1 => ?_, ec⟩
  refine ⟨w1, δ, _, Ed, rfl, ok1, lo.up l1, t1, fun x u w2 t2 l2 ok2 r2 => ?_, ec.up l1⟩
  obtain ⟨n, rfl, t3⟩ := cel1_of t2
  obtain ⟨p, rfl, hp⟩ := r2.m'
  obtain ⟨od, ov, g, k, z⟩ := dg_sem ok2 hp (r1.up l2) t3
  refine ⟨p, ov, rfl, g, q _ _ w2 k (l1.trans l2) ok2 ?_⟩
  rcases z with ⟨rfl, rfl⟩ | ⟨d', u', rfl, rfl, ru⟩ <;> exact .bl _
theorem isDK_sem {K : PySem.W.Frag} {w : Wd} {n : Nat} {p : Addr} (ok : Ok K w) (hp : w.α n = some p) (h : isDK (w.S n)) : IsD w.H p := by
  unfold isDK at h
  split at h
  · rename_i kvs hs
    obtain ⟨vs, hv, _⟩ := dic_at ok hs hp
    exact .inr ⟨vs, .inl hv⟩
  · rename_i kvs hs
    obtain ⟨vs, hv, _⟩ := dik_at ok hs hp
    exact .inl ⟨vs, .inl hv⟩
  · exact h.elim
theorem de_dget2 (hu : X.A.units + 1 < cLine) (ho : PE X o (toE X.K W to)) (hi : PE X i (toE X.K W ti)) (hx : PE X x (toE X.K W tx)) (m : M2 X o "get" apos i x cpos) :
    PE X (.Call (.Attribute o "get" apos) [i, x] [] cpos) (toE X.K W (dDGet2 to ti tx)) := pimp (pe_dget2 hu ho hi hx m) fun σ H Q h => by
  obtain ⟨w, δ, Qd, Ed, rfl, ok, lo, t, q, ec⟩ := h
  refine ⟨w, δ, _, Ed, rfl, ok, lo, t, fun x v w1 t1 l1 ok1 r1 => ?_, ec⟩
  obtain ⟨n, rfl, t0, t1'⟩ := cel1_of t1
  obtain ⟨p, rfl, hp⟩ := r1.m'
  refine ⟨p, rfl, isDK_sem ok1 hp t0, w1, δ, _, Ed, rfl, ok1, lo.up l1, t1', fun y u w2 t2 l2 ok2 r2 => ?_, ec.up l1⟩
  refine ⟨w2, δ, _, Ed, rfl, ok2, lo.up (l1.trans l2), t2, fun z u3 w3 t3 l3 ok3 r3 => ?_, ec.up (l1.trans l2)⟩
  obtain ⟨od, ov, g, k, z⟩ := dg_sem ok3 (l3.aa _ _ (l2.aa _ _ hp)) (r2.up l3) t3
  refine ⟨ov, g, q _ _ w3 k ((l1.trans l2).trans l3) ok3 ?_⟩
  rcases z with ⟨rfl, rfl⟩ | ⟨d', u', rfl, rfl, ru⟩
  · exact r3
  · exact ru
theorem ds_dput (hu : X.A.units + 1 < cLine) (ho : PE X o (toE X.K W to)) (hi : PE X i (toE X.K W ti)) (he : PE X e (toE X.K W te)) (hs : swapsWith e (some (.Subscript o i tpos)) pos.line X.env = pure false := by rfl) :
    PS X (.Assign [.Subscript o i tpos] e pos) (toS X.K W (dDPut to ti te)) := simp' (ps_dput hu ho hi he hs) fun D σ H ⟨w, δ, B, hH, ok, lo, t, r⟩ => by
  subst hH
  refine ⟨w, δ, _, _, rfl, ok, lo, t, fun d v w1 t1 l1 ok1 r1 => ?_, r.eC lo⟩
  refine ⟨w1, δ, _, _, rfl, ok1, lo.up l1, t1, fun x u w2 t2 l2 ok2 r2 => ?_, (r.up l1).eC (lo.up l1)⟩
  have l12 := l1.trans l2
  obtain ⟨n, rfl, t2'⟩ := cel1_of t2
  obtain ⟨p, rfl, hp⟩ := r2.m'
  refine ⟨w2, δ, _, _, rfl, ok2, lo.up l12, t2', fun y z w3 t3 l3 ok3 r3 => ?_, (r.up l12).eC (lo.up l12)⟩
  obtain ⟨c, ob, g, k, l4, ok4⟩ := dp_sem ok3 (l3.aa _ _ hp) r3 ((r1.up l2).up l3) t3
  have l := (l12.trans l3).trans l4
  exact ⟨p, _, rfl, g, r.nx _ _ _ k l ok4 (lo.up l)⟩
theorem de_lenD (hg : Gl X "len") (hm : X.mg "len" = none) (ha : PA X (e :: es) (toA X.K W tas)) (he : starEach (e :: es) X.env = (false, eval e X.env) :: starEach es X.env := by rfl) (hpl : (backTo pos (starEach es X.env)).any (·.1) = false := by rfl) :
    PE X (.Call (.Name "len" p) (e :: es) [] pos) (toE X.K W (dCl oLenD tas)) := de_callB call_lenDD sem_lenDD hg hm PyProof.Rows.Boot.«len» ha (by decide) (by decide) he hpl
end
end DL

set_option maxHeartbeats 4000000
namespace DL
open PySem PySem.Spec L2
/-! ## list(d): the keys -/
/-- tuples that stand are known from now on -/
def Wd.kee (w : Wd) (bs : List Addr) : Wd := ⟨fun q => if q ∈ bs then w.H q else w.I q, w.α, w.S, w.H⟩
section
variable {K : PySem.W.Frag} {w : Wd} {bs : List Addr}
theorem kee_le (ok : Ok K w) (hb : ∀ b ∈ bs, ∃ ts, w.H b = some (.tup ts)) : HpLe w.I (w.kee bs).I := fun q u e => by
  show (if q ∈ bs then w.H q else w.I q) = some u
  by_cases h : q ∈ bs
  · rw [if_pos h]; exact ok.sub q u e
  · rw [if_neg h]; exact e
theorem Ok.kee (ok : Ok K w) (hb : ∀ b ∈ bs, ∃ ts, w.H b = some (.tup ts)) : Ok K (w.kee bs) := by
  refine ⟨fun q u e => ?_, fun n c e => ?_, ok.inj, ok.fin⟩
  · have e : (if q ∈ bs then w.H q else w.I q) = some u := e
    by_cases h : q ∈ bs
    · rw [if_pos h] at e; exact e
    · rw [if_neg h] at e; exact ok.sub q u e
  · obtain ⟨q, u, h1, h2, h3, h4⟩ := ok.cel n c e
    refine ⟨q, u, h1, h2, ?_, h4.le (kee_le ok hb) fun _ _ z => z⟩
    show (if q ∈ bs then w.H q else w.I q) = none
    by_cases h : q ∈ bs
    · obtain ⟨ts, ht⟩ := hb q h
      rw [h2] at ht
      cases ht
      cases c <;> · obtain ⟨_, h4⟩ := h4; first | cases h4.1 | (obtain ⟨_, h4, _⟩ := h4; cases h4)
    · rw [if_neg h]; exact h3
theorem Le.kee (ok : Ok K w) (hb : ∀ b ∈ bs, ∃ ts, w.H b = some (.tup ts)) : Le w (w.kee bs) :=
  ⟨kee_le ok hb, fun _ _ z => z, fun _ _ e _ => e, fun _ e => e, fun q e => by
    have e : (if q ∈ bs then w.H q else w.I q) ≠ none := e
    by_cases h : q ∈ bs
    · exact .inr (.inr (.inr (hb q h)))
    · rw [if_neg h] at e; exact .inl e, fun _ _ z => .inl z, fun _ z => .inl z⟩
theorem keys_of {α : Am} : ∀ {vs : List (List Key × V)} {kvs : List (List Key × D)} {bs : List Addr} {I : Hp}, vs.map (·.1) = kvs.map (·.1) → Paired (fun p b => I b = some (.tup (p.1.map kV))) vs bs →
    RpL K I α (bs.map V.ref) (kvs.map fun kv => .tup (kv.1.map kD))
  | [], [], _, _, _, h => by cases h; exact .nil
  | [], _ :: _, _, _, h, _ => by simp at h
  | _ :: _, [], _, _, h, _ => by simp at h
  | (k1, v1) :: vs, (k2, d2) :: kvs, _, _, h, g => by
    simp only [List.map_cons, List.cons.injEq] at h
    obtain ⟨rfl, h⟩ := h
    cases g with
    | cons g1 g2 => exact .cons (.tupN g1 (rpl_kV _)) (keys_of h g2)
theorem keys_ok {H : Hp} : ∀ {vs : List (List Key × V)} {bs : List Addr}, IsKeys H vs bs → ∀ b ∈ bs, ∃ ts, H b = some (.tup ts)
  | _, _, h => by
    unfold IsKeys at h
    induction h with
    | nil => intro b hb; cases hb
    | cons h t ih =>
      intro b hb
      rcases List.mem_cons.mp hb with rfl | hb
      · exact ⟨_, h⟩
      · exact ih b hb
theorem keys_up {H I : Hp} : ∀ {vs : List (List Key × V)} {bs : List Addr}, IsKeys H vs bs → (∀ b ∈ bs, I b = H b) → Paired (fun p b => I b = some (.tup (p.1.map kV))) vs bs
  | _, _, h, hi => by
    unfold IsKeys at h
    induction h with
    | nil => exact .nil
    | cons h t ih => exact .cons ((hi _ (List.mem_cons_self ..)).trans h) (ih fun b hb => hi b (List.mem_cons_of_mem _ hb))
end
def kysK (k : List D → Prop) : Option Cell → Prop
  | some (.dT kvs) => k (kvs.map fun kv => .tup (kv.1.map kD))
  | some (.dK kvs) => k (kvs.map fun kv => kD kv.1)
  | _ => False
def qKys (Q : QL) : QL := fun xs S1 => match xs with
  | [.m n] => kysK (fun ys => Q ys S1) (S1 n)
  | _ => False
def dListD (tas : DA) : DA := fun δ S Q E => tas δ S (qKys Q) E
@[simp] theorem qKys_m {Q : QL} {n : Nat} {S : Sto} : qKys Q [.m n] S = kysK (fun ys => Q ys S) (S n) := rfl
def rListDD : List V → Hp → VK → Prop := fun xs H Q => ∃ d, xs = [V.ref d] ∧ ((∃ kvs : List (List Key × V), Rd H d (.dT kvs) ∧ ∀ p bs, H p = none → IsKeys H kvs bs → Q (.ref p) (upd H p (.lst (bs.map V.ref)))) ∨
  ∃ kvs : List (Key × V), H d = some (.dK kvs) ∧ ∀ q, H q = none → Q (.ref q) (upd H q (.lst (kvs.map fun kv => kV kv.1))))
theorem call_listDD {X : Cx} (hc : X.calm = true) : CallR X (.type "list") rListDD := by
  intro pins s σ H xs us Q I r h
  obtain ⟨d, rfl, ⟨kvs, hd, q⟩ | ⟨kvs, hd, q⟩⟩ := h
  · exact call_list_dT hc pins s σ H _ us Q I r ⟨d, kvs, rfl, hd, q⟩
  · exact call_list_dK hc pins s σ H _ us Q I r ⟨d, kvs, rfl, hd, q⟩
theorem rpl_kVs {K : PySem.W.Frag} {I : Hp} {α : Am} : ∀ {vs : List (Key × V)} {kvs : List (Key × D)}, vs.map (·.1) = kvs.map (·.1) → RpL K I α (vs.map fun kv => kV kv.1) (kvs.map fun kv => kD kv.1)
  | [], [], _ => .nil
  | [], _ :: _, h => by simp at h
  | _ :: _, [], h => by simp at h
  | (k1, v1) :: vs, (k2, d2) :: kvs, h => by
    simp only [List.map_cons, List.cons.injEq] at h
    obtain ⟨rfl, h⟩ := h
    exact .cons (rp_kV _) (rpl_kVs h)
section
variable {X : Cx} {W : WX} {e : Expr} {es : List Expr} {tas : DA} {p pos : Pos}
theorem df_listD (hg : Gl X "list") (hm : X.mg "list" = none) (ha : PA X (e :: es) (toA X.K W tas)) (hc : X.calm = true := by rfl)
    (he : starEach (e :: es) X.env = (false, eval e X.env) :: starEach es X.env := by rfl) (hpl : (backTo pos (starEach es X.env)).any (·.1) = false := by rfl) : PE X (.Call (.Name "list" p) (e :: es) [] pos) (toF X.K W (dListD tas)) :=
  pimp (pe_callTy (call_listDD hc) hg hm PyProof.Rows.Boot.«list» ha (by decide) (by decide) he hpl) fun σ H Q h => by
  obtain ⟨w, δ, Qd, Ed, rfl, ok, lo, t, q, ec⟩ := h
  refine ⟨w, δ, _, Ed, rfl, ok, lo, t, fun ds v w1 t1 l1 ok1 r1 => ?_, ec⟩
  unfold qKys at t1
  split at t1
  · rename_i n
    obtain ⟨v, rfl, rr⟩ := r1.one'
    obtain ⟨d, rfl, hd⟩ := rr.m'
    unfold kysK at t1
    split at t1
    · rename_i kvs hs
      obtain ⟨vs, hv, e, _⟩ := dic_at ok1 hs hd
      refine ⟨d, rfl, .inl ⟨vs, .inl hv, fun l bs hl hk => ?_⟩⟩
      have hb := keys_ok hk
      have lk := Le.kee ok1 hb
      have okk := ok1.kee hb
      obtain ⟨a1, a2, a3, a4, a5⟩ := fresh_side (o := .lst (bs.map V.ref)) (l1.trans lk) okk (show (w1.kee bs).H l = none from hl)
      refine q _ _ l ((w1.kee bs).side (upd w1.H l (.lst (bs.map V.ref)))) t1 a1 a2 (keys_of e (keys_up hk fun b hb => if_pos hb)) upd_same a3 a4 a5
    · rename_i kvs hs
      obtain ⟨vs, hv, e, _⟩ := dik_at ok1 hs hd
      refine ⟨d, rfl, .inr ⟨vs, hv, fun l hl => ?_⟩⟩
      obtain ⟨a1, a2, a3, a4, a5⟩ := fresh_side (o := .lst (vs.map fun kv => kV kv.1)) l1 ok1 hl
      exact q _ _ l (w1.side (upd w1.H l (.lst (vs.map fun (kv : Key × V) => kV kv.1)))) t1 a1 a2 (rpl_kVs e) upd_same a3 a4 a5
    · exact t1.elim
  · exact t1.elim
end
/-! ### for simp -/
section
variable {to ti te tx : DE} {δ : Lo} {S : Sto} {Q : QD} {E : QE} {B : DEnds} {n : Nat} {y d x : D} {neg : Bool} {k : Option D → Prop} {kc : Cell → Prop} {kd : D → Prop} {kl : List D → Prop}
  {kvs : List (List Key × D)} {kvi : List (Key × D)} {tas : DA} {QL' : QL}
@[simp] theorem ev_dnewT : dDNewT δ S Q E = aNew (.dT []) S Q := rfl
@[simp] theorem ev_dnewK : dDNewK δ S Q E = aNew (.dK []) S Q := rfl
@[simp] theorem ev_dgk_t : dgK y k (some (.dT kvs)) = opt (keyT y) fun ks => y ≠ .tup fldD ∧ k (vK kvs ks) := rfl
@[simp] theorem ev_dgk_k : dgK y k (some (.dK kvi)) = opt (keyK y) fun ks => k (vK kvi ks) := rfl
@[simp] theorem ev_dpk_t : dpK y d kc (some (.dT kvs)) = opt (keyT y) fun ks => y ≠ .tup fldD ∧ kvs.length < sizeLine ∧ kc (.dT (pK kvs ks d)) := rfl
@[simp] theorem ev_dpk_k : dpK y d kc (some (.dK kvi)) = opt (keyK y) fun ks => kvi.length < sizeLine ∧ kc (.dK (pK kvi ks d)) := rfl
@[simp] theorem ev_lenk_t : lenK kd (some (.dT kvs)) = kd (.int kvs.length) := rfl
@[simp] theorem ev_lenk_k : lenK kd (some (.dK kvi)) = kd (.int kvi.length) := rfl
@[simp] theorem ev_lenD : oLenD S [.m n] kd = lenK kd (S n) := rfl
@[simp] theorem ev_kys_t : kysK kl (some (.dT kvs)) = kl (kvs.map fun kv => .tup (kv.1.map kD)) := rfl
@[simp] theorem ev_kys_k : kysK kl (some (.dK kvi)) = kl (kvi.map fun kv => kD kv.1) := rfl
@[simp] theorem isdk_t : isDK (some (.dT kvs)) = True := rfl
@[simp] theorem isdk_k : isDK (some (.dK kvi)) = True := rfl
@[simp] theorem ev_listD : dListD tas δ S QL' E = tas δ S (qKys QL') E := rfl
@[simp] theorem ev_dget : dDGet to ti δ S Q E = to δ S (qDG1 ti δ Q E) E := rfl
@[simp] theorem ev_dget1 : qDG1 ti δ Q E x S = cel1 (fun n => ti δ S (qDG2 n Q) E) x := rfl
@[simp] theorem ev_dget2' : qDG2 n Q y S = dgK y (fun o => opt o fun d => Q d S) (S n) := rfl
@[simp] theorem ev_din : dDIn neg ti to δ S Q E = ti δ S (qDI1 neg to δ Q E) E := rfl
@[simp] theorem ev_din1 : qDI1 neg to δ Q E y S = to δ S (qDI2 neg y Q) E := rfl
@[simp] theorem ev_din2 : qDI2 neg y Q x S = cel1 (fun n => dgK y (fun o => Q (.bl (neg ^^ o.isSome)) S) (S n)) x := rfl
@[simp] theorem ev_dgd : dDGet2 to ti tx δ S Q E = to δ S (qDGb ti tx δ Q E) E := rfl
@[simp] theorem ev_dgb : qDGb ti tx δ Q E x S = cel1 (fun n => isDK (S n) ∧ ti δ S (qDGc n tx δ Q E) E) x := rfl
@[simp] theorem ev_dgc : qDGc n tx δ Q E y S = tx δ S (qDGd n y Q) E := rfl
@[simp] theorem ev_dgd3 : qDGd n y Q x S = dgK y (fun o => Q (o.getD x) S) (S n) := rfl
@[simp] theorem ev_dput : dDPut to ti te B δ S = te δ S (qDP1 to ti B δ) (eB B δ) := rfl
@[simp] theorem ev_dput1 : qDP1 to ti B δ d S = to δ S (qDP2 ti d B δ) (eB B δ) := rfl
@[simp] theorem ev_dput2 : qDP2 ti d B δ x S = cel1 (fun n => ti δ S (qDP3 n d B δ) (eB B δ)) x := rfl
@[simp] theorem ev_dput3 : qDP3 n d B δ y S = dpK y d (fun c => B.nx δ (put S n c)) (S n) := rfl
end
end DL

set_option maxHeartbeats 4000000
namespace DL
open PySem PySem.Spec L2 PyProof.Rows
/-! ## any(xs), xs a list of ints -/
theorem vals_int_at : ∀ {ns : List Int} {us : List Value} {i : Nat} {v : Value}, Vals (ns.map V.int) us → us[i]? = some v → ∃ n t, ns[i]? = some n ∧ v = .int n t
  | [], us, i, v, h, e => by
    rw [List.map_nil] at h
    cases h
    simp at e
  | n :: ns, us, i, v, h, e => by
    rw [List.map_cons] at h
    cases h with
    | cons r t =>
      obtain ⟨k, rfl⟩ := r
      cases i with
      | zero => simp at e; exact ⟨n, k, rfl, e.symm⟩
      | succ i => simpa using vals_int_at t (by simpa using e)
theorem truth_ints {prog : Program} {w : World} {A : Around} {ns : List Int} {its : List Value} (e : Vals (ns.map V.int) its) :
    TruthOf prog w A (fun i v => its.toArray[i]? = some v) (fun i => (ns.map (· != 0)).getD i false) := fun i v s Q E hv hq => by
  have hv' : its[i]? = some v := by simpa using hv
  obtain ⟨n, t, hn, rfl⟩ := vals_int_at e hv'
  have hg : (ns.map (· != 0)).getD i false = (n != 0) := by rw [List.getD_eq_getElem?_getD, List.getElem?_map, hn] <;> rfl
  have hq' : Q ((ns.map (· != 0)).getD i false) s := hq
  rw [hg] at hq'
  exact PySem.P.truthy_int hq'
def rAnyI (K : PySem.W.Frag) : List V → Hp → VK → Prop := fun xs H Q => ∃ (a : Addr) (ns : List Int), xs = [.ref a] ∧ SqL K H a (ns.map V.int) ∧ Q (.bl (ns.any (· != 0))) H
theorem cr_anyI {X : Cx} (hc : X.calm = true) : CallR X (.builtin "any") (rAnyI X.K) := by
  intro pins s σ H vs us Q I r h
  obtain ⟨a, ns, rfl, hs, q⟩ := h
  obtain ⟨its, rv, hl, _⟩ := I.list hs
  rw [Vals.ref1 r]
  have hlen : its.length = ns.length := by simpa using (Paired.length rv).symm
  refine call_any_walk (iter_any hl.isList fun s₂ e2 st hne => ?_)
  subst e2
  refine ⟨_, _, _, _, _, _, _, rfl, Walks.list (A := X.A.in1) (I.ok.hd hc) _ a hne its.toArray, st, truth_ints rv, fun h' tk hk => ?_⟩
  refine ⟨.bl _, H, I.kept fun b o eo => hk b o (fun hmem => ?_) (Heap.get?_push_of_some _ eo), ?_, q⟩
  · rcases List.mem_cons.mp hmem with e1 | hmem
    · exact absurd (e1 ▸ Heap.lt_size eo) (Nat.lt_irrefl _)
    · cases hmem
  · show Value.bool _ = Value.bool _
    have e1 := any_range (ns.map (· != 0))
    rw [List.length_map] at e1
    rw [List.size_toArray, hlen, e1, List.any_map]
    rfl
def oAnyI : DCl := fun S ds k => match ds with
  | [d] => opt (asR S d) fun xs => opt (intsD xs) fun ns => k (.bl (ns.any (· != 0)))
  | _ => False
theorem sem_anyI {K : PySem.W.Frag} : SemCl K (rAnyI K) oAnyI := by
  intro w xs ds Qd Q ok r h q
  unfold oAnyI at h
  split at h
  · obtain ⟨v, rfl, rr⟩ := r.one'
    obtain ⟨ys, hy, h⟩ := opt_of h
    obtain ⟨ns, hn, h⟩ := opt_of h
    obtain ⟨p, vs, rfl, hp, rv⟩ := asR_sem ok rr hy
    rw [intsD_of hn] at rv
    exact ⟨p, ns, rfl, rpl_int rv ▸ hp, q _ _ w h (.refl w) rfl ok (.bl _)⟩
  · exact h.elim
section
variable {X : Cx} {W : WX} {e : Expr} {es : List Expr} {ta : DA} {p pos : Pos} {S : Sto} {k : D → Prop} {ns : List Int}
theorem de_anyI (hc : X.calm = true) (hg : Gl X "any") (hm : X.mg "any" = none) (ha : PA X (e :: es) (toA X.K W ta)) (h1 : starEach (e :: es) X.env = (false, eval e X.env) :: starEach es X.env := by rfl) (h2 : (backTo pos (starEach es X.env)).any (·.1) = false := by rfl) : PE X (.Call (.Name "any" p) (e :: es) [] pos) (toE X.K W (dCl oAnyI ta)) := de_callB (cr_anyI hc) sem_anyI hg hm (by rfl) ha (by decide) (by decide) h1 h2
@[simp] theorem any_i : oAnyI S [.lst (ns.map .int)] k = k (.bl (ns.any (· != 0))) := by
  unfold oAnyI
  show opt (intsD (ns.map .int)) _ = _
  rw [intsD_map]; rfl
end
end DL

set_option maxHeartbeats 4000000
/-! ## 60. == of an instance with an own __eq__ and a plain value, either way round -/
namespace DL
open PySem PySem.Spec PySem.SeqAt L2
section
variable {prog : Program} {w : World} {A : Around} {E : Value → Shared → Prop} {s : Shared} {K : PySem.W.Frag} {C : Addr}
theorem list_dec {l b : Addr} {items : Array Value} {n : Nat} {dd : Option Addr} {sl : Array (Option Value)} {ob : Obj} {Q : Fin → Shared → Prop} {E : Value → Shared → Prop} (X : K.In s.heap) (hl : s.heap.get? l = some { cls := .type "list", dict := dd, data := .seq items n, slots := sl }) (hb : s.heap.get? b = some ob) (hc : ob.cls = .ref C) (hs : PySem.W.subIn K (.ref C) (.type "list") = some false) (q : Q (.done (.ret .notImplemented)) s) :
    wpAny (model prog w) A.in1 (Builtin.«list.__eq__» ⟨[.ref l, .ref b], []⟩) Q E s := by
  obtain ⟨hp, g, d, tk, os⟩ := s
  obtain ⟨cls, od, dt, sl2⟩ := ob
  simp only at hc
  subst hc
  wp_walk using wpAny_loadPart' hl, wpAny_loadPart' hb, wpAny_load hb
  refine (PySem.W.looks_subIn X hs).here ?_
  wp_walk
  exact q
theorem tuple_dec {l b : Addr} {items : Array Value} {n : Nat} {dd : Option Addr} {sl : Array (Option Value)} {ob : Obj} {Q : Fin → Shared → Prop} {E : Value → Shared → Prop} (X : K.In s.heap) (hl : s.heap.get? l = some { cls := .type "tuple", dict := dd, data := .seq items n, slots := sl }) (hb : s.heap.get? b = some ob) (hc : ob.cls = .ref C) (hs : PySem.W.subIn K (.ref C) (.type "tuple") = some false) (q : Q (.done (.ret .notImplemented)) s) :
    wpAny (model prog w) A.in1 (Builtin.«tuple.__eq__» ⟨[.ref l, .ref b], []⟩) Q E s := by
  obtain ⟨hp, g, d, tk, os⟩ := s
  obtain ⟨cls, od, dt, sl2⟩ := ob
  simp only at hc
  subst hc
  wp_walk using wpAny_loadPart' hl, wpAny_loadPart' hb, wpAny_load hb
  refine (PySem.W.looks_subIn X hs).here ?_
  wp_walk
  exact q
theorem int_dec {v : Value} {b : Addr} {dx : Addr} {Q : Fin → Shared → Prop} {E : Value → Shared → Prop} (hv : (∃ i t, v = .int i t) ∨ ∃ x, v = .bool x) (hb : s.heap.get? b = some (PySem.W.instObj C dx)) (q : Q (.done (.ret .notImplemented)) s) :
    wpAny (model prog w) A.in1 (Builtin.«int.__eq__» ⟨[v, .ref b], []⟩) Q E s := by
  obtain ⟨hp, g, d, tk, os⟩ := s
  rcases hv with ⟨i, t, rfl⟩ | ⟨x, rfl⟩
  · wp_walk using wpAny_loadPart' hb, wpAny_load hb
    exact q
  · wp_walk using wpAny_loadPart' hb, wpAny_load hb
    exact q
theorem str_dec {x : Str} {t : Tok} {b : Addr} {dx : Addr} {Q : Fin → Shared → Prop} {E : Value → Shared → Prop} (hb : s.heap.get? b = some (PySem.W.instObj C dx)) (q : Q (.done (.ret .notImplemented)) s) :
    wpAny (model prog w) A.in1 (Builtin.«str.__eq__» ⟨[.str x t, .ref b], []⟩) Q E s := by
  obtain ⟨hp, g, d, tk, os⟩ := s
  wp_walk using wpAny_loadPart' hb, wpAny_load hb
  exact q
end
def kPl : List String := ["NoneType", "bool", "int", "str", "list", "tuple"]
def eqfB (C : Addr) (K : PySem.W.Frag) : Bool := kPl.all fun T => decide (PySem.W.subIn K (.type T) (.ref C) = some false) && decide (PySem.W.subIn K (.ref C) (.type T) = some false)
structure EqF (K : PySem.W.Frag) (C : Addr) : Prop where
  up : ∀ T ∈ kPl, PySem.W.subIn K (.type T) (.ref C) = some false
  dn : ∀ T ∈ kPl, PySem.W.subIn K (.ref C) (.type T) = some false
theorem eqfB_ok {K : PySem.W.Frag} {C : Addr} (h : eqfB C K = true) : EqF K C := by
  have h2 := List.all_eq_true.mp h
  refine ⟨fun T hT => ?_, fun T hT => ?_⟩
  · exact of_decide_eq_true (Bool.and_eq_true_iff.mp (h2 T hT)).1
  · exact of_decide_eq_true (Bool.and_eq_true_iff.mp (h2 T hT)).2
/-- what a plain value tells: its type, and that its own == declines -/
structure Dcl (prog : Program) (w : World) (s : Shared) (u : Value) (b : Addr) (T : String) : Prop where
  mem : T ∈ kPl
  is : s.TypeIs u T
  lk : PySem.W.Looks (model prog w) s.heap (typeOf u) (.type T)
  no : ∀ (A : Around) (E : Value → Shared → Prop) (R : Option Value → Shared → Prop), R none s → wpAny (model prog w) A (tryCompare u "__eq__" (.ref b)) R E s
def plainB : D → Bool
  | .non | .bl _ | .int _ | .str _ | .lst _ | .tup _ => true
  | _ => false
section
variable {X : Cx} {pins : List (Addr × Obj)} {σ : L2.St} {H : Hp} {s : Shared} {C b dx : Addr}
theorem wants_none {u : Value} {A : Around} {E : Value → Shared → Prop} {R : Option Value → Shared → Prop} (h : R none s) : GQ.FinOf X.prog X.w A (wants (fun v s' => v = .notImplemented ∧ R none s') E) (.done (.ret .notImplemented)) s := ⟨rfl, h⟩
theorem dcl_of {w : Wd} {v : V} {u : Value} {d : D} (I : Inv X pins σ w.H s) (ok : Ok X.K w) (eq : EqF X.K C) (hp : plainB d = true) (r : Rp X.K w.I w.α v d) (rv : RelV v u) (hb : s.heap.get? b = some (PySem.W.instObj C dx)) : ∃ T, Dcl X.prog X.w s u b T := by
  have hbc : (PySem.W.instObj C dx).cls = .ref C := rfl
  cases d with
  | non =>
    obtain rfl := r.non'
    obtain rfl : u = .none := rv
    exact ⟨"NoneType", by decide, rfl, PySem.W.Looks.of_pure rfl, fun A E R h => wpAny_tryCompare_declines rfl F.slot_NoneType_eq (call_gives F.slot_NoneType_eq rfl F.entry_NoneType_eq (F.args_NoneType_eq_2 _ _) (NoneType___eq___none_ref_0 b) ⟨rfl, h⟩)⟩
  | bl x =>
    obtain rfl := r.bl'
    obtain rfl : u = .bool x := rv
    exact ⟨"bool", by decide, rfl, PySem.W.Looks.of_pure rfl, fun A E R h => wpAny_tryCompare_declines rfl F.slot_bool_eq (GQ.call_here F.slot_bool_eq rfl F.entry_int_eq (F.args_int_eq_2 _ _) (int_dec (.inr ⟨x, rfl⟩) hb (wants_none (u := .none) h)))⟩
  | int x =>
    obtain rfl := r.int'
    obtain ⟨t, rfl⟩ : ∃ t, u = .int x t := rv
    exact ⟨"int", by decide, typeIs_int s x t, PySem.W.Looks.of_pure rfl, fun A E R h => wpAny_tryCompare_declines (typeIs_int s x t) F.slot_int_eq (GQ.call_here F.slot_int_eq (typeIs_int s x t) F.entry_int_eq (F.args_int_eq_2 _ _) (int_dec (.inl ⟨x, t, rfl⟩) hb (wants_none (u := .none) h)))⟩
  | str x =>
    obtain rfl := r.str'
    obtain ⟨t, rfl⟩ : ∃ t, u = .str x t := rv
    exact ⟨"str", by decide, typeIs_str s x t, PySem.W.Looks.of_pure rfl, fun A E R h => wpAny_tryCompare_declines (typeIs_str s x t) F.slot_str_eq (GQ.call_here F.slot_str_eq (typeIs_str s x t) F.entry_str_eq (F.args_str_eq_2 _ _) (str_dec hb (wants_none (u := .none) h)))⟩
  | lst xs =>
    obtain ⟨p, vs, rfl, hI, _⟩ := r.lst'
    obtain rfl : u = .ref p := rv
    obtain ⟨_, its, n, _, h1⟩ := (show ObjOk X.prog X.w w.H s.heap p (.lst vs) from I.hok p _ (ok.sub _ _ hI))
    have ti : s.TypeIs (.ref p) "list" := ⟨_, h1, rfl⟩
    exact ⟨"list", by decide, ti, (PySem.W.Looks.ld h1).andThen PySem.W.Looks.now, fun A E R h => wpAny_tryCompare_declines ti F.slot_list_eq (GQ.call_here F.slot_list_eq ti F.entry_list_eq (F.args_list_eq_2 _ _) (list_dec I.kIn h1 hb hbc (eq.dn _ (by decide)) (wants_none (u := .none) h)))⟩
  | tup xs =>
    obtain ⟨p, vs, rfl, hI, _⟩ := r.tup'
    obtain rfl : u = .ref p := rv
    obtain ⟨o, its, n, h1, hc, hd⟩ : ∃ o its n, s.heap.get? p = some o ∧ o.cls = .type "tuple" ∧ o.data = .seq its n := by
      rcases ok.sqT hI with h | ⟨o, its, n, h1, h2, h3, _⟩
      · obtain ⟨_, its, _, o, h1, h2, n, h3⟩ := (show ObjOk X.prog X.w w.H s.heap p (.tup vs) from h.ok I.hok)
        exact ⟨o, _, n, h1, h2, h3⟩
      · exact ⟨o, its, n, I.kIn p o h1, h2, h3⟩
    obtain ⟨cls, dd, dt, sl⟩ := o
    simp only at hc hd
    subst hc hd
    have ti : s.TypeIs (.ref p) "tuple" := ⟨_, h1, rfl⟩
    exact ⟨"tuple", by decide, ti, (PySem.W.Looks.ld h1).andThen PySem.W.Looks.now, fun A E R h => wpAny_tryCompare_declines ti F.slot_tuple_eq (GQ.call_here F.slot_tuple_eq ti F.entry_tuple_eq (F.args_tuple_eq_2 _ _) (tuple_dec I.kIn h1 hb hbc (eq.dn _ (by decide)) (wants_none (u := .none) h)))⟩
  | _ => cases hp
end
def oOwn2 (C : Addr) (m : DFn) : DOp := fun S x y k =>
  ((∃ fs, x = .ins C fs) ∧ ((∃ gs, y = .ins C gs) ∨ plainB y = true) ∧ m [x, y] S (fun z S' => S' = S ∧ k z) (fun _ _ => False)) ∨
  (plainB x = true ∧ (∃ gs, y = .ins C gs) ∧ m [y, x] S (fun z S' => S' = S ∧ k z) (fun _ _ => False))
def rOwn2 (K : PySem.W.Frag) (C : Addr) (m : DFn) : R2 := fun x y H Q => ∃ (w : Wd) (d e : D), w.H = H ∧ Ok K w ∧ Rp K w.I w.α x d ∧ Rp K w.I w.α y e ∧
  ∃ Qd : D → Prop, oOwn2 C m w.S d e Qd ∧ ∀ z v w', Qd z → Le w w' → w'.S = w.S → Ok K w' → Rp K w'.I w'.α v z → Q v w'.H
theorem sem_own2 {K : PySem.W.Frag} {C : Addr} {m : DFn} : SemOp K (rOwn2 K C m) (oOwn2 C m) :=
  fun w x y d e Qd Q ok rx ry h q => ⟨w, d, e, rfl, ok, rx, ry, Qd, h, q⟩
section
variable {X : Cx} {W : WX} {k : Nat} {f C : Addr} {m : DFn}
/-- x == y where x's type gives way and y has the own __eq__ -/
theorem cmp_rev {prog : Program} {w : World} {A : Around} {E : Value → Shared → Prop} {s : Shared} {K : PySem.W.Frag} {y L : Addr} {h₀ : Heap} {mm : Str → Option Value} {ox : Obj} {od : Option Obj} {u : Value} {T : String} {Q : Value → Shared → Prop}
    (hu : A.units < cLine) (X : K.In s.heap) (I : PySem.W.InstAt s.heap y ox C od) (d : Dcl prog w s u y T) (hT : PySem.W.subIn K (.ref C) (.type T) = some false)
    (hs : PySem.W.findIn K (.ref C) "__eq__" = some (some (.ref f))) (hf : PySem.W.isFn K (.ref f) = true)
    (h : wpAny (model prog w) A (call (.ref f) [.ref y, u]) (PySem.W.CmpBack Q) E s) : wpAny (model prog w) A (richCompare .Eq u (.ref y)) Q E s := by
  have one : wpAny (model prog w) A (tryCompare (.ref y) "__eq__" u) (fun r s' => ∃ v, r = some v ∧ Q v s') E s := by
    unfold tryCompare
    refine wpAny_bind (PySem.W.ifBound_K X I hs hf (wpAny_mono h (fun v s' hv => ?_) fun _ _ e => e))
    cases v <;> first | exact hv.elim | exact wpAny_pure ⟨_, rfl, hv⟩
  unfold richCompare
  simp only [d.is.oneThing_none]
  refine wpAny_holding (wpAny_bind (wpAny_cRoomFor hu ?_))
  refine wpAny_bind (d.lk.here (wpAny_bind (I.type.here ?_)))
  have hne : (Value.type T != Value.ref C) = true := by simp
  simp only [hne, if_true]
  refine wpAny_bind ((PySem.W.looks_subIn X hT).here ?_)
  simp only [Bool.false_eq_true, if_false]
  refine wpAny_bind (d.no _ _ _ ?_)
  refine wpAny_bind (wpAny_mono one (fun r s' z => ?_) fun _ _ e => e)
  obtain ⟨v, rfl, hq⟩ := z
  exact wpAny_pure hq
theorem op_own2 (c : Cal X.prog X.w X.K X.mg X.base k f 2 m []) (hM : Meth X.K C "__eq__" f) (eq : EqF X.K C) (hr : Room k X.A) (tk : Takes X W) : OpR X (compareOp .Eq) (rOwn2 X.K C m) := by
  intro pins s σ H x y v u Q I rx ry h
  obtain ⟨w, d, e, rfl, ok, rd, re, Qd, hm, q⟩ := h
  obtain ⟨fd, ps, ds, dvs, F, hbi, hds, hdd, hk⟩ := c.ex
  obtain ⟨mm, hF⟩ := I.fr
  show wpAny (model X.prog X.w) X.A (richCompare .Eq v u) (EP X pins σ Q) X.xe s
  rcases hm with ⟨⟨fs, rfl⟩, hy, hm⟩ | ⟨hx, ⟨gs, rfl⟩, hm⟩
  · obtain ⟨a, dx, vs, rfl, ha, _⟩ := rd.ins'
    cases rx
    obtain ⟨mA, J, _⟩ := ins_get I.hok (ok.sub _ _ ha)
    obtain ⟨od, J, _⟩ := J.look
    have fin : ∃ tb, PySem.W.Looks (model X.prog X.w) s.heap (typeOf u) tb ∧ PySem.W.notFirst X.K C tb = true := by
      rcases hy with ⟨gs, rfl⟩ | hy
      · obtain ⟨b, dy, ws, rfl, hb, _⟩ := re.ins'
        cases ry
        obtain ⟨mB, J', _⟩ := ins_get I.hok (ok.sub _ _ hb)
        obtain ⟨od', J', _⟩ := J'.look
        exact ⟨_, J'.type, by simp [PySem.W.notFirst]⟩
      · obtain ⟨_, _, _, h4, _⟩ := (show ObjOk X.prog X.w w.H s.heap a (.ins C dx vs) from I.hok a _ (ok.sub _ _ ha))
        obtain ⟨T, dc⟩ := dcl_of I ok eq hy re ry h4
        exact ⟨_, dc.lk, by unfold PySem.W.notFirst; rw [eq.up T dc.mem]; simp⟩
    obtain ⟨tb, l1, l2⟩ := fin
    refine PySem.W.cmp_K (op := .Eq) (tb := tb) hr.units0 hF I.ok.mod.kin J l1 l2 hM.at_ hM.fn ?_
    have r2 : RpL X.K w.I w.α ([V.ref a, y] ++ dvs) ([.ins C fs, e] ++ []) := (RpL.cons rd (.cons re .nil)).append (hdd.r _ _)
    have sp : toSp X.K 2 m ([V.ref a, y] ++ dvs) w.H Q (WE W σ) := sp_of (us := [.ins C fs, e]) (Qd := fun z S' => S' = w.S ∧ Qd z) (Ed := fun _ _ => False) ok (.refl w) r2 rfl hm
      (fun z v w' h1 h2 h3 h4 => q z v w' h1.2 h2 h1.1 h3 h4) (fun er w' dx h1 => h1.elim)
    refine wpAny_mono (run_at (us := [.ref a, u]) (vs := [.ref a, y]) F hr tk hbi hds I (.cons rfl (.cons ry .nil)) sp) (fun r s' z => ?_) fun _ _ x => x
    obtain ⟨z', H', I', rz, qz⟩ := z
    exact SlX.cmpback rz ⟨z', H', I', rz, qz⟩
  · obtain ⟨b, dy, ws, rfl, hb, _⟩ := re.ins'
    cases ry
    obtain ⟨mB, J, _⟩ := ins_get I.hok (ok.sub _ _ hb)
    obtain ⟨od, J, _⟩ := J.look
    obtain ⟨_, _, _, h4, _⟩ := (show ObjOk X.prog X.w w.H s.heap b (.ins C dy ws) from I.hok b _ (ok.sub _ _ hb))
    obtain ⟨T, dc⟩ := dcl_of I ok eq hx rd rx h4
    refine cmp_rev (L := X.env.locals) (h₀ := X.base) (mm := mm) hr.units0 I.kIn J dc (eq.dn T dc.mem) hM.at_ hM.fn ?_
    have r2 : RpL X.K w.I w.α ([V.ref b, x] ++ dvs) ([.ins C gs, d] ++ []) := (RpL.cons re (.cons rd .nil)).append (hdd.r _ _)
    have sp : toSp X.K 2 m ([V.ref b, x] ++ dvs) w.H Q (WE W σ) := sp_of (us := [.ins C gs, d]) (Qd := fun z S' => S' = w.S ∧ Qd z) (Ed := fun _ _ => False) ok (.refl w) r2 rfl hm
      (fun z v w' h1 h2 h3 h4 => q z v w' h1.2 h2 h1.1 h3 h4) (fun er w' dx h1 => h1.elim)
    refine wpAny_mono (run_at (us := [.ref b, v]) (vs := [.ref b, x]) F hr tk hbi hds I (.cons rfl (.cons rx .nil)) sp) (fun r s' z => ?_) fun _ _ x => x
    obtain ⟨z', H', I', rz, qz⟩ := z
    exact SlX.cmpback rz ⟨z', H', I', rz, qz⟩
end
end DL
namespace DL
open PySem L2
/-- one statement at a time -/
theorem st_step {δ : Lo} {S : Sto} {B : DEnds} (s : DS) {t : DS} (P : Lo → Sto → Prop) (h : ∀ B1 : DEnds, B1.rt = B.rt → B1.ex = B.ex → B1.bk = B.bk → B1.ct = B.ct → (∀ δ' S', P δ' S' → B1.nx δ' S') → s B1 δ S) (k : ∀ δ' S', P δ' S' → t B δ' S') : s (kSeq t B) δ S := h (kSeq t B) rfl rfl rfl rfl k
theorem put_self {S : Sto} {n : Nat} {c : Cell} (h : S n = some c) : put S n c = S := by
  funext k
  by_cases z : k = n
  · rw [z, put_same, h]
  · rw [put_ne z]
end DL

set_option maxHeartbeats 4000000
/-! ## 61. is True, is False; << >> & | -/
namespace DL
open PySem PySem.Spec L2
def oIsB (neg : Bool) : DOp := fun _ x y k => match x with
  | .bl a => (match y with | .bl b => k (.bl (neg ^^ decide (a = b))) | _ => False)
  | _ => False
section
variable {K : PySem.W.Frag} {X : Cx}
theorem sem_isB : SemOp K (fun x y H Q => ∃ a b, x = .bl a ∧ y = .bl b ∧ Q (.bl (decide (a = b))) H) (oIsB false) := by
  intro w x y d e Qd Q ok rx ry h q
  cases d with
  | bl a =>
    cases e with
    | bl b =>
      cases rx; cases ry
      exact ⟨a, b, rfl, rfl, q _ _ w (by simpa [oIsB] using h) (.refl w) rfl ok (.bl _)⟩
    | _ => exact h.elim
  | _ => exact h.elim
theorem sem_isNB : SemOp K (fun x y H Q => ∃ a b, x = .bl a ∧ y = .bl b ∧ Q (.bl (!decide (a = b))) H) (oIsB true) := by
  intro w x y d e Qd Q ok rx ry h q
  cases d with
  | bl a =>
    cases e with
    | bl b =>
      cases rx; cases ry
      exact ⟨a, b, rfl, rfl, q _ _ w (by simpa [oIsB] using h) (.refl w) rfl ok (.bl _)⟩
    | _ => exact h.elim
  | _ => exact h.elim
end
@[simp] theorem ev_isBt {neg a : Bool} {S : Sto} {k : D → Prop} : oIsB neg S (.bl a) (.bl true) k = k (.bl (neg ^^ a)) := by
  show k (.bl (neg ^^ decide (a = true))) = _
  rw [Bool.decide_eq_true]
@[simp] theorem ev_isBf {neg a : Bool} {S : Sto} {k : D → Prop} : oIsB neg S (.bl a) (.bl false) k = k (.bl (neg ^^ !a)) := by
  show k (.bl (neg ^^ decide (a = false))) = _
  rw [show decide (a = false) = !a by cases a <;> rfl]
abbrev oShl : DOp := oI CShl fun i j => i * 2 ^ j.toNat
abbrev oShr : DOp := oI (fun _ j => 0 ≤ j) fun i j => i / 2 ^ j.toNat
abbrev oAnd : DOp := oI0 fun i j => Builtin.bitAnd i j
abbrev oOr : DOp := oI0 fun i j => Builtin.bitOr i j
theorem sgw_gTA {K : PySem.W.Frag} {is : List Nat} {n : Nat} {vs : List Nat} (hn : is.length = n) (hi : ∀ i ∈ is, i ∈ vs) : SemGW K vs (gAny K n (gNames is)) (gTA is) := fun w v d σ δ Qd Q ok r lo h q => by
  obtain ⟨ds, h0, h⟩ := opt_of h
  obtain ⟨δ', h1, h2⟩ := opt_of h
  obtain ⟨p, us, rfl, hp, rr⟩ := asSq_sem ok r h0
  have fin := sgw_names ok q is ds us σ δ δ' hi rfl rr lo h1 h2
  have hl : us.length = n := by rw [rr.length, setsD_len h1, hn]
  rcases hp with hp | hp
  · exact .inr ⟨p, us, rfl, hp, hl, fin⟩
  · exact .inl ⟨p, us, rfl, hp, hl, fin⟩
end DL

set_option maxHeartbeats 4000000
/-! ## 62. == of instances with an own __eq__ within an except suite -/
namespace DL
open PySem PySem.Spec PyProof.Rows L2 L2H
theorem _root_.L2H.RoomH.units {k : Nat} {A : Around} (r : RoomH k A) : A.units + 64 < cLine := by have := r.un; omega
/-- what a def promises wherever it is called, whatever is handled there -/
structure FnP (P : Program) (w : World) (K : PySem.W.Frag) (mg : Str → Option Value) (base : Heap) (CX : CXT) (k : Nat) (f : Addr) (fd : FuncData) (ps : List Str) (sp : Sp) : Prop where
  len : ∀ vs H Q E, sp vs H Q E → vs.length = ps.length
  run : ∀ (A : Around) (outer : List Env) (s : Shared) (H : Hp) (args : Args) (us : List Value) (vs : List V) (Q : VK) (E : XK) (p : Addr × Obj), RoomH k A → PinOk outer H s p → Env0 P w K mg base A outer s H → BindsTo s fd args (ps.zip us) → Vals vs us → sp vs H Q E →
    codeAny (model P w) A (.call (.ref f) args) (CR CX outer P w H s Q E) s
theorem fn_ofP {CX : CXT} {P : Program} {w : World} {K : PySem.W.Frag} {mg : Str → Option Value} {base : Heap} {k : Nat} {f : Addr} {name qual : Str} {params : Arguments} {body : List Stmt} {scope : Scope} {dV kV doc pm cdv ct oc : Value} {an od : Option Addr}
    {osl : Array (Option Value)} {N ps : List Str} {sp : Sp} (lk : K.lookup f = some ⟨oc, od, .func (PySem.W.fnOf name qual params body scope dV kV doc pm an cdv ct), osl⟩) (hcd : PySem.W.codeIn K cdv qual = true) (S : FnScope N ps scope)
    (len : ∀ vs H Q E, sp vs H Q E → vs.length = ps.length)
    (hbody : ∀ (A : Around) (outer : List Env) (s : Shared) (H : Hp) (vs : List V) (Q : VK) (E : XK) (p : Addr × Obj), RoomH k (A.deeper (envOfC qual scope s.heap.objs.size f cdv)) → sp vs H Q E →
      ∃ t, PSs (cxH CX P w K mg base N qual scope f cdv A outer s H E p) body t ∧ t { nx := fun _ H' => Q .non H', rt := Q } (L2.start N vs) H) :
    FnP P w K mg base CX (k + 1) f (PySem.W.fnOf name qual params body scope dV kV doc pm an cdv ct) ps sp := by
  refine ⟨len, fun A outer s H args us vs Q E p hr hpin e0 hb r hsp => ?_⟩
  have KX : K.In s.heap := e0.mod.kin.keeps fun b o e => (e0.bs b o e).1
  have kd : ∀ y ∈ ps.zip us, scope.names.lookup y.1 = some .local ∨ (scope.names.lookup y.1 = some .cell ∧ ((cellsFrom (s.heap.objs.size + 1) scope.names []).lookup y.1).isSome = true) := fun ⟨n, v⟩ hy =>
    (S.par n (List.of_mem_zip hy).1).imp id fun q => ⟨q, PySem.W.cellsFrom_some _ _ _ (.inl q)⟩
  refine codeAny_call_function hr.depth (KX _ _ lk) rfl S.co S.gen rfl (PySem.W.codeRec_of KX hcd) (hb _ _ _ _ (wpAny_newFunctionEnv_cells S.kind kd fun env he s1 x => ?_))
  subst he
  refine ⟨(e0.mod.nolimit.keeps fun b o e => (e0.bs b o e).1).keeps x.toInCall.keep, codeAny_func ?_⟩
  obtain ⟨t, ht, hq⟩ := hbody A outer s H vs Q E p (hr.deeper _) hsp
  have I := inv_startH (CX := CX) (P := P) (w := w) (K := K) (mg := mg) (base := base) (E := E) S hpin e0 (len _ _ _ _ hsp) r x
  refine wpAny_mono (ht.run [] s1 (L2.start N vs) H _ I hq) (fun fl s' hs => ?_) fun e s' hs => hs
  cases fl with
  | ret u =>
    obtain ⟨v, σ', H', J, rv, q⟩ := hs
    exact ⟨v, H', J.os, J.bare, J.base, J.hok, rv, q⟩
  | next =>
    obtain ⟨σ', H', J, q⟩ := hs
    exact ⟨V.non, H', J.os, J.bare, J.base, J.hok, (rfl : RelV V.non Value.none), q⟩
  | brk =>
    obtain ⟨_, _, _, q⟩ := hs
    exact False.elim q
  | cont =>
    obtain ⟨_, _, _, q⟩ := hs
    exact False.elim q
section
variable {P : Program} {w0 : World} {K : PySem.W.Frag} {mg : Str → Option Value} {base : Heap}
theorem fn_okP {x qual : Str} {st : Stmt} {dvs : List V} {f : Addr} {fd : FuncData} {N ps : List Str} {k : Nat} {t : DS} (F : FunD K x qual (defArgs st) (defBody st) (defScope st) dvs [] f fd) (S : FnScope N ps (defScope st))
    (hb : ∀ (cdv : Value) (A : Around) (outer : List Env) (s : Shared) (H : Hp) (E : XK) (p : Addr × Obj), RoomH k (A.deeper (PyProof.Rows.envOfC qual (defScope st) s.heap.objs.size f cdv)) → PSs (cxH (L2.CX P w0) P w0 K mg base N qual (defScope st) f cdv A outer s H E p) (defBody st) (toS K (WF E) t)) :
    FnP P w0 K mg base (L2.CX P w0) (k + 1) f fd ps (toSp K ps.length (fnD N.length t)) := by
  obtain ⟨oc, od, dV, kV, doc, pm, an, cdv, ct, osl, rfl, lk, hcd, _, _⟩ := F.ex
  refine fn_ofP lk hcd S (fun vs H Q E h => h.1) fun A outer s H vs Q E p hr h => ⟨_, hb cdv A outer s H E p hr, ?_⟩
  obtain ⟨_, w, us, Qd, Ed, rfl, ok, r, h, q, e⟩ := h
  exact ⟨w, _, _, rfl, ok, lo_start r, h, ends_fn q e⟩
end
theorem FnP.mono {P : Program} {w : World} {K : PySem.W.Frag} {mg : Str → Option Value} {base : Heap} {CX : CXT} {j k : Nat} {f : Addr} {fd : FuncData} {ps : List Str} {sp : Sp} (F : FnP P w K mg base CX j f fd ps sp) (h : j ≤ k) : FnP P w K mg base CX k f fd ps sp :=
  ⟨F.len, fun A outer s H args us vs Q E p hr => F.run A outer s H args us vs Q E p (hr.mono h)⟩
theorem roomS {k : Nat} {A : Around} {v : Option Value} (r : Room k A) : RoomH k (A.mark v) := ⟨r.dp, r.un⟩
def EqCalP (X : Cx) (k : Nat) (C : Addr) (m : DFn) : Prop := ∃ f, (∃ fd ps, FnP X.prog X.w X.K X.mg X.base (L2.CX X.prog X.w) k f fd ps (toSp X.K 2 m) ∧ Binds X.K fd ps []) ∧ Meth X.K C "__eq__" f
def oEqP (L : List (Addr × DFn)) : DOp := fun S x y k => oEq false S x y k ∨ (x = y ∧ noM x = true ∧ (∃ q ∈ L, ∃ fs, x = .ins q.1 fs ∧ Self q.2 x) ∧ k (.bl true))
def DInP (K : PySem.W.Frag) (L : List (Addr × DFn)) : Eqv := fun x y H => ∃ q ∈ L, DIns q.1 (InsR K q.1 q.2) x y H
def rEqP (K : PySem.W.Frag) (L : List (Addr × DFn)) : R2 := fun x y H Q => rEqU K x y H Q ∨ rEqG (DInP K L) x y H Q
section
variable {X : Cx} {k : Nat} {L : List (Addr × DFn)}
theorem op_eqP (hp : ∃ p : Addr × Obj, p ∈ X.pn) (hL : ∀ q ∈ L, EqCalP X k q.1 q.2) (hr : RoomH k X.A) (hu : X.A.units + 64 < cLine) : OpR X (compareOp .Eq) (rEqP X.K L) := by
  refine (op_eqU hu).or ?_
  intro pins s σ H x y v u Q I rx ry hq
  obtain ⟨⟨q, hqL, a, b, dx, dy, fs, gs, rfl, rfl, ha, hb', hR⟩, q0⟩ := hq
  obtain ⟨f, ⟨fd, ps, F, hb⟩, hM⟩ := hL q hqL
  obtain ⟨p, hpp⟩ := hp
  cases rx
  cases ry
  show wpAny (model X.prog X.w) X.A (richCompare .Eq _ _) (EP X pins σ Q) X.xe s
  obtain ⟨mA, J, _⟩ := ins_get I.hok ha
  obtain ⟨mB, J', _⟩ := ins_get I.hok hb'
  obtain ⟨od, J, _⟩ := J.look
  obtain ⟨od', J', _⟩ := J'.look
  obtain ⟨m, hF⟩ := I.fr
  refine PySem.W.cmp_K (op := .Eq) (tb := .ref q.1) (by omega) hF I.ok.mod.kin J J'.type (by simp [PySem.W.notFirst]) hM.at_ hM.fn ?_
  have hsp : toSp X.K 2 q.2 [.ref a, .ref b] H (fun v H' => v = .bl true ∧ Ext H H') (fun _ _ _ => False) := by
    obtain ⟨I0, fs', hI, ra, rb, hs⟩ := hR
    refine ⟨rfl, ⟨I0, aN, kN, H⟩, [.ins q.1 fs', .ins q.1 fs'], fun z _ => z = .bl true, fun _ _ => False, rfl, ⟨hI, fun n c z => (nomatch z), fun n m p z => absurd rfl z, ⟨0, fun _ _ => rfl⟩⟩, .cons ra (.cons rb .nil), hs, fun d v w' hd l ok r => ?_, fun _ _ _ z => z.elim⟩
    subst hd
    rw [r.bl']
    exact ⟨rfl, fun p o hp => l.hh p o hp fun n hn => absurd rfl hn⟩
  have hl := F.len _ _ _ _ hsp
  have P1 := I.pin p (List.mem_append_left _ hpp)
  have hpin : PinOk X.stack H s p := ⟨P1.1, P1.2.1, fun hm => (List.mem_cons.mp (I.stkSub p.1 hm)).elim P1.2.2.1 P1.2.2.2.1, P1.2.2.2.2⟩
  refine wpAny_call (codeAny_mono (F.run X.A X.stack s H ⟨[.ref a, .ref b], []⟩ [.ref a, .ref b] [.ref a, .ref b] _ _ p hr hpin I.env0 (by
    have := hb s [.ref a, .ref b] I.kIn (by simpa using hl)
    simpa using this) (.cons rfl (.cons rfl .nil)) hsp) fun r s' hq => ?_)
  cases r with
  | error e =>
    obtain ⟨_, _, _, _, _, _, _, _, _, _, _, _, _, z⟩ := hq
  | ok fl =>
    cases fl with
    | ret w =>
      obtain ⟨z, H', I', rz, ez, ex⟩ := I.after hq
      subst ez
      cases rz
      exact ⟨.bl true, H', I', rfl, q0 H' ex⟩
    | next => exact False.elim hq
    | brk => exact False.elim hq
    | cont => exact False.elim hq
end
theorem sem_eqP {K : PySem.W.Frag} {L : List (Addr × DFn)} : SemOp K (rEqP K L) (oEqP L) := by
  intro w x y d e Qd Q ok rx ry h q
  rcases h with h | ⟨rfl, hn, ⟨p, hm, fs, rfl, hs⟩, h⟩
  · exact .inl (sem_eq w x y d e Qd Q ok rx ry h q)
  refine .inr ⟨?_, fun H' he => side_q ok he h q⟩
  obtain ⟨a, dx, vs, rfl, h1, p1⟩ := rx.ins'
  obtain ⟨b, dy, us, rfl, h2, p2⟩ := ry.ins'
  exact ⟨_, hm, a, b, dx, dy, vs, us, rfl, rfl, ok.sub _ _ h1, ok.sub _ _ h2, w.I, _, ok.sub, Rp.noM hn rx, Rp.noM hn ry, hs⟩
/-- at data and itself -/
theorem eqP_self {L : List (Addr × DFn)} {S : Sto} {d : D} {k : D → Prop} (hn : noM d = true) (h : (∃ n, pln n d = true ∧ n ≤ 60) ∨ ∃ q ∈ L, ∃ fs, d = .ins q.1 fs ∧ Self q.2 d) (hk : k (.bl true)) : oEqP L S d d k := by
  rcases h with ⟨n, hp, hn2⟩ | h
  · exact .inl (by rw [eq_self hp (by omega)]; exact hk)
  · exact .inr ⟨rfl, hn, h, hk⟩
end DL

set_option maxHeartbeats 4000000
/-! ## 63. Classmethods: C.m(..), cls(..) -/
namespace DL
open PySem PySem.Spec PyProof.Rows L2
/-- C.m(e, ..), m a classmethod of the class at C -/
def dCMeth (C : Addr) (n : Nat) (m : DFn) (ta : DA) : DE := fun δ S Q E => ta δ S (fun us S1 => us.length + 1 = n ∧ m (.cv (.ref C) :: us) S1 Q E) E
/-- cls(e, ..), cls the i-th slot -/
def dMakeL (i : Nat) (C : Addr) (n : Nat) (pp : DFn) (dd : List D) (ta : DA) : DE := fun δ S Q E => δ[i]? = some (some (.cv (.ref C))) ∧ dCall n pp dd ta δ S Q E
section
variable {X : Cx} {W : WX} {k n i : Nat} {f g C p : Addr} {mc : Value} {m pp : DFn} {x mt : Str} {px pos apos : Pos} {e : Expr} {es : List Expr} {ta : DA} {dd : List D} {pl : Sem Bool}
theorem de_cmeth (c : Cal X.prog X.w X.K X.mg X.base k g n m []) (r : ClX.CRead X.K C mc) (cm : ClX.CMet X.K C mc mt p g) (hr : Room k X.A) (tk : Takes X W) (hg : Gl X x) (hm : X.mg x = some (.ref C)) (ha : PA X (e :: es) (toA X.K W ta))
    (hdb : (x == ("__debug__" : Str)) = false := by decide) (h1 : starEach (e :: es) X.env = (false, eval e X.env) :: starEach es X.env := by rfl) (h2 : (backTo pos (starEach es X.env)).any (·.1) = false := by rfl)
    (h3 : eval (.Call (.Attribute (.Name x px) mt apos) (e :: es) [] pos) X.env = (do
      let ov ← eval (.Name x px) X.env
      standAt apos.atName
      let (f, first) ← holding [ov] (getMethod ov mt pl)
      callWith pos f first (backTo pos (starEach (e :: es) X.env)) (backToKw pos (keywordEach [] X.env))) := by rfl) :
    PE X (.Call (.Attribute (.Name x px) mt apos) (e :: es) [] pos) (toE X.K W (dCMeth C n m ta)) := by
  obtain ⟨fd, ps, ds, dvs, F, hb, hd, hdd, hk⟩ := c.ex
  have h0 : dvs = [] := by
    have := (hdd.r (fun _ => none) aN).length
    simpa using this
  subst h0
  cases hd
  constructor
  intro pins s σ H Q I h
  obtain ⟨w, δ, Qd, Ed, rfl, ok, lo, t, q, ec⟩ := h
  refine PySem.W.methodCall_KW (pl := pl) (ld_glob I hg hm ?_ hdb) h3
  refine ClX.getmethcm_ok I r cm fun s2 I2 => ?_
  refine ClX.callwith_cm I2 (ClX.base_none I (Nat.le_refl _)) cm.fi (thn (ha.run pos _ s2 σ _ (fun ws H2 => ∃ (w2 : Wd) (us : List D), w2.H = H2 ∧ Le w w2 ∧ Ok X.K w2 ∧ RpL X.K w2.I w2.α ws us ∧ us.length + 1 = n ∧ m (.cv (.ref C) :: us) w2.S Qd Ed) I2
    ⟨w, δ, _, Ed, rfl, ok, lo, t, fun us vs w2 t2 l2 ok2 r2 => ⟨w2, us, rfl, l2, ok2, r2, t2⟩, ec⟩) fun us s3 hq => ⟨⟨ClX.pin_at hq.choose_spec.choose_spec.1, hq.choose_spec.choose_spec.1.kIn⟩, ?_⟩) h1 h2
  obtain ⟨ws, H2, I3, rw2, w2, us2, rfl, l2, ok2, r2, hn, hm2⟩ := hq
  have hsp : toSp X.K n m (.ref C :: ws) w2.H Q (WE W σ) := sp_of (us := .cv (.ref C) :: us2) ok2 l2 (.cons (.cv _) r2) (by simpa using hn) hm2 q ec
  have hl : (Value.ref C :: us).length = ps.length := by
    have := F.len _ _ _ _ hsp
    rw [← this]
    simp [rw2.length]
  have z : wpAny (model X.prog X.w) X.A (call (.ref s.heap.objs.size) us) (EP X ((s.heap.objs.size, PySem.W.methodObj (.ref g) (.ref C)) :: pins) σ Q) X.xe s3 := by
    refine wpAny_call (PySem.W.method_call (ClX.pin_at I3) (codeAny_mono (F.run X.A X.stack s3 w2.H ⟨.ref C :: us, []⟩ (.ref C :: us) (.ref C :: ws) Q (WE W σ) hr I3.env0 (by
      have := hb s3 (.ref C :: us) I3.kIn (by simpa using hl)
      simpa using this) (.cons rfl rw2) hsp) fun r s' hq => ?_))
    cases r with
    | error e => exact passAt tk σ _ _ _ _ _ I3 hq
    | ok fl =>
      cases fl with
      | ret u => exact I3.after hq
      | next => exact False.elim hq
      | brk => exact False.elim hq
      | cont => exact False.elim hq
  exact thn z fun _ _ y => ClX.unpinE y
end
section
variable {X : Cx} {W : WX} {k n i : Nat} {f C : Addr} {fd : FuncData} {ps : List Str} {ds : List Value} {dvs : List V} {sp : Sp} {E : L2.St → XK} {m pp : DFn} {x : Str} {p pos : Pos} {e : Expr} {es : List Expr} {ta : DA} {dd : List D}
def tMakeSL (i : Nat) (C : Addr) (sp : Sp) (dvs : List V) (E : L2.St → XK) (t : TA) : TE := fun σ H Q => σ[i]? = some (some (.ref C)) ∧ tMakeS C sp dvs E t σ H Q
theorem pe_makeSL {t : TA} (M : Mk X.K C f) (F : FnOk X.prog X.w X.K X.mg X.base (L2.CX X.prog X.w) k f fd ps sp) (hr : Room (k + 1) X.A) (hN : X.N[i]? = some x) (hv : Vis X.env.scope x) (hb : Binds X.K fd ps ds) (hd : Vals dvs ds) (hx : ∀ σ, PassesAt (L2.CX X.prog X.w) X σ (E σ)) (ha : PA X (e :: es) t)
    (hdb : (x == ("__debug__" : Str)) = false := by decide) (hcd : (x == ("__classdict__" : Str)) = false := by decide) (h1 : starEach (e :: es) X.env = (false, eval e X.env) :: starEach es X.env := by rfl) (h2 : (backTo pos (starEach es X.env)).any (·.1) = false := by rfl) :
    PE X (.Call (.Name x p) (e :: es) [] pos) (tMakeSL i C sp dvs E t) := by
  constructor
  intro pins s σ H Q I h
  obtain ⟨hs, ht⟩ := h
  refine wpAny_Call_Name_kw (thn ((pe_var (pos := p) hN hv hdb hcd).run pins s σ H (fun v H1 => v = .ref C ∧ H1 = H) I ⟨.ref C, hs, rfl, rfl⟩) fun u s1 ⟨v, H1, I1, r1, q1⟩ => ?_)
  obtain ⟨rfl, rfl⟩ := q1
  cases r1
  refine PySem.W.callWith_K (h₀ := X.base) I.ok.mod.kin M.kp (thn (ha.run pos pins s1 σ _ _ I1 ht) fun us s2 hq => ?_) h1 h2
  obtain ⟨vs, H2, J, r, q⟩ := hq
  exact ⟨J.kIn, make_at M F hr hb hd (hx σ) J r q⟩
theorem de_makePFL (hp : Sp2 pp (mkF C m)) (c : Cal X.prog X.w X.K X.mg X.base k f (n + 1) m dd) (M : Mk X.K C f) (hr : Room (k + 1) X.A) (tk : Takes X W) (hN : X.N[i]? = some x) (hv : Vis X.env.scope x) (ha : PA X (e :: es) (toA X.K W ta))
    (hdb : (x == ("__debug__" : Str)) = false := by decide) (hcd : (x == ("__classdict__" : Str)) = false := by decide) (h1 : starEach (e :: es) X.env = (false, eval e X.env) :: starEach es X.env := by rfl) (h2 : (backTo pos (starEach es X.env)).any (·.1) = false := by rfl) : PE X (.Call (.Name x p) (e :: es) [] pos) (toE X.K W (dMakeL i C n pp dd ta)) := by
  obtain ⟨fd, ps, ds, dvs, F, hb, hd, hdd, hk⟩ := c.ex
  refine pimp (pe_makeSL (i := i) M F hr hN hv hb hd (fun σ => passAt tk σ) ha hdb hcd h1 h2) fun σ H Q h => ?_
  obtain ⟨w, δ, Qd, Ed, rfl, ok, lo, ⟨t0, t⟩, q, ec⟩ := h
  refine ⟨?_, w, δ, _, Ed, rfl, ok, lo, t, fun us vs w1 t1 l1 ok1 r1 => ?_, ec⟩
  · obtain ⟨v, hv1, hv2⟩ := lo.2 _ _ t0
    rw [hv1, hv2.cv']
  have hl := t1.1
  rw [List.length_append] at hl
  refine toE_make (fun _ S2 k => ∃ fs, S2 k = some (.ins C fs) ∧ Qd (.ins C fs) (del S2 k)) Qd ok1 r1 hdd (by omega) (hp _ _ _ _ t1.2) (fun k w' y a b c hα => ?_) (ec.up l1)
  obtain ⟨fs, hs, hq⟩ := a
  obtain ⟨p', o, h1, h2, h3, dx, vs', rfl, rv⟩ := c.cel k _ hs
  rw [hα] at h1
  cases h1
  have l : Le w' (w'.frz k y (.ins C dx vs')) := .frz c hs hα
  exact q (.ins C fs) (.ref y) (w'.frz k y (.ins C dx vs')) hq ((l1.trans b).trans l) (c.frz hs hα h2) (.ins upd_same (rv.up l))
end
/-! ### the Hook with defs at any address -/
structure HkC where
  hk : HkD
  ca : List He5.DefA
abbrev AlC : Type := AlH × Bool × List He5.FnW
def obsC (file : Str) (q : HkC) (K : PySem.W.Frag) : AlC := (obsH file q.hk K, q.ca.all fun d => d.ok K, q.ca.map fun d => He5.fnA K (d.at_ K))
def valC (q : HkC) : AlC := (valH q.hk, true, q.ca.map He5.DefA.val)
def SaysC (file : Str) (q : HkC) (K : PySem.W.Frag) : Prop := obsC file q K = valC q
def obsCG (n : Nat) (file : Str) (q : HkC) (g : Addr → Option Obj) : AlC := obsC file q (He.frG g (PySem.cStatics :: He.asD g n))
def hookC (n : Nat) (file : Str) (q : HkC) : PySem.W.Hook where
  α := AlC
  obs := fun s => obsCG n file q s.heap.get?
  val := fun _ => valC q
  says := fun _ h => ∃ K : PySem.W.Frag, K.In h ∧ SaysC file q K
  of := fun _ _ e => ⟨_, He.frG_in, e⟩
  keeps := fun _ _ _ ⟨K, hK, c⟩ k => ⟨K, PySem.W.Frag.In.keeps hK k, c⟩
theorem obsCG_eq {n : Nat} {file : Str} {q : HkC} {g : Addr → Option Obj} {s : Shared} (h : ∀ a, g a = s.heap.get? a) : obsCG n file q g = (hookC n file q).obs s := by
  have e : g = s.heap.get? := funext h
  rw [e] <;> rfl
section
variable {file : Str} {q : HkC} {K : PySem.W.Frag}
theorem SaysC.base (c : SaysC file q K) : SaysH file q.hk K := congrArg (fun z : AlC => z.1) c
theorem SaysC.fact (c : SaysC file q K) (i : Nat) {f : He.Fa} (h : q.hk.fa[i]? = some f := by rfl) : f.ok K = true := c.base.fact i h
theorem SaysC.bool (c : SaysC file q K) (i : Nat) {f : PySem.W.Frag → Bool} (h : q.hk.bs[i]? = some f := by rfl) : f K = true := c.base.bool i h
theorem SaysC.def_ (c : SaysC file q K) (i : Nat) {d : He.DefD} (h : q.hk.fn[i]? = some d := by rfl) : ∃ fd, FunD K d.name d.qual d.params d.body d.scope (d.dvs K) (d.kws K) (He.fAd K d.at_) fd := c.base.def_ i h
theorem SaysC.err (c : SaysC file q K) (i : Nat) {d : ErD} (h : q.hk.en[i]? = some d := by rfl) : ErrT file K d := c.base.err i h
theorem SaysC.cdef (c : SaysC file q K) (i : Nat) {d : He5.DefA} (h : q.ca[i]? = some d := by rfl) : ∃ fd, FunD K d.name d.qual d.params d.body d.scope (d.dvs K) (d.kws K) (d.at_ K) fd := by
  have e1 : (q.ca.all fun d => d.ok K) = true := congrArg (fun z : AlC => z.2.1) c
  have e : q.ca.map (fun d => He5.fnA K (d.at_ K)) = q.ca.map He5.DefA.val := congrArg (fun z : AlC => z.2.2) c
  have e2 : (q.ca.map fun d => He5.fnA K (d.at_ K))[i]? = (q.ca.map He5.DefA.val)[i]? := by rw [e]
  rw [List.getElem?_map, List.getElem?_map, h] at e2
  exact He5.DefA.funD (Option.some.inj e2) (List.all_eq_true.mp e1 d (List.mem_of_getElem? h))
end
/-- a classmethod's def -/
def cmA (C : Addr) (m : Str) (K : PySem.W.Frag) : Addr := He5.wf K C "classmethod" m
def cmB (C : Addr) (m : Str) (K : PySem.W.Frag) : Bool := PySem.W.readsIn K C (.type "type") && (He5.wrapB K C "classmethod" "classmethod.__get__" m && PySem.W.fnIn K (cmA C m K))
theorem cmB_ok {K : PySem.W.Frag} {C : Addr} {m : Str} (h : cmB C m K = true) : ClX.CRead K C (.type "type") ∧ ClX.CMet K C (.type "type") m (He.ma K C m) (cmA C m K) := by
  obtain ⟨h1, h⟩ := He.ba h
  obtain ⟨h2, h3⟩ := He.ba h
  refine ⟨⟨h1, ?_⟩, He5.cmet_of h2 h3⟩
  have h := h1
  unfold PySem.W.readsIn at h
  obtain ⟨h, _⟩ := He.ba h
  obtain ⟨h, _⟩ := He.ba h
  obtain ⟨h, h3⟩ := He.ba h
  obtain ⟨_, h2⟩ := He.ba h
  unfold PySem.W.specialIn
  rw [beq_iff_eq.mp h2, Option.bind_some]
  exact beq_iff_eq.mp h3
end DL

set_option maxHeartbeats 4000000
/-! ## 64. A range with a step held by a name -/
namespace DL
open PySem PySem.Spec PyProof.Rows L2
def RgO (o : Obj) (i j c : Int) : Prop := ∃ t u v, o = { cls := .type "range", dict := none, data := .fields #[.int i t, .int j u, .int c v], slots := #[] }
/-- x = range(i, j, c), x the k-th slot; what follows knows the object -/
def dRg3 (k : Nat) (ta : DA) (rest : Addr → Int → Int → Nat → DS) : DS := fun B δ S => ta δ S (fun ds S1 => match ds with
  | [.int i, .int j, .int c] => ∃ n : Nat, RgC i j c n ∧ ∀ a, rest a i c n B (δ.set k (some (.cv (.ref a)))) S1
  | _ => False) (fun er S1 => B.ex er δ S1)
/-- for .. in x -/
def iRgV (k : Nat) (a : Addr) (i c : Int) (n : Nat) : DI := fun δ S Q E => δ[k]? = some (some (.cv (.ref a))) ∧ Q (rngC i c n) (fun _ => True) S
section
variable {X : Cx} {W : WX} {k n : Nat} {a : Addr} {o : Obj} {i j c : Int} {tg : Expr} {x : Str} {p px pos pos2 : Pos} {e e2 e3 : Expr} {ta : DA} {rest : List Stmt} {t : Addr → Int → Int → Nat → DS}
theorem di_rgv (hp : (a, o) ∈ X.pn) (ho : RgO o i j c) (hn : RgC i j c n) (hN : X.N[k]? = some x) (hv : Vis X.env.scope x) (hdb : (x == ("__debug__" : Str)) = false := by decide) (hcd : (x == ("__classdict__" : Str)) = false := by decide) :
    PI X tg (.Name x px) (toI X.K W (iRgV k a i c n)) := by
  refine ⟨fun pins s σ H R I h => ?_⟩
  obtain ⟨w, δ, Qd, Ed, rfl, ok, lo, ⟨t0, t1⟩, q, ec⟩ := h
  obtain ⟨v, hv1, hv2⟩ := lo.2 _ _ t0
  cases hv2
  refine thn ((pe_var (pos := px) hN hv hdb hcd).run pins s σ _ (fun v H1 => v = .ref a ∧ H1 = w.H) I ⟨.ref a, hv1, rfl, rfl⟩) fun u s1 ⟨v, H1, I1, r1, q1⟩ => ?_
  obtain ⟨rfl, rfl⟩ := q1
  cases r1
  have P1 := (I1.pin (a, o) (List.mem_append_left _ hp)).1
  obtain ⟨tt, uu, vv, rfl⟩ := ho
  obtain ⟨c0, c1, c2, c3⟩ := hn
  refine wpAny_pyIter_range P1 c2 ?_
  refine pi_one (tk := s1.toks) I1 _ (turn_rangeC _ i c n) ?_ (q _ _ w _ t1 (.refl w) ok walks_rngC)
  have e1 : i + ((0 : Nat) : Int) * c = i := by simp
  have e2 : (n : Int) - ((0 : Nat) : Int) = Builtin.Range.rangeSize i j c := by rw [c3]; simp
  show IsRangeIter _ _ (i + ((0 : Nat) : Int) * c) ((n : Int) - ((0 : Nat) : Int)) c
  rw [e1, e2]
  exact Heap.get?_push_size _ rfl
theorem inv_tr {pins : List (Addr × Obj)} {σ : L2.St} {H : Hp} {s : Shared} {q : Addr × Obj} (I : Inv X (q :: pins) σ H s) : Inv (X.tr (q :: X.pn) X.xe) pins σ H s :=
  ⟨I.ok.toTry _ _, I.os, I.bare, I.base, I.loc, I.cell, I.free, I.freeC, fun p hp => I.pin p (by
    rcases List.mem_append.mp hp with h | h
    · rcases List.mem_cons.mp h with h | h
      · exact List.mem_append_right _ (List.mem_cons.mpr (.inl h))
      · exact List.mem_append_left _ h
    · exact List.mem_append_right _ (List.mem_cons_of_mem _ h)), I.hok, I.len⟩
theorem inv_un {pins : List (Addr × Obj)} {σ : L2.St} {H : Hp} {s : Shared} {q : Addr × Obj} (ok : X.Ok) (I : Inv (X.tr (q :: X.pn) X.xe) pins σ H s) : Inv X pins σ H s :=
  ⟨ok, I.os, I.bare, I.base, I.loc, I.cell, I.free, I.freeC, fun p hp => I.pin p (by
    rcases List.mem_append.mp hp with h | h
    · exact List.mem_append_left _ (List.mem_cons_of_mem _ h)
    · exact List.mem_append_right _ h), I.hok, I.len⟩
theorem dss_rg3 (hND : X.N.Nodup) (hk : X.N[k]? = some x) (hx : Loc X.env.scope x) (hg : Gl X "range") (hm : X.mg "range" = none) (ha : PA X [e, e2, e3] (toA X.K W ta))
    (hrest : ∀ a o i j c n, RgO o i j c → RgC i j c n → PSs (X.tr ((a, o) :: X.pn) X.xe) rest (toS X.K W (t a i c n)))
    (hs : starEach [e, e2, e3] X.env = (false, eval e X.env) :: starEach [e2, e3] X.env := by rfl) (hpl : (backTo pos (starEach [e2, e3] X.env)).any (·.1) = false := by rfl)
    (hsw : swapsWith (.Call (.Name "range" p) [e, e2, e3] [] pos) (some (.Name x px)) pos2.line X.env = pure false := by rfl) (hf : X.fn x = true ∨ X.env.scope.names.lookup x = some .local := by first | exact .inl rfl | exact .inr rfl | assumption) :
    PSs X (.Assign [.Name x px] (.Call (.Name "range" p) [e, e2, e3] [] pos) pos2 :: rest) (toS X.K W (dRg3 k ta t)) := by
  refine ⟨fun pins s σ H D I h => ?_⟩
  obtain ⟨w, δ, B, rfl, ok, lo, t0, r⟩ := h
  refine wpAny_execs_cons (wpAny_Assign_Name (Call_ (ld_blt I hg hm boot_range (PyProof.Rows.callWith_type1 (thn (ha.run pos pins s σ _ (fun vs H1 => ∃ (w1 : Wd) (i j c : Int) (n : Nat), w1.H = H1 ∧ vs = [.int i, .int j, .int c] ∧ RgC i j c n ∧ Le w w1 ∧ Ok X.K w1 ∧ ∀ a, t a i c n B (δ.set k (some (.cv (.ref a)))) w1.S) I
    ⟨w, δ, _, _, rfl, ok, lo, t0, fun ds vs w1 t1 l1 ok1 r1 => ?_, r.eC lo⟩) fun us s1 hq => ?_) hs hpl))) hsw)
  · split at t1
    · cases r1 with
      | cons ra r2 =>
        obtain ⟨v, u, rfl, rb, rc⟩ := r2.two'
        cases ra
        cases rb
        cases rc
        obtain ⟨n, h1, h2⟩ := t1
        exact ⟨w1, _, _, _, n, rfl, rfl, h1, l1, ok1, h2⟩
    · exact t1.elim
  obtain ⟨vs, H1, I1, r1, w1, i, j, c, n, rfl, rfl, hn, l1, ok1, ht⟩ := hq
  cases r1 with
  | cons ra rr =>
    cases rr with
    | cons rb rr =>
      cases rr with
      | cons rc rr =>
        cases rr
        obtain ⟨ta', rfl⟩ := ra
        obtain ⟨tb', rfl⟩ := rb
        obtain ⟨tc', rfl⟩ := rc
        refine call_range_3 hn.1 ?_ (.inl (PyProof.noPylong_small hn.2.1))
        have I2 := ClX.pin_new (t' := s1.toks) (o := { cls := .type "range", dict := none, data := .fields #[.int i ta', .int j tb', .int c tc'], slots := #[] }) I1 (h' := s1.heap.push _) (fun _ _ z => Heap.get?_push_of_some _ z) (Nat.le_refl _) (Heap.get?_push_size s1.heap rfl) (fun v z => nomatch z)
        refine store_ok I2 hND hk hx (v := .ref s1.heap.objs.size) rfl (fun s2 I3 => ?_) hf
        refine thn ((hrest s1.heap.objs.size _ i j c n ⟨ta', tb', tc', rfl⟩ hn).run pins s2 _ _ D (inv_tr I3) ⟨w1, δ.set k (some (.cv (.ref s1.heap.objs.size))), B, rfl, ok1, (lo.up l1).set k (.cv _), ht _, r.up l1⟩) fun f s3 hq => ?_
        cases f with
        | next => obtain ⟨σ', H', J, q⟩ := hq; exact ⟨σ', H', inv_un I.ok J, q⟩
        | brk => obtain ⟨σ', H', J, q⟩ := hq; exact ⟨σ', H', inv_un I.ok J, q⟩
        | cont => obtain ⟨σ', H', J, q⟩ := hq; exact ⟨σ', H', inv_un I.ok J, q⟩
        | ret u => obtain ⟨v, σ', H', J, rv, q⟩ := hq; exact ⟨v, σ', H', inv_un I.ok J, rv, q⟩
end
/-! ### evaluation -/
def qCMeth (C : Addr) (n : Nat) (m : DFn) (Q : QD) (E : QE) : QL := fun us S1 => us.length + 1 = n ∧ m (.cv (.ref C) :: us) S1 Q E
@[simp] theorem ev_cmeth {C : Addr} {n : Nat} {m : DFn} {u : DA} {δ : Lo} {S : Sto} {Q : QD} {E : QE} : dCMeth C n m u δ S Q E = u δ S (qCMeth C n m Q E) E := rfl
@[simp] theorem ev_cmeth1 {C : Addr} {n : Nat} {m : DFn} {xs : List D} {S : Sto} {Q : QD} {E : QE} : qCMeth C n m Q E xs S = (xs.length + 1 = n ∧ m (.cv (.ref C) :: xs) S Q E) := rfl
@[simp] theorem ev_makeL {i : Nat} {C : Addr} {n : Nat} {pp : DFn} {dd : List D} {u : DA} {δ : Lo} {S : Sto} {Q : QD} {E : QE} : dMakeL i C n pp dd u δ S Q E = (δ[i]? = some (some (.cv (.ref C))) ∧ dCall n pp dd u δ S Q E) := rfl
def qRg3 (k : Nat) (r : Addr → Int → Int → Nat → DS) (B : DEnds) (δ : Lo) : QL := fun ds S1 => match ds with
  | [.int i, .int j, .int c] => ∃ n : Nat, RgC i j c n ∧ ∀ a, r a i c n B (δ.set k (some (.cv (.ref a)))) S1
  | _ => False
@[simp] theorem ev_rg3 {k : Nat} {ta : DA} {r : Addr → Int → Int → Nat → DS} {B : DEnds} {δ : Lo} {S : Sto} : dRg3 k ta r B δ S = ta δ S (qRg3 k r B δ) (eB B δ) := rfl
@[simp] theorem ev_rg3' {k : Nat} {r : Addr → Int → Int → Nat → DS} {B : DEnds} {δ : Lo} {S : Sto} {i j c : Int} : qRg3 k r B δ [.int i, .int j, .int c] S = ∃ n : Nat, RgC i j c n ∧ ∀ a, r a i c n B (δ.set k (some (.cv (.ref a)))) S := rfl
@[simp] theorem ev_rgV {k : Nat} {a : Addr} {i c : Int} {n : Nat} {δ : Lo} {S : Sto} {Q : QI} {E : QE} : iRgV k a i c n δ S Q E = (δ[k]? = some (some (.cv (.ref a))) ∧ Q (rngC i c n) kT S) := rfl
end DL

set_option maxHeartbeats 4000000
/-! ## 65. The Hook over a list of addresses that is written down (the kernel need not find what the names reach) -/
namespace DL
open PySem PySem.Spec PyProof.Rows L2
def obsHL (as : List Addr) (file : Str) (q : HkD) (g : Addr → Option Obj) : AlH := obsH file q (He.frG g as)
def hookHL (as : List Addr) (file : Str) (q : HkD) : PySem.W.Hook where
  α := AlH
  obs := fun s => obsHL as file q s.heap.get?
  val := fun _ => valH q
  says := fun _ h => ∃ K : PySem.W.Frag, K.In h ∧ SaysH file q K
  of := fun _ _ e => ⟨_, He.frG_in, e⟩
  keeps := fun _ _ _ ⟨K, hK, c⟩ k => ⟨K, PySem.W.Frag.In.keeps hK k, c⟩
theorem obsHL_eq {as : List Addr} {file : Str} {q : HkD} {g : Addr → Option Obj} {s : Shared} (h : ∀ a, g a = s.heap.get? a) : obsHL as file q g = (hookHL as file q).obs s := by
  have e : g = s.heap.get? := funext h
  rw [e] <;> rfl
def obsCL (as : List Addr) (file : Str) (q : HkC) (g : Addr → Option Obj) : AlC := obsC file q (He.frG g as)
def hookCL (as : List Addr) (file : Str) (q : HkC) : PySem.W.Hook where
  α := AlC
  obs := fun s => obsCL as file q s.heap.get?
  val := fun _ => valC q
  says := fun _ h => ∃ K : PySem.W.Frag, K.In h ∧ SaysC file q K
  of := fun _ _ e => ⟨_, He.frG_in, e⟩
  keeps := fun _ _ _ ⟨K, hK, c⟩ k => ⟨K, PySem.W.Frag.In.keeps hK k, c⟩
theorem obsCL_eq {as : List Addr} {file : Str} {q : HkC} {g : Addr → Option Obj} {s : Shared} (h : ∀ a, g a = s.heap.get? a) : obsCL as file q g = (hookCL as file q).obs s := by
  have e : g = s.heap.get? := funext h
  rw [e] <;> rfl
end DL

set_option maxHeartbeats 4000000
/-! ## 66. Small things that many laws need -/
namespace DL
open PySem L2
theorem getD_at {A : Type} {l : List A} {k : Nat} {z : A} (h : k < l.length) : l.getD k z = l[k] := by rw [List.getD_eq_getElem?_getD, List.getElem?_eq_getElem h]; rfl
/-- a comprehension of new lists -/
theorem lc_cells {A : Type} {kp : Sto → Prop} {g : DG} {c : DT} {elt : DE} {δ : Lo} {S : Sto} {Qa : QL} (f : A → D) (m : A → List D) (z : A) (xs : List A) (hk : ∀ S', Sub S S' → kp S') (hl : xs.length ≤ 1000000)
    (h : ∀ a ∈ xs, ∀ S', Sub S S' → ∀ (R : QD) (N : Sto → Prop), (∀ n', Fr S' n' → R (.m n') (put S' n' (.lst (m a)))) → g (f a) δ S' (qLcT c elt R N))
    (q : ∀ (ns : List Nat) S', ns.length = xs.length → Sub S S' → (∀ j, j < xs.length → S' (ns.getD j 0) = some (.lst (m (xs.getD j z))) ∧ S (ns.getD j 0) = none) → Qa (ns.map .m) S') : dLcL kp g c elt δ (xs.map f) [] S Qa := by
  refine lc_inv (fun rs acc S' => ∃ ns : List Nat, ns.length ≤ xs.length ∧ rs = (xs.drop ns.length).map f ∧ acc = ns.map .m ∧ Sub S S' ∧ (∀ j, j < ns.length → S' (ns.getD j 0) = some (.lst (m (xs.getD j z))) ∧ S (ns.getD j 0) = none)) ?_ ?_ ?_ ?_ _ [] S ⟨[], by simp, by simp, rfl, .refl S, fun j hj => by simp at hj⟩
  · rintro rs acc S' ⟨ns, _, _, _, hs, _⟩
    exact hk S' hs
  · rintro d rs acc S' ⟨ns, h1, h2, rfl, _, _⟩
    have := congrArg List.length h2
    simp at this
    rw [List.length_map, sizeLine_eq]; omega
  · rintro d rs acc S' ⟨ns, h1, h2, rfl, hs, hc⟩ R N hR hN
    have hlt : ns.length < xs.length := by
      have := congrArg List.length h2
      simp at this; omega
    rw [List.drop_eq_getElem_cons hlt, List.map_cons] at h2
    obtain ⟨rfl, rfl⟩ := List.cons.inj h2
    refine h _ (List.getElem_mem _) S' hs R N fun n' hn => hR _ _ ⟨ns ++ [n'], by simp; omega, by simp, by simp, hs.put ?_, fun j hj => ?_⟩
    · cases e : S n' with
      | none => rfl
      | some c => have := hs _ _ e; rw [hn.no] at this; cases this
    · have n0 : S n' = none := by
        cases e : S n' with
        | none => rfl
        | some c => have := hs _ _ e; rw [hn.no] at this; cases this
      by_cases e : j < ns.length
      · have e1 : (ns ++ [n']).getD j 0 = ns.getD j 0 := by rw [List.getD_eq_getElem?_getD, List.getD_eq_getElem?_getD, List.getElem?_append_left e]
        obtain ⟨a, b⟩ := hc j e
        rw [e1]
        refine ⟨?_, b⟩
        rw [put_ne fun y => by rw [y, hn.no] at a; cases a]
        exact a
      · have e2 : j = ns.length := by simp at hj; omega
        have e1 : (ns ++ [n']).getD j 0 = n' := by rw [List.getD_eq_getElem?_getD, e2]; simp
        rw [e1, put_same]
        refine ⟨?_, n0⟩
        rw [e2, getD_at hlt]
  · rintro acc S' ⟨ns, h1, h2, rfl, hs, hc⟩
    have : ns.length = xs.length := by
      have := congrArg List.length h2
      simp at this; omega
    exact q ns S' this hs fun j hj => hc j (by omega)
theorem no_of {S S' : Sto} {n : Nat} (hs : Sub S S') (h : S' n = none) : S n = none := by
  cases e : S n with
  | none => rfl
  | some c => have := hs _ _ e; rw [h] at this; cases this
theorem m_get {l : List Nat} {i k : Nat} (hk : l.length = k) (hi : i < k) : (l.map D.m)[i]? = some (.m (l.getD i 0)) := by
  subst hk
  rw [List.getElem?_map, List.getElem?_eq_getElem hi, getD_at hi]; rfl
theorem gd_seq {S : Sto} {r : Nat} {d : D} {xs : List D} (e : asSq S d = some xs) (hl : xs.length ≤ 1000000) (h : ∀ x ∈ xs, GdN S r x) : GdN S (r + 1) d := ⟨gd_sq e, fun ys e2 => by rw [e] at e2; cases e2; exact ⟨hl, h⟩⟩
end DL

set_option maxHeartbeats 4000000
/-! ## The readings (printed by gen.py) -/
namespace K07
open PySem DL
abbrev cWishError : Addr := 52
abbrev cInvalidNumber : Addr := 74
abbrev cInvalidLibrary : Addr := 95
abbrev cLibrary : Addr := 163
abbrev cs : List Addr := [cLibrary]
def tab_InvalidLibrary : List (Addr × Bool) := [(cInvalidNumber, false), (cInvalidLibrary, true)]
def tab_InvalidNumber : List (Addr × Bool) := [(cInvalidNumber, true), (cInvalidLibrary, false)]
def ki_FIELDS : List Int := [2, 3, 5, 7, 11, 13, 17, 19, 23, 29, 31]
def k_FIELDS : D := .tup (ki_FIELDS.map D.int)
@[simp] theorem tab_InvalidLibrary_InvalidNumber : List.lookup cInvalidNumber tab_InvalidLibrary = some false := rfl
@[simp] theorem tab_InvalidLibrary_InvalidLibrary : List.lookup cInvalidLibrary tab_InvalidLibrary = some true := rfl
@[simp] theorem tab_InvalidNumber_InvalidNumber : List.lookup cInvalidNumber tab_InvalidNumber = some true := rfl
@[simp] theorem tab_InvalidNumber_InvalidLibrary : List.lookup cInvalidLibrary tab_InvalidNumber = some false := rfl
@[simp] theorem isi_Library_NoneType : isi1 cs (Tag.own cLibrary) (Tag.ty "NoneType") = some false := isi_own_ty (by decide)
@[simp] theorem isi_NoneType_Library : isi1 cs (Tag.ty "NoneType") (Tag.own cLibrary) = some false := isi_ty_own (by decide)
@[simp] theorem isi_Library_bool : isi1 cs (Tag.own cLibrary) (Tag.ty "bool") = some false := isi_own_ty (by decide)
@[simp] theorem isi_bool_Library : isi1 cs (Tag.ty "bool") (Tag.own cLibrary) = some false := isi_ty_own (by decide)
@[simp] theorem isi_Library_int : isi1 cs (Tag.own cLibrary) (Tag.ty "int") = some false := isi_own_ty (by decide)
@[simp] theorem isi_int_Library : isi1 cs (Tag.ty "int") (Tag.own cLibrary) = some false := isi_ty_own (by decide)
@[simp] theorem isi_Library_str : isi1 cs (Tag.own cLibrary) (Tag.ty "str") = some false := isi_own_ty (by decide)
@[simp] theorem isi_str_Library : isi1 cs (Tag.ty "str") (Tag.own cLibrary) = some false := isi_ty_own (by decide)
@[simp] theorem isi_Library_list : isi1 cs (Tag.own cLibrary) (Tag.ty "list") = some false := isi_own_ty (by decide)
@[simp] theorem isi_list_Library : isi1 cs (Tag.ty "list") (Tag.own cLibrary) = some false := isi_ty_own (by decide)
@[simp] theorem isi_Library_tuple : isi1 cs (Tag.own cLibrary) (Tag.ty "tuple") = some false := isi_own_ty (by decide)
@[simp] theorem isi_tuple_Library : isi1 cs (Tag.ty "tuple") (Tag.own cLibrary) = some false := isi_ty_own (by decide)
@[simp] theorem isi_Library_Library : isi1 cs (Tag.own cLibrary) (Tag.own cLibrary) = some true := (isi_own_own (by decide)).trans (by decide)
@[simp] theorem sb_0_1 : (("p" : Str) == ("books" : Str)) = false := by decide
@[simp] theorem se_0_1 : (("p" : Str) = ("books" : Str)) = False := eq_false (by decide)
@[simp] theorem sb_0_2 : (("p" : Str) == ("book_count" : Str)) = false := by decide
@[simp] theorem se_0_2 : (("p" : Str) = ("book_count" : Str)) = False := eq_false (by decide)
@[simp] theorem sb_0_3 : (("p" : Str) == ("book_length" : Str)) = false := by decide
@[simp] theorem se_0_3 : (("p" : Str) = ("book_length" : Str)) = False := eq_false (by decide)
@[simp] theorem sb_0_4 : (("p" : Str) == ("letters" : Str)) = false := by decide
@[simp] theorem se_0_4 : (("p" : Str) = ("letters" : Str)) = False := eq_false (by decide)
@[simp] theorem sb_0_5 : (("p" : Str) == ("book" : Str)) = false := by decide
@[simp] theorem se_0_5 : (("p" : Str) = ("book" : Str)) = False := eq_false (by decide)
@[simp] theorem sb_0_6 : (("p" : Str) == ("changed" : Str)) = false := by decide
@[simp] theorem se_0_6 : (("p" : Str) = ("changed" : Str)) = False := eq_false (by decide)
@[simp] theorem sb_0_7 : (("p" : Str) == ("of_letters" : Str)) = false := by decide
@[simp] theorem se_0_7 : (("p" : Str) = ("of_letters" : Str)) = False := eq_false (by decide)
@[simp] theorem sb_0_8 : (("p" : Str) == ("value" : Str)) = false := by decide
@[simp] theorem se_0_8 : (("p" : Str) = ("value" : Str)) = False := eq_false (by decide)
@[simp] theorem sb_1_0 : (("books" : Str) == ("p" : Str)) = false := by decide
@[simp] theorem se_1_0 : (("books" : Str) = ("p" : Str)) = False := eq_false (by decide)
@[simp] theorem sb_1_2 : (("books" : Str) == ("book_count" : Str)) = false := by decide
@[simp] theorem se_1_2 : (("books" : Str) = ("book_count" : Str)) = False := eq_false (by decide)
@[simp] theorem sb_1_3 : (("books" : Str) == ("book_length" : Str)) = false := by decide
@[simp] theorem se_1_3 : (("books" : Str) = ("book_length" : Str)) = False := eq_false (by decide)
@[simp] theorem sb_1_4 : (("books" : Str) == ("letters" : Str)) = false := by decide
@[simp] theorem se_1_4 : (("books" : Str) = ("letters" : Str)) = False := eq_false (by decide)
@[simp] theorem sb_1_5 : (("books" : Str) == ("book" : Str)) = false := by decide
@[simp] theorem se_1_5 : (("books" : Str) = ("book" : Str)) = False := eq_false (by decide)
@[simp] theorem sb_1_6 : (("books" : Str) == ("changed" : Str)) = false := by decide
@[simp] theorem se_1_6 : (("books" : Str) = ("changed" : Str)) = False := eq_false (by decide)
@[simp] theorem sb_1_7 : (("books" : Str) == ("of_letters" : Str)) = false := by decide
@[simp] theorem se_1_7 : (("books" : Str) = ("of_letters" : Str)) = False := eq_false (by decide)
@[simp] theorem sb_1_8 : (("books" : Str) == ("value" : Str)) = false := by decide
@[simp] theorem se_1_8 : (("books" : Str) = ("value" : Str)) = False := eq_false (by decide)
@[simp] theorem sb_2_0 : (("book_count" : Str) == ("p" : Str)) = false := by decide
@[simp] theorem se_2_0 : (("book_count" : Str) = ("p" : Str)) = False := eq_false (by decide)
@[simp] theorem sb_2_1 : (("book_count" : Str) == ("books" : Str)) = false := by decide
@[simp] theorem se_2_1 : (("book_count" : Str) = ("books" : Str)) = False := eq_false (by decide)
@[simp] theorem sb_2_3 : (("book_count" : Str) == ("book_length" : Str)) = false := by decide
@[simp] theorem se_2_3 : (("book_count" : Str) = ("book_length" : Str)) = False := eq_false (by decide)
@[simp] theorem sb_2_4 : (("book_count" : Str) == ("letters" : Str)) = false := by decide
@[simp] theorem se_2_4 : (("book_count" : Str) = ("letters" : Str)) = False := eq_false (by decide)
@[simp] theorem sb_2_5 : (("book_count" : Str) == ("book" : Str)) = false := by decide
@[simp] theorem se_2_5 : (("book_count" : Str) = ("book" : Str)) = False := eq_false (by decide)
@[simp] theorem sb_2_6 : (("book_count" : Str) == ("changed" : Str)) = false := by decide
@[simp] theorem se_2_6 : (("book_count" : Str) = ("changed" : Str)) = False := eq_false (by decide)
@[simp] theorem sb_2_7 : (("book_count" : Str) == ("of_letters" : Str)) = false := by decide
@[simp] theorem se_2_7 : (("book_count" : Str) = ("of_letters" : Str)) = False := eq_false (by decide)
@[simp] theorem sb_2_8 : (("book_count" : Str) == ("value" : Str)) = false := by decide
@[simp] theorem se_2_8 : (("book_count" : Str) = ("value" : Str)) = False := eq_false (by decide)
@[simp] theorem sb_3_0 : (("book_length" : Str) == ("p" : Str)) = false := by decide
@[simp] theorem se_3_0 : (("book_length" : Str) = ("p" : Str)) = False := eq_false (by decide)
@[simp] theorem sb_3_1 : (("book_length" : Str) == ("books" : Str)) = false := by decide
@[simp] theorem se_3_1 : (("book_length" : Str) = ("books" : Str)) = False := eq_false (by decide)
@[simp] theorem sb_3_2 : (("book_length" : Str) == ("book_count" : Str)) = false := by decide
@[simp] theorem se_3_2 : (("book_length" : Str) = ("book_count" : Str)) = False := eq_false (by decide)
@[simp] theorem sb_3_4 : (("book_length" : Str) == ("letters" : Str)) = false := by decide
@[simp] theorem se_3_4 : (("book_length" : Str) = ("letters" : Str)) = False := eq_false (by decide)
@[simp] theorem sb_3_5 : (("book_length" : Str) == ("book" : Str)) = false := by decide
@[simp] theorem se_3_5 : (("book_length" : Str) = ("book" : Str)) = False := eq_false (by decide)
@[simp] theorem sb_3_6 : (("book_length" : Str) == ("changed" : Str)) = false := by decide
@[simp] theorem se_3_6 : (("book_length" : Str) = ("changed" : Str)) = False := eq_false (by decide)
@[simp] theorem sb_3_7 : (("book_length" : Str) == ("of_letters" : Str)) = false := by decide
@[simp] theorem se_3_7 : (("book_length" : Str) = ("of_letters" : Str)) = False := eq_false (by decide)
@[simp] theorem sb_3_8 : (("book_length" : Str) == ("value" : Str)) = false := by decide
@[simp] theorem se_3_8 : (("book_length" : Str) = ("value" : Str)) = False := eq_false (by decide)
@[simp] theorem sb_4_0 : (("letters" : Str) == ("p" : Str)) = false := by decide
@[simp] theorem se_4_0 : (("letters" : Str) = ("p" : Str)) = False := eq_false (by decide)
@[simp] theorem sb_4_1 : (("letters" : Str) == ("books" : Str)) = false := by decide
@[simp] theorem se_4_1 : (("letters" : Str) = ("books" : Str)) = False := eq_false (by decide)
@[simp] theorem sb_4_2 : (("letters" : Str) == ("book_count" : Str)) = false := by decide
@[simp] theorem se_4_2 : (("letters" : Str) = ("book_count" : Str)) = False := eq_false (by decide)
@[simp] theorem sb_4_3 : (("letters" : Str) == ("book_length" : Str)) = false := by decide
@[simp] theorem se_4_3 : (("letters" : Str) = ("book_length" : Str)) = False := eq_false (by decide)
@[simp] theorem sb_4_5 : (("letters" : Str) == ("book" : Str)) = false := by decide
@[simp] theorem se_4_5 : (("letters" : Str) = ("book" : Str)) = False := eq_false (by decide)
@[simp] theorem sb_4_6 : (("letters" : Str) == ("changed" : Str)) = false := by decide
@[simp] theorem se_4_6 : (("letters" : Str) = ("changed" : Str)) = False := eq_false (by decide)
@[simp] theorem sb_4_7 : (("letters" : Str) == ("of_letters" : Str)) = false := by decide
@[simp] theorem se_4_7 : (("letters" : Str) = ("of_letters" : Str)) = False := eq_false (by decide)
@[simp] theorem sb_4_8 : (("letters" : Str) == ("value" : Str)) = false := by decide
@[simp] theorem se_4_8 : (("letters" : Str) = ("value" : Str)) = False := eq_false (by decide)
@[simp] theorem sb_5_0 : (("book" : Str) == ("p" : Str)) = false := by decide
@[simp] theorem se_5_0 : (("book" : Str) = ("p" : Str)) = False := eq_false (by decide)
@[simp] theorem sb_5_1 : (("book" : Str) == ("books" : Str)) = false := by decide
@[simp] theorem se_5_1 : (("book" : Str) = ("books" : Str)) = False := eq_false (by decide)
@[simp] theorem sb_5_2 : (("book" : Str) == ("book_count" : Str)) = false := by decide
@[simp] theorem se_5_2 : (("book" : Str) = ("book_count" : Str)) = False := eq_false (by decide)
@[simp] theorem sb_5_3 : (("book" : Str) == ("book_length" : Str)) = false := by decide
@[simp] theorem se_5_3 : (("book" : Str) = ("book_length" : Str)) = False := eq_false (by decide)
@[simp] theorem sb_5_4 : (("book" : Str) == ("letters" : Str)) = false := by decide
@[simp] theorem se_5_4 : (("book" : Str) = ("letters" : Str)) = False := eq_false (by decide)
@[simp] theorem sb_5_6 : (("book" : Str) == ("changed" : Str)) = false := by decide
@[simp] theorem se_5_6 : (("book" : Str) = ("changed" : Str)) = False := eq_false (by decide)
@[simp] theorem sb_5_7 : (("book" : Str) == ("of_letters" : Str)) = false := by decide
@[simp] theorem se_5_7 : (("book" : Str) = ("of_letters" : Str)) = False := eq_false (by decide)
@[simp] theorem sb_5_8 : (("book" : Str) == ("value" : Str)) = false := by decide
@[simp] theorem se_5_8 : (("book" : Str) = ("value" : Str)) = False := eq_false (by decide)
@[simp] theorem sb_6_0 : (("changed" : Str) == ("p" : Str)) = false := by decide
@[simp] theorem se_6_0 : (("changed" : Str) = ("p" : Str)) = False := eq_false (by decide)
@[simp] theorem sb_6_1 : (("changed" : Str) == ("books" : Str)) = false := by decide
@[simp] theorem se_6_1 : (("changed" : Str) = ("books" : Str)) = False := eq_false (by decide)
@[simp] theorem sb_6_2 : (("changed" : Str) == ("book_count" : Str)) = false := by decide
@[simp] theorem se_6_2 : (("changed" : Str) = ("book_count" : Str)) = False := eq_false (by decide)
@[simp] theorem sb_6_3 : (("changed" : Str) == ("book_length" : Str)) = false := by decide
@[simp] theorem se_6_3 : (("changed" : Str) = ("book_length" : Str)) = False := eq_false (by decide)
@[simp] theorem sb_6_4 : (("changed" : Str) == ("letters" : Str)) = false := by decide
@[simp] theorem se_6_4 : (("changed" : Str) = ("letters" : Str)) = False := eq_false (by decide)
@[simp] theorem sb_6_5 : (("changed" : Str) == ("book" : Str)) = false := by decide
@[simp] theorem se_6_5 : (("changed" : Str) = ("book" : Str)) = False := eq_false (by decide)
@[simp] theorem sb_6_7 : (("changed" : Str) == ("of_letters" : Str)) = false := by decide
@[simp] theorem se_6_7 : (("changed" : Str) = ("of_letters" : Str)) = False := eq_false (by decide)
@[simp] theorem sb_6_8 : (("changed" : Str) == ("value" : Str)) = false := by decide
@[simp] theorem se_6_8 : (("changed" : Str) = ("value" : Str)) = False := eq_false (by decide)
@[simp] theorem sb_7_0 : (("of_letters" : Str) == ("p" : Str)) = false := by decide
@[simp] theorem se_7_0 : (("of_letters" : Str) = ("p" : Str)) = False := eq_false (by decide)
@[simp] theorem sb_7_1 : (("of_letters" : Str) == ("books" : Str)) = false := by decide
@[simp] theorem se_7_1 : (("of_letters" : Str) = ("books" : Str)) = False := eq_false (by decide)
@[simp] theorem sb_7_2 : (("of_letters" : Str) == ("book_count" : Str)) = false := by decide
@[simp] theorem se_7_2 : (("of_letters" : Str) = ("book_count" : Str)) = False := eq_false (by decide)
@[simp] theorem sb_7_3 : (("of_letters" : Str) == ("book_length" : Str)) = false := by decide
@[simp] theorem se_7_3 : (("of_letters" : Str) = ("book_length" : Str)) = False := eq_false (by decide)
@[simp] theorem sb_7_4 : (("of_letters" : Str) == ("letters" : Str)) = false := by decide
@[simp] theorem se_7_4 : (("of_letters" : Str) = ("letters" : Str)) = False := eq_false (by decide)
@[simp] theorem sb_7_5 : (("of_letters" : Str) == ("book" : Str)) = false := by decide
@[simp] theorem se_7_5 : (("of_letters" : Str) = ("book" : Str)) = False := eq_false (by decide)
@[simp] theorem sb_7_6 : (("of_letters" : Str) == ("changed" : Str)) = false := by decide
@[simp] theorem se_7_6 : (("of_letters" : Str) = ("changed" : Str)) = False := eq_false (by decide)
@[simp] theorem sb_7_8 : (("of_letters" : Str) == ("value" : Str)) = false := by decide
@[simp] theorem se_7_8 : (("of_letters" : Str) = ("value" : Str)) = False := eq_false (by decide)
@[simp] theorem sb_8_0 : (("value" : Str) == ("p" : Str)) = false := by decide
@[simp] theorem se_8_0 : (("value" : Str) = ("p" : Str)) = False := eq_false (by decide)
@[simp] theorem sb_8_1 : (("value" : Str) == ("books" : Str)) = false := by decide
@[simp] theorem se_8_1 : (("value" : Str) = ("books" : Str)) = False := eq_false (by decide)
@[simp] theorem sb_8_2 : (("value" : Str) == ("book_count" : Str)) = false := by decide
@[simp] theorem se_8_2 : (("value" : Str) = ("book_count" : Str)) = False := eq_false (by decide)
@[simp] theorem sb_8_3 : (("value" : Str) == ("book_length" : Str)) = false := by decide
@[simp] theorem se_8_3 : (("value" : Str) = ("book_length" : Str)) = False := eq_false (by decide)
@[simp] theorem sb_8_4 : (("value" : Str) == ("letters" : Str)) = false := by decide
@[simp] theorem se_8_4 : (("value" : Str) = ("letters" : Str)) = False := eq_false (by decide)
@[simp] theorem sb_8_5 : (("value" : Str) == ("book" : Str)) = false := by decide
@[simp] theorem se_8_5 : (("value" : Str) = ("book" : Str)) = False := eq_false (by decide)
@[simp] theorem sb_8_6 : (("value" : Str) == ("changed" : Str)) = false := by decide
@[simp] theorem se_8_6 : (("value" : Str) = ("changed" : Str)) = False := eq_false (by decide)
@[simp] theorem sb_8_7 : (("value" : Str) == ("of_letters" : Str)) = false := by decide
@[simp] theorem se_8_7 : (("value" : Str) = ("of_letters" : Str)) = False := eq_false (by decide)
end K07

set_option maxHeartbeats 0
namespace K07
open PySem PySem.Spec PyProof.Rows L2 DL
abbrev PP : Program := PySem.Challenge.pw_sharesunseen_k07_libraries
def top (i : Nat) : Stmt := PP.main.body.getD i (.Pass ⟨0, 0, 0, 0⟩)
def clsSts : Stmt → List Stmt
  | .ClassDef _ _ _ b _ _ _ _ _ _ _ => b
  | _ => []
def mth (i j : Nat) : Stmt := (clsSts (top i)).getD j (.Pass ⟨0, 0, 0, 0⟩)
def er_InvalidNumber : ErD := ⟨cInvalidNumber, "InvalidNumber.__init__", defArgs (mth 8 0), defBody (mth 8 0), defScope (mth 8 0)⟩
def er_InvalidLibrary : ErD := ⟨cInvalidLibrary, "InvalidLibrary.__init__", defArgs (mth 9 0), defBody (mth 9 0), defScope (mth 9 0)⟩
def d_Library_of_letters : He5.DefA := ⟨fun K => cmA cLibrary "of_letters" K, "of_letters", "Library.of_letters", defArgs (mth 18 4), defBody (mth 18 4), defScope (mth 18 4), [], []⟩
def d__law_draws : He.DefD := ⟨("_law_draws", none), "_law_draws", "_law_draws", defArgs (top 21), defBody (top 21), defScope (top 21), [], []⟩
def d__law_is_field : He.DefD := ⟨("_law_is_field", none), "_law_is_field", "_law_is_field", defArgs (top 24), defBody (top 24), defScope (top 24), [], []⟩
def d__law_take : He.DefD := ⟨("_law_take", none), "_law_take", "_law_take", defArgs (top 22), defBody (top 22), defScope (top 22), [], []⟩
def d__law_field : He.DefD := ⟨("_law_field", none), "_law_field", "_law_field", defArgs (top 25), defBody (top 25), defScope (top 25), [], []⟩
def d__law_books : He.DefD := ⟨("_law_books", none), "_law_books", "_law_books", defArgs (top 27), defBody (top 27), defScope (top 27), [], []⟩
def d_is_integer_integers : He.DefD := ⟨("is_integer_integers", none), "is_integer", "is_integer", defArgs (top 11), defBody (top 11), defScope (top 11), [], []⟩
def d_is_field : He.DefD := ⟨("is_field", none), "is_field", "is_field", defArgs (top 15), defBody (top 15), defScope (top 15), [], []⟩
def d_is_sequence : He.DefD := ⟨("is_sequence", none), "is_sequence", "is_sequence", defArgs (top 4), defBody (top 4), defScope (top 4), [], []⟩
def d_is_integer_bookplaces : He.DefD := ⟨("is_integer_bookplaces", none), "is_integer", "is_integer", defArgs (top 1), defBody (top 1), defScope (top 1), [], []⟩
def d_is_place : He.DefD := ⟨("is_place", none), "is_place", "is_place", defArgs (top 3), defBody (top 3), defScope (top 3), [], []⟩
def d_are_letters : He.DefD := ⟨("are_letters", none), "are_letters", "are_letters", defArgs (top 5), defBody (top 5), defScope (top 5), [], []⟩
def d__are_books : He.DefD := ⟨("_are_books", none), "_are_books", "_are_books", defArgs (top 17), defBody (top 17), defScope (top 17), [], []⟩
def d_Library___init__ : He.DefD := ⟨("Library", some "__init__"), "__init__", "Library.__init__", defArgs (mth 18 0), defBody (mth 18 0), defScope (mth 18 0), [], []⟩
def d__law_same : He.DefD := ⟨("_law_same", none), "_law_same", "_law_same", defArgs (top 28), defBody (top 28), defScope (top 28), [], []⟩
def d__law_is_library : He.DefD := ⟨("_law_is_library", none), "_law_is_library", "_law_is_library", defArgs (top 29), defBody (top 29), defScope (top 29), [], []⟩
def d_Library_book : He.DefD := ⟨("Library", some "book"), "book", "Library.book", defArgs (mth 18 2), defBody (mth 18 2), defScope (mth 18 2), [], []⟩
def d_Library_changed : He.DefD := ⟨("Library", some "changed"), "changed", "Library.changed", defArgs (mth 18 3), defBody (mth 18 3), defScope (mth 18 3), [], []⟩
def d_Library___eq__ : He.DefD := ⟨("Library", some "__eq__"), "__eq__", "Library.__eq__", defArgs (mth 18 1), defBody (mth 18 1), defScope (mth 18 1), [], []⟩
def d__law_equal : He.DefD := ⟨("_law_equal", none), "_law_equal", "_law_equal", defArgs (top 33), defBody (top 33), defScope (top 33), [], []⟩
def d__law_odd : He.DefD := ⟨("_law_odd", none), "_law_odd", "_law_odd", defArgs (top 23), defBody (top 23), defScope (top 23), [], []⟩
def d__law_no_field : He.DefD := ⟨("_law_no_field", none), "_law_no_field", "_law_no_field", defArgs (top 26), defBody (top 26), defScope (top 26), [], []⟩
def d_every_library : He.DefD := ⟨("every_library", none), "every_library", "every_library", defArgs (top 19), defBody (top 19), defScope (top 19), [], []⟩
def d__law_told : He.DefD := ⟨("_law_told", none), "_law_told", "_law_told", defArgs (top 30), defBody (top 30), defScope (top 30), [], []⟩
def d__law_bad_book : He.DefD := ⟨("_law_bad_book", none), "_law_bad_book", "_law_bad_book", defArgs (top 31), defBody (top 31), defScope (top 31), [], []⟩
def d__law_bad_books : He.DefD := ⟨("_law_bad_books", none), "_law_bad_books", "_law_bad_books", defArgs (top 32), defBody (top 32), defScope (top 32), [], []⟩
def d__law_every : He.DefD := ⟨("_law_every", none), "_law_every", "_law_every", defArgs (top 34), defBody (top 34), defScope (top 34), [], []⟩
def d_law : He.DefD := ⟨("law", none), "law", "law", defArgs (top 35), defBody (top 35), defScope (top 35), [], []⟩
def hkd : HkD := ⟨[.free "abs", .free "int", .free "range", .free "len", .free "isinstance", .free "bool", .free "tuple", .free "list", .free "super", .glo "_law_draws", .glo "_law_is_field", .glo "_law_take", .glo "_law_field", .glo "_law_books", .glo "is_integer_integers", .glo "is_field", .glo "InvalidNumber", .glo "is_sequence", .glo "is_integer_bookplaces", .glo "is_place", .glo "are_letters", .glo "_are_books", .glo "InvalidLibrary", .glo "Library", .glo "_law_same", .glo "_law_is_library", .glo "_law_equal", .glo "_law_odd", .glo "_law_no_field", .glo "every_library", .glo "_law_told", .glo "_law_bad_book", .glo "_law_bad_books", .glo "_law_every", .glo "FIELDS", .meth "Library" "book", .meth "Library" "changed", .meth "Library" "__eq__", .mkr "Library", .glo "law"], [d__law_draws, d__law_is_field, d__law_take, d__law_field, d__law_books, d_is_integer_integers, d_is_field, d_is_sequence, d_is_integer_bookplaces, d_is_place, d_are_letters, d__are_books, d_Library___init__, d__law_same, d__law_is_library, d_Library_book, d_Library_changed, d_Library___eq__, d__law_equal, d__law_odd, d__law_no_field, d_every_library, d__law_told, d__law_bad_book, d__law_bad_books, d__law_every, d_law], [fun K => decide (He.ga K "InvalidNumber" = cInvalidNumber), fun K => decide (He.ga K "InvalidLibrary" = cInvalidLibrary), fun K => decide (He.ga K "Library" = cLibrary), isiB cs, fun K => He.tupB K "FIELDS" (ki_FIELDS.map He.Dv.int), fun K => He.eqO (PySem.W.findIn K (.ref cLibrary) "p") (some none), fun K => He.eqO (PySem.W.findIn K (.ref cLibrary) "books") (some none), fun K => He.eqO (PySem.W.findIn K (.ref cLibrary) "book_count") (some none), fun K => He.eqO (PySem.W.findIn K (.ref cLibrary) "book_length") (some none), fun K => He.eqO (PySem.W.findIn K (.ref cLibrary) "letters") (some none), exmB tab_InvalidLibrary cInvalidLibrary, exmB tab_InvalidNumber cInvalidNumber, fun K => cmB cLibrary "of_letters" K, eqfB cLibrary, fun K => xfB K cInvalidLibrary && He.eqO (PySem.W.findIn K (.ref cInvalidLibrary) "value") (some none), fun K => xfB K cInvalidNumber && He.eqO (PySem.W.findIn K (.ref cInvalidNumber) "value") (some none), fun K => He.eqO (PySem.W.findIn K (.ref cInvalidNumber) "value") (some none), fun K => He.eqO (PySem.W.findIn K (.ref cInvalidLibrary) "value") (some none)], [er_InvalidNumber, er_InvalidLibrary]⟩
def hkc : HkC := ⟨hkd, [d_Library_of_letters]⟩
def names : List PySem.Str := (["is_integer", "is_integer_bookplaces", "is_place", "is_sequence", "are_letters", "WishError", "InvalidNumber", "InvalidLibrary", "is_integer_integers", "FIELDS", "is_field", "_are_books", "Library", "every_library", "_law_draws", "_law_take", "_law_odd", "_law_is_field", "_law_field", "_law_no_field", "_law_books", "_law_same", "_law_is_library", "_law_told", "_law_bad_book", "_law_bad_books", "_law_equal", "_law_every"] : List PySem.Str)
abbrev R : PySem.W.OpenRow := PySem.W.OpenLaw.row PySem.Challenge.rw_sharesunseen_k07_libraries
def asL : List PySem.Addr := PySem.cStatics :: [3, 6, 4, 104, 21, 28, 35, 42, 52, 74, 95, 105, 112, 119, 163, 172, 177, 184, 189, 196, 201, 208, 213, 220, 227, 234, 241, 248, 255, 260, 265, 0, 103, 20, 27, 34, 41, 51, 73, 94, 111, 118, 162, 171, 176, 183, 188, 195, 200, 207, 212, 219, 226, 233, 240, 247, 254, 259, 264, 98, 99, 100, 101, 102, 15, 16, 17, 18, 19, 22, 23, 24, 25, 26, 29, 30, 31, 32, 33, 36, 37, 38, 39, 40, 50, 53, 71, 72, 92, 93, 106, 107, 108, 109, 110, 113, 114, 115, 116, 117, 131, 138, 145, 152, 159, 161, 164, 165, 168, 169, 170, 173, 174, 175, 178, 179, 180, 181, 182, 185, 186, 187, 190, 191, 192, 193, 194, 197, 198, 199, 202, 203, 204, 205, 206, 209, 210, 211, 214, 215, 216, 217, 218, 221, 222, 223, 224, 225, 228, 229, 230, 231, 232, 235, 236, 237, 238, 239, 242, 243, 244, 245, 246, 249, 250, 251, 252, 253, 256, 257, 258, 261, 262, 263, 70, 59, 91, 80, 130, 137, 144, 151, 157, 158, 65, 66, 67, 68, 69, 86, 87, 88, 89, 90, 127, 128, 129, 132, 133, 134, 135, 136, 139, 140, 141, 142, 143, 146, 147, 148, 149, 150, 156, 160, 153, 154, 155]
abbrev hk : PySem.W.Hook := hookCL asL PP.main.file hkc
def ob (s : PySem.W.SharedT) : AlC := obsCL asL PP.main.file hkc (HandSHeadRun.getT s)
theorem ob_eq (s : PySem.W.SharedT) : ob s = hk.obs s.abs := obsCL_eq (HandSHeadRun.getT_eq s)
theorem run (w : World) : HandSHeadRun.RunEq R (PySem.W.view R.prog [35]) hk ob 4000 names w := by
  intro os
  kernel_rfl
end K07

set_option maxHeartbeats 1000000
namespace K07
open PySem DL L2
/-! ## What the defs promise -/
abbrev Mat := List (List Int)
def rowD (r : List Int) : D := .tup (r.map .int)
def matD (m : Mat) : D := .tup (m.map rowD)
def Wid (p c : Int) (m : Mat) : Prop := ∀ r ∈ m, (r.length : Int) = c ∧ ∀ x ∈ r, 0 ≤ x ∧ x < p
def FL : List Int := [2, 3, 5, 7, 11, 13, 17, 19, 23, 29, 31]
def libI (p : Int) (m : Mat) : D := .ins cLibrary [("p", .int p), ("books", matD m), ("book_count", .int m.length), ("book_length", .int (m.getD 0 []).length), ("letters", rowD m.flatten)]
/-- right books -/
structure Bk (p : Int) (m : Mat) : Prop where
  pf : p ∈ FL
  pos : 0 < m.length
  few : m.length ≤ 16
  wid : Wid p (m.getD 0 []).length m
  l1 : 1 ≤ (m.getD 0 []).length
  l3 : (m.getD 0 []).length ≤ 16
inductive Bt (N : Nat) : Nat → D → Prop
  | non (r) : Bt N (r + 1) .non
  | bl (r b) : Bt N (r + 1) (.bl b)
  | int (r i) : Bt N (r + 1) (.int i)
  | str (r x) : Bt N (r + 1) (.str x)
  | tup {r xs} (h : ∀ x ∈ xs, Bt N r x) (l : xs.length ≤ N) : Bt N (r + 1) (.tup xs)
  | lst {r xs} (h : ∀ x ∈ xs, Bt N r x) (l : xs.length ≤ N) : Bt N (r + 1) (.lst xs)
def sqs (S : Sto) (d : D) : List D := (asSq S d).getD []
def iv : D → Int
  | .int i => i
  | _ => 0
def letB (S : Sto) (p : Int) (d : D) : Bool := match asSq S d with
  | some xs => xs.all (plcB p)
  | none => false
def bokB (S : Sto) (p : Int) (n : Nat) (d : D) : Bool := letB S p d && (decide ((sqs S d).length ≠ 0) && decide ((sqs S d).length = n))
def boksB (S : Sto) (p : Int) (d : D) : Bool := match asSq S d with
  | some (b :: bs) => (b :: bs).all (bokB S p (sqs S b).length)
  | _ => false
def rowOf (S : Sto) (d : D) : List Int := (sqs S d).map iv
def matOf (S : Sto) (d : D) : Mat := (sqs S d).map (rowOf S)
def eN (E : QE) (S : Sto) (v : D) : Prop := E ⟨cInvalidNumber, [("value", v)]⟩ S
def eL (E : QE) (S : Sto) (v : D) : Prop := E ⟨cInvalidLibrary, [("value", v)]⟩ S
def libQ (S : Sto) (p d : D) (Q : QD) (E : QE) : Prop := (fldB p = false ∧ eN E S p) ∨ ∃ i, p = .int i ∧ i ∈ FL ∧ ((boksB S i d = false ∧ eL E S d) ∨ (boksB S i d = true ∧ Q (libI i (matOf S d)) S))
def chunk (l : Nat) (xs : List D) : List (List D) := (List.range ((xs.length + l - 1) / l)).map fun k => (xs.drop (k * l)).take l
def p_are_letters : DFn := fun us S Q _ => ∃ p d, us = [.int p, d] ∧ GdN S 1 d ∧ Q (.bl (letB S p d)) S
def p__are_books : DFn := fun us S Q _ => ∃ p d, us = [.int p, d] ∧ GdN S 2 d ∧ Q (.bl (boksB S p d)) S
def p_Library : DFn := fun us S Q E => ∃ p d, us = [p, d] ∧ Gd S p ∧ GdN S 2 d ∧ (matOf S d).flatten.length ≤ 100000 ∧ libQ S p d Q E
def p_Library_of_letters : DFn := fun us S Q E => ∃ p l d xs, us = [.cv (.ref cLibrary), p, .int l, d] ∧ Gd S p ∧ asSq S d = some xs ∧ (∀ x ∈ xs, Gd S x) ∧ 1 ≤ l ∧ l ≤ 100 ∧ xs.length ≤ 1000 ∧ libQ S p (.lst ((chunk l.toNat xs).map .tup)) Q E
def p_Library_book : DFn := fun us S Q E => ∃ p m k, us = [libI p m, k] ∧ Gd S k ∧ ((plcB m.length k = false ∧ eN E S k) ∨ ∃ i, k = .int i ∧ 0 ≤ i ∧ i < m.length ∧ Q (rowD (m.getD i.toNat [])) S)
def p_Library_changed : DFn := fun us S Q E => ∃ p m k d, us = [libI p m, k, d] ∧ Bk p m ∧ Gd S k ∧ GdN S 1 d ∧ ((plcB m.length k = false ∧ eN E S k) ∨ ∃ i, k = .int i ∧ 0 ≤ i ∧ i < m.length ∧ (((letB S p d && decide ((sqs S d).length = (m.getD 0 []).length)) = false ∧ eL E S d) ∨ ((letB S p d && decide ((sqs S d).length = (m.getD 0 []).length)) = true ∧ Q (libI p (m.set i.toNat (rowOf S d))) S)))
/-- every row of n letters, in order -/
def allR (p : Nat) : Nat → Mat
  | 0 => [[]]
  | n + 1 => (allR p n).flatMap fun r => (List.range p).map fun (x : Nat) => r ++ [(x : Int)]
def chunkI (c l : Nat) (r : List Int) : Mat := (List.range c).map fun k => (r.drop (k * l)).take l
def p_every_library : DFn := fun us S Q E => ∃ (p : D) (c l : Nat), us = [p, .int c, .int l] ∧ Gd S p ∧ 1 ≤ c ∧ c ≤ 3 ∧ 1 ≤ l ∧ l ≤ 3 ∧ c * l ≤ 4 ∧ ((fldB p = false ∧ eN E S p) ∨ ∃ i, p = .int i ∧ 2 ≤ i ∧ i ≤ 3 ∧ Q (.tup ((allR i.toNat (c * l)).map fun r => libI i (chunkI c l r))) S)
/-! the law's own draws -/
def p__law_field : DFn := fun us S Q _ => ∃ n c, us = [.m n] ∧ S n = some c ∧ Hn c ∧ ∀ p c', Hn c' → p ∈ FL → Q (.int p) (put S n c')
def p__law_books : DFn := fun us S Q _ => ∃ n p k l c, us = [.m n, .int p, .int k, .int l] ∧ S n = some c ∧ Hn c ∧ 2 ≤ p ∧ 0 ≤ k ∧ k ≤ 10 ∧ 0 ≤ l ∧ l ≤ 10 ∧ ∀ bs c', Hn c' → (bs.length : Int) = k → Wid p l bs → Q (matD bs) (put S n c')
def p__law_odd : DFn := fun us S Q _ => ∃ (n : Nat) (c : Cell) (k : Nat), us = [.m n, .int k] ∧ k ≤ 1 ∧ S n = some c ∧ Hn c ∧ ∀ d c', Hn c' → Bt 3 (k + 1) d → pln (k + 1) d = true → Q d (put S n c')
def p__law_no_field : DFn := fun us S Q _ => ∃ n c, us = [.m n] ∧ S n = some c ∧ Hn c ∧ ∀ d c', Hn c' → Bt 3 2 d → pln 2 d = true → fldB d = false → Q d (put S n c')
def badK (p : Int) (row : List Int) (d : D) : Prop := (∀ S, letB S p d = false) ∨ d = rowD (row ++ [0]) ∨ d = rowD row.tail ∨ d = .lst []
def p__law_bad_book : DFn := fun us S Q _ => ∃ n c row p, us = [.m n, rowD row, .int p] ∧ S n = some c ∧ Hn c ∧ p ∈ FL ∧ 1 ≤ row.length ∧ row.length ≤ 16 ∧ ∀ d c', Hn c' → Bt 20 3 d → pln 3 d = true → badK p row d → Q d (put S n c')
def p__law_bad_books : DFn := fun us S Q _ => ∃ n c m p, us = [.m n, matD m, .int p] ∧ S n = some c ∧ Hn c ∧ Bk p m ∧ ∀ d c', Hn c' → Bt 20 4 d → pln 4 d = true → (∀ S, boksB S p d = false) → Q d (put S n c')
/-! what the law asks -/
def p__law_is_library : DFn := fun us S Q _ => ∃ p m, us = [libI p m, .int p, matD m] ∧ Bk p m ∧ Q (.bl true) S
def p__law_told : DFn := fun us S Q _ => ∃ w p m x y, us = [.int w, libI p m, x, y] ∧ Bk p m ∧ Gd S x ∧ GdN S 2 y ∧ (matOf S y).flatten.length ≤ 100000 ∧
  (((w = 0 ∨ w = 3 ∨ w = 4) ∧ fldB x = false ∧ Q (.lst [.str "number", x]) S) ∨ (w = 0 ∧ ∃ i, x = .int i ∧ i ∈ FL ∧ boksB S i y = false ∧ Q (.lst [.str "library", y]) S) ∨
   ((w = 1 ∨ w = 2) ∧ plcB m.length x = false ∧ Q (.lst [.str "number", x]) S) ∨ (w = 2 ∧ ∃ i, x = .int i ∧ 0 ≤ i ∧ i < m.length ∧ (letB S p y && decide ((sqs S y).length = (m.getD 0 []).length)) = false ∧ Q (.lst [.str "library", y]) S))
def p__law_equal : DFn := fun us S Q _ => ∃ p m b due, us = [libI p m, b, .bl due] ∧ ((∃ p' m', b = libI p' m' ∧ due = (decide (p = p') && decide (m = m'))) ∨ ((∃ N r, Bt N r b) ∧ due = false)) ∧ Q (.bl true) S
def p__law_every : DFn := fun us S Q _ => ∃ n c, us = [.m n] ∧ S n = some c ∧ Hn c ∧ ∀ c', Hn c' → Q (.bl true) (put S n c')
end K07

set_option maxHeartbeats 4000000
namespace K07
open PySem DL
def s__law_draws_1 : DS := (dIf (dAnd (dB (dBin oGe (dVar 5) (dBin oPow (dC (.int 10)) (dC (.int 18))))) (dB (dBin oGt (dBin oIx (dVar 2) (dVar 6)) (dC (.int 0))))) (dSeq (dEx (dApp (dVar 3) (dBin oMod (dCl oInt (dCons (dBin oIx (dVar 2) (dVar 6)) dNil)) (dC (.int 1000003)))))
    (dSeq (dSetI (dVar 2) (dVar 6) (dBin oFd (dCl oInt (dCons (dBin oIx (dVar 2) (dVar 6)) dNil)) (dC (.int 1000003))))
    dCnt)) dSkip)
theorem ev_s__law_draws_1 {B : DEnds} {δ : Lo} {S : Sto} : s__law_draws_1 B δ S = (dIf (dAnd (dB (dBin oGe (dVar 5) (dBin oPow (dC (.int 10)) (dC (.int 18))))) (dB (dBin oGt (dBin oIx (dVar 2) (dVar 6)) (dC (.int 0))))) (dSeq (dEx (dApp (dVar 3) (dBin oMod (dCl oInt (dCons (dBin oIx (dVar 2) (dVar 6)) dNil)) (dC (.int 1000003)))))
    (dSeq (dSetI (dVar 2) (dVar 6) (dBin oFd (dCl oInt (dCons (dBin oIx (dVar 2) (dVar 6)) dNil)) (dC (.int 1000003))))
    dCnt)) dSkip) B δ S := rfl
def s__law_draws_2 : DS := (dIf (dB (dBin oGt (dCl oLen (dCons (dVar 0) dNil)) (dC (.int 0)))) (dSeq (dSet 6 (dBin oMod (dVar 4) (dCl oLen (dCons (dVar 0) dNil))))
    (dSeq (dSet 5 (dCl oInt (dCons (dBin oIx (dVar 0) (dVar 6)) dNil)))
    s__law_draws_1)) dSkip)
theorem ev_s__law_draws_2 {B : DEnds} {δ : Lo} {S : Sto} : s__law_draws_2 B δ S = (dIf (dB (dBin oGt (dCl oLen (dCons (dVar 0) dNil)) (dC (.int 0)))) (dSeq (dSet 6 (dBin oMod (dVar 4) (dCl oLen (dCons (dVar 0) dNil))))
    (dSeq (dSet 5 (dCl oInt (dCons (dBin oIx (dVar 0) (dVar 6)) dNil)))
    s__law_draws_1)) dSkip) B δ S := rfl
def b__law_draws_3 : DS := (dSeq (dSet 5 (dVar 4))
    (dSeq s__law_draws_2
    (dSeq (dSet 7 (dBin oMod (dCl oInt (dCons (dBin oAdd (dBin oAdd (dBin oMulT (dVar 5) (dC (.int 48271))) (dBin oMulT (dVar 4) (dC (.int 69621)))) (dC (.int 11))) dNil)) (dC (.int 2147483647))))
    (dSeq (dSet 7 (dBin oMod (dCl oInt (dCons (dBin oAdd (dBin oFd (dBin oMulT (dVar 7) (dVar 7)) (dC (.int 4096))) (dVar 7)) dNil)) (dC (.int 2147483629))))
    (dEx (dApp (dVar 3) (dBin oMod (dCl oInt (dCons (dBin oAdd (dBin oFd (dBin oMulT (dVar 7) (dVar 7)) (dC (.int 4096))) (dBin oMulT (dVar 4) (dC (.int 7919)))) dNil)) (dC (.int 2147483629)))))))))
theorem ev_b__law_draws_3 {B : DEnds} {δ : Lo} {S : Sto} : b__law_draws_3 B δ S = (dSeq (dSet 5 (dVar 4))
    (dSeq s__law_draws_2
    (dSeq (dSet 7 (dBin oMod (dCl oInt (dCons (dBin oAdd (dBin oAdd (dBin oMulT (dVar 5) (dC (.int 48271))) (dBin oMulT (dVar 4) (dC (.int 69621)))) (dC (.int 11))) dNil)) (dC (.int 2147483647))))
    (dSeq (dSet 7 (dBin oMod (dCl oInt (dCons (dBin oAdd (dBin oFd (dBin oMulT (dVar 7) (dVar 7)) (dC (.int 4096))) (dVar 7)) dNil)) (dC (.int 2147483629))))
    (dEx (dApp (dVar 3) (dBin oMod (dCl oInt (dCons (dBin oAdd (dBin oFd (dBin oMulT (dVar 7) (dVar 7)) (dC (.int 4096))) (dBin oMulT (dVar 4) (dC (.int 7919)))) dNil)) (dC (.int 2147483629))))))))) B δ S := rfl
def s__law_draws_4 : DS := (dFor (iR1 (dCons (dVar 1) dNil)) (gN 4) b__law_draws_3)
theorem ev_s__law_draws_4 {B : DEnds} {δ : Lo} {S : Sto} : s__law_draws_4 B δ S = (dFor (iR1 (dCons (dVar 1) dNil)) (gN 4) b__law_draws_3) B δ S := rfl
def t__law_draws : DS := (dSeq (dSet 2 (dNew (dLc (iSeq (dVar 0)) (gN 5) dYes (dCl oAbs (dCons (dCl oInt (dCons (dVar 5) dNil)) dNil)) [5])))
    (dSeq (dSet 3 (dNew (dLst dNil)))
    (dSeq s__law_draws_4
    (dFrz 3 (dRet (dVar 3))))))
def m__law_draws : DFn := fnD 8 t__law_draws
def s__law_is_field_1 : DS := (dIf (dOr (dNot (dTru (dIsi cs (.ty "int") (dVar 0)))) (dOr (dTru (dIsi cs (.ty "bool") (dVar 0))) (dOr (dB (dBin oLt (dVar 0) (dC (.int 2)))) (dB (dBin oGt (dVar 0) (dC (.int 31))))))) (dRet (dC (.bl false))) dSkip)
theorem ev_s__law_is_field_1 {B : DEnds} {δ : Lo} {S : Sto} : s__law_is_field_1 B δ S = (dIf (dOr (dNot (dTru (dIsi cs (.ty "int") (dVar 0)))) (dOr (dTru (dIsi cs (.ty "bool") (dVar 0))) (dOr (dB (dBin oLt (dVar 0) (dC (.int 2)))) (dB (dBin oGt (dVar 0) (dC (.int 31))))))) (dRet (dC (.bl false))) dSkip) B δ S := rfl
def s__law_is_field_2 : DS := (dIf (dB (dBin (oEq false) (dBin oMod (dCl oInt (dCons (dVar 0) dNil)) (dVar 1)) (dC (.int 0)))) (dRet (dC (.bl false))) dSkip)
theorem ev_s__law_is_field_2 {B : DEnds} {δ : Lo} {S : Sto} : s__law_is_field_2 B δ S = (dIf (dB (dBin (oEq false) (dBin oMod (dCl oInt (dCons (dVar 0) dNil)) (dVar 1)) (dC (.int 0)))) (dRet (dC (.bl false))) dSkip) B δ S := rfl
def b__law_is_field_3 : DS := s__law_is_field_2
theorem ev_b__law_is_field_3 {B : DEnds} {δ : Lo} {S : Sto} : b__law_is_field_3 B δ S = s__law_is_field_2 B δ S := rfl
def s__law_is_field_4 : DS := (dFor (iR2 (dCons (dC (.int 2)) (dCons (dCl oInt (dCons (dVar 0) dNil)) dNil))) (gN 1) b__law_is_field_3)
theorem ev_s__law_is_field_4 {B : DEnds} {δ : Lo} {S : Sto} : s__law_is_field_4 B δ S = (dFor (iR2 (dCons (dC (.int 2)) (dCons (dCl oInt (dCons (dVar 0) dNil)) dNil))) (gN 1) b__law_is_field_3) B δ S := rfl
def t__law_is_field : DS := (dSeq s__law_is_field_1
    (dSeq s__law_is_field_4
    (dRet (dC (.bl true)))))
def m__law_is_field : DFn := fnD 2 t__law_is_field
def s__law_take_1 : DS := (dIf (dB (dBin oGe (dVar 2) (dCl oLen (dCons (dVar 3) dNil)))) (dRet (dC (.int 0))) dSkip)
theorem ev_s__law_take_1 {B : DEnds} {δ : Lo} {S : Sto} : s__law_take_1 B δ S = (dIf (dB (dBin oGe (dVar 2) (dCl oLen (dCons (dVar 3) dNil)))) (dRet (dC (.int 0))) dSkip) B δ S := rfl
def t__law_take : DS := (dSeq (dSet 2 (dBin oIx (dVar 0) (dC (.int 1))))
    (dSeq (dSetI (dVar 0) (dC (.int 1)) (dBin oAdd (dVar 2) (dC (.int 1))))
    (dSeq (dSet 3 (dBin oIx (dVar 0) (dC (.int 0))))
    (dSeq s__law_take_1
    (dRet (dBin oMod (dBin oFd (dCl oInt (dCons (dBin oIx (dVar 3) (dVar 2)) dNil)) (dC (.int 7))) (dVar 1)))))))
def m__law_take : DFn := fnD 4 t__law_take
def t__law_field : DS := (dSeq (dSet 1 (dFz (dLc (iR2 (dCons (dC (.int 2)) (dCons (dC (.int 32)) dNil))) (gN 2) (dTru (dCall 1 (pFld) [] (dCons (dVar 2) dNil))) (dVar 2) [2])))
    (dRet (dBin oIx (dVar 1) (dBin oIx (dFz (dLst (dCons (dCall 2 (pHand) [] (dCons (dVar 0) (dCons (dC (.int 11)) dNil))) (dCons (dCall 2 (pHand) [] (dCons (dVar 0) (dCons (dC (.int 3)) dNil))) dNil)))) (dCall 2 (pHand) [] (dCons (dVar 0) (dCons (dC (.int 2)) dNil)))))))
def m__law_field : DFn := fnD 3 t__law_field
def t__law_books : DS := (dRet (dCl oTuple (dCons (dFz (dLc (iR1 (dCons (dVar 2) dNil)) (gN 4) dYes (dCl oTuple (dCons (dFz (dLc (iR1 (dCons (dVar 3) dNil)) (gN 5) dYes (dCall 2 (pHand) [] (dCons (dVar 0) (dCons (dVar 1) dNil))) [5])) dNil)) [4])) dNil)))
def m__law_books : DFn := fnD 6 t__law_books
def t_is_integer_integers : DS := (dRet (dAndV (dIsi cs (.ty "int") (dVar 0)) (dNotV (dIsi cs (.ty "bool") (dVar 0)))))
def m_is_integer_integers : DFn := fnD 1 t_is_integer_integers
def t_is_field : DS := (dRet (dAndV (dCall 1 (pInt) [] (dCons (dVar 0) dNil)) (dBin (oIn false) (dVar 0) (dC k_FIELDS))))
def m_is_field : DFn := fnD 1 t_is_field
def t_is_sequence : DS := (dRet (dIsiT cs (.ty "list") [(.ty "tuple")] (dVar 0)))
def m_is_sequence : DFn := fnD 1 t_is_sequence
def t_is_integer_bookplaces : DS := (dRet (dAndV (dIsi cs (.ty "int") (dVar 0)) (dNotV (dIsi cs (.ty "bool") (dVar 0)))))
def m_is_integer_bookplaces : DFn := fnD 1 t_is_integer_bookplaces
def t_is_place : DS := (dRet (dAndV (dCall 1 (pInt) [] (dCons (dVar 0) dNil)) (dChain oLe oLt (dC (.int 0)) (dVar 0) (dVar 1))))
def m_is_place : DFn := fnD 2 t_is_place
def s_are_letters_1 : DS := (dIf (dNot (dTru (dCall 1 (pSeq) [] (dCons (dVar 1) dNil)))) (dRet (dC (.bl false))) dSkip)
theorem ev_s_are_letters_1 {B : DEnds} {δ : Lo} {S : Sto} : s_are_letters_1 B δ S = (dIf (dNot (dTru (dCall 1 (pSeq) [] (dCons (dVar 1) dNil)))) (dRet (dC (.bl false))) dSkip) B δ S := rfl
def s_are_letters_2 : DS := (dIf (dNot (dTru (dCall 2 (pPlace) [] (dCons (dVar 2) (dCons (dVar 0) dNil))))) (dRet (dC (.bl false))) dSkip)
theorem ev_s_are_letters_2 {B : DEnds} {δ : Lo} {S : Sto} : s_are_letters_2 B δ S = (dIf (dNot (dTru (dCall 2 (pPlace) [] (dCons (dVar 2) (dCons (dVar 0) dNil))))) (dRet (dC (.bl false))) dSkip) B δ S := rfl
def b_are_letters_3 : DS := s_are_letters_2
theorem ev_b_are_letters_3 {B : DEnds} {δ : Lo} {S : Sto} : b_are_letters_3 B δ S = s_are_letters_2 B δ S := rfl
def s_are_letters_4 : DS := (dFor (iSeq (dVar 1)) (gN 2) b_are_letters_3)
theorem ev_s_are_letters_4 {B : DEnds} {δ : Lo} {S : Sto} : s_are_letters_4 B δ S = (dFor (iSeq (dVar 1)) (gN 2) b_are_letters_3) B δ S := rfl
def t_are_letters : DS := (dSeq s_are_letters_1
    (dSeq s_are_letters_4
    (dRet (dC (.bl true)))))
def m_are_letters : DFn := fnD 3 t_are_letters
def s__are_books_1 : DS := (dIf (dOr (dNot (dTru (dCall 1 (pSeq) [] (dCons (dVar 1) dNil)))) (dB (dBin (oEq false) (dCl oLen (dCons (dVar 1) dNil)) (dC (.int 0))))) (dRet (dC (.bl false))) dSkip)
theorem ev_s__are_books_1 {B : DEnds} {δ : Lo} {S : Sto} : s__are_books_1 B δ S = (dIf (dOr (dNot (dTru (dCall 1 (pSeq) [] (dCons (dVar 1) dNil)))) (dB (dBin (oEq false) (dCl oLen (dCons (dVar 1) dNil)) (dC (.int 0))))) (dRet (dC (.bl false))) dSkip) B δ S := rfl
def s__are_books_2 : DS := (dIf (dOr (dNot (dTru (dCall 2 p_are_letters [] (dCons (dVar 0) (dCons (dVar 2) dNil))))) (dOr (dB (dBin (oEq false) (dCl oLen (dCons (dVar 2) dNil)) (dC (.int 0)))) (dB (dBin (oEq true) (dCl oLen (dCons (dVar 2) dNil)) (dCl oLen (dCons (dBin oIx (dVar 1) (dC (.int 0))) dNil)))))) (dRet (dC (.bl false))) dSkip)
theorem ev_s__are_books_2 {B : DEnds} {δ : Lo} {S : Sto} : s__are_books_2 B δ S = (dIf (dOr (dNot (dTru (dCall 2 p_are_letters [] (dCons (dVar 0) (dCons (dVar 2) dNil))))) (dOr (dB (dBin (oEq false) (dCl oLen (dCons (dVar 2) dNil)) (dC (.int 0)))) (dB (dBin (oEq true) (dCl oLen (dCons (dVar 2) dNil)) (dCl oLen (dCons (dBin oIx (dVar 1) (dC (.int 0))) dNil)))))) (dRet (dC (.bl false))) dSkip) B δ S := rfl
def b__are_books_3 : DS := s__are_books_2
theorem ev_b__are_books_3 {B : DEnds} {δ : Lo} {S : Sto} : b__are_books_3 B δ S = s__are_books_2 B δ S := rfl
def s__are_books_4 : DS := (dFor (iSeq (dVar 1)) (gN 2) b__are_books_3)
theorem ev_s__are_books_4 {B : DEnds} {δ : Lo} {S : Sto} : s__are_books_4 B δ S = (dFor (iSeq (dVar 1)) (gN 2) b__are_books_3) B δ S := rfl
def t__are_books : DS := (dSeq s__are_books_1
    (dSeq s__are_books_4
    (dRet (dC (.bl true)))))
def m__are_books : DFn := fnD 3 t__are_books
def s_Library___init___1 : DS := (dIf (dNot (dTru (dCall 1 (pFld) [] (dCons (dVar 1) dNil)))) (dRaise cInvalidNumber ["value"] (dCons (dVar 1) dNil)) dSkip)
theorem ev_s_Library___init___1 {B : DEnds} {δ : Lo} {S : Sto} : s_Library___init___1 B δ S = (dIf (dNot (dTru (dCall 1 (pFld) [] (dCons (dVar 1) dNil)))) (dRaise cInvalidNumber ["value"] (dCons (dVar 1) dNil)) dSkip) B δ S := rfl
def s_Library___init___2 : DS := (dIf (dNot (dTru (dCall 2 p__are_books [] (dCons (dVar 1) (dCons (dVar 2) dNil))))) (dRaise cInvalidLibrary ["value"] (dCons (dVar 2) dNil)) dSkip)
theorem ev_s_Library___init___2 {B : DEnds} {δ : Lo} {S : Sto} : s_Library___init___2 B δ S = (dIf (dNot (dTru (dCall 2 p__are_books [] (dCons (dVar 1) (dCons (dVar 2) dNil))))) (dRaise cInvalidLibrary ["value"] (dCons (dVar 2) dNil)) dSkip) B δ S := rfl
def t_Library___init__ : DS := (dSeq s_Library___init___1
    (dSeq s_Library___init___2
    (dSeq (dSetF [cLibrary] "p" (dVar 0) (dVar 1))
    (dSeq (dSetF [cLibrary] "books" (dVar 0) (dCl oTuple (dCons (dFz (dLc (iSeq (dVar 2)) (gN 3) dYes (dCl oTuple (dCons (dVar 3) dNil)) [3])) dNil)))
    (dSeq (dSetF [cLibrary] "book_count" (dVar 0) (dCl oLen (dCons (dFld [cLibrary] "books" (dVar 0)) dNil)))
    (dSeq (dSetF [cLibrary] "book_length" (dVar 0) (dCl oLen (dCons (dBin oIx (dFld [cLibrary] "books" (dVar 0)) (dC (.int 0))) dNil)))
    (dSetF [cLibrary] "letters" (dVar 0) (dCl oTuple (dCons (dFz (dLc2 (iSeq (dFld [cLibrary] "books" (dVar 0))) (gN 3) dYes (iSeq (dVar 3)) (gN 4) dYes (dVar 4) [3, 4] [4])) dNil)))))))))
def m_Library___init__ : DFn := fnD 5 t_Library___init__
def s__law_same_1 (self : DFn) : DS := (dIf (dOr (dNot (dTru (dIsi cs (.ty "tuple") (dVar 0)))) (dB (dBin (oEq true) (dCl oLen (dCons (dVar 0) dNil)) (dCl oLen (dCons (dVar 1) dNil))))) (dRet (dC (.bl false))) dSkip)
theorem ev_s__law_same_1 {B : DEnds} {δ : Lo} {S : Sto} {self : DFn} : s__law_same_1 self B δ S = (dIf (dOr (dNot (dTru (dIsi cs (.ty "tuple") (dVar 0)))) (dB (dBin (oEq true) (dCl oLen (dCons (dVar 0) dNil)) (dCl oLen (dCons (dVar 1) dNil))))) (dRet (dC (.bl false))) dSkip) B δ S := rfl
def s__law_same_2 (self : DFn) : DS := (dIf (dNot (dTru (dCall 2 self [] (dCons (dBin oIx (dVar 0) (dVar 2)) (dCons (dBin oIx (dVar 1) (dVar 2)) dNil))))) (dRet (dC (.bl false))) dSkip)
theorem ev_s__law_same_2 {B : DEnds} {δ : Lo} {S : Sto} {self : DFn} : s__law_same_2 self B δ S = (dIf (dNot (dTru (dCall 2 self [] (dCons (dBin oIx (dVar 0) (dVar 2)) (dCons (dBin oIx (dVar 1) (dVar 2)) dNil))))) (dRet (dC (.bl false))) dSkip) B δ S := rfl
def b__law_same_3 (self : DFn) : DS := (s__law_same_2 self)
theorem ev_b__law_same_3 {B : DEnds} {δ : Lo} {S : Sto} {self : DFn} : b__law_same_3 self B δ S = (s__law_same_2 self) B δ S := rfl
def s__law_same_4 (self : DFn) : DS := (dFor (iR1 (dCons (dCl oLen (dCons (dVar 1) dNil)) dNil)) (gN 2) (b__law_same_3 self))
theorem ev_s__law_same_4 {B : DEnds} {δ : Lo} {S : Sto} {self : DFn} : s__law_same_4 self B δ S = (dFor (iR1 (dCons (dCl oLen (dCons (dVar 1) dNil)) dNil)) (gN 2) (b__law_same_3 self)) B δ S := rfl
def s__law_same_5 (self : DFn) : DS := (dIf (dTru (dIsi cs (.ty "tuple") (dVar 1))) (dSeq (s__law_same_1 self)
    (dSeq (s__law_same_4 self)
    (dRet (dC (.bl true))))) dSkip)
theorem ev_s__law_same_5 {B : DEnds} {δ : Lo} {S : Sto} {self : DFn} : s__law_same_5 self B δ S = (dIf (dTru (dIsi cs (.ty "tuple") (dVar 1))) (dSeq (s__law_same_1 self)
    (dSeq (s__law_same_4 self)
    (dRet (dC (.bl true))))) dSkip) B δ S := rfl
def t__law_same (self : DFn) : DS := (dSeq (s__law_same_5 self)
    (dRet (dAndV (dIsi cs (.ty "int") (dVar 0)) (dAndV (dNotV (dIsi cs (.ty "bool") (dVar 0))) (dBin (oEq false) (dVar 0) (dVar 1))))))
def m__law_same : Nat → DFn
  | 0 => mBot
  | r + 1 => fnD 3 (t__law_same (m__law_same r))
def s__law_is_library_1 : DS := (dIf (dOr (dNot (dTru (dIsi cs (.own cLibrary) (dVar 0)))) (dOr (dNot (dTru (dCall 2 (pSameI 6) [] (dCons (dFld [cLibrary] "p" (dVar 0)) (dCons (dVar 1) dNil))))) (dNot (dTru (dCall 2 (pSameI 6) [] (dCons (dFld [cLibrary] "books" (dVar 0)) (dCons (dVar 2) dNil))))))) (dRet (dC (.bl false))) dSkip)
theorem ev_s__law_is_library_1 {B : DEnds} {δ : Lo} {S : Sto} : s__law_is_library_1 B δ S = (dIf (dOr (dNot (dTru (dIsi cs (.own cLibrary) (dVar 0)))) (dOr (dNot (dTru (dCall 2 (pSameI 6) [] (dCons (dFld [cLibrary] "p" (dVar 0)) (dCons (dVar 1) dNil))))) (dNot (dTru (dCall 2 (pSameI 6) [] (dCons (dFld [cLibrary] "books" (dVar 0)) (dCons (dVar 2) dNil))))))) (dRet (dC (.bl false))) dSkip) B δ S := rfl
def b__law_is_library_2 : DS := (dSet 3 (dBin oAdd (dVar 3) (dVar 4)))
theorem ev_b__law_is_library_2 {B : DEnds} {δ : Lo} {S : Sto} : b__law_is_library_2 B δ S = (dSet 3 (dBin oAdd (dVar 3) (dVar 4))) B δ S := rfl
def s__law_is_library_3 : DS := (dFor (iSeq (dVar 2)) (gN 4) b__law_is_library_2)
theorem ev_s__law_is_library_3 {B : DEnds} {δ : Lo} {S : Sto} : s__law_is_library_3 B δ S = (dFor (iSeq (dVar 2)) (gN 4) b__law_is_library_2) B δ S := rfl
def t__law_is_library : DS := (dSeq s__law_is_library_1
    (dSeq (dSet 3 (dTup dNil))
    (dSeq s__law_is_library_3
    (dSeq (dSet 5 (dTup (dCons (dFld [cLibrary] "book_count" (dVar 0)) (dCons (dFld [cLibrary] "book_length" (dVar 0)) dNil))))
    (dRet (dAndV (dCall 2 (pSameI 6) [] (dCons (dVar 5) (dCons (dTup (dCons (dCl oLen (dCons (dVar 2) dNil)) (dCons (dCl oLen (dCons (dBin oIx (dVar 2) (dC (.int 0))) dNil)) dNil))) dNil))) (dCall 2 (pSameI 6) [] (dCons (dFld [cLibrary] "letters" (dVar 0)) (dCons (dVar 3) dNil)))))))))
def m__law_is_library : DFn := fnD 6 t__law_is_library
def s_Library_book_1 : DS := (dIf (dNot (dTru (dCall 2 (pPlace) [] (dCons (dVar 1) (dCons (dFld [cLibrary] "book_count" (dVar 0)) dNil))))) (dRaise cInvalidNumber ["value"] (dCons (dVar 1) dNil)) dSkip)
theorem ev_s_Library_book_1 {B : DEnds} {δ : Lo} {S : Sto} : s_Library_book_1 B δ S = (dIf (dNot (dTru (dCall 2 (pPlace) [] (dCons (dVar 1) (dCons (dFld [cLibrary] "book_count" (dVar 0)) dNil))))) (dRaise cInvalidNumber ["value"] (dCons (dVar 1) dNil)) dSkip) B δ S := rfl
def t_Library_book : DS := (dSeq s_Library_book_1
    (dRet (dBin oIx (dFld [cLibrary] "books" (dVar 0)) (dVar 1))))
def m_Library_book : DFn := fnD 2 t_Library_book
def s_Library_changed_1 : DS := (dIf (dNot (dTru (dCall 2 (pPlace) [] (dCons (dVar 1) (dCons (dFld [cLibrary] "book_count" (dVar 0)) dNil))))) (dRaise cInvalidNumber ["value"] (dCons (dVar 1) dNil)) dSkip)
theorem ev_s_Library_changed_1 {B : DEnds} {δ : Lo} {S : Sto} : s_Library_changed_1 B δ S = (dIf (dNot (dTru (dCall 2 (pPlace) [] (dCons (dVar 1) (dCons (dFld [cLibrary] "book_count" (dVar 0)) dNil))))) (dRaise cInvalidNumber ["value"] (dCons (dVar 1) dNil)) dSkip) B δ S := rfl
def s_Library_changed_2 : DS := (dIf (dOr (dNot (dTru (dCall 2 p_are_letters [] (dCons (dFld [cLibrary] "p" (dVar 0)) (dCons (dVar 2) dNil))))) (dB (dBin (oEq true) (dCl oLen (dCons (dVar 2) dNil)) (dFld [cLibrary] "book_length" (dVar 0))))) (dRaise cInvalidLibrary ["value"] (dCons (dVar 2) dNil)) dSkip)
theorem ev_s_Library_changed_2 {B : DEnds} {δ : Lo} {S : Sto} : s_Library_changed_2 B δ S = (dIf (dOr (dNot (dTru (dCall 2 p_are_letters [] (dCons (dFld [cLibrary] "p" (dVar 0)) (dCons (dVar 2) dNil))))) (dB (dBin (oEq true) (dCl oLen (dCons (dVar 2) dNil)) (dFld [cLibrary] "book_length" (dVar 0))))) (dRaise cInvalidLibrary ["value"] (dCons (dVar 2) dNil)) dSkip) B δ S := rfl
def t_Library_changed : DS := (dSeq s_Library_changed_1
    (dSeq s_Library_changed_2
    (dRet (dCall 2 p_Library [] (dCons (dFld [cLibrary] "p" (dVar 0)) (dCons (dBin oAdd (dBin oAdd (dSl (dFld [cLibrary] "books" (dVar 0)) dNoP (dPart (dVar 1))) (dTup (dCons (dCl oTuple (dCons (dVar 2) dNil)) dNil))) (dSl (dFld [cLibrary] "books" (dVar 0)) (dPart (dBin oAdd (dVar 1) (dC (.int 1)))) dNoP)) dNil))))))
def m_Library_changed : DFn := fnD 3 t_Library_changed
def t_Library_of_letters : DS := (dRg3 4 (dCons (dC (.int 0)) (dCons (dCl oLen (dCons (dVar 3) dNil)) (dCons (dVar 2) dNil))) (fun rv0a rv0i rv0c rv0n => (dRet (dMakeL 0 cLibrary 2 p_Library [] (dCons (dVar 1) (dCons (dFz (dLc (iRgV 4 rv0a rv0i rv0c rv0n) (gN 5) dYes (dCl oTuple (dCons (dSl (dVar 3) (dPart (dVar 5)) (dPart (dBin oAdd (dVar 5) (dVar 2)))) dNil)) [5])) dNil))))))
def m_Library_of_letters : DFn := fnD 6 t_Library_of_letters
def t_Library___eq__ : DS := (dRet (dAndV (dIsi cs (.own cLibrary) (dVar 1)) (dAndV (dBin (oEq false) (dFld [cLibrary] "p" (dVar 0)) (dFld [cLibrary] "p" (dVar 1))) (dBin (oEq false) (dFld [cLibrary] "books" (dVar 0)) (dFld [cLibrary] "books" (dVar 1))))))
def m_Library___eq__ : DFn := fnD 2 t_Library___eq__
def t__law_equal : DS := (dSeq (dSet 3 (dFz (dLst (dCons (dBin (oOwn2 cLibrary m_Library___eq__) (dVar 0) (dVar 1)) (dCons (dBin (oOwn2 cLibrary m_Library___eq__) (dVar 1) (dVar 0)) dNil)))))
    (dRet (dAndV (dIsi cs (.ty "bool") (dBin oIx (dVar 3) (dC (.int 0)))) (dAndV (dIsi cs (.ty "bool") (dBin oIx (dVar 3) (dC (.int 1)))) (dBin (oEq false) (dVar 3) (dFz (dLst (dCons (dVar 2) (dCons (dVar 2) dNil)))))))))
def m__law_equal : DFn := fnD 4 t__law_equal
def s__law_odd_1 (self : DFn) : DS := (dIf (dAnd (dB (dBin oGt (dVar 1) (dC (.int 0)))) (dB (dBin oGt (dVar 2) (dC (.int 6))))) (dSeq (dSet 3 (dFz (dLc (iR1 (dCons (dCall 2 (pHand) [] (dCons (dVar 0) (dCons (dC (.int 4)) dNil))) dNil)) (gN 5) dYes (dCall 2 self [] (dCons (dVar 0) (dCons (dBin oSub (dVar 1) (dC (.int 1))) dNil))) [5])))
    (dRet (dBin oIx (dFz (dLst (dCons (dVar 3) (dCons (dCl oTuple (dCons (dVar 3) dNil)) dNil)))) (dBin oSub (dVar 2) (dC (.int 7)))))) dSkip)
theorem ev_s__law_odd_1 {B : DEnds} {δ : Lo} {S : Sto} {self : DFn} : s__law_odd_1 self B δ S = (dIf (dAnd (dB (dBin oGt (dVar 1) (dC (.int 0)))) (dB (dBin oGt (dVar 2) (dC (.int 6))))) (dSeq (dSet 3 (dFz (dLc (iR1 (dCons (dCall 2 (pHand) [] (dCons (dVar 0) (dCons (dC (.int 4)) dNil))) dNil)) (gN 5) dYes (dCall 2 self [] (dCons (dVar 0) (dCons (dBin oSub (dVar 1) (dC (.int 1))) dNil))) [5])))
    (dRet (dBin oIx (dFz (dLst (dCons (dVar 3) (dCons (dCl oTuple (dCons (dVar 3) dNil)) dNil)))) (dBin oSub (dVar 2) (dC (.int 7)))))) dSkip) B δ S := rfl
def t__law_odd (self : DFn) : DS := (dSeq (dSet 2 (dCall 2 (pHand) [] (dCons (dVar 0) (dCons (dC (.int 9)) dNil))))
    (dSeq (s__law_odd_1 self)
    (dSeq (dSet 4 (dFz (dLst (dCons (dC (.bl true)) (dCons (dC (.bl false)) (dCons (dC .non) (dCons (dC (.str "")) (dCons (dC (.str "a1")) (dCons (dC (.int 0)) (dCons (dC (.int 1)) (dCons (dUn oNeg (dC (.int 1))) (dCons (dC (.int 2)) (dCons (dC (.int 7)) (dCons (dC (.int 31)) (dCons (dC (.int 37)) (dCons (dBin oPow (dC (.int 10)) (dC (.int 30))) (dCons (dUn oNeg (dBin oPow (dC (.int 10)) (dC (.int 30)))) (dCons (dTup dNil) (dCons (dFz (dLst dNil)) dNil)))))))))))))))))))
    (dRet (dBin oIx (dVar 4) (dCall 2 (pHand) [] (dCons (dVar 0) (dCons (dC (.int 16)) dNil))))))))
def m__law_odd : Nat → DFn
  | 0 => mBot
  | r + 1 => fnD 6 (t__law_odd (m__law_odd r))
def s__law_no_field_1 : DS := (dIf (dTru (dCall 1 (pFld) [] (dCons (dVar 1) dNil))) (dRet (dC (.int 4))) dSkip)
theorem ev_s__law_no_field_1 {B : DEnds} {δ : Lo} {S : Sto} : s__law_no_field_1 B δ S = (dIf (dTru (dCall 1 (pFld) [] (dCons (dVar 1) dNil))) (dRet (dC (.int 4))) dSkip) B δ S := rfl
def t__law_no_field : DS := (dSeq (dSet 1 (dBin oIx (dFz (dLst (dCons (dBin oSub (dCall 2 (pHand) [] (dCons (dVar 0) (dCons (dC (.int 60)) dNil))) (dC (.int 9))) (dCons (dCall 2 p__law_odd [] (dCons (dVar 0) (dCons (dC (.int 1)) dNil))) (dCons (dC (.int 37)) (dCons (dC (.int 1)) (dCons (dC (.int 0)) (dCons (dUn oNeg (dC (.int 2))) (dCons (dC (.int 33)) (dCons (dC (.int 961)) dNil)))))))))) (dCall 2 (pHand) [] (dCons (dVar 0) (dCons (dC (.int 8)) dNil)))))
    (dSeq s__law_no_field_1
    (dRet (dVar 1))))
def m__law_no_field : DFn := fnD 2 t__law_no_field
def s_every_library_1 : DS := (dIf (dNot (dTru (dCall 1 (pFld) [] (dCons (dVar 0) dNil)))) (dRaise cInvalidNumber ["value"] (dCons (dVar 0) dNil)) dSkip)
theorem ev_s_every_library_1 {B : DEnds} {δ : Lo} {S : Sto} : s_every_library_1 B δ S = (dIf (dNot (dTru (dCall 1 (pFld) [] (dCons (dVar 0) dNil)))) (dRaise cInvalidNumber ["value"] (dCons (dVar 0) dNil)) dSkip) B δ S := rfl
def b_every_library_2 : DS := (dSet 3 (dFz (dLc2 (iSeq (dVar 3)) (gN 5) dYes (iR1 (dCons (dVar 0) dNil)) (gN 6) dYes (dBin oAdd (dVar 5) (dTup (dCons (dVar 6) dNil))) [5, 6] [6])))
theorem ev_b_every_library_2 {B : DEnds} {δ : Lo} {S : Sto} : b_every_library_2 B δ S = (dSet 3 (dFz (dLc2 (iSeq (dVar 3)) (gN 5) dYes (iR1 (dCons (dVar 0) dNil)) (gN 6) dYes (dBin oAdd (dVar 5) (dTup (dCons (dVar 6) dNil))) [5, 6] [6]))) B δ S := rfl
def s_every_library_3 : DS := (dFor (iR1 (dCons (dBin oMulT (dVar 1) (dVar 2)) dNil)) (gN 4) b_every_library_2)
theorem ev_s_every_library_3 {B : DEnds} {δ : Lo} {S : Sto} : s_every_library_3 B δ S = (dFor (iR1 (dCons (dBin oMulT (dVar 1) (dVar 2)) dNil)) (gN 4) b_every_library_2) B δ S := rfl
def t_every_library : DS := (dSeq s_every_library_1
    (dSeq (dSet 3 (dFz (dLst (dCons (dTup dNil) dNil))))
    (dSeq s_every_library_3
    (dRet (dCl oTuple (dCons (dFz (dLc (iSeq (dVar 3)) (gN 5) dYes (dCMeth cLibrary 4 p_Library_of_letters (dCons (dVar 0) (dCons (dVar 2) (dCons (dVar 5) dNil)))) [5])) dNil))))))
def m_every_library : DFn := fnD 7 t_every_library
def s__law_told_1 : DS := (dIf (dB (dBin (oEq false) (dVar 0) (dC (.int 3)))) (dEx (dCMeth cLibrary 4 p_Library_of_letters (dCons (dVar 2) (dCons (dC (.int 1)) (dCons (dFz (dLst (dCons (dC (.int 0)) (dCons (dC (.int 1)) dNil)))) dNil))))) (dEx (dCall 3 p_every_library [] (dCons (dVar 2) (dCons (dC (.int 1)) (dCons (dC (.int 1)) dNil))))))
theorem ev_s__law_told_1 {B : DEnds} {δ : Lo} {S : Sto} : s__law_told_1 B δ S = (dIf (dB (dBin (oEq false) (dVar 0) (dC (.int 3)))) (dEx (dCMeth cLibrary 4 p_Library_of_letters (dCons (dVar 2) (dCons (dC (.int 1)) (dCons (dFz (dLst (dCons (dC (.int 0)) (dCons (dC (.int 1)) dNil)))) dNil))))) (dEx (dCall 3 p_every_library [] (dCons (dVar 2) (dCons (dC (.int 1)) (dCons (dC (.int 1)) dNil)))))) B δ S := rfl
def s__law_told_2 : DS := (dIf (dB (dBin (oEq false) (dVar 0) (dC (.int 2)))) (dEx (dMeth cLibrary "changed" 3 p_Library_changed [] (dVar 1) (dCons (dVar 2) (dCons (dVar 3) dNil)))) s__law_told_1)
theorem ev_s__law_told_2 {B : DEnds} {δ : Lo} {S : Sto} : s__law_told_2 B δ S = (dIf (dB (dBin (oEq false) (dVar 0) (dC (.int 2)))) (dEx (dMeth cLibrary "changed" 3 p_Library_changed [] (dVar 1) (dCons (dVar 2) (dCons (dVar 3) dNil)))) s__law_told_1) B δ S := rfl
def s__law_told_3 : DS := (dIf (dB (dBin (oEq false) (dVar 0) (dC (.int 1)))) (dEx (dMeth cLibrary "book" 2 p_Library_book [] (dVar 1) (dCons (dVar 2) dNil))) s__law_told_2)
theorem ev_s__law_told_3 {B : DEnds} {δ : Lo} {S : Sto} : s__law_told_3 B δ S = (dIf (dB (dBin (oEq false) (dVar 0) (dC (.int 1)))) (dEx (dMeth cLibrary "book" 2 p_Library_book [] (dVar 1) (dCons (dVar 2) dNil))) s__law_told_2) B δ S := rfl
def s__law_told_4 : DS := (dIf (dB (dBin (oEq false) (dVar 0) (dC (.int 0)))) (dEx (dCall 2 p_Library [] (dCons (dVar 2) (dCons (dVar 3) dNil)))) s__law_told_3)
theorem ev_s__law_told_4 {B : DEnds} {δ : Lo} {S : Sto} : s__law_told_4 B δ S = (dIf (dB (dBin (oEq false) (dVar 0) (dC (.int 0)))) (dEx (dCall 2 p_Library [] (dCons (dVar 2) (dCons (dVar 3) dNil)))) s__law_told_3) B δ S := rfl
def h__law_told_5 : List (Value × Hd) := [(.ref cInvalidNumber, ⟨fun C => List.lookup C tab_InvalidNumber, some 4, fun a dx er => (dRet (dFz (dLst (dCons (dC (.str "number")) (dCons (dXf [cInvalidNumber] a dx er "value" (dVar 4)) dNil)))))⟩), (.ref cInvalidLibrary, ⟨fun C => List.lookup C tab_InvalidLibrary, some 4, fun a dx er => (dRet (dFz (dLst (dCons (dC (.str "library")) (dCons (dXf [cInvalidLibrary] a dx er "value" (dVar 4)) dNil)))))⟩)]
def s__law_told_6 : DS := (dTry (h__law_told_5.map (·.2)) s__law_told_4)
theorem ev_s__law_told_6 {B : DEnds} {δ : Lo} {S : Sto} : s__law_told_6 B δ S = (dTry (h__law_told_5.map (·.2)) s__law_told_4) B δ S := rfl
def t__law_told : DS := (dSeq s__law_told_6
    (dRet (dFz (dLst (dCons (dC (.str "fine")) (dCons (dC (.int 0)) dNil))))))
def m__law_told : DFn := fnD 5 t__law_told
def t__law_bad_book : DS := (dSeq (dSet 3 (dCall 2 (pHand) [] (dCons (dVar 0) (dCons (dCl oLen (dCons (dVar 1) dNil)) dNil))))
    (dSeq (dSet 4 (dBin oIx (dFz (dLst (dCons (dVar 2) (dCons (dUn oNeg (dC (.int 1))) (dCons (dC (.bl true)) (dCons (dC .non) (dCons (dC (.str "0")) (dCons (dTup (dCons (dC (.int 0)) dNil)) (dCons (dBin oAdd (dVar 2) (dBin oPow (dC (.int 10)) (dC (.int 20)))) dNil))))))))) (dCall 2 (pHand) [] (dCons (dVar 0) (dCons (dC (.int 7)) dNil)))))
    (dSeq (dSet 5 (dBin oAdd (dBin oAdd (dSl (dVar 1) dNoP (dPart (dVar 3))) (dTup (dCons (dVar 4) dNil))) (dSl (dVar 1) (dPart (dBin oAdd (dVar 3) (dC (.int 1)))) dNoP)))
    (dRet (dBin oIx (dFz (dLst (dCons (dVar 5) (dCons (dFz (dListOf (dCons (dVar 5) dNil))) (dCons (dBin oAdd (dVar 1) (dTup (dCons (dC (.int 0)) dNil))) (dCons (dSl (dVar 1) (dPart (dC (.int 1))) dNoP) (dCons (dC .non) (dCons (dC (.int 7)) (dCons (dC (.str "00")) (dCons (dFz (dLst dNil)) (dCons (dTup (dCons (dVar 1) dNil)) dNil))))))))))) (dCall 2 (pHand) [] (dCons (dVar 0) (dCons (dC (.int 9)) dNil))))))))
def m__law_bad_book : DFn := fnD 6 t__law_bad_book
def s__law_bad_books_1 : DS := (dIf (dB (dBin (oEq false) (dVar 3) (dC (.int 0)))) (dRet (dBin oIx (dFz (dLst (dCons (dTup dNil) (dCons (dFz (dLst dNil)) (dCons (dFz (dLst (dCons (dFz (dLst dNil)) dNil))) (dCons (dBin oMulT (dTup (dCons (dTup dNil) dNil)) (dC (.int 2))) (dCons (dC .non) (dCons (dC (.int 5)) (dCons (dC (.str "a")) (dCons (dTup (dCons (dC (.int 1)) dNil)) (dCons (dC (.bl true)) dNil))))))))))) (dCall 2 (pHand) [] (dCons (dVar 0) (dCons (dC (.int 9)) dNil))))) dSkip)
theorem ev_s__law_bad_books_1 {B : DEnds} {δ : Lo} {S : Sto} : s__law_bad_books_1 B δ S = (dIf (dB (dBin (oEq false) (dVar 3) (dC (.int 0)))) (dRet (dBin oIx (dFz (dLst (dCons (dTup dNil) (dCons (dFz (dLst dNil)) (dCons (dFz (dLst (dCons (dFz (dLst dNil)) dNil))) (dCons (dBin oMulT (dTup (dCons (dTup dNil) dNil)) (dC (.int 2))) (dCons (dC .non) (dCons (dC (.int 5)) (dCons (dC (.str "a")) (dCons (dTup (dCons (dC (.int 1)) dNil)) (dCons (dC (.bl true)) dNil))))))))))) (dCall 2 (pHand) [] (dCons (dVar 0) (dCons (dC (.int 9)) dNil))))) dSkip) B δ S := rfl
def s__law_bad_books_2 : DS := (dIf (dAnd (dB (dBin (oEq false) (dCl oLen (dCons (dVar 1) dNil)) (dC (.int 1)))) (dB (dBin (oEq false) (dVar 5) (dBin oAdd (dBin oIx (dVar 1) (dC (.int 0))) (dTup (dCons (dC (.int 0)) dNil)))))) (dSet 5 (dTup dNil)) dSkip)
theorem ev_s__law_bad_books_2 {B : DEnds} {δ : Lo} {S : Sto} : s__law_bad_books_2 B δ S = (dIf (dAnd (dB (dBin (oEq false) (dCl oLen (dCons (dVar 1) dNil)) (dC (.int 1)))) (dB (dBin (oEq false) (dVar 5) (dBin oAdd (dBin oIx (dVar 1) (dC (.int 0))) (dTup (dCons (dC (.int 0)) dNil)))))) (dSet 5 (dTup dNil)) dSkip) B δ S := rfl
def s__law_bad_books_3 : DS := (dIf (dAnd (dB (dBin (oEq false) (dCl oLen (dCons (dVar 1) dNil)) (dC (.int 1)))) (dB (dBin (oEq false) (dVar 5) (dSl (dBin oIx (dVar 1) (dC (.int 0))) (dPart (dC (.int 1))) dNoP)))) (dSet 5 (dTup dNil)) dSkip)
theorem ev_s__law_bad_books_3 {B : DEnds} {δ : Lo} {S : Sto} : s__law_bad_books_3 B δ S = (dIf (dAnd (dB (dBin (oEq false) (dCl oLen (dCons (dVar 1) dNil)) (dC (.int 1)))) (dB (dBin (oEq false) (dVar 5) (dSl (dBin oIx (dVar 1) (dC (.int 0))) (dPart (dC (.int 1))) dNoP)))) (dSet 5 (dTup dNil)) dSkip) B δ S := rfl
def t__law_bad_books : DS := (dSeq (dSet 3 (dCall 2 (pHand) [] (dCons (dVar 0) (dCons (dC (.int 4)) dNil))))
    (dSeq s__law_bad_books_1
    (dSeq (dSet 4 (dCall 2 (pHand) [] (dCons (dVar 0) (dCons (dCl oLen (dCons (dVar 1) dNil)) dNil))))
    (dSeq (dSet 5 (dCall 3 p__law_bad_book [] (dCons (dVar 0) (dCons (dBin oIx (dVar 1) (dVar 4)) (dCons (dVar 2) dNil)))))
    (dSeq s__law_bad_books_2
    (dSeq s__law_bad_books_3
    (dSeq (dSet 6 (dBin oAdd (dBin oAdd (dFz (dListOf (dCons (dSl (dVar 1) dNoP (dPart (dVar 4))) dNil))) (dFz (dLst (dCons (dVar 5) dNil)))) (dFz (dListOf (dCons (dSl (dVar 1) (dPart (dBin oAdd (dVar 4) (dC (.int 1)))) dNoP) dNil)))))
    (dRet (dBin oIx (dFz (dLst (dCons (dVar 6) (dCons (dCl oTuple (dCons (dVar 6) dNil)) dNil)))) (dCall 2 (pHand) [] (dCons (dVar 0) (dCons (dC (.int 2)) dNil))))))))))))
def m__law_bad_books : DFn := fnD 7 t__law_bad_books
def s__law_every_1 : DS := (dIf (dB (dBin oGt (dBin oMulT (dVar 2) (dVar 3)) (dC (.int 4)))) (dSet 3 (dC (.int 1))) dSkip)
theorem ev_s__law_every_1 {B : DEnds} {δ : Lo} {S : Sto} : s__law_every_1 B δ S = (dIf (dB (dBin oGt (dBin oMulT (dVar 2) (dVar 3)) (dC (.int 4)))) (dSet 3 (dC (.int 1))) dSkip) B δ S := rfl
def b__law_every_2 : DS := (dSet 5 (dBin oMulT (dVar 5) (dVar 1)))
theorem ev_b__law_every_2 {B : DEnds} {δ : Lo} {S : Sto} : b__law_every_2 B δ S = (dSet 5 (dBin oMulT (dVar 5) (dVar 1))) B δ S := rfl
def s__law_every_3 : DS := (dFor (iR1 (dCons (dBin oMulT (dVar 2) (dVar 3)) dNil)) (gN 6) b__law_every_2)
theorem ev_s__law_every_3 {B : DEnds} {δ : Lo} {S : Sto} : s__law_every_3 B δ S = (dFor (iR1 (dCons (dBin oMulT (dVar 2) (dVar 3)) dNil)) (gN 6) b__law_every_2) B δ S := rfl
def s__law_every_4 : DS := (dIf (dOr (dNot (dTru (dIsi cs (.ty "tuple") (dVar 4)))) (dB (dBin (oEq true) (dCl oLen (dCons (dVar 4) dNil)) (dVar 5)))) (dRet (dC (.bl false))) dSkip)
theorem ev_s__law_every_4 {B : DEnds} {δ : Lo} {S : Sto} : s__law_every_4 B δ S = (dIf (dOr (dNot (dTru (dIsi cs (.ty "tuple") (dVar 4)))) (dB (dBin (oEq true) (dCl oLen (dCons (dVar 4) dNil)) (dVar 5)))) (dRet (dC (.bl false))) dSkip) B δ S := rfl
def b__law_every_5 : DS := (dSeq (dEx (dApp (dVar 9) (dBin oMod (dCl oInt (dCons (dVar 8) dNil)) (dVar 1))))
    (dSet 8 (dBin oFd (dVar 8) (dVar 1))))
theorem ev_b__law_every_5 {B : DEnds} {δ : Lo} {S : Sto} : b__law_every_5 B δ S = (dSeq (dEx (dApp (dVar 9) (dBin oMod (dCl oInt (dCons (dVar 8) dNil)) (dVar 1))))
    (dSet 8 (dBin oFd (dVar 8) (dVar 1)))) B δ S := rfl
def s__law_every_6 : DS := (dFor (iR1 (dCons (dBin oMulT (dVar 2) (dVar 3)) dNil)) (gN 6) b__law_every_5)
theorem ev_s__law_every_6 {B : DEnds} {δ : Lo} {S : Sto} : s__law_every_6 B δ S = (dFor (iR1 (dCons (dBin oMulT (dVar 2) (dVar 3)) dNil)) (gN 6) b__law_every_5) B δ S := rfl
def s__law_every_7 : DS := (dIf (dNot (dTru (dCall 3 p__law_is_library [] (dCons (dBin oIx (dVar 4) (dVar 7)) (dCons (dVar 1) (dCons (dVar 10) dNil)))))) (dRet (dC (.bl false))) dSkip)
theorem ev_s__law_every_7 {B : DEnds} {δ : Lo} {S : Sto} : s__law_every_7 B δ S = (dIf (dNot (dTru (dCall 3 p__law_is_library [] (dCons (dBin oIx (dVar 4) (dVar 7)) (dCons (dVar 1) (dCons (dVar 10) dNil)))))) (dRet (dC (.bl false))) dSkip) B δ S := rfl
def b__law_every_8 : DS := (dSeq (dSet 8 (dCl oInt (dCons (dVar 7) dNil)))
    (dSeq (dSet 9 (dNew (dLst dNil)))
    (dSeq s__law_every_6
    (dSeq (dSet 9 (dCl oTuple (dCons (dSlS (dVar 9) dNoP dNoP (dPart (dUn oNeg (dC (.int 1))))) dNil)))
    (dSeq (dSet 10 (dCl oTuple (dCons (dFz (dLc (iR1 (dCons (dVar 2) dNil)) (gN 11) dYes (dSl (dVar 9) (dPart (dBin oMulT (dVar 11) (dVar 3))) (dPart (dBin oAdd (dBin oMulT (dVar 11) (dVar 3)) (dVar 3)))) [11])) dNil)))
    s__law_every_7)))))
theorem ev_b__law_every_8 {B : DEnds} {δ : Lo} {S : Sto} : b__law_every_8 B δ S = (dSeq (dSet 8 (dCl oInt (dCons (dVar 7) dNil)))
    (dSeq (dSet 9 (dNew (dLst dNil)))
    (dSeq s__law_every_6
    (dSeq (dSet 9 (dCl oTuple (dCons (dSlS (dVar 9) dNoP dNoP (dPart (dUn oNeg (dC (.int 1))))) dNil)))
    (dSeq (dSet 10 (dCl oTuple (dCons (dFz (dLc (iR1 (dCons (dVar 2) dNil)) (gN 11) dYes (dSl (dVar 9) (dPart (dBin oMulT (dVar 11) (dVar 3))) (dPart (dBin oAdd (dBin oMulT (dVar 11) (dVar 3)) (dVar 3)))) [11])) dNil)))
    s__law_every_7))))) B δ S := rfl
def s__law_every_9 : DS := (dFor (iR1 (dCons (dVar 5) dNil)) (gN 7) b__law_every_8)
theorem ev_s__law_every_9 {B : DEnds} {δ : Lo} {S : Sto} : s__law_every_9 B δ S = (dFor (iR1 (dCons (dVar 5) dNil)) (gN 7) b__law_every_8) B δ S := rfl
def t__law_every : DS := (dSeq (dSet 1 (dBin oAdd (dC (.int 2)) (dCall 2 (pHand) [] (dCons (dVar 0) (dCons (dC (.int 2)) dNil)))))
    (dSeq (dSet 2 (dBin oAdd (dC (.int 1)) (dCall 2 (pHand) [] (dCons (dVar 0) (dCons (dC (.int 3)) dNil)))))
    (dSeq (dSet 3 (dBin oIx (dFz (dLst (dCons (dC (.int 1)) (dCons (dC (.int 2)) (dCons (dC (.int 3)) dNil))))) (dCall 2 (pHand) [] (dCons (dVar 0) (dCons (dC (.int 3)) dNil)))))
    (dSeq s__law_every_1
    (dSeq (dSet 4 (dCall 3 p_every_library [] (dCons (dVar 1) (dCons (dVar 2) (dCons (dVar 3) dNil)))))
    (dSeq (dSet 5 (dC (.int 1)))
    (dSeq s__law_every_3
    (dSeq s__law_every_4
    (dSeq s__law_every_9
    (dRet (dC (.bl true))))))))))))
def m__law_every : DFn := fnD 12 t__law_every
def s_law_1 : DS := (dIf (dOr (dNot (dTru (dCall 3 p__law_is_library [] (dCons (dVar 7) (dCons (dVar 2) (dCons (dVar 5) dNil)))))) (dNot (dTru (dCall 3 p__law_is_library [] (dCons (dCall 2 p_Library [] (dCons (dVar 2) (dCons (dVar 5) dNil))) (dCons (dVar 2) (dCons (dVar 5) dNil))))))) (dRet (dC (.bl false))) dSkip)
theorem ev_s_law_1 {B : DEnds} {δ : Lo} {S : Sto} : s_law_1 B δ S = (dIf (dOr (dNot (dTru (dCall 3 p__law_is_library [] (dCons (dVar 7) (dCons (dVar 2) (dCons (dVar 5) dNil)))))) (dNot (dTru (dCall 3 p__law_is_library [] (dCons (dCall 2 p_Library [] (dCons (dVar 2) (dCons (dVar 5) dNil))) (dCons (dVar 2) (dCons (dVar 5) dNil))))))) (dRet (dC (.bl false))) dSkip) B δ S := rfl
def s_law_2 : DS := (dIf (dOr (dNot (dTru (dCall 2 (pSameI 6) [] (dCons (dMeth cLibrary "book" 2 p_Library_book [] (dVar 7) (dCons (dVar 8) dNil)) (dCons (dBin oIx (dVar 5) (dVar 8)) dNil))))) (dNot (dTru (dCall 3 p__law_is_library [] (dCons (dMeth cLibrary "changed" 3 p_Library_changed [] (dVar 7) (dCons (dVar 8) (dCons (dFz (dListOf (dCons (dVar 9) dNil))) dNil))) (dCons (dVar 2) (dCons (dVar 10) dNil))))))) (dRet (dC (.bl false))) dSkip)
theorem ev_s_law_2 {B : DEnds} {δ : Lo} {S : Sto} : s_law_2 B δ S = (dIf (dOr (dNot (dTru (dCall 2 (pSameI 6) [] (dCons (dMeth cLibrary "book" 2 p_Library_book [] (dVar 7) (dCons (dVar 8) dNil)) (dCons (dBin oIx (dVar 5) (dVar 8)) dNil))))) (dNot (dTru (dCall 3 p__law_is_library [] (dCons (dMeth cLibrary "changed" 3 p_Library_changed [] (dVar 7) (dCons (dVar 8) (dCons (dFz (dListOf (dCons (dVar 9) dNil))) dNil))) (dCons (dVar 2) (dCons (dVar 10) dNil))))))) (dRet (dC (.bl false))) dSkip) B δ S := rfl
def b_law_3 : DS := (dSet 11 (dBin oAdd (dVar 11) (dFz (dListOf (dCons (dVar 12) dNil)))))
theorem ev_b_law_3 {B : DEnds} {δ : Lo} {S : Sto} : b_law_3 B δ S = (dSet 11 (dBin oAdd (dVar 11) (dFz (dListOf (dCons (dVar 12) dNil))))) B δ S := rfl
def s_law_4 : DS := (dFor (iSeq (dVar 5)) (gN 12) b_law_3)
theorem ev_s_law_4 {B : DEnds} {δ : Lo} {S : Sto} : s_law_4 B δ S = (dFor (iSeq (dVar 5)) (gN 12) b_law_3) B δ S := rfl
def s_law_5 : DS := (dIf (dOr (dNot (dTru (dCall 3 p__law_is_library [] (dCons (dCMeth cLibrary 4 p_Library_of_letters (dCons (dVar 2) (dCons (dVar 4) (dCons (dVar 11) dNil)))) (dCons (dVar 2) (dCons (dVar 5) dNil)))))) (dNot (dTru (dCall 3 p__law_is_library [] (dCons (dVar 7) (dCons (dVar 2) (dCons (dVar 5) dNil))))))) (dRet (dC (.bl false))) dSkip)
theorem ev_s_law_5 {B : DEnds} {δ : Lo} {S : Sto} : s_law_5 B δ S = (dIf (dOr (dNot (dTru (dCall 3 p__law_is_library [] (dCons (dCMeth cLibrary 4 p_Library_of_letters (dCons (dVar 2) (dCons (dVar 4) (dCons (dVar 11) dNil)))) (dCons (dVar 2) (dCons (dVar 5) dNil)))))) (dNot (dTru (dCall 3 p__law_is_library [] (dCons (dVar 7) (dCons (dVar 2) (dCons (dVar 5) dNil))))))) (dRet (dC (.bl false))) dSkip) B δ S := rfl
def s_law_6 : DS := (dIf (dOr (dNot (dTru (dCall 3 p__law_equal [] (dCons (dVar 7) (dCons (dCall 2 p_Library [] (dCons (dVar 2) (dCons (dFz (dLc (iSeq (dVar 5)) (gN 12) dYes (dFz (dListOf (dCons (dVar 12) dNil))) [12])) dNil))) (dCons (dC (.bl true)) dNil)))))) (dNot (dTru (dCall 3 p__law_equal [] (dCons (dVar 7) (dCons (dCall 2 p_Library [] (dCons (dVar 2) (dCons (dVar 10) dNil))) (dCons (dBin (oEq false) (dVar 10) (dVar 5)) dNil))))))) (dRet (dC (.bl false))) dSkip)
theorem ev_s_law_6 {B : DEnds} {δ : Lo} {S : Sto} : s_law_6 B δ S = (dIf (dOr (dNot (dTru (dCall 3 p__law_equal [] (dCons (dVar 7) (dCons (dCall 2 p_Library [] (dCons (dVar 2) (dCons (dFz (dLc (iSeq (dVar 5)) (gN 12) dYes (dFz (dListOf (dCons (dVar 12) dNil))) [12])) dNil))) (dCons (dC (.bl true)) dNil)))))) (dNot (dTru (dCall 3 p__law_equal [] (dCons (dVar 7) (dCons (dCall 2 p_Library [] (dCons (dVar 2) (dCons (dVar 10) dNil))) (dCons (dBin (oEq false) (dVar 10) (dVar 5)) dNil))))))) (dRet (dC (.bl false))) dSkip) B δ S := rfl
def s_law_7 : DS := (dIf (dAnd (dB (dBin oGt (dCl oLen (dCons (dVar 13) dNil)) (dC (.int 0)))) (dNot (dTru (dCall 3 p__law_equal [] (dCons (dVar 7) (dCons (dCall 2 p_Library [] (dCons (dBin oIx (dVar 13) (dC (.int 0))) (dCons (dVar 5) dNil))) (dCons (dC (.bl false)) dNil))))))) (dRet (dC (.bl false))) dSkip)
theorem ev_s_law_7 {B : DEnds} {δ : Lo} {S : Sto} : s_law_7 B δ S = (dIf (dAnd (dB (dBin oGt (dCl oLen (dCons (dVar 13) dNil)) (dC (.int 0)))) (dNot (dTru (dCall 3 p__law_equal [] (dCons (dVar 7) (dCons (dCall 2 p_Library [] (dCons (dBin oIx (dVar 13) (dC (.int 0))) (dCons (dVar 5) dNil))) (dCons (dC (.bl false)) dNil))))))) (dRet (dC (.bl false))) dSkip) B δ S := rfl
def s_law_8 : DS := (dIf (dAnd (dB (dBin oGt (dVar 4) (dC (.int 1)))) (dAnd (dB (dBin oLt (dBin oMulT (dVar 3) (dVar 4)) (dC (.int 9)))) (dNot (dTru (dCall 3 p__law_equal [] (dCons (dVar 7) (dCons (dCMeth cLibrary 4 p_Library_of_letters (dCons (dVar 2) (dCons (dC (.int 1)) (dCons (dVar 11) dNil)))) (dCons (dC (.bl false)) dNil)))))))) (dRet (dC (.bl false))) dSkip)
theorem ev_s_law_8 {B : DEnds} {δ : Lo} {S : Sto} : s_law_8 B δ S = (dIf (dAnd (dB (dBin oGt (dVar 4) (dC (.int 1)))) (dAnd (dB (dBin oLt (dBin oMulT (dVar 3) (dVar 4)) (dC (.int 9)))) (dNot (dTru (dCall 3 p__law_equal [] (dCons (dVar 7) (dCons (dCMeth cLibrary 4 p_Library_of_letters (dCons (dVar 2) (dCons (dC (.int 1)) (dCons (dVar 11) dNil)))) (dCons (dC (.bl false)) dNil)))))))) (dRet (dC (.bl false))) dSkip) B δ S := rfl
def s_law_9 : DS := (dIf (dAnd (dB (dBin oGt (dVar 3) (dC (.int 1)))) (dNot (dTru (dCall 3 p__law_equal [] (dCons (dVar 7) (dCons (dCall 2 p_Library [] (dCons (dVar 2) (dCons (dTup (dCons (dVar 11) dNil)) dNil))) (dCons (dC (.bl false)) dNil))))))) (dRet (dC (.bl false))) dSkip)
theorem ev_s_law_9 {B : DEnds} {δ : Lo} {S : Sto} : s_law_9 B δ S = (dIf (dAnd (dB (dBin oGt (dVar 3) (dC (.int 1)))) (dNot (dTru (dCall 3 p__law_equal [] (dCons (dVar 7) (dCons (dCall 2 p_Library [] (dCons (dVar 2) (dCons (dTup (dCons (dVar 11) dNil)) dNil))) (dCons (dC (.bl false)) dNil))))))) (dRet (dC (.bl false))) dSkip) B δ S := rfl
def s_law_10 : DS := (dIf (dNot (dTru (dCall 3 p__law_equal [] (dCons (dVar 7) (dCons (dVar 14) (dCons (dC (.bl false)) dNil)))))) (dRet (dC (.bl false))) dSkip)
theorem ev_s_law_10 {B : DEnds} {δ : Lo} {S : Sto} : s_law_10 B δ S = (dIf (dNot (dTru (dCall 3 p__law_equal [] (dCons (dVar 7) (dCons (dVar 14) (dCons (dC (.bl false)) dNil)))))) (dRet (dC (.bl false))) dSkip) B δ S := rfl
def b_law_11 : DS := s_law_10
theorem ev_b_law_11 {B : DEnds} {δ : Lo} {S : Sto} : b_law_11 B δ S = s_law_10 B δ S := rfl
def s_law_12 : DS := (dFor (iSeq (dFz (dLst (dCons (dVar 5) (dCons (dC .non) (dCons (dVar 2) (dCons (dVar 11) (dCons (dCall 2 p_Library [] (dCons (dVar 2) (dCons (dBin oAdd (dVar 5) (dVar 5)) dNil))) dNil)))))))) (gN 14) b_law_11)
theorem ev_s_law_12 {B : DEnds} {δ : Lo} {S : Sto} : s_law_12 B δ S = (dFor (iSeq (dFz (dLst (dCons (dVar 5) (dCons (dC .non) (dCons (dVar 2) (dCons (dVar 11) (dCons (dCall 2 p_Library [] (dCons (dVar 2) (dCons (dBin oAdd (dVar 5) (dVar 5)) dNil))) dNil)))))))) (gN 14) b_law_11) B δ S := rfl
def s_law_13 : DS := (dIf (dOr (dB (dBin (oEq true) (dCl oTuple (dCons (dVar 11) dNil)) (dFld [cLibrary] "letters" (dVar 7)))) (dNot (dTru (dCall 3 p__law_is_library [] (dCons (dCall 2 p_Library [] (dCons (dVar 2) (dCons (dFz (dLc (iSeq (dVar 5)) (gN 12) dYes (dCl oTuple (dCons (dVar 12) dNil)) [12])) dNil))) (dCons (dVar 2) (dCons (dVar 5) dNil))))))) (dRet (dC (.bl false))) dSkip)
theorem ev_s_law_13 {B : DEnds} {δ : Lo} {S : Sto} : s_law_13 B δ S = (dIf (dOr (dB (dBin (oEq true) (dCl oTuple (dCons (dVar 11) dNil)) (dFld [cLibrary] "letters" (dVar 7)))) (dNot (dTru (dCall 3 p__law_is_library [] (dCons (dCall 2 p_Library [] (dCons (dVar 2) (dCons (dFz (dLc (iSeq (dVar 5)) (gN 12) dYes (dCl oTuple (dCons (dVar 12) dNil)) [12])) dNil))) (dCons (dVar 2) (dCons (dVar 5) dNil))))))) (dRet (dC (.bl false))) dSkip) B δ S := rfl
def s_law_14 : DS := (dIf (dOr (dB (dBin (oEq true) (dVar 16) (dFz (dLst (dCons (dC (.str "number")) (dCons (dVar 15) dNil)))))) (dB (dBin (oEq true) (dIsi cs (.ty "bool") (dBin oIx (dVar 16) (dC (.int 1)))) (dIsi cs (.ty "bool") (dVar 15))))) (dRet (dC (.bl false))) dSkip)
theorem ev_s_law_14 {B : DEnds} {δ : Lo} {S : Sto} : s_law_14 B δ S = (dIf (dOr (dB (dBin (oEq true) (dVar 16) (dFz (dLst (dCons (dC (.str "number")) (dCons (dVar 15) dNil)))))) (dB (dBin (oEq true) (dIsi cs (.ty "bool") (dBin oIx (dVar 16) (dC (.int 1)))) (dIsi cs (.ty "bool") (dVar 15))))) (dRet (dC (.bl false))) dSkip) B δ S := rfl
def b_law_15 : DS := s_law_14
theorem ev_b_law_15 {B : DEnds} {δ : Lo} {S : Sto} : b_law_15 B δ S = s_law_14 B δ S := rfl
def s_law_16 : DS := (dFor (iSeq (dFz (dLst (dCons (dCall 4 p__law_told [] (dCons (dC (.int 3)) (dCons (dVar 7) (dCons (dVar 15) (dCons (dC (.int 0)) dNil))))) (dCons (dCall 4 p__law_told [] (dCons (dC (.int 4)) (dCons (dVar 7) (dCons (dVar 15) (dCons (dC (.int 0)) dNil))))) dNil))))) (gN 16) b_law_15)
theorem ev_s_law_16 {B : DEnds} {δ : Lo} {S : Sto} : s_law_16 B δ S = (dFor (iSeq (dFz (dLst (dCons (dCall 4 p__law_told [] (dCons (dC (.int 3)) (dCons (dVar 7) (dCons (dVar 15) (dCons (dC (.int 0)) dNil))))) (dCons (dCall 4 p__law_told [] (dCons (dC (.int 4)) (dCons (dVar 7) (dCons (dVar 15) (dCons (dC (.int 0)) dNil))))) dNil))))) (gN 16) b_law_15) B δ S := rfl
def s_law_17 : DS := (dIf (dOr (dB (dBin (oEq true) (dCall 4 p__law_told [] (dCons (dC (.int 0)) (dCons (dVar 7) (dCons (dVar 15) (dCons (dVar 17) dNil))))) (dFz (dLst (dCons (dC (.str "number")) (dCons (dVar 15) dNil)))))) (dB (dBin (oEq true) (dCall 4 p__law_told [] (dCons (dC (.int 0)) (dCons (dVar 7) (dCons (dVar 2) (dCons (dVar 17) dNil))))) (dFz (dLst (dCons (dC (.str "library")) (dCons (dVar 17) dNil))))))) (dRet (dC (.bl false))) dSkip)
theorem ev_s_law_17 {B : DEnds} {δ : Lo} {S : Sto} : s_law_17 B δ S = (dIf (dOr (dB (dBin (oEq true) (dCall 4 p__law_told [] (dCons (dC (.int 0)) (dCons (dVar 7) (dCons (dVar 15) (dCons (dVar 17) dNil))))) (dFz (dLst (dCons (dC (.str "number")) (dCons (dVar 15) dNil)))))) (dB (dBin (oEq true) (dCall 4 p__law_told [] (dCons (dC (.int 0)) (dCons (dVar 7) (dCons (dVar 2) (dCons (dVar 17) dNil))))) (dFz (dLst (dCons (dC (.str "library")) (dCons (dVar 17) dNil))))))) (dRet (dC (.bl false))) dSkip) B δ S := rfl
def s_law_18 : DS := (dIf (dB (dBin (oEq true) (dCall 4 p__law_told [] (dCons (dVar 19) (dCons (dVar 7) (dCons (dVar 18) (dCons (dVar 12) dNil))))) (dFz (dLst (dCons (dC (.str "number")) (dCons (dVar 18) dNil)))))) (dRet (dC (.bl false))) dSkip)
theorem ev_s_law_18 {B : DEnds} {δ : Lo} {S : Sto} : s_law_18 B δ S = (dIf (dB (dBin (oEq true) (dCall 4 p__law_told [] (dCons (dVar 19) (dCons (dVar 7) (dCons (dVar 18) (dCons (dVar 12) dNil))))) (dFz (dLst (dCons (dC (.str "number")) (dCons (dVar 18) dNil)))))) (dRet (dC (.bl false))) dSkip) B δ S := rfl
def b_law_19 : DS := s_law_18
theorem ev_b_law_19 {B : DEnds} {δ : Lo} {S : Sto} : b_law_19 B δ S = s_law_18 B δ S := rfl
def s_law_20 : DS := (dFor (iSeq (dFz (dLst (dCons (dC (.int 1)) (dCons (dC (.int 2)) dNil))))) (gN 19) b_law_19)
theorem ev_s_law_20 {B : DEnds} {δ : Lo} {S : Sto} : s_law_20 B δ S = (dFor (iSeq (dFz (dLst (dCons (dC (.int 1)) (dCons (dC (.int 2)) dNil))))) (gN 19) b_law_19) B δ S := rfl
def t_law : DS := (dSeq (dSet 1 (dNew (dLst (dCons (dCall 2 (pDraws) [] (dCons (dVar 0) (dCons (dC (.int 200)) dNil))) (dCons (dC (.int 0)) dNil)))))
    (dSeq (dSet 2 (dCall 1 p__law_field [] (dCons (dVar 1) dNil)))
    (dSeq (dSet 3 (dBin oAdd (dC (.int 1)) (dCall 2 (pHand) [] (dCons (dVar 1) (dCons (dC (.int 4)) dNil)))))
    (dSeq (dSet 4 (dBin oAdd (dC (.int 1)) (dCall 2 (pHand) [] (dCons (dVar 1) (dCons (dC (.int 4)) dNil)))))
    (dSeq (dSet 5 (dCall 4 p__law_books [] (dCons (dVar 1) (dCons (dVar 2) (dCons (dVar 3) (dCons (dVar 4) dNil))))))
    (dSeq (dSet 6 (dNew (dLc (iSeq (dVar 5)) (gN 12) dYes (dNew (dListOf (dCons (dVar 12) dNil))) [12])))
    (dSeq (dSet 7 (dCall 2 p_Library [] (dCons (dVar 2) (dCons (dVar 6) dNil))))
    (dSeq (dSetI (dBin oIx (dVar 6) (dC (.int 0))) (dC (.int 0)) (dBin oAdd (dVar 2) (dC (.int 1))))
    (dSeq (dEx (dApp (dVar 6) (dFz (dLst (dCons (dC (.int 0)) dNil)))))
    (dSeq s_law_1
    (dSeq (dSet 8 (dCall 2 (pHand) [] (dCons (dVar 1) (dCons (dVar 3) dNil))))
    (dSeq (dSet 9 (dBin oIx (dCall 4 p__law_books [] (dCons (dVar 1) (dCons (dVar 2) (dCons (dC (.int 1)) (dCons (dVar 4) dNil))))) (dC (.int 0))))
    (dSeq (dSet 10 (dBin oAdd (dBin oAdd (dSl (dVar 5) dNoP (dPart (dVar 8))) (dTup (dCons (dVar 9) dNil))) (dSl (dVar 5) (dPart (dBin oAdd (dVar 8) (dC (.int 1)))) dNoP)))
    (dSeq s_law_2
    (dSeq (dSet 11 (dFz (dLst dNil)))
    (dSeq s_law_4
    (dSeq s_law_5
    (dSeq s_law_6
    (dSeq (dSet 13 (dFz (dLc (iR2 (dCons (dBin oAdd (dVar 2) (dC (.int 1))) (dCons (dC (.int 32)) dNil))) (gN 20) (dTru (dCall 1 (pFld) [] (dCons (dVar 20) dNil))) (dVar 20) [20])))
    (dSeq s_law_7
    (dSeq s_law_8
    (dSeq s_law_9
    (dSeq s_law_12
    (dSeq s_law_13
    (dSeq (dSet 15 (dCall 1 p__law_no_field [] (dCons (dVar 1) dNil)))
    (dSeq s_law_16
    (dSeq (dSet 17 (dCall 3 p__law_bad_books [] (dCons (dVar 1) (dCons (dVar 5) (dCons (dVar 2) dNil)))))
    (dSeq s_law_17
    (dSeq (dSet 18 (dBin oIx (dFz (dLst (dCons (dVar 3) (dCons (dUn oNeg (dC (.int 1))) (dCons (dC (.bl true)) (dCons (dC .non) (dCons (dC (.str "0")) (dCons (dTup (dCons (dC (.int 0)) dNil)) (dCons (dBin oPow (dC (.int 10)) (dC (.int 30))) dNil))))))))) (dCall 2 (pHand) [] (dCons (dVar 1) (dCons (dC (.int 7)) dNil)))))
    (dSeq (dSet 12 (dBin oIx (dFz (dLst (dCons (dCall 3 p__law_bad_book [] (dCons (dVar 1) (dCons (dVar 9) (dCons (dVar 2) dNil)))) (dCons (dBin oAdd (dVar 9) (dTup (dCons (dC (.int 0)) dNil))) (dCons (dSl (dVar 9) (dPart (dC (.int 1))) dNoP) (dCons (dC .non) dNil)))))) (dCall 2 (pHand) [] (dCons (dVar 1) (dCons (dC (.int 4)) dNil)))))
    (dSeq s_law_20
    (dRet (dAndV (dBin (oEq false) (dCall 4 p__law_told [] (dCons (dC (.int 2)) (dCons (dVar 7) (dCons (dVar 8) (dCons (dVar 12) dNil))))) (dFz (dLst (dCons (dC (.str "library")) (dCons (dVar 12) dNil))))) (dAndV (dCall 3 p__law_is_library [] (dCons (dVar 7) (dCons (dVar 2) (dCons (dVar 5) dNil)))) (dCall 1 p__law_every [] (dCons (dVar 1) dNil))))))))))))))))))))))))))))))))))))
def m_law : DFn := fnD 21 t_law
end K07

set_option maxHeartbeats 1000000
local macro_rules | `(tactic| walk_at "om") => `(tactic| repeat first | refine And.intro (by omega) ?_ | refine And.intro (.inl (.inl ⟨by omega, by omega⟩)) ?_ | refine And.intro (.inl (.inr ⟨by omega, by omega⟩)) ?_)
namespace K07
open PySem DL L2
/-! the draws -/
theorem ok__law_take : Sp2 pHand m__law_take := by
  intro us S Q E h
  match us, h with
  | [.m n, .int many], h =>
    obtain ⟨xs, k, hS, hm, h⟩ := hdK_of h
    have hS' : S n = some (.lst [.lst (xs.map .int), .int k]) := hS
    simp [m__law_take, t__law_take, hS', set_at hS', ev_s__law_take_1]
    refine iff_dec (fun q => ?_) fun q => ?_
    · simp
      exact drp_self (h 0 (by omega) hm)
    · have q' : (k : Int) < xs.length := by omega
      simp [at_gI (show (0 : Int) ≤ k by omega) q', hm]
      exact drp_self (h _ (Int.emod_nonneg _ (by omega)) (Int.emod_lt_of_pos _ hm))
theorem ok__law_draws : Sp2 pDraws m__law_draws := by
  intro us S Q E h
  match us, h with
  | [.rol xs, .int many], ⟨hx, hl, h0, h1, h⟩ =>
    generalize xs.map dI = ns at hx
    subst hx
    rw [List.length_map] at hl
    simp [m__law_draws, t__law_draws]
    refine lc_map D.int (fun j => D.int (if j < 0 then -j else j)) ns (by simp; omega) trivial (fun j hj R N q => by simpa using q) ?_
    simp
    intro r hr
    simp
    intro e he
    have hre := he.lt put_same
    have e1 : S e = none := by have := he.no; rwa [put_ne (by omega)] at this
    have r1 := hr.no
    simp [ev_s__law_draws_4]
    walk_at "om"
    refine lp_rng (fun k δ' S' => (∃ g g' g'' g3 : Option D, δ' = [some (.rol (ns.map .int)), some (.int many), some (.m r), some (.m e), g, g', g'', g3]) ∧ Sub S S' ∧ ∃ rs ac : List Int, rs.length = ns.length ∧ ac.length = k ∧ S' r = some (.lst (rs.map .int)) ∧ S' e = some (.lst (ac.map .int))) ?_ ?_ ?_ ⟨⟨none, none, none, none, rfl⟩, (Sub.put (.refl S) r1).put e1, ns.map (fun j => if j < 0 then -j else j), [], by simp, rfl, ?_, put_same⟩
    · intros; trivial
    · rintro k _ S1 hk ⟨⟨g, g', g'', g3, rfl⟩, hsub, rs, ac, hl1, hl2, hSr, hSe⟩ B1 _ _ _ hn1 hc1
      have fin : ∀ (v : Int) (δ2 : Lo), (∃ g g' g'' g3 : Option D, δ2 = [some (.rol (ns.map .int)), some (.int many), some (.m r), some (.m e), g, g', g'', g3]) → B1.nx δ2 (put S1 e (.lst (ac.map .int ++ [.int v]))) := fun v δ2 hd => hn1 _ _ ⟨hd, hsub.put e1, rs, ac ++ [v], hl1, by simp; omega, by rw [put_ne (by omega), hSr], by rw [put_same]; simp⟩
      have mix : ∀ (cell : Int) (g g' : Option D), (dSeq (dSet 7 (dBin oMod (dCl oInt (dCons (dBin oAdd (dBin oAdd (dBin oMulT (dVar 5) (dC (D.int 48271))) (dBin oMulT (dVar 4) (dC (D.int 69621)))) (dC (D.int 11))) dNil)) (dC (D.int 2147483647))))
          (dSeq (dSet 7 (dBin oMod (dCl oInt (dCons (dBin oAdd (dBin oFd (dBin oMulT (dVar 7) (dVar 7)) (dC (D.int 4096))) (dVar 7)) dNil)) (dC (D.int 2147483629))))
            (dEx (dApp (dVar 3) (dBin oMod (dCl oInt (dCons (dBin oAdd (dBin oFd (dBin oMulT (dVar 7) (dVar 7)) (dC (D.int 4096))) (dBin oMulT (dVar 4) (dC (D.int 7919)))) dNil)) (dC (D.int 2147483629))))))) B1
          [some (.rol (ns.map .int)), some (.int many), some (.m r), some (.m e), some (.int k), some (.int cell), g, g'] S1 := by
        intro cell g g'
        simp
        refine And.intro ⟨_, hSe⟩ ?_
        rw [app_at hSe]
        simp
        walk_at "om"
        exact fin _ _ ⟨_, _, _, _, rfl⟩
      simp [ev_b__law_draws_3, ev_s__law_draws_2]
      refine iff_dec (fun hp => ?_) fun _ => ?_
      · have hp' : (0 : Int) < ns.length := by omega
        have a0 := Int.emod_nonneg (k : Int) (b := (ns.length : Int)) (by omega)
        have a1 := Int.emod_lt_of_pos (k : Int) hp'
        simp
        refine mod_int hp' ?_
        simp [at_gI a0 a1, ev_s__law_draws_1]
        have a2 : (k : Int) % (ns.length : Int) < rs.length := by omega
        generalize (k : Int) % (ns.length : Int) = at_ at a0 a1 a2 ⊢
        refine and_of (fun z => ?_) fun z => ?_
        · simp [hSr, at_gI a0 a2]
          refine iff_dec (fun z => ?_) fun z => ?_
          · simp [hSr, at_gI a0 a2, hSe]
            rw [app_at hSe]
            simp
            walk_at "om"
            have h2 : ∀ c, put S1 e c r = some (.lst (rs.map .int)) := fun c => by rw [put_ne (by omega), hSr]
            simp [h2, at_gI a0 a2]
            rw [set_at (h2 _), show ixN (rs.map D.int).length at_ = some at_.toNat by unfold ixN; rw [if_pos a0, if_pos (by simp; omega)]]
            simp
            rw [← List.map_set]
            exact hc1 _ _ ⟨⟨_, _, _, _, rfl⟩, (hsub.put e1).put r1, rs.set at_.toNat (gI rs at_ / 1000003), ac ++ [gI rs at_ % 1000003], by simp; omega, by simp; omega, by rw [put_same], by rw [put_ne (by omega), put_same]; simp⟩
          · exact mix _ _ _
        · exact mix _ _ _
      · exact mix _ _ _
    · rintro _ S1 ⟨⟨g, g', g'', g3, rfl⟩, hsub, rs, ac, hl1, hl2, hSr, hSe⟩
      simp [hSe]
      exact drp_of (h _) (hsub.del e1)
    · rw [put_ne (by omega), put_same]; simp
end K07

set_option maxHeartbeats 1000000
local macro_rules | `(tactic| walk_at "om") => `(tactic| repeat first | refine And.intro (by omega) ?_ | refine And.intro (.inl (.inl ⟨by omega, by omega⟩)) ?_ | refine And.intro (.inl (.inr ⟨by omega, by omega⟩)) ?_)
namespace K07
open PySem DL L2
/-! the law's likeness -/
theorem ok_sameI : ∀ r, Sp2 (pSameI r) (m__law_same (r + 1)) := by
  intro r
  induction r with
  | zero =>
    rintro us S Q E h
    match us, h with
    | [a, b], h =>
      obtain ⟨rfl, ht, q⟩ := h
      cases ht with
      | int =>
        simp [m__law_same, t__law_same, ev_s__law_same_5]
        exact drp_self q
  | succ r ih =>
    rintro us S Q E h
    match us, h with
    | [a, b], h =>
      obtain ⟨rfl, ht, q⟩ := h
      cases ht with
      | int =>
        simp [m__law_same, t__law_same, ev_s__law_same_5]
        exact drp_self q
      | @tup _ xs h l =>
        have he : m__law_same (r + 1 + 1) = fnD 3 (t__law_same (m__law_same (r + 1))) := rfl
        rw [he]
        generalize m__law_same (r + 1) = self at ih ⊢
        simp [t__law_same, ev_s__law_same_5, ev_s__law_same_1, ev_s__law_same_4]
        walk_at "om"
        refine lp_rng (fun k δ' S' => S = S' ∧ ∃ g, δ' = [some (.tup xs), some (.tup xs), g]) ?_ ?_ ?_ ⟨rfl, none, rfl⟩
        · intros; trivial
        · rintro k _ _ hk ⟨rfl, g, rfl⟩ B1 _ _ _ hn1 _
          have e : atI xs (k : Int) = some (xs[k]'hk) := at_nat (List.getElem?_eq_getElem hk)
          simp [ev_b__law_same_3, ev_s__law_same_2, e]
          refine ih [_, _] _ _ _ ⟨rfl, h _ (List.getElem_mem _), ?_⟩
          simp
          exact hn1 _ _ ⟨rfl, _, rfl⟩
        · rintro _ _ ⟨rfl, g, rfl⟩
          simp
          exact drp_self q
theorem ok__law_same : Sp2 (pSameI 6) (m__law_same 7) := ok_sameI 6
end K07

set_option maxHeartbeats 1000000
local macro_rules | `(tactic| walk_at "om") => `(tactic| repeat first | refine And.intro (by omega) ?_ | refine And.intro (.inl (.inl ⟨by omega, by omega⟩)) ?_ | refine And.intro (.inl (.inr ⟨by omega, by omega⟩)) ?_)
namespace K07
open PySem DL L2
theorem plc_and {i c : Int} : decide (0 ≤ i ∧ i < c) = (decide (0 ≤ i) && decide (i < c)) := by simp
theorem ok_is_integer_integers : Sp2 pInt m_is_integer_integers := by
  intro us S Q E h
  match us, h with
  | [d], ⟨hd, h⟩ =>
    simp [m_is_integer_integers, t_is_integer_integers, k_int hd]
    cases d with
    | int i => simp [isIntB]; exact drp_self h
    | bl => simp [isIntB]; exact drp_self h
    | cv => exact hd.elim
    | exc => exact hd.elim
    | ins => exact hd.elim
    | _ => simp [isIntB]; exact drp_self h
theorem ok_is_integer_bookplaces : Sp2 pInt m_is_integer_bookplaces := by
  intro us S Q E h
  match us, h with
  | [d], ⟨hd, h⟩ =>
    simp [m_is_integer_bookplaces, t_is_integer_bookplaces, k_int hd]
    cases d with
    | int i => simp [isIntB]; exact drp_self h
    | bl => simp [isIntB]; exact drp_self h
    | cv => exact hd.elim
    | exc => exact hd.elim
    | ins => exact hd.elim
    | _ => simp [isIntB]; exact drp_self h
theorem ok_is_field : Sp2 pFld m_is_field := by
  intro us S Q E h
  match us, h with
  | [d], ⟨hd, h⟩ =>
    simp [m_is_field, t_is_field, hd]
    cases d with
    | int i =>
      simp [k_FIELDS]
      exact drp_self h
    | bl => first | (simp [isIntB, isBlB]; exact drp_self h) | (simp [whoB]; exact drp_self h)
    | cv => exact hd.elim
    | exc => exact hd.elim
    | ins => exact hd.elim
    | _ => first | (simp [isIntB, isBlB]; exact drp_self h) | (simp [whoB]; exact drp_self h)
theorem ok_is_sequence : Sp2 pSeq m_is_sequence := by
  intro us S Q E h
  match us, h with
  | [d], ⟨hd, h⟩ =>
    simp [m_is_sequence, t_is_sequence, k_sq hd]
    exact drp_self h
theorem ok_is_place : Sp2 pPlace m_is_place := by
  intro us S Q E h
  match us, h with
  | [d, .int c], ⟨hd, h⟩ =>
    simp [m_is_place, t_is_place, hd]
    cases d with
    | int i =>
      rw [plc_int, plc_and] at h
      by_cases q : 0 ≤ i <;> simp [q] at h ⊢ <;> exact drp_self h
    | bl => first | (simp [isIntB, isBlB]; exact drp_self h) | (simp [whoB]; exact drp_self h)
    | cv => exact hd.elim
    | exc => exact hd.elim
    | ins => exact hd.elim
    | _ => first | (simp [isIntB, isBlB]; exact drp_self h) | (simp [whoB]; exact drp_self h)
theorem fld_iff {i : Int} : fldB (.int i) = true ↔ 2 ≤ i ∧ i ≤ 31 ∧ ∀ d : Int, 2 ≤ d → d < i → i % d ≠ 0 := by
  constructor
  · intro h
    simp at h
    refine ⟨by omega, by omega, fun d h1 h2 => ?_⟩
    have hk : ∀ p ∈ [2, 3, 5, 7, 11, 13, 17, 19, 23, 29, 31], ∀ e < p, 2 ≤ e → p % e ≠ 0 := by decide +kernel
    have := hk i.toNat (by simp; omega) d.toNat (by omega) (by omega)
    intro z
    refine this ?_
    have e1 : ((i.toNat % d.toNat : Nat) : Int) = 0 := by
      rw [Int.natCast_emod, Int.toNat_of_nonneg (by omega), Int.toNat_of_nonneg (by omega)]
      exact z
    omega
  · rintro ⟨h1, h2, h3⟩
    have hk : ∀ p < 32, 2 ≤ p → (∀ e < p, 2 ≤ e → p % e ≠ 0) → p ∈ [2, 3, 5, 7, 11, 13, 17, 19, 23, 29, 31] := by decide +kernel
    have := hk i.toNat (by omega) (by omega) fun e he h4 z => h3 e (by omega) (by omega) (by
      rw [← Int.toNat_of_nonneg (show 0 ≤ i by omega), ← Int.natCast_emod, z]; rfl)
    simp at this ⊢
    omega

def numB (d : D) : Bool := isIntB d && !isBlB d
theorem numB_of {d : D} (h : numB d = true) : ∃ i, d = .int i := by cases d <;> first | exact ⟨_, rfl⟩ | simp [numB, isIntB, isBlB] at h
theorem numB_no {c : Int} {d : D} (h : numB d = false) : plcB c d = false ∧ fldB d = false ∧ whoB c d = false ∧ posB d = false := by
  cases d with
  | int => simp [numB, isIntB, isBlB] at h
  | _ => exact ⟨rfl, rfl, rfl, rfl⟩
theorem ok__law_is_field : Sp2 pFld m__law_is_field := by
  intro us S Q E h
  obtain ⟨d, rfl, h, q⟩ : ∃ d, us = [d] ∧ Gd S d ∧ Q (.bl (fldB d)) S := by
    match us, h with
    | [d], ⟨h, q⟩ => exact ⟨d, rfl, h, q⟩
  simp [m__law_is_field, t__law_is_field, ev_s__law_is_field_1, k_int h]
  cases e : isIntB d with
  | false =>
    rw [(numB_no (c := 0) (by simp [numB, e])).2.1] at q
    simp
    exact drp_self q
  | true =>
    simp [k_bool h]
    cases e2 : isBlB d with
    | true =>
      rw [(numB_no (c := 0) (by simp [numB, e2])).2.1] at q
      simp
      exact drp_self q
    | false =>
      obtain ⟨i, rfl⟩ := numB_of (d := d) (by simp [numB, e, e2])
      simp
      by_cases h2 : i < 2
      · simp [h2]
        have e3 : fldB (.int i) = false := by
          cases e : fldB (.int i) with
          | false => rfl
          | true => have := (fld_iff.mp e).1; omega
        rw [e3] at q
        exact drp_self q
      simp [h2]
      refine iff_dec (fun h3 => ?_) fun h3 => ?_
      · have e3 : fldB (.int i) = false := by
          cases e : fldB (.int i) with
          | false => rfl
          | true => have := (fld_iff.mp e).2.1; omega
        rw [e3] at q
        simp
        exact drp_self q
      simp [ev_s__law_is_field_4]
      walk_at "om"
      refine lp_rng (fun k δ' S' => S = S' ∧ (∃ g, δ' = [some (.int i), g]) ∧ ∀ d : Int, 2 ≤ d → d < 2 + k → i % d ≠ 0) ?_ ?_ ?_ ⟨rfl, ⟨none, rfl⟩, fun d h1 h2 => by omega⟩
      · intros; trivial
      · rintro k _ _ hk ⟨rfl, ⟨g, rfl⟩, hd⟩ B1 b1 _ _ hn1 _
        simp [ev_b__law_is_field_3]
        simp [ev_s__law_is_field_2, show (0 : Int) < 2 + (k : Int) by omega]
        refine iff_dec (fun z => ?_) fun z => ?_
        · have e3 : fldB (.int i) = false := by
            cases e : fldB (.int i) with
            | false => rfl
            | true => exact absurd z ((fld_iff.mp e).2.2 (2 + (k : Int)) (by omega) (by omega))
          rw [e3] at q
          simp
          rw [b1]
          exact drp_self q
        · simp
          refine hn1 _ _ ⟨rfl, ⟨_, rfl⟩, fun d h1 h2 => ?_⟩
          by_cases e : d = 2 + (k : Int)
          · rw [e]; exact z
          · exact hd d h1 (by omega)
      · rintro _ _ ⟨rfl, ⟨g, rfl⟩, hd⟩
        have e3 : fldB (.int i) = true := fld_iff.mpr ⟨by omega, by omega, fun d h1 h2 => hd d h1 (by omega)⟩
        rw [e3] at q
        simp
        exact drp_self q
end K07

set_option maxHeartbeats 1000000
local macro_rules | `(tactic| walk_at "om") => `(tactic| repeat first | refine And.intro (by omega) ?_ | refine And.intro (.inl (.inl ⟨by omega, by omega⟩)) ?_ | refine And.intro (.inl (.inr ⟨by omega, by omega⟩)) ?_)
namespace K07
open PySem DL L2
theorem GdN.at1 {S : Sto} {r : Nat} {d : D} {xs : List D} (h : GdN S (r + 1) d) (e : asSq S d = some xs) : xs.length ≤ 1000000 ∧ ∀ x ∈ xs, GdN S r x := h.2 xs e
theorem sqs_e {S : Sto} {d : D} {xs : List D} (e : asSq S d = some xs) : sqs S d = xs := by unfold sqs; rw [e]; rfl
theorem kp_self {S : Sto} {d : D} : kpS S d S := kpS_self
theorem ok_are_letters : Sp2 p_are_letters m_are_letters := by
  rintro us S Q E ⟨p, d, rfl, hg, h⟩
  simp -implicitDefEqProofs [-List.getD_eq_getElem?_getD, m_are_letters, t_are_letters, ev_s_are_letters_1]
  refine ⟨hg.gd, ?_⟩
  cases e : asSq S d with
  | none =>
    have h : Q (.bl false) S := by simpa [letB, e] using h
    simp -implicitDefEqProofs [-List.getD_eq_getElem?_getD]
    exact drp_self h
  | some xs =>
    obtain ⟨hl, hx⟩ := hg.at1 e
    have h : Q (.bl (xs.all (plcB p))) S := by simpa [letB, e] using h
    simp -implicitDefEqProofs [-List.getD_eq_getElem?_getD, ev_s_are_letters_4]
    rw [seq_sq e]
    refine lp_inv (fun ds δ' S' => S = S' ∧ (∀ x ∈ ds, GdN S 0 x) ∧ Q (.bl (ds.all (plcB p))) S ∧ ∃ g, δ' = [some (.int p), some d, g]) ?_ ?_ ?_ _ _ _ ⟨rfl, hx, h, none, rfl⟩
    · rintro _ _ _ ⟨rfl, _⟩; exact kpS_self
    · rintro x ds _ _ ⟨rfl, hd, h, g, rfl⟩ B1 b1 _ _ hn1 _
      simp -implicitDefEqProofs [-List.getD_eq_getElem?_getD, ev_b_are_letters_3, ev_s_are_letters_2]
      refine ⟨(hd x (List.mem_cons_self ..)).gd, ?_⟩
      rw [List.all_cons] at h
      cases e1 : plcB p x with
      | false =>
        rw [e1] at h
        simp -implicitDefEqProofs [-List.getD_eq_getElem?_getD]
        rw [b1]
        exact drp_self (by simpa using h)
      | true =>
        rw [e1] at h
        simp -implicitDefEqProofs [-List.getD_eq_getElem?_getD]
        exact hn1 _ _ ⟨rfl, fun y hy => hd y (List.mem_cons_of_mem _ hy), by simpa using h, _, rfl⟩
    · rintro _ _ ⟨rfl, _, h, g, rfl⟩
      simp -implicitDefEqProofs [-List.getD_eq_getElem?_getD]
      exact drp_self h
theorem ok__are_books : Sp2 p__are_books m__are_books := by
  rintro us S Q E ⟨p, d, rfl, hg, h⟩
  simp -implicitDefEqProofs [-List.getD_eq_getElem?_getD, m__are_books, t__are_books, ev_s__are_books_1]
  refine ⟨hg.gd, ?_⟩
  cases e : asSq S d with
  | none =>
    have h : Q (.bl false) S := by simpa [boksB, e] using h
    simp -implicitDefEqProofs [-List.getD_eq_getElem?_getD]
    exact drp_self h
  | some xs =>
    obtain ⟨hl, hx⟩ := hg.at1 e
    cases xs with
    | nil =>
      have h : Q (.bl false) S := by simpa [boksB, e] using h
      simp -implicitDefEqProofs [-List.getD_eq_getElem?_getD, len_sq e]
      exact drp_self h
    | cons b0 bs =>
      have h : Q (.bl ((b0 :: bs).all (bokB S p (sqs S b0).length))) S := by simpa [boksB, e] using h
      simp -implicitDefEqProofs [-List.getD_eq_getElem?_getD, len_sq e, ev_s__are_books_4]
      refine iff_dec (fun z => by omega) fun _ => ?_
      simp -implicitDefEqProofs [-List.getD_eq_getElem?_getD, ev_s__are_books_4]
      rw [seq_sq e]
      refine lp_inv (fun ds δ' S' => S = S' ∧ (∀ x ∈ ds, GdN S 1 x) ∧ ((asSq S b0).isSome = true ∨ ds.head? = some b0) ∧ Q (.bl (ds.all (bokB S p (sqs S b0).length))) S ∧ ∃ g, δ' = [some (.int p), some d, g]) ?_ ?_ ?_ _ _ _ ⟨rfl, hx, .inr rfl, h, none, rfl⟩
      · rintro _ _ _ ⟨rfl, _⟩; exact kpS_self
      · rintro x ds _ _ ⟨rfl, hd, h0, h, g, rfl⟩ B1 b1 _ _ hn1 _
        simp -implicitDefEqProofs [-List.getD_eq_getElem?_getD, ev_b__are_books_3, ev_s__are_books_2]
        refine ⟨p, x, rfl, hd x (List.mem_cons_self ..), ?_⟩
        rw [List.all_cons] at h
        cases e1 : letB S p x with
        | false =>
          have e2 : bokB S p (sqs S b0).length x = false := by unfold bokB; rw [e1]; rfl
          rw [e2] at h
          simp -implicitDefEqProofs [-List.getD_eq_getElem?_getD]
          rw [b1]
          exact drp_self (by simpa using h)
        | true =>
          obtain ⟨ys, ey⟩ : ∃ ys, asSq S x = some ys := by
            cases e3 : asSq S x with
            | none => simp [letB, e3] at e1
            | some ys => exact ⟨ys, rfl⟩
          obtain ⟨zs, ez⟩ : ∃ zs, asSq S b0 = some zs := by
            rcases h0 with h0 | h0
            · exact Option.isSome_iff_exists.mp h0
            · cases h0; exact ⟨ys, ey⟩
          have e2 : bokB S p (sqs S b0).length x = (decide (ys.length ≠ 0) && decide (ys.length = zs.length)) := by unfold bokB; rw [e1, sqs_e ey, sqs_e ez]; rfl
          rw [e2] at h
          simp -implicitDefEqProofs [-List.getD_eq_getElem?_getD, len_sq ey]
          by_cases z1 : ys.length = 0
          · have z1' : ys = [] := List.length_eq_zero_iff.mp z1
            simp -implicitDefEqProofs [-List.getD_eq_getElem?_getD, z1']
            rw [b1]
            exact drp_self (by simpa [z1] using h)
          · have z1' : ys ≠ [] := fun y => z1 (by rw [y]; rfl)
            simp -implicitDefEqProofs [-List.getD_eq_getElem?_getD, z1', len_sq ey, ix_sq e, at_0, len_sq ez]
            by_cases z2 : ys.length = zs.length
            · rw [decide_eq_true (show (ys.length : Int) = zs.length by rw [z2])]
              simp -implicitDefEqProofs [-List.getD_eq_getElem?_getD]
              exact hn1 _ _ ⟨rfl, fun y hy => hd y (List.mem_cons_of_mem _ hy), .inl (by rw [ez]; rfl), by simpa [z1, z2, show zs.length ≠ 0 by omega, show zs ≠ [] from fun y => by rw [y] at z2; exact z1 z2] using h, _, rfl⟩
            · rw [decide_eq_false (show ¬ (ys.length : Int) = zs.length by omega)]
              simp -implicitDefEqProofs [-List.getD_eq_getElem?_getD]
              rw [b1]
              exact drp_self (by simpa [z1, z2] using h)
      · rintro _ _ ⟨rfl, _, _, h, g, rfl⟩
        simp -implicitDefEqProofs [-List.getD_eq_getElem?_getD]
        exact drp_self h
end K07

set_option maxHeartbeats 1000000
local macro_rules | `(tactic| walk_at "om") => `(tactic| repeat first | refine And.intro (by omega) ?_ | refine And.intro (.inl (.inl ⟨by omega, by omega⟩)) ?_ | refine And.intro (.inl (.inr ⟨by omega, by omega⟩)) ?_)
namespace K07
open PySem DL L2
section
variable {S : Sto} {k : Nat} {cc : Cell}
theorem sq_put {d : D} (g : Gd S d) (h : S k = none) : asSq (put S k cc) d = asSq S d := by
  cases d with
  | m n =>
    have hn : n ≠ k := fun z => by
      have g : (celO (S n)).isSome = true := g
      rw [z, h] at g; cases g
    rw [asSq_m, asSq_m, put_ne hn]
  | _ => rfl
theorem gd_put1 {d : D} (g : Gd S d) (h : S k = none) : Gd (put S k cc) d := by
  cases d with
  | m n =>
    have hn : n ≠ k := fun z => by
      have g : (celO (S n)).isSome = true := g
      rw [z, h] at g; cases g
    show (celO (put S k cc n)).isSome = true
    rw [put_ne hn]
    exact g
  | cv => exact g
  | exc => exact g
  | ins => exact g
  | _ => trivial
theorem gdn_put : ∀ {r : Nat} {d : D}, GdN S r d → S k = none → GdN (put S k cc) r d
  | 0, d, g, h => gd_put1 g h
  | r + 1, d, g, h => ⟨gd_put1 g.gd h, fun xs e => by
    rw [sq_put g.gd h] at e
    exact ⟨(g.at1 e).1, fun x hx => gdn_put ((g.at1 e).2 x hx) h⟩⟩
theorem sqs_put {d : D} (g : Gd S d) (h : S k = none) : sqs (put S k cc) d = sqs S d := by unfold sqs; rw [sq_put g h]
theorem let_put {p : Int} {d : D} (g : Gd S d) (h : S k = none) : letB (put S k cc) p d = letB S p d := by unfold letB; rw [sq_put g h]
theorem all_congr {f g : D → Bool} : ∀ {l : List D}, (∀ x ∈ l, f x = g x) → l.all f = l.all g
  | [], _ => rfl
  | x :: l, h => by rw [List.all_cons, List.all_cons, h x (List.mem_cons_self ..), all_congr fun y hy => h y (List.mem_cons_of_mem _ hy)]
theorem bok_put {p : Int} {n : Nat} {d : D} (g : Gd S d) (h : S k = none) : bokB (put S k cc) p n d = bokB S p n d := by unfold bokB; rw [let_put g h, sqs_put g h]
theorem boks_put {p : Int} {d : D} (g : GdN S 1 d) (h : S k = none) : boksB (put S k cc) p d = boksB S p d := by
  unfold boksB
  rw [sq_put g.gd h]
  cases e : asSq S d with
  | none => rfl
  | some xs =>
    obtain ⟨_, hx⟩ := g.at1 e
    cases xs with
    | nil => rfl
    | cons b bs =>
      show (b :: bs).all _ = (b :: bs).all _
      rw [sqs_put (hx b (List.mem_cons_self ..)) h]
      exact all_congr fun x hm => bok_put (hx x hm) h
theorem ints_of {p : Int} : ∀ {xs : List D}, xs.all (plcB p) = true → xs = (xs.map iv).map .int ∧ ∀ x ∈ xs.map iv, 0 ≤ x ∧ x < p
  | [], _ => ⟨rfl, fun x hx => by cases hx⟩
  | x :: xs, h => by
    rw [List.all_cons, Bool.and_eq_true] at h
    obtain ⟨a, b⟩ := ints_of h.2
    cases x with
    | int i =>
      refine ⟨?_, fun y hy => ?_⟩
      · rw [List.map_cons, List.map_cons, ← a]; rfl
      · rcases List.mem_cons.mp hy with rfl | hy
        · simpa [plcB] using h.1
        · exact b y hy
    | _ => cases h.1
theorem let_true {p : Int} {d : D} (h : letB S p d = true) : asSq S d = some ((rowOf S d).map .int) ∧ (∀ x ∈ rowOf S d, 0 ≤ x ∧ x < p) ∧ (sqs S d).length = (rowOf S d).length := by
  unfold letB at h
  cases e : asSq S d with
  | none => rw [e] at h; cases h
  | some xs =>
    rw [e] at h
    obtain ⟨a, b⟩ := ints_of h
    have er : rowOf S d = xs.map iv := by unfold rowOf; rw [sqs_e e]
    rw [er, ← a, sqs_e e, List.length_map]
    exact ⟨rfl, b, rfl⟩
theorem boks_true {p : Int} {d : D} (h : boksB S p d = true) : ∃ b bs, asSq S d = some (b :: bs) ∧ ∀ x ∈ b :: bs, asSq S x = some ((rowOf S x).map .int) ∧ (∀ y ∈ rowOf S x, 0 ≤ y ∧ y < p) ∧ (rowOf S x).length = (rowOf S b).length ∧ 0 < (rowOf S x).length := by
  unfold boksB at h
  cases e : asSq S d with
  | none => rw [e] at h; cases h
  | some xs =>
    cases xs with
    | nil => rw [e] at h; cases h
    | cons b bs =>
      rw [e] at h
      have h : (b :: bs).all (bokB S p (sqs S b).length) = true := h
      refine ⟨b, bs, rfl, fun x hx => ?_⟩
      have hb := List.all_eq_true.mp h b (List.mem_cons_self ..)
      have hx := List.all_eq_true.mp h x hx
      unfold bokB at hb hx
      simp only [Bool.and_eq_true, decide_eq_true_eq] at hb hx
      obtain ⟨a1, a2, a3⟩ := let_true hb.1
      obtain ⟨b1, b2, b3⟩ := let_true hx.1
      exact ⟨b1, b2, by omega, by omega⟩
end
theorem fld_of {d : D} (h : fldB d = true) : ∃ i, d = .int i ∧ i ∈ FL := by
  cases d with
  | int i => exact ⟨i, rfl, by simpa [FL] using h⟩
  | _ => cases h
theorem fld_in {i : Int} (h : i ∈ FL) : fldB (.int i) = true := by simpa [FL] using h
theorem ok_Library : Sp2 p_Library (mkF cLibrary m_Library___init__) := by
  rintro us S Q E ⟨p, d, rfl, gp, gd, hfl, h⟩ k hk
  have hn := hk.no
  have er : ∀ (er : Err) (cc : Cell), E er S → (drp (put S k cc) fun S2 => ∃ S3, DL.Sub S3 S2 ∧ E er S3) := fun er cc h => drp_self ⟨S, Sub.put (.refl S) hn, h⟩
  simp -implicitDefEqProofs [-List.getD_eq_getElem?_getD, m_Library___init__, t_Library___init__, ev_s_Library___init___1, gd_put1 gp hn]
  rcases h with ⟨h1, h2⟩ | ⟨i, rfl, hi, h⟩
  · simp -implicitDefEqProofs [-List.getD_eq_getElem?_getD, h1]
    exact er _ _ h2
  simp -implicitDefEqProofs [-List.getD_eq_getElem?_getD, fld_in hi, ev_s_Library___init___2]
  refine ⟨i, d, rfl, gdn_put gd hn, ?_⟩
  rw [boks_put gd.down hn]
  rcases h with ⟨h1, h2⟩ | ⟨h1, h2⟩
  · simp -implicitDefEqProofs [-List.getD_eq_getElem?_getD, h1]
    exact er _ _ h2
  obtain ⟨b, bs, e, hx⟩ := boks_true h1
  obtain ⟨hl, hg⟩ := gd.at1 e
  have em : matOf S d = (b :: bs).map (rowOf S) := by unfold matOf; rw [sqs_e e]
  simp -implicitDefEqProofs [-List.getD_eq_getElem?_getD, h1]
  have e' : ∀ cc, asSq (put S k cc) d = some (b :: bs) := fun cc => by rw [sq_put gd.gd hn, e]
  rw [seq_sq (e' _)]
  refine lc_D (fun x => rowD (rowOf S x)) (b :: bs) (by rw [sizeLine_eq]; omega) kpS_self (fun x hm R N hR => ?_) ?_
  · simp -implicitDefEqProofs [-List.getD_eq_getElem?_getD]
    rw [show asSq (put S k (Cell.ins cLibrary [(Str.ofString "p", D.int i)])) x = some ((rowOf S x).map .int) by rw [sq_put (hg x hm).gd hn, (hx x hm).1]]
    simp -implicitDefEqProofs [-List.getD_eq_getElem?_getD]
    exact hR
  have ee : (b :: bs).map (fun x => rowD (rowOf S x)) = (matOf S d).map rowD := by rw [em, List.map_map]; rfl
  rw [ee]
  have hm0 : (matOf S d).length = (b :: bs).length := by rw [em, List.length_map]
  have hm1 : (matOf S d).getD 0 [] = rowOf S b := by rw [em]; rfl
  have e2 : atI ((matOf S d).map rowD) 0 = some (rowD (rowOf S b)) := by rw [em]; exact at_0
  generalize matOf S d = m at h2 hm0 hm1 e2 hfl
  have hml : m.length ≤ 1000000 := by omega
  have msz : m.length ≤ sizeLine := by rw [sizeLine_eq]; omega
  simp -implicitDefEqProofs [-List.getD_eq_getElem?_getD, putD_cons, e2, rowD, msz]
  have fe : m.flatMap (fun r => r.map D.int) = m.flatten.map .int := by rw [List.map_flatten]; rfl
  have fe2 : (m.flatMap (fun r => r.map D.int)).length ≤ sizeLine := by rw [fe, List.length_map, sizeLine_eq]; omega
  refine lc2_map rowD (fun r => r.map .int) trivial m [] (by simpa using fe2) (fun r hr acc R hl' q => ?_) ?_
  · simp -implicitDefEqProofs [-List.getD_eq_getElem?_getD, rowD]
    refine lc_go D.int (fun z => some (.int z)) trivial r acc (by simpa using hl') (fun z hz R N q => by simpa using q) ?_
    simpa using q
  · rw [List.nil_append, fe]
    simp -implicitDefEqProofs [-List.getD_eq_getElem?_getD, putD_cons]
    refine drp_self ⟨_, put_same, ?_⟩
    rw [del_put hk.no, ← List.map_flatten]
    unfold libI at h2
    rw [hm1] at h2
    exact h2
end K07

set_option maxHeartbeats 1000000
local macro_rules | `(tactic| walk_at "om") => `(tactic| repeat first | refine And.intro (by omega) ?_ | refine And.intro (.inl (.inl ⟨by omega, by omega⟩)) ?_ | refine And.intro (.inl (.inr ⟨by omega, by omega⟩)) ?_)
namespace K07
open PySem DL L2
theorem rs_of {n l : Nat} (h1 : 1 ≤ l) : Builtin.Range.rangeSize 0 n l = ((n + l - 1) / l : Nat) := by
  unfold Builtin.Range.rangeSize
  rw [if_pos (by omega)]
  by_cases z : n = 0
  · subst z
    rw [if_neg (by omega), Nat.zero_add, Nat.div_eq_of_lt (by omega)]; rfl
  · rw [if_pos (by omega), show n + l - 1 = (n - 1) + l by omega, Nat.add_div_right _ (by omega)]
    push_cast
    rw [show (n : Int) - 0 - 1 = ((n - 1 : Nat) : Int) by omega]
theorem rg_of {n l : Nat} (h1 : 1 ≤ l) (h2 : l ≤ 100) (hn : n ≤ 1000) : RgC 0 n l ((n + l - 1) / l) := by
  refine ⟨by omega, by omega, ?_, rs_of h1⟩
  unfold Builtin.Range.small
  rw [rs_of h1]
  have : (n + l - 1) / l ≤ n + l - 1 := Nat.div_le_self _ _
  simp only [Builtin.Range.rangeFitsLong, Bool.and_eq_true, Bool.or_eq_true, decide_eq_true_eq, beq_iff_eq, show ((l : Int) > 0) by omega, if_true]
  generalize (n + l - 1) / l = q at this
  refine ⟨⟨⟨⟨?_, ?_⟩, ?_⟩, ?_⟩, ?_⟩ <;> first | omega | (constructor <;> omega)
theorem rngC_eq {c : Int} : ∀ {n : Nat} {lo : Int}, rngC lo c n = (List.range n).map fun (k : Nat) => D.int (lo + k * c)
  | 0, _ => rfl
  | n + 1, lo => by
    show D.int lo :: rngC (lo + c) c n = _
    rw [rngC_eq, List.range_succ_eq_map, List.map_cons, List.map_map]
    congr 1
    · simp
    · refine List.map_congr_left fun k _ => ?_
      simp only [Function.comp, Nat.succ_eq_add_one]
      congr 1
      push_cast
      rw [Int.add_mul]
      omega

theorem cut_mid {xs : List D} {i j : Nat} : cutD xs (some (i : Int)) (some ((i : Int) + j)) = (xs.drop i).take j := by
  unfold cutD
  rw [sIx_int (by omega), sIx_int (by omega), show ((i : Int)).toNat = i by omega, show ((i : Int) + j).toNat = i + j by omega]
  by_cases h : i ≤ xs.length
  · rw [Nat.min_eq_left h]
    by_cases h2 : i + j ≤ xs.length
    · rw [Nat.min_eq_left h2, show i + j - i = j by omega]
    · rw [Nat.min_eq_right (by omega), List.take_of_length_le (by rw [List.length_drop]; omega), List.take_of_length_le (by rw [List.length_drop]; omega)]
  · rw [show min i xs.length = xs.length by omega, List.drop_eq_nil_of_le (Nat.le_refl _), List.drop_eq_nil_of_le (show xs.length ≤ i by omega)]
    simp
theorem sl_sq {S : Sto} {d : D} {xs : List D} {lo hi : Option Int} {k : D → Prop} (e : asSq S d = some xs) (h : ∀ x, asSq S x = some (cutD xs lo hi) → k x) : slK S d lo hi k := by
  cases d with
  | tup => cases e; exact h _ rfl
  | lst => cases e; exact h _ rfl
  | rol => cases e; exact h _ rfl
  | m n =>
    rw [asSq_m] at e
    rw [sl_m, e]
    exact h _ rfl
  | _ => cases e
theorem libQ.imp {S : Sto} {p d : D} {Q Q' : QD} {E E' : QE} (h : libQ S p d Q E) (hq : ∀ x, Q x S → Q' x S) (he : ∀ er, E er S → E' er S) : libQ S p d Q' E' := by
  rcases h with ⟨a, b⟩ | ⟨i, a, b, ⟨c, d⟩ | ⟨c, d⟩⟩
  · exact .inl ⟨a, he _ b⟩
  · exact .inr ⟨i, a, b, .inl ⟨c, he _ d⟩⟩
  · exact .inr ⟨i, a, b, .inr ⟨c, hq _ d⟩⟩
theorem flat_len {S : Sto} {xs : List D} {l : Nat} : ∀ {n : Nat}, (((List.range n).map fun k => D.tup ((xs.drop (k * l)).take l)).map (rowOf S)).flatten.length ≤ n * l := by
  intro n
  induction n with
  | zero => simp
  | succ n ih =>
    rw [List.range_succ, List.map_append, List.map_append, List.flatten_append, List.length_append, Nat.succ_mul]
    have : ((List.map (rowOf S) (List.map (fun k => D.tup ((xs.drop (k * l)).take l)) [n])).flatten).length ≤ l := by
      simp [rowOf, sqs]
      omega
    omega
theorem ok_Library_of_letters : Sp2 p_Library_of_letters m_Library_of_letters := by
  rintro us S Q E ⟨p, l, d, xs, rfl, gp, e, gx, l1, l2, hl, h⟩
  obtain ⟨l, rfl⟩ : ∃ n : Nat, l = n := ⟨l.toNat, by omega⟩
  simp -implicitDefEqProofs [-List.getD_eq_getElem?_getD, m_Library_of_letters, t_Library_of_letters, len_sq e]
  refine ⟨_, rg_of (by omega) (by omega) hl, fun a => ?_⟩
  rw [rngC_eq]
  have hq : (xs.length + l - 1) / l ≤ xs.length + l - 1 := Nat.div_le_self _ _
  simp -implicitDefEqProofs [-List.getD_eq_getElem?_getD]
  refine lc_map (fun (k : Nat) => D.int ((k : Int) * l)) (fun k => D.tup ((xs.drop (k * l)).take l)) (List.range ((xs.length + l - 1) / l)) (by rw [List.length_range, sizeLine_eq]; omega) trivial (fun k hk R N hR => ?_) ?_
  · simp -implicitDefEqProofs [-List.getD_eq_getElem?_getD]
    refine sl_sq e fun x ex => ?_
    rw [show (k : Int) * l = ((k * l : Nat) : Int) by push_cast; rfl, cut_mid] at ex
    simp -implicitDefEqProofs [-List.getD_eq_getElem?_getD, ex]
    exact hR
  simp -implicitDefEqProofs [-List.getD_eq_getElem?_getD]
  have hfl := flat_len (S := S) (xs := xs) (l := l) (n := (xs.length + l - 1) / l)
  have hqq : (xs.length + l - 1) / l * l ≤ xs.length + l - 1 := Nat.div_mul_le_self _ _
  refine ⟨p, _, rfl, gp, ⟨trivial, fun ys ey => ?_⟩, ?_, ?_⟩
  · cases ey
    refine ⟨by rw [List.length_map, List.length_range]; omega, fun y hy => ?_⟩
    obtain ⟨k, hk, rfl⟩ := List.mem_map.mp hy
    refine ⟨trivial, fun zs ez => ?_⟩
    cases ez
    exact ⟨by rw [List.length_take, List.length_drop]; omega, fun z hz => gx z (List.mem_of_mem_drop (List.mem_of_mem_take hz))⟩
  · unfold matOf sqs
    show (List.map (rowOf S) (List.map _ (List.range _))).flatten.length ≤ _
    omega
  · have h2 : (chunk (l : Int).toNat xs).map D.tup = (List.range ((xs.length + l - 1) / l)).map fun k => D.tup ((xs.drop (k * l)).take l) := by
      unfold chunk
      rw [show (l : Int).toNat = l by omega, List.map_map]; rfl
    rw [h2] at h
    exact h.imp (fun x hx => by simp -implicitDefEqProofs [-List.getD_eq_getElem?_getD]; exact drp_self hx) fun er he => by simp -implicitDefEqProofs [-List.getD_eq_getElem?_getD]; exact drp_self he
end K07

set_option maxHeartbeats 1000000
local macro_rules | `(tactic| walk_at "om") => `(tactic| repeat first | refine And.intro (by omega) ?_ | refine And.intro (.inl (.inl ⟨by omega, by omega⟩)) ?_ | refine And.intro (.inl (.inr ⟨by omega, by omega⟩)) ?_)
namespace K07
open PySem DL L2
theorem getD_at {A : Type} {l : List A} {k : Nat} {z : A} (h : k < l.length) : l.getD k z = l[k] := by rw [List.getD_eq_getElem?_getD, List.getElem?_eq_getElem h]; rfl
theorem mat_of {S : Sto} {d : D} {ds : List D} {m : Mat} (e : asSq S d = some ds) (hl : ds.length = m.length) (hh : ∀ j, j < m.length → ∃ x, ds[j]? = some x ∧ asSq S x = some ((m.getD j []).map .int)) : matOf S d = m := by
  unfold matOf
  rw [sqs_e e]
  refine List.ext_getElem (by rw [List.length_map, hl]) fun j h1 h2 => ?_
  obtain ⟨x, e1, e2⟩ := hh j h2
  rw [List.length_map] at h1
  rw [List.getElem?_eq_getElem h1] at e1
  cases e1
  rw [List.getElem_map]
  unfold rowOf
  rw [sqs_e e2, List.map_map, getD_at h2]
  show List.map (fun x => x) _ = _
  rw [List.map_id']
theorem let_of {S : Sto} {p : Int} {x : D} {r : List Int} (e : asSq S x = some (r.map .int)) (h : ∀ y ∈ r, 0 ≤ y ∧ y < p) : letB S p x = true := by
  unfold letB
  rw [e]
  refine List.all_eq_true.mpr fun y hy => ?_
  obtain ⟨i, hi, rfl⟩ := List.mem_map.mp hy
  have := h i hi
  simp [plcB, this]
theorem boks_of {S : Sto} {p : Int} {d : D} {ds : List D} {m : Mat} (B : Bk p m) (e : asSq S d = some ds) (hl : ds.length = m.length) (hh : ∀ j, j < m.length → ∃ x, ds[j]? = some x ∧ asSq S x = some ((m.getD j []).map .int)) : boksB S p d = true := by
  unfold boksB
  rw [e]
  have hp := B.pos
  cases ds with
  | nil => simp at hl; omega
  | cons b bs =>
    refine List.all_eq_true.mpr fun x hx => ?_
    obtain ⟨j, hj, rfl⟩ := List.mem_iff_getElem.mp hx
    obtain ⟨x', e1, e2⟩ := hh j (by omega)
    obtain ⟨b', b1, b2⟩ := hh 0 hp
    rw [List.getElem?_eq_getElem hj] at e1
    cases e1
    cases b1
    obtain ⟨w1, w2⟩ := B.wid _ (getD_mem (z := []) (show j < m.length by omega))
    have := B.l1
    unfold bokB
    rw [let_of e2 w2, sqs_e e2, sqs_e b2, List.length_map, List.length_map]
    simp only [Bool.true_and, Bool.and_eq_true, decide_eq_true_eq]
    omega
theorem flat_of {p : Int} {m : Mat} (B : Bk p m) : m.flatten.length ≤ 100000 := by
  have : ∀ (bs : Mat), (∀ r ∈ bs, r.length ≤ 16) → bs.flatten.length ≤ 16 * bs.length := fun bs => by
    induction bs with
    | nil => intro _; simp
    | cons a t ih =>
      intro h
      have h1 := h a (List.mem_cons_self ..)
      have h2 := ih fun r hr => h r (List.mem_cons_of_mem _ hr)
      simp at h2 ⊢
      omega
  have h3 := this m fun r hr => by have := (B.wid r hr).1; have := B.l3; omega
  have := B.few
  omega
/-- a library of right books, however they are held -/
theorem lib_any {S : Sto} {p : Int} {d : D} {ds : List D} {m : Mat} {Q : QD} {E : QE} (B : Bk p m) (g : Gd S d) (e : asSq S d = some ds) (hl : ds.length = m.length) (hg : ∀ x ∈ ds, Gd S x) (hh : ∀ j, j < m.length → ∃ x, ds[j]? = some x ∧ asSq S x = some ((m.getD j []).map .int)) (h : Q (libI p m) S) : p_Library [.int p, d] S Q E := by
  have em := mat_of e hl hh
  have few := B.few
  refine ⟨.int p, d, rfl, trivial, ⟨g, fun xs ex => ?_⟩, by rw [em]; exact flat_of B, .inr ⟨p, rfl, B.pf, .inr ⟨boks_of B e hl hh, by rw [em]; exact h⟩⟩⟩
  rw [e] at ex
  cases ex
  refine ⟨by omega, fun x hx => ⟨hg x hx, fun ys ey => ?_⟩⟩
  obtain ⟨j, hj, rfl⟩ := List.mem_iff_getElem.mp hx
  obtain ⟨x', e1, e2⟩ := hh j (by omega)
  rw [List.getElem?_eq_getElem hj] at e1
  cases e1
  rw [e2] at ey
  cases ey
  have := (B.wid _ (getD_mem (z := []) (show j < m.length by omega))).1
  have := B.l3
  refine ⟨by rw [List.length_map]; omega, fun y hy => ?_⟩
  obtain ⟨i, _, rfl⟩ := List.mem_map.mp hy
  exact trivial
theorem lib_of {S : Sto} {p : Int} {m : Mat} {Q : QD} {E : QE} (B : Bk p m) (h : Q (libI p m) S) : p_Library [.int p, matD m] S Q E :=
  lib_any (ds := m.map rowD) B trivial rfl (by simp) (fun x hx => by obtain ⟨r, _, rfl⟩ := List.mem_map.mp hx; exact trivial) (fun j hj => ⟨rowD (m.getD j []), by rw [List.getElem?_map, List.getElem?_eq_getElem hj, getD_at hj]; rfl, rfl⟩) h
theorem at_mapN {A : Type} {f : A → D} {l : List A} {z : A} {k : Nat} (h : k < l.length) : atI (l.map f) k = some (f (l.getD k z)) := at_nat (by rw [List.getElem?_map, List.getElem?_eq_getElem h, getD_at h]; rfl)
theorem ok_Library_book : Sp2 p_Library_book m_Library_book := by
  rintro us S Q E ⟨p, m, k, rfl, gk, h⟩
  simp -implicitDefEqProofs [-List.getD_eq_getElem?_getD, m_Library_book, t_Library_book, libI, ev_s_Library_book_1, gk]
  rcases h with ⟨h1, h2⟩ | ⟨i, rfl, i0, i1, h⟩
  · simp -implicitDefEqProofs [-List.getD_eq_getElem?_getD, h1]
    exact drp_self h2
  obtain ⟨i, rfl⟩ : ∃ n : Nat, i = n := ⟨i.toNat, by omega⟩
  have e := at_mapN (f := rowD) (l := m) (z := []) (k := i) (by omega)
  simp -implicitDefEqProofs [-List.getD_eq_getElem?_getD, i0, i1, matD, e]
  exact drp_self h
theorem set_cut {A : Type} {m : List A} {i : Nat} {x : A} (h : i < m.length) : m.take i ++ [x] ++ m.drop (i + 1) = m.set i x := by
  rw [List.set_eq_take_append_cons_drop, if_pos h]
  simp
theorem ok_Library_changed : Sp2 p_Library_changed m_Library_changed := by
  rintro us S Q E ⟨p, m, k, d, rfl, B, gk, gd, h⟩
  simp -implicitDefEqProofs [-List.getD_eq_getElem?_getD, m_Library_changed, t_Library_changed, libI, ev_s_Library_changed_1, gk]
  rcases h with ⟨h1, h2⟩ | ⟨i, rfl, i0, i1, h⟩
  · simp -implicitDefEqProofs [-List.getD_eq_getElem?_getD, h1]
    exact drp_self h2
  obtain ⟨i, rfl⟩ : ∃ n : Nat, i = n := ⟨i.toNat, by omega⟩
  have ln : ∀ xs, asSq S d = some xs → sqs S d = xs := fun xs e => sqs_e e
  simp -implicitDefEqProofs [-List.getD_eq_getElem?_getD, i0, i1, ev_s_Library_changed_2]
  refine ⟨p, d, rfl, gd, ?_⟩
  have hc : ∀ b, letB S p d = b → letB S p d = b := fun _ h => h
  cases e1 : letB S p d with
  | false =>
    have h2 : eL E S d := by
      rcases h with ⟨_, h⟩ | ⟨h, _⟩
      · exact h
      · rw [e1] at h; cases h
    simp -implicitDefEqProofs [-List.getD_eq_getElem?_getD]
    exact drp_self h2
  | true =>
    obtain ⟨e, hr, hl⟩ := let_true e1
    simp -implicitDefEqProofs [-List.getD_eq_getElem?_getD, len_sq e]
    by_cases z : (rowOf S d).length = (m.getD 0 []).length
    · have h2 : Q (libI p (m.set i (rowOf S d))) S := by
        rcases h with ⟨h, _⟩ | ⟨_, h⟩
        · rw [e1, hl, decide_eq_true z] at h; cases h
        · simpa using h
      rw [decide_eq_true (show ((rowOf S d).length : Int) = (m.getD 0 []).length by omega)]
      have hf := B.few
      simp -implicitDefEqProofs [-List.getD_eq_getElem?_getD, matD, cut_to (show (0 : Int) ≤ i by omega), cut_from (show (0 : Int) ≤ (i : Int) + 1 by omega), e]
      walk_at "om"
      have ee : D.tup ((m.map rowD).take i ++ D.tup ((rowOf S d).map D.int) :: (m.map rowD).drop (i + 1)) = matD (m.set i (rowOf S d)) := by
        unfold matD
        rw [← set_cut (x := rowOf S d) (show i < m.length by omega)]
        simp [rowD, List.map_take, List.map_drop]
      rw [ee]
      have hm : i < m.length := by omega
      have hb1 : (m.set i (rowOf S d)).getD 0 [] = if i = 0 then rowOf S d else m.getD 0 [] := by
        rw [List.getD_eq_getElem?_getD, List.getElem?_set]
        by_cases y : i = 0
        · subst y
          simp [hm]
        · rw [if_neg y, if_neg y, List.getD_eq_getElem?_getD]
      have hb2 : ((m.set i (rowOf S d)).getD 0 []).length = (m.getD 0 []).length := by
        rw [hb1]
        split <;> omega
      have B2 : Bk p (m.set i (rowOf S d)) := ⟨B.pf, by rw [List.length_set]; exact B.pos, by rw [List.length_set]; exact B.few, fun r hr' => by
        rw [hb2]
        rcases List.mem_or_eq_of_mem_set hr' with y | y
        · exact B.wid r y
        · rw [y]
          exact ⟨by rw [z], hr⟩, by rw [hb2]; exact B.l1, by rw [hb2]; exact B.l3⟩
      refine lib_of B2 ?_
      simp -implicitDefEqProofs [-List.getD_eq_getElem?_getD]
      exact drp_self h2
    · have h2 : eL E S d := by
        rcases h with ⟨_, h⟩ | ⟨h, _⟩
        · exact h
        · rw [e1, hl, decide_eq_false z] at h; cases h
      rw [decide_eq_false (show ¬ ((rowOf S d).length : Int) = (m.getD 0 []).length by omega)]
      simp -implicitDefEqProofs [-List.getD_eq_getElem?_getD]
      exact drp_self h2
end K07

set_option maxHeartbeats 1000000
local macro_rules | `(tactic| walk_at "om") => `(tactic| repeat first | refine And.intro (by omega) ?_ | refine And.intro (.inl (.inl ⟨by omega, by omega⟩)) ?_ | refine And.intro (.inl (.inr ⟨by omega, by omega⟩)) ?_)
namespace K07
open PySem DL L2
theorem allR_mem {p : Nat} : ∀ {n : Nat} {r : List Int}, r ∈ allR p n → r.length = n ∧ ∀ x ∈ r, 0 ≤ x ∧ x < (p : Int)
  | 0, r, h => by
    rw [allR, List.mem_singleton] at h
    subst h
    exact ⟨rfl, fun x hx => by cases hx⟩
  | n + 1, r, h => by
    obtain ⟨r', h1, h2⟩ := List.mem_flatMap.mp h
    obtain ⟨x, h3, rfl⟩ := List.mem_map.mp h2
    obtain ⟨a, b⟩ := allR_mem h1
    have := List.mem_range.mp h3
    refine ⟨by rw [List.length_append, a]; rfl, fun y hy => ?_⟩
    rcases List.mem_append.mp hy with hy | hy
    · exact b y hy
    · rw [List.mem_singleton.mp hy]
      omega
theorem allR_len {p : Nat} : ∀ {n : Nat}, (allR p n).length = p ^ n
  | 0 => rfl
  | n + 1 => by
    rw [allR, List.length_flatMap]
    have : (allR p n).map (fun r => ((List.range p).map fun (x : Nat) => r ++ [(x : Int)]).length) = (allR p n).map fun _ => p := List.map_congr_left fun r _ => by simp
    rw [this, List.map_const', List.sum_replicate_nat, allR_len, Nat.pow_succ]
theorem cnt_eq {c l : Nat} (h : 1 ≤ l) : (c * l + l - 1) / l = c := by
  rw [show c * l + l - 1 = (l - 1) + c * l by omega, Nat.add_mul_div_right _ _ (by omega), Nat.div_eq_of_lt (by omega), Nat.zero_add]
theorem chunk_int {c l : Nat} {r : List Int} (h : 1 ≤ l) (hr : r.length = c * l) : (chunk l (r.map .int)).map D.tup = (chunkI c l r).map rowD := by
  unfold chunk chunkI
  rw [List.length_map, hr, cnt_eq h, List.map_map, List.map_map]
  refine List.map_congr_left fun k _ => ?_
  simp [rowD, List.map_take, List.map_drop]
theorem chunkI_bk {p : Int} {c l : Nat} {r : List Int} (hp : p ∈ FL) (hc : 1 ≤ c) (hc2 : c ≤ 16) (h : 1 ≤ l) (hl : l ≤ 16) (hr : r.length = c * l) (hw : ∀ x ∈ r, 0 ≤ x ∧ x < p) : Bk p (chunkI c l r) := by
  have hrow : ∀ q ∈ chunkI c l r, q.length = l ∧ ∀ x ∈ q, 0 ≤ x ∧ x < p := fun q hq => by
    obtain ⟨k, hk, rfl⟩ := List.mem_map.mp hq
    have hk := List.mem_range.mp hk
    have : (k + 1) * l ≤ c * l := Nat.mul_le_mul_right l hk
    rw [Nat.succ_mul] at this
    exact ⟨by rw [List.length_take, List.length_drop]; omega, fun x hx => hw x (List.mem_of_mem_drop (List.mem_of_mem_take hx))⟩
  have hlen : (chunkI c l r).length = c := by unfold chunkI; rw [List.length_map, List.length_range]
  have h0 : ((chunkI c l r).getD 0 []).length = l := (hrow _ (getD_mem (by omega))).1
  exact ⟨hp, by omega, by omega, fun q hq => ⟨by rw [h0]; exact_mod_cast (hrow q hq).1, (hrow q hq).2⟩, by omega, by omega⟩
theorem ok_every_library : Sp2 p_every_library m_every_library := by
  rintro us S Q E ⟨p, c, l, rfl, gp, c1, c3, l1, l3, cl, h⟩
  simp -implicitDefEqProofs [-List.getD_eq_getElem?_getD, m_every_library, t_every_library, ev_s_every_library_1]
  refine ⟨gp, ?_⟩
  rcases h with ⟨h1, h2⟩ | ⟨i, rfl, i2, i3, h⟩
  · simp -implicitDefEqProofs [-List.getD_eq_getElem?_getD, h1]
    exact drp_self h2
  have hi : i ∈ FL := by unfold FL; simp; omega
  obtain ⟨i, rfl⟩ : ∃ n : Nat, i = n := ⟨i.toNat, by omega⟩
  simp -implicitDefEqProofs [-List.getD_eq_getElem?_getD, fld_in hi]
  have hcl : (c : Int) * l = ((c * l : Nat) : Int) := by push_cast; rfl
  have hcl4 : (c : Int) * l ≤ 4 := by rw [hcl]; omega
  have hcl0 : 0 ≤ (c : Int) * l := by rw [hcl]; omega
  simp -implicitDefEqProofs [-List.getD_eq_getElem?_getD, ev_s_every_library_3]
  walk_at "om"
  refine lp_rng (fun k δ' S' => S = S' ∧ ∃ g4 g5 g6, δ' = [some (.int i), some (.int c), some (.int l), some (.lst ((allR i k).map rowD)), g4, g5, g6]) ?_ ?_ ?_ ⟨rfl, none, none, none, rfl⟩
  · intros; trivial
  · rintro k _ _ hk ⟨rfl, g4, g5, g6, rfl⟩ B1 _ _ _ hn1 _
    have hb : ((allR i (k + 1)).map rowD).length ≤ sizeLine := by
      rw [List.length_map, allR_len, sizeLine_eq]
      have h1 : i ^ (k + 1) ≤ 3 ^ (k + 1) := Nat.pow_le_pow_left (by omega) _
      have h2 : 3 ^ (k + 1) ≤ 3 ^ 4 := Nat.pow_le_pow_right (by omega) (by omega)
      omega
    have e1 : (allR i (k + 1)).map rowD = (allR i k).flatMap fun r => (List.range i).map fun (x : Nat) => rowD (r ++ [(x : Int)]) := by
      rw [allR, List.map_flatMap]
      congr 1
      funext r
      rw [List.map_map]; rfl
    simp -implicitDefEqProofs [-List.getD_eq_getElem?_getD, ev_b_every_library_2]
    refine lc2_map rowD (fun r => (List.range i).map fun (x : Nat) => rowD (r ++ [(x : Int)])) trivial (allR i k) [] (by rw [← e1, List.length_nil]; omega) (fun r hr acc R hl' q => ?_) ?_
    · obtain ⟨r1, r2⟩ := allR_mem hr
      simp -implicitDefEqProofs [-List.getD_eq_getElem?_getD, rowD]
      walk_at "om"
      rw [rngD_map]
      refine lc_go (fun (j : Nat) => D.int (0 + (j : Int))) (fun (j : Nat) => some (rowD (r ++ [(j : Int)]))) trivial (List.range i) acc (by simpa using hl') (fun j hj R N hR => ?_) ?_
      · simp -implicitDefEqProofs [-List.getD_eq_getElem?_getD]
        walk_at "om"
        simpa [rowD, mayO] using hR
      · simpa using q
    · rw [List.nil_append, ← e1]
      simp -implicitDefEqProofs [-List.getD_eq_getElem?_getD]
      exact hn1 _ _ ⟨rfl, _, _, _, rfl⟩
  rintro _ _ ⟨rfl, g4, g5, g6, rfl⟩
  simp -implicitDefEqProofs [-List.getD_eq_getElem?_getD]
  rw [show ((c : Int) * l).toNat = c * l by omega]
  have hal : (allR i (c * l)).length ≤ 81 := by
    rw [allR_len]
    have h1 : i ^ (c * l) ≤ 3 ^ (c * l) := Nat.pow_le_pow_left (by omega) _
    have h2 : 3 ^ (c * l) ≤ 3 ^ 4 := Nat.pow_le_pow_right (by omega) (by omega)
    omega
  refine lc_map rowD (fun r => libI i (chunkI c l r)) (allR i (c * l)) (by rw [sizeLine_eq]; omega) trivial (fun r hr R N hR => ?_) ?_
  · obtain ⟨r1, r2⟩ := allR_mem hr
    simp -implicitDefEqProofs [-List.getD_eq_getElem?_getD]
    have B := chunkI_bk (p := i) (c := c) (l := l) hi c1 (by omega) l1 (by omega) r1 r2
    have e := chunk_int l1 r1
    have hd : asSq S (.lst ((chunk l (r.map .int)).map D.tup)) = some ((chunkI c l r).map rowD) := by rw [e]; rfl
    have hh : ∀ j, j < (chunkI c l r).length → ∃ x, ((chunkI c l r).map rowD)[j]? = some x ∧ asSq S x = some (((chunkI c l r).getD j []).map .int) := fun j hj => ⟨rowD ((chunkI c l r).getD j []), by rw [List.getElem?_map, List.getElem?_eq_getElem hj, getD_at hj]; rfl, rfl⟩
    refine ⟨.int i, l, rowD r, r.map .int, rfl, trivial, rfl, fun x hx => by obtain ⟨y, _, rfl⟩ := List.mem_map.mp hx; exact trivial, by omega, by omega, by rw [List.length_map, r1]; omega, .inr ⟨i, rfl, hi, .inr ⟨?_, ?_⟩⟩⟩
    · exact boks_of B hd (by simp) hh
    · rw [show (l : Int).toNat = l by omega, mat_of hd (by simp) hh]
      exact hR
  · simp -implicitDefEqProofs [-List.getD_eq_getElem?_getD]
    exact drp_self (by simpa using h)
end K07

set_option maxHeartbeats 1000000
local macro_rules | `(tactic| walk_at "om") => `(tactic| repeat first | refine And.intro (by omega) ?_ | refine And.intro (.inl (.inl ⟨by omega, by omega⟩)) ?_ | refine And.intro (.inl (.inr ⟨by omega, by omega⟩)) ?_)
namespace K07
open PySem DL L2
theorem plnL_of {n : Nat} : ∀ {xs : List D}, (∀ x ∈ xs, pln n x = true) → plnL n xs = true
  | [], _ => rfl
  | x :: xs, h => by
    show (pln n x && plnL n xs) = true
    rw [h x (List.mem_cons_self ..), plnL_of fun y hy => h y (List.mem_cons_of_mem _ hy)]; rfl
def oddF : Nat → DFn
  | 0 => fun _ _ _ _ => False
  | r + 1 => fun us S Q _ => ∃ (n : Nat) (c : Cell) (k : Nat), us = [.m n, .int k] ∧ k ≤ r ∧ S n = some c ∧ Hn c ∧ ∀ d c', Hn c' → Bt 3 (k + 1) d → pln (k + 1) d = true → Q d (put S n c')
theorem ok_odd : ∀ r, Sp2 (oddF r) (m__law_odd r)
  | 0 => fun _ _ _ _ h => h.elim
  | r + 1 => by
    rintro us S Q E ⟨n, c, k, rfl, hk, hS, hc, q⟩
    have ih := ok_odd r
    simp [m__law_odd, t__law_odd, hS, hc]
    intro v c1 hc1 v0 v1
    refine seq_step (P := fun δ' S' => S' = put S n c1 ∧ δ' = [some (.m n), some (.int k), some (.int v), none, none, none]) ?_ ?_
    · intro B1 b1 _ _ _ hP
      simp [ev_s__law_odd_1]
      refine and_of (fun z => ?_) fun z => ?_
      · have hk0 : 0 < k := by simpa using z
        simp
        refine iff_dec (fun z => ?_) fun z => ?_
        · simp [put_same, hc1]
          intro u c2 hc2 u0 u1
          walk_at "om"
          obtain ⟨r', rfl⟩ : ∃ r', r = r' + 1 := ⟨r - 1, by omega⟩
          refine lc_hand (fun d : D => d) (fun d => Bt 3 k d ∧ pln k d = true) put_same hc2 (fun _ _ => trivial) _ (by rw [rngD_len]; omega) ?_ ?_
          · intro d hd c3 R N hc3 hR
            obtain ⟨i, rfl, _⟩ := rngD_mem' hd
            simp
            rw [show (k : Int) - 1 = ((k - 1 : Nat) : Int) by omega]
            refine ih _ _ _ _ ⟨n, _, k - 1, rfl, by omega, put_same, hc3, fun d c' h1 h2 h3 => ?_⟩
            rw [show k - 1 + 1 = k by omega] at h2 h3
            have := hR d c' h1 ⟨h2, h3⟩
            simp only [put_put] at this ⊢
            exact this
          intro vs c3 hc3 hl hv
          rw [rngD_len] at hl
          rw [List.map_id']
          simp
          refine opt_any (by omega) (by simp; omega) fun d hd => ?_
          simp only [List.mem_cons, List.not_mem_nil, or_false] at hd
          simp
          rw [b1]
          refine drp_self (q d _ hc3 ?_ ?_)
          · rcases hd with rfl | rfl
            · exact .lst (fun x hx => (hv x hx).1) (by omega)
            · exact .tup (fun x hx => (hv x hx).1) (by omega)
          · rcases hd with rfl | rfl
            · exact plnL_of fun x hx => (hv x hx).2
            · exact plnL_of fun x hx => (hv x hx).2
        · exact hP _ _ ⟨rfl, rfl⟩
      · exact hP _ _ ⟨rfl, rfl⟩
    · rintro _ _ ⟨rfl, rfl⟩
      simp [put_same, hc1]
      intro u c2 hc2 u0 u1
      refine opt_any u0 (by simp; omega) fun d hd => ?_
      simp
      refine drp_self (q d _ hc2 ?_ ?_)
      all_goals clear q
      all_goals simp only [List.mem_cons, List.not_mem_nil, or_false] at hd
      · rcases hd with rfl | rfl | rfl | rfl | rfl | rfl | rfl | rfl | rfl | rfl | rfl | rfl | rfl | rfl | rfl | rfl
        all_goals first | exact .non _ | exact .bl _ _ | exact .int _ _ | exact .str _ _ | exact .lst (fun x hx => by cases hx) (by simp) | exact .tup (fun x hx => by cases hx) (by simp)
      · rcases hd with rfl | rfl | rfl | rfl | rfl | rfl | rfl | rfl | rfl | rfl | rfl | rfl | rfl | rfl | rfl | rfl
        all_goals first | rfl | (show PyData.strOk _ = true; decide +kernel)
theorem ok__law_odd : Sp2 p__law_odd (m__law_odd 2) := by
  rintro us S Q E ⟨n, c, k, rfl, hk, hS, hc, q⟩
  exact ok_odd 2 _ _ _ _ ⟨n, c, k, rfl, by omega, hS, hc, q⟩
theorem Bt.up {N r : Nat} {d : D} (h : Bt N r d) : ∀ {M m : Nat}, N ≤ M → r ≤ m → Bt M m d := by
  induction h with
  | non => intro M m _ hm; obtain ⟨m, rfl⟩ : ∃ j, m = j + 1 := ⟨m - 1, by omega⟩; exact .non _
  | bl => intro M m _ hm; obtain ⟨m, rfl⟩ : ∃ j, m = j + 1 := ⟨m - 1, by omega⟩; exact .bl _ _
  | int => intro M m _ hm; obtain ⟨m, rfl⟩ : ∃ j, m = j + 1 := ⟨m - 1, by omega⟩; exact .int _ _
  | str => intro M m _ hm; obtain ⟨m, rfl⟩ : ∃ j, m = j + 1 := ⟨m - 1, by omega⟩; exact .str _ _
  | tup _ l ih => intro M m hM hm; obtain ⟨m, rfl⟩ : ∃ j, m = j + 1 := ⟨m - 1, by omega⟩; exact .tup (fun x hx => ih x hx hM (by omega)) (by omega)
  | lst _ l ih => intro M m hM hm; obtain ⟨m, rfl⟩ : ∃ j, m = j + 1 := ⟨m - 1, by omega⟩; exact .lst (fun x hx => ih x hx hM (by omega)) (by omega)
theorem Bt.gd {N r : Nat} {d : D} {S : Sto} (h : Bt N r d) : Gd S d := by cases h <;> trivial
theorem Bt.sq {N r : Nat} {d : D} {S : Sto} {xs : List D} (h : Bt N (r + 1) d) (e : asSq S d = some xs) : xs.length ≤ N ∧ ∀ x ∈ xs, Bt N r x := by
  cases h with
  | tup h l => cases e; exact ⟨l, h⟩
  | lst h l => cases e; exact ⟨l, h⟩
  | _ => cases e
theorem Bt.gdN {N : Nat} (hN : N ≤ 1000000) : ∀ {r m : Nat} {d : D} {S : Sto}, Bt N r d → GdN S m d
  | _, 0, _, _, h => h.gd
  | r, m + 1, d, S, h => ⟨h.gd, fun xs e => by
    cases r with
    | zero => cases h
    | succ r =>
      obtain ⟨h1, h2⟩ := h.sq e
      exact ⟨by omega, fun x hx => (h2 x hx).gdN hN⟩⟩
theorem ok__law_no_field : Sp2 p__law_no_field m__law_no_field := by
  rintro us S Q E ⟨n, c, rfl, hS, hc, q⟩
  simp [m__law_no_field, t__law_no_field, hS, hc]
  intro u c1 hc1 u0 u1
  refine ⟨n, c1, 1, rfl, by omega, put_same, hc1, fun d c2 hc2 hd hdp => ?_⟩
  simp [put_same, hc2, put_put]
  intro v c3 hc3 v0 v1
  refine opt_any v0 (by simp; omega) fun e he => ?_
  have ho : Bt 3 2 e := by
    simp only [List.mem_cons, List.not_mem_nil, or_false] at he
    rcases he with rfl | rfl | rfl | rfl | rfl | rfl | rfl | rfl
    all_goals first | exact .int _ _ | exact hd
  have hi : pln 2 e = true := by
    simp only [List.mem_cons, List.not_mem_nil, or_false] at he
    rcases he with rfl | rfl | rfl | rfl | rfl | rfl | rfl | rfl
    all_goals first | rfl | exact hdp
  simp [ho.gd, ev_s__law_no_field_1]
  cases z : fldB e with
  | true => simp; exact drp_self (q _ _ hc3 (.int _ _) rfl (by decide))
  | false => simp; exact drp_self (q _ _ hc3 ho hi z)
theorem ok__law_field : Sp2 p__law_field m__law_field := by
  rintro us S Q E ⟨n, c, rfl, hS, hc, q⟩
  simp [m__law_field, t__law_field]
  refine lc_flt (fun (j : Nat) => D.int (2 + j)) (fun (j : Nat) => if fldB (.int (2 + (j : Int))) then some (.int (2 + (j : Int))) else none) (List.range 30) (by simp) trivial (fun j hj R N q => ?_) ?_
  · simp [-fldB_int]
    cases e : fldB (.int (2 + (j : Int))) with
    | true => rw [e] at q; simp at q ⊢; exact q
    | false => rw [e] at q; simp at q ⊢; exact q
  have e : (List.range 30).filterMap (fun (j : Nat) => if fldB (.int (2 + (j : Int))) then some (D.int (2 + (j : Int))) else none) = FL.map D.int := by rfl
  rw [e]
  simp [hS, hc]
  intro u c2 hc2 u0 u1
  simp [put_same, hc2]
  intro v c3 hc3 v0 v1
  simp [put_same, hc3, put_put]
  intro x c4 hc4 x0 x1
  refine opt_any x0 (by simp; omega) fun d hd => ?_
  simp only [List.mem_cons, List.not_mem_nil, or_false] at hd
  obtain ⟨z, rfl, z0, z1⟩ : ∃ z, d = .int z ∧ 0 ≤ z ∧ z < 11 := by rcases hd with rfl | rfl <;> exact ⟨_, rfl, by omega, by omega⟩
  obtain ⟨z, rfl⟩ : ∃ k : Nat, z = k := ⟨z.toNat, by omega⟩
  have hz : z < FL.length := by simp [FL]; omega
  simp [at_gI (show (0 : Int) ≤ z by omega) (show (z : Int) < FL.length by omega)]
  refine drp_self (q _ _ hc4 ?_)
  rw [gI_eq hz]
  exact List.getElem_mem _
theorem ok__law_books : Sp2 p__law_books m__law_books := by
  rintro us S Q E ⟨n, p, k, l, c, rfl, hS, hc, hp, k0, k1, l0, l1, q⟩
  simp [-List.getD_eq_getElem?_getD, m__law_books, t__law_books]
  walk_at "om"
  refine lc_hand rowD (fun r => (r.length : Int) = l ∧ ∀ x ∈ r, 0 ≤ x ∧ x < p) hS hc (fun _ _ => trivial) _ (by rw [rngD_len]; omega) ?_ ?_
  · intro d hd c1 R N h1 hR
    obtain ⟨i, rfl, _⟩ := rngD_mem' hd
    simp [-List.getD_eq_getElem?_getD]
    walk_at "om"
    refine lc_hand D.int (fun x => 0 ≤ x ∧ x < p) put_same h1 (fun _ _ => trivial) _ (by rw [rngD_len]; omega) ?_ ?_
    · intro d hd c2 R N h2 hR
      obtain ⟨i, rfl, _⟩ := rngD_mem' hd
      simp [-List.getD_eq_getElem?_getD, put_same, h2]
      refine ⟨by omega, fun v c3 h3 v0 v1 => ?_⟩
      have := hR v c3 h3 ⟨v0, v1⟩
      simpa only [put_put] using this
    · intro vs c2 h2 hl hv
      rw [rngD_len] at hl
      simp [-List.getD_eq_getElem?_getD]
      have := hR vs c2 h2 ⟨by omega, hv⟩
      unfold rowD at this
      simpa only [put_put] using this
  · intro bs c1 h1 hl hb
    rw [rngD_len] at hl
    simp [-List.getD_eq_getElem?_getD]
    exact drp_self (q bs c1 h1 (by omega) hb)
end K07

set_option maxHeartbeats 1000000
local macro_rules | `(tactic| walk_at "om") => `(tactic| repeat first | refine And.intro (by omega) ?_ | refine And.intro (.inl (.inl ⟨by omega, by omega⟩)) ?_ | refine And.intro (.inl (.inr ⟨by omega, by omega⟩)) ?_)
namespace K07
open PySem DL L2
theorem ti_mat {n : Nat} {m : Mat} (h : m.length ≤ 1000000) (hr : ∀ r ∈ m, r.length ≤ 1000000) : Ti (n + 2) (matD m) := Ti.map (fun r hr' => Ti.ints (hr r hr')) h
theorem Bk.row {p : Int} {m : Mat} (B : Bk p m) : ∀ r ∈ m, r.length ≤ 16 := fun r hr => by have := (B.wid r hr).1; have := B.l3; omega
theorem ok__law_is_library : Sp2 p__law_is_library m__law_is_library := by
  rintro us S Q E ⟨p, m, rfl, B, h⟩
  have few := B.few
  have pos := B.pos
  have fl := flat_of B
  have t1 : Ti 6 (matD m) := ti_mat (n := 4) (by omega) fun r hr => by have := B.row r hr; omega
  have t2 : Ti 6 (rowD m.flatten) := Ti.ints (by omega)
  have t3 : Ti 6 (.tup [.int m.length, .int (m.getD 0 []).length]) := Ti.ints (n := 5) (l := [(m.length : Int), ((m.getD 0 []).length : Int)]) (by simp)
  simp -implicitDefEqProofs [-List.getD_eq_getElem?_getD, m__law_is_library, t__law_is_library, libI, ev_s__law_is_library_1]
  refine ⟨.int _ _, ?_⟩
  simp -implicitDefEqProofs [-List.getD_eq_getElem?_getD, t1, ev_s__law_is_library_3, matD]
  refine ⟨t1, ?_⟩
  refine lp_inv (fun ds δ' S' => S = S' ∧ (∃ a b : Mat, m = a ++ b ∧ ds = b.map rowD ∧ ∃ g, δ' = [some (libI p m), some (.int p), some (matD m), some (rowD a.flatten), g, none])) ?_ ?_ ?_ _ _ _ ⟨rfl, [], m, rfl, rfl, none, rfl⟩
  · intros; trivial
  · rintro x ds _ _ ⟨rfl, a, b, rfl, hd, g, rfl⟩ B1 _ _ _ hn1 _
    cases b with
    | nil => cases hd
    | cons r b =>
      cases hd
      have hr := B.row r (by simp)
      rw [List.flatten_append, List.length_append] at fl
      simp -implicitDefEqProofs [-List.getD_eq_getElem?_getD, ev_b__law_is_library_2, rowD]
      have ea : (a.map (List.length ∘ List.map D.int)).sum = a.flatten.length := by
        rw [List.length_flatten]
        congr 1
        refine List.map_congr_left fun q _ => by simp
      rw [ea]
      refine ⟨by omega, hn1 _ _ ⟨rfl, a ++ [r], b, by simp, rfl, some (rowD r), ?_⟩⟩
      simp [rowD]
  · rintro _ _ ⟨rfl, a, b, rfl, hb, g, rfl⟩
    cases b with
    | cons r b => cases hb
    | nil =>
      rw [List.append_nil] at *
      have e0 : atI (a.map rowD) 0 = some (rowD (a.getD 0 [])) := at_mapN (k := 0) pos
      simp -implicitDefEqProofs [-List.getD_eq_getElem?_getD, matD, e0, rowD, libI]
      have t2' : Ti 6 (.tup (a.map (List.map D.int)).flatten) := by
        have := t2
        rw [rowD, List.map_flatten] at this
        exact this
      exact ⟨t3, t2', drp_self h⟩
theorem plnL_ints {n : Nat} {l : List Int} : plnL n (l.map D.int) = true := plnL_of fun x hx => by
  obtain ⟨i, _, rfl⟩ := List.mem_map.mp hx
  cases n <;> rfl
theorem pln_mat {n : Nat} {m : Mat} : pln (n + 2) (matD m) = true := plnL_of fun x hx => by
  obtain ⟨r, _, rfl⟩ := List.mem_map.mp hx
  exact plnL_ints
theorem eqv_ints' : ∀ {a b : List Int}, PyData.eqvAll (pyOfL (a.map D.int)) (pyOfL (b.map D.int)) = decide (a = b) := eqv_ints
theorem eqv_rows : ∀ {a b : Mat}, PyData.eqvAll (pyOfL (a.map rowD)) (pyOfL (b.map rowD)) = decide (a = b)
  | [], [] => by simp [-List.getD_eq_getElem?_getD, pyOfL, PyData.eqvAll]
  | [], _ :: _ => by simp [-List.getD_eq_getElem?_getD, pyOfL, PyData.eqvAll]
  | _ :: _, [] => by simp [-List.getD_eq_getElem?_getD, pyOfL, PyData.eqvAll]
  | x :: a, y :: b => by
    have h1 := eqv_rows (a := a) (b := b)
    have h2 := eqv_ints (a := x) (b := y)
    rw [List.map_cons, List.map_cons, pyOfL, pyOfL, PyData.eqvAll, h1]
    unfold rowD
    rw [pyOf, pyOf, PyData.eqv, h2]
    by_cases e1 : x = y <;> by_cases e2 : a = b <;> simp [-List.getD_eq_getElem?_getD, e1, e2]
theorem eqv_mat {a b : Mat} : PyData.eqv (pyOf (matD a)) (pyOf (matD b)) = decide (a = b) := by
  unfold matD
  rw [pyOf, pyOf, PyData.eqv]
  exact eqv_rows
theorem oeq_mat {S : Sto} {neg : Bool} {a b : Mat} {k : D → Prop} : oEq neg S (matD a) (matD b) k = k (.bl (neg ^^ decide (a = b))) := by
  rw [eq_pln (n := 2) (m := 2) (pln_mat (n := 0)) (pln_mat (n := 0)) (by omega) (by omega), eqv_mat]
theorem lib_self {p p' : Int} {m m' : Mat} {S : Sto} {Q : QD} {E : QE} (h : Q (.bl (decide (p = p') && decide (m = m'))) S) : m_Library___eq__ [libI p m, libI p' m'] S Q E := by
  simp -implicitDefEqProofs [-List.getD_eq_getElem?_getD, m_Library___eq__, t_Library___eq__, libI]
  by_cases e : p = p'
  · simp -implicitDefEqProofs [-List.getD_eq_getElem?_getD, e, oeq_mat]
    exact drp_self (by simpa [e] using h)
  · simp -implicitDefEqProofs [-List.getD_eq_getElem?_getD, e]
    exact drp_self (by simpa [e] using h)
theorem lib_ne {p : Int} {m : Mat} {N r : Nat} {b : D} {S : Sto} {Q : QD} {E : QE} (hb : Bt N r b) (h : Q (.bl false) S) : m_Library___eq__ [libI p m, b] S Q E := by
  simp -implicitDefEqProofs [-List.getD_eq_getElem?_getD, m_Library___eq__, t_Library___eq__, libI]
  cases hb <;> (simp -implicitDefEqProofs [-List.getD_eq_getElem?_getD]; exact drp_self h)
end K07

set_option maxHeartbeats 1000000
local macro_rules | `(tactic| walk_at "om") => `(tactic| repeat first | refine And.intro (by omega) ?_ | refine And.intro (.inl (.inl ⟨by omega, by omega⟩)) ?_ | refine And.intro (.inl (.inr ⟨by omega, by omega⟩)) ?_)
namespace K07
open PySem DL L2
theorem bt_plain {N r : Nat} {d : D} (h : Bt N r d) : plainB d = true := by cases h <;> rfl
theorem own_pp {S : Sto} {p p' : Int} {m m' : Mat} {k : D → Prop} (h : k (.bl (decide (p = p') && decide (m = m')))) : oOwn2 cLibrary m_Library___eq__ S (libI p m) (libI p' m') k := .inl ⟨⟨_, rfl⟩, .inl ⟨_, rfl⟩, lib_self ⟨rfl, h⟩⟩
theorem own_pn {S : Sto} {p : Int} {m : Mat} {N r : Nat} {b : D} {k : D → Prop} (hb : Bt N r b) (h : k (.bl false)) : oOwn2 cLibrary m_Library___eq__ S (libI p m) b k := .inl ⟨⟨_, rfl⟩, .inr (bt_plain hb), lib_ne hb ⟨rfl, h⟩⟩
theorem own_np {S : Sto} {p : Int} {m : Mat} {N r : Nat} {b : D} {k : D → Prop} (hb : Bt N r b) (h : k (.bl false)) : oOwn2 cLibrary m_Library___eq__ S b (libI p m) k := .inr ⟨bt_plain hb, ⟨_, rfl⟩, lib_ne hb ⟨rfl, h⟩⟩
theorem ok__law_equal : Sp2 p__law_equal m__law_equal := by
  rintro us S Q E ⟨p, m, b, due, rfl, hb, h⟩
  have pl : ∀ x : Bool, pln 2 (.lst [.bl x, .bl x]) = true := fun x => rfl
  simp -implicitDefEqProofs [-List.getD_eq_getElem?_getD, m__law_equal, t__law_equal]
  rcases hb with ⟨p', m', rfl, rfl⟩ | ⟨⟨N, r, hb⟩, rfl⟩
  · refine own_pp ?_
    simp -implicitDefEqProofs [-List.getD_eq_getElem?_getD]
    refine own_pp ?_
    rw [show (decide (p' = p) && decide (m' = m)) = (decide (p = p') && decide (m = m')) by rw [show decide (p' = p) = decide (p = p') by simp [eq_comm], show decide (m' = m) = decide (m = m') by simp [eq_comm]]]
    generalize (decide (p = p') && decide (m = m')) = x
    simp -implicitDefEqProofs [-List.getD_eq_getElem?_getD]
    rw [eq_self (pl x) (by omega)]
    simp -implicitDefEqProofs [-List.getD_eq_getElem?_getD]
    exact drp_self h
  · refine own_pn hb ?_
    simp -implicitDefEqProofs [-List.getD_eq_getElem?_getD]
    refine own_np hb ?_
    simp -implicitDefEqProofs [-List.getD_eq_getElem?_getD]
    rw [eq_self (pl false) (by omega)]
    simp -implicitDefEqProofs [-List.getD_eq_getElem?_getD]
    exact drp_self h
end K07

set_option maxHeartbeats 1000000
local macro_rules | `(tactic| walk_at "om") => `(tactic| repeat first | refine And.intro (by omega) ?_ | refine And.intro (.inl (.inl ⟨by omega, by omega⟩)) ?_ | refine And.intro (.inl (.inr ⟨by omega, by omega⟩)) ?_)
namespace K07
open PySem DL L2
theorem ok__law_told : Sp2 p__law_told m__law_told := by
  rintro us S Q E ⟨w, p, m, x, y, rfl, B, gx, gy, fy, h⟩
  rcases h with ⟨hw, hx, h⟩ | ⟨rfl, i, rfl, hi, hb, h⟩ | ⟨hw, hx, h⟩ | ⟨rfl, i, rfl, i0, i1, hb, h⟩
  · rcases hw with rfl | rfl | rfl
    · simp -implicitDefEqProofs [-List.getD_eq_getElem?_getD, m__law_told, t__law_told, ev_s__law_told_6, ev_s__law_told_4]
      refine ⟨x, y, rfl, gx, gy, fy, .inl ⟨hx, ?_⟩⟩
      simp -implicitDefEqProofs [-List.getD_eq_getElem?_getD, eN, h__law_told_5]
      exact drp_self h
    · simp -implicitDefEqProofs [-List.getD_eq_getElem?_getD, m__law_told, t__law_told, ev_s__law_told_6, ev_s__law_told_4, ev_s__law_told_3, ev_s__law_told_2, ev_s__law_told_1]
      refine ⟨x, 1, .lst [.int 0, .int 1], [.int 0, .int 1], rfl, gx, rfl, fun z hz => ?_, by omega, by omega, by simp, .inl ⟨hx, ?_⟩⟩
      · simp only [List.mem_cons, List.not_mem_nil, or_false] at hz
        rcases hz with rfl | rfl <;> trivial
      · simp -implicitDefEqProofs [-List.getD_eq_getElem?_getD, eN, h__law_told_5]
        exact drp_self h
    · simp -implicitDefEqProofs [-List.getD_eq_getElem?_getD, m__law_told, t__law_told, ev_s__law_told_6, ev_s__law_told_4, ev_s__law_told_3, ev_s__law_told_2, ev_s__law_told_1]
      refine ⟨x, 1, 1, rfl, gx, by omega, by omega, by omega, by omega, by omega, .inl ⟨hx, ?_⟩⟩
      simp -implicitDefEqProofs [-List.getD_eq_getElem?_getD, eN, h__law_told_5]
      exact drp_self h
  · simp -implicitDefEqProofs [-List.getD_eq_getElem?_getD, m__law_told, t__law_told, ev_s__law_told_6, ev_s__law_told_4]
    refine ⟨.int i, y, rfl, gx, gy, fy, .inr ⟨i, rfl, hi, .inl ⟨hb, ?_⟩⟩⟩
    simp -implicitDefEqProofs [-List.getD_eq_getElem?_getD, eL, h__law_told_5]
    exact drp_self h
  · rcases hw with rfl | rfl
    · simp -implicitDefEqProofs [-List.getD_eq_getElem?_getD, m__law_told, t__law_told, ev_s__law_told_6, ev_s__law_told_4, ev_s__law_told_3, libI]
      refine ⟨p, m, x, rfl, gx, .inl ⟨hx, ?_⟩⟩
      simp -implicitDefEqProofs [-List.getD_eq_getElem?_getD, eN, h__law_told_5]
      exact drp_self h
    · simp -implicitDefEqProofs [-List.getD_eq_getElem?_getD, m__law_told, t__law_told, ev_s__law_told_6, ev_s__law_told_4, ev_s__law_told_3, ev_s__law_told_2, libI]
      refine ⟨p, m, x, y, rfl, B, gx, gy.down, .inl ⟨hx, ?_⟩⟩
      simp -implicitDefEqProofs [-List.getD_eq_getElem?_getD, eN, h__law_told_5]
      exact drp_self h
  · simp -implicitDefEqProofs [-List.getD_eq_getElem?_getD, m__law_told, t__law_told, ev_s__law_told_6, ev_s__law_told_4, ev_s__law_told_3, ev_s__law_told_2, libI]
    refine ⟨p, m, .int i, y, rfl, B, trivial, gy.down, .inr ⟨i, rfl, i0, i1, .inl ⟨hb, ?_⟩⟩⟩
    simp -implicitDefEqProofs [-List.getD_eq_getElem?_getD, eL, h__law_told_5]
    exact drp_self h
end K07

set_option maxHeartbeats 1000000
local macro_rules | `(tactic| walk_at "om") => `(tactic| repeat first | refine And.intro (by omega) ?_ | refine And.intro (.inl (.inl ⟨by omega, by omega⟩)) ?_ | refine And.intro (.inl (.inr ⟨by omega, by omega⟩)) ?_)
namespace K07
open PySem DL L2
theorem fl_of {p : Int} (h : p ∈ FL) : 2 ≤ p ∧ p ≤ 31 := by simp [-List.getD_eq_getElem?_getD, FL] at h; omega
theorem ok__law_bad_book : Sp2 p__law_bad_book m__law_bad_book := by
  rintro us S Q E ⟨n, c, row, p, rfl, hS, hc, hp, l1, l2, q⟩
  have hpp := fl_of hp
  simp -implicitDefEqProofs [-List.getD_eq_getElem?_getD, m__law_bad_book, t__law_bad_book, rowD, hS, hc]
  walk_at "om"
  intro at_ c1 h1 a0 a1
  simp -implicitDefEqProofs [-List.getD_eq_getElem?_getD, put_same, h1]
  intro u c2 h2 u0 u1
  refine opt_any u0 (by simp; omega) fun letter hlet => ?_
  have hl1 : plcB p letter = false ∧ Bt 20 2 letter ∧ pln 2 letter = true := by
    simp only [List.mem_cons, List.not_mem_nil, or_false] at hlet
    rcases hlet with rfl | rfl | rfl | rfl | rfl | rfl | rfl
    · exact ⟨by simp [plcB], .int _ _, rfl⟩
    · exact ⟨by simp [plcB], .int _ _, rfl⟩
    · exact ⟨rfl, .bl _ _, rfl⟩
    · exact ⟨rfl, .non _, rfl⟩
    · exact ⟨rfl, .str _ _, by decide +kernel⟩
    · exact ⟨rfl, .tup (fun x hx => by rw [List.mem_singleton.mp hx]; exact .int _ _) (by simp), rfl⟩
    · exact ⟨by simp [plcB]; omega, .int _ _, rfl⟩
  obtain ⟨hl1, hl2, hl3⟩ := hl1
  clear hlet
  obtain ⟨at_, rfl⟩ : ∃ k : Nat, at_ = k := ⟨at_.toNat, by omega⟩
  simp -implicitDefEqProofs [-List.getD_eq_getElem?_getD, cut_to (show (0 : Int) ≤ at_ by omega), cut_from (show (0 : Int) ≤ (at_ : Int) + 1 by omega), cut_from (show (0 : Int) ≤ 1 by omega), put_put]
  walk_at "om"
  intro v c3 h3 v0 v1
  refine opt_any v0 (by simp; omega) fun d hd => ?_
  simp -implicitDefEqProofs [-List.getD_eq_getElem?_getD]
  generalize hZ : (row.map D.int).take at_ ++ letter :: (row.map D.int).drop (at_ + 1) = Z at hd
  have zl : Z.length ≤ 20 := by rw [← hZ]; simp; omega
  have zm : ∀ x ∈ Z, Bt 20 2 x ∧ pln 2 x = true := fun x hx => by
    rw [← hZ] at hx
    rcases List.mem_append.mp hx with hx | hx
    · obtain ⟨i, _, rfl⟩ := List.mem_map.mp (List.mem_of_mem_take hx)
      exact ⟨.int _ _, rfl⟩
    · rcases List.mem_cons.mp hx with rfl | hx
      · exact ⟨hl2, hl3⟩
      · obtain ⟨i, _, rfl⟩ := List.mem_map.mp (List.mem_of_mem_drop hx)
        exact ⟨.int _ _, rfl⟩
  have zb : Z.all (plcB p) = false := by
    rw [← hZ, List.all_append, List.all_cons, hl1]
    simp
  have rowb : ∀ r : List Int, r.length ≤ 20 → Bt 20 3 (.tup (r.map .int)) := fun r hr => .tup (fun x hx => by obtain ⟨i, _, rfl⟩ := List.mem_map.mp hx; exact .int _ _) (by simpa using hr)
  have rowp : ∀ r : List Int, pln 3 (.tup (r.map .int)) = true := fun r => plnL_ints (n := 2) (l := r)
  refine drp_self (q d c3 h3 ?_ ?_ ?_)
  all_goals simp only [List.mem_cons, List.not_mem_nil, or_false] at hd
  · rcases hd with rfl | rfl | rfl | rfl | rfl | rfl | rfl | rfl | rfl
    · exact .tup (fun x hx => (zm x hx).1) zl
    · exact .lst (fun x hx => (zm x hx).1) zl
    · have := rowb (row ++ [0]) (by simp; omega)
      simpa using this
    · have := rowb row.tail (by simp; omega)
      simpa using this
    · exact .non _
    · exact .int _ _
    · exact .str _ _
    · exact .lst (fun x hx => by cases hx) (by simp)
    · refine .tup (fun x hx => ?_) (by simp)
      rw [List.mem_singleton.mp hx]
      exact .tup (fun x hx => by obtain ⟨i, _, rfl⟩ := List.mem_map.mp hx; exact .int _ _) (by simp; omega)
  · rcases hd with rfl | rfl | rfl | rfl | rfl | rfl | rfl | rfl | rfl
    · exact plnL_of fun x hx => (zm x hx).2
    · exact plnL_of fun x hx => (zm x hx).2
    · have := rowp (row ++ [0])
      simpa using this
    · have := rowp row.tail
      simpa using this
    · rfl
    · rfl
    · decide +kernel
    · rfl
    · exact plnL_of fun x hx => by rw [List.mem_singleton.mp hx]; exact plnL_ints
  · rcases hd with rfl | rfl | rfl | rfl | rfl | rfl | rfl | rfl | rfl
    · exact .inl fun S => zb
    · exact .inl fun S => zb
    · exact .inr (.inl (by simp [rowD]))
    · exact .inr (.inr (.inl (by simp [rowD])))
    · exact .inl fun S => rfl
    · exact .inl fun S => rfl
    · exact .inl fun S => rfl
    · exact .inr (.inr (.inr rfl))
    · exact .inl fun S => by simp [letB, plcB]
end K07

set_option maxHeartbeats 1000000
local macro_rules | `(tactic| walk_at "om") => `(tactic| repeat first | refine And.intro (by omega) ?_ | refine And.intro (.inl (.inl ⟨by omega, by omega⟩)) ?_ | refine And.intro (.inl (.inr ⟨by omega, by omega⟩)) ?_)
namespace K07
open PySem DL L2
theorem boks_no {S : Sto} {p : Int} {d b x : D} {bs : List D} (e : asSq S d = some (b :: bs)) (hx : x ∈ b :: bs) (h : bokB S p (sqs S b).length x = false) : boksB S p d = false := by
  unfold boksB
  rw [e]
  show (b :: bs).all _ = false
  rw [List.all_eq_false]
  exact ⟨x, hx, by rw [h]; decide⟩
/-- a book that spoils its books -/
def Spoil (p : Int) (m : Mat) (bd : D) : Prop := (∀ S, letB S p bd = false) ∨ (∀ S, (sqs S bd).length = 0) ∨ (2 ≤ m.length ∧ ∀ S, (sqs S bd).length ≠ (m.getD 0 []).length)
theorem spoil_no {S : Sto} {p : Int} {m : Mat} {bd d : D} {at_ : Nat} (B : Bk p m) (h : Spoil p m bd) (ha : at_ < m.length) (e : asSq S d = some ((m.map rowD).take at_ ++ bd :: (m.map rowD).drop (at_ + 1))) : boksB S p d = false := by
  obtain ⟨b, bs, hbs⟩ : ∃ b bs, (m.map rowD).take at_ ++ bd :: (m.map rowD).drop (at_ + 1) = b :: bs := by
    cases hL : (m.map rowD).take at_ with
    | nil => exact ⟨_, _, rfl⟩
    | cons x l => exact ⟨_, _, rfl⟩
  have hmem : bd ∈ b :: bs := by rw [← hbs]; simp
  rw [hbs] at e
  have hrow : ∀ r ∈ m, (sqs S (rowD r)).length = (m.getD 0 []).length := fun r hr => by
    have := (B.wid r hr).1
    show (r.map D.int).length = _
    rw [List.length_map]; omega
  rcases h with h | h | ⟨h2, h⟩
  · exact boks_no e hmem (by unfold bokB; rw [h S]; rfl)
  · exact boks_no e hmem (by unfold bokB; rw [h S]; simp)
  · by_cases z : at_ = 0
    · subst z
      have e1 : b = bd ∧ bs = (m.map rowD).drop 1 := by simpa using hbs.symm
      obtain ⟨rfl, rfl⟩ := e1
      have hm1 : 1 < m.length := by omega
      have hin : rowD (m.getD 1 []) ∈ (m.map rowD).drop 1 := by
        rw [← List.map_drop]
        refine List.mem_map_of_mem ?_
        rw [getD_at hm1]
        exact List.mem_drop_iff_getElem.mpr ⟨0, by omega, rfl⟩
      refine boks_no e (List.mem_cons_of_mem _ hin) ?_
      unfold bokB
      rw [hrow _ (getD_mem hm1), decide_eq_false (show ¬ (m.getD 0 []).length = (sqs S b).length from fun y => h S y.symm)]
      simp
    · have e1 : b = rowD (m.getD 0 []) := by
        have hh := congrArg List.head? hbs
        rw [List.head?_append, List.head?_take, if_neg z] at hh
        have hm := B.pos
        rw [List.head?_map, getD_at hm] at *
        cases m with
        | nil => simp at hm
        | cons r m => simpa using hh.symm
      refine boks_no e hmem ?_
      unfold bokB
      rw [e1, hrow _ (getD_mem B.pos), decide_eq_false (h S)]
      simp
end K07

set_option maxHeartbeats 1000000
local macro_rules | `(tactic| walk_at "om") => `(tactic| repeat first | refine And.intro (by omega) ?_ | refine And.intro (.inl (.inl ⟨by omega, by omega⟩)) ?_ | refine And.intro (.inl (.inr ⟨by omega, by omega⟩)) ?_)
namespace K07
open PySem DL L2
theorem ok__law_bad_books : Sp2 p__law_bad_books m__law_bad_books := by
  rintro us S Q E ⟨n, c, m, p, rfl, hS, hc, B, q⟩
  have few := B.few
  have pos := B.pos
  simp -implicitDefEqProofs [-List.getD_eq_getElem?_getD, m__law_bad_books, t__law_bad_books, matD, hS, hc]
  intro kind c1 h1 k0 k1
  simp -implicitDefEqProofs [-List.getD_eq_getElem?_getD, ev_s__law_bad_books_1]
  refine iff_dec (fun z => ?_) fun z => ?_
  · simp -implicitDefEqProofs [-List.getD_eq_getElem?_getD, put_same, h1]
    intro v c2 h2 v0 v1
    refine opt_any v0 (by simp; omega) fun d hd => ?_
    simp -implicitDefEqProofs [-List.getD_eq_getElem?_getD, put_put]
    refine drp_self (q d c2 h2 ?_ ?_ ?_)
    all_goals simp only [List.mem_cons, List.not_mem_nil, or_false] at hd
    · rcases hd with rfl | rfl | rfl | rfl | rfl | rfl | rfl | rfl | rfl
      · exact .tup (fun x hx => by cases hx) (by simp)
      · exact .lst (fun x hx => by cases hx) (by simp)
      · exact .lst (fun x hx => by rw [List.mem_singleton.mp hx]; exact .lst (fun x hx => by cases hx) (by simp)) (by simp)
      · refine .tup (fun x hx => ?_) (by simp)
        have : x = .tup [] := by simpa using hx
        rw [this]
        exact .tup (fun x hx => by cases hx) (by simp)
      · exact .non _
      · exact .int _ _
      · exact .str _ _
      · exact .tup (fun x hx => by rw [List.mem_singleton.mp hx]; exact .int _ _) (by simp)
      · exact .bl _ _
    · rcases hd with rfl | rfl | rfl | rfl | rfl | rfl | rfl | rfl | rfl
      all_goals first | rfl | decide +kernel
    · rcases hd with rfl | rfl | rfl | rfl | rfl | rfl | rfl | rfl | rfl
      all_goals intro S; first | rfl | simp [boksB, bokB, letB, sqs]
  simp -implicitDefEqProofs [-List.getD_eq_getElem?_getD, put_same, h1]
  walk_at "om"
  intro v c2 h2 v0 v1
  obtain ⟨v, rfl⟩ : ∃ k : Nat, v = k := ⟨v.toNat, by omega⟩
  have hv : v < m.length := by omega
  have e := at_mapN (f := rowD) (l := m) (z := []) (k := v) hv
  have hrow := B.wid _ (getD_mem (z := []) hv)
  have hl1 := B.l1
  have hl2 := B.l3
  have hl3 : (m.getD 0 []).length ≤ 16 := B.l3
  simp -implicitDefEqProofs [-List.getD_eq_getElem?_getD, e]
  refine ⟨n, c2, m.getD v [], p, rfl, put_same, h2, B.pf, by omega, by omega, fun d c3 h3 b1 b2 b3 => ?_⟩
  simp -implicitDefEqProofs [-List.getD_eq_getElem?_getD, put_put]
  have e0 : atI (m.map rowD) 0 = some (rowD (m.getD 0 [])) := at_mapN (k := 0) pos
  have hm1 : m.length = 1 → m.getD v [] = m.getD 0 [] := fun h => by rw [show v = 0 by omega]
  have pr : ∀ r : List Int, pln 3 (rowD r) = true := fun r => plnL_ints (n := 2) (l := r)
  refine st_step s__law_bad_books_2 (P := fun δ' S' => S' = put S n c3 ∧ ∃ bd, δ' = [some (.m n), some (.tup (m.map rowD)), some (.int p), some (.int kind), some (.int v), some bd, none] ∧ Bt 20 3 bd ∧ pln 3 bd = true ∧ (bd = .tup [] ∨ (badK p (m.getD v []) bd ∧ (m.length = 1 → bd ≠ rowD (m.getD 0 [] ++ [0]))))) ?_ ?_
  · intro B1 _ _ _ _ hP
    simp -implicitDefEqProofs [-List.getD_eq_getElem?_getD, ev_s__law_bad_books_2]
    have hrow0 : (m.getD 0 []).length ≤ 16 := by have := (B.wid _ (getD_mem (z := []) pos)).1; have := B.l3; omega
    refine and_of (fun z => ?_) fun z => ?_
    · have z1 : m.length = 1 := by simp at z; omega
      simp -implicitDefEqProofs [-List.getD_eq_getElem?_getD, e0, rowD]
      walk_at "om"
      have ee : D.tup ((m.getD 0 []).map D.int ++ [D.int 0]) = rowD (m.getD 0 [] ++ [0]) := by simp [rowD]
      rw [ee]
      by_cases y : d = rowD (m.getD 0 [] ++ [0])
      · subst y
        rw [eq_self (pr _) (by omega)]
        simp -implicitDefEqProofs [-List.getD_eq_getElem?_getD]
        exact hP _ _ ⟨rfl, _, rfl, .tup (fun x hx => by cases hx) (by simp), rfl, .inl rfl⟩
      · rw [eq_pln b2 (pr (m.getD 0 [] ++ [0])) (by omega) (by omega)]
        cases PyData.eqv (pyOf d) (pyOf (rowD (m.getD 0 [] ++ [0]))) with
        | true =>
          simp -implicitDefEqProofs [-List.getD_eq_getElem?_getD]
          exact hP _ _ ⟨rfl, _, rfl, .tup (fun x hx => by cases hx) (by simp), rfl, .inl rfl⟩
        | false =>
          simp -implicitDefEqProofs [-List.getD_eq_getElem?_getD]
          exact hP _ _ ⟨rfl, _, rfl, b1, b2, .inr ⟨b3, fun _ => y⟩⟩
    · have z1 : m.length ≠ 1 := fun y => by rw [y] at z; simp at z
      simp -implicitDefEqProofs [-List.getD_eq_getElem?_getD]
      exact hP _ _ ⟨rfl, _, rfl, b1, b2, .inr ⟨b3, fun y => absurd y z1⟩⟩
  rintro _ _ ⟨rfl, d2, rfl, f1, f2, f3⟩
  simp -implicitDefEqProofs [-List.getD_eq_getElem?_getD]
  have hrow0 : (m.getD 0 []).length ≤ 16 := by have := (B.wid _ (getD_mem (z := []) pos)).1; have := B.l3; omega
  refine st_step s__law_bad_books_3 (P := fun δ' S' => S' = put S n c3 ∧ ∃ bd, δ' = [some (.m n), some (.tup (m.map rowD)), some (.int p), some (.int kind), some (.int v), some bd, none] ∧ Bt 20 3 bd ∧ pln 3 bd = true ∧ (bd = .tup [] ∨ (badK p (m.getD v []) bd ∧ (m.length = 1 → bd ≠ rowD (m.getD 0 [] ++ [0]) ∧ bd ≠ rowD (m.getD 0 []).tail)))) ?_ ?_
  · intro B1 _ _ _ _ hP
    simp -implicitDefEqProofs [-List.getD_eq_getElem?_getD, ev_s__law_bad_books_3]
    refine and_of (fun z => ?_) fun z => ?_
    · have z1 : m.length = 1 := by simp at z; omega
      simp -implicitDefEqProofs [-List.getD_eq_getElem?_getD, e0, rowD, cut_from (show (0 : Int) ≤ 1 by omega)]
      have ee : D.tup ((m.getD 0 []).map D.int).tail = rowD (m.getD 0 []).tail := by simp [rowD]
      rw [ee]
      by_cases y : d2 = rowD (m.getD 0 []).tail
      · subst y
        rw [eq_self (pr _) (by omega)]
        simp -implicitDefEqProofs [-List.getD_eq_getElem?_getD]
        exact hP _ _ ⟨rfl, _, rfl, .tup (fun x hx => by cases hx) (by simp), rfl, .inl rfl⟩
      · rw [eq_pln f2 (pr (m.getD 0 []).tail) (by omega) (by omega)]
        cases PyData.eqv (pyOf d2) (pyOf (rowD (m.getD 0 []).tail)) with
        | true =>
          simp -implicitDefEqProofs [-List.getD_eq_getElem?_getD]
          exact hP _ _ ⟨rfl, _, rfl, .tup (fun x hx => by cases hx) (by simp), rfl, .inl rfl⟩
        | false =>
          simp -implicitDefEqProofs [-List.getD_eq_getElem?_getD]
          exact hP _ _ ⟨rfl, _, rfl, f1, f2, f3.imp id fun w => ⟨w.1, fun h => ⟨w.2 h, y⟩⟩⟩
    · have z1 : m.length ≠ 1 := fun y => by rw [y] at z; simp at z
      simp -implicitDefEqProofs [-List.getD_eq_getElem?_getD]
      exact hP _ _ ⟨rfl, _, rfl, f1, f2, f3.imp id fun w => ⟨w.1, fun h => absurd h z1⟩⟩
  rintro _ _ ⟨rfl, bd, rfl, g1, g2, g3⟩
  have sp : Spoil p m bd := by
    rcases g3 with rfl | ⟨w, g3⟩
    · exact .inr (.inl fun S => rfl)
    · rcases w with w | rfl | rfl | rfl
      · exact .inl w
      · by_cases z1 : m.length = 1
        · exact absurd (by rw [hm1 z1]) (g3 z1).1
        · refine .inr (.inr ⟨by omega, fun S => ?_⟩)
          show ((m.getD v [] ++ [0]).map D.int).length ≠ _
          rw [List.length_map, List.length_append, List.length_singleton]
          have := hrow.1
          omega
      · by_cases z1 : m.length = 1
        · exact absurd (by rw [hm1 z1]) (g3 z1).2
        · refine .inr (.inr ⟨by omega, fun S => ?_⟩)
          show ((m.getD v []).tail.map D.int).length ≠ _
          rw [List.length_map, List.length_tail]
          have := hrow.1
          omega
      · exact .inr (.inl fun S => rfl)
  simp -implicitDefEqProofs [-List.getD_eq_getElem?_getD, cut_to (show (0 : Int) ≤ v by omega), cut_from (show (0 : Int) ≤ (v : Int) + 1 by omega), h3]
  walk_at "om"
  intro u c4 h4 u0 u1
  refine opt_any u0 (by simp; omega) fun e2 he => ?_
  simp -implicitDefEqProofs [-List.getD_eq_getElem?_getD]
  simp only [List.mem_cons, List.not_mem_nil, or_false] at he
  generalize hZ : (m.map rowD).take v ++ bd :: (m.map rowD).drop (v + 1) = Z at he
  have zl : Z.length ≤ 20 := by rw [← hZ]; simp; omega
  have zm : ∀ x ∈ Z, Bt 20 3 x ∧ pln 3 x = true := fun x hx => by
    have hrw : ∀ r ∈ m, Bt 20 3 (rowD r) ∧ pln 3 (rowD r) = true := fun r hr => ⟨.tup (fun x hx => by obtain ⟨i, _, rfl⟩ := List.mem_map.mp hx; exact .int _ _) (by have := B.row r hr; simp; omega), pr r⟩
    rw [← hZ] at hx
    rcases List.mem_append.mp hx with hx | hx
    · obtain ⟨r, hr, rfl⟩ := List.mem_map.mp (List.mem_of_mem_take hx)
      exact hrw r hr
    · rcases List.mem_cons.mp hx with rfl | hx
      · exact ⟨g1, g2⟩
      · obtain ⟨r, hr, rfl⟩ := List.mem_map.mp (List.mem_of_mem_drop hx)
        exact hrw r hr
  have fin : ∀ S, asSq S e2 = some Z → boksB S p e2 = false := fun S e => spoil_no B sp hv (by rw [hZ]; exact e)
  refine drp_self (q e2 c4 h4 ?_ ?_ ?_)
  · rcases he with rfl | rfl
    · exact .lst (fun x hx => (zm x hx).1) zl
    · exact .tup (fun x hx => (zm x hx).1) zl
  · rcases he with rfl | rfl
    · exact plnL_of fun x hx => (zm x hx).2
    · exact plnL_of fun x hx => (zm x hx).2
  · rcases he with rfl | rfl
    · exact fun S => fin S rfl
    · exact fun S => fin S rfl
end K07

set_option maxHeartbeats 1000000
local macro_rules | `(tactic| walk_at "om") => `(tactic| repeat first | refine And.intro (by omega) ?_ | refine And.intro (.inl (.inl ⟨by omega, by omega⟩)) ?_ | refine And.intro (.inl (.inr ⟨by omega, by omega⟩)) ?_)
namespace K07
open PySem DL L2
def dgs (p : Nat) : Nat → Nat → List Int
  | 0, _ => []
  | n + 1, a => ((a % p : Nat) : Int) :: dgs p n (a / p)
theorem flat_at {A B : Type} {f : A → List B} {q : Nat} (hq : 0 < q) : ∀ {l : List A} {i : Nat}, (∀ a ∈ l, (f a).length = q) → (l.flatMap f)[i]? = (l[i / q]?).bind fun a => (f a)[i % q]?
  | [], i, _ => by simp
  | a :: l, i, h => by
    rw [List.flatMap_cons]
    have ha := h a (List.mem_cons_self ..)
    by_cases z : i < q
    · rw [List.getElem?_append_left (by omega), Nat.div_eq_of_lt z, Nat.mod_eq_of_lt z]
      rfl
    · rw [List.getElem?_append_right (by omega), ha, flat_at hq fun b hb => h b (List.mem_cons_of_mem _ hb)]
      have e1 : i / q = (i - q) / q + 1 := by rw [Nat.div_eq_sub_div hq (by omega)]
      have e2 : i % q = (i - q) % q := Nat.mod_eq_sub_mod (by omega)
      rw [e1, e2]
      rfl
theorem allR_at {p : Nat} (hp : 0 < p) : ∀ {n i : Nat}, i < p ^ n → (allR p n)[i]? = some (dgs p n i).reverse
  | 0, i, h => by
    have : i = 0 := by simpa using h
    subst this
    rfl
  | n + 1, i, h => by
    have h2 : i / p < p ^ n := by
      rw [Nat.div_lt_iff_lt_mul hp]
      rwa [Nat.pow_succ] at h
    rw [allR, flat_at (q := p) hp fun a _ => by simp, allR_at hp h2]
    have hm : i % p < p := Nat.mod_lt _ hp
    rw [Option.bind_some, List.getElem?_map, List.getElem?_range hm]
    show some _ = some _
    rw [dgs, List.reverse_cons]
theorem dgs_len {p : Nat} : ∀ {n i : Nat}, (dgs p n i).length = n
  | 0, _ => rfl
  | n + 1, i => by rw [dgs, List.length_cons, dgs_len]
theorem ok__law_every : Sp2 p__law_every m__law_every := by
  rintro us S Q E ⟨n, c, rfl, hS, hc, q⟩
  simp -implicitDefEqProofs [-List.getD_eq_getElem?_getD, m__law_every, t__law_every, hS, hc]
  intro p c1 h1 p0 p1
  simp -implicitDefEqProofs [-List.getD_eq_getElem?_getD, put_same, h1]
  intro k c2 h2 k0 k1
  simp -implicitDefEqProofs [-List.getD_eq_getElem?_getD, put_same, h2, put_put]
  intro s c3 h3 s0 s1
  obtain ⟨p, rfl⟩ : ∃ x : Nat, p = x := ⟨p.toNat, by omega⟩
  obtain ⟨k, rfl⟩ : ∃ x : Nat, k = x := ⟨k.toNat, by omega⟩
  refine opt_any s0 (by simp; omega) fun d hd => ?_
  obtain ⟨l, rfl, l1, l3⟩ : ∃ l : Nat, d = .int l ∧ 1 ≤ l ∧ l ≤ 3 := by
    simp only [List.mem_cons, List.not_mem_nil, or_false] at hd
    rcases hd with rfl | rfl | rfl
    · exact ⟨1, rfl, by omega, by omega⟩
    · exact ⟨2, rfl, by omega, by omega⟩
    · exact ⟨3, rfl, by omega, by omega⟩
  clear hd
  simp -implicitDefEqProofs [-List.getD_eq_getElem?_getD, put_put]
  obtain ⟨p, hp0, hp1, hp2⟩ : ∃ x : Nat, x = 2 + p ∧ 2 ≤ x ∧ x ≤ 3 := ⟨2 + p, rfl, by omega, by omega⟩
  obtain ⟨k, hk0, hk1, hk2⟩ : ∃ x : Nat, x = 1 + k ∧ 1 ≤ x ∧ x ≤ 3 := ⟨1 + k, rfl, by omega, by omega⟩
  rw [show (2 + _ : Int) = (p : Int) by omega, show (1 + _ : Int) = (k : Int) by omega]
  clear hp0 hk0 k0 k1 p0 p1
  have pin : (p : Int) ∈ FL := by
    rcases (show p = 2 ∨ p = 3 by omega) with rfl | rfl <;> simp [FL]
  refine st_step s__law_every_1 (P := fun δ' S' => S' = put S n c3 ∧ ∃ l : Nat, 1 ≤ l ∧ l ≤ 3 ∧ k * l ≤ 4 ∧ δ' = [some (.m n), some (.int p), some (.int k), some (.int l), none, none, none, none, none, none, none, none]) ?_ ?_
  · intro B1 _ _ _ _ hP
    simp -implicitDefEqProofs [-List.getD_eq_getElem?_getD, ev_s__law_every_1]
    walk_at "om"
    refine iff_dec (fun z => ?_) fun z => ?_
    · simp -implicitDefEqProofs [-List.getD_eq_getElem?_getD]
      exact hP _ _ ⟨rfl, 1, by omega, by omega, by omega, rfl⟩
    · simp -implicitDefEqProofs [-List.getD_eq_getElem?_getD]
      have : ((k * l : Nat) : Int) ≤ 4 := by rw [Int.natCast_mul]; omega
      exact hP _ _ ⟨rfl, l, by omega, by omega, by omega, rfl⟩
  rintro _ _ ⟨rfl, l, l1, l3, kl, rfl⟩
  generalize hT : put S n c3 = T
  simp -implicitDefEqProofs [-List.getD_eq_getElem?_getD]
  refine ⟨.int p, k, l, rfl, trivial, by omega, by omega, by omega, by omega, kl, .inr ⟨p, rfl, by omega, by omega, ?_⟩⟩
  simp -implicitDefEqProofs [-List.getD_eq_getElem?_getD]
  generalize hN : k * l = N at kl
  have hN' : (k : Int) * l = N := by rw [← hN, Int.natCast_mul]
  refine st_step s__law_every_3 (P := fun δ' S' => T = S' ∧ ∃ g, δ' = [some (.m n), some (.int p), some (.int k), some (.int l), some (.tup ((allR p N).map fun r => libI p (chunkI k l r))), some (.int (p ^ N : Nat)), g, none, none, none, none, none]) ?_ ?_
  · intro B1 _ _ _ _ hP
    simp -implicitDefEqProofs [-List.getD_eq_getElem?_getD, ev_s__law_every_3, hN']
    walk_at "om"
    refine lp_rng (fun j δ' S' => T = S' ∧ ∃ g, δ' = [some (.m n), some (.int p), some (.int k), some (.int l), some (.tup ((allR p N).map fun r => libI p (chunkI k l r))), some (.int (p ^ j : Nat)), g, none, none, none, none, none]) ?_ ?_ ?_ ⟨rfl, none, rfl⟩
    · intros; trivial
    · rintro j _ _ hj ⟨rfl, g, rfl⟩ B2 _ _ _ hn2 _
      simp -implicitDefEqProofs [-List.getD_eq_getElem?_getD, ev_b__law_every_2]
      walk_at "om"
      exact hn2 _ _ ⟨rfl, _, by simp [Nat.pow_succ]; rfl⟩
    · rintro _ _ ⟨rfl, g, rfl⟩
      exact hP _ _ ⟨rfl, g, rfl⟩
  rintro _ _ ⟨rfl, g, rfl⟩
  have hall := allR_len (p := p) (n := N)
  have hmany : p ^ N ≤ 81 := by
    have h1 : p ^ N ≤ p ^ 4 := Nat.pow_le_pow_right (by omega) kl
    rcases (show p = 2 ∨ p = 3 by omega) with rfl | rfl <;> omega
  simp -implicitDefEqProofs [-List.getD_eq_getElem?_getD, ev_s__law_every_4, hall]
  simp -implicitDefEqProofs [-List.getD_eq_getElem?_getD, ev_s__law_every_9]
  have hpc : ((p : Int) ^ N) = (p ^ N : Nat) := by rw [Int.natCast_pow]
  rw [hpc]
  generalize hM : p ^ N = M at hall hmany ⊢
  walk_at "om"
  refine lp_rng (fun j δ' S' => Sub T S' ∧ ∃ g g1 g2 g3 g4, δ' = [some (.m n), some (.int p), some (.int k), some (.int l), some (.tup ((allR p N).map fun r => libI p (chunkI k l r))), some (.int M), g, g1, g2, g3, g4, none]) ?_ ?_ ?_ ⟨.refl _, g, none, none, none, none, rfl⟩
  · intros; trivial
  · rintro j _ U hj ⟨hU, g, g1, g2, g3, g4, rfl⟩ B2 _ _ _ hn2 _
    have hj' : j < M := by simpa using hj
    simp -implicitDefEqProofs [-List.getD_eq_getElem?_getD, ev_b__law_every_8]
    intro e he
    simp -implicitDefEqProofs [-List.getD_eq_getElem?_getD]
    refine st_step s__law_every_6 (P := fun δ' S' => S' = put U e (.lst ((dgs p N j).map .int)) ∧ ∃ g g2, δ' = [some (.m n), some (.int p), some (.int k), some (.int l), some (.tup ((allR p N).map fun r => libI p (chunkI k l r))), some (.int M), g, some (.int j), g2, some (.m e), g4, none]) ?_ ?_
    · intro B3 _ _ _ _ hP
      simp -implicitDefEqProofs [-List.getD_eq_getElem?_getD, ev_s__law_every_6, hN']
      walk_at "om"
      refine lp_rng (fun i δ' S' => ∃ (ds : List Int) (r : Nat), ds ++ dgs p (N - i) r = dgs p N j ∧ S' = put U e (.lst (ds.map .int)) ∧ ∃ g, δ' = [some (.m n), some (.int p), some (.int k), some (.int l), some (.tup ((allR p N).map fun r => libI p (chunkI k l r))), some (.int M), g, some (.int j), some (.int r), some (.m e), g4, none]) ?_ ?_ ?_ ⟨[], j, rfl, rfl, g, rfl⟩
      · intros; trivial
      · rintro i _ _ hi ⟨ds, r, hd, rfl, g, rfl⟩ B4 _ _ _ hn4 _
        have hdl := congrArg List.length hd
        simp [dgs_len] at hdl
        have hi' : i < N := by simpa using hi
        simp -implicitDefEqProofs [-List.getD_eq_getElem?_getD, ev_b__law_every_5]
        rw [mod_ev (by omega)]
        simp -implicitDefEqProofs [-List.getD_eq_getElem?_getD]
        walk_at "om"
        rw [fd_ev (by omega)]
        refine ⟨log_le (by omega) (by omega), ?_⟩
        refine hn4 _ _ ⟨ds ++ [((r % p : Nat) : Int)], r / p, ?_, ?_, some (.int i), ?_⟩
        · rw [← hd, show N - i = (N - (i + 1)) + 1 by omega, dgs]
          simp
        · simp
        · simp
      · rintro _ _ ⟨ds, r, hd, rfl, g, rfl⟩
        rw [show N - N = 0 by omega, dgs, List.append_nil] at hd
        subst hd
        exact hP _ _ ⟨rfl, _, _, rfl⟩
    rintro _ _ ⟨rfl, g, g2, rfl⟩
    have hal := allR_at (p := p) (by omega) (hM ▸ hj' : j < p ^ N)
    have hrl : (dgs p N j).reverse.length = k * l := by rw [List.length_reverse, dgs_len, hN]
    have hmem := allR_mem (List.mem_of_getElem? hal)
    simp -implicitDefEqProofs [-List.getD_eq_getElem?_getD, rev_M put_same]
    have hcd : (dgs p N j).length ≤ 16777216 := by rw [dgs_len]; omega
    rw [← List.map_reverse]
    refine ⟨hcd, ?_⟩
    generalize (dgs p N j).reverse = r at hal hrl hmem ⊢
    walk_at "om"
    rw [rngD_map]
    refine lc_map (fun (j : Nat) => D.int ((0 : Int) + (j : Int))) (fun j => rowD ((r.drop (j * l)).take l)) _ (by rw [List.length_range]; exact sz (by omega)) trivial (fun i hi R N q => ?_) ?_
    · simp -implicitDefEqProofs [-List.getD_eq_getElem?_getD]
      walk_at "om"
      rw [show (i : Int) * l = ((i * l : Nat) : Int) by push_cast; rfl, cut_mid]
      simpa [rowD, List.map_take, List.map_drop] using q
    have B := chunkI_bk (c := k) (l := l) pin hk1 (by omega) l1 (by omega) hrl hmem.2
    have em : D.tup ((List.range k).map fun j => rowD ((r.drop (j * l)).take l)) = matD (chunkI k l r) := by
      unfold matD chunkI
      rw [List.map_map]
      rfl
    have et : atI ((allR p N).map fun r => libI p (chunkI k l r)) (j : Int) = some (libI p (chunkI k l r)) := at_nat (by rw [List.getElem?_map, hal]; rfl)
    simp -implicitDefEqProofs [-List.getD_eq_getElem?_getD, em]
    simp -implicitDefEqProofs [-List.getD_eq_getElem?_getD, ev_s__law_every_7, et]
    refine ⟨p, chunkI k l r, rfl, B, ?_⟩
    simp
    exact hn2 _ _ ⟨hU.new he.no, _, _, _, _, _, rfl⟩
  · rintro _ U ⟨hU, g, g1, g2, g3, g4, rfl⟩
    simp
    refine drp_of (q _ h3) ?_
    rw [hT]
    exact hU
end K07

set_option maxHeartbeats 1000000
local macro_rules | `(tactic| walk_at "om") => `(tactic| repeat first | refine And.intro (by omega) ?_ | refine And.intro (.inl (.inl ⟨by omega, by omega⟩)) ?_ | refine And.intro (.inl (.inr ⟨by omega, by omega⟩)) ?_)
namespace K07
open PySem DL L2
theorem chunkI_flat {l : Nat} : ∀ {m : Mat}, (∀ r ∈ m, r.length = l) → chunkI m.length l m.flatten = m
  | [], _ => rfl
  | r :: m, h => by
    have h1 := h r (List.mem_cons_self ..)
    have ih := chunkI_flat (l := l) (m := m) fun x hx => h x (List.mem_cons_of_mem _ hx)
    unfold chunkI at ih ⊢
    rw [List.length_cons, List.range_succ_eq_map, List.map_cons, List.map_map, List.flatten_cons]
    rw [show ((r ++ m.flatten).drop (0 * l)).take l = r by simp [← h1]]
    refine congrArg (r :: ·) ((List.map_congr_left fun k _ => ?_).trans ih)
    show ((r ++ m.flatten).drop ((k + 1) * l)).take l = _
    rw [Nat.succ_mul, Nat.add_comm, ← h1, List.drop_append, List.drop_eq_nil_of_le (by omega)]
    simp
theorem flat_length {l : Nat} : ∀ {m : Mat}, (∀ r ∈ m, r.length = l) → m.flatten.length = m.length * l
  | [], _ => by simp
  | r :: m, h => by
    rw [List.flatten_cons, List.length_append, flat_length fun x hx => h x (List.mem_cons_of_mem _ hx), h r (List.mem_cons_self ..), List.length_cons, Nat.succ_mul]
    omega
theorem boks_lst {S : Sto} {p : Int} {m : Mat} (B : Bk p m) : boksB S p (.lst (m.map rowD)) = true ∧ matOf S (.lst (m.map rowD)) = m := by
  have hh : ∀ j, j < m.length → ∃ x, (m.map rowD)[j]? = some x ∧ asSq S x = some ((m.getD j []).map .int) := fun j hj => ⟨rowD (m.getD j []), by rw [List.getElem?_map, List.getElem?_eq_getElem hj, DL.getD_at hj]; rfl, rfl⟩
  exact ⟨boks_of (ds := m.map rowD) B rfl (by simp) hh, mat_of (ds := m.map rowD) rfl (by simp) hh⟩
theorem letters_of {S : Sto} {Q : QD} {E : QE} {p : Int} {c l : Nat} {r : List Int} (hp : p ∈ FL) (hl : 1 ≤ l) (hl2 : l ≤ 16) (hr : r.length = c * l) (hc : 1 ≤ c) (hc2 : c ≤ 16) (hw : ∀ x ∈ r, 0 ≤ x ∧ x < p) (h : Q (libI p (chunkI c l r)) S) : p_Library_of_letters [.cv (.ref cLibrary), .int p, .int l, .lst (r.map .int)] S Q E := by
  have : c * l ≤ 16 * 16 := Nat.mul_le_mul hc2 hl2
  refine ⟨.int p, l, .lst (r.map .int), r.map .int, rfl, trivial, rfl, fun x hx => by obtain ⟨i, _, rfl⟩ := List.mem_map.mp hx; exact trivial, by omega, by omega, by rw [List.length_map]; omega, .inr ⟨p, rfl, hp, .inr ?_⟩⟩
  rw [show (chunk (l : Int).toNat (r.map D.int)).map D.tup = (chunkI c l r).map rowD by rw [Int.toNat_natCast, chunk_int hl hr]]
  have B := chunkI_bk hp hc hc2 hl hl2 hr hw
  exact ⟨(boks_lst B).1, by rw [(boks_lst B).2]; exact h⟩
theorem bt_flat {N r : Nat} {d : D} {S : Sto} (h : Bt N r d) (hN : N ≤ 300) : (matOf S d).flatten.length ≤ 100000 := by
  have hsq : ∀ {r : Nat} {d : D}, Bt N r d → (sqs S d).length ≤ N ∧ ∀ x ∈ sqs S d, ∃ r', Bt N r' x := by
    intro r d h
    cases h with
    | tup h l => exact ⟨l, fun x hx => ⟨_, h x hx⟩⟩
    | lst h l => exact ⟨l, fun x hx => ⟨_, h x hx⟩⟩
    | _ => exact ⟨Nat.zero_le _, fun x hx => by cases hx⟩
  obtain ⟨h1, h2⟩ := hsq h
  have : ∀ l : List D, (∀ x ∈ l, ∃ r', Bt N r' x) → (l.map (rowOf S)).flatten.length ≤ l.length * N := by
    intro l
    induction l with
    | nil => intro _; simp
    | cons x l ih =>
      intro hl
      obtain ⟨r', hx⟩ := hl x (List.mem_cons_self ..)
      have := ih fun y hy => hl y (List.mem_cons_of_mem _ hy)
      have h3 := (hsq hx).1
      rw [List.map_cons, List.flatten_cons, List.length_append, List.length_cons, Nat.succ_mul, rowOf, List.length_map]
      omega
  have := this _ h2
  have h4 : (sqs S d).length * N ≤ N * N := Nat.mul_le_mul_right N h1
  have h5 : N * N ≤ 300 * 300 := Nat.mul_le_mul hN hN
  unfold matOf
  omega
theorem pln_up : ∀ {n m : Nat} {d : D}, pln n d = true → n ≤ m → pln m d = true
  | _, _, .non, _, _ => rfl
  | _, _, .bl _, _, _ => rfl
  | _, _, .int _, _, _ => rfl
  | 0, 0, .str _, h, _ => h
  | 0, _ + 1, .str _, h, _ => h
  | _ + 1, _ + 1, .str _, h, _ => h
  | n + 1, m + 1, .lst xs, h, hm => plnL_of fun x hx => pln_up (plnL_mem h x hx) (by omega)
  | n + 1, m + 1, .tup xs, h, hm => plnL_of fun x hx => pln_up (plnL_mem h x hx) (by omega)
  | n + 1, m + 1, .rol xs, h, hm => plnL_of fun x hx => pln_up (plnL_mem h x hx) (by omega)
where
  plnL_mem {n : Nat} : ∀ {xs : List D}, plnL n xs = true → ∀ x ∈ xs, pln n x = true
  | y :: ys, h, x, hx => by
    have h' : pln n y = true ∧ plnL n ys = true := by simpa [plnL] using h
    rcases List.mem_cons.mp hx with rfl | hx
    · exact h'.1
    · exact plnL_mem h'.2 x hx
theorem eq_lib {S : Sto} {Q : QD} {E : QE} {p p' : Int} {m m' : Mat} {due : Bool} (B : Bk p m) (hd : due = (decide (p = p') && decide (m = m'))) (h : Q (.bl true) S) : p__law_equal [libI p m, libI p' m', .bl due] S Q E := ⟨p, m, _, due, rfl, .inl ⟨p', m', rfl, hd⟩, h⟩
theorem asI_lib {S : Sto} {p : Int} {m : Mat} : asI S (libI p m) = some (cLibrary, ([("p", .int p), ("books", matD m), ("book_count", .int m.length), ("book_length", .int (m.getD 0 []).length), ("letters", rowD m.flatten)] : List (Str × D))) := rfl
theorem law_true (ns : List Int) (hl : ns.length ≤ 63) (hb : ∀ z ∈ ns, Builtin.Int.intBits z ≤ 1048576) : m_law [.rol (ns.map .int)] (fun _ => none) (fun d _ => d = .bl true) fun _ _ => False := by
  try simp -implicitDefEqProofs [-List.getD_eq_getElem?_getD, m_law, t_law, hl]
  intro dr n hn
  have h0 := Hn.new (xs := dr)
  generalize Cell.lst [.lst (dr.map .int), .int 0] = c0 at h0 ⊢
  try simp -implicitDefEqProofs [-List.getD_eq_getElem?_getD]
  refine ⟨n, c0, rfl, put_same, h0, fun p c1 h1 hp => ?_⟩
  try simp -implicitDefEqProofs [-List.getD_eq_getElem?_getD, put_put, h1]
  intro count c2 h2 co0 co1
  try simp -implicitDefEqProofs [-List.getD_eq_getElem?_getD, put_put, h2]
  intro size c3 h3 si0 si1
  have pp := fl_of hp
  refine ⟨n, p, _, _, c3, rfl, put_same, h3, by omega, by omega, by omega, by omega, by omega, fun m c4 h4 hm hw => ?_⟩
  try simp -implicitDefEqProofs [-List.getD_eq_getElem?_getD, put_put]
  obtain ⟨count, rfl⟩ : ∃ k : Nat, count = k := ⟨count.toNat, by omega⟩
  obtain ⟨size, rfl⟩ : ∃ k : Nat, size = k := ⟨size.toNat, by omega⟩
  have hl0 : ∀ r ∈ m, r.length = 1 + size := fun r hr => by have := (hw r hr).1; omega
  have hm0 : (m.getD 0 []).length = 1 + size := hl0 _ (getD_mem (by omega))
  have B : Bk p m := ⟨hp, by omega, by omega, fun r hr => ⟨by have := hl0 r hr; omega, (hw r hr).2⟩, by omega, by omega⟩
  refine DL.lc_cells rowD (fun r => r.map .int) [] m (fun _ _ => trivial) (by omega) (fun r hr S' hs R N hR => ?_) fun ps S1 hl1 hs1 hc1 => ?_
  · try simp -implicitDefEqProofs [-List.getD_eq_getElem?_getD, rowD]
    intro n' hn'
    try simp -implicitDefEqProofs [-List.getD_eq_getElem?_getD]
    exact hR n' hn'
  try simp -implicitDefEqProofs [-List.getD_eq_getElem?_getD]
  intro a ha
  have hSn : S1 n = some c4 := hs1 _ _ put_same
  have hps : ∀ j, j < m.length → put S1 a (.lst (ps.map D.m)) (ps.getD j 0) = some (.lst ((m.getD j []).map .int)) := fun j hj => by
    obtain ⟨x, y⟩ := hc1 j hj
    rw [put_ne fun z => by rw [z, ha.no] at x; cases x]
    exact x
  have lib : ∀ {Q : QD} {E : QE}, Q (libI p m) (put S1 a (.lst (ps.map D.m))) → p_Library [.int p, .m a] (put S1 a (.lst (ps.map D.m))) Q E := fun h => lib_any (S := put S1 a (.lst (ps.map D.m))) (d := .m a) (ds := ps.map D.m) (m := m) (p := p) B (gd_m put_same) (by rw [asSq_m, put_same]; rfl) (by simp; omega) (fun x hx => by
      obtain ⟨k, hk, rfl⟩ := List.mem_map.mp hx
      obtain ⟨j, hj, rfl⟩ := List.mem_iff_getElem.mp hk
      have := hps j (by omega)
      rw [DL.getD_at hj] at this
      exact gd_m this) (fun j hj => ⟨.m (ps.getD j 0), DL.m_get hl1 hj, by rw [asSq_m, hps j hj]; rfl⟩) h
  try simp -implicitDefEqProofs [-List.getD_eq_getElem?_getD]
  refine lib ?_
  have e0 : atI (ps.map D.m) 0 = some (.m (ps.getD 0 0)) := at_nat (j := 0) (DL.m_get hl1 (by omega))
  try simp -implicitDefEqProofs [-List.getD_eq_getElem?_getD, e0]
  have hp0 := hps 0 (by omega)
  have hpa : ps.getD 0 0 ≠ a := fun z => by have := (hc1 0 (by omega)).1; rw [z, ha.no] at this; cases this
  have hpn : ps.getD 0 0 ≠ n := fun z => by have := (hc1 0 (by omega)).2; rw [z, put_same] at this; cases this
  have han : n ≠ a := fun z => by rw [z, ha.no] at hSn; cases hSn
  have ix0 : ixN (1 + size) 0 = some 0 := ixN_in (by omega) (by omega)
  rw [set_at hp0]
  try simp -implicitDefEqProofs [-List.getD_eq_getElem?_getD, hm0, ix0]
  rw [app_at (by rw [put_ne hpa.symm, put_same])]
  try simp -implicitDefEqProofs [-List.getD_eq_getElem?_getD]
  have hSn2 : put (put (put S1 a (.lst (ps.map D.m))) (ps.getD 0 0) (.lst (((m.getD 0 []).map D.int).set 0 (.int (p + 1))))) a (.lst (ps.map D.m ++ [D.lst [.int 0]])) n = some c4 := by
    rw [put_ne han, put_ne hpn.symm, put_ne han, hSn]
  generalize put (put (put S1 a _) _ _) a _ = S2 at hSn2 ⊢
  refine ⟨⟨_, by rw [put_ne hpa.symm, put_same]⟩, by omega, ?_⟩
  try simp -implicitDefEqProofs [-List.getD_eq_getElem?_getD, ev_s_law_1]
  refine ⟨p, m, rfl, B, ?_⟩
  try simp -implicitDefEqProofs [-List.getD_eq_getElem?_getD]
  refine lib_of B ?_
  try simp -implicitDefEqProofs [-List.getD_eq_getElem?_getD]
  refine ⟨p, m, rfl, B, ?_⟩
  try simp -implicitDefEqProofs [-List.getD_eq_getElem?_getD, hSn2, h4]
  walk_at "om"
  intro at_ c5 h5 a0 a1
  try simp -implicitDefEqProofs [-List.getD_eq_getElem?_getD]
  refine ⟨n, p, 1, _, c5, rfl, put_same, h5, by omega, by omega, by omega, by omega, by omega, fun bs c6 h6 hbl hbw => ?_⟩
  obtain ⟨new, rfl⟩ : ∃ r, bs = [r] := by
    match bs, hbl with
    | [r], _ => exact ⟨r, rfl⟩
  obtain ⟨hn1, hn2⟩ := hbw new (by simp)
  obtain ⟨at_, rfl⟩ : ∃ k : Nat, at_ = k := ⟨at_.toNat, by omega⟩
  have ea := at_mapN (f := rowD) (l := m) (z := []) (k := at_) (by omega)
  try simp -implicitDefEqProofs [-List.getD_eq_getElem?_getD, matD, put_put, cut_to (show (0 : Int) ≤ at_ by omega), cut_from (show (0 : Int) ≤ (at_ : Int) + 1 by omega)]
  walk_at "om"
  have esc : D.tup ((m.map rowD).take at_ ++ rowD new :: (m.map rowD).drop (at_ + 1)) = matD (m.set at_ new) := by
    unfold matD
    rw [← set_cut (m := m) (x := new) (by omega)]
    simp
  rw [esc]
  have B2 : Bk p (m.set at_ new) := by
    have e0 : ((m.set at_ new).getD 0 []).length = 1 + size := by
      have hmem : (m.set at_ new).getD 0 [] ∈ m.set at_ new := getD_mem (by rw [List.length_set]; omega)
      rcases List.mem_or_eq_of_mem_set hmem with h | h
      · exact hl0 _ h
      · rw [h]; omega
    refine ⟨hp, by rw [List.length_set]; omega, by rw [List.length_set]; omega, fun r hr => ?_, by omega, by omega⟩
    rw [e0]
    rcases List.mem_or_eq_of_mem_set hr with h | h
    · exact ⟨by have := hl0 r h; omega, (hw r h).2⟩
    · rw [h]; exact ⟨by omega, hn2⟩
  generalize hT : put S2 n c6 = T
  try simp -implicitDefEqProofs [-List.getD_eq_getElem?_getD, ev_s_law_2, asI_lib]
  have hm100 : m.length ≤ 4 := by omega
  refine ⟨p, m, .int at_, rfl, trivial, .inr ⟨at_, rfl, by omega, by omega, ?_⟩⟩
  try simp -implicitDefEqProofs [-List.getD_eq_getElem?_getD, ea]
  refine ⟨Ti.ints (by have := B.row _ (getD_mem (z := []) (show at_ < m.length by omega)); omega), ?_⟩
  try simp -implicitDefEqProofs [-List.getD_eq_getElem?_getD, asI_lib, rowD]
  refine ⟨p, m, .int at_, .lst (new.map .int), rfl, B, trivial, gd_seq rfl (by simp; omega) (fun x hx => by obtain ⟨i, _, rfl⟩ := List.mem_map.mp hx; exact trivial), .inr ⟨at_, rfl, by omega, by omega, .inr ⟨?_, ?_⟩⟩⟩
  · rw [let_of (r := new) rfl hn2, Bool.true_and, decide_eq_true]
    show (new.map D.int).length = _
    rw [List.length_map]; omega
  have er : rowOf T (.lst (new.map .int)) = new := by
    show (new.map D.int).map iv = new
    rw [List.map_map]
    exact List.map_id' _ 
  rw [Int.toNat_natCast, er]
  try simp -implicitDefEqProofs [-List.getD_eq_getElem?_getD]
  refine ⟨p, _, rfl, B2, ?_⟩
  try simp -implicitDefEqProofs [-List.getD_eq_getElem?_getD]
  generalize hLo : ([some (D.rol (ns.map D.int)), some (D.m n), some (D.int p), some (D.int (1 + (count : Int))), some (D.int (1 + (size : Int))), some (D.tup (m.map rowD)), some (D.m a), some (libI p m), some (D.int (at_ : Int)), some (rowD new), some (matD (m.set at_ new))] : Lo) = Lo1
  have hT' : T n = some c6 := by rw [← hT, put_same]
  clear hT hSn2 lib hps hc1 hs1 hSn
  refine st_step s_law_4 (P := fun δ' S' => T = S' ∧ ∃ g, δ' = [some (.rol (ns.map .int)), some (.m n), some (.int p), some (.int (1 + count)), some (.int (1 + size)), some (.tup (m.map rowD)), some (.m a), some (libI p m), some (.int at_), some (rowD new), some (matD (m.set at_ new)), some (.lst (m.flatten.map .int)), g, none, none, none, none, none, none, none, none]) ?_ ?_
  · intro B1 _ _ _ _ hP
    try simp -implicitDefEqProofs [-List.getD_eq_getElem?_getD, ev_s_law_4]
    refine lp_map rowD m (fun dn δ' S' => T = S' ∧ ∃ g, δ' = [some (.rol (ns.map .int)), some (.m n), some (.int p), some (.int (1 + count)), some (.int (1 + size)), some (.tup (m.map rowD)), some (.m a), some (libI p m), some (.int at_), some (rowD new), some (matD (m.set at_ new)), some (.lst (dn.flatten.map .int)), g, none, none, none, none, none, none, none, none]) ?_ ?_ ?_ ⟨rfl, none, rfl⟩
    · intros; trivial
    · rintro dn r td _ _ hx ⟨rfl, g, rfl⟩ B2 _ _ _ hn2 _
      try simp -implicitDefEqProofs [-List.getD_eq_getElem?_getD, ev_b_law_3, rowD, -List.map_flatten]
      have hfl := flat_length (l := 1 + size) (m := dn) fun r hr => hl0 r (by rw [hx]; simp [hr])
      have hrl : r.length = 1 + size := hl0 r (by rw [hx]; simp)
      have hdl : dn.length ≤ m.length := by rw [hx]; simp
      have : dn.length * (1 + size) ≤ 4 * 4 := Nat.mul_le_mul (by omega) (by omega)
      refine ⟨by rw [List.length_flatten] at hfl; omega, ?_⟩
      rw [← List.map_append]
      refine hn2 _ _ ⟨rfl, some (.tup (r.map .int)), by simp [rowD, -List.map_flatten]⟩
    · rintro _ _ ⟨rfl, g, rfl⟩
      exact hP _ _ ⟨rfl, g, rfl⟩
  rintro _ _ ⟨rfl, g, rfl⟩
  have hfl := flat_length (l := 1 + size) (m := m) hl0
  have hfl2 : m.length * (1 + size) ≤ 4 * 4 := Nat.mul_le_mul (by omega) (by omega)
  try simp -implicitDefEqProofs [-List.getD_eq_getElem?_getD, ev_s_law_5, -List.map_flatten]
  have hfw : ∀ x ∈ m.flatten, 0 ≤ x ∧ x < p := fun x hx => by
    obtain ⟨r, hr, h⟩ := List.mem_flatten.mp hx
    exact (B.wid r hr).2 x h
  rw [show (1 + (size : Int)) = ((1 + size : Nat) : Int) by push_cast; rfl]
  refine letters_of hp (by omega) (by omega) hfl B.pos B.few hfw ?_
  rw [chunkI_flat hl0]
  try simp -implicitDefEqProofs [-List.getD_eq_getElem?_getD, -List.map_flatten]
  refine ⟨p, m, rfl, B, ?_⟩
  try simp -implicitDefEqProofs [-List.getD_eq_getElem?_getD, -List.map_flatten]
  refine ⟨p, m, rfl, B, ?_⟩
  try simp -implicitDefEqProofs [-List.getD_eq_getElem?_getD, -List.map_flatten]
  try simp -implicitDefEqProofs [-List.getD_eq_getElem?_getD, ev_s_law_6, -List.map_flatten]
  refine lc_map rowD (fun r => .lst (r.map .int)) m (by rw [sizeLine_eq]; omega) trivial (fun r hr R N q => ?_) ?_
  · try simp -implicitDefEqProofs [-List.getD_eq_getElem?_getD, rowD]
    exact q
  try simp -implicitDefEqProofs [-List.getD_eq_getElem?_getD, -List.map_flatten]
  refine lib_any (ds := m.map fun r => .lst (r.map .int)) B trivial rfl (by simp) (fun x hx => by obtain ⟨r, _, rfl⟩ := List.mem_map.mp hx; exact trivial) (fun j hj => ⟨.lst ((m.getD j []).map .int), by rw [List.getElem?_map, List.getElem?_eq_getElem hj, DL.getD_at hj]; rfl, rfl⟩) ?_
  try simp -implicitDefEqProofs [-List.getD_eq_getElem?_getD, -List.map_flatten]
  refine eq_lib B (by simp) ?_
  try simp -implicitDefEqProofs [-List.getD_eq_getElem?_getD, -List.map_flatten]
  refine lib_of B2 ?_
  have oe : ∀ {k : D → Prop}, oEq false T (matD (m.set at_ new)) (.tup (m.map rowD)) k = k (.bl (false ^^ decide (m.set at_ new = m))) := oeq_mat
  try simp -implicitDefEqProofs [-List.getD_eq_getElem?_getD, -List.map_flatten, oe]
  refine eq_lib B (by rw [decide_eq_true rfl, Bool.true_and]; exact decide_eq_decide.mpr ⟨Eq.symm, Eq.symm⟩) ?_
  try simp -implicitDefEqProofs [-List.getD_eq_getElem?_getD, -List.map_flatten]
  walk_at "om"
  rw [rngD_map]
  refine lc_flt (fun (j : Nat) => D.int (p + 1 + j)) (fun (j : Nat) => if fldB (.int (p + 1 + (j : Int))) then some (.int (p + 1 + (j : Int))) else none) (List.range (32 - (p + 1)).toNat) (by rw [List.length_range]; exact sz (by omega)) trivial (fun j hj R N q => ?_) ?_
  · try simp -implicitDefEqProofs [-List.getD_eq_getElem?_getD, -fldB_int]
    cases e : fldB (.int (p + 1 + (j : Int))) with
    | true => rw [e] at q; simp at q ⊢; exact q
    | false => rw [e] at q; simp at q ⊢; exact q
  obtain ⟨os, hos, hosm⟩ : ∃ os : List Int, ((List.range (32 - (p + 1)).toNat).filterMap fun (j : Nat) => if fldB (.int (p + 1 + (j : Int))) = true then some (D.int (p + 1 + (j : Int))) else none) = os.map .int ∧ ∀ x ∈ os, p < x ∧ x ∈ FL := by
    refine ⟨(List.range (32 - (p + 1)).toNat).filterMap fun (j : Nat) => if fldB (.int (p + 1 + (j : Int))) = true then some (p + 1 + (j : Int)) else none, ?_, fun x hx => ?_⟩
    · rw [List.map_filterMap]
      congr 1
      funext j
      split <;> rfl
    · obtain ⟨j, _, e⟩ := List.mem_filterMap.mp hx
      split at e
      · rename_i z
        cases e
        obtain ⟨i, e1, e2⟩ := fld_of z
        cases e1
        exact ⟨by omega, e2⟩
      · cases e
  rw [hos]
  have hsub : ∀ x ∈ os, Bk x m := fun x hx => by
    obtain ⟨h1, h2⟩ := hosm x hx
    exact ⟨h2, B.pos, B.few, fun r hr => ⟨(B.wid r hr).1, fun y hy => by have := (B.wid r hr).2 y hy; omega⟩, B.l1, B.l3⟩
  try simp -implicitDefEqProofs [-List.getD_eq_getElem?_getD, -List.map_flatten]
  refine st_step s_law_7 (P := fun δ' S' => T = S' ∧ δ' = [some (.rol (ns.map .int)), some (.m n), some (.int p), some (.int (1 + count)), some (.int (1 + size)), some (.tup (m.map rowD)), some (.m a), some (libI p m), some (.int at_), some (rowD new), some (matD (m.set at_ new)), some (.lst (m.flatten.map .int)), g, some (.lst (os.map .int)), none, none, none, none, none, none, none]) ?_ ?_
  · intro B1 _ _ _ _ hP
    try simp -implicitDefEqProofs [-List.getD_eq_getElem?_getD, ev_s_law_7, -List.map_flatten]
    refine and_of (fun z => ?_) fun z => ?_
    · cases os with
      | nil => simp at z
      | cons o os =>
        try simp -implicitDefEqProofs [-List.getD_eq_getElem?_getD, -List.map_flatten]
        refine lib_of (hsub o (List.mem_cons_self ..)) ?_
        try simp -implicitDefEqProofs [-List.getD_eq_getElem?_getD, -List.map_flatten]
        refine eq_lib B (by have := (hosm o (List.mem_cons_self ..)).1; rw [decide_eq_false (by omega)]; rfl) ?_
        try simp -implicitDefEqProofs [-List.getD_eq_getElem?_getD, -List.map_flatten]
        exact hP _ _ ⟨rfl, rfl⟩
    · try simp -implicitDefEqProofs [-List.getD_eq_getElem?_getD, -List.map_flatten]
      exact hP _ _ ⟨rfl, rfl⟩
  rintro _ _ ⟨rfl, rfl⟩
  refine st_step s_law_8 (P := fun δ' S' => T = S' ∧ δ' = [some (.rol (ns.map .int)), some (.m n), some (.int p), some (.int (1 + count)), some (.int (1 + size)), some (.tup (m.map rowD)), some (.m a), some (libI p m), some (.int at_), some (rowD new), some (matD (m.set at_ new)), some (.lst (m.flatten.map .int)), g, some (.lst (os.map .int)), none, none, none, none, none, none, none]) ?_ ?_
  · intro B1 _ _ _ _ hP
    try simp -implicitDefEqProofs [-List.getD_eq_getElem?_getD, ev_s_law_8, -List.map_flatten]
    refine and_of (fun z => ?_) fun z => ?_
    · try simp -implicitDefEqProofs [-List.getD_eq_getElem?_getD, -List.map_flatten]
      walk_at "om"
      refine and_of (fun z2 => ?_) fun z2 => ?_
      · try simp -implicitDefEqProofs [-List.getD_eq_getElem?_getD, -List.map_flatten]
        have hz : 2 ≤ 1 + size := by simp at z; omega
        have hf2 : 1 ≤ m.length * (1 + size) := Nat.le_trans (by omega) (Nat.mul_le_mul B.pos (Nat.le_refl (1 + size)))
        refine letters_of (c := m.flatten.length) (l := 1) hp (by omega) (by omega) (by omega) (by omega) (by omega) hfw ?_
        have hne : m ≠ chunkI m.flatten.length 1 m.flatten := fun e => by
          have h2 : ∀ q ∈ chunkI m.flatten.length 1 m.flatten, q.length ≤ 1 := fun q hq => by
            obtain ⟨k, _, rfl⟩ := List.mem_map.mp hq
            rw [List.length_take]; omega
          rw [← e] at h2
          have := h2 _ (getD_mem (z := []) B.pos)
          omega
        generalize chunkI m.flatten.length 1 m.flatten = m3 at hne ⊢
        try simp -implicitDefEqProofs [-List.getD_eq_getElem?_getD, -List.map_flatten]
        refine eq_lib B (by rw [decide_eq_false hne, Bool.and_false]) ?_
        try simp -implicitDefEqProofs [-List.getD_eq_getElem?_getD, -List.map_flatten]
        exact hP _ _ ⟨rfl, rfl⟩
      · try simp -implicitDefEqProofs [-List.getD_eq_getElem?_getD, -List.map_flatten]
        exact hP _ _ ⟨rfl, rfl⟩
    · try simp -implicitDefEqProofs [-List.getD_eq_getElem?_getD, -List.map_flatten]
      exact hP _ _ ⟨rfl, rfl⟩
  rintro _ _ ⟨rfl, rfl⟩
  refine st_step s_law_9 (P := fun δ' S' => T = S' ∧ δ' = [some (.rol (ns.map .int)), some (.m n), some (.int p), some (.int (1 + count)), some (.int (1 + size)), some (.tup (m.map rowD)), some (.m a), some (libI p m), some (.int at_), some (rowD new), some (matD (m.set at_ new)), some (.lst (m.flatten.map .int)), g, some (.lst (os.map .int)), none, none, none, none, none, none, none]) ?_ ?_
  · intro B1 _ _ _ _ hP
    try simp -implicitDefEqProofs [-List.getD_eq_getElem?_getD, ev_s_law_9, -List.map_flatten]
    refine and_of (fun z => ?_) fun z => ?_
    · try simp -implicitDefEqProofs [-List.getD_eq_getElem?_getD, -List.map_flatten]
      have hz : 2 ≤ 1 + count := by simp at z; omega
      have hf2 : 1 ≤ m.length * (1 + size) := Nat.le_trans (by omega) (Nat.mul_le_mul B.pos (Nat.le_refl (1 + size)))
      have B3 : Bk p [m.flatten] := ⟨hp, by simp, by simp, fun r hr => by rw [List.mem_singleton.mp hr]; exact ⟨rfl, hfw⟩, by show 1 ≤ m.flatten.length; omega, by show m.flatten.length ≤ 16; omega⟩
      have hh : ∀ j, j < [m.flatten].length → ∃ x, [D.lst (m.flatten.map .int)][j]? = some x ∧ asSq T x = some (([m.flatten].getD j []).map .int) := fun j hj => by
        have : j = 0 := by simpa using hj
        subst this
        exact ⟨_, rfl, rfl⟩
      refine lib_any (ds := [.lst (m.flatten.map .int)]) (m := [m.flatten]) B3 trivial rfl rfl (fun x hx => by rw [List.mem_singleton.mp hx]; exact trivial) hh ?_
      try simp -implicitDefEqProofs [-List.getD_eq_getElem?_getD, -List.map_flatten]
      refine eq_lib B (by rw [decide_eq_false (fun e : m = [m.flatten] => by have := congrArg List.length e; simp at this; omega), Bool.and_false]) ?_
      try simp -implicitDefEqProofs [-List.getD_eq_getElem?_getD, -List.map_flatten]
      exact hP _ _ ⟨rfl, rfl⟩
    · try simp -implicitDefEqProofs [-List.getD_eq_getElem?_getD, -List.map_flatten]
      exact hP _ _ ⟨rfl, rfl⟩
  rintro _ _ ⟨rfl, rfl⟩
  try simp -implicitDefEqProofs [-List.getD_eq_getElem?_getD, -List.map_flatten, ev_s_law_12]
  have B4 : Bk p (m ++ m) := by
    have e0 : ((m ++ m).getD 0 []) = m.getD 0 [] := by rw [List.getD_eq_getElem?_getD, List.getD_eq_getElem?_getD, List.getElem?_append_left B.pos]
    refine ⟨hp, by rw [List.length_append]; omega, by rw [List.length_append]; omega, fun r hr => ?_, by rw [e0]; omega, by rw [e0]; omega⟩
    rw [e0]
    exact B.wid r (by simpa using hr)
  rw [← List.map_append]
  refine ⟨by omega, lib_of B4 ?_⟩
  have btr : ∀ r ∈ m, Bt 20 3 (rowD r) := fun r hr => .tup (fun x hx => by obtain ⟨i, _, rfl⟩ := List.mem_map.mp hx; exact .int _ _) (by have := B.row r hr; simp; omega)
  have btm : Bt 20 4 (.tup (m.map rowD)) := .tup (fun x hx => by obtain ⟨r, hr, rfl⟩ := List.mem_map.mp hx; exact btr r hr) (by simp; omega)
  have btl : Bt 20 2 (.lst (m.flatten.map .int)) := .lst (fun x hx => by obtain ⟨r, hr, rfl⟩ := List.mem_map.mp hx; exact .int _ _) (by rw [List.length_map]; omega)
  try simp -implicitDefEqProofs [-List.getD_eq_getElem?_getD, -List.map_flatten, lp_cons, lp_nil, ev_b_law_11, ev_s_law_10]
  refine ⟨p, m, _, false, rfl, .inr ⟨⟨20, 4, btm⟩, rfl⟩, ?_⟩
  try simp -implicitDefEqProofs [-List.getD_eq_getElem?_getD, -List.map_flatten, lp_cons, lp_nil, ev_b_law_11, ev_s_law_10]
  refine ⟨p, m, _, false, rfl, .inr ⟨⟨20, 4, .non _⟩, rfl⟩, ?_⟩
  try simp -implicitDefEqProofs [-List.getD_eq_getElem?_getD, -List.map_flatten, lp_cons, lp_nil, ev_b_law_11, ev_s_law_10]
  refine ⟨p, m, _, false, rfl, .inr ⟨⟨20, 4, .int _ _⟩, rfl⟩, ?_⟩
  try simp -implicitDefEqProofs [-List.getD_eq_getElem?_getD, -List.map_flatten, lp_cons, lp_nil, ev_b_law_11, ev_s_law_10]
  refine ⟨p, m, _, false, rfl, .inr ⟨⟨20, 2, btl⟩, rfl⟩, ?_⟩
  try simp -implicitDefEqProofs [-List.getD_eq_getElem?_getD, -List.map_flatten, lp_cons, lp_nil, ev_b_law_11, ev_s_law_10]
  refine eq_lib B (by rw [decide_eq_false (fun e : m = m ++ m => by have := congrArg List.length e; rw [List.length_append] at this; omega), Bool.and_false]) ?_
  try simp -implicitDefEqProofs [-List.getD_eq_getElem?_getD, -List.map_flatten, lp_cons, lp_nil, ev_b_law_11, ev_s_law_10]
  try simp -implicitDefEqProofs [-List.getD_eq_getElem?_getD, -List.map_flatten, ev_s_law_13, asI_lib, rowD]
  refine lc_map rowD rowD m (by rw [sizeLine_eq]; omega) trivial (fun r hr R N q => ?_) ?_
  · try simp -implicitDefEqProofs [-List.getD_eq_getElem?_getD, rowD]
    exact q
  try simp -implicitDefEqProofs [-List.getD_eq_getElem?_getD, -List.map_flatten]
  refine lib_any (ds := m.map rowD) B trivial rfl (by simp) (fun x hx => by obtain ⟨r, _, rfl⟩ := List.mem_map.mp hx; exact trivial) (fun j hj => ⟨rowD (m.getD j []), by rw [List.getElem?_map, List.getElem?_eq_getElem hj, DL.getD_at hj]; rfl, rfl⟩) ?_
  try simp -implicitDefEqProofs [-List.getD_eq_getElem?_getD, -List.map_flatten]
  refine ⟨p, m, rfl, B, ?_⟩
  try simp -implicitDefEqProofs [-List.getD_eq_getElem?_getD, -List.map_flatten]
  refine ⟨n, c6, rfl, hT', h6, fun wrong c7 h7 wb wp wf => ?_⟩
  try simp -implicitDefEqProofs [-List.getD_eq_getElem?_getD, -List.map_flatten, ev_s_law_16]
  refine ⟨3, p, m, wrong, .int 0, rfl, B, wb.gd, (Bt.int (N := 20) 0 0).gdN (by omega), by rw [show matOf (put T n c7) (.int 0) = [] from rfl]; simp, .inl ⟨.inr (.inl rfl), wf, ?_⟩⟩
  try simp -implicitDefEqProofs [-List.getD_eq_getElem?_getD, -List.map_flatten]
  refine ⟨4, p, m, wrong, .int 0, rfl, B, wb.gd, (Bt.int (N := 20) 0 0).gdN (by omega), by rw [show matOf (put T n c7) (.int 0) = [] from rfl]; simp, .inl ⟨.inr (.inr rfl), wf, ?_⟩⟩
  have pl2 : ∀ {x : D} {s : Str}, pln 5 x = true → PyData.strOk s = true → pln 6 (.lst [.str s, x]) = true := fun hx hs => by
    show (pln 5 (.str _) && (pln 5 _ && true)) = true
    rw [hx]
    simpa [pln] using hs
  have told : ∀ {S : Sto} {neg : Bool} {x : D} {s : Str} {k : D → Prop}, pln 5 x = true → PyData.strOk s = true → oEq neg S (.lst [.str s, x]) (.lst [.str s, x]) k = k (.bl (!neg)) := fun hx hs => eq_self (pl2 hx hs) (by omega)
  have so1 : PyData.strOk ("number" : Str) = true := by decide +kernel
  have so2 : PyData.strOk ("library" : Str) = true := by decide +kernel
  have w5 := pln_up wp (show 2 ≤ 5 by omega)
  try simp -implicitDefEqProofs [-List.getD_eq_getElem?_getD, -List.map_flatten, lp_cons, lp_nil, ev_b_law_15, ev_s_law_14, told w5 so1, k_bool (wb.gd (S := put T n c7))]
  refine ⟨n, c7, m, p, rfl, put_same, h7, B, fun bad c8 h8 bb bp bk => ?_⟩
  try simp -implicitDefEqProofs [-List.getD_eq_getElem?_getD, -List.map_flatten, ev_s_law_17, put_put]
  refine ⟨0, p, m, wrong, bad, rfl, B, wb.gd, bb.gdN (by omega), bt_flat bb (by omega), .inl ⟨.inl rfl, wf, ?_⟩⟩
  try simp -implicitDefEqProofs [-List.getD_eq_getElem?_getD, -List.map_flatten, told w5 so1]
  refine ⟨0, p, m, .int p, bad, rfl, B, trivial, bb.gdN (by omega), bt_flat bb (by omega), .inr (.inl ⟨rfl, p, rfl, hp, bk _, ?_⟩)⟩
  try simp -implicitDefEqProofs [-List.getD_eq_getElem?_getD, -List.map_flatten, told (pln_up bp (show 4 ≤ 5 by omega)) so2, put_same, h8]
  intro u c9 h9 u0 u1
  refine opt_any u0 (by simp; omega) fun place hpl => ?_
  have pl1 : plcB m.length place = false ∧ Bt 20 2 place ∧ pln 5 place = true := by
    simp only [List.mem_cons, List.not_mem_nil, or_false] at hpl
    rcases hpl with rfl | rfl | rfl | rfl | rfl | rfl | rfl
    · exact ⟨by simp [plcB]; omega, .int _ _, rfl⟩
    · exact ⟨by simp [plcB], .int _ _, rfl⟩
    · exact ⟨rfl, .bl _ _, rfl⟩
    · exact ⟨rfl, .non _, rfl⟩
    · exact ⟨rfl, .str _ _, by decide +kernel⟩
    · exact ⟨rfl, .tup (fun x hx => by rw [List.mem_singleton.mp hx]; exact .int _ _) (by simp), rfl⟩
    · exact ⟨by simp [plcB]; omega, .int _ _, rfl⟩
  obtain ⟨pl1, plb, plp⟩ := pl1
  clear hpl
  try simp -implicitDefEqProofs [-List.getD_eq_getElem?_getD, -List.map_flatten, put_put]
  refine ⟨n, c9, new, p, rfl, put_same, h9, hp, by omega, by omega, fun bd c10 h10 bdb bdp bdk => ?_⟩
  try simp -implicitDefEqProofs [-List.getD_eq_getElem?_getD, -List.map_flatten, put_put, cut_from (show (0 : Int) ≤ 1 by omega), put_same, h10]
  walk_at "om"
  intro v c11 h11 v0 v1
  refine opt_any v0 (by simp; omega) fun book hbk => ?_
  have btw : ∀ r : List Int, r.length ≤ 20 → Bt 20 4 (.tup (r.map .int)) := fun r hr => .tup (fun x hx => by obtain ⟨i, _, rfl⟩ := List.mem_map.mp hx; exact .int _ _) (by rw [List.length_map]; exact hr)
  have rno : ∀ (S : Sto) (r : List Int), r.length ≠ 1 + size → (letB S p (.tup (r.map .int)) && decide ((sqs S (.tup (r.map .int))).length = (m.getD 0 []).length)) = false := fun S r hr => by
    rw [decide_eq_false, Bool.and_false]
    show (r.map D.int).length ≠ _
    rw [List.length_map]; omega
  have bk1 : Bt 20 4 book ∧ pln 5 book = true ∧ ∀ S, (letB S p book && decide ((sqs S book).length = (m.getD 0 []).length)) = false := by
    simp only [List.mem_cons, List.not_mem_nil, or_false] at hbk
    rcases hbk with rfl | rfl | rfl | rfl
    · refine ⟨bdb.up (by omega) (by omega), pln_up bdp (by omega), fun S => ?_⟩
      rcases bdk with w | rfl | rfl | rfl
      · rw [w S]; rfl
      · exact rno S _ (by simp; omega)
      · exact rno S _ (by simp; omega)
      · rw [decide_eq_false, Bool.and_false]
        show (0 : Nat) ≠ _
        omega
    · have e : D.tup (new.map D.int ++ [D.int 0]) = .tup ((new ++ [0]).map .int) := by simp
      rw [e]
      exact ⟨btw _ (by simp; omega), pln_ints, fun S => rno S _ (by simp; omega)⟩
    · rw [show (new.map D.int).tail = new.tail.map .int by simp]
      exact ⟨btw _ (by simp; omega), pln_ints, fun S => rno S _ (by simp; omega)⟩
    · exact ⟨.non _, rfl, fun S => rfl⟩
  obtain ⟨bk1, bk2, bk3⟩ := bk1
  clear hbk
  generalize hU : put T n c11 = U
  have hU' : U n = some c11 := by rw [← hU, put_same]
  try simp -implicitDefEqProofs [-List.getD_eq_getElem?_getD, -List.map_flatten, put_put, hU]
  try simp -implicitDefEqProofs [-List.getD_eq_getElem?_getD, -List.map_flatten, ev_s_law_20, lp_cons, lp_nil, ev_b_law_19, ev_s_law_18]
  refine ⟨1, p, m, place, book, rfl, B, plb.gd, bk1.gdN (by omega), bt_flat bk1 (by omega), .inr (.inr (.inl ⟨.inl rfl, pl1, ?_⟩))⟩
  try simp -implicitDefEqProofs [-List.getD_eq_getElem?_getD, -List.map_flatten, told plp so1, lp_cons, lp_nil, ev_b_law_19, ev_s_law_18]
  refine ⟨2, p, m, place, book, rfl, B, plb.gd, bk1.gdN (by omega), bt_flat bk1 (by omega), .inr (.inr (.inl ⟨.inr rfl, pl1, ?_⟩))⟩
  try simp -implicitDefEqProofs [-List.getD_eq_getElem?_getD, -List.map_flatten, told plp so1, lp_cons, lp_nil, ev_b_law_19, ev_s_law_18]
  refine ⟨2, p, m, .int at_, book, rfl, B, trivial, bk1.gdN (by omega), bt_flat bk1 (by omega), .inr (.inr (.inr ⟨rfl, at_, rfl, by omega, by omega, bk3 _, ?_⟩))⟩
  try simp -implicitDefEqProofs [-List.getD_eq_getElem?_getD, -List.map_flatten, told bk2 so2]
  refine ⟨p, m, rfl, B, ?_⟩
  try simp -implicitDefEqProofs [-List.getD_eq_getElem?_getD, -List.map_flatten]
  refine ⟨n, c11, rfl, hU', h11, fun c12 h12 => ?_⟩
  try simp -implicitDefEqProofs [-List.getD_eq_getElem?_getD]
  exact drp_self trivial
end K07

set_option maxHeartbeats 0
/-! ## The derivations (printed by gen.py) -/
namespace K07
open PySem PySem.Spec PyProof.Rows L2 DL
structure Tx (K : PySem.W.Frag) (mg : Str → Option Value) : Prop where
  says : SaysC PP.main.file hkc K
  glo : ∀ x, (He.Fa.glo x).ok K = true → mg x = some (.ref (He.ga K x))
  free : ∀ x, (He.Fa.free x).ok K = true → mg x = none
theorem b_abs {K : PySem.W.Frag} {mg : Str → Option Value} (T : Tx K mg) : mg "abs" = none := T.free _ (T.says.fact 0)
theorem b_int {K : PySem.W.Frag} {mg : Str → Option Value} (T : Tx K mg) : mg "int" = none := T.free _ (T.says.fact 1)
theorem b_range {K : PySem.W.Frag} {mg : Str → Option Value} (T : Tx K mg) : mg "range" = none := T.free _ (T.says.fact 2)
theorem b_len {K : PySem.W.Frag} {mg : Str → Option Value} (T : Tx K mg) : mg "len" = none := T.free _ (T.says.fact 3)
theorem b_isinstance {K : PySem.W.Frag} {mg : Str → Option Value} (T : Tx K mg) : mg "isinstance" = none := T.free _ (T.says.fact 4)
theorem b_bool {K : PySem.W.Frag} {mg : Str → Option Value} (T : Tx K mg) : mg "bool" = none := T.free _ (T.says.fact 5)
theorem b_tuple {K : PySem.W.Frag} {mg : Str → Option Value} (T : Tx K mg) : mg "tuple" = none := T.free _ (T.says.fact 6)
theorem b_list {K : PySem.W.Frag} {mg : Str → Option Value} (T : Tx K mg) : mg "list" = none := T.free _ (T.says.fact 7)
theorem b_super {K : PySem.W.Frag} {mg : Str → Option Value} (T : Tx K mg) : mg "super" = none := T.free _ (T.says.fact 8)
theorem g__law_draws {K : PySem.W.Frag} {mg : Str → Option Value} (T : Tx K mg) : mg "_law_draws" = some (.ref (He.fAd K ("_law_draws", none))) := T.glo _ (T.says.fact 9)
theorem g__law_is_field {K : PySem.W.Frag} {mg : Str → Option Value} (T : Tx K mg) : mg "_law_is_field" = some (.ref (He.fAd K ("_law_is_field", none))) := T.glo _ (T.says.fact 10)
theorem g__law_take {K : PySem.W.Frag} {mg : Str → Option Value} (T : Tx K mg) : mg "_law_take" = some (.ref (He.fAd K ("_law_take", none))) := T.glo _ (T.says.fact 11)
theorem g__law_field {K : PySem.W.Frag} {mg : Str → Option Value} (T : Tx K mg) : mg "_law_field" = some (.ref (He.fAd K ("_law_field", none))) := T.glo _ (T.says.fact 12)
theorem g__law_books {K : PySem.W.Frag} {mg : Str → Option Value} (T : Tx K mg) : mg "_law_books" = some (.ref (He.fAd K ("_law_books", none))) := T.glo _ (T.says.fact 13)
theorem g_is_integer_integers {K : PySem.W.Frag} {mg : Str → Option Value} (T : Tx K mg) : mg "is_integer_integers" = some (.ref (He.fAd K ("is_integer_integers", none))) := T.glo _ (T.says.fact 14)
theorem g_is_field {K : PySem.W.Frag} {mg : Str → Option Value} (T : Tx K mg) : mg "is_field" = some (.ref (He.fAd K ("is_field", none))) := T.glo _ (T.says.fact 15)
theorem ga_InvalidNumber {K : PySem.W.Frag} {mg : Str → Option Value} (T : Tx K mg) : He.ga K "InvalidNumber" = cInvalidNumber := of_decide_eq_true (T.says.bool 0)
theorem g_InvalidNumber {K : PySem.W.Frag} {mg : Str → Option Value} (T : Tx K mg) : mg "InvalidNumber" = some (.ref cInvalidNumber) := by
  have h := T.glo _ (T.says.fact 16)
  rw [ga_InvalidNumber T] at h
  exact h
theorem g_is_sequence {K : PySem.W.Frag} {mg : Str → Option Value} (T : Tx K mg) : mg "is_sequence" = some (.ref (He.fAd K ("is_sequence", none))) := T.glo _ (T.says.fact 17)
theorem g_is_integer_bookplaces {K : PySem.W.Frag} {mg : Str → Option Value} (T : Tx K mg) : mg "is_integer_bookplaces" = some (.ref (He.fAd K ("is_integer_bookplaces", none))) := T.glo _ (T.says.fact 18)
theorem g_is_place {K : PySem.W.Frag} {mg : Str → Option Value} (T : Tx K mg) : mg "is_place" = some (.ref (He.fAd K ("is_place", none))) := T.glo _ (T.says.fact 19)
theorem g_are_letters {K : PySem.W.Frag} {mg : Str → Option Value} (T : Tx K mg) : mg "are_letters" = some (.ref (He.fAd K ("are_letters", none))) := T.glo _ (T.says.fact 20)
theorem g__are_books {K : PySem.W.Frag} {mg : Str → Option Value} (T : Tx K mg) : mg "_are_books" = some (.ref (He.fAd K ("_are_books", none))) := T.glo _ (T.says.fact 21)
theorem ga_InvalidLibrary {K : PySem.W.Frag} {mg : Str → Option Value} (T : Tx K mg) : He.ga K "InvalidLibrary" = cInvalidLibrary := of_decide_eq_true (T.says.bool 1)
theorem g_InvalidLibrary {K : PySem.W.Frag} {mg : Str → Option Value} (T : Tx K mg) : mg "InvalidLibrary" = some (.ref cInvalidLibrary) := by
  have h := T.glo _ (T.says.fact 22)
  rw [ga_InvalidLibrary T] at h
  exact h
theorem ga_Library {K : PySem.W.Frag} {mg : Str → Option Value} (T : Tx K mg) : He.ga K "Library" = cLibrary := of_decide_eq_true (T.says.bool 2)
theorem g_Library {K : PySem.W.Frag} {mg : Str → Option Value} (T : Tx K mg) : mg "Library" = some (.ref cLibrary) := by
  have h := T.glo _ (T.says.fact 23)
  rw [ga_Library T] at h
  exact h
theorem g__law_same {K : PySem.W.Frag} {mg : Str → Option Value} (T : Tx K mg) : mg "_law_same" = some (.ref (He.fAd K ("_law_same", none))) := T.glo _ (T.says.fact 24)
theorem g__law_is_library {K : PySem.W.Frag} {mg : Str → Option Value} (T : Tx K mg) : mg "_law_is_library" = some (.ref (He.fAd K ("_law_is_library", none))) := T.glo _ (T.says.fact 25)
theorem g__law_equal {K : PySem.W.Frag} {mg : Str → Option Value} (T : Tx K mg) : mg "_law_equal" = some (.ref (He.fAd K ("_law_equal", none))) := T.glo _ (T.says.fact 26)
theorem g__law_odd {K : PySem.W.Frag} {mg : Str → Option Value} (T : Tx K mg) : mg "_law_odd" = some (.ref (He.fAd K ("_law_odd", none))) := T.glo _ (T.says.fact 27)
theorem g__law_no_field {K : PySem.W.Frag} {mg : Str → Option Value} (T : Tx K mg) : mg "_law_no_field" = some (.ref (He.fAd K ("_law_no_field", none))) := T.glo _ (T.says.fact 28)
theorem g_every_library {K : PySem.W.Frag} {mg : Str → Option Value} (T : Tx K mg) : mg "every_library" = some (.ref (He.fAd K ("every_library", none))) := T.glo _ (T.says.fact 29)
theorem g__law_told {K : PySem.W.Frag} {mg : Str → Option Value} (T : Tx K mg) : mg "_law_told" = some (.ref (He.fAd K ("_law_told", none))) := T.glo _ (T.says.fact 30)
theorem g__law_bad_book {K : PySem.W.Frag} {mg : Str → Option Value} (T : Tx K mg) : mg "_law_bad_book" = some (.ref (He.fAd K ("_law_bad_book", none))) := T.glo _ (T.says.fact 31)
theorem g__law_bad_books {K : PySem.W.Frag} {mg : Str → Option Value} (T : Tx K mg) : mg "_law_bad_books" = some (.ref (He.fAd K ("_law_bad_books", none))) := T.glo _ (T.says.fact 32)
theorem g__law_every {K : PySem.W.Frag} {mg : Str → Option Value} (T : Tx K mg) : mg "_law_every" = some (.ref (He.fAd K ("_law_every", none))) := T.glo _ (T.says.fact 33)
theorem isiF {K : PySem.W.Frag} {mg : Str → Option Value} (T : Tx K mg) : IsiF K cs := isiB_ok (T.says.bool 3)
theorem cl_Library {K : PySem.W.Frag} {mg : Str → Option Value} (T : Tx K mg) : Cls K cLibrary := ((isiF T).ins cLibrary (by simp [cs])).cl
theorem g_FIELDS {K : PySem.W.Frag} {mg : Str → Option Value} (T : Tx K mg) : mg "FIELDS" = some (.ref (He.ga K "FIELDS")) := T.glo _ (T.says.fact 34)
theorem kr_FIELDS {K : PySem.W.Frag} {mg : Str → Option Value} (T : Tx K mg) (I : Hp) (α : Am) : Rp K I α (.ref (He.ga K "FIELDS")) k_FIELDS := glob_tup (T.says.bool 4) I α
theorem n1_Library_p {K : PySem.W.Frag} {mg : Str → Option Value} (T : Tx K mg) : NoAttr K cLibrary "p" := He.eqO_ok (T.says.bool 5)
theorem n1_Library_books {K : PySem.W.Frag} {mg : Str → Option Value} (T : Tx K mg) : NoAttr K cLibrary "books" := He.eqO_ok (T.says.bool 6)
theorem n1_Library_book_count {K : PySem.W.Frag} {mg : Str → Option Value} (T : Tx K mg) : NoAttr K cLibrary "book_count" := He.eqO_ok (T.says.bool 7)
theorem n1_Library_book_length {K : PySem.W.Frag} {mg : Str → Option Value} (T : Tx K mg) : NoAttr K cLibrary "book_length" := He.eqO_ok (T.says.bool 8)
theorem n1_Library_letters {K : PySem.W.Frag} {mg : Str → Option Value} (T : Tx K mg) : NoAttr K cLibrary "letters" := He.eqO_ok (T.says.bool 9)
theorem na_Library_p {K : PySem.W.Frag} {mg : Str → Option Value} (T : Tx K mg) : ∀ C ∈ ([cLibrary] : List Addr), Cls K C ∧ NoAttr K C "p" := by
  intro C hC
  simp only [List.mem_cons, List.not_mem_nil, or_false] at hC
  subst hC
  exact ⟨cl_Library T, n1_Library_p T⟩
theorem na_Library_books {K : PySem.W.Frag} {mg : Str → Option Value} (T : Tx K mg) : ∀ C ∈ ([cLibrary] : List Addr), Cls K C ∧ NoAttr K C "books" := by
  intro C hC
  simp only [List.mem_cons, List.not_mem_nil, or_false] at hC
  subst hC
  exact ⟨cl_Library T, n1_Library_books T⟩
theorem na_Library_book_count {K : PySem.W.Frag} {mg : Str → Option Value} (T : Tx K mg) : ∀ C ∈ ([cLibrary] : List Addr), Cls K C ∧ NoAttr K C "book_count" := by
  intro C hC
  simp only [List.mem_cons, List.not_mem_nil, or_false] at hC
  subst hC
  exact ⟨cl_Library T, n1_Library_book_count T⟩
theorem na_Library_book_length {K : PySem.W.Frag} {mg : Str → Option Value} (T : Tx K mg) : ∀ C ∈ ([cLibrary] : List Addr), Cls K C ∧ NoAttr K C "book_length" := by
  intro C hC
  simp only [List.mem_cons, List.not_mem_nil, or_false] at hC
  subst hC
  exact ⟨cl_Library T, n1_Library_book_length T⟩
theorem na_Library_letters {K : PySem.W.Frag} {mg : Str → Option Value} (T : Tx K mg) : ∀ C ∈ ([cLibrary] : List Addr), Cls K C ∧ NoAttr K C "letters" := by
  intro C hC
  simp only [List.mem_cons, List.not_mem_nil, or_false] at hC
  subst hC
  exact ⟨cl_Library T, n1_Library_letters T⟩
theorem me_Library_book {K : PySem.W.Frag} {mg : Str → Option Value} (T : Tx K mg) : Meth K cLibrary "book" (He.fAd K ("Library", some "book")) := by
  have h := He.meth_ok (T.says.fact 35)
  have e := ga_Library T
  show Meth K cLibrary "book" (He.ma K (He.ga K "Library") "book")
  rw [e] at h ⊢
  exact h
theorem me_Library_changed {K : PySem.W.Frag} {mg : Str → Option Value} (T : Tx K mg) : Meth K cLibrary "changed" (He.fAd K ("Library", some "changed")) := by
  have h := He.meth_ok (T.says.fact 36)
  have e := ga_Library T
  show Meth K cLibrary "changed" (He.ma K (He.ga K "Library") "changed")
  rw [e] at h ⊢
  exact h
theorem me_Library___eq__ {K : PySem.W.Frag} {mg : Str → Option Value} (T : Tx K mg) : Meth K cLibrary "__eq__" (He.fAd K ("Library", some "__eq__")) := by
  have h := He.meth_ok (T.says.fact 37)
  have e := ga_Library T
  show Meth K cLibrary "__eq__" (He.ma K (He.ga K "Library") "__eq__")
  rw [e] at h ⊢
  exact h
theorem mk_Library {K : PySem.W.Frag} {mg : Str → Option Value} (T : Tx K mg) : Mk K cLibrary (He.fAd K ("Library", some "__init__")) := by
  have h := He.mkr_ok (T.says.fact 38)
  have e := ga_Library T
  show Mk K cLibrary (He.ma K (He.ga K "Library") "__init__")
  rw [e] at h ⊢
  exact h
theorem exm_InvalidLibrary {K : PySem.W.Frag} {mg : Str → Option Value} (T : Tx K mg) : ∀ C b, tab_InvalidLibrary.lookup C = some b → PySem.W.exmOne K (.ref C) (.ref cInvalidLibrary) = some b := exmB_ok (T.says.bool 10)
theorem exm_InvalidNumber {K : PySem.W.Frag} {mg : Str → Option Value} (T : Tx K mg) : ∀ C b, tab_InvalidNumber.lookup C = some b → PySem.W.exmOne K (.ref C) (.ref cInvalidNumber) = some b := exmB_ok (T.says.bool 11)
theorem cm_Library_of_letters {K : PySem.W.Frag} {mg : Str → Option Value} (T : Tx K mg) : ClX.CRead K cLibrary (.type "type") ∧ ClX.CMet K cLibrary (.type "type") "of_letters" (He.ma K cLibrary "of_letters") (cmA cLibrary "of_letters" K) := cmB_ok (T.says.bool 12)
theorem eqf_Library {K : PySem.W.Frag} {mg : Str → Option Value} (T : Tx K mg) : EqF K cLibrary := eqfB_ok (T.says.bool 13)
theorem xf1_InvalidLibrary_value {K : PySem.W.Frag} {mg : Str → Option Value} (T : Tx K mg) : XfC K cInvalidLibrary ∧ PySem.W.findIn K (.ref cInvalidLibrary) "value" = some none := by
  obtain ⟨a, b⟩ := He.ba (T.says.bool 14)
  exact ⟨xfB_ok a, He.eqO_ok b⟩
theorem xf1_InvalidNumber_value {K : PySem.W.Frag} {mg : Str → Option Value} (T : Tx K mg) : XfC K cInvalidNumber ∧ PySem.W.findIn K (.ref cInvalidNumber) "value" = some none := by
  obtain ⟨a, b⟩ := He.ba (T.says.bool 15)
  exact ⟨xfB_ok a, He.eqO_ok b⟩
theorem xf_InvalidLibrary_value {K : PySem.W.Frag} {mg : Str → Option Value} (T : Tx K mg) : ∀ C ∈ ([cInvalidLibrary] : List Addr), XfC K C ∧ PySem.W.findIn K (.ref C) "value" = some none := by
  intro C hC
  simp only [List.mem_cons, List.not_mem_nil, or_false] at hC
  subst hC
  exact xf1_InvalidLibrary_value T
theorem xf_InvalidNumber_value {K : PySem.W.Frag} {mg : Str → Option Value} (T : Tx K mg) : ∀ C ∈ ([cInvalidNumber] : List Addr), XfC K C ∧ PySem.W.findIn K (.ref C) "value" = some none := by
  intro C hC
  simp only [List.mem_cons, List.not_mem_nil, or_false] at hC
  subst hC
  exact xf1_InvalidNumber_value T
theorem e_InvalidNumber {w : World} {base : Heap} {K : PySem.W.Frag} {mg : Str → Option Value} (T : Tx K mg) : ErrC PP w K mg base "InvalidNumber" cInvalidNumber ["value"] := err1 (d := er_InvalidNumber) (T.says.err 0) (b_super T) rfl (g_InvalidNumber T) rfl (NdefX.nscope_by (by decide +kernel)) rfl rfl rfl (He.eqO_ok (T.says.bool 16)) (fun _ _ _ _ _ _ _ us hl => match us, hl with | [_, _], _ => rfl) (fun env => rfl)
theorem e_InvalidLibrary {w : World} {base : Heap} {K : PySem.W.Frag} {mg : Str → Option Value} (T : Tx K mg) : ErrC PP w K mg base "InvalidLibrary" cInvalidLibrary ["value"] := err1 (d := er_InvalidLibrary) (T.says.err 1) (b_super T) rfl (g_InvalidLibrary T) rfl (NdefX.nscope_by (by decide +kernel)) rfl rfl rfl (He.eqO_ok (T.says.bool 17)) (fun _ _ _ _ _ _ _ us hl => match us, hl with | [_, _], _ => rfl) (fun env => rfl)
theorem sc__law_draws : FnScope ["script", "many", "rests", "draws", "k", "cell", "at", "mixed"] ["script", "many"] (defScope (top 21)) := ⟨rfl, rfl, rfl, by decide +kernel, rfl, by decide +kernel, by decide +kernel⟩
theorem fk__law_draws {w : World} {base : Heap} {K : PySem.W.Frag} {mg : Str → Option Value} (T : Tx K mg) {fd : FuncData} (F : FunD K d__law_draws.name d__law_draws.qual d__law_draws.params d__law_draws.body d__law_draws.scope (d__law_draws.dvs K) (d__law_draws.kws K) (He.fAd K d__law_draws.at_) fd) : FnOk PP w K mg base (L2.CX PP w) 1 (He.fAd K ("_law_draws", none)) fd ["script", "many"] (toSp K 2 m__law_draws) := by
  refine fn_okD (t := t__law_draws) F sc__law_draws (fun cdv A outer s H E hr => ?_)
  have nd := sc__law_draws.nd
  exact (dss_cons (ds_setLc (ps_setLc (i := 2) (own := [("cell", 5)]) (g := (gName 5)) rfl nd rfl rfl (sw_true rfl rfl rfl (by decide +kernel)) (di_seq (de_var 0)) (L2.blkOk_by (by kernel_rfl)) (fun _ _ _ _ _ => pg_name (i := 5) nd rfl (by first | exact Or.inl rfl | exact Or.inr rfl)) (fun _ _ _ _ _ => dts_nil) (fun _ _ _ _ _ => (de_abs rfl (b_abs T) (da_cons (de_intC rfl (b_int T) (da_cons (de_var 5) da_nil)) da_nil)))) (sgw_gN (by decide)) new_F)
    (dss_cons (ds_set (i := 3) nd rfl (by first | exact Or.inl rfl | exact Or.inr rfl) (de_new (df_lst da_nil)))
    (dss_cons (ds_for (passes_of rfl) rfl (di_range1 rfl (b_range T) (da_cons (de_var 1) da_nil)) (pg_name (i := 4) nd rfl (by first | exact Or.inl rfl | exact Or.inr rfl)) sem_gN (dss_cons (ds_set (i := 5) nd rfl (by first | exact Or.inl rfl | exact Or.inr rfl) (de_var 4))
    (dss_cons (ds_if (dt_cmp op_gt sem_gt (de_len rfl (b_len T) (da_cons (de_var 0) da_nil)) de_int (by rfl)) (dss_cons (ds_set (i := 6) nd rfl (by first | exact Or.inl rfl | exact Or.inr rfl) (de_bin op_modU sem_mod (de_var 4) (de_len rfl (b_len T) (da_cons (de_var 0) da_nil))))
    (dss_cons (ds_set (i := 5) nd rfl (by first | exact Or.inl rfl | exact Or.inr rfl) (de_intC rfl (b_int T) (da_cons (de_ixU (de_var 0) (de_var 6)) da_nil)))
    (dss_one (ds_if (dt_w (dw_and (dt_cmp op_ge sem_ge (de_var 5) (de_bin op_pow sem_pow de_int de_int) (by rfl)) (dw_and1 (dt_cmp op_gt sem_gt (de_ixU (de_var 2) (de_var 6)) de_int (by rfl))))) (dss_cons (ds_expr (de_app (de_var 3) (de_bin op_modU sem_mod (de_intC rfl (b_int T) (da_cons (de_ixU (de_var 2) (de_var 6)) da_nil)) de_int)))
    (dss_cons (ds_setI (de_var 2) (de_var 6) (de_bin op_fdU sem_fd (de_intC rfl (b_int T) (da_cons (de_ixU (de_var 2) (de_var 6)) da_nil)) de_int))
    (dss_one ds_cont))) dss_nil)))) dss_nil)
    (dss_cons (ds_set (i := 7) nd rfl (by first | exact Or.inl rfl | exact Or.inr rfl) (de_bin op_modU sem_mod (de_intC rfl (b_int T) (da_cons (de_bin op_addU sem_add (de_bin op_addU sem_add (de_bin op_mulT sem_mulT (de_var 5) de_int) (de_bin op_mulT sem_mulT (de_var 4) de_int)) de_int) da_nil)) de_int))
    (dss_cons (ds_set (i := 7) nd rfl (by first | exact Or.inl rfl | exact Or.inr rfl) (de_bin op_modU sem_mod (de_intC rfl (b_int T) (da_cons (de_bin op_addU sem_add (de_bin op_fdU sem_fd (de_bin op_mulT sem_mulT (de_var 7) (de_var 7)) de_int) (de_var 7)) da_nil)) de_int))
    (dss_one (ds_expr (de_app (de_var 3) (de_bin op_modU sem_mod (de_intC rfl (b_int T) (da_cons (de_bin op_addU sem_add (de_bin op_fdU sem_fd (de_bin op_mulT sem_mulT (de_var 7) (de_var 7)) de_int) (de_bin op_mulT sem_mulT (de_var 4) de_int)) da_nil)) de_int)))))))))
    (dss_one (ds_frz 3 (ds_ret (de_var 3)))))))
theorem cal__law_draws {w : World} {base : Heap} {K : PySem.W.Frag} {mg : Str → Option Value} (T : Tx K mg) : Cal PP w K mg base 1 (He.fAd K ("_law_draws", none)) 2 m__law_draws [] := by
  obtain ⟨fd, F⟩ := T.says.def_ 0 (d := d__law_draws)
  have FK := fk__law_draws (w := w) (base := base) T F
  have hb := F.bindsN (ps := ["script", "many"]) (fun _ _ _ _ _ _ us hl => match us, hl with | [_, _], _ => rfl)
  exact ⟨fd, ["script", "many"], [], [], FK, hb, .nil, .nil, F.kp⟩
theorem sc__law_is_field : FnScope ["p", "d"] ["p"] (defScope (top 24)) := ⟨rfl, rfl, rfl, by decide +kernel, rfl, by decide +kernel, by decide +kernel⟩
theorem fk__law_is_field {w : World} {base : Heap} {K : PySem.W.Frag} {mg : Str → Option Value} (T : Tx K mg) {fd : FuncData} (F : FunD K d__law_is_field.name d__law_is_field.qual d__law_is_field.params d__law_is_field.body d__law_is_field.scope (d__law_is_field.dvs K) (d__law_is_field.kws K) (He.fAd K d__law_is_field.at_) fd) : FnOk PP w K mg base (L2.CX PP w) 1 (He.fAd K ("_law_is_field", none)) fd ["p"] (toSp K 1 m__law_is_field) := by
  refine fn_okD (t := t__law_is_field) F sc__law_is_field (fun cdv A outer s H E hr => ?_)
  have nd := sc__law_is_field.nd
  exact (dss_cons (ds_if (dt_w (dw_or (dt_not (dt_tru (de_isi (c := (.ty "int")) (isiF T) (de_var 0) (pc_ty rfl (b_int T) PyProof.Rows.Boot.«int») rfl (b_isinstance T) PyProof.Rows.Boot.«isinstance»))) (dw_or (dt_tru (de_isi (c := (.ty "bool")) (isiF T) (de_var 0) (pc_ty rfl (b_bool T) PyProof.Rows.Boot.«bool») rfl (b_isinstance T) PyProof.Rows.Boot.«isinstance»)) (dw_or (dt_cmp op_lt sem_lt (de_var 0) de_int (by rfl)) (dw_or1 (dt_cmp op_gt sem_gt (de_var 0) de_int (by rfl))))))) (dss_one (ds_ret de_bl)) dss_nil)
    (dss_cons (ds_for (passes_of rfl) rfl (di_range2 rfl (b_range T) (da_cons de_int (da_cons (de_intC rfl (b_int T) (da_cons (de_var 0) da_nil)) da_nil))) (pg_name (i := 1) nd rfl (by first | exact Or.inl rfl | exact Or.inr rfl)) sem_gN (dss_one (ds_if (dt_cmp (op_eqU hr.units) sem_eq (de_bin op_modU sem_mod (de_intC rfl (b_int T) (da_cons (de_var 0) da_nil)) (de_var 1)) de_int (by rfl)) (dss_one (ds_ret de_bl)) dss_nil)))
    (dss_one (ds_ret de_bl))))
theorem cal__law_is_field {w : World} {base : Heap} {K : PySem.W.Frag} {mg : Str → Option Value} (T : Tx K mg) : Cal PP w K mg base 1 (He.fAd K ("_law_is_field", none)) 1 m__law_is_field [] := by
  obtain ⟨fd, F⟩ := T.says.def_ 1 (d := d__law_is_field)
  have FK := fk__law_is_field (w := w) (base := base) T F
  have hb := F.bindsN (ps := ["p"]) (fun _ _ _ _ _ _ us hl => match us, hl with | [_], _ => rfl)
  exact ⟨fd, ["p"], [], [], FK, hb, .nil, .nil, F.kp⟩
theorem sc__law_take : FnScope ["hand", "many", "at", "draws"] ["hand", "many"] (defScope (top 22)) := ⟨rfl, rfl, rfl, by decide +kernel, rfl, by decide +kernel, by decide +kernel⟩
theorem fk__law_take {w : World} {base : Heap} {K : PySem.W.Frag} {mg : Str → Option Value} (T : Tx K mg) {fd : FuncData} (F : FunD K d__law_take.name d__law_take.qual d__law_take.params d__law_take.body d__law_take.scope (d__law_take.dvs K) (d__law_take.kws K) (He.fAd K d__law_take.at_) fd) : FnOk PP w K mg base (L2.CX PP w) 1 (He.fAd K ("_law_take", none)) fd ["hand", "many"] (toSp K 2 m__law_take) := by
  refine fn_okD (t := t__law_take) F sc__law_take (fun cdv A outer s H E hr => ?_)
  have nd := sc__law_take.nd
  exact (dss_cons (ds_set (i := 2) nd rfl (by first | exact Or.inl rfl | exact Or.inr rfl) (de_ixU (de_var 0) de_int))
    (dss_cons (ds_setI (de_var 0) de_int (de_bin op_addU sem_add (de_var 2) de_int))
    (dss_cons (ds_set (i := 3) nd rfl (by first | exact Or.inl rfl | exact Or.inr rfl) (de_ixU (de_var 0) de_int))
    (dss_cons (ds_if (dt_cmp op_ge sem_ge (de_var 2) (de_len rfl (b_len T) (da_cons (de_var 3) da_nil)) (by rfl)) (dss_one (ds_ret de_int)) dss_nil)
    (dss_one (ds_ret (de_bin op_modU sem_mod (de_bin op_fdU sem_fd (de_intC rfl (b_int T) (da_cons (de_ixU (de_var 3) (de_var 2)) da_nil)) de_int) (de_var 1))))))))
theorem cal__law_take {w : World} {base : Heap} {K : PySem.W.Frag} {mg : Str → Option Value} (T : Tx K mg) : Cal PP w K mg base 1 (He.fAd K ("_law_take", none)) 2 m__law_take [] := by
  obtain ⟨fd, F⟩ := T.says.def_ 2 (d := d__law_take)
  have FK := fk__law_take (w := w) (base := base) T F
  have hb := F.bindsN (ps := ["hand", "many"]) (fun _ _ _ _ _ _ us hl => match us, hl with | [_, _], _ => rfl)
  exact ⟨fd, ["hand", "many"], [], [], FK, hb, .nil, .nil, F.kp⟩
theorem sc__law_field : FnScope ["hand", "primes", "p"] ["hand"] (defScope (top 25)) := ⟨rfl, rfl, rfl, by decide +kernel, rfl, by decide +kernel, by decide +kernel⟩
theorem fk__law_field {w : World} {base : Heap} {K : PySem.W.Frag} {mg : Str → Option Value} (T : Tx K mg) {fd : FuncData} (F : FunD K d__law_field.name d__law_field.qual d__law_field.params d__law_field.body d__law_field.scope (d__law_field.dvs K) (d__law_field.kws K) (He.fAd K d__law_field.at_) fd) : FnOk PP w K mg base (L2.CX PP w) 2 (He.fAd K ("_law_field", none)) fd ["hand"] (toSp K 1 m__law_field) := by
  refine fn_okD (t := t__law_field) F sc__law_field (fun cdv A outer s H E hr => ?_)
  have nd := sc__law_field.nd
  exact (dss_cons (ds_setLc (ps_setLc (i := 1) (own := [("p", 2)]) (g := (gName 2)) rfl nd rfl rfl (sw_true rfl rfl rfl (by decide +kernel)) (di_range2 rfl (b_range T) (da_cons de_int (da_cons de_int da_nil))) (L2.blkOk_by (by kernel_rfl)) (fun _ _ _ _ _ => pg_name (i := 2) nd rfl (by first | exact Or.inl rfl | exact Or.inr rfl)) (fun _ _ _ _ _ => dts_one (dt_tru (de_callC ((cal__law_is_field T).weak ok__law_is_field) (hr.mono (by decide)) takes0 rfl (g__law_is_field T) (da_cons (de_var 2) da_nil)))) (fun _ _ _ _ _ => (de_var 2))) (sgw_gN (by decide)) fz_F)
    (dss_one (ds_ret (de_ixU (de_var 1) (de_ixU (de_fz (df_lst (da_cons (de_callC ((cal__law_take T).weak ok__law_take) (hr.mono (by decide)) (takes_of rfl rfl rfl rfl) rfl (g__law_take T) (da_cons (de_var 0) (da_cons de_int da_nil))) (da_cons (de_callC ((cal__law_take T).weak ok__law_take) (hr.mono (by decide)) (takes_of rfl rfl rfl rfl) rfl (g__law_take T) (da_cons (de_var 0) (da_cons de_int da_nil))) da_nil)))) (de_callC ((cal__law_take T).weak ok__law_take) (hr.mono (by decide)) (takes_of rfl rfl rfl rfl) rfl (g__law_take T) (da_cons (de_var 0) (da_cons de_int da_nil))))))))
theorem cal__law_field {w : World} {base : Heap} {K : PySem.W.Frag} {mg : Str → Option Value} (T : Tx K mg) : Cal PP w K mg base 2 (He.fAd K ("_law_field", none)) 1 m__law_field [] := by
  obtain ⟨fd, F⟩ := T.says.def_ 3 (d := d__law_field)
  have FK := fk__law_field (w := w) (base := base) T F
  have hb := F.bindsN (ps := ["hand"]) (fun _ _ _ _ _ _ us hl => match us, hl with | [_], _ => rfl)
  exact ⟨fd, ["hand"], [], [], FK, hb, .nil, .nil, F.kp⟩
theorem sc__law_books : FnScope ["hand", "p", "count", "size", "k", "j"] ["hand", "p", "count", "size"] (defScope (top 27)) := ⟨rfl, rfl, rfl, by decide +kernel, rfl, by decide +kernel, by decide +kernel⟩
theorem fk__law_books {w : World} {base : Heap} {K : PySem.W.Frag} {mg : Str → Option Value} (T : Tx K mg) {fd : FuncData} (F : FunD K d__law_books.name d__law_books.qual d__law_books.params d__law_books.body d__law_books.scope (d__law_books.dvs K) (d__law_books.kws K) (He.fAd K d__law_books.at_) fd) : FnOk PP w K mg base (L2.CX PP w) 2 (He.fAd K ("_law_books", none)) fd ["hand", "p", "count", "size"] (toSp K 4 m__law_books) := by
  refine fn_okD (t := t__law_books) F sc__law_books (fun cdv A outer s H E hr => ?_)
  have nd := sc__law_books.nd
  exact (dss_one (ds_ret (de_tupleC rfl (b_tuple T) (da_cons (de_fz (df_lc (own := [("k", 4)]) (g := (gName 4)) rfl nd (di_range1 rfl (b_range T) (da_cons (de_var 2) da_nil)) (L2.blkOk_by (by kernel_rfl)) (sgw_gN (by decide)) (fun _ _ _ _ _ => pg_name (i := 4) nd rfl (by first | exact Or.inl rfl | exact Or.inr rfl)) (fun _ _ _ _ _ => dts_nil) (fun _ _ _ _ _ => (de_tupleC rfl (b_tuple T) (da_cons (de_fz (df_lc (own := [("j", 5)]) (g := (gName 5)) rfl nd (di_range1 rfl (b_range T) (da_cons (de_var 3) da_nil)) (L2.blkOk_by (by kernel_rfl)) (sgw_gN (by decide)) (fun _ _ _ _ _ => pg_name (i := 5) nd rfl (by first | exact Or.inl rfl | exact Or.inr rfl)) (fun _ _ _ _ _ => dts_nil) (fun _ _ _ _ _ => (de_callC ((cal__law_take T).weak ok__law_take) (hr.mono (by decide)) takes0 rfl (g__law_take T) (da_cons (de_var 0) (da_cons (de_var 1) da_nil)))))) da_nil))))) da_nil))))
theorem cal__law_books {w : World} {base : Heap} {K : PySem.W.Frag} {mg : Str → Option Value} (T : Tx K mg) : Cal PP w K mg base 2 (He.fAd K ("_law_books", none)) 4 m__law_books [] := by
  obtain ⟨fd, F⟩ := T.says.def_ 4 (d := d__law_books)
  have FK := fk__law_books (w := w) (base := base) T F
  have hb := F.bindsN (ps := ["hand", "p", "count", "size"]) (fun _ _ _ _ _ _ us hl => match us, hl with | [_, _, _, _], _ => rfl)
  exact ⟨fd, ["hand", "p", "count", "size"], [], [], FK, hb, .nil, .nil, F.kp⟩
theorem sc_is_integer_integers : FnScope ["value"] ["value"] (defScope (top 11)) := ⟨rfl, rfl, rfl, by decide +kernel, rfl, by decide +kernel, by decide +kernel⟩
theorem fk_is_integer_integers {w : World} {base : Heap} {K : PySem.W.Frag} {mg : Str → Option Value} (T : Tx K mg) {fd : FuncData} (F : FunD K d_is_integer_integers.name d_is_integer_integers.qual d_is_integer_integers.params d_is_integer_integers.body d_is_integer_integers.scope (d_is_integer_integers.dvs K) (d_is_integer_integers.kws K) (He.fAd K d_is_integer_integers.at_) fd) : FnOk PP w K mg base (L2.CX PP w) 1 (He.fAd K ("is_integer_integers", none)) fd ["value"] (toSp K 1 m_is_integer_integers) := by
  refine fn_okD (t := t_is_integer_integers) F sc_is_integer_integers (fun cdv A outer s H E hr => ?_)
  have nd := sc_is_integer_integers.nd
  exact (dss_one (ds_ret (de_and (de_isi (c := (.ty "int")) (isiF T) (de_var 0) (pc_ty rfl (b_int T) PyProof.Rows.Boot.«int») rfl (b_isinstance T) PyProof.Rows.Boot.«isinstance») (de_one (de_not (de_isi (c := (.ty "bool")) (isiF T) (de_var 0) (pc_ty rfl (b_bool T) PyProof.Rows.Boot.«bool») rfl (b_isinstance T) PyProof.Rows.Boot.«isinstance»))))))
theorem cal_is_integer_integers {w : World} {base : Heap} {K : PySem.W.Frag} {mg : Str → Option Value} (T : Tx K mg) : Cal PP w K mg base 1 (He.fAd K ("is_integer_integers", none)) 1 m_is_integer_integers [] := by
  obtain ⟨fd, F⟩ := T.says.def_ 5 (d := d_is_integer_integers)
  have FK := fk_is_integer_integers (w := w) (base := base) T F
  have hb := F.bindsN (ps := ["value"]) (fun _ _ _ _ _ _ us hl => match us, hl with | [_], _ => rfl)
  exact ⟨fd, ["value"], [], [], FK, hb, .nil, .nil, F.kp⟩
theorem sc_is_field : FnScope ["p"] ["p"] (defScope (top 15)) := ⟨rfl, rfl, rfl, by decide +kernel, rfl, by decide +kernel, by decide +kernel⟩
theorem fk_is_field {w : World} {base : Heap} {K : PySem.W.Frag} {mg : Str → Option Value} (T : Tx K mg) {fd : FuncData} (F : FunD K d_is_field.name d_is_field.qual d_is_field.params d_is_field.body d_is_field.scope (d_is_field.dvs K) (d_is_field.kws K) (He.fAd K d_is_field.at_) fd) : FnOk PP w K mg base (L2.CX PP w) 2 (He.fAd K ("is_field", none)) fd ["p"] (toSp K 1 m_is_field) := by
  refine fn_okD (t := t_is_field) F sc_is_field (fun cdv A outer s H E hr => ?_)
  have nd := sc_is_field.nd
  exact (dss_one (ds_ret (de_and (de_callC ((cal_is_integer_integers T).weak ok_is_integer_integers) (hr.mono (by decide)) (takes_of rfl rfl rfl rfl) rfl (g_is_integer_integers T) (da_cons (de_var 0) da_nil)) (de_one (de_cmp op_inU sem_in (de_var 0) (de_glob (v := .ref (He.ga K "FIELDS")) rfl (g_FIELDS T) rfl (kr_FIELDS T)) (by rfl))))))
theorem cal_is_field {w : World} {base : Heap} {K : PySem.W.Frag} {mg : Str → Option Value} (T : Tx K mg) : Cal PP w K mg base 2 (He.fAd K ("is_field", none)) 1 m_is_field [] := by
  obtain ⟨fd, F⟩ := T.says.def_ 6 (d := d_is_field)
  have FK := fk_is_field (w := w) (base := base) T F
  have hb := F.bindsN (ps := ["p"]) (fun _ _ _ _ _ _ us hl => match us, hl with | [_], _ => rfl)
  exact ⟨fd, ["p"], [], [], FK, hb, .nil, .nil, F.kp⟩
theorem sc_is_sequence : FnScope ["value"] ["value"] (defScope (top 4)) := ⟨rfl, rfl, rfl, by decide +kernel, rfl, by decide +kernel, by decide +kernel⟩
theorem fk_is_sequence {w : World} {base : Heap} {K : PySem.W.Frag} {mg : Str → Option Value} (T : Tx K mg) {fd : FuncData} (F : FunD K d_is_sequence.name d_is_sequence.qual d_is_sequence.params d_is_sequence.body d_is_sequence.scope (d_is_sequence.dvs K) (d_is_sequence.kws K) (He.fAd K d_is_sequence.at_) fd) : FnOk PP w K mg base (L2.CX PP w) 1 (He.fAd K ("is_sequence", none)) fd ["value"] (toSp K 1 m_is_sequence) := by
  refine fn_okD (t := t_is_sequence) F sc_is_sequence (fun cdv A outer s H E hr => ?_)
  have nd := sc_is_sequence.nd
  exact (dss_one (ds_ret (de_isiT (c := (.ty "list")) (cs := [(.ty "tuple")]) (isiF T) (by decide) (de_var 0) (pcs_cons (pc_ty rfl (b_list T) PyProof.Rows.Boot.«list») (pcs_cons (pc_ty rfl (b_tuple T) PyProof.Rows.Boot.«tuple») pcs_nil)) rfl (b_isinstance T) PyProof.Rows.Boot.«isinstance»)))
theorem cal_is_sequence {w : World} {base : Heap} {K : PySem.W.Frag} {mg : Str → Option Value} (T : Tx K mg) : Cal PP w K mg base 1 (He.fAd K ("is_sequence", none)) 1 m_is_sequence [] := by
  obtain ⟨fd, F⟩ := T.says.def_ 7 (d := d_is_sequence)
  have FK := fk_is_sequence (w := w) (base := base) T F
  have hb := F.bindsN (ps := ["value"]) (fun _ _ _ _ _ _ us hl => match us, hl with | [_], _ => rfl)
  exact ⟨fd, ["value"], [], [], FK, hb, .nil, .nil, F.kp⟩
theorem sc_is_integer_bookplaces : FnScope ["value"] ["value"] (defScope (top 1)) := ⟨rfl, rfl, rfl, by decide +kernel, rfl, by decide +kernel, by decide +kernel⟩
theorem fk_is_integer_bookplaces {w : World} {base : Heap} {K : PySem.W.Frag} {mg : Str → Option Value} (T : Tx K mg) {fd : FuncData} (F : FunD K d_is_integer_bookplaces.name d_is_integer_bookplaces.qual d_is_integer_bookplaces.params d_is_integer_bookplaces.body d_is_integer_bookplaces.scope (d_is_integer_bookplaces.dvs K) (d_is_integer_bookplaces.kws K) (He.fAd K d_is_integer_bookplaces.at_) fd) : FnOk PP w K mg base (L2.CX PP w) 1 (He.fAd K ("is_integer_bookplaces", none)) fd ["value"] (toSp K 1 m_is_integer_bookplaces) := by
  refine fn_okD (t := t_is_integer_bookplaces) F sc_is_integer_bookplaces (fun cdv A outer s H E hr => ?_)
  have nd := sc_is_integer_bookplaces.nd
  exact (dss_one (ds_ret (de_and (de_isi (c := (.ty "int")) (isiF T) (de_var 0) (pc_ty rfl (b_int T) PyProof.Rows.Boot.«int») rfl (b_isinstance T) PyProof.Rows.Boot.«isinstance») (de_one (de_not (de_isi (c := (.ty "bool")) (isiF T) (de_var 0) (pc_ty rfl (b_bool T) PyProof.Rows.Boot.«bool») rfl (b_isinstance T) PyProof.Rows.Boot.«isinstance»))))))
theorem cal_is_integer_bookplaces {w : World} {base : Heap} {K : PySem.W.Frag} {mg : Str → Option Value} (T : Tx K mg) : Cal PP w K mg base 1 (He.fAd K ("is_integer_bookplaces", none)) 1 m_is_integer_bookplaces [] := by
  obtain ⟨fd, F⟩ := T.says.def_ 8 (d := d_is_integer_bookplaces)
  have FK := fk_is_integer_bookplaces (w := w) (base := base) T F
  have hb := F.bindsN (ps := ["value"]) (fun _ _ _ _ _ _ us hl => match us, hl with | [_], _ => rfl)
  exact ⟨fd, ["value"], [], [], FK, hb, .nil, .nil, F.kp⟩
theorem sc_is_place : FnScope ["value", "count"] ["value", "count"] (defScope (top 3)) := ⟨rfl, rfl, rfl, by decide +kernel, rfl, by decide +kernel, by decide +kernel⟩
theorem fk_is_place {w : World} {base : Heap} {K : PySem.W.Frag} {mg : Str → Option Value} (T : Tx K mg) {fd : FuncData} (F : FunD K d_is_place.name d_is_place.qual d_is_place.params d_is_place.body d_is_place.scope (d_is_place.dvs K) (d_is_place.kws K) (He.fAd K d_is_place.at_) fd) : FnOk PP w K mg base (L2.CX PP w) 2 (He.fAd K ("is_place", none)) fd ["value", "count"] (toSp K 2 m_is_place) := by
  refine fn_okD (t := t_is_place) F sc_is_place (fun cdv A outer s H E hr => ?_)
  have nd := sc_is_place.nd
  exact (dss_one (ds_ret (de_and (de_callC ((cal_is_integer_bookplaces T).weak ok_is_integer_bookplaces) (hr.mono (by decide)) (takes_of rfl rfl rfl rfl) rfl (g_is_integer_bookplaces T) (da_cons (de_var 0) da_nil)) (de_one (de_chain op_le sem_le op_lt sem_lt de_int (de_var 0) (de_var 1))))))
theorem cal_is_place {w : World} {base : Heap} {K : PySem.W.Frag} {mg : Str → Option Value} (T : Tx K mg) : Cal PP w K mg base 2 (He.fAd K ("is_place", none)) 2 m_is_place [] := by
  obtain ⟨fd, F⟩ := T.says.def_ 9 (d := d_is_place)
  have FK := fk_is_place (w := w) (base := base) T F
  have hb := F.bindsN (ps := ["value", "count"]) (fun _ _ _ _ _ _ us hl => match us, hl with | [_, _], _ => rfl)
  exact ⟨fd, ["value", "count"], [], [], FK, hb, .nil, .nil, F.kp⟩
theorem sc_are_letters : FnScope ["p", "value", "letter"] ["p", "value"] (defScope (top 5)) := ⟨rfl, rfl, rfl, by decide +kernel, rfl, by decide +kernel, by decide +kernel⟩
theorem fk_are_letters {w : World} {base : Heap} {K : PySem.W.Frag} {mg : Str → Option Value} (T : Tx K mg) {fd : FuncData} (F : FunD K d_are_letters.name d_are_letters.qual d_are_letters.params d_are_letters.body d_are_letters.scope (d_are_letters.dvs K) (d_are_letters.kws K) (He.fAd K d_are_letters.at_) fd) : FnOk PP w K mg base (L2.CX PP w) 3 (He.fAd K ("are_letters", none)) fd ["p", "value"] (toSp K 2 m_are_letters) := by
  refine fn_okD (t := t_are_letters) F sc_are_letters (fun cdv A outer s H E hr => ?_)
  have nd := sc_are_letters.nd
  exact (dss_cons (ds_if (dt_not (dt_tru (de_callC ((cal_is_sequence T).weak ok_is_sequence) (hr.mono (by decide)) (takes_of rfl rfl rfl rfl) rfl (g_is_sequence T) (da_cons (de_var 1) da_nil)))) (dss_one (ds_ret de_bl)) dss_nil)
    (dss_cons (ds_for (passes_of rfl) rfl (di_seq (de_var 1)) (pg_name (i := 2) nd rfl (by first | exact Or.inl rfl | exact Or.inr rfl)) sem_gN (dss_one (ds_if (dt_not (dt_tru (de_callC ((cal_is_place T).weak ok_is_place) (hr.mono (by decide)) (takes_of rfl rfl rfl rfl) rfl (g_is_place T) (da_cons (de_var 2) (da_cons (de_var 0) da_nil))))) (dss_one (ds_ret de_bl)) dss_nil)))
    (dss_one (ds_ret de_bl))))
theorem cal_are_letters {w : World} {base : Heap} {K : PySem.W.Frag} {mg : Str → Option Value} (T : Tx K mg) : Cal PP w K mg base 3 (He.fAd K ("are_letters", none)) 2 m_are_letters [] := by
  obtain ⟨fd, F⟩ := T.says.def_ 10 (d := d_are_letters)
  have FK := fk_are_letters (w := w) (base := base) T F
  have hb := F.bindsN (ps := ["p", "value"]) (fun _ _ _ _ _ _ us hl => match us, hl with | [_, _], _ => rfl)
  exact ⟨fd, ["p", "value"], [], [], FK, hb, .nil, .nil, F.kp⟩
theorem sc__are_books : FnScope ["p", "books", "book"] ["p", "books"] (defScope (top 17)) := ⟨rfl, rfl, rfl, by decide +kernel, rfl, by decide +kernel, by decide +kernel⟩
theorem fk__are_books {w : World} {base : Heap} {K : PySem.W.Frag} {mg : Str → Option Value} (T : Tx K mg) {fd : FuncData} (F : FunD K d__are_books.name d__are_books.qual d__are_books.params d__are_books.body d__are_books.scope (d__are_books.dvs K) (d__are_books.kws K) (He.fAd K d__are_books.at_) fd) : FnOk PP w K mg base (L2.CX PP w) 4 (He.fAd K ("_are_books", none)) fd ["p", "books"] (toSp K 2 m__are_books) := by
  refine fn_okD (t := t__are_books) F sc__are_books (fun cdv A outer s H E hr => ?_)
  have nd := sc__are_books.nd
  exact (dss_cons (ds_if (dt_w (dw_or (dt_not (dt_tru (de_callC ((cal_is_sequence T).weak ok_is_sequence) (hr.mono (by decide)) (takes_of rfl rfl rfl rfl) rfl (g_is_sequence T) (da_cons (de_var 1) da_nil)))) (dw_or1 (dt_cmp (op_eqU hr.units) sem_eq (de_len rfl (b_len T) (da_cons (de_var 1) da_nil)) de_int (by rfl))))) (dss_one (ds_ret de_bl)) dss_nil)
    (dss_cons (ds_for (passes_of rfl) rfl (di_seq (de_var 1)) (pg_name (i := 2) nd rfl (by first | exact Or.inl rfl | exact Or.inr rfl)) sem_gN (dss_one (ds_if (dt_w (dw_or (dt_not (dt_tru (de_callC ((cal_are_letters T).weak ok_are_letters) (hr.mono (by decide)) (takes_of rfl rfl rfl rfl) rfl (g_are_letters T) (da_cons (de_var 0) (da_cons (de_var 2) da_nil))))) (dw_or (dt_cmp (op_eqU hr.units) sem_eq (de_len rfl (b_len T) (da_cons (de_var 2) da_nil)) de_int (by rfl)) (dw_or1 (dt_cmp (op_neU hr.units) sem_ne (de_len rfl (b_len T) (da_cons (de_var 2) da_nil)) (de_len rfl (b_len T) (da_cons (de_ixU (de_var 1) de_int) da_nil)) (by rfl)))))) (dss_one (ds_ret de_bl)) dss_nil)))
    (dss_one (ds_ret de_bl))))
theorem cal__are_books {w : World} {base : Heap} {K : PySem.W.Frag} {mg : Str → Option Value} (T : Tx K mg) : Cal PP w K mg base 4 (He.fAd K ("_are_books", none)) 2 m__are_books [] := by
  obtain ⟨fd, F⟩ := T.says.def_ 11 (d := d__are_books)
  have FK := fk__are_books (w := w) (base := base) T F
  have hb := F.bindsN (ps := ["p", "books"]) (fun _ _ _ _ _ _ us hl => match us, hl with | [_, _], _ => rfl)
  exact ⟨fd, ["p", "books"], [], [], FK, hb, .nil, .nil, F.kp⟩
theorem sc_Library___init__ : FnScope ["self", "p", "books", "book", "letter"] ["self", "p", "books"] (defScope (mth 18 0)) := ⟨rfl, rfl, rfl, by decide +kernel, rfl, by decide +kernel, by decide +kernel⟩
theorem fk_Library___init__ {w : World} {base : Heap} {K : PySem.W.Frag} {mg : Str → Option Value} (T : Tx K mg) {fd : FuncData} (F : FunD K d_Library___init__.name d_Library___init__.qual d_Library___init__.params d_Library___init__.body d_Library___init__.scope (d_Library___init__.dvs K) (d_Library___init__.kws K) (He.fAd K d_Library___init__.at_) fd) : FnOk PP w K mg base (L2.CX PP w) 5 (He.fAd K ("Library", some "__init__")) fd ["self", "p", "books"] (toSp K 3 m_Library___init__) := by
  refine fn_okD (t := t_Library___init__) F sc_Library___init__ (fun cdv A outer s H E hr => ?_)
  have nd := sc_Library___init__.nd
  exact (dss_cons (ds_if (dt_not (dt_tru (de_callC ((cal_is_field T).weak ok_is_field) (hr.mono (by decide)) (takes_of rfl rfl rfl rfl) rfl (g_is_field T) (da_cons (de_var 1) da_nil)))) (dss_one (ds_raise (e_InvalidNumber T) (hr.mono (by decide)) rfl (takes_of rfl rfl rfl rfl) rfl (da_cons (de_var 1) da_nil))) dss_nil)
    (dss_cons (ds_if (dt_not (dt_tru (de_callC ((cal__are_books T).weak ok__are_books) (hr.mono (by decide)) (takes_of rfl rfl rfl rfl) rfl (g__are_books T) (da_cons (de_var 1) (da_cons (de_var 2) da_nil))))) (dss_one (ds_raise (e_InvalidLibrary T) (hr.mono (by decide)) rfl (takes_of rfl rfl rfl rfl) rfl (da_cons (de_var 2) da_nil))) dss_nil)
    (dss_cons (ds_setF (Cs := [cLibrary]) (na_Library_p T) (de_var 0) (de_var 1))
    (dss_cons (ds_setF (Cs := [cLibrary]) (na_Library_books T) (de_var 0) (de_tupleC rfl (b_tuple T) (da_cons (de_fz (df_lc (own := [("book", 3)]) (g := (gName 3)) rfl nd (di_seq (de_var 2)) (L2.blkOk_by (by kernel_rfl)) (sgw_gN (by decide)) (fun _ _ _ _ _ => pg_name (i := 3) nd rfl (by first | exact Or.inl rfl | exact Or.inr rfl)) (fun _ _ _ _ _ => dts_nil) (fun _ _ _ _ _ => (de_tupleC rfl (b_tuple T) (da_cons (de_var 3) da_nil))))) da_nil)))
    (dss_cons (ds_setF (Cs := [cLibrary]) (na_Library_book_count T) (de_var 0) (de_len rfl (b_len T) (da_cons (de_fld (Cs := [cLibrary]) (na_Library_books T) (de_var 0)) da_nil)))
    (dss_cons (ds_setF (Cs := [cLibrary]) (na_Library_book_length T) (de_var 0) (de_len rfl (b_len T) (da_cons (de_ixU (de_fld (Cs := [cLibrary]) (na_Library_books T) (de_var 0)) de_int) da_nil)))
    (dss_one (ds_setF (Cs := [cLibrary]) (na_Library_letters T) (de_var 0) (de_tupleC rfl (b_tuple T) (da_cons (de_fz (df_lc2 (own := [("book", 3), ("letter", 4)]) (vs1 := [4]) (g := (gName 3)) (g1 := (gName 4)) rfl nd (di_seq (de_fld (Cs := [cLibrary]) (na_Library_books T) (de_var 0))) (L2.blkOk_by (by kernel_rfl)) (by decide) (sgw_gN (by decide)) (sgw_gN (by decide)) (fun _ _ _ _ _ => pg_name (i := 3) nd rfl (by first | exact Or.inl rfl | exact Or.inr rfl)) (fun _ _ _ _ _ => dts_nil) (fun _ _ _ _ _ => (di_seq (de_var 3))) (fun _ _ _ _ _ => pg_name (i := 4) nd rfl (by first | exact Or.inl rfl | exact Or.inr rfl)) (fun _ _ _ _ _ => dts_nil) (fun _ _ _ _ _ => (de_var 4)))) da_nil))))))))))
theorem cal_Library___init__ {w : World} {base : Heap} {K : PySem.W.Frag} {mg : Str → Option Value} (T : Tx K mg) : Cal PP w K mg base 5 (He.fAd K ("Library", some "__init__")) 3 m_Library___init__ [] := by
  obtain ⟨fd, F⟩ := T.says.def_ 12 (d := d_Library___init__)
  have FK := fk_Library___init__ (w := w) (base := base) T F
  have hb := F.bindsN (ps := ["self", "p", "books"]) (fun _ _ _ _ _ _ us hl => match us, hl with | [_, _, _], _ => rfl)
  exact ⟨fd, ["self", "p", "books"], [], [], FK, hb, .nil, .nil, F.kp⟩
theorem sc__law_same : FnScope ["found", "due", "at"] ["found", "due"] (defScope (top 28)) := ⟨rfl, rfl, rfl, by decide +kernel, rfl, by decide +kernel, by decide +kernel⟩
theorem cal__law_same {w : World} {base : Heap} {K : PySem.W.Frag} {mg : Str → Option Value} (T : Tx K mg) : ∀ r : Nat, Cal PP w K mg base (1 + r) (He.fAd K ("_law_same", none)) 2 (m__law_same r) []
  | 0 => by
    obtain ⟨fd, F⟩ := T.says.def_ 13 (d := d__law_same)
    have hb := F.bindsN (ps := ["found", "due"]) (fun _ _ _ _ _ _ us hl => match us, hl with | [_, _], _ => rfl)
    exact Cal.bot (x := d__law_same.name) (qual := d__law_same.qual) (st := top 28) F hb
  | r + 1 => by
    have ih := cal__law_same (w := w) (base := base) T r
    obtain ⟨fd, F⟩ := T.says.def_ 13 (d := d__law_same)
    have FK : FnOk PP w K mg base (L2.CX PP w) (1 + r + 1) (He.fAd K ("_law_same", none)) fd ["found", "due"] (toSp K 2 (m__law_same (r + 1))) := by
      refine fn_okD (t := t__law_same (m__law_same r)) F sc__law_same (fun cdv A outer s H E hr => ?_)
      have nd := sc__law_same.nd
      have hrs := hr
      exact (dss_cons (ds_if (dt_tru (de_isi (c := (.ty "tuple")) (isiF T) (de_var 1) (pc_ty rfl (b_tuple T) PyProof.Rows.Boot.«tuple») rfl (b_isinstance T) PyProof.Rows.Boot.«isinstance»)) (dss_cons (ds_if (dt_w (dw_or (dt_not (dt_tru (de_isi (c := (.ty "tuple")) (isiF T) (de_var 0) (pc_ty rfl (b_tuple T) PyProof.Rows.Boot.«tuple») rfl (b_isinstance T) PyProof.Rows.Boot.«isinstance»))) (dw_or1 (dt_cmp (op_neU hr.units) sem_ne (de_len rfl (b_len T) (da_cons (de_var 0) da_nil)) (de_len rfl (b_len T) (da_cons (de_var 1) da_nil)) (by rfl))))) (dss_one (ds_ret de_bl)) dss_nil)
    (dss_cons (ds_for (passes_of rfl) rfl (di_range1 rfl (b_range T) (da_cons (de_len rfl (b_len T) (da_cons (de_var 1) da_nil)) da_nil)) (pg_name (i := 2) nd rfl (by first | exact Or.inl rfl | exact Or.inr rfl)) sem_gN (dss_one (ds_if (dt_not (dt_tru (de_callC ih hrs (takes_of rfl rfl rfl rfl) rfl (g__law_same T) (da_cons (de_ixU (de_var 0) (de_var 2)) (da_cons (de_ixU (de_var 1) (de_var 2)) da_nil))))) (dss_one (ds_ret de_bl)) dss_nil)))
    (dss_one (ds_ret de_bl)))) dss_nil)
    (dss_one (ds_ret (de_and (de_isi (c := (.ty "int")) (isiF T) (de_var 0) (pc_ty rfl (b_int T) PyProof.Rows.Boot.«int») rfl (b_isinstance T) PyProof.Rows.Boot.«isinstance») (de_and (de_not (de_isi (c := (.ty "bool")) (isiF T) (de_var 0) (pc_ty rfl (b_bool T) PyProof.Rows.Boot.«bool») rfl (b_isinstance T) PyProof.Rows.Boot.«isinstance»)) (de_one (de_cmp (op_eqU hr.units) sem_eq (de_var 0) (de_var 1) (by rfl))))))))
    have hb := F.bindsN (ps := ["found", "due"]) (fun _ _ _ _ _ _ us hl => match us, hl with | [_, _], _ => rfl)
    exact ⟨fd, ["found", "due"], [], [], FK, hb, .nil, .nil, F.kp⟩
theorem sc__law_is_library : FnScope ["library", "p", "books", "letters", "book", "sizes"] ["library", "p", "books"] (defScope (top 29)) := ⟨rfl, rfl, rfl, by decide +kernel, rfl, by decide +kernel, by decide +kernel⟩
theorem fk__law_is_library {w : World} {base : Heap} {K : PySem.W.Frag} {mg : Str → Option Value} (T : Tx K mg) {fd : FuncData} (F : FunD K d__law_is_library.name d__law_is_library.qual d__law_is_library.params d__law_is_library.body d__law_is_library.scope (d__law_is_library.dvs K) (d__law_is_library.kws K) (He.fAd K d__law_is_library.at_) fd) : FnOk PP w K mg base (L2.CX PP w) 9 (He.fAd K ("_law_is_library", none)) fd ["library", "p", "books"] (toSp K 3 m__law_is_library) := by
  refine fn_okD (t := t__law_is_library) F sc__law_is_library (fun cdv A outer s H E hr => ?_)
  have nd := sc__law_is_library.nd
  exact (dss_cons (ds_if (dt_w (dw_or (dt_not (dt_tru (de_isi (c := (.own cLibrary)) (isiF T) (de_var 0) (pc_own rfl (g_Library T)) rfl (b_isinstance T) PyProof.Rows.Boot.«isinstance»))) (dw_or (dt_not (dt_tru (de_callC ((cal__law_same T 7).weak ok__law_same) (hr.mono (by decide)) (takes_of rfl rfl rfl rfl) rfl (g__law_same T) (da_cons (de_fld (Cs := [cLibrary]) (na_Library_p T) (de_var 0)) (da_cons (de_var 1) da_nil))))) (dw_or1 (dt_not (dt_tru (de_callC ((cal__law_same T 7).weak ok__law_same) (hr.mono (by decide)) (takes_of rfl rfl rfl rfl) rfl (g__law_same T) (da_cons (de_fld (Cs := [cLibrary]) (na_Library_books T) (de_var 0)) (da_cons (de_var 2) da_nil))))))))) (dss_one (ds_ret de_bl)) dss_nil)
    (dss_cons (ds_set (i := 3) nd rfl (by first | exact Or.inl rfl | exact Or.inr rfl) (de_tup da_nil))
    (dss_cons (ds_for (passes_of rfl) rfl (di_seq (de_var 2)) (pg_name (i := 4) nd rfl (by first | exact Or.inl rfl | exact Or.inr rfl)) sem_gN (dss_one (ds_set (i := 3) nd rfl (by first | exact Or.inl rfl | exact Or.inr rfl) (de_bin op_addU sem_add (de_var 3) (de_var 4)))))
    (dss_cons (ds_set (i := 5) nd rfl (by first | exact Or.inl rfl | exact Or.inr rfl) (de_tup (da_cons (de_fld (Cs := [cLibrary]) (na_Library_book_count T) (de_var 0)) (da_cons (de_fld (Cs := [cLibrary]) (na_Library_book_length T) (de_var 0)) da_nil))))
    (dss_one (ds_ret (de_and (de_callC ((cal__law_same T 7).weak ok__law_same) (hr.mono (by decide)) (takes_of rfl rfl rfl rfl) rfl (g__law_same T) (da_cons (de_var 5) (da_cons (de_tup (da_cons (de_len rfl (b_len T) (da_cons (de_var 2) da_nil)) (da_cons (de_len rfl (b_len T) (da_cons (de_ixU (de_var 2) de_int) da_nil)) da_nil))) da_nil))) (de_one (de_callC ((cal__law_same T 7).weak ok__law_same) (hr.mono (by decide)) (takes_of rfl rfl rfl rfl) rfl (g__law_same T) (da_cons (de_fld (Cs := [cLibrary]) (na_Library_letters T) (de_var 0)) (da_cons (de_var 3) da_nil)))))))))))
theorem cal__law_is_library {w : World} {base : Heap} {K : PySem.W.Frag} {mg : Str → Option Value} (T : Tx K mg) : Cal PP w K mg base 9 (He.fAd K ("_law_is_library", none)) 3 m__law_is_library [] := by
  obtain ⟨fd, F⟩ := T.says.def_ 14 (d := d__law_is_library)
  have FK := fk__law_is_library (w := w) (base := base) T F
  have hb := F.bindsN (ps := ["library", "p", "books"]) (fun _ _ _ _ _ _ us hl => match us, hl with | [_, _, _], _ => rfl)
  exact ⟨fd, ["library", "p", "books"], [], [], FK, hb, .nil, .nil, F.kp⟩
theorem sc_Library_book : FnScope ["self", "k"] ["self", "k"] (defScope (mth 18 2)) := ⟨rfl, rfl, rfl, by decide +kernel, rfl, by decide +kernel, by decide +kernel⟩
theorem fk_Library_book {w : World} {base : Heap} {K : PySem.W.Frag} {mg : Str → Option Value} (T : Tx K mg) {fd : FuncData} (F : FunD K d_Library_book.name d_Library_book.qual d_Library_book.params d_Library_book.body d_Library_book.scope (d_Library_book.dvs K) (d_Library_book.kws K) (He.fAd K d_Library_book.at_) fd) : FnOk PP w K mg base (L2.CX PP w) 3 (He.fAd K ("Library", some "book")) fd ["self", "k"] (toSp K 2 m_Library_book) := by
  refine fn_okD (t := t_Library_book) F sc_Library_book (fun cdv A outer s H E hr => ?_)
  have nd := sc_Library_book.nd
  exact (dss_cons (ds_if (dt_not (dt_tru (de_callC ((cal_is_place T).weak ok_is_place) (hr.mono (by decide)) (takes_of rfl rfl rfl rfl) rfl (g_is_place T) (da_cons (de_var 1) (da_cons (de_fld (Cs := [cLibrary]) (na_Library_book_count T) (de_var 0)) da_nil))))) (dss_one (ds_raise (e_InvalidNumber T) (hr.mono (by decide)) rfl (takes_of rfl rfl rfl rfl) rfl (da_cons (de_var 1) da_nil))) dss_nil)
    (dss_one (ds_ret (de_ixU (de_fld (Cs := [cLibrary]) (na_Library_books T) (de_var 0)) (de_var 1)))))
theorem cal_Library_book {w : World} {base : Heap} {K : PySem.W.Frag} {mg : Str → Option Value} (T : Tx K mg) : Cal PP w K mg base 3 (He.fAd K ("Library", some "book")) 2 m_Library_book [] := by
  obtain ⟨fd, F⟩ := T.says.def_ 15 (d := d_Library_book)
  have FK := fk_Library_book (w := w) (base := base) T F
  have hb := F.bindsN (ps := ["self", "k"]) (fun _ _ _ _ _ _ us hl => match us, hl with | [_, _], _ => rfl)
  exact ⟨fd, ["self", "k"], [], [], FK, hb, .nil, .nil, F.kp⟩
theorem sc_Library_changed : FnScope ["self", "k", "book"] ["self", "k", "book"] (defScope (mth 18 3)) := ⟨rfl, rfl, rfl, by decide +kernel, rfl, by decide +kernel, by decide +kernel⟩
theorem fk_Library_changed {w : World} {base : Heap} {K : PySem.W.Frag} {mg : Str → Option Value} (T : Tx K mg) {fd : FuncData} (F : FunD K d_Library_changed.name d_Library_changed.qual d_Library_changed.params d_Library_changed.body d_Library_changed.scope (d_Library_changed.dvs K) (d_Library_changed.kws K) (He.fAd K d_Library_changed.at_) fd) : FnOk PP w K mg base (L2.CX PP w) 7 (He.fAd K ("Library", some "changed")) fd ["self", "k", "book"] (toSp K 3 m_Library_changed) := by
  refine fn_okD (t := t_Library_changed) F sc_Library_changed (fun cdv A outer s H E hr => ?_)
  have nd := sc_Library_changed.nd
  exact (dss_cons (ds_if (dt_not (dt_tru (de_callC ((cal_is_place T).weak ok_is_place) (hr.mono (by decide)) (takes_of rfl rfl rfl rfl) rfl (g_is_place T) (da_cons (de_var 1) (da_cons (de_fld (Cs := [cLibrary]) (na_Library_book_count T) (de_var 0)) da_nil))))) (dss_one (ds_raise (e_InvalidNumber T) (hr.mono (by decide)) rfl (takes_of rfl rfl rfl rfl) rfl (da_cons (de_var 1) da_nil))) dss_nil)
    (dss_cons (ds_if (dt_w (dw_or (dt_not (dt_tru (de_callC ((cal_are_letters T).weak ok_are_letters) (hr.mono (by decide)) (takes_of rfl rfl rfl rfl) rfl (g_are_letters T) (da_cons (de_fld (Cs := [cLibrary]) (na_Library_p T) (de_var 0)) (da_cons (de_var 2) da_nil))))) (dw_or1 (dt_cmp (op_neU hr.units) sem_ne (de_len rfl (b_len T) (da_cons (de_var 2) da_nil)) (de_fld (Cs := [cLibrary]) (na_Library_book_length T) (de_var 0)) (by rfl))))) (dss_one (ds_raise (e_InvalidLibrary T) (hr.mono (by decide)) rfl (takes_of rfl rfl rfl rfl) rfl (da_cons (de_var 2) da_nil))) dss_nil)
    (dss_one (ds_ret (de_makePF ok_Library (cal_Library___init__ T) (mk_Library T) (hr.mono (by decide)) (takes_of rfl rfl rfl rfl) rfl (g_Library T) (da_cons (de_fld (Cs := [cLibrary]) (na_Library_p T) (de_var 0)) (da_cons (de_bin op_addU sem_add (de_bin op_addU sem_add (de_sl (de_fld (Cs := [cLibrary]) (na_Library_books T) (de_var 0)) do_none (do_some (de_var 1))) (de_tup (da_cons (de_tupleC rfl (b_tuple T) (da_cons (de_var 2) da_nil)) da_nil))) (de_sl (de_fld (Cs := [cLibrary]) (na_Library_books T) (de_var 0)) (do_some (de_bin op_addU sem_add (de_var 1) de_int)) do_none)) da_nil)))))))
theorem cal_Library_changed {w : World} {base : Heap} {K : PySem.W.Frag} {mg : Str → Option Value} (T : Tx K mg) : Cal PP w K mg base 7 (He.fAd K ("Library", some "changed")) 3 m_Library_changed [] := by
  obtain ⟨fd, F⟩ := T.says.def_ 16 (d := d_Library_changed)
  have FK := fk_Library_changed (w := w) (base := base) T F
  have hb := F.bindsN (ps := ["self", "k", "book"]) (fun _ _ _ _ _ _ us hl => match us, hl with | [_, _, _], _ => rfl)
  exact ⟨fd, ["self", "k", "book"], [], [], FK, hb, .nil, .nil, F.kp⟩
theorem sc_Library_of_letters : FnScope ["cls", "p", "book_length", "letters", "starts", "start"] ["cls", "p", "book_length", "letters"] (defScope (mth 18 4)) := ⟨rfl, rfl, rfl, by decide +kernel, rfl, by decide +kernel, by decide +kernel⟩
theorem fk_Library_of_letters {w : World} {base : Heap} {K : PySem.W.Frag} {mg : Str → Option Value} (T : Tx K mg) {fd : FuncData} (F : FunD K d_Library_of_letters.name d_Library_of_letters.qual d_Library_of_letters.params d_Library_of_letters.body d_Library_of_letters.scope (d_Library_of_letters.dvs K) (d_Library_of_letters.kws K) (d_Library_of_letters.at_ K) fd) : FnOk PP w K mg base (L2.CX PP w) 7 (cmA cLibrary "of_letters" K) fd ["cls", "p", "book_length", "letters"] (toSp K 4 m_Library_of_letters) := by
  refine fn_okD (t := t_Library_of_letters) F sc_Library_of_letters (fun cdv A outer s H E hr => ?_)
  have nd := sc_Library_of_letters.nd
  exact (dss_rg3 (k := 4) nd rfl (by first | exact Or.inl rfl | exact Or.inr rfl) rfl (b_range T) (da_cons de_int (da_cons (de_len rfl (b_len T) (da_cons (de_var 3) da_nil)) (da_cons (de_var 2) da_nil))) (fun rv0a rv0o rv0i rv0j rv0c rv0n hrv0ao hrv0an => (dss_one (ds_ret (de_makePFL (i := 0) ok_Library (cal_Library___init__ T) (mk_Library T) (hr.mono (by decide)) (takes_of rfl rfl rfl rfl) rfl (by first | exact Or.inl rfl | exact Or.inr (Or.inl rfl) | exact Or.inr (Or.inr rfl)) (da_cons (de_var 1) (da_cons (de_fz (df_lc (own := [("start", 5)]) (g := (gName 5)) rfl nd (di_rgv (k := 4) (List.mem_cons_self ..) hrv0ao hrv0an rfl (by first | exact Or.inl rfl | exact Or.inr (Or.inl rfl) | exact Or.inr (Or.inr rfl))) (L2.blkOk_by (by kernel_rfl)) (sgw_gN (by decide)) (fun _ _ _ _ _ => pg_name (i := 5) nd rfl (by first | exact Or.inl rfl | exact Or.inr rfl)) (fun _ _ _ _ _ => dts_nil) (fun _ _ _ _ _ => (de_tupleC rfl (b_tuple T) (da_cons (de_sl (de_var 3) (do_some (de_var 5)) (do_some (de_bin op_addU sem_add (de_var 5) (de_var 2)))) da_nil))))) da_nil)))))))
theorem cal_Library_of_letters {w : World} {base : Heap} {K : PySem.W.Frag} {mg : Str → Option Value} (T : Tx K mg) : Cal PP w K mg base 7 (cmA cLibrary "of_letters" K) 4 m_Library_of_letters [] := by
  obtain ⟨fd, F⟩ := T.says.cdef 0 (d := d_Library_of_letters)
  have FK := fk_Library_of_letters (w := w) (base := base) T F
  have hb := F.bindsN (ps := ["cls", "p", "book_length", "letters"]) (fun _ _ _ _ _ _ us hl => match us, hl with | [_, _, _, _], _ => rfl)
  exact ⟨fd, ["cls", "p", "book_length", "letters"], [], [], FK, hb, .nil, .nil, F.kp⟩
theorem sc_Library___eq__ : FnScope ["self", "other"] ["self", "other"] (defScope (mth 18 1)) := ⟨rfl, rfl, rfl, by decide +kernel, rfl, by decide +kernel, by decide +kernel⟩
theorem fk_Library___eq__ {w : World} {base : Heap} {K : PySem.W.Frag} {mg : Str → Option Value} (T : Tx K mg) {fd : FuncData} (F : FunD K d_Library___eq__.name d_Library___eq__.qual d_Library___eq__.params d_Library___eq__.body d_Library___eq__.scope (d_Library___eq__.dvs K) (d_Library___eq__.kws K) (He.fAd K d_Library___eq__.at_) fd) : FnOk PP w K mg base (L2.CX PP w) 1 (He.fAd K ("Library", some "__eq__")) fd ["self", "other"] (toSp K 2 m_Library___eq__) := by
  refine fn_okD (t := t_Library___eq__) F sc_Library___eq__ (fun cdv A outer s H E hr => ?_)
  have nd := sc_Library___eq__.nd
  exact (dss_one (ds_ret (de_and (de_isi (c := (.own cLibrary)) (isiF T) (de_var 1) (pc_own rfl (g_Library T)) rfl (b_isinstance T) PyProof.Rows.Boot.«isinstance») (de_and (de_cmp (op_eqU hr.units) sem_eq (de_fld (Cs := [cLibrary]) (na_Library_p T) (de_var 0)) (de_fld (Cs := [cLibrary]) (na_Library_p T) (de_var 1)) (by rfl)) (de_one (de_cmp (op_eqU hr.units) sem_eq (de_fld (Cs := [cLibrary]) (na_Library_books T) (de_var 0)) (de_fld (Cs := [cLibrary]) (na_Library_books T) (de_var 1)) (by rfl)))))))
theorem cal_Library___eq__ {w : World} {base : Heap} {K : PySem.W.Frag} {mg : Str → Option Value} (T : Tx K mg) : Cal PP w K mg base 1 (He.fAd K ("Library", some "__eq__")) 2 m_Library___eq__ [] := by
  obtain ⟨fd, F⟩ := T.says.def_ 17 (d := d_Library___eq__)
  have FK := fk_Library___eq__ (w := w) (base := base) T F
  have hb := F.bindsN (ps := ["self", "other"]) (fun _ _ _ _ _ _ us hl => match us, hl with | [_, _], _ => rfl)
  exact ⟨fd, ["self", "other"], [], [], FK, hb, .nil, .nil, F.kp⟩
theorem sc__law_equal : FnScope ["one", "other", "due", "found"] ["one", "other", "due"] (defScope (top 33)) := ⟨rfl, rfl, rfl, by decide +kernel, rfl, by decide +kernel, by decide +kernel⟩
theorem fk__law_equal {w : World} {base : Heap} {K : PySem.W.Frag} {mg : Str → Option Value} (T : Tx K mg) {fd : FuncData} (F : FunD K d__law_equal.name d__law_equal.qual d__law_equal.params d__law_equal.body d__law_equal.scope (d__law_equal.dvs K) (d__law_equal.kws K) (He.fAd K d__law_equal.at_) fd) : FnOk PP w K mg base (L2.CX PP w) 2 (He.fAd K ("_law_equal", none)) fd ["one", "other", "due"] (toSp K 3 m__law_equal) := by
  refine fn_okD (t := t__law_equal) F sc__law_equal (fun cdv A outer s H E hr => ?_)
  have nd := sc__law_equal.nd
  exact (dss_cons (ds_set (i := 3) nd rfl (by first | exact Or.inl rfl | exact Or.inr rfl) (de_fz (df_lst (da_cons (de_cmp (op_own2 (cal_Library___eq__ T) (me_Library___eq__ T) (eqf_Library T) (hr.mono (by decide)) (takes_of rfl rfl rfl rfl)) sem_own2 (de_var 0) (de_var 1) (by rfl)) (da_cons (de_cmp (op_own2 (cal_Library___eq__ T) (me_Library___eq__ T) (eqf_Library T) (hr.mono (by decide)) (takes_of rfl rfl rfl rfl)) sem_own2 (de_var 1) (de_var 0) (by rfl)) da_nil)))))
    (dss_one (ds_ret (de_and (de_isi (c := (.ty "bool")) (isiF T) (de_ixU (de_var 3) de_int) (pc_ty rfl (b_bool T) PyProof.Rows.Boot.«bool») rfl (b_isinstance T) PyProof.Rows.Boot.«isinstance») (de_and (de_isi (c := (.ty "bool")) (isiF T) (de_ixU (de_var 3) de_int) (pc_ty rfl (b_bool T) PyProof.Rows.Boot.«bool») rfl (b_isinstance T) PyProof.Rows.Boot.«isinstance») (de_one (de_cmp (op_eqU hr.units) sem_eq (de_var 3) (de_fz (df_lst (da_cons (de_var 2) (da_cons (de_var 2) da_nil)))) (by rfl))))))))
theorem cal__law_equal {w : World} {base : Heap} {K : PySem.W.Frag} {mg : Str → Option Value} (T : Tx K mg) : Cal PP w K mg base 2 (He.fAd K ("_law_equal", none)) 3 m__law_equal [] := by
  obtain ⟨fd, F⟩ := T.says.def_ 18 (d := d__law_equal)
  have FK := fk__law_equal (w := w) (base := base) T F
  have hb := F.bindsN (ps := ["one", "other", "due"]) (fun _ _ _ _ _ _ us hl => match us, hl with | [_, _, _], _ => rfl)
  exact ⟨fd, ["one", "other", "due"], [], [], FK, hb, .nil, .nil, F.kp⟩
theorem sc__law_odd : FnScope ["hand", "depth", "kind", "parts", "values", "k"] ["hand", "depth"] (defScope (top 23)) := ⟨rfl, rfl, rfl, by decide +kernel, rfl, by decide +kernel, by decide +kernel⟩
theorem cal__law_odd {w : World} {base : Heap} {K : PySem.W.Frag} {mg : Str → Option Value} (T : Tx K mg) : ∀ r : Nat, Cal PP w K mg base (2 + r) (He.fAd K ("_law_odd", none)) 2 (m__law_odd r) []
  | 0 => by
    obtain ⟨fd, F⟩ := T.says.def_ 19 (d := d__law_odd)
    have hb := F.bindsN (ps := ["hand", "depth"]) (fun _ _ _ _ _ _ us hl => match us, hl with | [_, _], _ => rfl)
    exact Cal.bot (x := d__law_odd.name) (qual := d__law_odd.qual) (st := top 23) F hb
  | r + 1 => by
    have ih := cal__law_odd (w := w) (base := base) T r
    obtain ⟨fd, F⟩ := T.says.def_ 19 (d := d__law_odd)
    have FK : FnOk PP w K mg base (L2.CX PP w) (2 + r + 1) (He.fAd K ("_law_odd", none)) fd ["hand", "depth"] (toSp K 2 (m__law_odd (r + 1))) := by
      refine fn_okD (t := t__law_odd (m__law_odd r)) F sc__law_odd (fun cdv A outer s H E hr => ?_)
      have nd := sc__law_odd.nd
      have hrs := hr
      exact (dss_cons (ds_set (i := 2) nd rfl (by first | exact Or.inl rfl | exact Or.inr rfl) (de_callC ((cal__law_take T).weak ok__law_take) (hr.mono (by omega)) (takes_of rfl rfl rfl rfl) rfl (g__law_take T) (da_cons (de_var 0) (da_cons de_int da_nil))))
    (dss_cons (ds_if (dt_w (dw_and (dt_cmp op_gt sem_gt (de_var 1) de_int (by rfl)) (dw_and1 (dt_cmp op_gt sem_gt (de_var 2) de_int (by rfl))))) (dss_cons (ds_setLc (ps_setLc (i := 3) (own := [("k", 5)]) (g := (gName 5)) rfl nd rfl rfl (sw_true rfl rfl rfl (by decide +kernel)) (di_range1 rfl (b_range T) (da_cons (de_callC ((cal__law_take T).weak ok__law_take) (hr.mono (by omega)) (takes_of rfl rfl rfl rfl) rfl (g__law_take T) (da_cons (de_var 0) (da_cons de_int da_nil))) da_nil)) (L2.blkOk_by (by kernel_rfl)) (fun _ _ _ _ _ => pg_name (i := 5) nd rfl (by first | exact Or.inl rfl | exact Or.inr rfl)) (fun _ _ _ _ _ => dts_nil) (fun _ _ _ _ _ => (de_callC ih hrs takes0 rfl (g__law_odd T) (da_cons (de_var 0) (da_cons (de_bin op_sub sem_sub (de_var 1) de_int) da_nil))))) (sgw_gN (by decide)) fz_F)
    (dss_one (ds_ret (de_ixU (de_fz (df_lst (da_cons (de_var 3) (da_cons (de_tupleC rfl (b_tuple T) (da_cons (de_var 3) da_nil)) da_nil)))) (de_bin op_sub sem_sub (de_var 2) de_int))))) dss_nil)
    (dss_cons (ds_set (i := 4) nd rfl (by first | exact Or.inl rfl | exact Or.inr rfl) (de_fz (df_lst (da_cons de_bl (da_cons de_bl (da_cons de_non (da_cons de_str (da_cons de_str (da_cons de_int (da_cons de_int (da_cons (de_neg de_int) (da_cons de_int (da_cons de_int (da_cons de_int (da_cons de_int (da_cons (de_bin op_pow sem_pow de_int de_int) (da_cons (de_neg (de_bin op_pow sem_pow de_int de_int)) (da_cons (de_tup da_nil) (da_cons (de_fz (df_lst da_nil)) da_nil)))))))))))))))))))
    (dss_one (ds_ret (de_ixU (de_var 4) (de_callC ((cal__law_take T).weak ok__law_take) (hr.mono (by omega)) (takes_of rfl rfl rfl rfl) rfl (g__law_take T) (da_cons (de_var 0) (da_cons de_int da_nil)))))))))
    have hb := F.bindsN (ps := ["hand", "depth"]) (fun _ _ _ _ _ _ us hl => match us, hl with | [_, _], _ => rfl)
    exact ⟨fd, ["hand", "depth"], [], [], FK, hb, .nil, .nil, F.kp⟩
theorem sc__law_no_field : FnScope ["hand", "value"] ["hand"] (defScope (top 26)) := ⟨rfl, rfl, rfl, by decide +kernel, rfl, by decide +kernel, by decide +kernel⟩
theorem fk__law_no_field {w : World} {base : Heap} {K : PySem.W.Frag} {mg : Str → Option Value} (T : Tx K mg) {fd : FuncData} (F : FunD K d__law_no_field.name d__law_no_field.qual d__law_no_field.params d__law_no_field.body d__law_no_field.scope (d__law_no_field.dvs K) (d__law_no_field.kws K) (He.fAd K d__law_no_field.at_) fd) : FnOk PP w K mg base (L2.CX PP w) 5 (He.fAd K ("_law_no_field", none)) fd ["hand"] (toSp K 1 m__law_no_field) := by
  refine fn_okD (t := t__law_no_field) F sc__law_no_field (fun cdv A outer s H E hr => ?_)
  have nd := sc__law_no_field.nd
  exact (dss_cons (ds_set (i := 1) nd rfl (by first | exact Or.inl rfl | exact Or.inr rfl) (de_ixU (de_fz (df_lst (da_cons (de_bin op_sub sem_sub (de_callC ((cal__law_take T).weak ok__law_take) (hr.mono (by decide)) (takes_of rfl rfl rfl rfl) rfl (g__law_take T) (da_cons (de_var 0) (da_cons de_int da_nil))) de_int) (da_cons (de_callC ((cal__law_odd T 2).weak ok__law_odd) (hr.mono (by decide)) (takes_of rfl rfl rfl rfl) rfl (g__law_odd T) (da_cons (de_var 0) (da_cons de_int da_nil))) (da_cons de_int (da_cons de_int (da_cons de_int (da_cons (de_neg de_int) (da_cons de_int (da_cons de_int da_nil)))))))))) (de_callC ((cal__law_take T).weak ok__law_take) (hr.mono (by decide)) (takes_of rfl rfl rfl rfl) rfl (g__law_take T) (da_cons (de_var 0) (da_cons de_int da_nil)))))
    (dss_cons (ds_if (dt_tru (de_callC ((cal__law_is_field T).weak ok__law_is_field) (hr.mono (by decide)) (takes_of rfl rfl rfl rfl) rfl (g__law_is_field T) (da_cons (de_var 1) da_nil))) (dss_one (ds_ret de_int)) dss_nil)
    (dss_one (ds_ret (de_var 1)))))
theorem cal__law_no_field {w : World} {base : Heap} {K : PySem.W.Frag} {mg : Str → Option Value} (T : Tx K mg) : Cal PP w K mg base 5 (He.fAd K ("_law_no_field", none)) 1 m__law_no_field [] := by
  obtain ⟨fd, F⟩ := T.says.def_ 20 (d := d__law_no_field)
  have FK := fk__law_no_field (w := w) (base := base) T F
  have hb := F.bindsN (ps := ["hand"]) (fun _ _ _ _ _ _ us hl => match us, hl with | [_], _ => rfl)
  exact ⟨fd, ["hand"], [], [], FK, hb, .nil, .nil, F.kp⟩
theorem sc_every_library : FnScope ["p", "book_count", "book_length", "rows", "_", "row", "letter"] ["p", "book_count", "book_length"] (defScope (top 19)) := ⟨rfl, rfl, rfl, by decide +kernel, rfl, by decide +kernel, by decide +kernel⟩
theorem fk_every_library {w : World} {base : Heap} {K : PySem.W.Frag} {mg : Str → Option Value} (T : Tx K mg) {fd : FuncData} (F : FunD K d_every_library.name d_every_library.qual d_every_library.params d_every_library.body d_every_library.scope (d_every_library.dvs K) (d_every_library.kws K) (He.fAd K d_every_library.at_) fd) : FnOk PP w K mg base (L2.CX PP w) 8 (He.fAd K ("every_library", none)) fd ["p", "book_count", "book_length"] (toSp K 3 m_every_library) := by
  refine fn_okD (t := t_every_library) F sc_every_library (fun cdv A outer s H E hr => ?_)
  have nd := sc_every_library.nd
  exact (dss_cons (ds_if (dt_not (dt_tru (de_callC ((cal_is_field T).weak ok_is_field) (hr.mono (by decide)) (takes_of rfl rfl rfl rfl) rfl (g_is_field T) (da_cons (de_var 0) da_nil)))) (dss_one (ds_raise (e_InvalidNumber T) (hr.mono (by decide)) rfl (takes_of rfl rfl rfl rfl) rfl (da_cons (de_var 0) da_nil))) dss_nil)
    (dss_cons (ds_set (i := 3) nd rfl (by first | exact Or.inl rfl | exact Or.inr rfl) (de_fz (df_lst (da_cons (de_tup da_nil) da_nil))))
    (dss_cons (ds_for (passes_of rfl) rfl (di_range1 rfl (b_range T) (da_cons (de_bin op_mulT sem_mulT (de_var 1) (de_var 2)) da_nil)) (pg_name (i := 4) nd rfl (by first | exact Or.inl rfl | exact Or.inr rfl)) sem_gN (dss_one (ds_setLc2 (ps_setLc2 (i := 3) (own := [("row", 5), ("letter", 6)]) (vs1 := [6]) (g := (gName 5)) (g1 := (gName 6)) rfl nd rfl rfl (sw_true rfl rfl rfl (by decide +kernel)) (di_seq (de_var 3)) (L2.blkOk_by (by kernel_rfl)) (by decide) (fun _ _ _ _ _ => pg_name (i := 5) nd rfl (by first | exact Or.inl rfl | exact Or.inr rfl)) (fun _ _ _ _ _ => dts_nil) (fun _ _ _ _ _ => (di_range1 rfl (b_range T) (da_cons (de_var 0) da_nil))) (fun _ _ _ _ _ => pg_name (i := 6) nd rfl (by first | exact Or.inl rfl | exact Or.inr rfl)) (fun _ _ _ _ _ => dts_nil) (fun _ _ _ _ _ => (de_bin op_addU sem_add (de_var 5) (de_tup (da_cons (de_var 6) da_nil))))) (sgw_gN (by decide)) (sgw_gN (by decide)) fz_F)))
    (dss_one (ds_ret (de_tupleC rfl (b_tuple T) (da_cons (de_fz (df_lc (own := [("row", 5)]) (g := (gName 5)) rfl nd (di_seq (de_var 3)) (L2.blkOk_by (by kernel_rfl)) (sgw_gN (by decide)) (fun _ _ _ _ _ => pg_name (i := 5) nd rfl (by first | exact Or.inl rfl | exact Or.inr rfl)) (fun _ _ _ _ _ => dts_nil) (fun _ _ _ _ _ => (de_cmeth (pl := _) ((cal_Library_of_letters T).weak ok_Library_of_letters) (cm_Library_of_letters T).1 (cm_Library_of_letters T).2 (hr.mono (by decide)) takes0 rfl (g_Library T) (da_cons (de_var 0) (da_cons (de_var 2) (da_cons (de_var 5) da_nil))))))) da_nil)))))))
theorem cal_every_library {w : World} {base : Heap} {K : PySem.W.Frag} {mg : Str → Option Value} (T : Tx K mg) : Cal PP w K mg base 8 (He.fAd K ("every_library", none)) 3 m_every_library [] := by
  obtain ⟨fd, F⟩ := T.says.def_ 21 (d := d_every_library)
  have FK := fk_every_library (w := w) (base := base) T F
  have hb := F.bindsN (ps := ["p", "book_count", "book_length"]) (fun _ _ _ _ _ _ us hl => match us, hl with | [_, _, _], _ => rfl)
  exact ⟨fd, ["p", "book_count", "book_length"], [], [], FK, hb, .nil, .nil, F.kp⟩
theorem sc__law_told : FnScope ["which", "library", "one", "two", "e"] ["which", "library", "one", "two"] (defScope (top 30)) := ⟨rfl, rfl, rfl, by decide +kernel, rfl, by decide +kernel, by decide +kernel⟩
theorem fk__law_told {w : World} {base : Heap} {K : PySem.W.Frag} {mg : Str → Option Value} (T : Tx K mg) {fd : FuncData} (F : FunD K d__law_told.name d__law_told.qual d__law_told.params d__law_told.body d__law_told.scope (d__law_told.dvs K) (d__law_told.kws K) (He.fAd K d__law_told.at_) fd) : FnOk PP w K mg base (L2.CX PP w) 9 (He.fAd K ("_law_told", none)) fd ["which", "library", "one", "two"] (toSp K 4 m__law_told) := by
  refine fn_okD (t := t__law_told) F sc__law_told (fun cdv A outer s H E hr => ?_)
  have nd := sc__law_told.nd
  exact (dss_cons (ds_try (l := h__law_told_5) rfl rfl (takes_of rfl rfl rfl rfl) (.named ⟨rfl, by decide, Or.inl (g_InvalidNumber T)⟩ (exm_InvalidNumber T) rfl nd rfl rfl (fun a ox dx C fs pn hz hf => (dss_one (ds_ret (de_fz (df_lst (da_cons de_str (da_cons (de_xf (Cs := [cInvalidNumber]) (xf_InvalidNumber_value T) hz hf (de_var 4)) da_nil))))))) (.named ⟨rfl, by decide, Or.inl (g_InvalidLibrary T)⟩ (exm_InvalidLibrary T) rfl nd rfl rfl (fun a ox dx C fs pn hz hf => (dss_one (ds_ret (de_fz (df_lst (da_cons de_str (da_cons (de_xf (Cs := [cInvalidLibrary]) (xf_InvalidLibrary_value T) hz hf (de_var 4)) da_nil))))))) (.nil))) (fun W1 pn1 xe1 tk1 hp1 => (dss_one (ds_if (dt_cmp (op_eqU hr.units) sem_eq (de_var 0) de_int (by rfl)) (dss_one (ds_expr (de_makePF ok_Library (cal_Library___init__ T) (mk_Library T) (hr.mono (by decide)) tk1 rfl (g_Library T) (da_cons (de_var 2) (da_cons (de_var 3) da_nil))))) (dss_one (ds_if (dt_cmp (op_eqU hr.units) sem_eq (de_var 0) de_int (by rfl)) (dss_one (ds_expr (de_methC (pl := _) ((cal_Library_book T).weak ok_Library_book) (de_var 1) (cl_Library T) (me_Library_book T) (hr.mono (by decide)) tk1 (da_cons (de_var 2) da_nil)))) (dss_one (ds_if (dt_cmp (op_eqU hr.units) sem_eq (de_var 0) de_int (by rfl)) (dss_one (ds_expr (de_methC (pl := _) ((cal_Library_changed T).weak ok_Library_changed) (de_var 1) (cl_Library T) (me_Library_changed T) (hr.mono (by decide)) tk1 (da_cons (de_var 2) (da_cons (de_var 3) da_nil))))) (dss_one (ds_if (dt_cmp (op_eqU hr.units) sem_eq (de_var 0) de_int (by rfl)) (dss_one (ds_expr (de_cmeth (pl := _) ((cal_Library_of_letters T).weak ok_Library_of_letters) (cm_Library_of_letters T).1 (cm_Library_of_letters T).2 (hr.mono (by decide)) tk1 rfl (g_Library T) (da_cons (de_var 2) (da_cons de_int (da_cons (de_fz (df_lst (da_cons de_int (da_cons de_int da_nil)))) da_nil)))))) (dss_one (ds_expr (de_callC ((cal_every_library T).weak ok_every_library) (hr.mono (by decide)) tk1 rfl (g_every_library T) (da_cons (de_var 2) (da_cons de_int (da_cons de_int da_nil))))))))))))))))
    (dss_one (ds_ret (de_fz (df_lst (da_cons de_str (da_cons de_int da_nil)))))))
theorem cal__law_told {w : World} {base : Heap} {K : PySem.W.Frag} {mg : Str → Option Value} (T : Tx K mg) : Cal PP w K mg base 9 (He.fAd K ("_law_told", none)) 4 m__law_told [] := by
  obtain ⟨fd, F⟩ := T.says.def_ 22 (d := d__law_told)
  have FK := fk__law_told (w := w) (base := base) T F
  have hb := F.bindsN (ps := ["which", "library", "one", "two"]) (fun _ _ _ _ _ _ us hl => match us, hl with | [_, _, _, _], _ => rfl)
  exact ⟨fd, ["which", "library", "one", "two"], [], [], FK, hb, .nil, .nil, F.kp⟩
theorem sc__law_bad_book : FnScope ["hand", "book", "p", "at", "letter", "bad"] ["hand", "book", "p"] (defScope (top 31)) := ⟨rfl, rfl, rfl, by decide +kernel, rfl, by decide +kernel, by decide +kernel⟩
theorem fk__law_bad_book {w : World} {base : Heap} {K : PySem.W.Frag} {mg : Str → Option Value} (T : Tx K mg) {fd : FuncData} (F : FunD K d__law_bad_book.name d__law_bad_book.qual d__law_bad_book.params d__law_bad_book.body d__law_bad_book.scope (d__law_bad_book.dvs K) (d__law_bad_book.kws K) (He.fAd K d__law_bad_book.at_) fd) : FnOk PP w K mg base (L2.CX PP w) 2 (He.fAd K ("_law_bad_book", none)) fd ["hand", "book", "p"] (toSp K 3 m__law_bad_book) := by
  refine fn_okD (t := t__law_bad_book) F sc__law_bad_book (fun cdv A outer s H E hr => ?_)
  have nd := sc__law_bad_book.nd
  exact (dss_cons (ds_set (i := 3) nd rfl (by first | exact Or.inl rfl | exact Or.inr rfl) (de_callC ((cal__law_take T).weak ok__law_take) (hr.mono (by decide)) (takes_of rfl rfl rfl rfl) rfl (g__law_take T) (da_cons (de_var 0) (da_cons (de_len rfl (b_len T) (da_cons (de_var 1) da_nil)) da_nil))))
    (dss_cons (ds_set (i := 4) nd rfl (by first | exact Or.inl rfl | exact Or.inr rfl) (de_ixU (de_fz (df_lst (da_cons (de_var 2) (da_cons (de_neg de_int) (da_cons de_bl (da_cons de_non (da_cons de_str (da_cons (de_tup (da_cons de_int da_nil)) (da_cons (de_bin op_addU sem_add (de_var 2) (de_bin op_pow sem_pow de_int de_int)) da_nil))))))))) (de_callC ((cal__law_take T).weak ok__law_take) (hr.mono (by decide)) (takes_of rfl rfl rfl rfl) rfl (g__law_take T) (da_cons (de_var 0) (da_cons de_int da_nil)))))
    (dss_cons (ds_set (i := 5) nd rfl (by first | exact Or.inl rfl | exact Or.inr rfl) (de_bin op_addU sem_add (de_bin op_addU sem_add (de_sl (de_var 1) do_none (do_some (de_var 3))) (de_tup (da_cons (de_var 4) da_nil))) (de_sl (de_var 1) (do_some (de_bin op_addU sem_add (de_var 3) de_int)) do_none)))
    (dss_one (ds_ret (de_ixU (de_fz (df_lst (da_cons (de_var 5) (da_cons (de_fz (df_listC rfl (b_list T) (da_cons (de_var 5) da_nil))) (da_cons (de_bin op_addU sem_add (de_var 1) (de_tup (da_cons de_int da_nil))) (da_cons (de_sl (de_var 1) (do_some de_int) do_none) (da_cons de_non (da_cons de_int (da_cons de_str (da_cons (de_fz (df_lst da_nil)) (da_cons (de_tup (da_cons (de_var 1) da_nil)) da_nil))))))))))) (de_callC ((cal__law_take T).weak ok__law_take) (hr.mono (by decide)) (takes_of rfl rfl rfl rfl) rfl (g__law_take T) (da_cons (de_var 0) (da_cons de_int da_nil)))))))))
theorem cal__law_bad_book {w : World} {base : Heap} {K : PySem.W.Frag} {mg : Str → Option Value} (T : Tx K mg) : Cal PP w K mg base 2 (He.fAd K ("_law_bad_book", none)) 3 m__law_bad_book [] := by
  obtain ⟨fd, F⟩ := T.says.def_ 23 (d := d__law_bad_book)
  have FK := fk__law_bad_book (w := w) (base := base) T F
  have hb := F.bindsN (ps := ["hand", "book", "p"]) (fun _ _ _ _ _ _ us hl => match us, hl with | [_, _, _], _ => rfl)
  exact ⟨fd, ["hand", "book", "p"], [], [], FK, hb, .nil, .nil, F.kp⟩
theorem sc__law_bad_books : FnScope ["hand", "books", "p", "kind", "at", "bad", "found"] ["hand", "books", "p"] (defScope (top 32)) := ⟨rfl, rfl, rfl, by decide +kernel, rfl, by decide +kernel, by decide +kernel⟩
theorem fk__law_bad_books {w : World} {base : Heap} {K : PySem.W.Frag} {mg : Str → Option Value} (T : Tx K mg) {fd : FuncData} (F : FunD K d__law_bad_books.name d__law_bad_books.qual d__law_bad_books.params d__law_bad_books.body d__law_bad_books.scope (d__law_bad_books.dvs K) (d__law_bad_books.kws K) (He.fAd K d__law_bad_books.at_) fd) : FnOk PP w K mg base (L2.CX PP w) 3 (He.fAd K ("_law_bad_books", none)) fd ["hand", "books", "p"] (toSp K 3 m__law_bad_books) := by
  refine fn_okD (t := t__law_bad_books) F sc__law_bad_books (fun cdv A outer s H E hr => ?_)
  have nd := sc__law_bad_books.nd
  exact (dss_cons (ds_set (i := 3) nd rfl (by first | exact Or.inl rfl | exact Or.inr rfl) (de_callC ((cal__law_take T).weak ok__law_take) (hr.mono (by decide)) (takes_of rfl rfl rfl rfl) rfl (g__law_take T) (da_cons (de_var 0) (da_cons de_int da_nil))))
    (dss_cons (ds_if (dt_cmp (op_eqU hr.units) sem_eq (de_var 3) de_int (by rfl)) (dss_one (ds_ret (de_ixU (de_fz (df_lst (da_cons (de_tup da_nil) (da_cons (de_fz (df_lst da_nil)) (da_cons (de_fz (df_lst (da_cons (de_fz (df_lst da_nil)) da_nil))) (da_cons (de_bin op_mulT sem_mulT (de_tup (da_cons (de_tup da_nil) da_nil)) de_int) (da_cons de_non (da_cons de_int (da_cons de_str (da_cons (de_tup (da_cons de_int da_nil)) (da_cons de_bl da_nil))))))))))) (de_callC ((cal__law_take T).weak ok__law_take) (hr.mono (by decide)) (takes_of rfl rfl rfl rfl) rfl (g__law_take T) (da_cons (de_var 0) (da_cons de_int da_nil)))))) dss_nil)
    (dss_cons (ds_set (i := 4) nd rfl (by first | exact Or.inl rfl | exact Or.inr rfl) (de_callC ((cal__law_take T).weak ok__law_take) (hr.mono (by decide)) (takes_of rfl rfl rfl rfl) rfl (g__law_take T) (da_cons (de_var 0) (da_cons (de_len rfl (b_len T) (da_cons (de_var 1) da_nil)) da_nil))))
    (dss_cons (ds_set (i := 5) nd rfl (by first | exact Or.inl rfl | exact Or.inr rfl) (de_callC ((cal__law_bad_book T).weak ok__law_bad_book) (hr.mono (by decide)) (takes_of rfl rfl rfl rfl) rfl (g__law_bad_book T) (da_cons (de_var 0) (da_cons (de_ixU (de_var 1) (de_var 4)) (da_cons (de_var 2) da_nil)))))
    (dss_cons (ds_if (dt_w (dw_and (dt_cmp (op_eqU hr.units) sem_eq (de_len rfl (b_len T) (da_cons (de_var 1) da_nil)) de_int (by rfl)) (dw_and1 (dt_cmp (op_eqU hr.units) sem_eq (de_var 5) (de_bin op_addU sem_add (de_ixU (de_var 1) de_int) (de_tup (da_cons de_int da_nil))) (by rfl))))) (dss_one (ds_set (i := 5) nd rfl (by first | exact Or.inl rfl | exact Or.inr rfl) (de_tup da_nil))) dss_nil)
    (dss_cons (ds_if (dt_w (dw_and (dt_cmp (op_eqU hr.units) sem_eq (de_len rfl (b_len T) (da_cons (de_var 1) da_nil)) de_int (by rfl)) (dw_and1 (dt_cmp (op_eqU hr.units) sem_eq (de_var 5) (de_sl (de_ixU (de_var 1) de_int) (do_some de_int) do_none) (by rfl))))) (dss_one (ds_set (i := 5) nd rfl (by first | exact Or.inl rfl | exact Or.inr rfl) (de_tup da_nil))) dss_nil)
    (dss_cons (ds_set (i := 6) nd rfl (by first | exact Or.inl rfl | exact Or.inr rfl) (de_bin op_addU sem_add (de_bin op_addU sem_add (de_fz (df_listC rfl (b_list T) (da_cons (de_sl (de_var 1) do_none (do_some (de_var 4))) da_nil))) (de_fz (df_lst (da_cons (de_var 5) da_nil)))) (de_fz (df_listC rfl (b_list T) (da_cons (de_sl (de_var 1) (do_some (de_bin op_addU sem_add (de_var 4) de_int)) do_none) da_nil)))))
    (dss_one (ds_ret (de_ixU (de_fz (df_lst (da_cons (de_var 6) (da_cons (de_tupleC rfl (b_tuple T) (da_cons (de_var 6) da_nil)) da_nil)))) (de_callC ((cal__law_take T).weak ok__law_take) (hr.mono (by decide)) (takes_of rfl rfl rfl rfl) rfl (g__law_take T) (da_cons (de_var 0) (da_cons de_int da_nil)))))))))))))
theorem cal__law_bad_books {w : World} {base : Heap} {K : PySem.W.Frag} {mg : Str → Option Value} (T : Tx K mg) : Cal PP w K mg base 3 (He.fAd K ("_law_bad_books", none)) 3 m__law_bad_books [] := by
  obtain ⟨fd, F⟩ := T.says.def_ 24 (d := d__law_bad_books)
  have FK := fk__law_bad_books (w := w) (base := base) T F
  have hb := F.bindsN (ps := ["hand", "books", "p"]) (fun _ _ _ _ _ _ us hl => match us, hl with | [_, _, _], _ => rfl)
  exact ⟨fd, ["hand", "books", "p"], [], [], FK, hb, .nil, .nil, F.kp⟩
theorem sc__law_every : FnScope ["hand", "p", "count", "size", "found", "many", "step", "at", "rest", "letters", "books", "k"] ["hand"] (defScope (top 34)) := ⟨rfl, rfl, rfl, by decide +kernel, rfl, by decide +kernel, by decide +kernel⟩
theorem fk__law_every {w : World} {base : Heap} {K : PySem.W.Frag} {mg : Str → Option Value} (T : Tx K mg) {fd : FuncData} (F : FunD K d__law_every.name d__law_every.qual d__law_every.params d__law_every.body d__law_every.scope (d__law_every.dvs K) (d__law_every.kws K) (He.fAd K d__law_every.at_) fd) : FnOk PP w K mg base (L2.CX PP w) 10 (He.fAd K ("_law_every", none)) fd ["hand"] (toSp K 1 m__law_every) := by
  refine fn_okD (t := t__law_every) F sc__law_every (fun cdv A outer s H E hr => ?_)
  have nd := sc__law_every.nd
  exact (dss_cons (ds_set (i := 1) nd rfl (by first | exact Or.inl rfl | exact Or.inr rfl) (de_bin op_addU sem_add de_int (de_callC ((cal__law_take T).weak ok__law_take) (hr.mono (by decide)) (takes_of rfl rfl rfl rfl) rfl (g__law_take T) (da_cons (de_var 0) (da_cons de_int da_nil)))))
    (dss_cons (ds_set (i := 2) nd rfl (by first | exact Or.inl rfl | exact Or.inr rfl) (de_bin op_addU sem_add de_int (de_callC ((cal__law_take T).weak ok__law_take) (hr.mono (by decide)) (takes_of rfl rfl rfl rfl) rfl (g__law_take T) (da_cons (de_var 0) (da_cons de_int da_nil)))))
    (dss_cons (ds_set (i := 3) nd rfl (by first | exact Or.inl rfl | exact Or.inr rfl) (de_ixU (de_fz (df_lst (da_cons de_int (da_cons de_int (da_cons de_int da_nil))))) (de_callC ((cal__law_take T).weak ok__law_take) (hr.mono (by decide)) (takes_of rfl rfl rfl rfl) rfl (g__law_take T) (da_cons (de_var 0) (da_cons de_int da_nil)))))
    (dss_cons (ds_if (dt_cmp op_gt sem_gt (de_bin op_mulT sem_mulT (de_var 2) (de_var 3)) de_int (by rfl)) (dss_one (ds_set (i := 3) nd rfl (by first | exact Or.inl rfl | exact Or.inr rfl) de_int)) dss_nil)
    (dss_cons (ds_set (i := 4) nd rfl (by first | exact Or.inl rfl | exact Or.inr rfl) (de_callC ((cal_every_library T).weak ok_every_library) (hr.mono (by decide)) (takes_of rfl rfl rfl rfl) rfl (g_every_library T) (da_cons (de_var 1) (da_cons (de_var 2) (da_cons (de_var 3) da_nil)))))
    (dss_cons (ds_set (i := 5) nd rfl (by first | exact Or.inl rfl | exact Or.inr rfl) de_int)
    (dss_cons (ds_for (passes_of rfl) rfl (di_range1 rfl (b_range T) (da_cons (de_bin op_mulT sem_mulT (de_var 2) (de_var 3)) da_nil)) (pg_name (i := 6) nd rfl (by first | exact Or.inl rfl | exact Or.inr rfl)) sem_gN (dss_one (ds_set (i := 5) nd rfl (by first | exact Or.inl rfl | exact Or.inr rfl) (de_bin op_mulT sem_mulT (de_var 5) (de_var 1)))))
    (dss_cons (ds_if (dt_w (dw_or (dt_not (dt_tru (de_isi (c := (.ty "tuple")) (isiF T) (de_var 4) (pc_ty rfl (b_tuple T) PyProof.Rows.Boot.«tuple») rfl (b_isinstance T) PyProof.Rows.Boot.«isinstance»))) (dw_or1 (dt_cmp (op_neU hr.units) sem_ne (de_len rfl (b_len T) (da_cons (de_var 4) da_nil)) (de_var 5) (by rfl))))) (dss_one (ds_ret de_bl)) dss_nil)
    (dss_cons (ds_for (passes_of rfl) rfl (di_range1 rfl (b_range T) (da_cons (de_var 5) da_nil)) (pg_name (i := 7) nd rfl (by first | exact Or.inl rfl | exact Or.inr rfl)) sem_gN (dss_cons (ds_set (i := 8) nd rfl (by first | exact Or.inl rfl | exact Or.inr rfl) (de_intC rfl (b_int T) (da_cons (de_var 7) da_nil)))
    (dss_cons (ds_set (i := 9) nd rfl (by first | exact Or.inl rfl | exact Or.inr rfl) (de_new (df_lst da_nil)))
    (dss_cons (ds_for (passes_of rfl) rfl (di_range1 rfl (b_range T) (da_cons (de_bin op_mulT sem_mulT (de_var 2) (de_var 3)) da_nil)) (pg_name (i := 6) nd rfl (by first | exact Or.inl rfl | exact Or.inr rfl)) sem_gN (dss_cons (ds_expr (de_app (de_var 9) (de_bin op_modU sem_mod (de_intC rfl (b_int T) (da_cons (de_var 8) da_nil)) (de_var 1))))
    (dss_one (ds_set (i := 8) nd rfl (by first | exact Or.inl rfl | exact Or.inr rfl) (de_bin op_fdU sem_fd (de_var 8) (de_var 1))))))
    (dss_cons (ds_set (i := 9) nd rfl (by first | exact Or.inl rfl | exact Or.inr rfl) (de_tupleC rfl (b_tuple T) (da_cons (de_slS (de_var 9) do_none do_none (do_some (de_neg de_int))) da_nil)))
    (dss_cons (ds_set (i := 10) nd rfl (by first | exact Or.inl rfl | exact Or.inr rfl) (de_tupleC rfl (b_tuple T) (da_cons (de_fz (df_lc (own := [("k", 11)]) (g := (gName 11)) rfl nd (di_range1 rfl (b_range T) (da_cons (de_var 2) da_nil)) (L2.blkOk_by (by kernel_rfl)) (sgw_gN (by decide)) (fun _ _ _ _ _ => pg_name (i := 11) nd rfl (by first | exact Or.inl rfl | exact Or.inr rfl)) (fun _ _ _ _ _ => dts_nil) (fun _ _ _ _ _ => (de_sl (de_var 9) (do_some (de_bin op_mulT sem_mulT (de_var 11) (de_var 3))) (do_some (de_bin op_addU sem_add (de_bin op_mulT sem_mulT (de_var 11) (de_var 3)) (de_var 3))))))) da_nil)))
    (dss_one (ds_if (dt_not (dt_tru (de_callC ((cal__law_is_library T).weak ok__law_is_library) (hr.mono (by decide)) (takes_of rfl rfl rfl rfl) rfl (g__law_is_library T) (da_cons (de_ixU (de_var 4) (de_var 7)) (da_cons (de_var 1) (da_cons (de_var 10) da_nil)))))) (dss_one (ds_ret de_bl)) dss_nil))))))))
    (dss_one (ds_ret de_bl)))))))))))
theorem cal__law_every {w : World} {base : Heap} {K : PySem.W.Frag} {mg : Str → Option Value} (T : Tx K mg) : Cal PP w K mg base 10 (He.fAd K ("_law_every", none)) 1 m__law_every [] := by
  obtain ⟨fd, F⟩ := T.says.def_ 25 (d := d__law_every)
  have FK := fk__law_every (w := w) (base := base) T F
  have hb := F.bindsN (ps := ["hand"]) (fun _ _ _ _ _ _ us hl => match us, hl with | [_], _ => rfl)
  exact ⟨fd, ["hand"], [], [], FK, hb, .nil, .nil, F.kp⟩
theorem sc_law : FnScope ["script", "hand", "p", "count", "size", "books", "passed", "library", "at", "new", "changed", "letters", "book", "other", "one", "wrong", "found", "bad", "place", "which", "q"] ["script"] (defScope (top 35)) := ⟨rfl, rfl, rfl, by decide +kernel, rfl, by decide +kernel, by decide +kernel⟩
theorem fk_law {w : World} {base : Heap} {K : PySem.W.Frag} {mg : Str → Option Value} (T : Tx K mg) {fd : FuncData} (F : FunD K d_law.name d_law.qual d_law.params d_law.body d_law.scope (d_law.dvs K) (d_law.kws K) (He.fAd K d_law.at_) fd) : FnOk PP w K mg base (L2.CX PP w) 11 (He.fAd K ("law", none)) fd ["script"] (toSp K 1 m_law) := by
  refine fn_okD (t := t_law) F sc_law (fun cdv A outer s H E hr => ?_)
  have nd := sc_law.nd
  exact (dss_cons (ds_set (i := 1) nd rfl (by first | exact Or.inl rfl | exact Or.inr rfl) (de_new (df_lst (da_cons (de_callC ((cal__law_draws T).weak ok__law_draws) (hr.mono (by decide)) (takes_of rfl rfl rfl rfl) rfl (g__law_draws T) (da_cons (de_var 0) (da_cons de_int da_nil))) (da_cons de_int da_nil)))))
    (dss_cons (ds_set (i := 2) nd rfl (by first | exact Or.inl rfl | exact Or.inr rfl) (de_callC ((cal__law_field T).weak ok__law_field) (hr.mono (by decide)) (takes_of rfl rfl rfl rfl) rfl (g__law_field T) (da_cons (de_var 1) da_nil)))
    (dss_cons (ds_set (i := 3) nd rfl (by first | exact Or.inl rfl | exact Or.inr rfl) (de_bin op_addU sem_add de_int (de_callC ((cal__law_take T).weak ok__law_take) (hr.mono (by decide)) (takes_of rfl rfl rfl rfl) rfl (g__law_take T) (da_cons (de_var 1) (da_cons de_int da_nil)))))
    (dss_cons (ds_set (i := 4) nd rfl (by first | exact Or.inl rfl | exact Or.inr rfl) (de_bin op_addU sem_add de_int (de_callC ((cal__law_take T).weak ok__law_take) (hr.mono (by decide)) (takes_of rfl rfl rfl rfl) rfl (g__law_take T) (da_cons (de_var 1) (da_cons de_int da_nil)))))
    (dss_cons (ds_set (i := 5) nd rfl (by first | exact Or.inl rfl | exact Or.inr rfl) (de_callC ((cal__law_books T).weak ok__law_books) (hr.mono (by decide)) (takes_of rfl rfl rfl rfl) rfl (g__law_books T) (da_cons (de_var 1) (da_cons (de_var 2) (da_cons (de_var 3) (da_cons (de_var 4) da_nil))))))
    (dss_cons (ds_setLc (ps_setLc (i := 6) (own := [("book", 12)]) (g := (gName 12)) rfl nd rfl rfl (sw_true rfl rfl rfl (by decide +kernel)) (di_seq (de_var 5)) (L2.blkOk_by (by kernel_rfl)) (fun _ _ _ _ _ => pg_name (i := 12) nd rfl (by first | exact Or.inl rfl | exact Or.inr rfl)) (fun _ _ _ _ _ => dts_nil) (fun _ _ _ _ _ => (de_new (df_listC rfl (b_list T) (da_cons (de_var 12) da_nil))))) (sgw_gN (by decide)) new_F)
    (dss_cons (ds_set (i := 7) nd rfl (by first | exact Or.inl rfl | exact Or.inr rfl) (de_makePF ok_Library (cal_Library___init__ T) (mk_Library T) (hr.mono (by decide)) (takes_of rfl rfl rfl rfl) rfl (g_Library T) (da_cons (de_var 2) (da_cons (de_var 6) da_nil))))
    (dss_cons (ds_setI (de_ixU (de_var 6) de_int) de_int (de_bin op_addU sem_add (de_var 2) de_int))
    (dss_cons (ds_expr (de_app (de_var 6) (de_fz (df_lst (da_cons de_int da_nil)))))
    (dss_cons (ds_if (dt_w (dw_or (dt_not (dt_tru (de_callC ((cal__law_is_library T).weak ok__law_is_library) (hr.mono (by decide)) (takes_of rfl rfl rfl rfl) rfl (g__law_is_library T) (da_cons (de_var 7) (da_cons (de_var 2) (da_cons (de_var 5) da_nil)))))) (dw_or1 (dt_not (dt_tru (de_callC ((cal__law_is_library T).weak ok__law_is_library) (hr.mono (by decide)) (takes_of rfl rfl rfl rfl) rfl (g__law_is_library T) (da_cons (de_makePF ok_Library (cal_Library___init__ T) (mk_Library T) (hr.mono (by decide)) (takes_of rfl rfl rfl rfl) rfl (g_Library T) (da_cons (de_var 2) (da_cons (de_var 5) da_nil))) (da_cons (de_var 2) (da_cons (de_var 5) da_nil))))))))) (dss_one (ds_ret de_bl)) dss_nil)
    (dss_cons (ds_set (i := 8) nd rfl (by first | exact Or.inl rfl | exact Or.inr rfl) (de_callC ((cal__law_take T).weak ok__law_take) (hr.mono (by decide)) (takes_of rfl rfl rfl rfl) rfl (g__law_take T) (da_cons (de_var 1) (da_cons (de_var 3) da_nil))))
    (dss_cons (ds_set (i := 9) nd rfl (by first | exact Or.inl rfl | exact Or.inr rfl) (de_ixU (de_callC ((cal__law_books T).weak ok__law_books) (hr.mono (by decide)) (takes_of rfl rfl rfl rfl) rfl (g__law_books T) (da_cons (de_var 1) (da_cons (de_var 2) (da_cons de_int (da_cons (de_var 4) da_nil))))) de_int))
    (dss_cons (ds_set (i := 10) nd rfl (by first | exact Or.inl rfl | exact Or.inr rfl) (de_bin op_addU sem_add (de_bin op_addU sem_add (de_sl (de_var 5) do_none (do_some (de_var 8))) (de_tup (da_cons (de_var 9) da_nil))) (de_sl (de_var 5) (do_some (de_bin op_addU sem_add (de_var 8) de_int)) do_none)))
    (dss_cons (ds_if (dt_w (dw_or (dt_not (dt_tru (de_callC ((cal__law_same T 7).weak ok__law_same) (hr.mono (by decide)) (takes_of rfl rfl rfl rfl) rfl (g__law_same T) (da_cons (de_methC (pl := _) ((cal_Library_book T).weak ok_Library_book) (de_var 7) (cl_Library T) (me_Library_book T) (hr.mono (by decide)) (takes_of rfl rfl rfl rfl) (da_cons (de_var 8) da_nil)) (da_cons (de_ixU (de_var 5) (de_var 8)) da_nil))))) (dw_or1 (dt_not (dt_tru (de_callC ((cal__law_is_library T).weak ok__law_is_library) (hr.mono (by decide)) (takes_of rfl rfl rfl rfl) rfl (g__law_is_library T) (da_cons (de_methC (pl := _) ((cal_Library_changed T).weak ok_Library_changed) (de_var 7) (cl_Library T) (me_Library_changed T) (hr.mono (by decide)) (takes_of rfl rfl rfl rfl) (da_cons (de_var 8) (da_cons (de_fz (df_listC rfl (b_list T) (da_cons (de_var 9) da_nil))) da_nil))) (da_cons (de_var 2) (da_cons (de_var 10) da_nil))))))))) (dss_one (ds_ret de_bl)) dss_nil)
    (dss_cons (ds_set (i := 11) nd rfl (by first | exact Or.inl rfl | exact Or.inr rfl) (de_fz (df_lst da_nil)))
    (dss_cons (ds_for (passes_of rfl) rfl (di_seq (de_var 5)) (pg_name (i := 12) nd rfl (by first | exact Or.inl rfl | exact Or.inr rfl)) sem_gN (dss_one (ds_set (i := 11) nd rfl (by first | exact Or.inl rfl | exact Or.inr rfl) (de_bin op_addU sem_add (de_var 11) (de_fz (df_listC rfl (b_list T) (da_cons (de_var 12) da_nil)))))))
    (dss_cons (ds_if (dt_w (dw_or (dt_not (dt_tru (de_callC ((cal__law_is_library T).weak ok__law_is_library) (hr.mono (by decide)) (takes_of rfl rfl rfl rfl) rfl (g__law_is_library T) (da_cons (de_cmeth (pl := _) ((cal_Library_of_letters T).weak ok_Library_of_letters) (cm_Library_of_letters T).1 (cm_Library_of_letters T).2 (hr.mono (by decide)) (takes_of rfl rfl rfl rfl) rfl (g_Library T) (da_cons (de_var 2) (da_cons (de_var 4) (da_cons (de_var 11) da_nil)))) (da_cons (de_var 2) (da_cons (de_var 5) da_nil)))))) (dw_or1 (dt_not (dt_tru (de_callC ((cal__law_is_library T).weak ok__law_is_library) (hr.mono (by decide)) (takes_of rfl rfl rfl rfl) rfl (g__law_is_library T) (da_cons (de_var 7) (da_cons (de_var 2) (da_cons (de_var 5) da_nil))))))))) (dss_one (ds_ret de_bl)) dss_nil)
    (dss_cons (ds_if (dt_w (dw_or (dt_not (dt_tru (de_callC ((cal__law_equal T).weak ok__law_equal) (hr.mono (by decide)) (takes_of rfl rfl rfl rfl) rfl (g__law_equal T) (da_cons (de_var 7) (da_cons (de_makePF ok_Library (cal_Library___init__ T) (mk_Library T) (hr.mono (by decide)) (takes_of rfl rfl rfl rfl) rfl (g_Library T) (da_cons (de_var 2) (da_cons (de_fz (df_lc (own := [("book", 12)]) (g := (gName 12)) rfl nd (di_seq (de_var 5)) (L2.blkOk_by (by kernel_rfl)) (sgw_gN (by decide)) (fun _ _ _ _ _ => pg_name (i := 12) nd rfl (by first | exact Or.inl rfl | exact Or.inr rfl)) (fun _ _ _ _ _ => dts_nil) (fun _ _ _ _ _ => (de_fz (df_listC rfl (b_list T) (da_cons (de_var 12) da_nil)))))) da_nil))) (da_cons de_bl da_nil)))))) (dw_or1 (dt_not (dt_tru (de_callC ((cal__law_equal T).weak ok__law_equal) (hr.mono (by decide)) (takes_of rfl rfl rfl rfl) rfl (g__law_equal T) (da_cons (de_var 7) (da_cons (de_makePF ok_Library (cal_Library___init__ T) (mk_Library T) (hr.mono (by decide)) (takes_of rfl rfl rfl rfl) rfl (g_Library T) (da_cons (de_var 2) (da_cons (de_var 10) da_nil))) (da_cons (de_cmp (op_eqU hr.units) sem_eq (de_var 10) (de_var 5) (by rfl)) da_nil))))))))) (dss_one (ds_ret de_bl)) dss_nil)
    (dss_cons (ds_setLc (ps_setLc (i := 13) (own := [("q", 20)]) (g := (gName 20)) rfl nd rfl rfl (sw_true rfl rfl rfl (by decide +kernel)) (di_range2 rfl (b_range T) (da_cons (de_bin op_addU sem_add (de_var 2) de_int) (da_cons de_int da_nil))) (L2.blkOk_by (by kernel_rfl)) (fun _ _ _ _ _ => pg_name (i := 20) nd rfl (by first | exact Or.inl rfl | exact Or.inr rfl)) (fun _ _ _ _ _ => dts_one (dt_tru (de_callC ((cal__law_is_field T).weak ok__law_is_field) (hr.mono (by decide)) takes0 rfl (g__law_is_field T) (da_cons (de_var 20) da_nil)))) (fun _ _ _ _ _ => (de_var 20))) (sgw_gN (by decide)) fz_F)
    (dss_cons (ds_if (dt_w (dw_and (dt_cmp op_gt sem_gt (de_len rfl (b_len T) (da_cons (de_var 13) da_nil)) de_int (by rfl)) (dw_and1 (dt_not (dt_tru (de_callC ((cal__law_equal T).weak ok__law_equal) (hr.mono (by decide)) (takes_of rfl rfl rfl rfl) rfl (g__law_equal T) (da_cons (de_var 7) (da_cons (de_makePF ok_Library (cal_Library___init__ T) (mk_Library T) (hr.mono (by decide)) (takes_of rfl rfl rfl rfl) rfl (g_Library T) (da_cons (de_ixU (de_var 13) de_int) (da_cons (de_var 5) da_nil))) (da_cons de_bl da_nil))))))))) (dss_one (ds_ret de_bl)) dss_nil)
    (dss_cons (ds_if (dt_w (dw_and (dt_cmp op_gt sem_gt (de_var 4) de_int (by rfl)) (dw_and (dt_cmp op_lt sem_lt (de_bin op_mulT sem_mulT (de_var 3) (de_var 4)) de_int (by rfl)) (dw_and1 (dt_not (dt_tru (de_callC ((cal__law_equal T).weak ok__law_equal) (hr.mono (by decide)) (takes_of rfl rfl rfl rfl) rfl (g__law_equal T) (da_cons (de_var 7) (da_cons (de_cmeth (pl := _) ((cal_Library_of_letters T).weak ok_Library_of_letters) (cm_Library_of_letters T).1 (cm_Library_of_letters T).2 (hr.mono (by decide)) (takes_of rfl rfl rfl rfl) rfl (g_Library T) (da_cons (de_var 2) (da_cons de_int (da_cons (de_var 11) da_nil)))) (da_cons de_bl da_nil)))))))))) (dss_one (ds_ret de_bl)) dss_nil)
    (dss_cons (ds_if (dt_w (dw_and (dt_cmp op_gt sem_gt (de_var 3) de_int (by rfl)) (dw_and1 (dt_not (dt_tru (de_callC ((cal__law_equal T).weak ok__law_equal) (hr.mono (by decide)) (takes_of rfl rfl rfl rfl) rfl (g__law_equal T) (da_cons (de_var 7) (da_cons (de_makePF ok_Library (cal_Library___init__ T) (mk_Library T) (hr.mono (by decide)) (takes_of rfl rfl rfl rfl) rfl (g_Library T) (da_cons (de_var 2) (da_cons (de_tup (da_cons (de_var 11) da_nil)) da_nil))) (da_cons de_bl da_nil))))))))) (dss_one (ds_ret de_bl)) dss_nil)
    (dss_cons (ds_for (passes_of rfl) rfl (di_seq (de_fz (df_lst (da_cons (de_var 5) (da_cons de_non (da_cons (de_var 2) (da_cons (de_var 11) (da_cons (de_makePF ok_Library (cal_Library___init__ T) (mk_Library T) (hr.mono (by decide)) (takes_of rfl rfl rfl rfl) rfl (g_Library T) (da_cons (de_var 2) (da_cons (de_bin op_addU sem_add (de_var 5) (de_var 5)) da_nil))) da_nil)))))))) (pg_name (i := 14) nd rfl (by first | exact Or.inl rfl | exact Or.inr rfl)) sem_gN (dss_one (ds_if (dt_not (dt_tru (de_callC ((cal__law_equal T).weak ok__law_equal) (hr.mono (by decide)) (takes_of rfl rfl rfl rfl) rfl (g__law_equal T) (da_cons (de_var 7) (da_cons (de_var 14) (da_cons de_bl da_nil)))))) (dss_one (ds_ret de_bl)) dss_nil)))
    (dss_cons (ds_if (dt_w (dw_or (dt_cmp (op_neU hr.units) sem_ne (de_tupleC rfl (b_tuple T) (da_cons (de_var 11) da_nil)) (de_fld (Cs := [cLibrary]) (na_Library_letters T) (de_var 7)) (by rfl)) (dw_or1 (dt_not (dt_tru (de_callC ((cal__law_is_library T).weak ok__law_is_library) (hr.mono (by decide)) (takes_of rfl rfl rfl rfl) rfl (g__law_is_library T) (da_cons (de_makePF ok_Library (cal_Library___init__ T) (mk_Library T) (hr.mono (by decide)) (takes_of rfl rfl rfl rfl) rfl (g_Library T) (da_cons (de_var 2) (da_cons (de_fz (df_lc (own := [("book", 12)]) (g := (gName 12)) rfl nd (di_seq (de_var 5)) (L2.blkOk_by (by kernel_rfl)) (sgw_gN (by decide)) (fun _ _ _ _ _ => pg_name (i := 12) nd rfl (by first | exact Or.inl rfl | exact Or.inr rfl)) (fun _ _ _ _ _ => dts_nil) (fun _ _ _ _ _ => (de_tupleC rfl (b_tuple T) (da_cons (de_var 12) da_nil))))) da_nil))) (da_cons (de_var 2) (da_cons (de_var 5) da_nil))))))))) (dss_one (ds_ret de_bl)) dss_nil)
    (dss_cons (ds_set (i := 15) nd rfl (by first | exact Or.inl rfl | exact Or.inr rfl) (de_callC ((cal__law_no_field T).weak ok__law_no_field) (hr.mono (by decide)) (takes_of rfl rfl rfl rfl) rfl (g__law_no_field T) (da_cons (de_var 1) da_nil)))
    (dss_cons (ds_for (passes_of rfl) rfl (di_seq (de_fz (df_lst (da_cons (de_callC ((cal__law_told T).weak ok__law_told) (hr.mono (by decide)) (takes_of rfl rfl rfl rfl) rfl (g__law_told T) (da_cons de_int (da_cons (de_var 7) (da_cons (de_var 15) (da_cons de_int da_nil))))) (da_cons (de_callC ((cal__law_told T).weak ok__law_told) (hr.mono (by decide)) (takes_of rfl rfl rfl rfl) rfl (g__law_told T) (da_cons de_int (da_cons (de_var 7) (da_cons (de_var 15) (da_cons de_int da_nil))))) da_nil))))) (pg_name (i := 16) nd rfl (by first | exact Or.inl rfl | exact Or.inr rfl)) sem_gN (dss_one (ds_if (dt_w (dw_or (dt_cmp (op_neU hr.units) sem_ne (de_var 16) (de_fz (df_lst (da_cons de_str (da_cons (de_var 15) da_nil)))) (by rfl)) (dw_or1 (dt_cmp (op_neU hr.units) sem_ne (de_isi (c := (.ty "bool")) (isiF T) (de_ixU (de_var 16) de_int) (pc_ty rfl (b_bool T) PyProof.Rows.Boot.«bool») rfl (b_isinstance T) PyProof.Rows.Boot.«isinstance») (de_isi (c := (.ty "bool")) (isiF T) (de_var 15) (pc_ty rfl (b_bool T) PyProof.Rows.Boot.«bool») rfl (b_isinstance T) PyProof.Rows.Boot.«isinstance») (by rfl))))) (dss_one (ds_ret de_bl)) dss_nil)))
    (dss_cons (ds_set (i := 17) nd rfl (by first | exact Or.inl rfl | exact Or.inr rfl) (de_callC ((cal__law_bad_books T).weak ok__law_bad_books) (hr.mono (by decide)) (takes_of rfl rfl rfl rfl) rfl (g__law_bad_books T) (da_cons (de_var 1) (da_cons (de_var 5) (da_cons (de_var 2) da_nil)))))
    (dss_cons (ds_if (dt_w (dw_or (dt_cmp (op_neU hr.units) sem_ne (de_callC ((cal__law_told T).weak ok__law_told) (hr.mono (by decide)) (takes_of rfl rfl rfl rfl) rfl (g__law_told T) (da_cons de_int (da_cons (de_var 7) (da_cons (de_var 15) (da_cons (de_var 17) da_nil))))) (de_fz (df_lst (da_cons de_str (da_cons (de_var 15) da_nil)))) (by rfl)) (dw_or1 (dt_cmp (op_neU hr.units) sem_ne (de_callC ((cal__law_told T).weak ok__law_told) (hr.mono (by decide)) (takes_of rfl rfl rfl rfl) rfl (g__law_told T) (da_cons de_int (da_cons (de_var 7) (da_cons (de_var 2) (da_cons (de_var 17) da_nil))))) (de_fz (df_lst (da_cons de_str (da_cons (de_var 17) da_nil)))) (by rfl))))) (dss_one (ds_ret de_bl)) dss_nil)
    (dss_cons (ds_set (i := 18) nd rfl (by first | exact Or.inl rfl | exact Or.inr rfl) (de_ixU (de_fz (df_lst (da_cons (de_var 3) (da_cons (de_neg de_int) (da_cons de_bl (da_cons de_non (da_cons de_str (da_cons (de_tup (da_cons de_int da_nil)) (da_cons (de_bin op_pow sem_pow de_int de_int) da_nil))))))))) (de_callC ((cal__law_take T).weak ok__law_take) (hr.mono (by decide)) (takes_of rfl rfl rfl rfl) rfl (g__law_take T) (da_cons (de_var 1) (da_cons de_int da_nil)))))
    (dss_cons (ds_set (i := 12) nd rfl (by first | exact Or.inl rfl | exact Or.inr rfl) (de_ixU (de_fz (df_lst (da_cons (de_callC ((cal__law_bad_book T).weak ok__law_bad_book) (hr.mono (by decide)) (takes_of rfl rfl rfl rfl) rfl (g__law_bad_book T) (da_cons (de_var 1) (da_cons (de_var 9) (da_cons (de_var 2) da_nil)))) (da_cons (de_bin op_addU sem_add (de_var 9) (de_tup (da_cons de_int da_nil))) (da_cons (de_sl (de_var 9) (do_some de_int) do_none) (da_cons de_non da_nil)))))) (de_callC ((cal__law_take T).weak ok__law_take) (hr.mono (by decide)) (takes_of rfl rfl rfl rfl) rfl (g__law_take T) (da_cons (de_var 1) (da_cons de_int da_nil)))))
    (dss_cons (ds_for (passes_of rfl) rfl (di_seq (de_fz (df_lst (da_cons de_int (da_cons de_int da_nil))))) (pg_name (i := 19) nd rfl (by first | exact Or.inl rfl | exact Or.inr rfl)) sem_gN (dss_one (ds_if (dt_cmp (op_neU hr.units) sem_ne (de_callC ((cal__law_told T).weak ok__law_told) (hr.mono (by decide)) (takes_of rfl rfl rfl rfl) rfl (g__law_told T) (da_cons (de_var 19) (da_cons (de_var 7) (da_cons (de_var 18) (da_cons (de_var 12) da_nil))))) (de_fz (df_lst (da_cons de_str (da_cons (de_var 18) da_nil)))) (by rfl)) (dss_one (ds_ret de_bl)) dss_nil)))
    (dss_one (ds_ret (de_and (de_cmp (op_eqU hr.units) sem_eq (de_callC ((cal__law_told T).weak ok__law_told) (hr.mono (by decide)) (takes_of rfl rfl rfl rfl) rfl (g__law_told T) (da_cons de_int (da_cons (de_var 7) (da_cons (de_var 8) (da_cons (de_var 12) da_nil))))) (de_fz (df_lst (da_cons de_str (da_cons (de_var 12) da_nil)))) (by rfl)) (de_and (de_callC ((cal__law_is_library T).weak ok__law_is_library) (hr.mono (by decide)) (takes_of rfl rfl rfl rfl) rfl (g__law_is_library T) (da_cons (de_var 7) (da_cons (de_var 2) (da_cons (de_var 5) da_nil)))) (de_one (de_callC ((cal__law_every T).weak ok__law_every) (hr.mono (by decide)) (takes_of rfl rfl rfl rfl) rfl (g__law_every T) (da_cons (de_var 1) da_nil))))))))))))))))))))))))))))))))))))))
theorem cal_law {w : World} {base : Heap} {K : PySem.W.Frag} {mg : Str → Option Value} (T : Tx K mg) : Cal PP w K mg base 11 (He.fAd K ("law", none)) 1 m_law [] := by
  obtain ⟨fd, F⟩ := T.says.def_ 26 (d := d_law)
  have FK := fk_law (w := w) (base := base) T F
  have hb := F.bindsN (ps := ["script"]) (fun _ _ _ _ _ _ us hl => match us, hl with | [_], _ => rfl)
  exact ⟨fd, ["script"], [], [], FK, hb, .nil, .nil, F.kp⟩
theorem facts {w : World} {K : PySem.W.Frag} {h : Heap} {mg : Str → Option Value} {f : Addr} (X : K.In h) (G : h.Ns mainGlobals mg) (hfa : mg ("law" : Str) = some (.ref f)) (c : SaysC PP.main.file hkc K) :
    ∃ fd : FuncData, (∀ (s : Shared) (v : Value), BindsTo s fd ⟨[v], []⟩ [("script", v)]) ∧ ∀ base : Heap, K.In base → base.Ns mainGlobals mg → FnOk PP w K mg base (L2.CX PP w) 11 f fd ["script"] (toSp K 1 m_law) := by
  have T : Tx K mg := ⟨c, fun x hx => He.glo_ok X G hx, fun x hx => He.free_ok X G hx⟩
  obtain ⟨fd, F⟩ := c.def_ 26 (d := d_law)
  have e := hfa.symm.trans (He.glo_ok X G (x := "law") (c.fact 39))
  cases e
  have b := FunD.bindsA (ps := ["script"]) F fun _ _ _ _ _ _ us hl => match us, hl with | [_], _ => rfl
  exact ⟨fd, fun s v => b s [v] rfl, fun base _ _ => fk_law T F⟩
end K07

set_option maxHeartbeats 0
open PySem PySem.W PySem.Calls PyProof.Rows
theorem PySem.Challenge.cw_sharesunseen_k07_libraries_holds : PySem.Challenge.rw_sharesunseen_k07_libraries.Holds := by
  w_on; o_law
  refine HandSHeadRun.head_any (r := OpenLaw.row PySem.Challenge.rw_sharesunseen_k07_libraries) (q := view (OpenLaw.row PySem.Challenge.rw_sharesunseen_k07_libraries).prog [35]) (H := K07.hk) (ob := K07.ob) (M := 4000) (loose := K07.names) (d := HandSHeadRun.topDef (OpenLaw.row PySem.Challenge.rw_sharesunseen_k07_libraries).prog 35) (kwd := []) K07.ob_eq
    (by kernel_rfl) (fun s => by kernel_rfl) K07.run (by kernel_rfl) (by kernel_rfl) (by kernel_rfl) (by rfl) (by first | assumption | decide +kernel) (by decide +kernel) ⟨rfl, rfl, rfl, rfl, rfl, by decide +kernel⟩ ?hw ?hc
  case hw => w_witness2
  case hc =>
    refine DL.walk_ofEB (l := PySem.Challenge.rw_sharesunseen_k07_libraries) (n := 63) (k := 11) (x := "script") (CX := fun w => L2.CX K07.PP w) rfl (by decide) (by kernel_rfl) ⟨rfl, by decide, by decide⟩ ?F (fun w H s e s' => DL.cx_none w H s e s')
    intro w mg fa h Y G hmg0
    obtain ⟨K, KX, c⟩ := Y
    have hmg : mg ("law" : PySem.Str) = some (.ref fa) := by
      have e : (HandSHeadRun.topDef (OpenLaw.row PySem.Challenge.rw_sharesunseen_k07_libraries).prog 35).name = ("law" : PySem.Str) := by kernel_rfl
      rw [← e]
      exact hmg0
    obtain ⟨fd, hb, hF⟩ := K07.facts (w := w) KX G hmg c
    exact ⟨K, fd, DL.toSp K 1 K07.m_law, KX, hb, fun H a ns hl hbits hS => DL.law_sp (K07.law_true ns hl hbits) hS, hF⟩
