import PyProof.Rows.All
import Wide.All
import OpenK.AllK
import Wide.FinOn
import HandS.ForMost
import HandS.Exc
import HandS.ExcOwn
import HandS.TryOnly
import HandS.WordsExc
import HandS.Evl
import HandS.HotCalls
import HandS.TupAny
import HandS.TupMul
import HandS.IsInst
import HandS.RaiseMore
import HandS.Wide
import HandS.Zip
import KE.KRevSl
import KE.GoesNew
import KE.GoesMore
import KE.KExcSuper
import KE.KSuper
import KE.KExcIs
import KE.KIsAll
import KE.IntTextText
import KE.RegKIsAll
import KE.RegKSuper
import HandS.ExcIs
import PySem.Challenge.RW_rollstep_k58_answer_texts
set_option Elab.async false
set_option linter.all false
set_option maxRecDepth 100000
set_option maxHeartbeats 2000000
/-! # RS, part A: data, what a heap value tells of data, the state and its steps, the judgements. -/
namespace RS
open PySem L2

abbrev Frag := PySem.W.Frag
def LIM : Nat := 16000001
def SLIM : Nat := 16000000
theorem lim_line {n : Nat} (h : n ≤ LIM) : n ≤ sizeLine := by rw [sizeLine_eq]; unfold LIM at h; omega
theorem lim_lt {n : Nat} (h : n < LIM) : n < sizeLine := by rw [sizeLine_eq]; unfold LIM at h; omega
theorem slim_line {n : Nat} (h : n ≤ SLIM) : n ≤ sizeLine := by rw [sizeLine_eq]; unfold SLIM at h; omega

/-- data: what stands still; a cell is a list that may still change; exc: a caught exception, its dict, the dict's one field -/
inductive D where
  | non | bl (b : Bool) | int (i : Int) | str (s : Str)
  | tup (l : List D) | lst (l : List D)
  | scr (l : List Int)
  | ref (k : Nat)
  | exc (a dd : Addr) (f : Str) (d : D)

/-- an expression's value: data, a new list that nobody else holds, a list that a slot holds -/
inductive Val where
  | val (d : D) | own (l : List D) | bor (l : List D)

abbrev Mem := List (Option (List D))
inductive Slot where
  | none | val (d : D) | own (l : List D)
abbrev Sl := List Slot

inductive R (α : Type) where
  | ok (a : α) (M : Mem) | exn (c : Nat) (d : D) (M : Mem) | bad
def R.bind {α β : Type} : R α → (α → Mem → R β) → R β
  | .ok a M, k => k a M
  | .exn c d M, _ => .exn c d M
  | .bad, _ => .bad
@[simp] theorem R.bind_ok {α β : Type} (a : α) (M : Mem) (k : α → Mem → R β) : (R.ok a M).bind k = k a M := rfl
@[simp] theorem R.bind_exn {α β : Type} (c : Nat) (d : D) (M : Mem) (k : α → Mem → R β) : (R.exn c d M).bind k = .exn c d M := rfl
@[simp] theorem R.bind_bad {α β : Type} (k : α → Mem → R β) : (R.bad).bind k = .bad := rfl

structure SOk (s : Str) : Prop where
  len : s.length ≤ SLIM
  cps : ∀ c ∈ s.cps.toList, c < 0x110000

mutual
inductive Rep (K : Frag) (F : Hp) (β : List Addr) : V → D → Prop
  | non : Rep K F β .non .non
  | bl (b : Bool) : Rep K F β (.bl b) (.bl b)
  | int (i : Int) : Rep K F β (.int i) (.int i)
  | str (s : Str) (h : SOk s) : Rep K F β (.str s) (.str s)
  | tup {a : Addr} {vs : List V} {ds : List D} (h : SqT K F a vs) (hs : Reps K F β vs ds) (hl : ds.length ≤ LIM) : Rep K F β (.ref a) (.tup ds)
  | lst {a : Addr} {vs : List V} {ds : List D} (h : F a = some (.lst vs)) (hs : Reps K F β vs ds) (hl : ds.length ≤ LIM) : Rep K F β (.ref a) (.lst ds)
  | scr {a : Addr} {is : List Int} (h : SqL K F a (is.map V.int)) (hl : is.length ≤ LIM) : Rep K F β (.ref a) (.scr is)
  | cell {a : Addr} {k : Nat} (h : β[k]? = some a) : Rep K F β (.ref a) (.ref k)
  | exc {a dd : Addr} {f : Str} {v : V} {d : D} (h : F dd = some (.xd [(f, v)])) (r : Rep K F β v d) : Rep K F β (.ref a) (.exc a dd f d)
inductive Reps (K : Frag) (F : Hp) (β : List Addr) : List V → List D → Prop
  | nil : Reps K F β [] []
  | cons {v : V} {d : D} {vs : List V} {ds : List D} (h : Rep K F β v d) (hs : Reps K F β vs ds) : Reps K F β (v :: vs) (d :: ds)
end

section
variable {K : Frag} {F F' : Hp} {β β' : List Addr}
theorem pre_get {k : Nat} {a : Addr} (p : β <+: β') (h : β[k]? = some a) : β'[k]? = some a := by
  obtain ⟨t, rfl⟩ := p
  have hk := (List.getElem?_eq_some_iff.mp h).1
  rw [List.getElem?_append_left hk]; exact h
mutual
theorem Rep.mono (e : Evl.Ex F F') (p : β <+: β') : ∀ {d : D} {v : V}, Rep K F β v d → Rep K F' β' v d
  | .non, _, .non => .non
  | .bl b, _, .bl _ => .bl b
  | .int i, _, .int _ => .int i
  | .str s, _, .str _ h => .str s h
  | .tup ds, _, .tup h hs hl => .tup (Evl.ex_t e h) (Reps.mono e p hs) hl
  | .lst ds, _, .lst h hs hl => .lst (e _ _ h) (Reps.mono e p hs) hl
  | .scr is, _, .scr h hl => .scr (Evl.ex_l e h) hl
  | .ref k, _, .cell h => .cell (pre_get p h)
  | .exc a dd f d, _, .exc h r => .exc (e _ _ h) (Rep.mono e p r)
theorem Reps.mono (e : Evl.Ex F F') (p : β <+: β') : ∀ {ds : List D} {vs : List V}, Reps K F β vs ds → Reps K F' β' vs ds
  | [], _, .nil => .nil
  | d :: ds, _, .cons h hs => .cons (Rep.mono e p h) (Reps.mono e p hs)
end
theorem Reps.len : ∀ {vs : List V} {ds : List D}, Reps K F β vs ds → vs.length = ds.length
  | _, _, .nil => rfl
  | _, _, .cons _ hs => by rw [List.length_cons, List.length_cons, Reps.len hs]
theorem Reps.get {d : D} : ∀ {vs : List V} {ds : List D} {i : Nat}, Reps K F β vs ds → ds[i]? = some d → ∃ v, vs[i]? = some v ∧ Rep K F β v d
  | _, _, _, .nil, h => by simp at h
  | _, _, 0, .cons h hs, e => by simp at e; subst e; exact ⟨_, rfl, h⟩
  | _, _, i + 1, .cons h hs, e => by
    obtain ⟨v, e1, r⟩ := Reps.get (i := i) hs (by simpa using e)
    exact ⟨v, by simpa using e1, r⟩
theorem Reps.getV {v : V} : ∀ {vs : List V} {ds : List D} {i : Nat}, Reps K F β vs ds → vs[i]? = some v → ∃ d, ds[i]? = some d ∧ Rep K F β v d
  | _, _, _, .nil, h => by simp at h
  | _, _, 0, .cons h hs, e => by simp at e; subst e; exact ⟨_, rfl, h⟩
  | _, _, i + 1, .cons h hs, e => by
    obtain ⟨v, e1, r⟩ := Reps.getV (i := i) hs (by simpa using e)
    exact ⟨v, by simpa using e1, r⟩
theorem Reps.append : ∀ {vs : List V} {ds : List D} {ws : List V} {es : List D}, Reps K F β vs ds → Reps K F β ws es → Reps K F β (vs ++ ws) (ds ++ es)
  | _, _, _, _, .nil, s => s
  | _, _, _, _, .cons r t, s => .cons r (Reps.append t s)
theorem Reps.take : ∀ {vs : List V} {ds : List D} (n : Nat), Reps K F β vs ds → Reps K F β (vs.take n) (ds.take n)
  | _, _, 0, _ => by simpa using .nil
  | _, _, _ + 1, .nil => .nil
  | _, _, n + 1, .cons r t => .cons r (Reps.take n t)
theorem Reps.drop : ∀ {vs : List V} {ds : List D} (n : Nat), Reps K F β vs ds → Reps K F β (vs.drop n) (ds.drop n)
  | _, _, 0, r => r
  | _, _, _ + 1, .nil => .nil
  | _, _, n + 1, .cons _ t => Reps.drop n t
theorem Reps.set {v : V} {d : D} (r : Rep K F β v d) : ∀ {vs : List V} {ds : List D} (i : Nat), Reps K F β vs ds → Reps K F β (vs.set i v) (ds.set i d)
  | _, _, _, .nil => .nil
  | _, _, 0, .cons _ t => .cons r t
  | _, _, i + 1, .cons q t => .cons q (Reps.set r i t)
theorem Reps.one {v : V} {d : D} (r : Rep K F β v d) : Reps K F β [v] [d] := .cons r .nil
theorem Reps.ints : ∀ (is : List Int), Reps K F β (is.map V.int) (is.map D.int)
  | [] => .nil
  | i :: is => .cons (.int i) (Reps.ints is)
theorem Reps.strs : ∀ (ss : List Str), (∀ s ∈ ss, SOk s) → Reps K F β (ss.map V.str) (ss.map D.str)
  | [], _ => .nil
  | s :: ss, h => .cons (.str s (h s List.mem_cons_self)) (Reps.strs ss fun x hx => h x (List.mem_cons_of_mem _ hx))
end

/-! ### the state, and a step of it -/
structure S4 where
  F : Hp
  β : List Addr
  M : Mem
  H : Hp

def S4.Live (S : S4) (a : Addr) : Prop := ∃ (k : Nat) (l : List D), S.β[k]? = some a ∧ S.M[k]? = some (some l)

structure Ok (K : Frag) (S : S4) : Prop where
  ex : Evl.Ex S.F S.H
  len : S.β.length = S.M.length
  nd : S.β.Nodup
  cell : ∀ (k : Nat) (l : List D), S.M[k]? = some (some l) → ∃ a vs, S.β[k]? = some a ∧ S.H a = some (.lst vs) ∧ (Reps K S.F S.β vs l ∧ l.length ≤ LIM) ∧ S.F a = none
  old : ∀ a ∈ S.β, ∃ o, S.H a = some o

structure Step (S S' : S4) : Prop where
  exF : Evl.Ex S.F S'.F
  pre : S.β <+: S'.β
  keep : ∀ a o, S.H a = some o → ¬ S.Live a → S'.H a = some o
  newF : ∀ a o, S'.F a = some o → S.F a = some o ∨ S.H a = none ∨ S.Live a
  newB : ∀ a, a ∈ S'.β → a ∈ S.β ∨ S.H a = none
  live : ∀ a, S'.Live a → S.Live a ∨ S.H a = none
  there : ∀ a o, S.H a = some o → ∃ o', S'.H a = some o'

theorem Step.refl (S : S4) : Step S S :=
  ⟨Evl.Ex.refl _, List.prefix_refl _, fun _ _ h _ => h, fun _ _ h => .inl h, fun _ h => .inl h, fun _ h => .inl h, fun _ o h => ⟨o, h⟩⟩
theorem Step.back {S S' : S4} (s : Step S S') {a : Addr} (h : S'.H a = none) : S.H a = none := by
  cases e : S.H a with
  | none => rfl
  | some o => obtain ⟨o', q⟩ := s.there a o e; rw [h] at q; cases q
theorem Step.trans {S S1 S2 : S4} (s : Step S S1) (t : Step S1 S2) : Step S S2 where
  exF := s.exF.trans t.exF
  pre := s.pre.trans t.pre
  keep := fun a o h n => t.keep a o (s.keep a o h n) fun l => by
    rcases s.live a l with q | q
    · exact n q
    · rw [h] at q; cases q
  newF := fun a o h => by
    rcases t.newF a o h with q | q | q
    · exact s.newF a o q
    · exact .inr (.inl (s.back q))
    · rcases s.live a q with q | q
      · exact .inr (.inr q)
      · exact .inr (.inl q)
  newB := fun a h => by
    rcases t.newB a h with q | q
    · exact s.newB a q
    · exact .inr (s.back q)
  live := fun a h => by
    rcases t.live a h with q | q
    · exact s.live a q
    · exact .inr (s.back q)
  there := fun a o h => by
    obtain ⟨o', q⟩ := s.there a o h
    exact t.there a o' q
theorem Step.rep {K : Frag} {S S' : S4} (s : Step S S') {v : V} {d : D} (h : Rep K S.F S.β v d) : Rep K S'.F S'.β v d := h.mono s.exF s.pre
theorem Step.reps {K : Frag} {S S' : S4} (s : Step S S') {v : List V} {d : List D} (h : Reps K S.F S.β v d) : Reps K S'.F S'.β v d := h.mono s.exF s.pre

/-- a list that nobody's data and no cell holds -/
structure Priv (K : Frag) (S : S4) (a : Addr) (l : List D) : Prop where
  is : ∃ vs, S.H a = some (.lst vs) ∧ Reps K S.F S.β vs l ∧ l.length ≤ LIM
  nF : S.F a = none
  nB : a ∉ S.β
theorem Priv.step {K : Frag} {S S' : S4} {a : Addr} {l : List D} (p : Priv K S a l) (s : Step S S') : Priv K S' a l := by
  obtain ⟨vs, e, r, hl⟩ := p.is
  have nl : ¬ S.Live a := fun ⟨k, _, e, _⟩ => p.nB (List.mem_of_getElem? e)
  refine ⟨⟨vs, s.keep a _ e nl, s.reps r, hl⟩, ?_, fun h => ?_⟩
  · cases q : S'.F a with
    | none => rfl
    | some o =>
      rcases s.newF a o q with z | z | z
      · rw [p.nF] at z; cases z
      · rw [e] at z; cases z
      · exact absurd z nl
  · rcases s.newB a h with z | z
    · exact p.nB z
    · rw [e] at z; cases z

/-- a value as an operand: data, or a list as it stands -/
def VB (K : Frag) (S : S4) (v : V) : Val → Prop
  | .val d => Rep K S.F S.β v d
  | .own l => ∃ a, v = .ref a ∧ Priv K S a l
  | .bor l => ∃ a, v = .ref a ∧ Priv K S a l
theorem VB.step {K : Frag} {S S' : S4} {v : V} {x : Val} (h : VB K S v x) (s : Step S S') : VB K S' v x := by
  cases x with
  | val d => exact s.rep (K := K) h
  | own l => obtain ⟨a, e, p⟩ := h; exact ⟨a, e, p.step s⟩
  | bor l => obtain ⟨a, e, p⟩ := h; exact ⟨a, e, p.step s⟩
/-- .. new since H0 -/
def VR (K : Frag) (H0 : Hp) (S : S4) (v : V) (x : Val) : Prop := VB K S v x ∧ ∀ l, x = .own l → ∀ a, v = .ref a → H0 a = none
theorem VR.step {K : Frag} {H0 : Hp} {S S' : S4} {v : V} {x : Val} (h : VR K H0 S v x) (s : Step S S') : VR K H0 S' v x := ⟨h.1.step s, h.2⟩
theorem VR.back {K : Frag} {S0 S1 S' : S4} {v : V} {x : Val} (h : VR K S1.H S' v x) (s : Step S0 S1) : VR K S0.H S' v x := ⟨h.1, fun l e a ea => s.back (h.2 l e a ea)⟩
theorem VR.data {K : Frag} {H0 : Hp} {S : S4} {v : V} {d : D} (h : Rep K S.F S.β v d) : VR K H0 S v (.val d) := ⟨h, fun l e => nomatch e⟩

/-! ### making and freezing -/
section
variable {K : Frag} {S : S4}
theorem Ok.free (o : Ok K S) {p : Addr} (h : S.H p = none) : S.F p = none ∧ p ∉ S.β := by
  refine ⟨?_, fun m => ?_⟩
  · cases e : S.F p with
    | none => rfl
    | some u => rw [o.ex p u e] at h; cases h
  · obtain ⟨u, q⟩ := o.old p m; rw [h] at q; cases q
theorem Ok.notlive (o : Ok K S) {p : Addr} (h : p ∉ S.β) : ¬ S.Live p := fun ⟨_, _, e, _⟩ => h (List.mem_of_getElem? e)
/-- a new object that no data knows yet -/
theorem Ok.alloc (o : Ok K S) {p : Addr} {u : HO} (h : S.H p = none) : Ok K { S with H := upd S.H p u } ∧ Step S { S with H := upd S.H p u } := by
  have e : Evl.Ex S.H (upd S.H p u) := Evl.Ex.new h
  refine ⟨⟨o.ex.trans e, o.len, o.nd, fun k l q => ?_, fun a m => ?_⟩, ⟨Evl.Ex.refl _, List.prefix_refl _, fun a u h _ => e a u h, fun _ _ h => .inl h, fun _ h => .inl h, fun _ h => .inl h, fun a u h => ⟨u, e a u h⟩⟩⟩
  · obtain ⟨a, vs, q1, q2, q3, q4⟩ := o.cell k l q
    exact ⟨a, vs, q1, e _ _ q2, q3, q4⟩
  · obtain ⟨u', q⟩ := o.old a m
    exact ⟨u', e _ _ q⟩
/-- a private list becomes data -/
theorem Ok.freeze (o : Ok K S) {a : Addr} {l : List D} (p : Priv K S a l) : ∃ F', Ok K { S with F := F' } ∧ Rep K F' S.β (.ref a) (.lst l) ∧
    (∀ S0, Step S0 S → S0.H a = none → Step S0 { S with F := F' }) ∧ Evl.Ex S.F F' ∧ ∀ b, b ≠ a → F' b = S.F b := by
  obtain ⟨vs, e, r, hl⟩ := p.is
  have x : Evl.Ex S.F (upd S.F a (.lst vs)) := Evl.Ex.new p.nF
  refine ⟨upd S.F a (.lst vs), ⟨fun b u h => ?_, o.len, o.nd, fun k l q => ?_, o.old⟩, .lst upd_same (r.mono x (List.prefix_refl _)) hl, fun S0 s h0 => ?_, x, fun b hb => upd_ne hb⟩
  · replace h : upd S.F a (.lst vs) b = some u := h
    show S.H b = some u
    by_cases hb : b = a
    · subst hb; rw [upd_same] at h; cases h; exact e
    · rw [upd_ne hb] at h; exact o.ex b u h
  · obtain ⟨c, ws, q1, q2, q3, q4⟩ := o.cell k l q
    refine ⟨c, ws, q1, q2, ⟨q3.1.mono x (List.prefix_refl _), q3.2⟩, ?_⟩
    have hc : c ≠ a := fun z => p.nB (z ▸ List.mem_of_getElem? q1)
    show upd S.F a _ c = none
    rw [upd_ne hc]; exact q4
  · refine ⟨s.exF.trans x, s.pre, s.keep, fun b u h => ?_, s.newB, s.live, s.there⟩
    by_cases hb : b = a
    · subst hb; exact .inr (.inl h0)
    · exact s.newF b u (by rw [← upd_ne (H := S.F) (o := .lst vs) hb]; exact h)
/-- a new tuple -/
theorem Ok.newTup (o : Ok K S) {p : Addr} {vs : List V} {ds : List D} (h : S.H p = none) (r : Reps K S.F S.β vs ds) (hl : ds.length ≤ LIM) :
    ∃ S', S'.H = upd S.H p (.tup vs) ∧ S'.M = S.M ∧ S'.β = S.β ∧ Ok K S' ∧ Step S S' ∧ Rep K S'.F S'.β (.ref p) (.tup ds) := by
  obtain ⟨nF, nB⟩ := o.free h
  have e : Evl.Ex S.H (upd S.H p (.tup vs)) := Evl.Ex.new h
  have x : Evl.Ex S.F (upd S.F p (.tup vs)) := Evl.Ex.new nF
  refine ⟨⟨upd S.F p (.tup vs), S.β, S.M, upd S.H p (.tup vs)⟩, rfl, rfl, rfl, ⟨fun b u h => ?_, o.len, o.nd, fun k l q => ?_, fun a m => ?_⟩, ⟨x, List.prefix_refl _, fun a u h _ => e a u h, fun b u q => ?_, fun _ h => .inl h, fun _ h => .inl h, fun a u h => ⟨u, e a u h⟩⟩,
    .tup (.inl (.inl upd_same)) (r.mono x (List.prefix_refl _)) hl⟩
  · rename_i hn
    replace h : upd S.F p (.tup vs) b = some u := h
    show upd S.H p (.tup vs) b = some u
    by_cases hb : b = p
    · subst hb; rw [upd_same] at h; cases h; exact upd_same
    · rw [upd_ne hb] at h; exact e _ _ (o.ex b u h)
  · obtain ⟨c, ws, q1, q2, q3, q4⟩ := o.cell k l q
    refine ⟨c, ws, q1, e _ _ q2, ⟨q3.1.mono x (List.prefix_refl _), q3.2⟩, ?_⟩
    have hc : c ≠ p := fun z => nB (z ▸ List.mem_of_getElem? q1)
    show upd S.F p _ c = none
    rw [upd_ne hc]; exact q4
  · obtain ⟨u', q⟩ := o.old a m
    exact ⟨u', e _ _ q⟩
  · by_cases hb : b = p
    · subst hb; exact .inr (.inl h)
    · exact .inl (by rw [← upd_ne (H := S.F) (o := .tup vs) hb]; exact q)
/-- a new list, nobody else's -/
theorem Ok.newLst (o : Ok K S) {p : Addr} {vs : List V} {ds : List D} (h : S.H p = none) (r : Reps K S.F S.β vs ds) (hl : ds.length ≤ LIM) :
    ∃ S', S'.H = upd S.H p (.lst vs) ∧ S'.M = S.M ∧ Ok K S' ∧ Step S S' ∧ Priv K S' p ds := by
  obtain ⟨nF, nB⟩ := o.free h
  obtain ⟨o', s⟩ := o.alloc (u := .lst vs) h
  exact ⟨{ S with H := upd S.H p (.lst vs) }, rfl, rfl, o', s, ⟨⟨vs, upd_same, r, hl⟩, nF, nB⟩⟩
/-- a private list is written -/
theorem Ok.setPriv (o : Ok K S) {a : Addr} {vs : List V} (nF : S.F a = none) (nB : a ∉ S.β) (hH : ∃ u, S.H a = some u) : Ok K { S with H := upd S.H a (.lst vs) } := by
  refine ⟨fun b u h => ?_, o.len, o.nd, fun k l q => ?_, fun b m => ?_⟩
  · have hb : b ≠ a := fun z => by rw [z, nF] at h; cases h
    show upd S.H a _ b = _
    rw [upd_ne hb]; exact o.ex b u h
  · obtain ⟨c, ws, q1, q2, q3, q4⟩ := o.cell k l q
    refine ⟨c, ws, q1, ?_, q3, q4⟩
    have hc : c ≠ a := fun z => nB (z ▸ List.mem_of_getElem? q1)
    show upd S.H a _ c = _
    rw [upd_ne hc]; exact q2
  · by_cases hb : b = a
    · subst hb; exact ⟨_, upd_same⟩
    · obtain ⟨u, q⟩ := o.old b m
      exact ⟨u, by show upd S.H a _ b = _; rw [upd_ne hb]; exact q⟩
theorem Step.setPriv {S0 : S4} (s : Step S0 S) {a : Addr} {vs : List V} (h0 : S0.H a = none) : Step S0 { S with H := upd S.H a (.lst vs) } := by
  refine ⟨s.exF, s.pre, fun b u h n => ?_, s.newF, s.newB, s.live, fun b u h => ?_⟩
  · have hb : b ≠ a := fun z => by rw [z, h0] at h; cases h
    show upd S.H a _ b = _
    rw [upd_ne hb]; exact s.keep b u h n
  · have hb : b ≠ a := fun z => by rw [z, h0] at h; cases h
    obtain ⟨u', q⟩ := s.there b u h
    exact ⟨u', by show upd S.H a _ b = _; rw [upd_ne hb]; exact q⟩
/-- a cell is written -/
theorem Ok.setCell (o : Ok K S) {k : Nat} {l l' : List D} {a : Addr} {vs : List V} (hk : S.M[k]? = some (some l)) (ha : S.β[k]? = some a) (r : Reps K S.F S.β vs l') (hl : l'.length ≤ LIM) :
    Ok K { S with M := S.M.set k (some l'), H := upd S.H a (.lst vs) } ∧ Step S { S with M := S.M.set k (some l'), H := upd S.H a (.lst vs) } := by
  obtain ⟨a', ws, e1, e2, _, e4⟩ := o.cell k l hk
  rw [ha] at e1; cases e1
  have lv : S.Live a := ⟨k, l, ha, hk⟩
  have inj : ∀ j c, S.β[j]? = some c → c = a → j = k := fun j c h1 h2 => by
    subst h2
    obtain ⟨p1, q1⟩ := List.getElem?_eq_some_iff.mp h1
    obtain ⟨p2, q2⟩ := List.getElem?_eq_some_iff.mp ha
    exact (List.getElem_inj o.nd).mp (q1.trans q2.symm)
  have hlt : k < S.M.length := (List.getElem?_eq_some_iff.mp hk).1
  refine ⟨⟨fun b u h => ?_, by rw [List.length_set]; exact o.len, o.nd, fun j m q => ?_, fun b m => ?_⟩, ⟨Evl.Ex.refl _, List.prefix_refl _, fun b u h n => ?_, fun _ _ h => .inl h, fun _ h => .inl h, fun b ⟨j, m, q1, q2⟩ => ?_, fun b u h => ?_⟩⟩
  · have hb : b ≠ a := fun z => by rw [z, e4] at h; cases h
    show upd S.H a _ b = _
    rw [upd_ne hb]; exact o.ex b u h
  · by_cases hj : j = k
    · subst hj
      have q' : (S.M.set j (some l'))[j]? = some (some m) := q
      rw [List.getElem?_set_self hlt] at q'
      cases q'
      exact ⟨a, vs, ha, upd_same, ⟨r, hl⟩, e4⟩
    · have q' : (S.M.set k (some l'))[j]? = some (some m) := q
      rw [List.getElem?_set_ne (Ne.symm hj)] at q'
      obtain ⟨c, ws', q1, q2, q3, q4⟩ := o.cell j m q'
      refine ⟨c, ws', q1, ?_, q3, q4⟩
      have hc : c ≠ a := fun z => hj (inj j c q1 z)
      show upd S.H a _ c = _
      rw [upd_ne hc]; exact q2
  · by_cases hb : b = a
    · subst hb; exact ⟨_, upd_same⟩
    · obtain ⟨u, q⟩ := o.old b m
      exact ⟨u, by show upd S.H a _ b = _; rw [upd_ne hb]; exact q⟩
  · have hb : b ≠ a := fun z => n (z ▸ lv)
    show upd S.H a _ b = _
    rw [upd_ne hb]; exact h
  · have q2' : (S.M.set k (some l'))[j]? = some (some m) := q2
    by_cases hj : j = k
    · subst hj; exact .inl ⟨j, l, q1, hk⟩
    · rw [List.getElem?_set_ne (Ne.symm hj)] at q2'
      exact .inl ⟨j, m, q1, q2'⟩
  · by_cases hb : b = a
    · subst hb; exact ⟨_, upd_same⟩
    · exact ⟨u, by show upd S.H a _ b = _; rw [upd_ne hb]; exact h⟩
/-- a private list becomes a cell -/
theorem Ok.toCell (o : Ok K S) {a : Addr} {l : List D} (p : Priv K S a l) : Ok K { S with β := S.β ++ [a], M := S.M ++ [some l] } ∧ (S.β ++ [a])[S.M.length]? = some a ∧
    ∀ S0, Step S0 S → S0.H a = none → Step S0 { S with β := S.β ++ [a], M := S.M ++ [some l] } := by
  obtain ⟨vs, e, r, hl⟩ := p.is
  have px : S.β <+: S.β ++ [a] := List.prefix_append _ _
  have here : (S.β ++ [a])[S.M.length]? = some a := by rw [← o.len, List.getElem?_append_right (Nat.le_refl _)]; simp
  refine ⟨⟨o.ex, by simp [o.len], ?_, fun k m q => ?_, fun b m => ?_⟩, here, fun S0 s h0 => ⟨s.exF, s.pre.trans px, s.keep, s.newF, fun b h => ?_, fun b ⟨k, m, q1, q2⟩ => ?_, s.there⟩⟩
  · rw [List.nodup_append]
    exact ⟨o.nd, by simp, fun x hx y hy => by simp at hy; subst hy; exact fun z => p.nB (z ▸ hx)⟩
  · have q' : (S.M ++ [some l])[k]? = some (some m) := q
    by_cases hk : k < S.M.length
    · rw [List.getElem?_append_left hk] at q'
      obtain ⟨c, ws, q1, q2, q3, q4⟩ := o.cell k m q'
      exact ⟨c, ws, pre_get px q1, q2, ⟨q3.1.mono (Evl.Ex.refl _) px, q3.2⟩, q4⟩
    · rw [List.getElem?_append_right (by omega)] at q'
      have hk0 : k = S.M.length := by
        have := (List.getElem?_eq_some_iff.mp q').1
        simp at this; omega
      subst hk0
      simp at q'
      subst q'
      exact ⟨a, vs, here, e, ⟨r.mono (Evl.Ex.refl _) px, hl⟩, p.nF⟩
  · rcases List.mem_append.mp m with m | m
    · exact o.old b m
    · simp at m; subst m; exact ⟨_, e⟩
  · rcases List.mem_append.mp h with m | m
    · exact s.newB b m
    · simp at m; subst m; exact .inr h0
  · have q1' : (S.β ++ [a])[k]? = some b := q1
    have q2' : (S.M ++ [some l])[k]? = some (some m) := q2
    by_cases hk : k < S.M.length
    · rw [List.getElem?_append_left hk] at q2'
      rw [List.getElem?_append_left (by rw [o.len]; exact hk)] at q1'
      exact s.live b ⟨k, m, q1', q2'⟩
    · have hk0 : k = S.M.length := by
        have := (List.getElem?_eq_some_iff.mp q2').1
        simp at this; omega
      subst hk0
      rw [here] at q1'
      cases q1'
      exact .inr h0
end

/-! ### slots -/
structure SlOk (K : Frag) (H0 : Hp) (S : S4) (ρ : Sl) (σ : L2.St) : Prop where
  len : ρ.length = σ.length
  val : ∀ (i : Nat) (d : D), ρ[i]? = some (.val d) → ∃ v, σ[i]? = some (some v) ∧ Rep K S.F S.β v d
  own : ∀ (i : Nat) (l : List D), ρ[i]? = some (.own l) → ∃ a, σ[i]? = some (some (.ref a)) ∧ Priv K S a l ∧ H0 a = none
  dis : ∀ (i j : Nat) (l m : List D) (a : Addr), ρ[i]? = some (.own l) → ρ[j]? = some (.own m) → σ[i]? = some (some (.ref a)) → σ[j]? = some (some (.ref a)) → i = j
theorem SlOk.step {K : Frag} {H0 : Hp} {S S' : S4} {ρ : Sl} {σ : L2.St} (h : SlOk K H0 S ρ σ) (s : Step S S') : SlOk K H0 S' ρ σ where
  len := h.len
  val := fun i d e => by
    obtain ⟨v, q, r⟩ := h.val i d e
    exact ⟨v, q, s.rep r⟩
  own := fun i l e => by
    obtain ⟨a, q, p, n⟩ := h.own i l e
    exact ⟨a, q, p.step s, n⟩
  dis := h.dis

/-! ### what is to be shown of an outcome -/
abbrev Cls := Nat → Option (Addr × Str)
/-- from S0 on: of an answer G, of an exception W -/
def Post {α : Type} (K : Frag) (cx : Cls) (W : Addr → Addr → Hp → Prop) (S0 : S4) (G : α → S4 → Prop) : R α → Prop
  | .ok a M' => ∀ S', S'.M = M' → Ok K S' → Step S0 S' → G a S'
  | .exn c d M' => ∀ C f v dd S', cx c = some (C, f) → S'.M = M' → Ok K S' → Step S0 S' → S'.H dd = some (.xd [(f, v)]) → Rep K S'.F S'.β v d → S0.H dd = none → W C dd S'.H
  | .bad => False
section
variable {α γ : Type} {K : Frag} {cx : Cls} {W : Addr → Addr → Hp → Prop} {S0 S1 : S4} {G G' : α → S4 → Prop}
theorem Post.imp (h : ∀ a S', Ok K S' → Step S0 S' → G a S' → G' a S') : ∀ {r : R α}, Post K cx W S0 G r → Post K cx W S0 G' r
  | .ok a M', p => fun S' e o s => h a S' o s (p S' e o s)
  | .exn _ _ _, p => p
  | .bad, p => p
theorem Post.wish {W' : Addr → Addr → Hp → Prop} (h : ∀ C d H, W C d H → W' C d H) : ∀ {r : R α}, Post K cx W S0 G r → Post K cx W' S0 G r
  | .ok _ _, p => p
  | .exn _ _ _, p => fun C f v dd S' h1 h2 h3 h4 h5 h6 h7 => h _ _ _ (p C f v dd S' h1 h2 h3 h4 h5 h6 h7)
  | .bad, p => p
theorem Post.later (s : Step S0 S1) : ∀ {r : R α}, Post K cx W S0 G r → Post K cx W S1 G r
  | .ok _ _, p => fun S' e o t => p S' e o (s.trans t)
  | .exn _ _ _, p => fun C f v dd S' h1 h2 h3 h4 h5 h6 h7 => p C f v dd S' h1 h2 h3 (s.trans h4) h5 h6 (s.back h7)
  | .bad, p => p
/-- the first part of a bind: its answer brings the rest, told from the start -/
theorem Post.bind0 {k : α → Mem → R γ} {G2 : γ → S4 → Prop} : ∀ {r : R α}, Post K cx W S0 G2 (r.bind k) → (∀ a S', Ok K S' → Step S0 S' → Post K cx W S0 G2 (k a S'.M) → G a S') → Post K cx W S0 G r
  | .ok a M', p, h => fun S' e o s => h a S' o s (by
      subst e
      exact p)
  | .exn _ _ _, p, _ => p
  | .bad, p, _ => p
/-- .. told from its end -/
theorem Post.bind {k : α → Mem → R γ} {G2 : γ → S4 → Prop} : ∀ {r : R α}, Post K cx W S0 G2 (r.bind k) → (∀ a S', Ok K S' → Step S0 S' → Post K cx W S' G2 (k a S'.M) → G a S') → Post K cx W S0 G r
  | .ok a M', p, h => fun S' e o s => h a S' o s (by
      subst e
      exact Post.later s p)
  | .exn _ _ _, p, _ => p
  | .bad, p, _ => p
end

/-! ### the judgements -/
abbrev FE := Sl → Mem → R Val
def SE (K : Frag) (cx : Cls) (W : WX) (te : TE) (f : FE) : Prop :=
  ∀ (H0 : Hp) (ρ : Sl) (σ : L2.St) (S : S4) (Q : VK), Ok K S → SlOk K H0 S ρ σ → Post K cx (fun C d H => W (.ref C) (some d) σ H) S (fun x S' => ∀ v, VR K S.H S' v x → Q v S'.H) (f ρ S.M) → te σ S.H Q
def ST (K : Frag) (cx : Cls) (W : WX) (tt : TT) (f : Sl → Mem → R Bool) : Prop :=
  ∀ (H0 : Hp) (ρ : Sl) (σ : L2.St) (S : S4) (Q : Bool → Hp → Prop), Ok K S → SlOk K H0 S ρ σ → Post K cx (fun C d H => W (.ref C) (some d) σ H) S (fun b S' => Q b S'.H) (f ρ S.M) → tt σ S.H Q
/-- as SE, the value stored: data -/
def SD (K : Frag) (cx : Cls) (W : WX) (te : TE) (f : Sl → Mem → R D) : Prop :=
  ∀ (H0 : Hp) (ρ : Sl) (σ : L2.St) (S : S4) (Q : VK), Ok K S → SlOk K H0 S ρ σ → Post K cx (fun C d H => W (.ref C) (some d) σ H) S (fun d S' => ∀ v, Rep K S'.F S'.β v d → Q v S'.H) (f ρ S.M) → te σ S.H Q
def SA (K : Frag) (cx : Cls) (W : WX) (ta : TA) (f : Sl → Mem → R (List D)) : Prop :=
  ∀ (H0 : Hp) (ρ : Sl) (σ : L2.St) (S : S4) (Q : List V → Hp → Prop), Ok K S → SlOk K H0 S ρ σ → Post K cx (fun C d H => W (.ref C) (some d) σ H) S (fun ds S' => ∀ vs, Reps K S'.F S'.β vs ds → Q vs S'.H) (f ρ S.M) → ta σ S.H Q
end RS
set_option Elab.async false
set_option linter.all false
set_option maxRecDepth 100000
set_option maxHeartbeats 2000000
/-! # RS, part B: expressions. -/
namespace RS
open PySem L2

/-! ### what a value looks like now -/
def cellV (M : Mem) (k : Nat) : D := match M[k]? with | some (some l) => .lst l | _ => .ref k
def view (x : Val) (M : Mem) : D :=
  match x with
  | .val (.ref k) => cellV M k
  | .val d => d
  | .own l => .lst l
  | .bor l => .lst l
@[simp] theorem view_own (l : List D) (M : Mem) : view (.own l) M = .lst l := rfl
@[simp] theorem view_bor (l : List D) (M : Mem) : view (.bor l) M = .lst l := rfl
@[simp] theorem view_non (M : Mem) : view (.val .non) M = .non := rfl
@[simp] theorem view_bl (b : Bool) (M : Mem) : view (.val (.bl b)) M = .bl b := rfl
@[simp] theorem view_int (b : Int) (M : Mem) : view (.val (.int b)) M = .int b := rfl
@[simp] theorem view_str (b : Str) (M : Mem) : view (.val (.str b)) M = .str b := rfl
@[simp] theorem view_tup (b : List D) (M : Mem) : view (.val (.tup b)) M = .tup b := rfl
@[simp] theorem view_lst (b : List D) (M : Mem) : view (.val (.lst b)) M = .lst b := rfl
@[simp] theorem view_ref (k : Nat) (M : Mem) : view (.val (.ref k)) M = cellV M k := rfl
theorem cellV_of {M : Mem} {k : Nat} {l : List D} (h : M[k]? = some (some l)) : cellV M k = .lst l := by unfold cellV; rw [h]
@[simp] theorem view_exc (a dd : Addr) (f : Str) (d : D) (M : Mem) : view (.val (.exc a dd f d)) M = .exc a dd f d := rfl
@[simp] theorem view_scr (b : List Int) (M : Mem) : view (.val (.scr b)) M = .scr b := rfl

section
variable {K : Frag} {S : S4} {v : V} {x : Val}
theorem view_at (o : Ok K S) (h : VB K S v x) : (∃ l, view x S.M = .lst l ∧ ∃ a vs, v = .ref a ∧ S.H a = some (.lst vs) ∧ Reps K S.F S.β vs l ∧ l.length ≤ LIM) ∨ (∃ d, x = .val d ∧ view x S.M = d ∧ Rep K S.F S.β v d ∧ ∀ l, d ≠ .lst l) := by
  cases x with
  | own l => obtain ⟨a, e, p⟩ := h; obtain ⟨vs, q, r, hl⟩ := p.is; exact .inl ⟨l, rfl, a, vs, e, q, r, hl⟩
  | bor l => obtain ⟨a, e, p⟩ := h; obtain ⟨vs, q, r, hl⟩ := p.is; exact .inl ⟨l, rfl, a, vs, e, q, r, hl⟩
  | val d =>
    have r : Rep K S.F S.β v d := h
    cases d with
    | lst l => cases r with | lst q hs hl => exact .inl ⟨l, rfl, _, _, rfl, o.ex _ _ q, hs, hl⟩
    | ref k =>
      cases r with
      | cell q =>
        show _ ∨ _
        cases e : S.M[k]? with
        | none => exact .inr ⟨.ref k, rfl, by show cellV S.M k = _; unfold cellV; rw [e], .cell q, fun l z => nomatch z⟩
        | some u =>
          cases u with
          | none => exact .inr ⟨.ref k, rfl, by show cellV S.M k = _; unfold cellV; rw [e], .cell q, fun l z => nomatch z⟩
          | some l =>
            obtain ⟨a, vs, e1, e2, e3, _⟩ := o.cell k l e
            rw [q] at e1; cases e1
            exact .inl ⟨l, by show cellV S.M k = _; unfold cellV; rw [e], _, vs, rfl, e2, e3.1, e3.2⟩
    | non => exact .inr ⟨_, rfl, rfl, r, fun l z => nomatch z⟩
    | bl b => exact .inr ⟨_, rfl, rfl, r, fun l z => nomatch z⟩
    | int b => exact .inr ⟨_, rfl, rfl, r, fun l z => nomatch z⟩
    | str b => exact .inr ⟨_, rfl, rfl, r, fun l z => nomatch z⟩
    | exc a dd f d => exact .inr ⟨_, rfl, rfl, r, fun l z => nomatch z⟩
    | tup b => exact .inr ⟨_, rfl, rfl, r, fun l z => nomatch z⟩
    | scr b => exact .inr ⟨_, rfl, rfl, r, fun l z => nomatch z⟩
theorem view_of_lst (o : Ok K S) (h : VB K S v x) {l : List D} (e : view x S.M = .lst l) : ∃ a vs, v = .ref a ∧ S.H a = some (.lst vs) ∧ Reps K S.F S.β vs l ∧ l.length ≤ LIM := by
  rcases view_at o h with ⟨l', e', r⟩ | ⟨d, _, e', _, n⟩
  · rw [e] at e'; cases e'; exact r
  · exact absurd (e'.symm.trans e) (n l)
theorem view_of_dat (o : Ok K S) (h : VB K S v x) {d : D} (e : view x S.M = d) (n : ∀ l, d ≠ .lst l) : Rep K S.F S.β v d := by
  rcases view_at o h with ⟨l', e', r⟩ | ⟨d', _, e', r, _⟩
  · exact absurd (e.symm.trans e') (n l')
  · rw [e'.symm.trans e] at r; exact r
theorem view_of_tup (o : Ok K S) (h : VB K S v x) {l : List D} (e : view x S.M = .tup l) : ∃ a vs, v = .ref a ∧ SqT K S.H a vs ∧ Reps K S.F S.β vs l ∧ l.length ≤ LIM := by
  have r := view_of_dat o h e (fun _ z => nomatch z)
  cases r with
  | tup q hs hl => exact ⟨_, _, rfl, Evl.ex_t o.ex q, hs, hl⟩
theorem view_of_int (o : Ok K S) (h : VB K S v x) {i : Int} (e : view x S.M = .int i) : v = .int i := by
  cases view_of_dat o h e (fun _ z => nomatch z); rfl
theorem view_of_bl (o : Ok K S) (h : VB K S v x) {i : Bool} (e : view x S.M = .bl i) : v = .bl i := by
  cases view_of_dat o h e (fun _ z => nomatch z); rfl
theorem view_of_non (o : Ok K S) (h : VB K S v x) (e : view x S.M = .non) : v = .non := by
  cases view_of_dat o h e (fun _ z => nomatch z); rfl
theorem view_of_str (o : Ok K S) (h : VB K S v x) {s : Str} (e : view x S.M = .str s) : v = .str s ∧ SOk s := by
  cases view_of_dat o h e (fun _ z => nomatch z) with | str _ q => exact ⟨rfl, q⟩
theorem view_of_scr (o : Ok K S) (h : VB K S v x) {is : List Int} (e : view x S.M = .scr is) : ∃ a, v = .ref a ∧ SqL K S.H a (is.map V.int) ∧ is.length ≤ LIM := by
  cases view_of_dat o h e (fun _ z => nomatch z) with | scr q hl => exact ⟨_, rfl, Evl.ex_l o.ex q, hl⟩
end

/-! ### storing -/
def stoV : Val → Option D
  | .val d => some d
  | .own l => some (.lst l)
  | .bor _ => none
def sto (x : Val) (M : Mem) : R D := match stoV x with | some d => .ok d M | none => .bad
@[simp] theorem sto_val (d : D) (M : Mem) : sto (.val d) M = .ok d M := rfl
@[simp] theorem sto_own (l : List D) (M : Mem) : sto (.own l) M = .ok (.lst l) M := rfl
@[simp] theorem sto_bor (l : List D) (M : Mem) : sto (.bor l) M = .bad := rfl

section
variable {K : Frag} {cx : Cls} {W : WX} {te ta tb : TE} {tt tu : TT} {f g : FE}
theorem SE.sto (h : SE K cx W te f) : SD K cx W te (fun ρ M => (f ρ M).bind sto) := by
  intro H0 ρ σ S Q o so p
  refine h H0 ρ σ S _ o so (p.bind0 fun x S1 o1 s1 p1 v hv => ?_)
  cases x with
  | val d => exact p1 S1 rfl o1 s1 v hv.1
  | own l =>
    obtain ⟨a, e, q⟩ := hv.1
    subst e
    obtain ⟨F', o', r, st, _⟩ := o1.freeze q
    exact p1 { S1 with F := F' } rfl o' (st S s1 (hv.2 l rfl a rfl)) (.ref a) r
  | bor l => exact False.elim p1

/-! ### names, constants -/
def getVar (i : Nat) : FE := fun ρ M => match ρ[i]? with | some (.val d) => .ok (.val d) M | some (.own l) => .ok (.bor l) M | _ => .bad
theorem se_var (i : Nat) : SE K cx W (tVar i) (getVar i) := by
  intro H0 ρ σ S Q o so p
  unfold getVar at p
  split at p
  · rename_i d e
    obtain ⟨v, q, r⟩ := so.val i d e
    exact ⟨v, q, p S rfl o (Step.refl S) v (VR.data r)⟩
  · rename_i l e
    obtain ⟨a, q, r, _⟩ := so.own i l e
    exact ⟨.ref a, q, p S rfl o (Step.refl S) (.ref a) ⟨⟨a, rfl, r⟩, fun l e => nomatch e⟩⟩
  · exact p.elim
def con (d : D) : FE := fun _ M => .ok (.val d) M
theorem se_con {v : V} {d : D} (r : ∀ F β, Rep K F β v d) : SE K cx W (tC v) (con d) := fun H0 ρ σ S Q o so p => p S rfl o (Step.refl S) v (VR.data (r _ _))
theorem se_int (i : Int) : SE K cx W (tC (.int i)) (con (.int i)) := se_con fun _ _ => .int i
theorem se_bl (i : Bool) : SE K cx W (tC (.bl i)) (con (.bl i)) := se_con fun _ _ => .bl i
theorem se_non : SE K cx W (tC .non) (con .non) := se_con fun _ _ => .non
def strOkB (s : Str) : Bool := decide (s.length ≤ 1000) && s.cps.toList.all fun c => decide (c < 0x110000)
theorem sok_of {s : Str} (h : strOkB s = true) : SOk s := by
  unfold strOkB at h
  rw [Bool.and_eq_true, List.all_eq_true] at h
  exact ⟨Nat.le_trans (of_decide_eq_true h.1) (by decide), fun c hc => of_decide_eq_true (h.2 c hc)⟩
theorem se_str {s : Str} (h : strOkB s = true) : SE K cx W (tC (.str s)) (con (.str s)) := se_con fun _ _ => .str s (sok_of h)

/-! ### operations of two values -/
def O2 (K : Frag) (cx : Cls) (r : R2) (g : Val → Val → Mem → R Val) : Prop :=
  ∀ (S : S4) (Q : VK) (W : Addr → Addr → Hp → Prop) (v w : V) (x y : Val), Ok K S → VB K S v x → VB K S w y → Post K cx W S (fun z S' => ∀ u, VR K S.H S' u z → Q u S'.H) (g x y S.M) → r v w S.H Q
def op2 (f g : FE) (k : Val → Val → Mem → R Val) : FE := fun ρ M => (f ρ M).bind fun x M => (g ρ M).bind fun y M => k x y M
theorem se_op {r : R2} {k : Val → Val → Mem → R Val} (ho : O2 K cx r k) (ha : SE K cx W ta f) (hb : SE K cx W tb g) : SE K cx W (tOp r ta tb) (op2 f g k) := by
  intro H0 ρ σ S Q o so p
  refine ha H0 ρ σ S _ o so (Post.bind (k := fun x M => (g ρ M).bind fun y M => k x y M) p fun x S1 o1 s1 p1 v hv => ?_)
  refine hb H0 ρ σ S1 _ o1 (so.step s1) (Post.bind (k := fun y M => k x y M) p1 fun y S2 o2 s2 p2 w hw => ?_)
  exact ho S2 Q _ v w x y o2 (hv.1.step s2) hw.1 (p2.imp fun z S3 o3 s3 h u hu => h u (hu.back (s1.trans s2)))
theorem O2.or {r r' : R2} {g g' : Val → Val → Mem → R Val} (h : O2 K cx r g) (h' : O2 K cx r' g') {k : Val → Val → Mem → R Val} (hk : ∀ x y M, k x y M = g x y M ∨ k x y M = g' x y M) :
    O2 K cx (fun v w H Q => r v w H Q ∨ r' v w H Q) k := by
  intro S Q W v w x y o hx hy p
  rcases hk x y S.M with e | e
  · rw [e] at p; exact .inl (h S Q W v w x y o hx hy p)
  · rw [e] at p; exact .inr (h' S Q W v w x y o hx hy p)
/-- an answer that is a scalar -/
theorem post_dat {S : S4} {Q : VK} {W : Addr → Addr → Hp → Prop} {d : D} (o : Ok K S) (p : Post K cx W S (fun z S' => ∀ u, VR K S.H S' u z → Q u S'.H) (.ok (.val d) S.M)) {v : V} (r : Rep K S.F S.β v d) : Q v S.H :=
  p S rfl o (Step.refl S) v (VR.data r)
/-- an answer that is a new list -/
theorem post_own {S : S4} {Q : VK} {W : Addr → Addr → Hp → Prop} {l : List D} (o : Ok K S) (p : Post K cx W S (fun z S' => ∀ u, VR K S.H S' u z → Q u S'.H) (.ok (.own l) S.M)) {vs : List V} (r : Reps K S.F S.β vs l) (hl : l.length ≤ LIM) {a : Addr} (h : S.H a = none) : Q (.ref a) (upd S.H a (.lst vs)) := by
  obtain ⟨S', e1, e2, o', s', pr⟩ := o.newLst h r hl
  rw [← e1]
  exact p S' e2 o' s' (.ref a) ⟨⟨a, rfl, pr⟩, fun _ _ b e => by cases e; exact h⟩
/-- an answer that is a new tuple -/
theorem post_tup {S : S4} {Q : VK} {W : Addr → Addr → Hp → Prop} {l : List D} (o : Ok K S) (p : Post K cx W S (fun z S' => ∀ u, VR K S.H S' u z → Q u S'.H) (.ok (.val (.tup l)) S.M)) {vs : List V} (r : Reps K S.F S.β vs l) (hl : l.length ≤ LIM) {a : Addr} (h : S.H a = none) : Q (.ref a) (upd S.H a (.tup vs)) := by
  obtain ⟨S', e1, e2, _, o', s', q⟩ := o.newTup h r hl
  rw [← e1]
  exact p S' e2 o' s' (.ref a) (VR.data q)

/-! ### == -/
def flat? : D → Option PyData
  | .non => some .none | .bl b => some (.bool b) | .int i => some (.int i) | .str s => some (.str s) | _ => none
def flats? : List D → Option (List PyData)
  | [] => some []
  | d :: ds => match flat? d, flats? ds with | some p, some ps => some (p :: ps) | _, _ => none
def py? : D → Option PyData
  | .tup l => (flats? l).map PyData.tuple
  | .lst l => (flats? l).map PyData.list
  | d => flat? d
theorem flat_dp {S : S4} {v : V} : ∀ {d : D} {p : PyData}, Rep K S.F S.β v d → flat? d = some p → Dp K S.H v p ∧ p.canLay0 = true ∧ p.depth ≤ 1
  | .non, _, .non, e => by cases e; exact ⟨.non, rfl, by decide⟩
  | .bl b, _, .bl _, e => by cases e; exact ⟨.bl b, rfl, by cases b <;> decide⟩
  | .int i, _, .int _, e => by cases e; exact ⟨.int i, rfl, by simp [PyData.depth]⟩
  | .str s, _, .str _ h, e => by
    cases e
    refine ⟨.str s, ?_, by simp [PyData.depth]⟩
    show s.cps.all (fun c => decide (c < 0x110000)) = true
    rw [Array.all_eq_true']
    intro c hc
    exact decide_eq_true (h.cps c (by simpa using hc))
theorem flats_dp {S : S4} : ∀ {vs : List V} {ds : List D} {ps : List PyData}, Reps K S.F S.β vs ds → flats? ds = some ps → DpAll K S.H vs ps ∧ PyData.canLayAll0 ps = true ∧ ∀ p ∈ ps, p.depth ≤ 1
  | _, _, _, .nil, e => by cases e; exact ⟨.nil, rfl, fun _ h => by cases h⟩
  | _, _, _, .cons (d := d) (ds := ds) h hs, e => by
    unfold flats? at e
    cases e1 : flat? d with
    | none => rw [e1] at e; cases e
    | some p =>
      cases e2 : flats? ds with
      | none => rw [e1, e2] at e; cases e
      | some ps =>
        rw [e1, e2] at e
        cases e
        obtain ⟨q1, q2, q3⟩ := flat_dp h e1
        obtain ⟨r1, r2, r3⟩ := flats_dp hs e2
        refine ⟨.cons q1 r1, ?_, fun x hx => ?_⟩
        · show (PyData.canLay0 p && PyData.canLayAll0 ps) = true
          rw [q2, r2]; rfl
        · rcases List.mem_cons.mp hx with rfl | hx
          · exact q3
          · exact r3 x hx

theorem depthAll_le {ps : List PyData} (h : ∀ p ∈ ps, p.depth ≤ 1) : PyData.depthAll ps ≤ 1 := by
  induction ps with
  | nil => simp [PyData.depthAll]
  | cons p ps ih =>
    show max (PyData.depth p) (PyData.depthAll ps) ≤ 1
    exact Nat.max_le.mpr ⟨h p List.mem_cons_self, ih fun q hq => h q (List.mem_cons_of_mem _ hq)⟩
theorem py_dp {S : S4} {v : V} {x : Val} (o : Ok K S) (h : VB K S v x) {p : PyData} (e : py? (view x S.M) = some p) : Dp K S.H v p ∧ SeqAt.shaped p = true := by
  have sh : ∀ {p : PyData}, p.canLay0 = true → p.depth ≤ 2 → SeqAt.shaped p = true := fun h1 h2 => by
    unfold SeqAt.shaped
    rw [h1, decide_eq_true (by omega)]; rfl
  have sc : ∀ {d : D} {p : PyData}, Rep K S.F S.β v d → flat? d = some p → Dp K S.H v p ∧ SeqAt.shaped p = true := fun r e => by
    obtain ⟨q1, q2, q3⟩ := flat_dp r e
    exact ⟨q1, sh q2 (by omega)⟩
  rcases view_at o h with ⟨l, e', a, vs, rfl, e2, r, _⟩ | ⟨d, _, e', r, n⟩
  · rw [e'] at e
    replace e : (flats? l).map PyData.list = some p := e
    cases q : flats? l with
    | none => rw [q] at e; cases e
    | some ps =>
      rw [q] at e; cases e
      obtain ⟨q1, q2, q3⟩ := flats_dp r q
      exact ⟨.lst (.inl (.inl e2)) q1, sh q2 (by show PyData.depthAll ps + 1 ≤ 2; have := depthAll_le q3; omega)⟩
  · rw [e'] at e
    cases d with
    | tup l =>
      replace e : (flats? l).map PyData.tuple = some p := e
      cases q : flats? l with
      | none => rw [q] at e; cases e
      | some ps =>
        rw [q] at e; cases e
        cases r with
        | tup q0 hs _ =>
          obtain ⟨q1, q2, q3⟩ := flats_dp hs q
          exact ⟨.tup (Evl.ex_t o.ex q0) q1, sh q2 (by show PyData.depthAll ps + 1 ≤ 2; have := depthAll_le q3; omega)⟩
    | lst l => exact absurd rfl (n l)
    | non => exact sc r e
    | bl b => exact sc r e
    | int b => exact sc r e
    | str b => exact sc r e
    | scr b => exact sc r e
    | ref b => exact sc r e
    | exc a dd f d => exact sc r e
def eqP (neg : Bool) (x y : Val) (M : Mem) : R Val :=
  match py? (view x M), py? (view y M) with
  | some p, some q => .ok (.val (.bl (if neg then !PyData.eqv p q else PyData.eqv p q))) M
  | _, _ => .bad
theorem o2_eq : O2 K cx (rEqD K) (eqP false) := by
  intro S Q W v w x y o hx hy p
  unfold eqP at p
  split at p
  · rename_i p1 q1 e1 e2
    obtain ⟨a1, a2⟩ := py_dp o hx e1
    obtain ⟨b1, b2⟩ := py_dp o hy e2
    exact ⟨p1, q1, a1, b1, a2, b2, post_dat o p (.bl _)⟩
  · exact p.elim
theorem o2_ne : O2 K cx (rNeD K) (eqP true) := by
  intro S Q W v w x y o hx hy p
  unfold eqP at p
  split at p
  · rename_i p1 q1 e1 e2
    obtain ⟨a1, a2⟩ := py_dp o hx e1
    obtain ⟨b1, b2⟩ := py_dp o hy e2
    exact ⟨p1, q1, a1, b1, a2, b2, post_dat o p (.bl _)⟩
  · exact p.elim

/-! ### whole numbers -/
def intP (C : Int → Int → Prop) [∀ i j, Decidable (C i j)] (g : Int → Int → D) (x y : Val) (M : Mem) : R Val :=
  match view x M, view y M with
  | .int i, .int j => if C i j then .ok (.val (g i j)) M else .bad
  | _, _ => .bad
theorem o2_int {C : Int → Int → Prop} [∀ i j, Decidable (C i j)] {g : Int → Int → D} {gV : Int → Int → V} (hg : ∀ i j F β, Rep K F β (gV i j) (g i j)) : O2 K cx (rI C gV) (intP C g) := by
  intro S Q W v w x y o hx hy p
  unfold intP at p
  split at p
  · rename_i i j e1 e2
    split at p
    · rename_i hc
      exact ⟨i, j, view_of_int o hx e1, view_of_int o hy e2, hc, post_dat o p (hg i j _ _)⟩
    · exact p.elim
  · exact p.elim
def intP0 (g : Int → Int → D) (x y : Val) (M : Mem) : R Val :=
  match view x M, view y M with
  | .int i, .int j => .ok (.val (g i j)) M
  | _, _ => .bad
theorem o2_int0 {g : Int → Int → D} {gV : Int → Int → V} (hg : ∀ i j F β, Rep K F β (gV i j) (g i j)) : O2 K cx (rI0 gV) (intP0 g) := by
  intro S Q W v w x y o hx hy p
  unfold intP0 at p
  split at p
  · rename_i i j e1 e2
    exact ⟨i, j, view_of_int o hx e1, view_of_int o hy e2, post_dat o p (hg i j _ _)⟩
  · exact p.elim
def ltP := intP0 fun i j => .bl (decide (i < j))
def leP := intP0 fun i j => .bl (decide (i ≤ j))
def gtP := intP0 fun i j => .bl (decide (j < i))
def geP := intP0 fun i j => .bl (decide (j ≤ i))
def subP := intP0 fun i j => .int (i - j)
instance (i j : Int) : Decidable (CMul i j) := by unfold CMul; exact inferInstance
instance (i j : Int) : Decidable (CDivN i j) := by unfold CDivN; exact inferInstance
instance (i j : Int) : Decidable (CPow i j) := by unfold CPow; exact inferInstance
def divP := intP CDivN fun i j => .int (i.fdiv j)
def modP := intP (fun _ j => j ≠ 0) fun i j => .int (i.fmod j)
def powP := intP CPow fun i j => .int (i ^ j.toNat)
theorem o2_lt : O2 K cx (rI0 fun i j => .bl (decide (i < j))) ltP := o2_int0 fun _ _ _ _ => .bl _
theorem o2_le : O2 K cx (rI0 fun i j => .bl (decide (i ≤ j))) leP := o2_int0 fun _ _ _ _ => .bl _
theorem o2_gt : O2 K cx (rI0 fun i j => .bl (decide (j < i))) gtP := o2_int0 fun _ _ _ _ => .bl _
theorem o2_ge : O2 K cx (rI0 fun i j => .bl (decide (j ≤ i))) geP := o2_int0 fun _ _ _ _ => .bl _
theorem o2_sub : O2 K cx (rI0 fun i j => .int (i - j)) subP := o2_int0 fun _ _ _ _ => .int _
theorem o2_div : O2 K cx (rI CDivN fun i j => .int (i.fdiv j)) divP := o2_int fun _ _ _ _ => .int _
theorem o2_mod : O2 K cx (rI (fun _ j => j ≠ 0) fun i j => .int (i.fmod j)) modP := o2_int fun _ _ _ _ => .int _
theorem o2_pow : O2 K cx (rI CPow fun i j => .int (i ^ j.toNat)) powP := o2_int fun _ _ _ _ => .int _

/-! ### + -/
theorem SOk.append {s t : Str} (h : SOk s) (h' : SOk t) (hl : s.length + t.length ≤ SLIM) : SOk (s ++ t) := by
  refine ⟨?_, fun c hc => ?_⟩
  · show (s.cps ++ t.cps).size ≤ SLIM
    rw [Array.size_append]; exact hl
  · have hc' : c ∈ (s.cps ++ t.cps).toList := hc
    rw [Array.toList_append, List.mem_append] at hc'
    exact hc'.elim (h.cps c) (h'.cps c)
def addP (x y : Val) (M : Mem) : R Val :=
  match view x M, view y M with
  | .int i, .int j => .ok (.val (.int (i + j))) M
  | .str s, .str t => if s.length + t.length ≤ SLIM then .ok (.val (.str (s ++ t))) M else .bad
  | .lst l, .lst m => if l.length + m.length ≤ LIM then .ok (.own (l ++ m)) M else .bad
  | .tup l, .tup m => if l.length + m.length ≤ LIM then .ok (.val (.tup (l ++ m))) M else .bad
  | _, _ => .bad
def rAddAny (K : Frag) : R2 := fun x y H Q => rI0 (fun i j => .int (i + j)) x y H Q ∨ (∃ i j, x = .str i ∧ y = .str j ∧ i.length + j.length ≤ sizeLine ∧ Q (.str (i ++ j)) H) ∨ rCat x y H Q ∨ rCatA K x y H Q
theorem Reps.nil_iff {F : Hp} {β : List Addr} {vs : List V} {ds : List D} (r : Reps K F β vs ds) : vs = [] ↔ ds = [] := by
  cases r <;> simp
theorem o2_add : O2 K cx (rAddAny K) addP := by
  intro S Q W v w x y o hx hy p
  unfold addP at p
  split at p
  · rename_i i j e1 e2
    exact .inl ⟨i, j, view_of_int o hx e1, view_of_int o hy e2, post_dat o p (.int _)⟩
  · rename_i s t e1 e2
    split at p
    · rename_i hl
      obtain ⟨a1, a2⟩ := view_of_str o hx e1
      obtain ⟨b1, b2⟩ := view_of_str o hy e2
      exact .inr (.inl ⟨s, t, a1, b1, slim_line hl, post_dat o p (.str _ (a2.append b2 hl))⟩)
    · exact p.elim
  · rename_i l m e1 e2
    split at p
    · rename_i hl
      obtain ⟨a, vs, rfl, a2, a3, a4⟩ := view_of_lst o hx e1
      obtain ⟨b, ws, rfl, b2, b3, b4⟩ := view_of_lst o hy e2
      exact .inr (.inr (.inl ⟨a, b, vs, ws, rfl, rfl, a2, b2, by rw [a3.len, b3.len]; exact lim_line hl, fun c hc => post_own o p (a3.append b3) (by rw [List.length_append]; exact hl) hc⟩))
    · exact p.elim
  · rename_i l m e1 e2
    split at p
    · rename_i hl
      have r1 := view_of_dat o hx e1 (fun _ z => nomatch z)
      have r2 := view_of_dat o hy e2 (fun _ z => nomatch z)
      cases r1 with
      | tup h1 s1 hl1 =>
        cases r2 with
        | tup h2 s2 hl2 =>
          rename_i a vs b ws
          refine .inr (.inr (.inr ⟨_, _, _, _, rfl, rfl, Evl.ex_t o.ex h1, Evl.ex_t o.ex h2, by rw [s1.len, s2.len]; exact lim_line hl, fun z => ?_, fun _ z => ?_, fun _ _ c hc => post_tup o p (s1.append s2) (by rw [List.length_append]; exact hl) hc⟩))
          · have : l = [] := s1.nil_iff.mp z
            subst this
            exact post_dat o p (.tup h2 s2 hl2)
          · have : m = [] := s2.nil_iff.mp z
            subst this
            rw [List.append_nil] at p
            exact post_dat o p (.tup h1 s1 hl1)
    · exact p.elim
  · exact p.elim
end
end RS
set_option Elab.async false
set_option linter.all false
set_option maxRecDepth 100000
set_option maxHeartbeats 2000000
/-! # RS, part C: more expressions. -/
namespace RS
open PySem L2
section
variable {K : Frag} {cx : Cls} {W : WX} {te ta tb tc : TE} {tt tu : TT} {f g h : FE}

/-! ### * -/
/-- t * k, a tuple of few items -/
def rRepT2 (K : Frag) : R2 := fun x y H Q => ∃ l k xs, x = .ref l ∧ y = .int k ∧ SqT K H l xs ∧ xs ≠ [] ∧ 2 ≤ k ∧ k ≤ 100000 ∧ xs.length ≤ 10 ∧ ∀ p, H p = none → Q (.ref p) (upd H p (.tup (List.replicate k.toNat xs).flatten))
instance (i j : Int) : Decidable (CMulW i j) := by unfold CMulW; exact inferInstance
def mulP (x y : Val) (M : Mem) : R Val :=
  match view x M, view y M with
  | .int i, .int j => if CMulW i j then .ok (.val (.int (i * j))) M else .bad
  | .tup l, .int k => if l ≠ [] ∧ 2 ≤ k ∧ k ≤ 100000 ∧ l.length ≤ 10 then .ok (.val (.tup (List.replicate k.toNat l).flatten)) M else .bad
  | _, _ => .bad
def rMulAny (K : Frag) : R2 := fun x y H Q => rI CMulW (fun i j => .int (i * j)) x y H Q ∨ rRepT2 K x y H Q
instance {α : Type} (l : List α) : Decidable (l ≠ []) := by cases l <;> simp <;> infer_instance
theorem Reps.rep {F : Hp} {β : List Addr} {vs : List V} {ds : List D} (r : Reps K F β vs ds) : ∀ n : Nat, Reps K F β (List.replicate n vs).flatten (List.replicate n ds).flatten
  | 0 => .nil
  | n + 1 => by
    rw [List.replicate_succ, List.replicate_succ, List.flatten_cons, List.flatten_cons]
    exact r.append (Reps.rep r n)
theorem rep_len (l : List D) (k : Int) (h1 : k ≤ 100000) (h2 : l.length ≤ 10) : (List.replicate k.toNat l).flatten.length ≤ LIM := by
  rw [List.length_flatten, List.map_replicate, List.sum_replicate_nat]
  have a1 : k.toNat ≤ 100000 := by omega
  have := Nat.mul_le_mul a1 h2
  unfold LIM
  omega
theorem o2_mul : O2 K cx (rMulAny K) mulP := by
  intro S Q W v w x y o hx hy p
  unfold mulP at p
  split at p
  · rename_i i j e1 e2
    split at p
    · rename_i hc
      exact .inl ⟨i, j, view_of_int o hx e1, view_of_int o hy e2, hc, post_dat o p (.int _)⟩
    · exact p.elim
  · rename_i l k e1 e2
    split at p
    · rename_i hc
      obtain ⟨a, vs, rfl, a2, a3, a4⟩ := view_of_tup o hx e1
      refine .inr ⟨a, k, vs, rfl, view_of_int o hy e2, a2, fun z => hc.1 (a3.nil_iff.mp z), hc.2.1, hc.2.2.1, by rw [a3.len]; exact hc.2.2.2, fun c hc' => ?_⟩
      exact post_tup o p (a3.rep _) (rep_len _ _ hc.2.2.1 hc.2.2.2) hc'
    · exact p.elim
  · exact p.elim

/-! ### in, not in -/
/-- the text's one sign -/
def sign? (s : Str) : Option Nat := match s.cps.toList with | [c] => some c | _ => none
theorem sign_of {s : Str} {c : Nat} (h : sign? s = some c) : s = ⟨#[c]⟩ := by
  unfold sign? at h
  split at h
  · rename_i c' e
    cases h
    cases s with
    | mk a => simp at e; cases a; simp at e; subst e; rfl
  · cases h
def flatB : D → Bool
  | .non | .bl _ | .int _ | .str _ => true
  | _ => false
/-- == of flat data -/
def eqF : D → D → Bool
  | .non, .non => true
  | .bl a, .bl b => a == b
  | .bl a, .int b => (if a then 1 else 0) == b
  | .int a, .bl b => a == (if b then 1 else 0)
  | .int a, .int b => a == b
  | .str a, .str b => a == b
  | _, _ => false
def inF (x : D) (l : List D) : Bool := l.any fun y => eqF y x
theorem flat_V {F : Hp} {β : List Addr} {v : V} {d : D} (r : Rep K F β v d) (h : flatB d = true) : flatV v = true := by
  cases r <;> first | rfl | cases h
theorem eqF_V {F : Hp} {β : List Addr} {v w : V} {d e : D} (r : Rep K F β v d) (s : Rep K F β w e) (h : flatB d = true) (h' : flatB e = true) : eqV v w = eqF d e := by
  cases r <;> (try exact absurd h Bool.false_ne_true) <;> (cases s <;> first | rfl | exact absurd h' Bool.false_ne_true)
theorem flats_V {F : Hp} {β : List Addr} : ∀ {vs : List V} {ds : List D}, Reps K F β vs ds → ds.all flatB = true → vs.all flatV = true
  | _, _, .nil, _ => rfl
  | _, _, .cons r rs, h => by
    rw [List.all_cons, Bool.and_eq_true] at h
    rw [List.all_cons, flat_V r h.1, flats_V rs h.2]; rfl
theorem inF_V {F : Hp} {β : List Addr} {v : V} {d : D} (r : Rep K F β v d) (h : flatB d = true) : ∀ {vs : List V} {ds : List D}, Reps K F β vs ds → ds.all flatB = true → inV v vs = inF d ds
  | _, _, .nil, _ => rfl
  | _, _, .cons q qs, h' => by
    rw [List.all_cons, Bool.and_eq_true] at h'
    have ih := inF_V r h qs h'.2
    unfold inV inF at ih ⊢
    rw [List.any_cons, List.any_cons, eqF_V q r h'.1 h, ih]
def inP (neg : Bool) (x y : Val) (M : Mem) : R Val :=
  match view y M with
  | .str z => (match view x M with
    | .str s => (match sign? s with | some c => .ok (.val (.bl (if neg then !decide (c ∈ z.cps.toList) else decide (c ∈ z.cps.toList)))) M | none => .bad)
    | _ => .bad)
  | .lst l => if flatB (view x M) && l.all flatB then .ok (.val (.bl (if neg then !inF (view x M) l else inF (view x M) l))) M else .bad
  | .tup l => if flatB (view x M) && l.all flatB then .ok (.val (.bl (if neg then !inF (view x M) l else inF (view x M) l))) M else .bad
  | _ => .bad
def rInAny (K : Frag) (neg : Bool) : R2 := fun x y H Q => (∃ (c : Nat) (z : Str), x = .str ⟨#[c]⟩ ∧ y = .str z ∧ Q (.bl (if neg then !decide (c ∈ z.cps.toList) else decide (c ∈ z.cps.toList))) H) ∨ rIn K neg x y H Q
theorem o2_in (neg : Bool) : O2 K cx (rInAny K neg) (inP neg) := by
  intro S Q W v w x y o hx hy p
  unfold inP at p
  split at p
  · rename_i z e1
    split at p
    · rename_i s e2
      split at p
      · rename_i c e3
        obtain ⟨a1, _⟩ := view_of_str o hx e2
        exact .inl ⟨c, z, by rw [a1, sign_of e3], (view_of_str o hy e1).1, post_dat o p (.bl _)⟩
      · exact p.elim
    · exact p.elim
  · rename_i l e1
    split at p
    · rename_i hc
      rw [Bool.and_eq_true] at hc
      obtain ⟨a, vs, rfl, a2, a3, a4⟩ := view_of_lst o hy e1
      have r := view_of_dat o hx rfl (fun l z => by rw [z] at hc; exact absurd hc.1 (by simp [flatB]))
      refine .inr ⟨a, vs, rfl, .inl (.inl (.inl a2)), flat_V r hc.1, flats_V a3 hc.2, ?_⟩
      rw [inF_V r hc.1 a3 hc.2]
      exact post_dat o p (.bl _)
    · exact p.elim
  · rename_i l e1
    split at p
    · rename_i hc
      rw [Bool.and_eq_true] at hc
      obtain ⟨a, vs, rfl, a2, a3, a4⟩ := view_of_tup o hy e1
      have r := view_of_dat o hx rfl (fun l z => by rw [z] at hc; exact absurd hc.1 (by simp [flatB]))
      refine .inr ⟨a, vs, rfl, .inr a2, flat_V r hc.1, flats_V a3 hc.2, ?_⟩
      rw [inF_V r hc.1 a3 hc.2]
      exact post_dat o p (.bl _)
    · exact p.elim
  · exact p.elim

/-! ### is None -/
def isNonD : D → Bool
  | .non => true
  | _ => false
def isNP (neg : Bool) (x y : Val) (M : Mem) : R Val :=
  match view y M with
  | .non => .ok (.val (.bl (if neg then !isNonD (view x M) else isNonD (view x M)))) M
  | _ => .bad
def rIsN (neg : Bool) : R2 := fun x y H Q => y = .non ∧ Q (.bl (if neg then !decide (x = .non) else decide (x = .non))) H
theorem isNon_V {S : S4} {v : V} {x : Val} (o : Ok K S) (h : VB K S v x) : decide (v = .non) = isNonD (view x S.M) := by
  rcases view_at o h with ⟨l, e, a, vs, rfl, _, _, _⟩ | ⟨d, _, e, r, _⟩
  · rw [e]; rfl
  · rw [e]; cases r <;> simp [isNonD]
theorem o2_isN (neg : Bool) : O2 K cx (rIsN neg) (isNP neg) := by
  intro S Q W v w x y o hx hy p
  unfold isNP at p
  split at p
  · rename_i e1
    refine ⟨view_of_non o hy e1, ?_⟩
    rw [isNon_V o hx]
    exact post_dat o p (.bl _)
  · exact p.elim

/-! ### x[i] -/
def idxP (x y : Val) (M : Mem) : R Val :=
  match view y M with
  | .int i => (match view x M with
    | .lst l => (match atI l i with | some d => .ok (.val d) M | none => .bad)
    | .tup l => (match atI l i with | some d => .ok (.val d) M | none => .bad)
    | .str s => (match atI s.cps.toList i with | some c => .ok (.val (.str ⟨#[c]⟩)) M | none => .bad)
    | _ => .bad)
  | _ => .bad
theorem Reps.at {F : Hp} {β : List Addr} {vs : List V} {ds : List D} (r : Reps K F β vs ds) {i : Int} {d : D} (h : atI ds i = some d) : ∃ v, atI vs i = some v ∧ Rep K F β v d := by
  unfold atI at h ⊢
  rw [r.len]
  cases e : ixN ds.length i with
  | none => rw [e] at h; cases h
  | some j =>
    rw [e] at h
    obtain ⟨v, q, s⟩ := r.get (i := j) (d := d) h
    exact ⟨v, q, s⟩
theorem atI_mem {α : Type} {l : List α} {i : Int} {a : α} (h : atI l i = some a) : a ∈ l := by
  unfold atI at h
  cases e : ixN l.length i with
  | none => rw [e] at h; cases h
  | some j => rw [e] at h; exact List.mem_of_getElem? h
theorem o2_idx : O2 K cx (rIx K) idxP := by
  intro S Q W v w x y o hx hy p
  unfold idxP at p
  split at p
  · rename_i i e1
    split at p
    · rename_i l e2
      split at p
      · rename_i d e3
        obtain ⟨a, vs, rfl, a2, a3, a4⟩ := view_of_lst o hx e2
        obtain ⟨u, q, r⟩ := a3.at e3
        exact .inl ⟨a, vs, i, u, rfl, view_of_int o hy e1, .inl (.inl a2), q, post_dat o p r⟩
      · exact p.elim
    · rename_i l e2
      split at p
      · rename_i d e3
        obtain ⟨a, vs, rfl, a2, a3, a4⟩ := view_of_tup o hx e2
        obtain ⟨u, q, r⟩ := a3.at e3
        exact .inr (.inl ⟨a, vs, i, u, rfl, view_of_int o hy e1, a2, q, post_dat o p r⟩)
      · exact p.elim
    · rename_i s e2
      split at p
      · rename_i c e3
        obtain ⟨a1, a2⟩ := view_of_str o hx e2
        exact .inr (.inr ⟨s, i, c, a1, view_of_int o hy e1, slim_line a2.len, e3, post_dat o p (.str _ ⟨by show 1 ≤ SLIM; decide, fun z hz => by
          have : z = c := by simpa using hz
          subst this
          exact a2.cps _ (atI_mem e3)⟩)⟩)
      · exact p.elim
    · exact p.elim
  · exact p.elim

/-! ### slices -/
def SO (K : Frag) (cx : Cls) (W : WX) (to : TO) (f : Sl → Mem → R (Option Int)) : Prop :=
  ∀ (H0 : Hp) (ρ : Sl) (σ : L2.St) (S : S4) (Q : Option Int → Hp → Prop), Ok K S → SlOk K H0 S ρ σ → Post K cx (fun C d H => W (.ref C) (some d) σ H) S (fun b S' => Q b S'.H) (f ρ S.M) → to σ S.H Q
theorem so_none : SO K cx W tNoPart (fun _ M => .ok none M) := fun H0 ρ σ S Q o so p => p S rfl o (Step.refl S)
def asInt (x : Val) (M : Mem) : R (Option Int) := match view x M with | .int i => .ok (some i) M | _ => .bad
theorem so_some (h : SE K cx W te f) : SO K cx W (tPart te) (fun ρ M => (f ρ M).bind asInt) := by
  intro H0 ρ σ S Q o so p
  refine h H0 ρ σ S _ o so (Post.bind p fun x S1 o1 s1 p1 v hv => ?_)
  unfold asInt at p1
  split at p1
  · rename_i i e
    exact ⟨i, view_of_int o1 hv.1 e, p1 S1 rfl o1 (Step.refl S1)⟩
  · exact p1.elim
def cutL {α : Type} (xs : List α) (lo hi : Option Int) : List α := (xs.drop (HT.sIx xs.length 0 lo)).take (HT.sIx xs.length xs.length hi - HT.sIx xs.length 0 lo)
theorem cutL_len {α : Type} (xs : List α) (lo hi : Option Int) : (cutL xs lo hi).length ≤ xs.length := by
  unfold cutL
  rw [List.length_take, List.length_drop]
  omega
theorem Reps.cut {F : Hp} {β : List Addr} {vs : List V} {ds : List D} (r : Reps K F β vs ds) (lo hi : Option Int) : Reps K F β (cutV vs lo hi) (cutL ds lo hi) := by
  unfold cutV cutL
  rw [r.len]
  exact (r.drop _).take _
theorem cutS_ok {s : Str} (h : SOk s) (lo hi : Option Int) : SOk (cutS s lo hi) := by
  refine ⟨Nat.le_trans (cutS_length s lo hi) h.len, fun c hc => h.cps c ?_⟩
  unfold cutS at hc
  simp only at hc
  exact List.mem_of_mem_drop (List.mem_of_mem_take hc)
def rSlAny (K : Frag) : V → Option Int → Option Int → Hp → VK → Prop := fun x lo hi H Q => rSlL K x lo hi H Q ∨ rSlA K x lo hi H Q ∨ rSlS x lo hi H Q
def slP (x : Val) (lo hi : Option Int) (M : Mem) : R Val :=
  match view x M with
  | .lst l => .ok (.own (cutL l lo hi)) M
  | .tup l => .ok (.val (.tup (cutL l lo hi))) M
  | .str s => .ok (.val (.str (cutS s lo hi))) M
  | .scr l => .ok (.own ((cutL l lo hi).map D.int)) M
  | _ => .bad
theorem cutL_map {α γ : Type} (g : α → γ) (l : List α) (lo hi : Option Int) : cutL (l.map g) lo hi = (cutL l lo hi).map g := by
  unfold cutL
  rw [List.length_map, List.map_take, List.map_drop]
def slE (f : FE) (fl fh : Sl → Mem → R (Option Int)) : FE := fun ρ M => (f ρ M).bind fun x M => (fl ρ M).bind fun lo M => (fh ρ M).bind fun hi M => slP x lo hi M
theorem se_slice {tl th : TO} {fl fh : Sl → Mem → R (Option Int)} (h : SE K cx W te f) (hl : SO K cx W tl fl) (hh : SO K cx W th fh) : SE K cx W (tSl (rSlAny K) te tl th) (slE f fl fh) := by
  intro H0 ρ σ S Q o so p
  refine h H0 ρ σ S _ o so (Post.bind p fun x S1 o1 s1 p1 v hv => ?_)
  refine hl H0 ρ σ S1 _ o1 (so.step s1) (Post.bind p1 fun lo S2 o2 s2 p2 => ?_)
  refine hh H0 ρ σ S2 _ o2 (so.step (s1.trans s2)) (Post.bind p2 fun hi S3 o3 s3 p3 => ?_)
  have hv3 : VB K S3 v x := hv.1.step (s2.trans s3)
  have p3 := p3.imp (G' := fun z S' => ∀ u, VR K S3.H S' u z → Q u S'.H) fun z S4 o4 s4 h u hu => h u (hu.back ((s1.trans s2).trans s3))
  unfold slP at p3
  split at p3
  · rename_i l e
    obtain ⟨a, vs, rfl, a2, a3, a4⟩ := view_of_lst o3 hv3 e
    exact .inl ⟨a, vs, rfl, .inl (.inl a2), fun c hc => post_own o3 p3 (a3.cut lo hi) (Nat.le_trans (cutL_len _ _ _) a4) hc⟩
  · rename_i l e
    have r := view_of_dat o3 hv3 e (fun _ z => nomatch z)
    cases r with
    | tup q hs hl =>
      rename_i a vs
      refine .inr (.inl ⟨a, vs, rfl, Evl.ex_t o3.ex q, fun hw => ?_, fun _ c hc => post_tup o3 p3 (hs.cut lo hi) (Nat.le_trans (cutL_len _ _ _) hl) hc⟩)
      have e2 : cutL l lo hi = l := by
        unfold cutL
        rw [← hs.len, hw.1, hw.2, List.drop_zero, hs.len, Nat.sub_zero, List.take_length]
      rw [e2] at p3
      exact post_dat o3 p3 (.tup q hs hl)
  · rename_i s e
    obtain ⟨a1, a2⟩ := view_of_str o3 hv3 e
    exact .inr (.inr ⟨s, a1, slim_line a2.len, post_dat o3 p3 (.str _ (cutS_ok a2 lo hi))⟩)
  · rename_i l e
    obtain ⟨a, rfl, a2, a3⟩ := view_of_scr o3 hv3 e
    refine .inl ⟨a, _, rfl, a2, fun c hc => ?_⟩
    have e2 : cutV (l.map V.int) lo hi = (cutL l lo hi).map V.int := cutL_map V.int l lo hi
    rw [e2]
    exact post_own o3 p3 (Reps.ints _) (by rw [List.length_map]; exact Nat.le_trans (cutL_len _ _ _) a3) hc
  · exact p3.elim

/-! ### tests -/
def asBool (x : Val) (M : Mem) : R Bool := match view x M with | .bl b => .ok b M | _ => .bad
def tst (f : FE) : Sl → Mem → R Bool := fun ρ M => (f ρ M).bind asBool
theorem st_tst (h : SE K cx W te f) : ST K cx W (tTest te) (tst f) := by
  intro H0 ρ σ S Q o so p
  refine h H0 ρ σ S _ o so (Post.bind p fun x S1 o1 s1 p1 v hv => ?_)
  unfold asBool at p1
  split at p1
  · rename_i b e
    exact ⟨b, view_of_bl o1 hv.1 e, p1 S1 rfl o1 (Step.refl S1)⟩
  · exact p1.elim
theorem st_tstB (h : SE K cx W te f) : ST K cx W (tB te) (tst f) := st_tst h
def andT (f g : Sl → Mem → R Bool) : Sl → Mem → R Bool := fun ρ M => (f ρ M).bind fun b M => if b = true then g ρ M else .ok false M
def orT (f g : Sl → Mem → R Bool) : Sl → Mem → R Bool := fun ρ M => (f ρ M).bind fun b M => if b = true then .ok true M else g ρ M
def notT (f : Sl → Mem → R Bool) : Sl → Mem → R Bool := fun ρ M => (f ρ M).bind fun b M => .ok (!b) M
variable {b1 b2 : Sl → Mem → R Bool}
theorem st_and (h1 : ST K cx W tt b1) (h2 : ST K cx W tu b2) : ST K cx W (tAnd tt tu) (andT b1 b2) := by
  intro H0 ρ σ S Q o so p
  refine h1 H0 ρ σ S _ o so (Post.bind p fun b S1 o1 s1 p1 => ?_)
  cases b with
  | true => exact h2 H0 ρ σ S1 Q o1 (so.step s1) p1
  | false => exact p1 S1 rfl o1 (Step.refl S1)
theorem st_or (h1 : ST K cx W tt b1) (h2 : ST K cx W tu b2) : ST K cx W (tOr tt tu) (orT b1 b2) := by
  intro H0 ρ σ S Q o so p
  refine h1 H0 ρ σ S _ o so (Post.bind p fun b S1 o1 s1 p1 => ?_)
  cases b with
  | false => exact h2 H0 ρ σ S1 Q o1 (so.step s1) p1
  | true => exact p1 S1 rfl o1 (Step.refl S1)
theorem st_not (h1 : ST K cx W tt b1) : ST K cx W (tNot tt) (notT b1) := by
  intro H0 ρ σ S Q o so p
  exact h1 H0 ρ σ S _ o so (Post.bind p fun b S1 o1 s1 p1 => p1 S1 rfl o1 (Step.refl S1))
/-- truth of any value -/
def truB (x : Val) (M : Mem) : R Bool :=
  match view x M with
  | .non => .ok false M | .bl b => .ok b M | .int i => .ok (i != 0) M | .str s => .ok (decide (s.length ≠ 0)) M
  | .lst l => .ok (!l.isEmpty) M | .tup l => .ok (!l.isEmpty) M
  | _ => .bad
theorem Reps.empty {F : Hp} {β : List Addr} {vs : List V} {ds : List D} (r : Reps K F β vs ds) : vs.isEmpty = ds.isEmpty := by cases r <;> rfl
theorem st_truth (h : SE K cx W te f) : ST K cx W (fun σ H Q => te σ H fun x H' => ∃ k, TruV K x H' k ∧ Q k H') (fun ρ M => (f ρ M).bind truB) := by
  intro H0 ρ σ S Q o so p
  refine h H0 ρ σ S _ o so (Post.bind p fun x S1 o1 s1 p1 v hv => ?_)
  unfold truB at p1
  split at p1
  · rename_i e; rw [view_of_non o1 hv.1 e]; exact ⟨false, rfl, p1 S1 rfl o1 (Step.refl S1)⟩
  · rename_i b e; rw [view_of_bl o1 hv.1 e]; exact ⟨b, rfl, p1 S1 rfl o1 (Step.refl S1)⟩
  · rename_i b e; rw [view_of_int o1 hv.1 e]; exact ⟨_, rfl, p1 S1 rfl o1 (Step.refl S1)⟩
  · rename_i s e
    obtain ⟨a1, a2⟩ := view_of_str o1 hv.1 e
    rw [a1]
    refine ⟨decide (s.length ≠ 0), ⟨slim_line a2.len, ?_⟩, p1 S1 rfl o1 (Step.refl S1)⟩
    rw [Bool.eq_iff_iff]
    simp
  · rename_i l e
    obtain ⟨a, vs, rfl, a2, a3, a4⟩ := view_of_lst o1 hv.1 e
    exact ⟨_, .inl ⟨vs, .inl (.inl a2), rfl⟩, by rw [a3.empty]; exact p1 S1 rfl o1 (Step.refl S1)⟩
  · rename_i l e
    obtain ⟨a, vs, rfl, a2, a3, a4⟩ := view_of_tup o1 hv.1 e
    exact ⟨_, .inr (.inl ⟨vs, a2, rfl⟩), by rw [a3.empty]; exact p1 S1 rfl o1 (Step.refl S1)⟩
  · exact p1.elim
/-- and, or, not, as values that are True or False -/
def andV (f g : FE) : FE := fun ρ M => (f ρ M).bind fun x M => match view x M with | .bl b => if b = true then g ρ M else .ok (.val (.bl false)) M | _ => .bad
def orV (f g : FE) : FE := fun ρ M => (f ρ M).bind fun x M => match view x M with | .bl b => if b = true then .ok (.val (.bl true)) M else g ρ M | _ => .bad
def notV (f : FE) : FE := fun ρ M => (f ρ M).bind fun x M => match view x M with | .bl b => .ok (.val (.bl (!b))) M | _ => .bad
theorem se_andV (h1 : SE K cx W ta f) (h2 : SE K cx W tb g) : SE K cx W (tAndV ta tb) (andV f g) := by
  intro H0 ρ σ S Q o so p
  refine h1 H0 ρ σ S _ o so (Post.bind p fun x S1 o1 s1 p1 v hv => ?_)
  split at p1
  · rename_i b e
    refine ⟨b, view_of_bl o1 hv.1 e, ?_⟩
    cases b with
    | true => exact h2 H0 ρ σ S1 Q o1 (so.step s1) (p1.imp fun z S4 o4 s4 h u hu => h u (hu.back s1))
    | false => exact p1 S1 rfl o1 (Step.refl S1) _ (VR.data (.bl _))
  · exact p1.elim
theorem se_orV (h1 : SE K cx W ta f) (h2 : SE K cx W tb g) : SE K cx W (tOrV ta tb) (orV f g) := by
  intro H0 ρ σ S Q o so p
  refine h1 H0 ρ σ S _ o so (Post.bind p fun x S1 o1 s1 p1 v hv => ?_)
  split at p1
  · rename_i b e
    refine ⟨b, view_of_bl o1 hv.1 e, ?_⟩
    cases b with
    | false => exact h2 H0 ρ σ S1 Q o1 (so.step s1) (p1.imp fun z S4 o4 s4 h u hu => h u (hu.back s1))
    | true => exact p1 S1 rfl o1 (Step.refl S1) _ (VR.data (.bl _))
  · exact p1.elim
theorem se_notV (h1 : SE K cx W ta f) : SE K cx W (tNotV ta) (notV f) := by
  intro H0 ρ σ S Q o so p
  refine h1 H0 ρ σ S _ o so (Post.bind p fun x S1 o1 s1 p1 v hv => ?_)
  split at p1
  · rename_i b e
    exact ⟨b, view_of_bl o1 hv.1 e, p1 S1 rfl o1 (Step.refl S1) _ (VR.data (.bl _))⟩
  · exact p1.elim
/-- a < b < c -/
def chn (f g h : FE) (k k' : Val → Val → Mem → R Val) : Sl → Mem → R Bool := fun ρ M => (f ρ M).bind fun x M => (g ρ M).bind fun y M => (k x y M).bind fun z M =>
  match view z M with
  | .bl b => if b = true then (h ρ M).bind fun u M => (k' y u M).bind asBool else .ok false M
  | _ => .bad
theorem st_chain {r r' : R2} {k k' : Val → Val → Mem → R Val} (ho : O2 K cx r k) (ho' : O2 K cx r' k') (h1 : SE K cx W ta f) (h2 : SE K cx W tb g) (h3 : SE K cx W tc h) : ST K cx W (tTest (tChain r r' ta tb tc)) (chn f g h k k') := by
  intro H0 ρ σ S Q o so p
  refine h1 H0 ρ σ S _ o so (Post.bind p fun x S1 o1 s1 p1 v hv => ?_)
  refine h2 H0 ρ σ S1 _ o1 (so.step s1) (Post.bind p1 fun y S2 o2 s2 p2 w hw => ?_)
  refine ho S2 _ _ v w x y o2 (hv.1.step s2) hw.1 (Post.bind p2 fun z S3 o3 s3 p3 u hu => ?_)
  split at p3
  · rename_i b e
    refine ⟨b, view_of_bl o3 hu.1 e, ?_⟩
    cases b with
    | true =>
      refine iteT ?_
      refine h3 H0 ρ σ S3 _ o3 (so.step ((s1.trans s2).trans s3)) (Post.bind p3 fun c S4 o4 s4 p4 t ht => ?_)
      refine ho' S4 _ _ w t y c o4 (hw.1.step (s3.trans s4)) ht.1 (Post.bind p4 fun z' S5 o5 s5 p5 u' hu' => ?_)
      unfold asBool at p5
      split at p5
      · rename_i b' e'
        exact ⟨b', view_of_bl o5 hu'.1 e', p5 S5 rfl o5 (Step.refl S5)⟩
      · exact p5.elim
    | false => exact iteF ⟨false, rfl, p3 S3 rfl o3 (Step.refl S3)⟩
  · exact p3.elim
end
end RS
set_option Elab.async false
set_option linter.all false
set_option maxRecDepth 100000
set_option maxHeartbeats 2000000
/-! # RS, part D: arguments, displays, calls, methods of texts. -/
namespace RS
open PySem L2
section
variable {K : Frag} {cx : Cls} {W : WX} {te ta tb tc : TE} {tA : TA} {tt tu : TT} {f g h : FE} {fs : Sl → Mem → R (List D)} {fd : Sl → Mem → R D}

/-! ### argument lists, displays -/
def aNil : Sl → Mem → R (List D) := fun _ M => .ok [] M
def aCons (fd : Sl → Mem → R D) (fs : Sl → Mem → R (List D)) : Sl → Mem → R (List D) := fun ρ M => (fd ρ M).bind fun d M => (fs ρ M).bind fun ds M => .ok (d :: ds) M
def stE (f : FE) : Sl → Mem → R D := fun ρ M => (f ρ M).bind sto
theorem sa_nil : SA K cx W tNil aNil := fun H0 ρ σ S Q o so p => p S rfl o (Step.refl S) [] .nil
theorem sa_consD (h : SD K cx W te fd) (hr : SA K cx W tA fs) : SA K cx W (tCons te tA) (aCons fd fs) := by
  intro H0 ρ σ S Q o so p
  refine h H0 ρ σ S _ o so (Post.bind p fun d S1 o1 s1 p1 v hv => ?_)
  refine hr H0 ρ σ S1 _ o1 (so.step s1) (Post.bind p1 fun ds S2 o2 s2 p2 vs hvs => ?_)
  exact p2 S2 rfl o2 (Step.refl S2) (v :: vs) (.cons (s2.rep hv) hvs)
theorem sa_cons (h : SE K cx W te f) (hr : SA K cx W tA fs) : SA K cx W (tCons te tA) (aCons (stE f) fs) := sa_consD h.sto hr
def tupE (fs : Sl → Mem → R (List D)) : FE := fun ρ M => (fs ρ M).bind fun ds M => if ds.length ≤ LIM then .ok (.val (.tup ds)) M else .bad
def lstE (fs : Sl → Mem → R (List D)) : FE := fun ρ M => (fs ρ M).bind fun ds M => if ds.length ≤ LIM then .ok (.own ds) M else .bad
theorem se_tup (h : SA K cx W tA fs) : SE K cx W (tTup tA) (tupE fs) := by
  intro H0 ρ σ S Q o so p
  refine h H0 ρ σ S _ o so (Post.bind p fun ds S1 o1 s1 p1 vs r => ?_)
  split at p1
  · rename_i hl
    have p1 := p1.imp (G' := fun z S' => ∀ u, VR K S1.H S' u z → Q u S'.H) fun z S4 o4 s4 h u hu => h u (hu.back s1)
    exact ⟨by rw [r.len]; exact lim_line hl, fun c hc => post_tup o1 p1 r hl hc⟩
  · exact p1.elim
theorem se_lst (h : SA K cx W tA fs) : SE K cx W (tLst tA) (lstE fs) := by
  intro H0 ρ σ S Q o so p
  refine h H0 ρ σ S _ o so (Post.bind p fun ds S1 o1 s1 p1 vs r => ?_)
  split at p1
  · rename_i hl
    have p1 := p1.imp (G' := fun z S' => ∀ u, VR K S1.H S' u z → Q u S'.H) fun z S4 o4 s4 h u hu => h u (hu.back s1)
    exact ⟨by rw [r.len]; exact lim_line hl, fun c hc => post_own o1 p1 r hl hc⟩
  · exact p1.elim

/-! ### calls of the text's own defs -/
/-- what a def of n parameters promises: its plain function's outcome -/
def spOf (K : Frag) (cx : Cls) (n : Nat) (f : List D → Mem → R Val) : Sp := fun vs H Q E =>
  vs.length = n ∧ ∃ (S : S4) (ds : List D), S.H = H ∧ Ok K S ∧ Reps K S.F S.β vs ds ∧ Post K cx (fun C d H => E (.ref C) (some d) H) S (fun x S' => ∀ v, VR K S.H S' v x → Q v S'.H) (f ds S.M)
def callE (n : Nat) (f : List D → Mem → R Val) (fs : Sl → Mem → R (List D)) : FE := fun ρ M => (fs ρ M).bind fun ds M => if ds.length = n then f ds M else .bad
theorem se_call {n : Nat} {F : List D → Mem → R Val} (h : SA K cx W tA fs) : SE K cx W (tCallS (spOf K cx n F) (WE W) tA) (callE n F fs) := by
  intro H0 ρ σ S Q o so p
  refine h H0 ρ σ S _ o so (Post.bind p fun ds S1 o1 s1 p1 vs r => ?_)
  split at p1
  · rename_i hl
    refine ⟨by rw [r.len]; exact hl, S1, ds, rfl, o1, r, ?_⟩
    exact p1.imp fun z S4 o4 s4 h u hu => h u (hu.back s1)
  · exact p1.elim

/-! ### calls of built-ins with one argument -/
def C1 (K : Frag) (cx : Cls) (r : List V → Hp → VK → Prop) (k : Val → Mem → R Val) : Prop :=
  ∀ (S : S4) (Q : VK) (W : Addr → Addr → Hp → Prop) (v : V) (x : Val), Ok K S → VB K S v x → Post K cx W S (fun z S' => ∀ u, VR K S.H S' u z → Q u S'.H) (k x S.M) → r [v] S.H Q
def op1 (f : FE) (k : Val → Mem → R Val) : FE := fun ρ M => (f ρ M).bind fun x M => k x M
theorem se_call1 {r : List V → Hp → VK → Prop} {k : Val → Mem → R Val} (hk : C1 K cx r k) (h : SE K cx W te f) : SE K cx W (tCB r (tCons te tNil)) (op1 f k) := by
  intro H0 ρ σ S Q o so p
  refine h H0 ρ σ S _ o so (Post.bind (k := fun x M => k x M) p fun x S1 o1 s1 p1 v hv => ?_)
  exact hk S1 Q _ v x o1 hv.1 (p1.imp fun z S4 o4 s4 h u hu => h u (hu.back s1))
def lenP (x : Val) (M : Mem) : R Val :=
  match view x M with
  | .lst l => .ok (.val (.int l.length)) M
  | .tup l => .ok (.val (.int l.length)) M
  | .str s => .ok (.val (.int s.length)) M
  | _ => .bad
def rLenAny (K : Frag) : List V → Hp → VK → Prop := fun xs H Q => (∃ p ys, xs = [.ref p] ∧ (SqL K H p ys ∨ SqT K H p ys) ∧ Q (.int ys.length) H) ∨ (∃ z, xs = [.str z] ∧ z.length ≤ sizeLine ∧ Q (.int z.length) H)
theorem c1_len : C1 K cx (rLenAny K) lenP := by
  intro S Q W v x o hx p
  unfold lenP at p
  split at p
  · rename_i l e
    obtain ⟨a, vs, rfl, a2, a3, a4⟩ := view_of_lst o hx e
    refine .inl ⟨a, vs, rfl, .inl (.inl (.inl a2)), ?_⟩
    rw [a3.len]
    exact post_dat o p (.int _)
  · rename_i l e
    obtain ⟨a, vs, rfl, a2, a3, a4⟩ := view_of_tup o hx e
    refine .inl ⟨a, vs, rfl, .inr a2, ?_⟩
    rw [a3.len]
    exact post_dat o p (.int _)
  · rename_i s e
    obtain ⟨a1, a2⟩ := view_of_str o hx e
    exact .inr ⟨s, by rw [a1], slim_line a2.len, post_dat o p (.int _)⟩
  · exact p.elim
/-- int(x) -/
def intOf (x : Val) (M : Mem) : R Val :=
  match view x M with
  | .int i => .ok (.val (.int i)) M
  | .bl b => .ok (.val (.int (if b then 1 else 0))) M
  | .str s => (match PySem.intText? s with | some n => if s.length ≤ 640 then .ok (.val (.int n)) M else .bad | none => .bad)
  | _ => .bad
def rIntAny : List V → Hp → VK → Prop := fun xs H Q => ((∃ i, xs = [.int i] ∧ Q (.int i) H) ∨ ∃ k, xs = [.bl k] ∧ Q (.int (if k then 1 else 0)) H) ∨ (∃ a n, xs = [.str a] ∧ PySem.intText? a = some n ∧ a.length ≤ 640 ∧ Q (.int n) H)
theorem c1_int : C1 K cx rIntAny intOf := by
  intro S Q W v x o hx p
  unfold intOf at p
  split at p
  · rename_i i e
    exact .inl (.inl ⟨i, by rw [view_of_int o hx e], post_dat o p (.int _)⟩)
  · rename_i b e
    exact .inl (.inr ⟨b, by rw [view_of_bl o hx e], post_dat o p (.int _)⟩)
  · rename_i s e
    split at p
    · rename_i n e2
      split at p
      · rename_i hl
        obtain ⟨a1, a2⟩ := view_of_str o hx e
        exact .inr ⟨s, n, by rw [a1], e2, hl, post_dat o p (.int _)⟩
      · exact p.elim
    · exact p.elim
  · exact p.elim
/-- str(x) -/
def decS (n : Nat) : Str := ⟨(TL.numL n).toArray⟩
theorem decS_eq (n : Nat) : (Str.ofString (toString ((n : Nat) : Int))) = decS n := TL.ext_tl (TL.tl_num n)
def strP (x : Val) (M : Mem) : R Val :=
  match view x M with
  | .int i => if 0 ≤ i ∧ i < 10 ^ 40 then .ok (.val (.str (decS i.toNat))) M else .bad
  | .str s => .ok (.val (.str s)) M
  | _ => .bad
def rStrAny : List V → Hp → VK → Prop := fun xs H Q => (∃ i, xs = [.int i] ∧ i.natAbs.log2 < 1920 ∧ Q (.str (toString i)) H) ∨ (∃ a, xs = [.str a] ∧ Q (.str a) H)
theorem decS_ok {n : Nat} (h : n < 10 ^ 40) : SOk (decS n) := by
  have e : (decS n).cps.toList = TL.numL n := rfl
  refine ⟨?_, fun c hc => ?_⟩
  · have := TL.numL_len (n := n) (k := 40) (by decide) h
    show (TL.numL n).toArray.size ≤ SLIM
    rw [List.size_toArray]
    exact Nat.le_trans this (by decide)
  · rw [e] at hc
    have := TL.numL_digits n c hc
    omega
theorem c1_str : C1 K cx rStrAny strP := by
  intro S Q W v x o hx p
  unfold strP at p
  split at p
  · rename_i i e
    split at p
    · rename_i hi
      refine .inl ⟨i, by rw [view_of_int o hx e], ?_, ?_⟩
      · have h1 : i.natAbs < 10 ^ 40 := by omega
        by_cases h0 : i.natAbs = 0
        · rw [h0]; decide
        · exact (Nat.log2_lt h0).mpr (Nat.lt_of_lt_of_le h1 (by decide))
      · have e2 : i = ((i.toNat : Nat) : Int) := by omega
        have e3 : Str.ofString (toString i) = decS i.toNat := by
          rw [← decS_eq, ← e2]
        rw [e3]
        exact post_dat o p (.str _ (decS_ok (by omega)))
    · exact p.elim
  · rename_i s e
    obtain ⟨a1, a2⟩ := view_of_str o hx e
    exact .inr ⟨s, by rw [a1], post_dat o p (.str _ a2)⟩
  · exact p.elim
/-- tuple(x), list(x) -/
def tupP (x : Val) (M : Mem) : R Val :=
  match view x M with
  | .lst l => .ok (.val (.tup l)) M
  | .tup l => .ok (.val (.tup l)) M
  | _ => .bad
def lstP (x : Val) (M : Mem) : R Val :=
  match view x M with
  | .lst l => .ok (.own l) M
  | .tup l => .ok (.own l) M
  | _ => .bad
theorem c1_tup : C1 K cx (fun xs H Q => ∃ p ys, xs = [.ref p] ∧ ((SqL K H p ys ∧ ∀ l, H l = none → Q (.ref l) (upd H l (.tup ys))) ∨ (SqT K H p ys ∧ Q (.ref p) H))) tupP := by
  intro S Q W v x o hx p
  unfold tupP at p
  split at p
  · rename_i l e
    obtain ⟨a, vs, rfl, a2, a3, a4⟩ := view_of_lst o hx e
    exact ⟨a, vs, rfl, .inl ⟨.inl (.inl a2), fun c hc => post_tup o p a3 a4 hc⟩⟩
  · rename_i l e
    have r := view_of_dat o hx e (fun _ z => nomatch z)
    cases r with
    | tup q hs hl => exact ⟨_, _, rfl, .inr ⟨Evl.ex_t o.ex q, post_dat o p (.tup q hs hl)⟩⟩
  · exact p.elim
theorem c1_lst : C1 K cx (fun xs H Q => ∃ p ys, xs = [.ref p] ∧ (SqL K H p ys ∨ SqT K H p ys) ∧ ∀ l, H l = none → Q (.ref l) (upd H l (.lst ys))) lstP := by
  intro S Q W v x o hx p
  unfold lstP at p
  split at p
  · rename_i l e
    obtain ⟨a, vs, rfl, a2, a3, a4⟩ := view_of_lst o hx e
    exact ⟨a, vs, rfl, .inl (.inl (.inl a2)), fun c hc => post_own o p a3 a4 hc⟩
  · rename_i l e
    obtain ⟨a, vs, rfl, a2, a3, a4⟩ := view_of_tup o hx e
    exact ⟨a, vs, rfl, .inr a2, fun c hc => post_own o p a3 a4 hc⟩
  · exact p.elim
/-- all(x) of a list of True, False -/
def bools? : List D → Option (List Bool)
  | [] => some []
  | .bl b :: ds => (bools? ds).map (b :: ·)
  | _ => none
theorem bools_V {F : Hp} {β : List Addr} : ∀ {ds : List D} {bs : List Bool} {vs : List V}, Reps K F β vs ds → bools? ds = some bs → vs = bs.map V.bl
  | [], _, _, .nil, e => by cases e; rfl
  | .bl b :: ds, _, _, .cons r rs, e => by
    cases r
    unfold bools? at e
    cases e2 : bools? ds with
    | none => rw [e2] at e; cases e
    | some bs => rw [e2] at e; cases e; rw [bools_V rs e2]; rfl
  | .non :: _, _, _, _, e => by cases e
  | .int _ :: _, _, _, _, e => by cases e
  | .str _ :: _, _, _, _, e => by cases e
  | .tup _ :: _, _, _, _, e => by cases e
  | .lst _ :: _, _, _, _, e => by cases e
  | .scr _ :: _, _, _, _, e => by cases e
  | .ref _ :: _, _, _, _, e => by cases e
  | .exc _ _ _ _ :: _, _, _, _, e => by cases e
def allP (x : Val) (M : Mem) : R Val :=
  match view x M with
  | .lst l => (match bools? l with | some bs => .ok (.val (.bl (bs.all id))) M | none => .bad)
  | _ => .bad
def anyP (x : Val) (M : Mem) : R Val :=
  match view x M with
  | .lst l => (match bools? l with | some bs => .ok (.val (.bl (bs.any id))) M | none => .bad)
  | _ => .bad
theorem c1_all : C1 K cx (rAll K) allP := by
  intro S Q W v x o hx p
  unfold allP at p
  split at p
  · rename_i l e
    split at p
    · rename_i bs e2
      obtain ⟨a, vs, rfl, a2, a3, a4⟩ := view_of_lst o hx e
      rw [bools_V a3 e2] at a2
      exact ⟨a, bs, rfl, .inl (.inl a2), post_dat o p (.bl _)⟩
    · exact p.elim
  · exact p.elim
theorem c1_any : C1 K cx (rAny K) anyP := by
  intro S Q W v x o hx p
  unfold anyP at p
  split at p
  · rename_i l e
    split at p
    · rename_i bs e2
      obtain ⟨a, vs, rfl, a2, a3, a4⟩ := view_of_lst o hx e
      rw [bools_V a3 e2] at a2
      exact ⟨a, bs, rfl, .inl (.inl a2), post_dat o p (.bl _)⟩
    · exact p.elim
  · exact p.elim

/-! ### isinstance(x, T), T a built-in type -/
def tyName : D → String
  | .non => "NoneType" | .bl _ => "bool" | .int _ => "int" | .str _ => "str" | .tup _ => "tuple" | .lst _ => "list" | _ => "?"
def isiB (T : String) (d : D) : Option Bool := match d with
  | .scr _ => none | .ref _ => none | .exc _ _ _ _ => none
  | d => kitB (tyName d) T
def isiP (T : String) (x : Val) (M : Mem) : R Val := match isiB T (view x M) with | some b => .ok (.val (.bl b)) M | none => .bad
theorem tyX_of {S : S4} {v : V} {x : Val} (o : Ok K S) (h : VB K S v x) {T : String} {b : Bool} (e : isiB T (view x S.M) = some b) : ∃ t, TyX K S.H v t ∧ PySem.W.kitOne K t (.type T) = some b := by
  rcases view_at o h with ⟨l, e1, a, vs, rfl, e2, r, _⟩ | ⟨d, _, e1, r, n⟩
  · rw [e1] at e
    exact ⟨_, .base (.lst e2), kit_ty e⟩
  · rw [e1] at e
    cases d with
    | non => cases r; exact ⟨_, .base .non, kit_ty e⟩
    | bl b => cases r; exact ⟨_, .base (.bl b), kit_ty e⟩
    | int i => cases r; exact ⟨_, .base (.int i), kit_ty e⟩
    | str i => cases r; exact ⟨_, .base (.str i), kit_ty e⟩
    | tup l =>
      cases r with
      | tup q hs hl =>
        rcases q with (q | ⟨ob, q⟩) | ⟨ob, its, n, q, c, _⟩
        · exact ⟨_, .base (.tup (o.ex _ _ q)), kit_ty e⟩
        · exact ⟨_, .fTuple (o.ex _ _ q), kit_ty e⟩
        · exact ⟨_, .kTuple q c, kit_ty e⟩
    | lst l => exact absurd rfl (n l)
    | scr l => cases e
    | ref k => cases e
    | exc a dd f d => cases e
theorem se_isi {T : String} (h : SE K cx W te f) : SE K cx W (tCB (rIsi K) (tCons te (tCons (tC (.ty T)) tNil))) (op1 f (isiP T)) := by
  intro H0 ρ σ S Q o so p
  refine h H0 ρ σ S _ o so (Post.bind (k := fun x M => isiP T x M) p fun x S1 o1 s1 p1 v hv => ?_)
  unfold isiP at p1
  split at p1
  · rename_i b e
    obtain ⟨t, q1, q2⟩ := tyX_of o1 hv.1 e
    exact ⟨v, .ty T, t, .type T, b, rfl, .ty T, q1, q2, p1 S1 rfl o1 (Step.refl S1) _ (VR.data (.bl b))⟩
  · exact p1.elim

end
end RS
set_option Elab.async false
set_option linter.all false
set_option maxRecDepth 100000
set_option maxHeartbeats 2000000
/-! # RS, part E: split and join, what is walked, targets, comprehensions. -/
namespace RS
open PySem L2
/-- a text of its signs -/
abbrev mk (l : List Nat) : Str := ⟨l.toArray⟩
/-- l cut at each c -/
def splitC (c : Nat) : List Nat → List (List Nat)
  | [] => [[]]
  | x :: xs => if x = c then [] :: splitC c xs else match splitC c xs with
    | p :: ps => (x :: p) :: ps
    | [] => [[x]]
theorem splitC_ne (c : Nat) : ∀ l, splitC c l ≠ []
  | [] => by simp [splitC]
  | x :: xs => by
    unfold splitC
    split
    · simp
    · split <;> simp
theorem spl_splitC (c : Nat) : ∀ (l acc : List Nat), TL.spl [c] 0 acc l = (match splitC c l with | p :: ps => (acc ++ p) :: ps | [] => [])
  | [], acc => by rw [TL.spl_nil]; simp [splitC]
  | x :: xs, acc => by
    by_cases h : x = c
    · subst h
      rw [TL.spl_hit (by simp [TL.pre])]
      show acc :: TL.spl [x] 0 [] xs = _
      rw [spl_splitC x xs []]
      simp only [splitC, if_true, List.append_nil]
      cases e : splitC x xs with
      | nil => exact absurd e (splitC_ne x xs)
      | cons p ps => simp
    · rw [TL.spl_miss (by simp [TL.pre, h]), spl_splitC c xs (acc ++ [x])]
      simp only [splitC, if_neg h]
      cases e : splitC c xs with
      | nil => exact absurd e (splitC_ne c xs)
      | cons p ps => simp
theorem split_eq (s b : Str) (c : Nat) (h : b.cps.toList = [c]) (hc : c < 256) : Txt.split s b = (splitC c s.cps.toList).map mk := by
  refine TL.map_tl_inj ?_
  have hk : b.cps.all (· < 256) = true := by
    rw [Array.all_eq_true']
    intro x hx
    have : x ∈ b.cps.toList := by simpa using hx
    rw [h] at this
    simp at this
    subst this
    exact decide_eq_true hc
  rw [TL.split_spl s b (by show b.cps.toList ≠ []; rw [h]; simp) (TL.kind_ok hk)]
  show TL.spl b.cps.toList 0 [] s.cps.toList = _
  rw [h, spl_splitC, List.map_map]
  have e : (TL.tl ∘ mk) = id := rfl
  rw [e, List.map_id]
  cases e : splitC c s.cps.toList with
  | nil => exact absurd e (splitC_ne _ _)
  | cons p ps => simp
theorem splitC_mem {c x : Nat} : ∀ {l p : List Nat}, p ∈ splitC c l → x ∈ p → x ∈ l ∧ x ≠ c
  | [], p, h, hx => by simp [splitC] at h; subst h; cases hx
  | y :: ys, p, h, hx => by
    unfold splitC at h
    split at h
    · rcases List.mem_cons.mp h with rfl | h
      · cases hx
      · have := splitC_mem h hx
        exact ⟨List.mem_cons_of_mem _ this.1, this.2⟩
    · rename_i hy
      cases e : splitC c ys with
      | nil => exact absurd e (splitC_ne _ _)
      | cons q qs =>
        rw [e] at h
        rcases List.mem_cons.mp h with rfl | h
        · rcases List.mem_cons.mp hx with rfl | hx
          · exact ⟨List.mem_cons_self, hy⟩
          · have := splitC_mem (c := c) (l := ys) (p := q) (by rw [e]; exact List.mem_cons_self) hx
            exact ⟨List.mem_cons_of_mem _ this.1, this.2⟩
        · have := splitC_mem (c := c) (l := ys) (p := p) (by rw [e]; exact List.mem_cons_of_mem _ h) hx
          exact ⟨List.mem_cons_of_mem _ this.1, this.2⟩
theorem splitC_len (c : Nat) : ∀ l : List Nat, (splitC c l).length ≤ l.length + 1 ∧ ∀ p ∈ splitC c l, p.length ≤ l.length
  | [] => by simp [splitC]
  | x :: xs => by
    obtain ⟨h1, h2⟩ := splitC_len c xs
    unfold splitC
    split
    · refine ⟨by simp only [List.length_cons]; omega, fun p hp => ?_⟩
      rcases List.mem_cons.mp hp with rfl | hp
      · simp
      · have := h2 p hp; simp only [List.length_cons]; omega
    · cases e : splitC c xs with
      | nil => exact absurd e (splitC_ne _ _)
      | cons q qs =>
        rw [e] at h1 h2
        refine ⟨by simp only [List.length_cons] at h1 ⊢; omega, fun p hp => ?_⟩
        rcases List.mem_cons.mp hp with rfl | hp
        · have := h2 q List.mem_cons_self; simp only [List.length_cons]; omega
        · have := h2 p (List.mem_cons_of_mem _ hp); simp only [List.length_cons]; omega
theorem SOk.of {l : List Nat} (h1 : l.length ≤ SLIM) (h2 : ∀ c ∈ l, c < 0x110000) : SOk (RS.mk l) := ⟨by show l.toArray.size ≤ _; rw [List.size_toArray]; exact h1, h2⟩
theorem mk_inj {a b : List Nat} (h : mk a = mk b) : a = b := by
  have := congrArg (fun s : Str => s.cps.toList) h
  exact this
theorem Reps.mks {K : Frag} {F : Hp} {β : List Addr} : ∀ (ls : List (List Nat)), (∀ l ∈ ls, SOk (RS.mk l)) → Reps K F β (ls.map fun l => V.str (RS.mk l)) (ls.map fun l => D.str (RS.mk l))
  | [], _ => .nil
  | l :: ls, h => .cons (.str _ (h l List.mem_cons_self)) (Reps.mks ls fun x hx => h x (List.mem_cons_of_mem _ hx))

section
variable {K : Frag} {cx : Cls} {W : WX} {te ta tb tc : TE} {tA : TA} {tt tu : TT} {f g h : FE} {fs : Sl → Mem → R (List D)} {fd : Sl → Mem → R D}
def txts (ls : List (List Nat)) : List D := ls.map fun l => D.str (mk l)
def splitE (f g : FE) : FE := fun ρ M => (f ρ M).bind fun x M => match view x M with
  | .str s => (g ρ M).bind fun y M => (match view y M with
    | .str b => (match sign? b with | some c => if c < 256 ∧ s.length + 2 ≤ SLIM then .ok (.own (txts (splitC c s.cps.toList))) M else .bad | none => .bad)
    | _ => .bad)
  | _ => .bad
theorem se_split (h : SE K cx W ta f) (h' : SE K cx W tb g) : SE K cx W (tM1 (fun x xs H Q => ∃ a b, x = .str a ∧ xs = [.str b] ∧ (b.length == 0) = false ∧ a.length + 2 ≤ sizeLine ∧ rNewStrs (Txt.split a b) H Q) ta tb) (splitE f g) := by
  intro H0 ρ σ S Q o so p
  refine h H0 ρ σ S _ o so (Post.bind p fun x S1 o1 s1 p1 v hv => ?_)
  split at p1
  · rename_i s e
    obtain ⟨a1, a2⟩ := view_of_str o1 hv.1 e
    refine ⟨⟨s, a1⟩, h' H0 ρ σ S1 _ o1 (so.step s1) (Post.bind p1 fun y S2 o2 s2 p2 w hw => ?_)⟩
    split at p2
    · rename_i b e2
      obtain ⟨b1, b2⟩ := view_of_str o2 hw.1 e2
      split at p2
      · rename_i c e3
        split at p2
        · rename_i hc
          have eb := sign_of e3
          have el : b.cps.toList = [c] := by rw [eb]
          have e4 : (Txt.split s b).map V.str = (splitC c s.cps.toList).map fun l => V.str (mk l) := by rw [split_eq s b c el hc.1, List.map_map]; rfl
          have hs : s.cps.toList.length ≤ SLIM := by have := a2.len; rw [Array.length_toList]; exact this
          refine ⟨s, b, a1, by rw [b1], by rw [eb]; rfl, slim_line hc.2, fun c' hc' => ?_⟩
          have p2 := p2.imp (G' := fun z S' => ∀ u, VR K S2.H S' u z → Q u S'.H) fun z S4 o4 s4 h u hu => h u (hu.back (s1.trans s2))
          rw [e4]
          refine post_own o2 p2 (Reps.mks _ fun l hl => SOk.of (Nat.le_trans ((splitC_len c _).2 l hl) hs) fun x hx => a2.cps x (splitC_mem hl hx).1) ?_ hc'
          unfold txts
          rw [List.length_map]
          have := (splitC_len c s.cps.toList).1
          unfold LIM SLIM at *
          omega
        · exact p2.elim
      · exact p2.elim
    · exact p2.elim
  · exact p1.elim

/-- joined -/
def txts? : List D → Option (List (List Nat))
  | [] => some []
  | .str s :: ds => (txts? ds).map (s.cps.toList :: ·)
  | _ => none
theorem txts_back (ls : List (List Nat)) : txts? (txts ls) = some ls := by
  induction ls with
  | nil => rfl
  | cons l ls ih =>
    show (txts? (txts ls)).map _ = _
    rw [ih]; rfl
theorem txts_V {F : Hp} {β : List Addr} : ∀ {ds : List D} {ls : List (List Nat)} {vs : List V}, Reps K F β vs ds → txts? ds = some ls → vs = (ls.map mk).map V.str ∧ ∀ l ∈ ls, SOk (mk l)
  | [], _, _, .nil, e => by cases e; exact ⟨rfl, fun _ h => nomatch h⟩
  | .str s :: ds, _, _, .cons r rs, e => by
    cases r with
    | str _ hs =>
      unfold txts? at e
      cases e2 : txts? ds with
      | none => rw [e2] at e; cases e
      | some ls =>
        rw [e2] at e; cases e
        obtain ⟨q1, q2⟩ := txts_V rs e2
        have es : mk s.cps.toList = s := TL.mk_tl s
        refine ⟨by rw [q1]; show _ = V.str (mk s.cps.toList) :: _; rw [es], fun l hl => ?_⟩
        rcases List.mem_cons.mp hl with rfl | hl
        · rw [es]; exact hs
        · exact q2 l hl
  | .bl _ :: _, _, _, _, e => by cases e
  | .non :: _, _, _, _, e => by cases e
  | .int _ :: _, _, _, _, e => by cases e
  | .tup _ :: _, _, _, _, e => by cases e
  | .lst _ :: _, _, _, _, e => by cases e
  | .scr _ :: _, _, _, _, e => by cases e
  | .ref _ :: _, _, _, _, e => by cases e
def joinSize (a : List Nat) (ls : List (List Nat)) : Nat := (ls.map List.length).sum + ls.length * a.length
def joinR (s : Str) (l : List D) (M : Mem) : R Val := match txts? l with
  | some ls => if joinSize s.cps.toList ls ≤ SLIM then .ok (.val (.str (mk (TL.joinL s.cps.toList ls)))) M else .bad
  | none => .bad
def joinE (f g : FE) : FE := fun ρ M => (f ρ M).bind fun x M => match view x M with
  | .str s => (g ρ M).bind fun y M => (match view y M with
    | .lst l => joinR s l M
    | .tup l => joinR s l M
    | _ => .bad)
  | _ => .bad
theorem joinL_mem {S : List Nat} {x : Nat} : ∀ {ls : List (List Nat)}, x ∈ TL.joinL S ls → x ∈ S ∨ ∃ l ∈ ls, x ∈ l
  | [], h => nomatch h
  | [p], h => .inr ⟨p, List.mem_cons_self, h⟩
  | p :: q :: r, h => by
    have h : x ∈ p ++ (S ++ TL.joinL S (q :: r)) := h
    rw [List.mem_append, List.mem_append] at h
    rcases h with h | h | h
    · exact .inr ⟨p, List.mem_cons_self, h⟩
    · exact .inl h
    · rcases joinL_mem h with h | ⟨l, hl, h⟩
      · exact .inl h
      · exact .inr ⟨l, List.mem_cons_of_mem _ hl, h⟩
theorem joinL_len (S : List Nat) : ∀ ls : List (List Nat), (TL.joinL S ls).length ≤ joinSize S ls
  | [] => Nat.zero_le _
  | [p] => by simp [TL.joinL, joinSize]
  | p :: q :: r => by
    have ih := joinL_len S (q :: r)
    show (p ++ (S ++ TL.joinL S (q :: r))).length ≤ _
    unfold joinSize at ih ⊢
    rw [List.length_append, List.length_append]
    simp only [List.map_cons, List.sum_cons, List.length_cons, Nat.succ_mul] at ih ⊢
    have := Nat.add_mul r.length 1 S.length
    omega
theorem se_join (h : SE K cx W ta f) (h' : SE K cx W tb g) : SE K cx W (tM1 (fun x xs H Q => ∃ a p, ∃ ys : List Str, x = .str a ∧ xs = [.ref p] ∧ (SqL K H p (ys.map V.str) ∨ SqT K H p (ys.map V.str)) ∧
      (ys.map (·.length)).sum + ys.length * a.length ≤ 16777216 ∧ Q (.str (Txt.join a ys)) H) ta tb) (joinE f g) := by
  intro H0 ρ σ S Q o so p
  refine h H0 ρ σ S _ o so (Post.bind p fun x S1 o1 s1 p1 v hv => ?_)
  split at p1
  · rename_i s e
    obtain ⟨a1, a2⟩ := view_of_str o1 hv.1 e
    refine ⟨⟨s, a1⟩, h' H0 ρ σ S1 _ o1 (so.step s1) (Post.bind p1 fun y S2 o2 s2 p2 w hw => ?_)⟩
    have fin : ∀ {l : List D} {a : Addr} {vs : List V}, w = .ref a → Reps K S2.F S2.β vs l → (SqL K S2.H a vs ∨ SqT K S2.H a vs) → Post K cx (fun C d H => W (.ref C) (some d) σ H) S2 (fun x S' => ∀ v, VR K S.H S' v x → Q v S'.H) (joinR s l S2.M) → ∃ (a : Str) (p : Addr), ∃ ys : List Str, v = .str a ∧ [w] = [.ref p] ∧ (SqL K S2.H p (ys.map V.str) ∨ SqT K S2.H p (ys.map V.str)) ∧
      (ys.map (·.length)).sum + ys.length * a.length ≤ 16777216 ∧ Q (.str (Txt.join a ys)) S2.H := fun {l a vs} ew r hq p2 => by
      unfold joinR at p2
      split at p2
      · rename_i ls e3
        split at p2
        · rename_i hz
          obtain ⟨q1, q2⟩ := txts_V r e3
          refine ⟨s, a, ls.map mk, a1, by rw [ew], by rw [← q1]; exact hq, ?_, ?_⟩
          · have ez : joinSize s.cps.toList ls = ((ls.map mk).map (·.length)).sum + (ls.map mk).length * s.length := by
              unfold joinSize
              rw [List.map_map, List.length_map, Array.length_toList]
              have : ((fun x : Str => x.length) ∘ mk) = List.length := by
                funext l
                show l.toArray.size = l.length
                rw [List.size_toArray]
              rw [this]; rfl
            rw [← ez]
            exact Nat.le_trans hz (by decide)
          · have ej : Txt.join s (ls.map mk) = mk (TL.joinL s.cps.toList ls) := by
              refine TL.ext_tl ?_
              rw [TL.join_eq, TL.tl_join, List.map_map]
              have : (TL.tl ∘ mk) = id := rfl
              rw [this, List.map_id]
            rw [ej]
            refine p2 S2 rfl o2 (Step.refl S2) _ (VR.data (.str _ (SOk.of (Nat.le_trans (joinL_len _ _) hz) fun x hx => ?_)))
            rcases joinL_mem hx with hx | ⟨l, hl, hx⟩
            · exact a2.cps x hx
            · exact (q2 l hl).cps x hx
        · exact p2.elim
      · exact p2.elim
    split at p2
    · rename_i l e2
      obtain ⟨a, vs, rfl, b2, b3, _⟩ := view_of_lst o2 hw.1 e2
      exact fin rfl b3 (.inl (.inl (.inl b2))) p2
    · rename_i l e2
      obtain ⟨a, vs, rfl, b2, b3, _⟩ := view_of_tup o2 hw.1 e2
      exact fin rfl b3 (.inr b2) p2
    · exact p2.elim
  · exact p1.elim

/-! ### what is walked -/
def ItOk (K : Frag) (S1 : S4) (J : It) (ds : List D) : Prop :=
  ∀ S, Ok K S → Evl.Ex S1.F S.F → S1.β <+: S.β →
    (∀ i, ds.length = i → J.stop i S.H) ∧
    (∀ i d, ds[i]? = some d → J.go i S.H ∧ ∀ x H', J.yld i S.H x H' → ∃ S', S'.H = H' ∧ S'.M = S.M ∧ Ok K S' ∧ Step S S' ∧ Rep K S'.F S'.β x d)
def SI (K : Frag) (cx : Cls) (W : WX) (wi : TI) (f : Sl → Mem → R (List D)) : Prop :=
  ∀ (H0 : Hp) (ρ : Sl) (σ : L2.St) (S : S4) (Q : It → Hp → Prop), Ok K S → SlOk K H0 S ρ σ → Post K cx (fun C d H => W (.ref C) (some d) σ H) S (fun ds S' => ∀ J, ItOk K S' J ds → Q J S'.H) (f ρ S.M) → wi σ S.H Q
/-- the items of what stands still -/
def itemsOf (d : D) (M : Mem) : R (List D) := match d with
  | .lst l => .ok l M
  | .tup l => .ok l M
  | .str s => .ok (s.cps.toList.map fun c => .str (mk [c])) M
  | _ => .bad
def seqE (f : FE) : Sl → Mem → R (List D) := fun ρ M => (stE f ρ M).bind itemsOf
def iAny (K : Frag) (te : TE) : TI := fun σ H Q => te σ H fun x H1 => (∃ a, x = .ref a ∧ (∃ xs, SqL K H1 a xs) ∧ Q (Itl K a) H1) ∨ (∃ a, x = .ref a ∧ (∃ xs, SqT K H1 a xs) ∧ Q (Itt K a) H1) ∨ (∃ s, x = .str s ∧ Q (Its s) H1)
theorem si_any (h : SE K cx W te f) : SI K cx W (iAny K te) (seqE f) := by
  intro H0 ρ σ S Q o so p
  refine h.sto H0 ρ σ S _ o so (Post.bind p fun d S1 o1 s1 p1 v r => ?_)
  unfold itemsOf at p1
  split at p1
  · cases r with
    | lst q hs hl =>
      rename_i l a vs
      refine .inl ⟨a, rfl, ⟨vs, .inl (.inl (o1.ex _ _ q))⟩, p1 S1 rfl o1 (Step.refl S1) _ fun S2 o2 e2 q2 => ⟨fun i hi => ⟨vs, .inl (.inl (o2.ex _ _ (e2 _ _ q))), by rw [hs.len]; exact Nat.le_of_eq hi⟩, fun i d hd => ?_⟩⟩
      have e3 : SqL K S2.H a vs := .inl (.inl (o2.ex _ _ (e2 _ _ q)))
      obtain ⟨x, hx, rx⟩ := hs.get hd
      refine ⟨⟨vs, x, e3, hx⟩, fun y H' hy => ⟨S2, hy.1.symm, rfl, o2, Step.refl S2, ?_⟩⟩
      have ey := hy.2 vs e3
      rw [hx] at ey
      cases ey
      exact rx.mono e2 q2
  · cases r with
    | tup q hs hl =>
      rename_i l a vs
      refine .inr (.inl ⟨a, rfl, ⟨vs, Evl.ex_t o1.ex q⟩, p1 S1 rfl o1 (Step.refl S1) _ fun S2 o2 e2 q2 => ⟨fun i hi => ⟨vs, Evl.ex_t (e2.trans o2.ex) q, by rw [hs.len]; exact Nat.le_of_eq hi⟩, fun i d hd => ?_⟩⟩)
      have e3 : SqT K S2.H a vs := Evl.ex_t (e2.trans o2.ex) q
      obtain ⟨x, hx, rx⟩ := hs.get hd
      refine ⟨⟨vs, x, e3, hx⟩, fun y H' hy => ⟨S2, hy.1.symm, rfl, o2, Step.refl S2, ?_⟩⟩
      have ey := hy.2 vs e3
      rw [hx] at ey
      cases ey
      exact rx.mono e2 q2
  · cases r with
    | str _ hs =>
      rename_i s
      refine .inr (.inr ⟨s, rfl, p1 S1 rfl o1 (Step.refl S1) _ fun S2 o2 e2 q2 => ⟨fun i hi => ?_, fun i d hd => ?_⟩⟩)
      · rw [List.length_map, Array.length_toList] at hi; exact Nat.le_of_eq hi
      · rw [List.getElem?_map] at hd
        cases ec : s.cps.toList[i]? with
        | none => rw [ec] at hd; cases hd
        | some c =>
          rw [ec] at hd
          cases hd
          have hi : i < s.cps.size := by
            have := (List.getElem?_eq_some_iff.mp ec).1
            rw [Array.length_toList] at this; exact this
          refine ⟨hi, fun y H' hy => ⟨S2, hy.1.symm, rfl, o2, Step.refl S2, ?_⟩⟩
          obtain ⟨_, c', hc', rfl⟩ := hy
          have : c' = c := by
            rw [Array.getElem?_toList] at ec
            rw [hc'] at ec; exact Option.some.inj ec
          subst this
          exact .str _ (SOk.of (by show 1 ≤ SLIM; decide) fun x hx => by
            simp at hx; subst hx; exact hs.cps _ (List.mem_of_getElem? ec))
  · exact p1.elim
open PySem.Spec PyProof.Rows in
theorem pi_any {X : Cx} {tg e : Expr} (he : PE X e te) : PI X tg e (iAny X.K te) := by
  refine ⟨fun pins s σ H R I h => ?_⟩
  refine thn (he.run pins s σ H _ I h) fun v s1 ⟨x, H1, I1, r1, q⟩ => ?_
  rcases q with ⟨a, rfl, ⟨xs, hq⟩, q⟩ | ⟨a, rfl, ⟨xs, hq⟩, q⟩ | ⟨x, rfl, q⟩
  · cases r1
    obtain ⟨its, rv, p, hz⟩ := I1.list hq
    refine wpAny_pyIter_list p.isList ?_
    refine ⟨s1.heap.objs.size, [s1.heap.objs.size], _, _, H1, rfl, I1.kept (t' := s1.toks) fun b o e => Heap.get?_push_of_some _ e, turn_list a _, ⟨_, Heap.get?_push_size _ rfl, rfl, rfl⟩, fun b hb => ?_, q⟩
    have e : b = s1.heap.objs.size := by simpa using hb
    subst e
    exact I1.fpOk (Nat.le_refl _) (I1.hok.fresh (Nat.le_refl _))
  · cases r1
    obtain ⟨its, rv, p, hz⟩ := I1.tuple hq
    refine wpAny_pyIter_tuple (show s1.heap.IsTuple a its.toArray from p) ?_
    refine ⟨s1.heap.objs.size, [s1.heap.objs.size], _, _, H1, rfl, I1.kept (t' := s1.toks) fun b o e => Heap.get?_push_of_some _ e, turn_tuple a _, ⟨_, Heap.get?_push_size _ rfl, rfl, rfl⟩, fun b hb => ?_, q⟩
    have e : b = s1.heap.objs.size := by simpa using hb
    subst e
    exact I1.fpOk (Nat.le_refl _) (I1.hok.fresh (Nat.le_refl _))
  · obtain ⟨t, rfl⟩ := r1
    cases ha : x.cps.all (· < 128)
    · exact wpAny_pyIter_wide ha (pi_one (tk := s1.toks) I1 _ (turn_str _ x t "str_iterator" (.inr rfl)) ⟨_, Heap.get?_push_size _ rfl, rfl, rfl⟩ q)
    · exact wpAny_pyIter_ascii ha (pi_one (tk := s1.toks) I1 _ (turn_str _ x t "str_ascii_iterator" (.inl rfl)) ⟨_, Heap.get?_push_size _ rfl, rfl, rfl⟩ q)
/-- range(n), range(a, b) -/
def rngE (fs : Sl → Mem → R (List D)) : Sl → Mem → R (List D) := fun ρ M => (fs ρ M).bind fun ds M => match ds with
  | [.int n] => if -(2 ^ 40) ≤ n ∧ n ≤ 16000000 then .ok ((List.range n.toNat).map fun (k : Nat) => D.int ((0 : Int) + (k : Int))) M else .bad
  | [.int a, .int b] => if -(2 ^ 40) ≤ a ∧ a ≤ 2 ^ 40 ∧ -(2 ^ 40) ≤ b ∧ b ≤ 2 ^ 40 ∧ b - a ≤ 16000000 then .ok ((List.range (b - a).toNat).map fun (k : Nat) => D.int (a + (k : Int))) M else .bad
  | _ => .bad
theorem rng_it {S1 : S4} (lo : Int) (n : Nat) : ItOk K S1 (Itr lo n) ((List.range n).map fun (k : Nat) => D.int (lo + (k : Int))) := fun S2 o2 e2 q2 => by
  refine ⟨fun i hi => by rw [List.length_map, List.length_range] at hi; exact Nat.le_of_eq hi, fun i d hd => ?_⟩
  rw [List.getElem?_map] at hd
  by_cases hi : i < n
  · rw [List.getElem?_range hi] at hd
    cases hd
    exact ⟨hi, fun y H' hy => ⟨S2, hy.1.symm, rfl, o2, Step.refl S2, by rw [hy.2]; exact .int _⟩⟩
  · rw [List.getElem?_eq_none (by rw [List.length_range]; omega)] at hd
    cases hd
theorem si_rng1 (h : SA K cx W tA fs) : SI K cx W (iRng1 tA) (fun ρ M => (fs ρ M).bind fun ds M => match ds with
    | [.int n] => if -(2 ^ 40) ≤ n ∧ n ≤ 16000000 then .ok ((List.range n.toNat).map fun (k : Nat) => D.int ((0 : Int) + (k : Int))) M else .bad | _ => .bad) := by
  intro H0 ρ σ S Q o so p
  refine h H0 ρ σ S _ o so (Post.bind p fun ds S1 o1 s1 p1 vs r => ?_)
  split at p1
  · split at p1
    · rename_i n hn
      cases r with
      | cons r1 r2 =>
        cases r2; cases r1
        exact ⟨n, rfl, by omega, by omega, p1 S1 rfl o1 (Step.refl S1) _ (rng_it 0 n.toNat)⟩
    · exact p1.elim
  · exact p1.elim
theorem si_rng2 (h : SA K cx W tA fs) : SI K cx W (iRng2 tA) (fun ρ M => (fs ρ M).bind fun ds M => match ds with
    | [.int a, .int b] => if -(2 ^ 40) ≤ a ∧ a ≤ 2 ^ 40 ∧ -(2 ^ 40) ≤ b ∧ b ≤ 2 ^ 40 ∧ b - a ≤ 16000000 then .ok ((List.range (b - a).toNat).map fun (k : Nat) => D.int (a + (k : Int))) M else .bad | _ => .bad) := by
  intro H0 ρ σ S Q o so p
  refine h H0 ρ σ S _ o so (Post.bind p fun ds S1 o1 s1 p1 vs r => ?_)
  split at p1
  · split at p1
    · rename_i a b hn
      cases r with
      | cons r1 r2 =>
        cases r1
        cases r2 with
        | cons r1 r2 =>
          cases r2; cases r1
          exact ⟨a, b, rfl, by omega, p1 S1 rfl o1 (Step.refl S1) _ (rng_it a (b - a).toNat)⟩
    · exact p1.elim
  · exact p1.elim
end
end RS
set_option Elab.async false
set_option linter.all false
set_option maxRecDepth 100000
set_option maxHeartbeats 2000000
/-! # RS, part F: targets, comprehensions, statements, defs. -/
namespace RS
open PySem L2
section
variable {K : Frag} {cx : Cls} {W : WX} {te ta tb tc : TE} {tA : TA} {tt tu : TT} {f g h : FE} {fs : Sl → Mem → R (List D)} {fd : Sl → Mem → R D}

/-! ### slots stored -/
theorem SlOk.setVal {H0 : Hp} {S : S4} {ρ : Sl} {σ : L2.St} (s : SlOk K H0 S ρ σ) {v : V} {d : D} (r : Rep K S.F S.β v d) (i : Nat) : SlOk K H0 S (ρ.set i (.val d)) (σ.set i (some v)) where
  len := by rw [List.length_set, List.length_set]; exact s.len
  val := fun j e q => by
    by_cases hj : i = j
    · subst hj
      have hi : i < ρ.length := by
        have := (List.getElem?_eq_some_iff.mp q).1
        rw [List.length_set] at this; exact this
      rw [List.getElem?_set_self hi] at q
      cases q
      exact ⟨v, List.getElem?_set_self (by rw [← s.len]; exact hi), r⟩
    · rw [List.getElem?_set_ne hj] at q
      rw [List.getElem?_set_ne hj]
      exact s.val j e q
  own := fun j l q => by
    by_cases hj : i = j
    · subst hj
      have hi : i < ρ.length := by
        have := (List.getElem?_eq_some_iff.mp q).1
        rw [List.length_set] at this; exact this
      rw [List.getElem?_set_self hi] at q
      cases q
    · rw [List.getElem?_set_ne hj] at q
      rw [List.getElem?_set_ne hj]
      exact s.own j l q
  dis := fun j k l m a q1 q2 q3 q4 => by
    have no : ∀ (j : Nat) (l : List D), (ρ.set i (.val d))[j]? = some (.own l) → i ≠ j := fun j l q hj => by
      subst hj
      have hi : i < ρ.length := by
        have := (List.getElem?_eq_some_iff.mp q).1
        rw [List.length_set] at this; exact this
      rw [List.getElem?_set_self hi] at q
      cases q
    have h1 := no j l q1
    have h2 := no k m q2
    rw [List.getElem?_set_ne h1] at q1 q3
    rw [List.getElem?_set_ne h2] at q2 q4
    exact s.dis j k l m a q1 q2 q3 q4
theorem SlOk.setOwn {H0 : Hp} {S : S4} {ρ : Sl} {σ : L2.St} (s : SlOk K H0 S ρ σ) {a : Addr} {l : List D} (p : Priv K S a l) (h0 : H0 a = none) (i : Nat) (fresh : ∀ (j : Nat) (m : List D), j ≠ i → ρ[j]? = some (.own m) → σ[j]? ≠ some (some (.ref a))) :
    SlOk K H0 S (ρ.set i (.own l)) (σ.set i (some (.ref a))) where
  len := by rw [List.length_set, List.length_set]; exact s.len
  val := fun j e q => by
    by_cases hj : i = j
    · subst hj
      have hi : i < ρ.length := by
        have := (List.getElem?_eq_some_iff.mp q).1
        rw [List.length_set] at this; exact this
      rw [List.getElem?_set_self hi] at q
      cases q
    · rw [List.getElem?_set_ne hj] at q
      rw [List.getElem?_set_ne hj]
      exact s.val j e q
  own := fun j m q => by
    by_cases hj : i = j
    · subst hj
      have hi : i < ρ.length := by
        have := (List.getElem?_eq_some_iff.mp q).1
        rw [List.length_set] at this; exact this
      rw [List.getElem?_set_self hi] at q
      cases q
      exact ⟨a, List.getElem?_set_self (by rw [← s.len]; exact hi), p, h0⟩
    · rw [List.getElem?_set_ne hj] at q
      rw [List.getElem?_set_ne hj]
      exact s.own j m q
  dis := fun j k m n b q1 q2 q3 q4 => by
    have at_i : ∀ (m : List D) (b : Addr), (ρ.set i (.own l))[i]? = some (.own m) → (σ.set i (some (.ref a)))[i]? = some (some (.ref b)) → b = a := fun m b q q' => by
      have hi : i < ρ.length := by
        have := (List.getElem?_eq_some_iff.mp q).1
        rw [List.length_set] at this; exact this
      rw [List.getElem?_set_self (by rw [← s.len]; exact hi)] at q'
      cases q'; rfl
    by_cases hj : i = j
    · subst hj
      by_cases hk : i = k
      · exact hk
      · have e := at_i m b q1 q3
        subst e
        rw [List.getElem?_set_ne hk] at q2 q4
        exact absurd q4 (fresh k n (Ne.symm hk) q2)
    · by_cases hk : i = k
      · subst hk
        have e := at_i n b q2 q4
        subst e
        rw [List.getElem?_set_ne hj] at q1 q3
        exact absurd q3 (fresh j m (Ne.symm hj) q1)
      · rw [List.getElem?_set_ne hj] at q1 q3
        rw [List.getElem?_set_ne hk] at q2 q4
        exact s.dis j k m n b q1 q2 q3 q4

/-! ### targets -/
def STG (K : Frag) (g : TG) (t : D → Sl → Option Sl) (is : List Nat) : Prop :=
  ∀ (H0 : Hp) (S : S4) (ρ : Sl) (σ : L2.St) (v : V) (d : D) (Q : L2.St → Hp → Prop), Ok K S → SlOk K H0 S ρ σ → Rep K S.F S.β v d →
    (∃ ρ', t d ρ = some ρ' ∧ ∀ σ', SlOk K H0 S ρ' σ' → σ'.length = σ.length → (∀ k, k ∉ is → σ'[k]? = σ[k]?) → Q σ' S.H) → g v σ S.H Q
def STGs (K : Frag) (g : TGs) (t : List D → Sl → Option Sl) (is : List Nat) : Prop :=
  ∀ (H0 : Hp) (S : S4) (ρ : Sl) (σ : L2.St) (vs : List V) (ds : List D) (Q : L2.St → Hp → Prop), Ok K S → SlOk K H0 S ρ σ → Reps K S.F S.β vs ds →
    (∃ ρ', t ds ρ = some ρ' ∧ ∀ σ', SlOk K H0 S ρ' σ' → σ'.length = σ.length → (∀ k, k ∉ is → σ'[k]? = σ[k]?) → Q σ' S.H) → g vs σ S.H Q
def tgN (i : Nat) (d : D) (ρ : Sl) : Option Sl := some (ρ.set i (.val d))
def tgsNil (ds : List D) (ρ : Sl) : Option Sl := match ds with | [] => some ρ | _ => none
def tgsCons (t : D → Sl → Option Sl) (u : List D → Sl → Option Sl) (ds : List D) (ρ : Sl) : Option Sl := match ds with
  | d :: r => (match t d ρ with | some ρ' => u r ρ' | none => none)
  | [] => none
def tgT (n : Nat) (u : List D → Sl → Option Sl) (d : D) (ρ : Sl) : Option Sl := match d with
  | .tup ds => if ds.length = n then u ds ρ else none
  | _ => none
theorem stg_name (i : Nat) : STG K (gName i) (tgN i) [i] := by
  intro H0 S ρ σ v d Q o s r ⟨ρ', e, q⟩
  cases e
  exact q _ (s.setVal r i) (List.length_set ..) fun k hk => List.getElem?_set_ne (fun z => hk (by rw [z]; exact List.mem_cons_self))
theorem stgs_nil : STGs K gNil tgsNil [] := by
  intro H0 S ρ σ v d Q o s r ⟨ρ', e, q⟩
  cases r with
  | nil => cases e; exact ⟨rfl, q σ s rfl fun _ _ => rfl⟩
  | cons _ _ => cases e
theorem stgs_cons {g : TG} {u : TGs} {t : D → Sl → Option Sl} {w : List D → Sl → Option Sl} {is js : List Nat} (h : STG K g t is) (h' : STGs K u w js) : STGs K (gCons g u) (tgsCons t w) (is ++ js) := by
  intro H0 S ρ σ vs ds Q o s r ⟨ρ', e, q⟩
  cases r with
  | nil => cases e
  | cons r1 r2 =>
    unfold tgsCons at e
    simp only at e
    split at e
    · rename_i ρ1 e1
      refine ⟨_, _, rfl, h H0 S ρ σ _ _ _ o s r1 ⟨ρ1, e1, fun σ1 s1 l1 k1 => ?_⟩⟩
      refine h' H0 S ρ1 σ1 _ _ _ o s1 r2 ⟨ρ', e, fun σ2 s2 l2 k2 => q σ2 s2 (l2.trans l1) fun k hk => ?_⟩
      rw [k2 k fun z => hk (List.mem_append_right _ z), k1 k fun z => hk (List.mem_append_left _ z)]
    · cases e
theorem stg_tup {n : Nat} {u : TGs} {w : List D → Sl → Option Sl} {js : List Nat} (h : STGs K u w js) : STG K (gTup K n u) (tgT n w) js := by
  intro H0 S ρ σ v d Q o s r ⟨ρ', e, q⟩
  unfold tgT at e
  split at e
  · split at e
    · rename_i hn
      cases r with
      | tup q1 hs hl => exact ⟨_, _, rfl, Evl.ex_t o.ex q1, by rw [hs.len]; exact hn, h H0 S ρ σ _ _ Q o s hs ⟨ρ', e, q⟩⟩
    · cases e
  · cases e

/-! ### comprehensions -/
def wipeS (ρ : Sl) : List Nat → Sl
  | [] => ρ
  | v :: vs => (wipeS ρ vs).set v .none
theorem SlOk.wipe {H0 : Hp} {S : S4} {ρ : Sl} {σ : L2.St} (s : SlOk K H0 S ρ σ) : ∀ vs : List Nat, SlOk K H0 S (wipeS ρ vs) (L2.wipe σ vs)
  | [] => s
  | v :: vs => by
    have ih := SlOk.wipe s vs
    have key : ∀ (j : Nat) (u : Slot), u ≠ .none → ((wipeS ρ vs).set v .none)[j]? = some u → v ≠ j ∧ (wipeS ρ vs)[j]? = some u := fun j u hu q => by
      by_cases hj : v = j
      · subst hj
        have hi : v < (wipeS ρ vs).length := by
          have := (List.getElem?_eq_some_iff.mp q).1
          rw [List.length_set] at this; exact this
        rw [List.getElem?_set_self hi] at q
        cases q
        exact absurd rfl hu
      · rw [List.getElem?_set_ne hj] at q
        exact ⟨hj, q⟩
    refine ⟨?_, fun j d q => ?_, fun j l q => ?_, fun j k l m a q1 q2 q3 q4 => ?_⟩
    · show ((wipeS ρ vs).set v .none).length = ((L2.wipe σ vs).set v none).length
      rw [List.length_set, List.length_set]; exact ih.len
    · obtain ⟨hj, q⟩ := key j (.val d) (fun z => nomatch z) q
      show ∃ w, ((L2.wipe σ vs).set v none)[j]? = some (some w) ∧ _
      rw [List.getElem?_set_ne hj]
      exact ih.val j d q
    · obtain ⟨hj, q⟩ := key j (.own l) (fun z => nomatch z) q
      show ∃ w, ((L2.wipe σ vs).set v none)[j]? = some (some (.ref w)) ∧ _
      rw [List.getElem?_set_ne hj]
      exact ih.own j l q
    · obtain ⟨hj, q1⟩ := key j (.own l) (fun z => nomatch z) q1
      obtain ⟨hk, q2⟩ := key k (.own m) (fun z => nomatch z) q2
      have q3' : ((L2.wipe σ vs).set v none)[j]? = some (some (.ref a)) := q3
      have q4' : ((L2.wipe σ vs).set v none)[k]? = some (some (.ref a)) := q4
      rw [List.getElem?_set_ne hj] at q3'
      rw [List.getElem?_set_ne hk] at q4'
      exact ih.dis j k l m a q1 q2 q3' q4'
theorem wipe_in (σ : L2.St) : ∀ (vs : List Nat) (k : Nat), k ∈ vs → (L2.wipe σ vs)[k]? = if k < σ.length then some none else none
  | [], k, h => nomatch h
  | v :: vs, k, h => by
    show ((L2.wipe σ vs).set v none)[k]? = _
    by_cases hv : v = k
    · subst hv
      rw [List.getElem?_set]
      simp [L2.wipe_length]
    · rw [List.getElem?_set_ne hv]
      exact wipe_in σ vs k ((List.mem_cons.mp h).resolve_left (Ne.symm hv))
theorem wipe_eq {σ σ' : L2.St} {vs is : List Nat} (hs : ∀ i ∈ is, i ∈ vs) (hl : σ'.length = (L2.wipe σ vs).length) (hk : ∀ k, k ∉ is → σ'[k]? = (L2.wipe σ vs)[k]?) : L2.wipe σ' vs = L2.wipe σ vs := by
  refine List.ext_getElem? fun k => ?_
  have hl' : σ'.length = σ.length := by rw [hl, L2.wipe_length]
  by_cases h : k ∈ vs
  · rw [wipe_in σ' vs k h, wipe_in σ vs k h, hl']
  · rw [L2.wipe_out h, hk k (fun z => h (hs k z)), ]
def cmpGo (t : D → Sl → Option Sl) (b : Sl → Mem → R Bool) (e : Sl → Mem → R D) (ρ : Sl) : List D → List D → Mem → R Val
  | [], acc, M => .ok (.own acc) M
  | d :: ds, acc, M => match t d ρ with
    | none => .bad
    | some ρ1 => match b ρ1 M with
      | .ok true M1 => (match e ρ1 M1 with | .ok y M2 => cmpGo t b e ρ ds (acc ++ [y]) M2 | _ => .bad)
      | .ok false M1 => cmpGo t b e ρ ds acc M1
      | _ => .bad
def cmpE (fi : Sl → Mem → R (List D)) (t : D → Sl → Option Sl) (b : Sl → Mem → R Bool) (e : Sl → Mem → R D) (vs : List Nat) : FE := fun ρ M => (fi ρ M).bind fun ds M => if ds.length ≤ SLIM then cmpGo t b e (wipeS ρ vs) ds [] M else .bad
def yesT : Sl → Mem → R Bool := fun _ M => .ok true M
theorem st_yes : ST K cx W tYes yesT := fun H0 ρ σ S Q o so p => p S rfl o (Step.refl S)
/-- no exception leaves a comprehension -/
abbrev W0 : WX := fun _ _ _ _ => False
theorem se_comp {wi : TI} {g : TG} {fi : Sl → Mem → R (List D)} {t : D → Sl → Option Sl} {b : Sl → Mem → R Bool} {is vs : List Nat} (hi : SI K cx W wi fi) (hg : STG K g t is) (hs : ∀ i ∈ is, i ∈ vs) (hb : ST K cx W0 tt b) (he : SE K cx W0 te f) :
    SE K cx W (tLc wi g tt te vs) (cmpE fi t b (stE f) vs) := by
  intro H0 ρ σ S Q o so p
  refine hi H0 ρ σ S _ o so (Post.bind p fun ds S1 o1 s1 p1 J hJ => ?_)
  split at p1
  case isFalse => exact p1.elim
  rename_i hz
  intro Da hD
  have p1 := p1.imp (G' := fun z S' => ∀ u, VR K S1.H S' u z → Q u S'.H) fun z S4 o4 s4 h u hu => h u (hu.back s1)
  -- the new list, then turn by turn
  obtain ⟨S2, e1, e2, o2, s2, pr⟩ := o1.newLst (ds := []) hD .nil (Nat.zero_le _)
  refine ⟨fun i m H => ∃ (S : S4) (acc : List D), S.H = H ∧ Ok K S ∧ Step S1 S ∧ Priv K S Da acc ∧ m = ds.length - i ∧ i ≤ ds.length ∧ acc.length ≤ i ∧
      Post K cx (fun C d H => W (.ref C) (some d) σ H) S1 (fun z S' => ∀ u, VR K S1.H S' u z → Q u S'.H) (cmpGo t b (stE f) (wipeS ρ vs) (ds.drop i) acc S.M),
    ⟨ds.length, S2, [], e1, o2, s2, pr, rfl, Nat.zero_le _, Nat.le_refl _, by rw [e2]; exact p1⟩, fun i m H hw => ?_⟩
  obtain ⟨S3, acc, rfl, o3, s3, p3, rfl, hi', ha, q3⟩ := hw
  obtain ⟨j1, j2⟩ := hJ S3 o3 s3.exF s3.pre
  by_cases hlt : i < ds.length
  · have hd : ds[i]? = some ds[i] := List.getElem?_eq_getElem hlt
    obtain ⟨hgo, hy⟩ := j2 i _ hd
    refine .inr ⟨hgo, fun H' => ∃ (S : S4) (acc' : List D), S.H = H' ∧ Ok K S ∧ Step S1 S ∧ Priv K S Da acc' ∧ acc'.length ≤ i + 1 ∧
      Post K cx (fun C d H => W (.ref C) (some d) σ H) S1 (fun z S' => ∀ u, VR K S1.H S' u z → Q u S'.H) (cmpGo t b (stE f) (wipeS ρ vs) (ds.drop (i + 1)) acc' S.M),
      fun H' ⟨S, acc', h1, h2, h3, h4, h5, h6⟩ => ⟨ds.length - (i + 1), by omega, S, acc', h1, h2, h3, h4, rfl, hlt, h5, h6⟩, fun x H' hx => ?_⟩
    obtain ⟨S4, rfl, eM, o4, s4, r4⟩ := hy x H' hx
    rw [List.drop_eq_getElem_cons hlt] at q3
    unfold cmpGo at q3
    have w4 : SlOk K H0 S4 (wipeS ρ vs) (L2.wipe σ vs) := (so.step ((s1.trans s3).trans s4)).wipe vs
    cases et : t ds[i] (wipeS ρ vs) with
    | none => rw [et] at q3; exact q3.elim
    | some ρ1 =>
      rw [et] at q3
      refine hg H0 S4 _ _ _ _ _ o4 w4 r4 ⟨ρ1, et, fun σ' w5 l5 k5 => ⟨wipe_eq hs l5 k5, ?_⟩⟩
      rw [← eM] at q3
      refine hb H0 ρ1 σ' S4 _ o4 w5 ?_
      cases eb : b ρ1 S4.M with
      | bad => simp only [eb] at q3; exact q3.elim
      | exn c d M => simp only [eb] at q3; exact q3.elim
      | ok bb M1 =>
        simp only [eb] at q3
        intro S5 e5 o5 s5
        cases bb with
        | false =>
          refine iteF ⟨S5, acc, rfl, o5, (s3.trans s4).trans s5, (p3.step s4).step s5, by omega, ?_⟩
          rw [e5]; exact q3
        | true =>
          refine iteT (he.sto H0 ρ1 σ' S5 _ o5 (w5.step s5) ?_)
          show Post K cx _ S5 _ (stE f ρ1 S5.M)
          rw [e5]
          cases ee : stE f ρ1 M1 with
          | bad => simp only [ee] at q3; exact q3.elim
          | exn c d M => simp only [ee] at q3; exact q3.elim
          | ok y M2 =>
            simp only [ee] at q3
            intro S6 e6 o6 s6 v rv
            obtain ⟨vs', h1, h2, h3⟩ := ((p3.step s4).step (s5.trans s6)).is
            have pp := (p3.step s4).step (s5.trans s6)
            have hl' : acc.length < sizeLine := by
              have : acc.length < LIM := by unfold SLIM at hz; unfold LIM; omega
              rw [sizeLine_eq]; unfold LIM at this; omega
            have s16 : Step S1 S6 := (s3.trans s4).trans (s5.trans s6)
            refine ⟨vs', h1, by rw [h2.len]; exact hl', ⟨S6.F, S6.β, S6.M, upd S6.H Da (.lst (vs' ++ [v]))⟩, acc ++ [y], rfl, o6.setPriv pp.nF pp.nB ⟨_, h1⟩, s16.setPriv hD, ⟨⟨vs' ++ [v], upd_same, h2.append (.one rv), ?_⟩, pp.nF, pp.nB⟩, ?_, ?_⟩
            · rw [List.length_append, List.length_singleton]
              unfold SLIM at hz; unfold LIM; omega
            · rw [List.length_append, List.length_singleton]; omega
            · show Post K cx _ S1 _ (cmpGo t b (stE f) (wipeS ρ vs) (ds.drop (i + 1)) (acc ++ [y]) S6.M)
              rw [e6]; exact q3
  · have ei : i = ds.length := by omega
    subst ei
    rw [List.drop_length] at q3
    refine .inl ⟨j1 _ (rfl), ?_⟩
    exact q3 S3 rfl o3 s3 (.ref Da) ⟨⟨Da, rfl, p3⟩, fun _ _ a e => by cases e; exact hD⟩
end
end RS
set_option Elab.async false
set_option linter.all false
set_option maxRecDepth 100000
set_option maxHeartbeats 2000000
/-! # RS, part G: statements, defs. -/
namespace RS
open PySem L2

inductive Fl where
  | next (ρ : Sl) | ret (x : Val) | brk (ρ : Sl) | cnt (ρ : Sl)
abbrev FS := Sl → Mem → R Fl

/-- what is known stays known -/
structure Grow (T S : S4) : Prop where
  ex : Evl.Ex T.F S.F
  pre : T.β <+: S.β
theorem Grow.refl (S : S4) : Grow S S := ⟨Evl.Ex.refl _, List.prefix_refl _⟩
theorem Grow.trans {S S1 S2 : S4} (g : Grow S S1) (h : Grow S1 S2) : Grow S S2 := ⟨g.ex.trans h.ex, g.pre.trans h.pre⟩
theorem Step.grow {S S1 : S4} (s : Step S S1) : Grow S S1 := ⟨s.exF, s.pre⟩
structure SInv (K : Frag) (E0 T S : S4) (ρ : Sl) (σ : L2.St) : Prop where
  ok : Ok K S
  st : Step E0 S
  sl : SlOk K E0.H S ρ σ
  gr : Grow T S
def PostS (K : Frag) (cx : Cls) (W : WX) (E0 T : S4) (D : Ends) : R Fl → Prop
  | .ok (.next ρ') M' => ∀ S' σ', S'.M = M' → SInv K E0 T S' ρ' σ' → D.nx σ' S'.H
  | .ok (.brk ρ') M' => ∀ S' σ', S'.M = M' → SInv K E0 T S' ρ' σ' → D.bk σ' S'.H
  | .ok (.cnt ρ') M' => ∀ S' σ', S'.M = M' → SInv K E0 T S' ρ' σ' → D.ct σ' S'.H
  | .ok (.ret x) M' => ∀ S' v, S'.M = M' → Ok K S' → Step E0 S' → VR K E0.H S' v x → D.rt v S'.H
  | .exn c d M' => ∀ C f v dd S' σ', cx c = some (C, f) → S'.M = M' → Ok K S' → Step E0 S' → S'.H dd = some (.xd [(f, v)]) → Rep K S'.F S'.β v d → E0.H dd = none → W (.ref C) (some dd) σ' S'.H
  | .bad => False
def SS (K : Frag) (cx : Cls) (W : WX) (ts : TS) (g : FS) : Prop :=
  ∀ (E0 T S : S4) (ρ : Sl) (σ : L2.St) (D : Ends), SInv K E0 T S ρ σ → PostS K cx W E0 T D (g ρ S.M) → ts D σ S.H

section
variable {K : Frag} {cx : Cls} {W : WX} {te ta tb tc : TE} {tA : TA} {tt tu : TT} {f g h : FE} {fs : Sl → Mem → R (List D)} {fd : Sl → Mem → R D} {ts us : TS} {p q : FS} {E0 T S : S4} {D : Ends}
theorem SInv.step {ρ : Sl} {σ : L2.St} {S' : S4} (i : SInv K E0 T S ρ σ) (o : Ok K S') (s : Step S S') : SInv K E0 T S' ρ σ := ⟨o, i.st.trans s, i.sl.step s, i.gr.trans s.grow⟩
theorem PostS.bindE {α : Type} {k : α → Mem → R Fl} {G : α → S4 → Prop} {σ : L2.St} (st : Step E0 S) : ∀ {r : R α}, PostS K cx W E0 T D (r.bind k) → (∀ a S', Ok K S' → Step S S' → PostS K cx W E0 T D (k a S'.M) → G a S') → Post K cx (fun C d H => W (.ref C) (some d) σ H) S G r
  | .ok a M', p, h => fun S' e o s => h a S' o s (by subst e; exact p)
  | .exn c d M', p, h => fun C f v dd S' h1 h2 h3 h4 h5 h6 h7 => p C f v dd S' σ h1 h2 h3 (st.trans h4) h5 h6 (st.back h7)
  | .bad, p, h => p

/-! ### blocks -/
def seqF (p q : FS) : FS := fun ρ M => match p ρ M with
  | .ok (.next ρ') M' => q ρ' M'
  | r => r
theorem ss_seq (h1 : SS K cx W ts p) (h2 : SS K cx W us q) : SS K cx W (tSeq ts us) (seqF p q) := by
  intro E0 T S ρ σ D i hp
  refine h1 E0 T S ρ σ { D with nx := us D } i ?_
  unfold seqF at hp
  cases e : p ρ S.M with
  | bad => rw [e] at hp; exact hp
  | exn c d M => rw [e] at hp; exact hp
  | ok fl M =>
    cases fl with
    | next ρ' =>
      rw [e] at hp
      intro S' σ' e' i'
      subst e'
      exact h2 E0 T S' ρ' σ' D i' hp
    | ret x => rw [e] at hp; exact hp
    | brk ρ' => rw [e] at hp; exact hp
    | cnt ρ' => rw [e] at hp; exact hp
def nxt : FS := fun ρ M => .ok (.next ρ) M
theorem ss_nil : SS K cx W tNext nxt := fun E0 T S ρ σ D i hp => hp S σ rfl i
def brkF : FS := fun ρ M => .ok (.brk ρ) M
def cntF : FS := fun ρ M => .ok (.cnt ρ) M
theorem ss_brk : SS K cx W tBreak brkF := fun E0 T S ρ σ D i hp => hp S σ rfl i
theorem ss_cont : SS K cx W tCont cntF := fun E0 T S ρ σ D i hp => hp S σ rfl i

/-! ### assignments -/
def asgF (t : RS.D → Sl → Option Sl) (fd : Sl → Mem → R RS.D) : FS := fun ρ M => (fd ρ M).bind fun d M => match t d ρ with | some ρ' => .ok (.next ρ') M | none => .bad
theorem ss_asgD {g : TG} {t : RS.D → Sl → Option Sl} {is : List Nat} (h : SD K cx W te fd) (hg : STG K g t is) : SS K cx W (tAsg te g) (asgF t fd) := by
  intro E0 T S ρ σ D i hp
  refine h E0.H ρ σ S _ i.ok i.sl (PostS.bindE i.st hp fun d S1 o1 s1 p1 v r => ?_)
  split at p1
  · rename_i ρ' e
    exact hg E0.H S1 ρ σ v d _ o1 (i.sl.step s1) r ⟨ρ', e, fun σ' s' _ _ => p1 S1 σ' rfl ⟨o1, i.st.trans s1, s', i.gr.trans s1.grow⟩⟩
  · exact p1.elim
/-- x = e, as data -/
def setF (i : Nat) (f : FE) : FS := asgF (tgN i) (stE f)
theorem ss_set (i : Nat) (h : SE K cx W te f) : SS K cx W (tAsg te (gName i)) (setF i f) := ss_asgD h.sto (stg_name i)
/-- x = e, a list of its own -/
def ownF (i : Nat) (f : FE) : FS := fun ρ M => (f ρ M).bind fun x M => match x with | .own l => .ok (.next (ρ.set i (.own l))) M | _ => .bad
theorem ss_own (i : Nat) (h : SE K cx W te f) : SS K cx W (tAsg te (gName i)) (ownF i f) := by
  intro E0 T S ρ σ D iv hp
  refine h E0.H ρ σ S _ iv.ok iv.sl (PostS.bindE iv.st hp fun x S1 o1 s1 p1 v r => ?_)
  split at p1
  · rename_i l
    obtain ⟨a, rfl, pr⟩ := r.1
    have fr := r.2 l rfl a rfl
    refine p1 S1 _ rfl ⟨o1, iv.st.trans s1, (iv.sl.step s1).setOwn pr (iv.st.back fr) i fun j m _ hj hs => ?_, iv.gr.trans s1.grow⟩
    obtain ⟨b, q1, q2, _⟩ := iv.sl.own j m hj
    rw [q1] at hs
    cases hs
    obtain ⟨vs, q3, _⟩ := q2.is
    rw [fr] at q3
    cases q3
  · exact p1.elim
/-- x = e, a cell of its own -/
def cellF (i : Nat) (f : FE) : FS := fun ρ M => (f ρ M).bind fun x M => match x with | .own l => .ok (.next (ρ.set i (.val (.ref M.length)))) (M ++ [some l]) | _ => .bad
theorem ss_cell (i : Nat) (h : SE K cx W te f) : SS K cx W (tAsg te (gName i)) (cellF i f) := by
  intro E0 T S ρ σ D iv hp
  refine h E0.H ρ σ S _ iv.ok iv.sl (PostS.bindE iv.st hp fun x S1 o1 s1 p1 v r => ?_)
  split at p1
  · rename_i l
    obtain ⟨a, rfl, pr⟩ := r.1
    have fr := r.2 l rfl a rfl
    obtain ⟨o2, q1, q2⟩ := o1.toCell pr
    have s2 := q2 S s1 fr
    exact p1 { S1 with β := S1.β ++ [a], M := S1.M ++ [some l] } _ rfl ⟨o2, iv.st.trans s2, (iv.sl.step s2).setVal (.cell q1) i, iv.gr.trans s2.grow⟩
  · exact p1.elim

/-! ### return, raise -/
def retF (f : FE) : FS := fun ρ M => (f ρ M).bind fun x M => match x with | .bor _ => .bad | x => .ok (.ret x) M
theorem ss_ret (h : SE K cx W te f) : SS K cx W (tRet te) (retF f) := by
  intro E0 T S ρ σ D iv hp
  refine h E0.H ρ σ S _ iv.ok iv.sl (PostS.bindE iv.st hp fun x S1 o1 s1 p1 v r => ?_)
  cases x with
  | bor l => exact p1.elim
  | own l => exact p1 S1 v rfl o1 (iv.st.trans s1) (r.back iv.st)
  | val d => exact p1 S1 v rfl o1 (iv.st.trans s1) (r.back iv.st)
/-- return x, x a list of the frame's own: it goes out -/
def retV (i : Nat) : FS := fun ρ M => match ρ[i]? with | some (.own l) => .ok (.ret (.own l)) M | some (.val d) => .ok (.ret (.val d)) M | _ => .bad
theorem ss_retV (i : Nat) : SS K cx W (tRet (tVar i)) (retV i) := by
  intro E0 T S ρ σ D iv hp
  unfold retV at hp
  split at hp
  · rename_i l e
    obtain ⟨a, q, pr, h0⟩ := iv.sl.own i l e
    exact ⟨.ref a, q, hp S (.ref a) rfl iv.ok iv.st ⟨⟨a, rfl, pr⟩, fun _ _ b eb => by cases eb; exact h0⟩⟩
  · rename_i d e
    obtain ⟨v, q, r⟩ := iv.sl.val i d e
    exact ⟨v, q, hp S v rfl iv.ok iv.st (VR.data r)⟩
  · exact hp.elim
def retN : FS := fun ρ M => .ok (.ret (.val .non)) M
theorem ss_retN : SS K cx W tRetN retN := fun E0 T S ρ σ D iv hp => hp S .non rfl iv.ok iv.st (VR.data .non)
/-- raise C(e) -/
def rseF (c : Nat) (f : FE) : FS := fun ρ M => (stE f ρ M).bind fun d M => .exn c d M
def tRse (W : WX) (C : Addr) (fl : Str) (te : TE) : TS := fun D σ H => te σ H fun v H1 => ∀ d, H1 d = none → W (.ref C) (some d) σ (upd H1 d (.xd [(fl, v)]))
theorem ss_rse {c : Nat} {C : Addr} {fl : Str} (hc : cx c = some (C, fl)) (h : SE K cx W te f) : SS K cx W (tRse W C fl te) (rseF c f) := by
  intro E0 T S ρ σ D iv hp
  refine h.sto E0.H ρ σ S _ iv.ok iv.sl (PostS.bindE iv.st hp fun d S1 o1 s1 p1 v r dd hd => ?_)
  obtain ⟨o2, s2⟩ := o1.alloc (u := .xd [(fl, v)]) hd
  exact p1 C fl v dd { S1 with H := upd S1.H dd (.xd [(fl, v)]) } σ hc rfl o2 (iv.st.trans (s1.trans s2)) upd_same (s2.rep r) ((iv.st.trans s1).back hd)

/-! ### if -/
def ifF (b : Sl → Mem → R Bool) (p q : FS) : FS := fun ρ M => (b ρ M).bind fun c M => if c = true then p ρ M else q ρ M
theorem ss_if {b : Sl → Mem → R Bool} (hb : ST K cx W tt b) (h1 : SS K cx W ts p) (h2 : SS K cx W us q) : SS K cx W (tIfS tt ts us) (ifF b p q) := by
  intro E0 T S ρ σ D iv hp
  refine hb E0.H ρ σ S _ iv.ok iv.sl (PostS.bindE iv.st hp fun c S1 o1 s1 p1 => ?_)
  cases c with
  | true => exact iteT (h1 E0 T S1 ρ σ D (iv.step o1 s1) p1)
  | false => exact iteF (h2 E0 T S1 ρ σ D (iv.step o1 s1) p1)

/-! ### an expression alone -/
def expF (f : FE) : FS := fun ρ M => (f ρ M).bind fun _ M => .ok (.next ρ) M
theorem ss_exp (h : SE K cx W te f) : SS K cx W (tDrop te) (expF f) := by
  intro E0 T S ρ σ D iv hp
  exact h E0.H ρ σ S _ iv.ok iv.sl (PostS.bindE iv.st hp fun x S1 o1 s1 p1 v r => p1 S1 σ rfl (iv.step o1 s1))

/-! ### lists that grow -/
theorem SInv.growOwn {ρ : Sl} {σ : L2.St} {i : Nat} {l l' : List RS.D} {a : Addr} {vs : List V} (iv : SInv K E0 T S ρ σ) (hi : ρ[i]? = some (.own l)) (hs : σ[i]? = some (some (.ref a))) (r : Reps K S.F S.β vs l') (hl : l'.length ≤ LIM) :
    SInv K E0 T { S with H := upd S.H a (.lst vs) } (ρ.set i (.own l')) σ := by
  obtain ⟨b, q1, pr, h0⟩ := iv.sl.own i l hi
  rw [hs] at q1
  cases q1
  obtain ⟨us, q2, _, _⟩ := pr.is
  have o' := iv.ok.setPriv (vs := vs) pr.nF pr.nB ⟨_, q2⟩
  have s' := iv.st.setPriv (vs := vs) h0
  have hil : i < ρ.length := (List.getElem?_eq_some_iff.mp hi).1
  refine ⟨o', s', ⟨by rw [List.length_set]; exact iv.sl.len, fun j d e => ?_, fun j m e => ?_, fun j k m n c e1 e2 e3 e4 => ?_⟩, ⟨iv.gr.ex, iv.gr.pre⟩⟩
  · have hj : i ≠ j := fun z => by subst z; rw [List.getElem?_set_self hil] at e; cases e
    rw [List.getElem?_set_ne hj] at e
    exact iv.sl.val j d e
  · by_cases hj : i = j
    · subst hj
      rw [List.getElem?_set_self hil] at e
      cases e
      exact ⟨a, hs, ⟨⟨vs, upd_same, r, hl⟩, pr.nF, pr.nB⟩, h0⟩
    · rw [List.getElem?_set_ne hj] at e
      obtain ⟨c, c1, ⟨⟨ws, w1, w2, w3⟩, w4, w5⟩, c3⟩ := iv.sl.own j m e
      refine ⟨c, c1, ⟨⟨ws, ?_, w2, w3⟩, w4, w5⟩, c3⟩
      have hc : c ≠ a := fun z => hj (iv.sl.dis i j l m a hi e hs (z ▸ c1))
      show upd S.H a _ c = _
      rw [upd_ne hc]; exact w1
  · have back : ∀ (j : Nat) (m : List RS.D), (ρ.set i (.own l'))[j]? = some (.own m) → ∃ m', ρ[j]? = some (.own m') := fun j m e => by
      by_cases hj : i = j
      · subst hj; exact ⟨l, hi⟩
      · rw [List.getElem?_set_ne hj] at e; exact ⟨m, e⟩
    obtain ⟨m', f1⟩ := back j m e1
    obtain ⟨n', f2⟩ := back k n e2
    exact iv.sl.dis j k m' n' c f1 f2 e3 e4
/-- x.append(e), x a list of the frame's own -/
def appF (i : Nat) (f : FE) : FS := fun ρ M => match ρ[i]? with
  | some (.own l) => (stE f ρ M).bind fun d M => if l.length < LIM then .ok (.next (ρ.set i (.own (l ++ [d])))) M else .bad
  | _ => .bad
theorem ss_app (i : Nat) (h : SE K cx W te f) : SS K cx W (tDrop (tBM K "list" rAppend (tVar i) (tCons te tNil))) (appF i f) := by
  intro E0 T S ρ σ D iv hp
  unfold appF at hp
  split at hp
  · rename_i l e
    obtain ⟨a, q1, pr, h0⟩ := iv.sl.own i l e
    obtain ⟨vs, q2, q3, q4⟩ := pr.is
    refine ⟨.ref a, q1, .inl ⟨rfl, vs, .inl (.inl q2)⟩, h.sto E0.H ρ σ S _ iv.ok iv.sl (PostS.bindE iv.st hp fun d S1 o1 s1 p1 v r => ?_)⟩
    split at p1
    · rename_i hl
      have iv1 := iv.step o1 s1
      obtain ⟨ws, w1, w2, w3⟩ := (pr.step s1).is
      refine ⟨a, ws, v, rfl, rfl, w1, by rw [w2.len]; exact lim_lt hl, ?_⟩
      exact p1 { S1 with H := upd S1.H a (.lst (ws ++ [v])) } σ rfl (iv1.growOwn e q1 (w2.append (.one r)) (by rw [List.length_append, List.length_singleton]; omega))
    · exact p1.elim
  · exact hp.elim
/-- x.extend(e), x a list of the frame's own -/
def extF (i : Nat) (f : FE) : FS := fun ρ M => match ρ[i]? with
  | some (.own l) => (f ρ M).bind fun x M => (match view x M with
    | .lst m => if l.length + m.length ≤ LIM then .ok (.next (ρ.set i (.own (l ++ m)))) M else .bad
    | _ => .bad)
  | _ => .bad
theorem ss_ext (i : Nat) (h : SE K cx W te f) : SS K cx W (tDrop (tBM K "list" rExtend (tVar i) (tCons te tNil))) (extF i f) := by
  intro E0 T S ρ σ D iv hp
  unfold extF at hp
  split at hp
  · rename_i l e
    obtain ⟨a, q1, pr, h0⟩ := iv.sl.own i l e
    obtain ⟨vs, q2, q3, q4⟩ := pr.is
    refine ⟨.ref a, q1, .inl ⟨rfl, vs, .inl (.inl q2)⟩, h E0.H ρ σ S _ iv.ok iv.sl (PostS.bindE iv.st hp fun x S1 o1 s1 p1 v r => ?_)⟩
    split at p1
    · rename_i m em
      split at p1
      · rename_i hl
        have iv1 := iv.step o1 s1
        obtain ⟨ws, w1, w2, w3⟩ := (pr.step s1).is
        obtain ⟨b, us, rfl, b1, b2, b3⟩ := view_of_lst o1 r.1 em
        refine ⟨a, b, ws, us, rfl, rfl, w1, b1, by rw [w2.len, b2.len]; exact lim_line hl, ?_⟩
        exact p1 { S1 with H := upd S1.H a (.lst (ws ++ us)) } σ rfl (iv1.growOwn e q1 (w2.append b2) (by rw [List.length_append]; exact hl))
      · exact p1.elim
    · exact p1.elim
  · exact hp.elim
/-- o.append(e), o a cell -/
def appC (fo f : FE) : FS := fun ρ M => (fo ρ M).bind fun x M => match x with
  | .val (.ref k) => (match M[k]? with
    | some (some _) => (stE f ρ M).bind fun d M => (match M[k]? with
      | some (some l) => if l.length < LIM then .ok (.next ρ) (M.set k (some (l ++ [d]))) else .bad
      | _ => .bad)
    | _ => .bad)
  | _ => .bad
theorem ss_appC (ho : SE K cx W ta g) (h : SE K cx W te f) : SS K cx W (tDrop (tBM K "list" rAppend ta (tCons te tNil))) (appC g f) := by
  intro E0 T S ρ σ D iv hp
  refine ho E0.H ρ σ S _ iv.ok iv.sl (PostS.bindE iv.st hp fun x S1 o1 s1 p1 v r => ?_)
  split at p1
  · rename_i k
    split at p1
    · rename_i l0 ek
      have iv1 := iv.step o1 s1
      have r1 : Rep K S1.F S1.β v (.ref k) := r.1
      cases r1 with
      | cell hb =>
        rename_i a
        obtain ⟨a', vs, e1, e2, e3, e4⟩ := o1.cell k l0 ek
        rw [hb] at e1; cases e1
        refine ⟨.inl ⟨rfl, vs, .inl (.inl e2)⟩, h.sto E0.H ρ σ S1 _ o1 iv1.sl (PostS.bindE iv1.st p1 fun d S2 o2 s2 p2 w rw' => ?_)⟩
        split at p2
        · rename_i l ek2
          split at p2
          · rename_i hl
            have hb2 := pre_get s2.pre hb
            obtain ⟨a', ws, e1, e2, e3, e4⟩ := o2.cell k l ek2
            rw [hb2] at e1; cases e1
            refine ⟨a, ws, w, rfl, rfl, e2, by rw [e3.1.len]; exact lim_lt hl, ?_⟩
            obtain ⟨o3, s3⟩ := o2.setCell ek2 hb2 (e3.1.append (.one rw')) (by rw [List.length_append, List.length_singleton]; omega)
            exact p2 _ σ rfl ((iv1.step o2 s2).step o3 s3)
          · exact p2.elim
        · exact p2.elim
    · exact p1.elim
  · exact p1.elim
/-- x[k] = e, x a list of the frame's own -/
def putF (i : Nat) (fk f : FE) : FS := fun ρ M => (stE f ρ M).bind fun d M => match ρ[i]? with
  | some (.own l) => (fk ρ M).bind fun x M => (match view x M with
    | .int n => (match ixN l.length n with | some j => .ok (.next (ρ.set i (.own (l.set j d)))) M | none => .bad)
    | _ => .bad)
  | _ => .bad
theorem ss_put (i : Nat) (hk : SE K cx W ta g) (h : SE K cx W te f) : SS K cx W (tAsg te (gSub (tVar i) ta rSetL)) (putF i g f) := by
  intro E0 T S ρ σ D iv hp
  refine h.sto E0.H ρ σ S _ iv.ok iv.sl (PostS.bindE iv.st hp fun d S1 o1 s1 p1 v r => ?_)
  have iv1 := iv.step o1 s1
  split at p1
  · rename_i l e
    obtain ⟨a, q1, pr, h0⟩ := iv1.sl.own i l e
    refine ⟨.ref a, q1, hk E0.H ρ σ S1 _ o1 iv1.sl (PostS.bindE iv1.st p1 fun x S2 o2 s2 p2 w rx => ?_)⟩
    split at p2
    · rename_i n en
      split at p2
      · rename_i j ej
        have iv2 := iv1.step o2 s2
        obtain ⟨ws, w1, w2, w3⟩ := (pr.step s2).is
        refine ⟨a, ws, n, j, rfl, view_of_int o2 rx.1 en, w1, by rw [w2.len]; exact ej, ?_⟩
        exact p2 { S2 with H := upd S2.H a (.lst (ws.set j v)) } σ rfl (iv2.growOwn e q1 (w2.set (s2.rep r) j) (by rw [List.length_set]; exact w3))
      · exact p2.elim
    · exact p2.elim
  · exact p1.elim
/-- o[k] = e, o a cell -/
def putC (fo fk f : FE) : FS := fun ρ M => (stE f ρ M).bind fun d M => (fo ρ M).bind fun o M => (fk ρ M).bind fun x M => match o with
  | .val (.ref c) => (match M[c]?, view x M with
    | some (some l), .int n => (match ixN l.length n with | some j => .ok (.next ρ) (M.set c (some (l.set j d))) | none => .bad)
    | _, _ => .bad)
  | _ => .bad
theorem ss_putC (ho : SE K cx W tb h) (hk : SE K cx W ta g) (hf : SE K cx W te f) : SS K cx W (tAsg te (gSub tb ta rSetL)) (putC h g f) := by
  intro E0 T S ρ σ D iv hp
  refine hf.sto E0.H ρ σ S _ iv.ok iv.sl (PostS.bindE iv.st hp fun d S1 o1 s1 p1 v r => ?_)
  have iv1 := iv.step o1 s1
  refine ho E0.H ρ σ S1 _ o1 iv1.sl (PostS.bindE iv1.st p1 fun y S2 o2 s2 p2 u ru => ?_)
  have iv2 := iv1.step o2 s2
  refine hk E0.H ρ σ S2 _ o2 iv2.sl (PostS.bindE iv2.st p2 fun x S3 o3 s3 p3 w rx => ?_)
  have iv3 := iv2.step o3 s3
  split at p3
  · rename_i c
    split at p3
    · rename_i l n ec en
      split at p3
      · rename_i j ej
        have ru3 : Rep K S3.F S3.β u (.ref c) := (VB.step ru.1 s3)
        cases ru3 with
        | cell hb =>
          rename_i a
          obtain ⟨a', ws, e1, e2, e3, e4⟩ := o3.cell c l ec
          rw [hb] at e1; cases e1
          refine ⟨a, ws, n, j, rfl, view_of_int o3 rx.1 en, e2, by rw [e3.1.len]; exact ej, ?_⟩
          obtain ⟨o4, s4⟩ := o3.setCell ec hb (e3.1.set ((s2.trans s3).rep r) j) (by rw [List.length_set]; exact e3.2)
          exact p3 _ σ rfl (iv3.step o4 s4)
      · exact p3.elim
    · exact p3.elim
  · exact p3.elim

/-! ### for -/
def forGo (t : RS.D → Sl → Option Sl) (b : FS) : List RS.D → Sl → Mem → R Fl
  | [], ρ, M => .ok (.next ρ) M
  | d :: ds, ρ, M => match t d ρ with
    | none => .bad
    | some ρ1 => match b ρ1 M with
      | .ok (.next ρ2) M2 => forGo t b ds ρ2 M2
      | .ok (.cnt ρ2) M2 => forGo t b ds ρ2 M2
      | .ok (.brk ρ2) M2 => .ok (.next ρ2) M2
      | .ok (.ret x) M2 => .ok (.ret x) M2
      | .exn c d M2 => .exn c d M2
      | .bad => .bad
def forF (fi : Sl → Mem → R (List RS.D)) (t : RS.D → Sl → Option Sl) (b : FS) : FS := fun ρ M => (fi ρ M).bind fun ds M => forGo t b ds ρ M
theorem SInv.tag {T' : S4} {ρ : Sl} {σ : L2.St} (i : SInv K E0 T' S ρ σ) (g : Grow T T') : SInv K E0 T S ρ σ := ⟨i.ok, i.st, i.sl, g.trans i.gr⟩
theorem ss_for {wi : TI} {tg : TG} {fi : Sl → Mem → R (List RS.D)} {t : RS.D → Sl → Option Sl} {is : List Nat} (hi : SI K cx W wi fi) (hg : STG K tg t is) (hb : SS K cx W ts p) : SS K cx W (tFor wi tg ts) (forF fi t p) := by
  intro E0 T S ρ σ D iv hp
  refine hi E0.H ρ σ S _ iv.ok iv.sl (PostS.bindE iv.st hp fun ds S1 o1 s1 p1 J hJ => ?_)
  have iv1 := iv.step o1 s1
  refine ⟨fun i m σ H => ∃ (S : S4) (ρ : Sl), S.H = H ∧ SInv K E0 S1 S ρ σ ∧ m = ds.length - i ∧ i ≤ ds.length ∧ PostS K cx W E0 T D (forGo t p (ds.drop i) ρ S.M),
    ⟨ds.length, S1, ρ, rfl, ⟨iv1.ok, iv1.st, iv1.sl, Grow.refl _⟩, rfl, Nat.zero_le _, p1⟩, fun i m σ3 H hw => ?_⟩
  obtain ⟨S3, ρ3, rfl, iv3, rfl, hi', q3⟩ := hw
  obtain ⟨j1, j2⟩ := hJ S3 iv3.ok iv3.gr.ex iv3.gr.pre
  by_cases hlt : i < ds.length
  · have hd : ds[i]? = some ds[i] := List.getElem?_eq_getElem hlt
    obtain ⟨hgo, hy⟩ := j2 i _ hd
    refine .inr ⟨hgo, fun σ' H' => ∃ (S : S4) (ρ : Sl), S.H = H' ∧ SInv K E0 S1 S ρ σ' ∧ PostS K cx W E0 T D (forGo t p (ds.drop (i + 1)) ρ S.M),
      fun σ' H' ⟨S, ρ, h1, h2, h5⟩ => ⟨ds.length - (i + 1), by omega, S, ρ, h1, h2, rfl, hlt, h5⟩, fun x H' hx => ?_⟩
    obtain ⟨Sd, rfl, eM, o4, s4, r4⟩ := hy x H' hx
    rw [List.drop_eq_getElem_cons hlt] at q3
    unfold forGo at q3
    have iv4 := iv3.step o4 s4
    cases et : t ds[i] ρ3 with
    | none => rw [et] at q3; exact q3.elim
    | some ρ1 =>
      rw [et] at q3
      refine hg E0.H Sd ρ3 σ3 x _ _ o4 iv4.sl r4 ⟨ρ1, et, fun σ5 sl5 _ _ => ?_⟩
      refine hb E0 S1 Sd ρ1 σ5 _ ⟨o4, iv4.st, sl5, iv4.gr⟩ ?_
      rw [← eM] at q3
      cases eb : p ρ1 Sd.M with
      | bad => simp only [eb] at q3; exact q3
      | exn c d M => simp only [eb] at q3; exact q3
      | ok fl M2 =>
        cases fl with
        | next ρ2 => simp only [eb] at q3; exact fun S' σ' e i' => ⟨S', ρ2, rfl, i', by rw [e]; exact q3⟩
        | cnt ρ2 => simp only [eb] at q3; exact fun S' σ' e i' => ⟨S', ρ2, rfl, i', by rw [e]; exact q3⟩
        | brk ρ2 => simp only [eb] at q3; exact fun S' σ' e i' => q3 S' σ' e (i'.tag iv1.gr)
        | ret x => simp only [eb] at q3; exact q3
  · have ei : i = ds.length := by omega
    subst ei
    rw [List.drop_length] at q3
    exact .inl ⟨j1 _ rfl, q3 S3 σ3 rfl (iv3.tag iv1.gr)⟩

/-! ### a def -/
/-- what a body's outcome is worth to a caller -/
def fnD (n : Nat) (b : FS) (ds : List RS.D) (M : Mem) : R Val :=
  match b (ds.map Slot.val ++ List.replicate (n - ds.length) Slot.none) M with
  | .ok (.ret x) M' => .ok x M'
  | .ok (.next _) M' => .ok (.val .non) M'
  | .exn c d M' => .exn c d M'
  | _ => .bad
theorem start_ok {n : Nat} {vs : List V} {ds : List RS.D} {N : List Str} (hn : N.length = n) (r : Reps K S.F S.β vs ds) : SlOk K S.H S (ds.map Slot.val ++ List.replicate (n - ds.length) Slot.none) (L2.start N vs) := by
  have hl := r.len
  have no : ∀ (i : Nat) (u : Slot), u ≠ .none → (ds.map Slot.val ++ List.replicate (n - ds.length) Slot.none)[i]? = some u → ∃ d, ds[i]? = some d ∧ u = .val d := fun i u hu q => by
    by_cases hi : i < ds.length
    · rw [List.getElem?_append_left (by rw [List.length_map]; exact hi), List.getElem?_map] at q
      cases e : ds[i]? with
      | none => rw [e] at q; cases q
      | some d => rw [e] at q; cases q; exact ⟨d, rfl, rfl⟩
    · rw [List.getElem?_append_right (by rw [List.length_map]; omega), List.getElem?_replicate] at q
      split at q
      · cases q; exact absurd rfl hu
      · cases q
  refine ⟨?_, fun i d q => ?_, fun i l q => ?_, fun i j l m a q1 _ _ _ => ?_⟩
  · unfold L2.start
    rw [List.length_append, List.length_map, List.length_replicate, List.length_append, List.length_map, List.length_replicate, hl, hn]
  · obtain ⟨d', e1, e2⟩ := no i (.val d) (fun z => nomatch z) q
    cases e2
    obtain ⟨v, e3, e4⟩ := r.get e1
    refine ⟨v, ?_, e4⟩
    unfold L2.start
    have hi : i < vs.length := (List.getElem?_eq_some_iff.mp e3).1
    rw [List.getElem?_append_left (by rw [List.length_map]; exact hi), List.getElem?_map, e3]; rfl
  · obtain ⟨d', _, e2⟩ := no i (.own l) (fun z => nomatch z) q
    cases e2
  · obtain ⟨d', _, e2⟩ := no i (.own l) (fun z => nomatch z) q1
    cases e2
end
section
variable {P : Program} {w : World} {K : Frag} {mg : Str → Option Value} {base : Heap} {cx : Cls}
open PySem.Spec PyProof.Rows in
/-- THE RULE for a def: its body as a term, and the plain function of that term -/
theorem fn_rs0 {x qual : Str} {st : Stmt} {f : Addr} {fd : FuncData} {N ps : List Str} {k n : Nat} {b : FS} (F : Fun K x qual st f fd) (S : FnScope N ps (defScope st)) (hn : N.length = n)
    (hbody : ∀ (cdv : Value) (A : Around) (outer : List PySem.Env) (s : Shared) (H : Hp) (E : XK), Room k (A.deeper (envOfC qual (defScope st) s.heap.objs.size f cdv)) →
      ∃ t, PSs (cxOf (L2N.CX P w) P w K mg base N qual (defScope st) f cdv A outer s H E) (defBody st) t ∧ SS K cx (fun cls d _ H => E cls d H) t b) :
    FnOk P w K mg base (L2N.CX P w) (k + 1) f fd ps (spOf K cx ps.length (fnD n b)) := by
  obtain ⟨oc, od, kV, doc, pm, an, cdv, ct, osl, rfl, lk, hcd⟩ := F.ex
  refine fn_of lk hcd S (fun vs H Q E h => h.1) fun A outer s H vs Q E hr h => ?_
  obtain ⟨t, ht, hs⟩ := hbody cdv A outer s H E hr
  refine ⟨t, ht, ?_⟩
  obtain ⟨_, S0, ds, rfl, o, r, p⟩ := h
  refine hs S0 S0 S0 _ _ _ ⟨o, Step.refl _, start_ok hn r, Grow.refl _⟩ ?_
  unfold fnD at p
  split at p
  · rename_i x M' e
    rw [e]
    exact fun S' v e o s r => p S' e o s v r
  · rename_i ρ M' e
    rw [e]
    exact fun S' σ' e i => p S' e i.ok i.st .non (VR.data .non)
  · rename_i c d M' e
    rw [e]
    exact fun C f v dd S' σ' h1 h2 h3 h4 h5 h6 h7 => p C f v dd S' h1 h2 h3 h4 h5 h6 h7
  · exact p.elim
/-- a def of which nothing is promised -/
theorem fn_bad {f : Addr} {fd : FuncData} {ps : List Str} {k n : Nat} (hn : ps.length = n := by rfl) : FnOk P w K mg base (L2N.CX P w) k f fd ps (spOf K cx n fun _ _ => .bad) :=
  ⟨fun vs H Q E h => h.1.trans hn.symm, fun A outer s H args us vs Q E hr he hb hv hs => by
    obtain ⟨_, S, ds, _, _, _, p⟩ := hs
    exact p.elim⟩
end
end RS
set_option Elab.async false
set_option linter.all false
set_option maxRecDepth 100000
set_option maxHeartbeats 2000000
/-! # RS, part H: a construct's rule and its plain function, in one. -/
namespace RS
open PySem PySem.Spec PyProof.Rows L2

structure XE (X : Cx) (cx : Cls) (W : WX) (e : Expr) (t : TE) (f : FE) : Prop where
  p : PE X e t
  s : SE X.K cx W t f
structure XT (X : Cx) (cx : Cls) (W : WX) (e : Expr) (t : TT) (f : Sl → Mem → R Bool) : Prop where
  p : PT X e t
  s : ST X.K cx W t f
structure XW (X : Cx) (cx : Cls) (W : WX) (e : Expr) (t : TT) (f : Sl → Mem → R Bool) : Prop where
  p : L2.PW X e t
  s : ST X.K cx W t f
structure XA (X : Cx) (cx : Cls) (W : WX) (es : List Expr) (t : TA) (f : Sl → Mem → R (List D)) : Prop where
  p : PA X es t
  s : SA X.K cx W t f
structure XO (X : Cx) (cx : Cls) (W : WX) (e : Option Expr) (t : TO) (f : Sl → Mem → R (Option Int)) : Prop where
  p : PO X e t
  s : SO X.K cx W t f
structure XI (X : Cx) (cx : Cls) (W : WX) (tg e : Expr) (t : TI) (f : Sl → Mem → R (List D)) : Prop where
  p : PI X tg e t
  s : SI X.K cx W t f
structure XG (X : Cx) (e : Expr) (t : TG) (f : D → Sl → Option Sl) (is : List Nat) : Prop where
  p : PG X e t
  s : STG X.K t f is
structure XGs (X : Cx) (e : List Expr) (t : TGs) (f : List D → Sl → Option Sl) (is : List Nat) : Prop where
  p : PGs X e t
  s : STGs X.K t f is
structure XS (X : Cx) (cx : Cls) (W : WX) (st : Stmt) (t : TS) (b : FS) : Prop where
  p : PS X st t
  s : SS X.K cx W t b
structure XB (X : Cx) (cx : Cls) (W : WX) (sts : List Stmt) (t : TS) (b : FS) : Prop where
  p : PSs X sts t
  s : SS X.K cx W t b

section
variable {X : Cx} {cx : Cls} {W : WX} {a b c e : Expr} {es : List Expr} {ta tb tc te : TE} {f g h : FE} {pos : Pos} {tA : TA} {fs : Sl → Mem → R (List D)}

/-! ### names, constants -/
theorem e_var (i : Nat) {x : Str} (hN : X.N[i]? = some x := by rfl) (hv : Vis X.env.scope x := by first | exact Or.inl rfl | exact Or.inr (Or.inl rfl) | exact Or.inr (Or.inr rfl)) (hd : (x == ("__debug__" : Str)) = false := by decide)
    (hcd : (x == ("__classdict__" : Str)) = false := by decide) : XE X cx W (.Name x pos) (tVar i) (getVar i) := ⟨pe_var hN hv hd hcd, se_var i⟩
theorem e_int {i j} : XE X cx W (.Constant (.int i) j pos) (tC (.int i)) (con (.int i)) := ⟨pe_int, se_int i⟩
theorem e_bl {i j} : XE X cx W (.Constant (.bool i) j pos) (tC (.bl i)) (con (.bl i)) := ⟨pe_bl, se_bl i⟩
theorem e_non {j} : XE X cx W (.Constant .none j pos) (tC .non) (con .non) := ⟨pe_non, se_non⟩
theorem e_str {s : Str} {j} (h : strOkB s = true := by decide +kernel) : XE X cx W (.Constant (.str s) j pos) (tC (.str s)) (con (.str s)) := ⟨pe_str, se_str h⟩
theorem e_gint {x : Str} {i : Int} (hm : ∃ t, X.mg x = some (.int i t)) (hg : Gl X x := by rfl) (hd : (x == ("__debug__" : Str)) = false := by decide) : XE X cx W (.Name x pos) (tC (.int i)) (con (.int i)) :=
  let ⟨t, h⟩ := hm; ⟨pe_glob hg h ⟨t, rfl⟩ hd, se_int i⟩
theorem e_gstr {x : Str} {s : Str} (hm : ∃ t, X.mg x = some (.str s t)) (hs : strOkB s = true := by decide +kernel) (hg : Gl X x := by rfl) (hd : (x == ("__debug__" : Str)) = false := by decide) : XE X cx W (.Name x pos) (tC (.str s)) (con (.str s)) :=
  let ⟨t, h⟩ := hm; ⟨pe_glob hg h ⟨t, rfl⟩ hd, se_str hs⟩
def negP (x : Val) (M : Mem) : R Val := match view x M with | .int i => .ok (.val (.int (-i))) M | _ => .bad
theorem e_neg (h : XE X cx W a ta f) : XE X cx W (.UnaryOp .USub a pos) (tUn (rU fun i => .int (-i)) ta) (op1 f negP) := by
  refine ⟨pe_un un_neg h.p, fun H0 ρ σ S Q o so p => ?_⟩
  refine h.s H0 ρ σ S _ o so (Post.bind (k := fun x M => negP x M) p fun x S1 o1 s1 p1 v hv => ?_)
  unfold negP at p1
  split at p1
  · rename_i i e
    exact ⟨i, view_of_int o1 hv.1 e, p1 S1 rfl o1 (Step.refl S1) _ (VR.data (.int _))⟩
  · exact p1.elim

/-! ### operators -/
theorem opr_add : OpR X (binaryOp .Add) (rAddAny X.K) := op_add.or (op_add_str.or (op_cat.or op_catA))
theorem e_add {K : Frag} (ha : XE X cx W a ta f) (hb : XE X cx W b tb g) (hK : X.K = K := by rfl) : XE X cx W (.BinOp a .Add b pos) (tOp (rAddAny K) ta tb) (op2 f g addP) := by
  subst hK
  exact ⟨pe_op opr_add ha.p hb.p, se_op o2_add ha.s hb.s⟩
theorem e_sub (ha : XE X cx W a ta f) (hb : XE X cx W b tb g) : XE X cx W (.BinOp a .Sub b pos) (tOp (rI0 fun i j => .int (i - j)) ta tb) (op2 f g subP) := ⟨pe_op op_sub ha.p hb.p, se_op o2_sub ha.s hb.s⟩
theorem e_div (ha : XE X cx W a ta f) (hb : XE X cx W b tb g) : XE X cx W (.BinOp a .FloorDiv b pos) (tOp (rI CDivN fun i j => .int (i.fdiv j)) ta tb) (op2 f g divP) := ⟨pe_op op_fdivN ha.p hb.p, se_op o2_div ha.s hb.s⟩
theorem e_mod (ha : XE X cx W a ta f) (hb : XE X cx W b tb g) : XE X cx W (.BinOp a .Mod b pos) (tOp (rI (fun _ j => j ≠ 0) fun i j => .int (i.fmod j)) ta tb) (op2 f g modP) := ⟨pe_op op_modN ha.p hb.p, se_op o2_mod ha.s hb.s⟩
theorem e_pow (ha : XE X cx W a ta f) (hb : XE X cx W b tb g) : XE X cx W (.BinOp a .Pow b pos) (tOp (rI CPow fun i j => .int (i ^ j.toNat)) ta tb) (op2 f g powP) := ⟨pe_op op_pow ha.p hb.p, se_op o2_pow ha.s hb.s⟩

/-! ### comparisons, by a rule of two values -/
structure CR2 (X : Cx) (cx : Cls) (op : CmpOp) (r : R2) (k : Val → Val → Mem → R Val) : Prop where
  p : OpR X (compareOp op) r
  s : O2 X.K cx r k
theorem k_eq {K : Frag} (hu : X.A.units + 64 < cLine) (hK : X.K = K := by rfl) : CR2 X cx .Eq (rEqD K) (eqP false) := by
  subst hK
  exact ⟨op_eqD hu, o2_eq⟩
theorem k_ne {K : Frag} (hu : X.A.units + 64 < cLine) (hK : X.K = K := by rfl) : CR2 X cx .NotEq (rNeD K) (eqP true) := by
  subst hK
  exact ⟨op_neD hu, o2_ne⟩
theorem k_lt : CR2 X cx .Lt (rI0 fun i j => .bl (decide (i < j))) ltP := ⟨op_lt, o2_lt⟩
theorem k_le : CR2 X cx .LtE (rI0 fun i j => .bl (decide (i ≤ j))) leP := ⟨op_le, o2_le⟩
theorem k_gt : CR2 X cx .Gt (rI0 fun i j => .bl (decide (j < i))) gtP := ⟨op_gt, o2_gt⟩
theorem k_ge : CR2 X cx .GtE (rI0 fun i j => .bl (decide (j ≤ i))) geP := ⟨op_ge, o2_ge⟩
theorem k_isN : CR2 X cx .Is (rIsN false) (isNP false) := ⟨op_isN, o2_isN false⟩
theorem k_notN : CR2 X cx .IsNot (rIsN true) (isNP true) := ⟨op_notN, o2_isN true⟩
theorem k_in {K : Frag} (hK : X.K = K := by rfl) : CR2 X cx .In (rInAny K false) (inP false) := by
  subst hK
  exact ⟨op_in_sign.or op_in_seq, o2_in false⟩
theorem k_notIn {K : Frag} (hK : X.K = K := by rfl) : CR2 X cx .NotIn (rInAny K true) (inP true) := by
  subst hK
  exact ⟨op_notIn_sign.or op_notIn_seq, o2_in true⟩
variable {op op' : CmpOp} {r r' : R2} {k k' : Val → Val → Mem → R Val}
theorem e_cmp (hk : CR2 X cx op r k) (ha : XE X cx W a ta f) (hb : XE X cx W b tb g) (hm : behindInMarks op b = false := by first | exact nomark _ | rfl) : XE X cx W (.Compare a [op] [b] pos) (tOp r ta tb) (op2 f g k) := ⟨pe_cmpR hk.p ha.p hb.p hm, se_op hk.s ha.s hb.s⟩
theorem t_cmp (hk : CR2 X cx op r k) (ha : XE X cx W a ta f) (hb : XE X cx W b tb g) (hm : behindInMarks op b = false := by first | exact nomark _ | rfl) : XT X cx W (.Compare a [op] [b] pos) (tTest (tOp r ta tb)) (tst (op2 f g k)) := ⟨pt_cmpR hk.p ha.p hb.p hm, st_tst (se_op hk.s ha.s hb.s)⟩
theorem t_chain (hk : CR2 X cx op r k) (hk' : CR2 X cx op' r' k') (ha : XE X cx W a ta f) (hb : XE X cx W b tb g) (hc : XE X cx W c tc h) (hm : lastMarks [op, op'] [b, c] = false := by with_unfolding_all rfl) :
    XT X cx W (.Compare a [op, op'] [b, c] pos) (tTest (tChain r r' ta tb tc)) (chn f g h k k') := ⟨pt_chain hk.p hk'.p ha.p hb.p hc.p hm, st_chain hk.s hk'.s ha.s hb.s hc.s⟩

/-! ### tests -/
variable {tt tu : TT} {b1 b2 : Sl → Mem → R Bool} {rest : List Expr}
theorem t_val (h : XE X cx W e te f) (he : ∀ whole, isTrue e X.env whole = (do let v ← whole; standAt e.pos; holding [v] (truthy v)) := by intro _; rfl) : XT X cx W e (tB te) (tst f) := ⟨pt_val h.p he, st_tstB h.s⟩
def truT (f : FE) : Sl → Mem → R Bool := fun ρ M => (f ρ M).bind truB
theorem t_truth {K : Frag} (h : XE X cx W e te f) (he : ∀ whole, isTrue e X.env whole = (do let v ← whole; standAt e.pos; holding [v] (truthy v)) := by intro _; rfl) (hK : X.K = K := by rfl) : XT X cx W e (fun σ H Q => te σ H fun x H' => ∃ k, TruV K x H' k ∧ Q k H') (truT f) := by
  subst hK
  exact ⟨pt_truth h.p he, st_truth h.s⟩
theorem t_not (h : XT X cx W e tt b1) : XT X cx W (.UnaryOp .Not e pos) (tNot tt) (notT b1) := ⟨pt_not h.p, st_not h.s⟩
theorem w_and1 (h : XT X cx W e tt b1) : XW X cx W (.BoolOp .And [e] pos) tt b1 := ⟨pw_and1 h.p, h.s⟩
theorem w_or1 (h : XT X cx W e tt b1) : XW X cx W (.BoolOp .Or [e] pos) tt b1 := ⟨pw_or1 h.p, h.s⟩
theorem w_and (h : XT X cx W e tt b1) (h' : XW X cx W (.BoolOp .And (b :: rest) pos) tu b2) : XW X cx W (.BoolOp .And (e :: b :: rest) pos) (tAnd tt tu) (andT b1 b2) := ⟨pw_and h.p h'.p, st_and h.s h'.s⟩
theorem w_or (h : XT X cx W e tt b1) (h' : XW X cx W (.BoolOp .Or (b :: rest) pos) tu b2) : XW X cx W (.BoolOp .Or (e :: b :: rest) pos) (tOr tt tu) (orT b1 b2) := ⟨pw_or h.p h'.p, st_or h.s h'.s⟩
theorem t_w (h : XW X cx W e tt b1) : XT X cx W e tt b1 := ⟨h.p.pt, h.s⟩
/-- as values -/
theorem e_one {op} (h : XE X cx W e te f) : XE X cx W (.BoolOp op [e] pos) te f := ⟨pe_one h.p, h.s⟩
theorem e_and (h : XE X cx W a ta f) (h' : XE X cx W (.BoolOp .And (b :: rest) pos) tb g) : XE X cx W (.BoolOp .And (a :: b :: rest) pos) (tAndV ta tb) (andV f g) := ⟨pe_and h.p h'.p, se_andV h.s h'.s⟩
theorem e_or (h : XE X cx W a ta f) (h' : XE X cx W (.BoolOp .Or (b :: rest) pos) tb g) : XE X cx W (.BoolOp .Or (a :: b :: rest) pos) (tOrV ta tb) (orV f g) := ⟨pe_or h.p h'.p, se_orV h.s h'.s⟩
theorem e_not (h : XE X cx W a ta f) : XE X cx W (.UnaryOp .Not a pos) (tNotV ta) (notV f) := ⟨pe_not h.p, se_notV h.s⟩

/-! ### arguments, displays, subscripts -/
theorem a_nil : XA X cx W [] tNil aNil := ⟨pa_nil, sa_nil⟩
theorem a_cons (h : XE X cx W e te f) (hr : XA X cx W es tA fs) (hs : starEach (e :: es) X.env = (false, eval e X.env) :: starEach es X.env := by rfl) : XA X cx W (e :: es) (tCons te tA) (aCons (stE f) fs) := ⟨pa_cons h.p hr.p hs, sa_cons h.s hr.s⟩
theorem e_tup {x1} (h : XA X cx W es tA fs) : XE X cx W (.Tuple es x1 pos) (tTup tA) (tupE fs) := ⟨pe_tup h.p, se_tup h.s⟩
theorem e_lst (h : XA X cx W es tA fs) : XE X cx W (.List es pos) (tLst tA) (lstE fs) := ⟨pe_lst h.p, se_lst h.s⟩
theorem e_ix {K : Frag} (ha : XE X cx W a ta f) (hb : XE X cx W b tb g) (hs : PlainIx b := by exact fun _ _ => rfl) (hK : X.K = K := by rfl) : XE X cx W (.Subscript a b pos) (tOp (rIx K) ta tb) (op2 f g idxP) := by
  subst hK
  exact ⟨pe_ix ix_seq ha.p hb.p hs, se_op o2_idx ha.s hb.s⟩
theorem o_none : XO X cx W none tNoPart (fun _ M => .ok none M) := ⟨po_none, so_none⟩
def ixO (f : FE) : Sl → Mem → R (Option Int) := fun ρ M => (f ρ M).bind asInt
theorem o_some (h : XE X cx W e te f) : XO X cx W (some e) (tPart te) (ixO f) := ⟨po_some h.p, so_some h.s⟩
theorem e_slice {K : Frag} {lo hi : Option Expr} {tl th : TO} {fl fh : Sl → Mem → R (Option Int)} {p2 : Pos} (he : XE X cx W e te f) (hl : XO X cx W lo tl fl) (hh : XO X cx W hi th fh) (hK : X.K = K := by rfl) : XE X cx W (.Subscript e (.Slice lo hi none p2) pos) (tSl (rSlAny K) te tl th) (slE f fl fh) := by
  subst hK
  exact ⟨pe_slice (sl_list.or (sl_tupA.or sl_str)) he.p hl.p hh.p, se_slice he.s hl.s hh.s⟩
/-! ### calls -/
variable {x : Str} {p q : Pos}
theorem e_call {K : Frag} {k n : Nat} {fa : Addr} {fd : FuncData} {ps : List Str} {F : List D → Mem → R Val} (G : FnOk X.prog X.w K X.mg X.base (L2N.CX X.prog X.w) k fa fd ps (spOf K cx n F)) (hr : Room k X.A) (hm : X.mg x = some (.ref fa)) (hk : PySem.W.keepIn K (.ref fa) = true) (hb : Binds K fd ps [])
    (hx : ∀ σ, PassesAt (L2N.CX X.prog X.w) X σ (WE W σ)) (ha : XA X cx W (e :: es) tA fs) (hg : Gl X x := by rfl) (hdb : (x == ("__debug__" : Str)) = false := by decide) (he : starEach (e :: es) X.env = (false, eval e X.env) :: starEach es X.env := by rfl)
    (hpl : (backTo pos (starEach es X.env)).any (·.1) = false := by rfl) (hK : X.K = K := by rfl) : XE X cx W (.Call (.Name x q) (e :: es) [] pos) (tCallS (spOf K cx n F) (WE W) tA) (callE n F fs) := by
  subst hK
  exact ⟨pe_callS G hr hg hm hk hb hx ha.p hdb he hpl, se_call ha.s⟩
theorem pass_W0 : ∀ σ, PassesAt (L2N.CX X.prog X.w) X σ (WE W0 σ) := fun σ pins H s e s' I h => by
  obtain ⟨_, _, _, _, _, _, _, _, _, _, _, _, z⟩ := h
  exact z.elim
/-- a rule of a built-in with one argument -/
theorem e_len {K : Frag} (hm : X.mg "len" = none) (h : XE X cx W e te f) (hg : Gl X "len" := by rfl) (he : starEach [e] X.env = (false, eval e X.env) :: starEach [] X.env := by rfl) (hK : X.K = K := by rfl) : XE X cx W (.Call (.Name "len" q) [e] [] pos) (tCB (rLenAny K) (tCons te tNil)) (op1 f lenP) := by
  subst hK
  exact ⟨pe_callB (call_len_seq.or call_len_str) hg hm PySem.boot_len (pa_cons h.p pa_nil he) (he := he), se_call1 c1_len h.s⟩
theorem e_int1 (hm : X.mg "int" = none) (h : XE X cx W e te f) (hg : Gl X "int" := by rfl) (he : starEach [e] X.env = (false, eval e X.env) :: starEach [] X.env := by rfl) : XE X cx W (.Call (.Name "int" q) [e] [] pos) (tCB rIntAny (tCons te tNil)) (op1 f intOf) :=
  ⟨pe_callTy (call_int1.or call_int_str) hg hm (by decide +kernel) (pa_cons h.p pa_nil he) (he := he), se_call1 c1_int h.s⟩
theorem e_str1 (hm : X.mg "str" = none) (h : XE X cx W e te f) (hg : Gl X "str" := by rfl) (he : starEach [e] X.env = (false, eval e X.env) :: starEach [] X.env := by rfl) : XE X cx W (.Call (.Name "str" q) [e] [] pos) (tCB rStrAny (tCons te tNil)) (op1 f strP) :=
  ⟨pe_callTy (call_str_int.or SkE.call_str_str) hg hm (by decide +kernel) (pa_cons h.p pa_nil he) (he := he), se_call1 c1_str h.s⟩
def rTupOf (K : Frag) : List V → Hp → VK → Prop := fun xs H Q => ∃ p ys, xs = [.ref p] ∧ ((SqL K H p ys ∧ ∀ l, H l = none → Q (.ref l) (upd H l (.tup ys))) ∨ (SqT K H p ys ∧ Q (.ref p) H))
def rListOf (K : Frag) : List V → Hp → VK → Prop := fun xs H Q => ∃ p ys, xs = [.ref p] ∧ (SqL K H p ys ∨ SqT K H p ys) ∧ ∀ l, H l = none → Q (.ref l) (upd H l (.lst ys))
theorem e_tuple1 {K : Frag} (hm : X.mg "tuple" = none) (h : XE X cx W e te f) (hg : Gl X "tuple" := by rfl) (he : starEach [e] X.env = (false, eval e X.env) :: starEach [] X.env := by rfl) (hK : X.K = K := by rfl) : XE X cx W (.Call (.Name "tuple" q) [e] [] pos) (tCB (rTupOf K) (tCons te tNil)) (op1 f tupP) := by
  subst hK
  exact ⟨pe_callTy (r := rTupOf X.K) call_tuple_of hg hm (by decide +kernel) (pa_cons h.p pa_nil he) (he := he), se_call1 (r := rTupOf X.K) c1_tup h.s⟩
theorem e_list1 {K : Frag} (hm : X.mg "list" = none) (h : XE X cx W e te f) (hg : Gl X "list" := by rfl) (he : starEach [e] X.env = (false, eval e X.env) :: starEach [] X.env := by rfl) (hK : X.K = K := by rfl) : XE X cx W (.Call (.Name "list" q) [e] [] pos) (tCB (rListOf K) (tCons te tNil)) (op1 f lstP) := by
  subst hK
  exact ⟨pe_callTy (r := rListOf X.K) call_list_of hg hm (by decide +kernel) (pa_cons h.p pa_nil he) (he := he), se_call1 (r := rListOf X.K) c1_lst h.s⟩
theorem e_all {K : Frag} (hc : X.calm = true) (hm : X.mg "all" = none) (h : XE X cx W e te f) (hg : Gl X "all" := by rfl) (he : starEach [e] X.env = (false, eval e X.env) :: starEach [] X.env := by rfl) (hK : X.K = K := by rfl) : XE X cx W (.Call (.Name "all" q) [e] [] pos) (tCB (rAll K) (tCons te tNil)) (op1 f allP) := by
  subst hK
  exact ⟨pe_callB (cr_all hc) hg hm (by decide +kernel) (pa_cons h.p pa_nil he) (he := he), se_call1 c1_all h.s⟩
theorem e_isi {K : Frag} {T : String} {y : Str} {q2 : Pos} (hm : X.mg "isinstance" = none) (hm2 : X.mg y = none) (hv : bootBuiltins y = some (.type T)) (h : XE X cx W e te f) (hg : Gl X "isinstance" := by rfl) (hg2 : Gl X y := by rfl) (hn : y ≠ "__name__" := by decide) (hd : (y == ("__debug__" : Str)) = false := by decide)
    (he : starEach [e, .Name y q2] X.env = (false, eval e X.env) :: starEach [.Name y q2] X.env := by rfl) (hK : X.K = K := by rfl) : XE X cx W (.Call (.Name "isinstance" q) [e, .Name y q2] [] pos) (tCB (rIsi K) (tCons te (tCons (tC (.ty T)) tNil))) (op1 f (isiP T)) := by
  subst hK
  exact ⟨pe_callB call_isi hg hm (by decide +kernel) (pa_cons h.p (pa_cons (pe_bltn hg2 hm2 hv rfl hn hd) pa_nil) he) (he := he), se_isi h.s⟩
def rSplit : V → List V → Hp → VK → Prop := fun x xs H Q => ∃ a b, x = .str a ∧ xs = [.str b] ∧ (b.length == 0) = false ∧ a.length + 2 ≤ sizeLine ∧ rNewStrs (Txt.split a b) H Q
def rJoin (K : Frag) : V → List V → Hp → VK → Prop := fun x xs H Q => ∃ a p, ∃ ys : List Str, x = .str a ∧ xs = [.ref p] ∧ (SqL K H p (ys.map V.str) ∨ SqT K H p (ys.map V.str)) ∧
      (ys.map (·.length)).sum + ys.length * a.length ≤ 16777216 ∧ Q (.str (Txt.join a ys)) H
theorem e_split {ap : Pos} (h : XE X cx W a ta f) (h' : XE X cx W b tb g) (hs : starEach [b] X.env = [(false, eval b X.env)] := by rfl) (hbase : attributeBase a "split" X.env (eval a X.env) = eval a X.env := by rfl) (hline : (ap.endLine == pos.line) = true := by rfl) :
    XE X cx W (.Call (.Attribute a "split" ap) [b] [] pos) (tM1 rSplit ta tb) (splitE f g) := ⟨pe_split h.p h'.p hs hbase hline, se_split h.s h'.s⟩
theorem e_join {K : Frag} {ap : Pos} (h : XE X cx W a ta f) (h' : XE X cx W b tb g) (hs : starEach [b] X.env = [(false, eval b X.env)] := by rfl) (hbase : attributeBase a "join" X.env (eval a X.env) = eval a X.env := by rfl) (hline : (ap.endLine == pos.line) = true := by rfl) (hK : X.K = K := by rfl) :
    XE X cx W (.Call (.Attribute a "join" ap) [b] [] pos) (tM1 (rJoin K) ta tb) (joinE f g) := by
  subst hK
  exact ⟨pe_join h.p h'.p hs hbase hline, se_join h.s h'.s⟩
/-! ### what is walked, targets, comprehensions -/
variable {tg : Expr}
theorem i_any {K : Frag} (h : XE X cx W e te f) (hK : X.K = K := by rfl) : XI X cx W tg e (iAny K te) (seqE f) := by
  subst hK
  exact ⟨pi_any h.p, si_any h.s⟩
def rng1 (fs : Sl → Mem → R (List D)) : Sl → Mem → R (List D) := fun ρ M => (fs ρ M).bind fun ds M => match ds with
    | [.int n] => if -(2 ^ 40) ≤ n ∧ n ≤ 16000000 then .ok ((List.range n.toNat).map fun (k : Nat) => D.int ((0 : Int) + (k : Int))) M else .bad | _ => .bad
def rng2 (fs : Sl → Mem → R (List D)) : Sl → Mem → R (List D) := fun ρ M => (fs ρ M).bind fun ds M => match ds with
    | [.int a, .int b] => if -(2 ^ 40) ≤ a ∧ a ≤ 2 ^ 40 ∧ -(2 ^ 40) ≤ b ∧ b ≤ 2 ^ 40 ∧ b - a ≤ 16000000 then .ok ((List.range (b - a).toNat).map fun (k : Nat) => D.int (a + (k : Int))) M else .bad | _ => .bad
theorem i_rng1 (hm : X.mg "range" = none) (ha : XA X cx W [a] tA fs) (hg : Gl X "range" := by rfl) (hs : starEach [a] X.env = [(false, eval a X.env)] := by rfl) : XI X cx W tg (.Call (.Name "range" p) [a] [] pos) (iRng1 tA) (rng1 fs) := ⟨pi_range1 hg hm ha.p hs, si_rng1 ha.s⟩
theorem i_rng2 (hm : X.mg "range" = none) (ha : XA X cx W [a, b] tA fs) (hg : Gl X "range" := by rfl) (hs : starEach [a, b] X.env = [(false, eval a X.env), (false, eval b X.env)] := by rfl) (hs2 : starEach [b] X.env = [(false, eval b X.env)] := by rfl) :
    XI X cx W tg (.Call (.Name "range" p) [a, b] [] pos) (iRng2 tA) (rng2 fs) := ⟨pi_range2 hg hm ha.p hs hs2, si_rng2 ha.s⟩
theorem g_name (i : Nat) (hN : X.N.Nodup) (hi : X.N[i]? = some x := by rfl) (hx : Loc X.env.scope x := by first | exact .inl rfl | exact .inr rfl) (hf : X.fn x = true ∨ X.env.scope.names.lookup x = some .local := by first | exact .inl rfl | exact .inr rfl) : XG X (.Name x pos) (gName i) (tgN i) [i] := ⟨pg_name hN hi hx hf, stg_name i⟩
theorem gs_nil : XGs X [] gNil tgsNil [] := ⟨pgs_nil, stgs_nil⟩
theorem gs_cons {t : TG} {u : TGs} {ft : D → Sl → Option Sl} {fu : List D → Sl → Option Sl} {is js : List Nat} (h1 : XG X e t ft is) (h2 : XGs X es u fu js) (hs : (assignEach (e :: es) X.env).map (·.2) = assign e X.env :: (assignEach es X.env).map (·.2) := by rfl) :
    XGs X (e :: es) (gCons t u) (tgsCons ft fu) (is ++ js) := ⟨pgs_cons h1.p h2.p hs, stgs_cons h1.s h2.s⟩
theorem g_tup {K : Frag} {k n : Nat} {t : TGs} {ft : List D → Sl → Option Sl} {is : List Nat} (hc : X.calm = true) (h : XGs X es t ft is) (hn : (assignEach es X.env).length = n := by rfl) (hst : (assignEach es X.env).findIdx? (·.1) = none := by rfl) (hK : X.K = K := by rfl) : XG X (.Tuple es k pos) (gTup K n t) (tgT n ft) is := by
  subst hK
  exact ⟨pg_tup hc h.p hn hst, stg_tup h.s⟩
structure XTs (X : Cx) (cx : Cls) (W : WX) (ifs : List Expr) (t : TT) (f : Sl → Mem → R Bool) : Prop where
  p : PTs X ifs t
  s : ST X.K cx W t f
theorem ts_nil : XTs X cx W [] tYes yesT := ⟨pts_nil, st_yes⟩
theorem ts_one (h : XT X cx W e tt b1) : XTs X cx W [e] tt b1 := ⟨pts_one h.p, h.s⟩
/-- [elt for tg in iter if ..], as the layer's rules want it -/
structure XC (X : Cx) (cx : Cls) (W : WX) (scope : Scope) (own : List (Str × Nat)) (elt tg iter : Expr) (ifs : List Expr) (wi : TI) (g : TG) (tt : TT) (te : TE) (f : FE) : Prop where
  hi : PI X tg iter wi
  ok : BlkOk X.N X.env.scope scope own
  hg : ∀ (s : Shared) (H : Hp) (C : Addr) (cl : List (Str × Addr)) (fp : List Addr), PG (X.blk s H scope (compEnvC scope cl C X.env) fp) tg g
  ht : ∀ (s : Shared) (H : Hp) (C : Addr) (cl : List (Str × Addr)) (fp : List Addr), PTs (X.blk s H scope (compEnvC scope cl C X.env) fp) ifs tt
  he : ∀ (s : Shared) (H : Hp) (C : Addr) (cl : List (Str × Addr)) (fp : List Addr), PE (X.blk s H scope (compEnvC scope cl C X.env) fp) elt te
  s : SE X.K cx W (tLc wi g tt te (own.map (·.2))) f
theorem x_comp {scope : Scope} (own : List (Str × Nat)) {elt iter : Expr} {ifs : List Expr} {wi : TI} {g : TG} {tt : TT} {te : TE} {fi : Sl → Mem → R (List D)} {t : D → Sl → Option Sl} {is : List Nat} {fb : Sl → Mem → R Bool} {f : FE} (hi : XI X cx W tg iter wi fi)
    (hg : ∀ (s : Shared) (H : Hp) (C : Addr) (cl : List (Str × Addr)) (fp : List Addr), XG (X.blk s H scope (compEnvC scope cl C X.env) fp) tg g t is)
    (ht : ∀ (s : Shared) (H : Hp) (C : Addr) (cl : List (Str × Addr)) (fp : List Addr), XTs (X.blk s H scope (compEnvC scope cl C X.env) fp) cx W0 ifs tt fb)
    (he : ∀ (s : Shared) (H : Hp) (C : Addr) (cl : List (Str × Addr)) (fp : List Addr), XE (X.blk s H scope (compEnvC scope cl C X.env) fp) cx W0 elt te f)
    (ok : blkC X.N X.env.scope scope own = true := by kernel_rfl) (hs : is.all (fun i => (own.map (·.2)).contains i) = true := by rfl) :
    XC X cx W scope own elt tg iter ifs wi g tt te (cmpE fi t fb (stE f) (own.map (·.2))) where
  hi := hi.p
  ok := blkOk_by ok
  hg := fun s H C cl fp => (hg s H C cl fp).p
  ht := fun s H C cl fp => (ht s H C cl fp).p
  he := fun s H C cl fp => (he s H C cl fp).p
  s := se_comp hi.s (hg X.s_0 X.H_0 0 [] []).s (fun i hi => by
    have := List.all_eq_true.mp hs i hi
    simpa using this) (ht X.s_0 X.H_0 0 [] []).s (he X.s_0 X.H_0 0 [] []).s
variable {scope : Scope} {own : List (Str × Nat)} {elt iter : Expr} {ifs : List Expr} {wi : TI} {gt : TG}
theorem e_comp (hc : X.calm = true) (hN : X.N.Nodup) (h : XC X cx W scope own elt tg iter ifs wi gt tt te f) (hs : ∀ x, foldedSetIterable iter X.env x = pure x := by intro _; rfl) : XE X cx W (.ListComp elt [⟨tg, iter, ifs, 0⟩] scope pos) (tLc wi gt tt te (own.map (·.2))) f :=
  ⟨pe_lc hc hN h.hi h.ok h.hg h.ht h.he hs, h.s⟩
/-- a list of its own, made a cell -/
def mkCell (f : FE) : FE := fun ρ M => (f ρ M).bind fun x M => match x with | .own l => .ok (.val (.ref M.length)) (M ++ [some l]) | _ => .bad
theorem e_cell (h : XE X cx W e te f) : XE X cx W e te (mkCell f) := by
  refine ⟨h.p, fun H0 ρ σ S Q o so p => ?_⟩
  refine h.s H0 ρ σ S _ o so (Post.bind0 p fun x S1 o1 s1 p1 v hv => ?_)
  split at p1
  · rename_i l
    obtain ⟨a, rfl, pr⟩ := hv.1
    obtain ⟨o2, q1, q2⟩ := o1.toCell pr
    exact p1 { S1 with β := S1.β ++ [a], M := S1.M ++ [some l] } rfl o2 (q2 S s1 (hv.2 l rfl a rfl)) (.ref a) (VR.data (.cell q1))
  · exact p1.elim
end

/-! ### statements -/
section
variable {X : Cx} {cx : Cls} {W : WX} {a b c e : Expr} {es : List Expr} {ta tb tc te : TE} {f g h : FE} {pos : Pos} {tA : TA} {fs : Sl → Mem → R (List D)} {st : Stmt} {sts us : List Stmt} {ts tu : TS} {p q : FS} {tt : TT} {b1 : Sl → Mem → R Bool} {x : Str} {pp : Pos} {tg : Expr}
theorem b_nil : XB X cx W [] tNext nxt := ⟨pss_nil, ss_nil⟩
theorem b_cons (h1 : XS X cx W st ts p) (h2 : XB X cx W sts tu q) : XB X cx W (st :: sts) (tSeq ts tu) (seqF p q) := ⟨pss_cons h1.p h2.p, ss_seq h1.s h2.s⟩
theorem b_one (h1 : XS X cx W st ts p) : XB X cx W [st] ts p := ⟨pss_one h1.p, h1.s⟩
theorem s_set (i : Nat) (hN : X.N.Nodup) (he : XE X cx W e te f) (hi : X.N[i]? = some x := by rfl) (hx : Loc X.env.scope x := by first | exact .inl rfl | exact .inr rfl) (hs : swapsWith e (some (.Name x pp)) pos.line X.env = pure false := by rfl)
    (hf : X.fn x = true ∨ X.env.scope.names.lookup x = some .local := by first | exact .inl rfl | exact .inr rfl) : XS X cx W (.Assign [.Name x pp] e pos) (tAsg te (gName i)) (setF i f) := ⟨ps_set hN hi hx he.p hs hf, ss_set i he.s⟩
theorem s_own (i : Nat) (hN : X.N.Nodup) (he : XE X cx W e te f) (hi : X.N[i]? = some x := by rfl) (hx : Loc X.env.scope x := by first | exact .inl rfl | exact .inr rfl) (hs : swapsWith e (some (.Name x pp)) pos.line X.env = pure false := by rfl)
    (hf : X.fn x = true ∨ X.env.scope.names.lookup x = some .local := by first | exact .inl rfl | exact .inr rfl) : XS X cx W (.Assign [.Name x pp] e pos) (tAsg te (gName i)) (ownF i f) := ⟨ps_set hN hi hx he.p hs hf, ss_own i he.s⟩
theorem s_cell (i : Nat) (hN : X.N.Nodup) (he : XE X cx W e te f) (hi : X.N[i]? = some x := by rfl) (hx : Loc X.env.scope x := by first | exact .inl rfl | exact .inr rfl) (hs : swapsWith e (some (.Name x pp)) pos.line X.env = pure false := by rfl)
    (hf : X.fn x = true ∨ X.env.scope.names.lookup x = some .local := by first | exact .inl rfl | exact .inr rfl) : XS X cx W (.Assign [.Name x pp] e pos) (tAsg te (gName i)) (cellF i f) := ⟨ps_set hN hi hx he.p hs hf, ss_cell i he.s⟩
section
variable {scope : Scope} {own : List (Str × Nat)} {elt iter : Expr} {ifs : List Expr} {wi : TI} {gt : TG} {py cpos : Pos}
theorem s_setC (i : Nat) (hc : X.calm = true) (hN : X.N.Nodup) (h : XC X cx W scope own elt tg iter ifs wi gt tt te f) (hy : X.N[i]? = some x := by rfl) (hyl : X.env.scope.names.lookup x = some .local := by rfl)
    (hsw : swapsWith (.ListComp elt [⟨tg, iter, ifs, 0⟩] scope cpos) (some (.Name x py)) pos.line X.env = pure true := by exact sw_true rfl rfl rfl (by decide +kernel)) (hs : ∀ x, foldedSetIterable iter X.env x = pure x := by intro _; rfl) :
    XS X cx W (.Assign [.Name x py] (.ListComp elt [⟨tg, iter, ifs, 0⟩] scope cpos) pos) (tAsg (tLc wi gt tt te (own.map (·.2))) (gName i)) (setF i f) := ⟨ps_setLc hc hN hy hyl hsw h.hi h.ok h.hg h.ht h.he hs, ss_set i h.s⟩
theorem s_ownC (i : Nat) (hc : X.calm = true) (hN : X.N.Nodup) (h : XC X cx W scope own elt tg iter ifs wi gt tt te f) (hy : X.N[i]? = some x := by rfl) (hyl : X.env.scope.names.lookup x = some .local := by rfl)
    (hsw : swapsWith (.ListComp elt [⟨tg, iter, ifs, 0⟩] scope cpos) (some (.Name x py)) pos.line X.env = pure true := by exact sw_true rfl rfl rfl (by decide +kernel)) (hs : ∀ x, foldedSetIterable iter X.env x = pure x := by intro _; rfl) :
    XS X cx W (.Assign [.Name x py] (.ListComp elt [⟨tg, iter, ifs, 0⟩] scope cpos) pos) (tAsg (tLc wi gt tt te (own.map (·.2))) (gName i)) (ownF i f) := ⟨ps_setLc hc hN hy hyl hsw h.hi h.ok h.hg h.ht h.he hs, ss_own i h.s⟩
end
theorem s_asg {gt : TG} {ft : D → Sl → Option Sl} {is : List Nat} (he : XE X cx W e te f) (hg : XG X tg gt ft is) (hs : swapsWithSole [tg] e pos.line X.env = pure false := by rfl) (hw : swappedStores [tg] e X.env = pure none := by rfl) (h1 : (assignEach [tg] X.env).map (·.2) = [assign tg X.env] := by rfl) :
    XS X cx W (.Assign [tg] e pos) (tAsg te gt) (asgF ft (stE f)) := ⟨ps_asg he.p hg.p hs hw h1, ss_asgD he.s.sto hg.s⟩
theorem s_put (i : Nat) (ho : XE X cx W a (tVar i) (getVar i)) (hk : XE X cx W b tb g) (he : XE X cx W e te f) (ha : ∀ v, assign (.Subscript a b pp) X.env v = (do
      let ov ← holding [v] (eval a X.env)
      let iv ← holding [v, ov] (eval b X.env)
      standAt pp
      holding [v, ov, iv] (setItem ov iv v)
      release [v, ov, iv] []) := by intro _; rfl) (hs : swapsWithSole [.Subscript a b pp] e pos.line X.env = pure false := by rfl) (hw : swappedStores [.Subscript a b pp] e X.env = pure none := by rfl) (h1 : (assignEach [.Subscript a b pp] X.env).map (·.2) = [assign (.Subscript a b pp) X.env] := by rfl) :
    XS X cx W (.Assign [.Subscript a b pp] e pos) (tAsg te (gSub (tVar i) tb rSetL)) (putF i g f) := ⟨ps_asg he.p (pg_sub ho.p hk.p set_list ha) hs hw h1, ss_put i hk.s he.s⟩
theorem s_putC (ho : XE X cx W a ta h) (hk : XE X cx W b tb g) (he : XE X cx W e te f) (ha : ∀ v, assign (.Subscript a b pp) X.env v = (do
      let ov ← holding [v] (eval a X.env)
      let iv ← holding [v, ov] (eval b X.env)
      standAt pp
      holding [v, ov, iv] (setItem ov iv v)
      release [v, ov, iv] []) := by intro _; rfl) (hs : swapsWithSole [.Subscript a b pp] e pos.line X.env = pure false := by rfl) (hw : swappedStores [.Subscript a b pp] e X.env = pure none := by rfl) (h1 : (assignEach [.Subscript a b pp] X.env).map (·.2) = [assign (.Subscript a b pp) X.env] := by rfl) :
    XS X cx W (.Assign [.Subscript a b pp] e pos) (tAsg te (gSub ta tb rSetL)) (putC h g f) := ⟨ps_asg he.p (pg_sub ho.p hk.p set_list ha) hs hw h1, ss_putC ho.s hk.s he.s⟩
/-- the forms of a list's method's call -/
theorem p_app {ap cp : Pos} (ho : PE X a ta) (he : PE X e te) (hbase : attributeBase a "append" X.env (eval a X.env) = eval a X.env := by rfl) (hs : starEach [e] X.env = (false, eval e X.env) :: starEach [] X.env := by rfl)
    (hline : (ap.endLine == cp.line) = true := by rfl) : PE X (.Call (.Attribute a "append" ap) [e] [] cp) (tBM X.K "list" rAppend ta (tCons te tNil)) :=
  pe_bm PySem.F.plainAttrs_list PySem.F.slot_list_append PySem.F.type_list_append (fun pins s σ H x xs v us Q I r q => mt_append pins s σ H x xs v us Q I r q) ho (pa_cons he pa_nil hs) hbase (by rw [hs]; rfl) hline hs
theorem p_ext {ap cp : Pos} (ho : PE X a ta) (he : PE X e te) (hbase : attributeBase a "extend" X.env (eval a X.env) = eval a X.env := by rfl) (hs : starEach [e] X.env = (false, eval e X.env) :: starEach [] X.env := by rfl)
    (hline : (ap.endLine == cp.line) = true := by rfl) : PE X (.Call (.Attribute a "extend" ap) [e] [] cp) (tBM X.K "list" rExtend ta (tCons te tNil)) :=
  pe_bm PySem.F.plainAttrs_list PySem.F.slot_list_extend PySem.F.type_list_extend (fun pins s σ H x xs v us Q I r q => mt_extend pins s σ H x xs v us Q I r q) ho (pa_cons he pa_nil hs) hbase (by rw [hs]; rfl) hline hs
theorem s_app (i : Nat) {ap cp : Pos} (ho : XE X cx W a (tVar i) (getVar i)) (he : XE X cx W e te f) (hbase : attributeBase a "append" X.env (eval a X.env) = eval a X.env := by rfl) (hs : starEach [e] X.env = (false, eval e X.env) :: starEach [] X.env := by rfl)
    (hline : (ap.endLine == cp.line) = true := by rfl) (hsw : swapsWith (.Call (.Attribute a "append" ap) [e] [] cp) none pos.line X.env = pure false := by rfl) : XS X cx W (.Expr (.Call (.Attribute a "append" ap) [e] [] cp) pos) (tDrop (tBM X.K "list" rAppend (tVar i) (tCons te tNil))) (appF i f) :=
  ⟨ps_expr (p_app ho.p he.p hbase hs hline) hsw, ss_app i he.s⟩
theorem s_appC {ap cp : Pos} (ho : XE X cx W a ta g) (he : XE X cx W e te f) (hbase : attributeBase a "append" X.env (eval a X.env) = eval a X.env := by rfl) (hs : starEach [e] X.env = (false, eval e X.env) :: starEach [] X.env := by rfl)
    (hline : (ap.endLine == cp.line) = true := by rfl) (hsw : swapsWith (.Call (.Attribute a "append" ap) [e] [] cp) none pos.line X.env = pure false := by rfl) : XS X cx W (.Expr (.Call (.Attribute a "append" ap) [e] [] cp) pos) (tDrop (tBM X.K "list" rAppend ta (tCons te tNil))) (appC g f) :=
  ⟨ps_expr (p_app ho.p he.p hbase hs hline) hsw, ss_appC ho.s he.s⟩
theorem s_ext (i : Nat) {ap cp : Pos} (ho : XE X cx W a (tVar i) (getVar i)) (he : XE X cx W e te f) (hbase : attributeBase a "extend" X.env (eval a X.env) = eval a X.env := by rfl) (hs : starEach [e] X.env = (false, eval e X.env) :: starEach [] X.env := by rfl)
    (hline : (ap.endLine == cp.line) = true := by rfl) (hsw : swapsWith (.Call (.Attribute a "extend" ap) [e] [] cp) none pos.line X.env = pure false := by rfl) : XS X cx W (.Expr (.Call (.Attribute a "extend" ap) [e] [] cp) pos) (tDrop (tBM X.K "list" rExtend (tVar i) (tCons te tNil))) (extF i f) :=
  ⟨ps_expr (p_ext ho.p he.p hbase hs hline) hsw, ss_ext i he.s⟩
theorem s_exp (he : XE X cx W e te f) (hs : swapsWith e none pos.line X.env = pure false := by rfl) : XS X cx W (.Expr e pos) (tDrop te) (expF f) := ⟨ps_expr he.p hs, ss_exp he.s⟩
theorem s_ret (he : XE X cx W e te f) : XS X cx W (.Return (some e) pos) (tRet te) (retF f) := ⟨ps_ret he.p, ss_ret he.s⟩
theorem s_retV (i : Nat) (he : XE X cx W e (tVar i) (getVar i)) : XS X cx W (.Return (some e) pos) (tRet (tVar i)) (retV i) := ⟨ps_ret he.p, ss_retV i⟩
theorem s_retN : XS X cx W (.Return none pos) tRetN retN := ⟨ps_retN, ss_retN⟩
theorem s_cont : XS X cx W (.Continue pos) tCont cntF := ⟨ps_continue, ss_cont⟩
theorem s_brk : XS X cx W (.Break pos) tBreak brkF := ⟨ps_break, ss_brk⟩
theorem s_pass : XS X cx W (.Pass pos) tNext nxt := ⟨ps_pass, ss_nil⟩
theorem s_if (hc : XT X cx W c tt b1) (ha : XB X cx W sts ts p) (hb : XB X cx W us tu q) : XS X cx W (.If c sts us pos) (tIfS tt ts tu) (ifF b1 p q) := ⟨ps_if hc.p ha.p hb.p, ss_if hc.s ha.s hb.s⟩
theorem s_for {wi : TI} {gt : TG} {fi : Sl → Mem → R (List D)} {ft : D → Sl → Option Sl} {is : List Nat} {iter : Expr} (hp : PassesOwn (model X.prog X.w) X.A X.env X.xe) (hc : X.calm = true) (hi : XI X cx W tg iter wi fi) (hg : XG X tg gt ft is) (hb : XB X cx W sts ts p)
    (hs : ∀ x, foldedSetIterable iter X.env x = pure x := by intro _; rfl) : XS X cx W (.For tg iter sts [] pos) (tFor wi gt ts) (forF fi ft p) := ⟨ps_for hp hc hi.p hg.p hb.p hs, ss_for hi.s hg.s hb.s⟩
/-- a list of the frame's own stands still from here on -/
def frzF (i : Nat) (q : FS) : FS := fun ρ M => match ρ[i]? with | some (.own l) => q (ρ.set i (.val (.lst l))) M | _ => .bad
theorem ss_frz {K : Frag} (i : Nat) (h : SS K cx W ts q) : SS K cx W ts (frzF i q) := by
  intro E0 T S ρ σ D iv hp
  unfold frzF at hp
  split at hp
  · rename_i l e
    obtain ⟨a, q1, pr, h0⟩ := iv.sl.own i l e
    obtain ⟨F', o', r, st, ex, eq⟩ := iv.ok.freeze pr
    have s0 := st E0 iv.st h0
    have hil : i < ρ.length := (List.getElem?_eq_some_iff.mp e).1
    have back : ∀ (j : Nat) (m : List RS.D), (ρ.set i (.val (.lst l)))[j]? = some (.own m) → i ≠ j ∧ ρ[j]? = some (.own m) := fun j m e => by
      by_cases hj : i = j
      · subst hj; rw [List.getElem?_set_self hil] at e; cases e
      · rw [List.getElem?_set_ne hj] at e; exact ⟨hj, e⟩
    refine h E0 T { S with F := F' } _ σ D ⟨o', s0, ⟨by rw [List.length_set]; exact iv.sl.len, fun j d ej => ?_, fun j m ej => ?_, fun j k m n c e1 e2 e3 e4 => ?_⟩, ⟨iv.gr.ex.trans ex, iv.gr.pre⟩⟩ hp
    · by_cases hj : i = j
      · subst hj
        rw [List.getElem?_set_self hil] at ej
        cases ej
        exact ⟨.ref a, q1, r⟩
      · rw [List.getElem?_set_ne hj] at ej
        obtain ⟨v, e1, e2⟩ := iv.sl.val j d ej
        exact ⟨v, e1, e2.mono ex (List.prefix_refl _)⟩
    · obtain ⟨hj, ej⟩ := back j m ej
      obtain ⟨c, c1, ⟨⟨ws, w1, w2, w3⟩, w4, w5⟩, c3⟩ := iv.sl.own j m ej
      have hc : c ≠ a := fun z => hj (iv.sl.dis i j l m a e ej q1 (z ▸ c1))
      exact ⟨c, c1, ⟨⟨ws, w1, w2.mono ex (List.prefix_refl _), w3⟩, (eq c hc).trans w4, w5⟩, c3⟩
    · exact iv.sl.dis j k m n c (back j m e1).2 (back k n e2).2 e3 e4
  · exact hp.elim
theorem b_frz (i : Nat) (h : XB X cx W sts ts q) : XB X cx W sts ts (frzF i q) := ⟨h.p, ss_frz i h.s⟩
end

section
variable {P : Program} {w : World} {K : Frag} {mg : Str → Option Value} {base : Heap} {cx : Cls}
/-- .. with what its rules ask at hand -/
theorem fn_rs {x qual : Str} {st : Stmt} {f : Addr} {fd : FuncData} {N ps : List Str} {k n : Nat} {b : FS} (F : Fun K x qual st f fd) (S : FnScope N ps (defScope st)) (hn : N.length = n)
    (hbody : ∀ (cdv : Value) (A : Around) (outer : List PySem.Env) (s : Shared) (H : Hp) (E : XK), Room k (A.deeper (envOfC qual (defScope st) s.heap.objs.size f cdv)) →
      L2N.Takes (cxOf (L2N.CX P w) P w K mg base N qual (defScope st) f cdv A outer s H E) (fun cls d _ H => E cls d H) →
      PassesOwn (model P w) (A.deeper (envOfC qual (defScope st) s.heap.objs.size f cdv)) (envOfC qual (defScope st) s.heap.objs.size f cdv) (cxOf (L2N.CX P w) P w K mg base N qual (defScope st) f cdv A outer s H E).xe →
      (A.deeper (envOfC qual (defScope st) s.heap.objs.size f cdv)).units + 64 < cLine →
      ∃ t, XB (cxOf (L2N.CX P w) P w K mg base N qual (defScope st) f cdv A outer s H E) cx (fun cls d _ H => E cls d H) (defBody st) t b) :
    FnOk P w K mg base (L2N.CX P w) (k + 1) f fd ps (spOf K cx ps.length (fnD n b)) :=
  fn_rs0 F S hn fun cdv A outer s H E hr =>
    let ⟨t, h⟩ := hbody cdv A outer s H E hr (L2N.takes_of rfl rfl rfl rfl) (passes_of rfl) hr.units
    ⟨t, h.p, h.s⟩
end
/-- a def of the text: where it stands, what it is -/
structure FT (K : Frag) (mg : Str → Option Value) (x : Str) (st : Stmt) (ps : List Str) where
  a : Addr
  d : FuncData
  F : Fun K x x st a d
  B : Binds K d ps []
  g : mg x = some (.ref a)
end RS
set_option Elab.async false
set_option linter.all false
set_option maxRecDepth 100000
set_option maxHeartbeats 2000000
/-! # RS, part I: slices by two, zip. -/
namespace RS
open PySem PySem.Spec PyProof.Rows L2 RZ

/-! ### every second item -/
def alt {α : Type} : List α → List α
  | [] => []
  | [x] => [x]
  | x :: _ :: r => x :: alt r
theorem alt_len {α : Type} : ∀ l : List α, (alt l).length ≤ l.length
  | [] => Nat.le_refl _
  | [x] => Nat.le_refl _
  | x :: y :: r => by
    have := alt_len r
    simp only [alt, List.length_cons]
    omega
theorem alt_range {α : Type} : ∀ (l : List α), (List.range ((l.length + 1) / 2)).filterMap (fun k => l[2 * k]?) = alt l
  | [] => by simp [alt]
  | [x] => by simp [alt, List.range_succ]
  | x :: y :: r => by
    have ih := alt_range r
    have e : ((x :: y :: r).length + 1) / 2 = (r.length + 1) / 2 + 1 := by simp only [List.length_cons]; omega
    rw [e, List.range_succ_eq_map, List.filterMap_cons, List.filterMap_map]
    show x :: _ = x :: alt r
    rw [← ih]
    congr 1
theorem alt_map {α γ : Type} (g : α → γ) : ∀ l : List α, alt (l.map g) = (alt l).map g
  | [] => rfl
  | [x] => rfl
  | x :: y :: r => by
    show g x :: alt (r.map g) = g x :: (alt r).map g
    rw [alt_map g r]
theorem Vals.alt : ∀ {xs : List V} {us : List Value}, Vals xs us → Vals (RS.alt xs) (RS.alt us)
  | _, _, .nil => .nil
  | _, _, .cons r .nil => .cons r .nil
  | _, _, .cons r (.cons _ t) => .cons r (Vals.alt t)
theorem Reps.alt {K : Frag} {F : Hp} {β : List Addr} : ∀ {xs : List V} {us : List D}, Reps K F β xs us → Reps K F β (RS.alt xs) (RS.alt us)
  | _, _, .nil => .nil
  | _, _, .cons r .nil => .cons r .nil
  | _, _, .cons r (.cons _ t) => .cons r (Reps.alt t)
theorem fm_congr {α γ : Type} {f g : α → Option γ} : ∀ {l : List α}, (∀ x ∈ l, f x = g x) → l.filterMap f = l.filterMap g
  | [], _ => rfl
  | x :: l, h => by rw [List.filterMap_cons, List.filterMap_cons, h x List.mem_cons_self, fm_congr fun y hy => h y (List.mem_cons_of_mem _ hy)]
theorem pick2 (items : Array Value) (k : Nat) (hk : k ≤ 1) (lo : Option Int) (hlo : lo = if k = 0 then none else some 1) : slicePick items lo none (some 2) = (alt (items.toList.drop k)).toArray := by
  unfold slicePick
  obtain ⟨l⟩ := items
  have e1 : sliceBounds lo none (some 2) (Array.mk l).size = (((min k l.length : Nat) : Int), ((l.length : Nat) : Int), 2) := by
    subst hlo
    unfold sliceBounds
    have hs : (Array.mk l).size = l.length := rfl
    rcases Nat.le_one_iff_eq_zero_or_eq_one.mp hk with rfl | rfl
    · simp [hs]
    · simp [hs]
      omega
  rw [e1]
  show ((sliceRange ((min k l.length : Nat) : Int) ((l.length : Nat) : Int) 2).filterMap (fun i => (Array.mk l)[i]?)).toArray = _
  congr 1
  unfold sliceRange
  simp only [show (2 : Int) > 0 from by decide, if_true]
  show _ = alt (l.drop k)
  rw [← alt_range (l.drop k), List.length_drop]
  have e2 : (if ((min k l.length : Nat) : Int) < ((l.length : Nat) : Int) then (((l.length : Nat) : Int) - ((min k l.length : Nat) : Int) + 2 - 1) / 2 else 0).toNat = (l.length - k + 1) / 2 := by
    split <;> omega
  rw [e2, List.filterMap_map]
  refine fm_congr fun j hj => ?_
  have hj' := List.mem_range.mp hj
  show (Array.mk l)[(((min k l.length : Nat) : Int) + 2 * (j : Int)).toNat]? = (l.drop k)[2 * j]?
  rw [List.getElem?_drop]
  have e3 : (((min k l.length : Nat) : Int) + 2 * (j : Int)).toNat = k + 2 * j := by omega
  rw [e3]
  exact List.getElem?_toArray ..
def stepP (k : Nat) (x : Val) (M : Mem) : R Val := match view x M with | .lst l => .ok (.own (alt (l.drop k))) M | _ => .bad
def tStep (K : Frag) (k : Nat) (te : TE) : TE := fun σ H Q => te σ H fun x H1 => ∃ a xs, x = .ref a ∧ SqL K H1 a xs ∧ ∀ p, H1 p = none → Q (.ref p) (upd H1 p (.lst (alt (xs.drop k))))
section
variable {X : Cx} {cx : Cls} {W : WX} {e : Expr} {te : TE} {f : FE} {pos p1 p2 p3 : Pos} {j j2 : Nat}
theorem se_step {K : Frag} (k : Nat) (h : SE K cx W te f) : SE K cx W (tStep K k te) (op1 f (stepP k)) := by
  intro H0 ρ σ S Q o so p
  refine h H0 ρ σ S _ o so (Post.bind (k := fun x M => stepP k x M) p fun x S1 o1 s1 p1 v hv => ?_)
  unfold stepP at p1
  split at p1
  · rename_i l e
    obtain ⟨a, vs, rfl, a2, a3, a4⟩ := view_of_lst o1 hv.1 e
    have p1 := p1.imp (G' := fun z S' => ∀ u, VR K S1.H S' u z → Q u S'.H) fun z S4 o4 s4 h u hu => h u (hu.back s1)
    refine ⟨a, vs, rfl, .inl (.inl a2), fun c hc => post_own o1 p1 (a3.drop k).alt ?_ hc⟩
    have := alt_len (l.drop k)
    rw [List.length_drop] at this
    omega
  · exact p1.elim
theorem pe_step0 (he : PE X e te) : PE X (.Subscript e (.Slice none none (some (.Constant (.int 2) j p1)) p2) pos) (tStep X.K 0 te) := by
  refine ⟨fun pins s σ H Q I h => ?_⟩
  refine Subscript_ (thn (he.run pins s σ H _ I h) fun v sa ⟨x, Ha, Ia, ra, qa⟩ => ?_)
  obtain ⟨b, ys, ex, hys, fin⟩ := qa
  subst ex; cases ra
  have two : PO X (some (.Constant (.int 2) j p1)) (tPart (tC (.int 2))) := po_some pe_int
  refine wpAny_Slice (thn (po_none.run pins sa σ Ha (fun o G => o = none ∧ G = Ha) Ia ⟨rfl, rfl⟩) fun vl sb ⟨l, Hb, Ib, pl, el, eb⟩ => ?_)
  subst el eb
  refine thn (po_none.run pins sb σ Hb (fun o G => o = none ∧ G = Hb) Ib ⟨rfl, rfl⟩) fun vu sc ⟨u, Hc, Ic, pu, eu, ec⟩ => ?_
  subst eu ec
  refine thn (two.run pins sc σ Hc (fun o G => o = some 2 ∧ G = Hc) Ic ⟨2, rfl, rfl, rfl⟩) fun vs sd ⟨o, Hd, Id, ps, eo, ed⟩ => ?_
  subst eo ed
  have Ie : Inv X pins σ Hd { sd with heap := sd.heap.push { cls := .type "slice", data := .fields #[vl, vu, vs] } } := Id.kept (t' := sd.toks) fun c ob q => Heap.get?_push_of_some _ q
  obtain ⟨its, r, ht, hz⟩ := Ie.list hys
  have hlen := r.length
  show wpAny (model X.prog X.w) X.A (subscriptTail e (.Slice none none (some (.Constant (.int 2) j p1)) p2) (.ref b) (.ref sd.heap.objs.size)) (EP X pins σ Q) X.xe { sd with heap := sd.heap.push { cls := .type "slice", data := .fields #[vl, vu, vs] } }
  refine tail_any (ops := [.ref b, .ref sd.heap.objs.size]) ht.isList.typeIs (PySem.slot_list_getitem.lookup) ?_ (by with_unfolding_all rfl)
  refine wpAny_getItem_list_slice ht.isList (Heap.IsSliceOf.new _ vl vu vs) pl pu ps (by decide) ?_ (by rw [List.size_toArray]; omega)
  rw [pick2 its.toArray 0 (by decide) none rfl]
  refine ⟨.ref _, _, Ie.laid (t' := sd.toks) (o := .lst (alt (ys.drop 0))) (fun c ob q => Heap.get?_push_of_some _ q) (Nat.le_refl _) ?_, rfl, fin _ (Ie.hok.fresh (Nat.le_refl _))⟩
  refine ⟨Nat.le_trans (alt_len _) (by rw [List.drop_zero]; exact hz), _, 0, Vals.alt (L2.Vals.drop 0 r), ?_⟩
  rw [List.toList_toArray]
  exact Heap.get?_push_size _ rfl
theorem pe_step1 (he : PE X e te) : PE X (.Subscript e (.Slice (some (.Constant (.int 1) j2 p3)) none (some (.Constant (.int 2) j p1)) p2) pos) (tStep X.K 1 te) := by
  refine ⟨fun pins s σ H Q I h => ?_⟩
  refine Subscript_ (thn (he.run pins s σ H _ I h) fun v sa ⟨x, Ha, Ia, ra, qa⟩ => ?_)
  obtain ⟨b, ys, ex, hys, fin⟩ := qa
  subst ex; cases ra
  have two : PO X (some (.Constant (.int 2) j p1)) (tPart (tC (.int 2))) := po_some pe_int
  have one : PO X (some (.Constant (.int 1) j2 p3)) (tPart (tC (.int 1))) := po_some pe_int
  refine wpAny_Slice (thn (one.run pins sa σ Ha (fun o G => o = some 1 ∧ G = Ha) Ia ⟨1, rfl, rfl, rfl⟩) fun vl sb ⟨l, Hb, Ib, pl, el, eb⟩ => ?_)
  subst el eb
  refine thn (po_none.run pins sb σ Hb (fun o G => o = none ∧ G = Hb) Ib ⟨rfl, rfl⟩) fun vu sc ⟨u, Hc, Ic, pu, eu, ec⟩ => ?_
  subst eu ec
  refine thn (two.run pins sc σ Hc (fun o G => o = some 2 ∧ G = Hc) Ic ⟨2, rfl, rfl, rfl⟩) fun vs sd ⟨o, Hd, Id, ps, eo, ed⟩ => ?_
  subst eo ed
  have Ie : Inv X pins σ Hd { sd with heap := sd.heap.push { cls := .type "slice", data := .fields #[vl, vu, vs] } } := Id.kept (t' := sd.toks) fun c ob q => Heap.get?_push_of_some _ q
  obtain ⟨its, r, ht, hz⟩ := Ie.list hys
  have hlen := r.length
  show wpAny (model X.prog X.w) X.A (subscriptTail e (.Slice (some (.Constant (.int 1) j2 p3)) none (some (.Constant (.int 2) j p1)) p2) (.ref b) (.ref sd.heap.objs.size)) (EP X pins σ Q) X.xe { sd with heap := sd.heap.push { cls := .type "slice", data := .fields #[vl, vu, vs] } }
  refine tail_any (ops := [.ref b, .ref sd.heap.objs.size]) ht.isList.typeIs (PySem.slot_list_getitem.lookup) ?_ (by with_unfolding_all rfl)
  refine wpAny_getItem_list_slice ht.isList (Heap.IsSliceOf.new _ vl vu vs) pl pu ps (by decide) ?_ (by rw [List.size_toArray]; omega)
  rw [pick2 its.toArray 1 (by decide) (some 1) rfl]
  refine ⟨.ref _, _, Ie.laid (t' := sd.toks) (o := .lst (alt (ys.drop 1))) (fun c ob q => Heap.get?_push_of_some _ q) (Nat.le_refl _) ?_, rfl, fin _ (Ie.hok.fresh (Nat.le_refl _))⟩
  refine ⟨Nat.le_trans (alt_len _) (by rw [List.length_drop]; omega), _, 0, Vals.alt (L2.Vals.drop 1 r), ?_⟩
  rw [List.toList_toArray]
  exact Heap.get?_push_size _ rfl
theorem e_step0 {K : Frag} (h : XE X cx W e te f) (hK : X.K = K := by rfl) : XE X cx W (.Subscript e (.Slice none none (some (.Constant (.int 2) j p1)) p2) pos) (tStep K 0 te) (op1 f (stepP 0)) := by
  subst hK
  exact ⟨pe_step0 h.p, se_step 0 h.s⟩
theorem e_step1 {K : Frag} (h : XE X cx W e te f) (hK : X.K = K := by rfl) : XE X cx W (.Subscript e (.Slice (some (.Constant (.int 1) j2 p3)) none (some (.Constant (.int 2) j p1)) p2) pos) (tStep K 1 te) (op1 f (stepP 1)) := by
  subst hK
  exact ⟨pe_step1 h.p, se_step 1 h.s⟩
end

/-! ### zip -/
def zipT : List D → List D → List D
  | x :: xs, y :: ys => .tup [x, y] :: zipT xs ys
  | _, _ => []
theorem zipT_get : ∀ (xs ys : List D) (i : Nat) (d : D), (zipT xs ys)[i]? = some d → ∃ x y, xs[i]? = some x ∧ ys[i]? = some y ∧ d = .tup [x, y]
  | [], ys, i, d, h => by simp [zipT] at h
  | x :: xs, [], i, d, h => by simp [zipT] at h
  | x :: xs, y :: ys, 0, d, h => by simp [zipT] at h; exact ⟨x, y, rfl, rfl, h.symm⟩
  | x :: xs, y :: ys, i + 1, d, h => by
    obtain ⟨a, b, h1, h2, h3⟩ := zipT_get xs ys i d (by simpa [zipT] using h)
    exact ⟨a, b, by simpa using h1, by simpa using h2, h3⟩
theorem zipT_len : ∀ (xs ys : List D), (zipT xs ys).length = min xs.length ys.length
  | [], ys => by simp [zipT]
  | x :: xs, [] => by simp [zipT]
  | x :: xs, y :: ys => by
    have := zipT_len xs ys
    simp only [zipT, List.length_cons]
    omega
def zip2 (fs : Sl → Mem → R (List D)) : Sl → Mem → R (List D) := fun ρ M => (fs ρ M).bind fun ds M => match ds with
  | [.lst a, .lst b] => .ok (zipT a b) M
  | [.tup a, .tup b] => .ok (zipT a b) M
  | _ => .bad
def zipT3 : List D → List D → List D → List D
  | x :: xs, y :: ys, z :: zs => .tup [x, y, z] :: zipT3 xs ys zs
  | _, _, _ => []
def zip3 (fs : Sl → Mem → R (List D)) : Sl → Mem → R (List D) := fun ρ M => (fs ρ M).bind fun ds M => match ds with
  | [.tup a, .tup b, .tup c] => .ok (zipT3 a b c) M
  | _ => .bad
section
variable {X : Cx} {cx : Cls} {W : WX} {tA : TA} {fs : Sl → Mem → R (List D)} {e e2 : Expr} {p pos tpos : Pos} {elts : List Expr} {kk : Nat}
theorem yield_tup {K : Frag} {S : S4} {T : Addr} {vs : List V} {ds : List D} (o : Ok K S) (r : Reps K S.F S.β vs ds) (hl : ds.length ≤ LIM) (h : S.H T = none) : ∃ S', S'.H = upd S.H T (.tup vs) ∧ S'.M = S.M ∧ Ok K S' ∧ Step S S' ∧ Rep K S'.F S'.β (.ref T) (.tup ds) := by
  obtain ⟨S', e1, e2, _, o', s', q⟩ := o.newTup h r hl
  exact ⟨S', e1, e2, o', s', q⟩
theorem si_zip2 {K : Frag} (h : SA K cx W tA fs) : SI K cx W (iZipA K tA) (zip2 fs) := by
  intro H0 ρ σ S Q o so p
  refine h H0 ρ σ S _ o so (Post.bind p fun ds S1 o1 s1 p1 vs r => ?_)
  split at p1
  · rename_i l m
    cases r with
    | cons ra rr =>
      cases rr with
      | cons rb rr =>
        cases rr
        cases ra with
        | lst qa ha la =>
          cases rb with
          | lst qb hb lb =>
            rename_i a us b ws
            refine ⟨a, b, us, ws, rfl, .inl ⟨.inl (.inl (o1.ex _ _ qa)), .inl (.inl (o1.ex _ _ qb)), p1 S1 rfl o1 (Step.refl S1) _ fun S2 o2 e2 q2 => ⟨fun i hi => ?_, fun i d hd => ?_⟩⟩⟩
            · rw [zipT_len] at hi
              refine ⟨us, ws, .inl (.inl (o2.ex _ _ (e2 _ _ qa))), .inl (.inl (o2.ex _ _ (e2 _ _ qb))), ?_⟩
              have := ha.len; have := hb.len
              omega
            · obtain ⟨x, y, h1, h2, rfl⟩ := zipT_get l m i d hd
              obtain ⟨vx, g1, r1⟩ := ha.get h1
              obtain ⟨vy, g2, r2⟩ := hb.get h2
              have sa : SqL K S2.H a us := .inl (.inl (o2.ex _ _ (e2 _ _ qa)))
              have sb : SqL K S2.H b ws := .inl (.inl (o2.ex _ _ (e2 _ _ qb)))
              refine ⟨⟨us, ws, vx, vy, sa, sb, g1, g2⟩, fun v H' hy => ?_⟩
              obtain ⟨T, x', y', rfl, hT, rfl, hx, hy⟩ := hy
              have ex := hx us sa
              rw [g1] at ex; cases ex
              have ey := hy ws sb
              rw [g2] at ey; cases ey
              exact yield_tup o2 (.cons (r1.mono e2 q2) (.cons (r2.mono e2 q2) .nil)) (by show 2 ≤ LIM; decide) hT
  · rename_i l m
    cases r with
    | cons ra rr =>
      cases rr with
      | cons rb rr =>
        cases rr
        cases ra with
        | tup qa ha la =>
          cases rb with
          | tup qb hb lb =>
            rename_i a us b ws
            refine ⟨a, b, us, ws, rfl, .inr ⟨Evl.ex_t o1.ex qa, Evl.ex_t o1.ex qb, p1 S1 rfl o1 (Step.refl S1) _ fun S2 o2 e2 q2 => ⟨fun i hi => ?_, fun i d hd => ?_⟩⟩⟩
            · rw [zipT_len] at hi
              refine ⟨us, ws, Evl.ex_t (e2.trans o2.ex) qa, Evl.ex_t (e2.trans o2.ex) qb, ?_⟩
              have := ha.len; have := hb.len
              omega
            · obtain ⟨x, y, h1, h2, rfl⟩ := zipT_get l m i d hd
              obtain ⟨vx, g1, r1⟩ := ha.get h1
              obtain ⟨vy, g2, r2⟩ := hb.get h2
              have sa : SqT K S2.H a us := Evl.ex_t (e2.trans o2.ex) qa
              have sb : SqT K S2.H b ws := Evl.ex_t (e2.trans o2.ex) qb
              refine ⟨⟨us, ws, vx, vy, sa, sb, g1, g2⟩, fun v H' hy => ?_⟩
              obtain ⟨T, x', y', rfl, hT, rfl, hx, hy⟩ := hy
              have ex := hx us sa
              rw [g1] at ex; cases ex
              have ey := hy ws sb
              rw [g2] at ey; cases ey
              exact yield_tup o2 (.cons (r1.mono e2 q2) (.cons (r2.mono e2 q2) .nil)) (by show 2 ≤ LIM; decide) hT
  · exact p1.elim
theorem i_zip2 {K : Frag} (hm : X.mg "zip" = none) (ha : XA X cx W [e, e2] tA fs) (hg : Gl X "zip" := by rfl) (hs : starEach [e, e2] X.env = (false, eval e X.env) :: starEach [e2] X.env := by rfl) (hpl : (backTo pos (starEach [e2] X.env)).any (·.1) = false := by rfl) (hK : X.K = K := by rfl) :
    XI X cx W (.Tuple elts kk tpos) (.Call (.Name "zip" p) [e, e2] [] pos) (iZipA K tA) (zip2 fs) := by
  subst hK
  exact ⟨pi_zipA hg hm ha.p hs hpl, si_zip2 ha.s⟩
end
end RS
set_option Elab.async false
set_option linter.all false
set_option maxRecDepth 100000
set_option maxHeartbeats 2000000
/-! # RS, part J: tuple * int, zip of three tuples. -/
namespace RS
open PySem PySem.Spec PyProof.Rows L2 RZ

/-! ### t * k -/
theorem op_repT2 {X : Cx} : OpR X (binaryOp .Mult) (rRepT2 X.K) := by
  intro pins s σ H x y v u Q I rx ry h
  obtain ⟨l, k, xs, rfl, rfl, hT, hne, h1, h2, hz, q⟩ := h
  cases rx
  obtain ⟨t, rfl⟩ := ry
  obtain ⟨its, r, ⟨⟨cls, dd, data, sl⟩, ho, hc, n, hd⟩, hs⟩ := I.tuple hT
  simp only at hc hd
  subst hc hd
  have hle : its.length = xs.length := r.length.symm
  obtain ⟨u0, us0, rfl⟩ : ∃ u0 us0, its = u0 :: us0 := by
    cases its with
    | nil => exact absurd (List.eq_nil_of_length_eq_zero hle.symm) hne
    | cons a b => exact ⟨a, b, rfl⟩
  have tot : k.toNat * xs.length ≤ 100000 * 10 := Nat.mul_le_mul (by omega) hz
  have hm : (((u0 :: us0).toArray.size : Nat) : Int) * k ≤ 1000000 := by
    rw [List.size_toArray, hle]
    have e : (((k.toNat * xs.length : Nat) : Nat) : Int) = ((xs.length : Nat) : Int) * k := by
      rw [Int.natCast_mul, Int.toNat_of_nonneg (by omega), Int.mul_comm]
    omega
  have flen : (List.replicate k.toNat (u0 :: us0)).flatten.length ≤ sizeLine := by
    rw [PyProof.Rows.lm_len_rep_flat, hle, sizeLine_eq]; omega
  have c0 : (decide (k < -(2 ^ 63)) || decide (k ≥ 2 ^ 63)) = false := by
    simp only [Bool.or_eq_false_iff, decide_eq_false_iff_not]; omega
  have c1 : ((u0 :: us0).toArray.isEmpty || k == 1) = false := by
    simp only [Bool.or_eq_false_iff, beq_eq_false_iff_ne]; exact ⟨rfl, by omega⟩
  have c2 : (decide (k ≤ 0) || (u0 :: us0).toArray.isEmpty) = false := by
    simp only [Bool.or_eq_false_iff, decide_eq_false_iff_not]; exact ⟨by omega, rfl⟩
  have c4 : Builtin.Tuple.tupleTooMany ((((u0 :: us0).toArray.size : Nat) : Int) * k) = false := by
    unfold Builtin.Tuple.tupleTooMany
    rw [sizeLine_eq]
    exact decide_eq_false (by omega)
  refine wpAny_binaryOp_repeat_ref (T := "tuple") (U := "int") (by decide) ⟨_, ho, rfl⟩ (fun s' => typeIs_int s' k t) noFill_tuple_mul F.fills_int_mul F.slot_int_rmul repeat_tuple F.slot_int_index.lookup
    (call_meets F.slot_int_rmul (typeIs_int s k t) F.entry_int_rmul (F.args_int_rmul_2 _ _) (int_rmul_tuple k t l _ n dd sl)
      ⟨ho, rfl, ⟨_, ho, rfl⟩, call_meets F.slot_tuple_mul ⟨_, ho, rfl⟩ F.entry_tuple_mul (F.args_tuple_mul_2 _ _) (tuple_mulW l _ n dd sl k t c0 c1 c2 (by omega) c4 (by rw [size_rep, List.size_toArray]; exact flen)) ⟨ho, ?_⟩⟩)
  rw [size_rep]
  refine ⟨.ref s.heap.objs.size, _, I.laid (t' := s.toks) (o := .tup (List.replicate k.toNat xs).flatten) (fun b ob q => Heap.get?_push_of_some _ q) (Nat.le_refl _) ⟨?_, _, r.rep k.toNat, IsTup.new _ _⟩, rfl, q _ (I.hok.fresh (Nat.le_refl _))⟩
  rw [PyProof.Rows.lm_len_rep_flat, sizeLine_eq]; omega
theorem opr_mul {X : Cx} : OpR X (binaryOp .Mult) (rMulAny X.K) := op_mulW.or op_repT2
section
variable {X : Cx} {cx : Cls} {W : WX} {a b : Expr} {ta tb : TE} {f g : FE} {pos : Pos}
theorem e_mul {K : Frag} (ha : XE X cx W a ta f) (hb : XE X cx W b tb g) (hK : X.K = K := by rfl) : XE X cx W (.BinOp a .Mult b pos) (tOp (rMulAny K) ta tb) (op2 f g mulP) := by
  subst hK
  exact ⟨pe_op opr_mul ha.p hb.p, se_op o2_mul ha.s hb.s⟩
end

/-! ### zip of three tuples -/
def ItzT3 (K : PySem.W.Frag) (a b c : Addr) : It :=
  ⟨fun i H => ∃ (xs ys zs : List V) (x y z : V), (SqT K H a xs ∧ SqT K H b ys ∧ SqT K H c zs) ∧ xs[i]? = some x ∧ ys[i]? = some y ∧ zs[i]? = some z,
    fun i H v H' => ∃ T x y z, v = .ref T ∧ H T = none ∧ H' = upd H T (.tup [x, y, z]) ∧ (∀ xs, SqT K H a xs → xs[i]? = some x) ∧ (∀ ys, SqT K H b ys → ys[i]? = some y) ∧ ∀ zs, SqT K H c zs → zs[i]? = some z,
    fun i H => ∃ xs ys zs : List V, (SqT K H a xs ∧ SqT K H b ys ∧ SqT K H c zs) ∧ (xs.length = i ∨ ys.length = i ∨ zs.length = i) ∧ i ≤ xs.length ∧ i ≤ ys.length ∧ i ≤ zs.length⟩
def Tn3 (z TI TO i1 i2 i3 a b c : Addr) (i : Nat) (h : Heap) : Prop :=
  IsZip h z TI TO .none ∧ IsTupOf3 h TI (.ref i1) (.ref i2) (.ref i3) ∧ (∃ x y u, IsTupOf3 h TO x y u) ∧ h.IsTupleIter i1 a i ∧ h.IsTupleIter i2 b i ∧ h.IsTupleIter i3 c i
theorem turn_zip3 {P : Program} {w : World} {K : PySem.W.Frag} {elts : List Expr} {kk : Nat} {tpos : Pos} {a b c z TI TO i1 i2 i3 : Addr} (D : ZipSep3 z TI TO i1 i2 i3 [i1, a] [i2, b] [i3, c]) (n1 : a ≠ i1) (n2 : b ≠ i2) (n3 : c ≠ i3) :
    Turn P w K (.Tuple elts kk tpos) (ItzT3 K a b c) [z, TI, TO, i1, i2, i3] z (Tn3 z TI TO i1 i2 i3 a b c) where
  mem := by simp
  obj := fun i h st d hd => by
    obtain ⟨hz, hTI, ⟨x, y, u, hTO⟩, ⟨o1, e1, _, d1⟩, ⟨o2, e2, _, d2⟩, ⟨o3, e3, _, d3⟩⟩ := st
    have e' : d = z ∨ d = TI ∨ d = TO ∨ d = i1 ∨ d = i2 ∨ d = i3 := by simpa using hd
    rcases e' with rfl | rfl | rfl | rfl | rfl | rfl
    · exact ⟨_, hz, fun v q => nomatch q⟩
    · exact ⟨_, hTI, fun v q => nomatch q⟩
    · exact ⟨_, hTO, fun v q => nomatch q⟩
    · exact ⟨o1, e1, fun v q => by rw [d1] at q; cases q⟩
    · exact ⟨o2, e2, fun v q => by rw [d2] at q; cases q⟩
    · exact ⟨o3, e3, fun v q => by rw [d3] at q; cases q⟩
  keep := fun i h h' st k => by
    obtain ⟨hz, hTI, ⟨x, y, u, hTO⟩, h1, h2, h3⟩ := st
    exact ⟨k z (by simp) _ hz, k TI (by simp) _ hTI, ⟨x, y, u, k TO (by simp) _ hTO⟩, h1.at fun o q => k i1 (by simp) o q, h2.at fun o q => k i2 (by simp) o q, h3.at fun o q => k i3 (by simp) o q⟩
  item := by
    intro X hP hw hK hc i pins s σ H E I hf st hg
    subst hP hw hK
    obtain ⟨hz, hTI, hTO, h1, h2, h3⟩ := st
    obtain ⟨xs, ys, zs, x, y, u, ⟨qx, qy, qz⟩, hx, hy, hu⟩ := hg
    obtain ⟨us1, r1, p1, _⟩ := I.tuple qx
    obtain ⟨us2, r2, p2, _⟩ := I.tuple qy
    obtain ⟨us3, r3, p3, _⟩ := I.tuple qz
    obtain ⟨v1, g1, rv1⟩ := r1.get hx
    obtain ⟨v2, g2, rv2⟩ := r2.get hy
    obtain ⟨v3, g3, rv3⟩ := r3.get hu
    have hh : X.A.in1.handled = none := I.ok.hd hc
    have hi : i < min (min us1.toArray.size us2.toArray.size) us3.toArray.size := by
      have := (List.getElem?_eq_some_iff.mp g1).1
      have := (List.getElem?_eq_some_iff.mp g2).1
      have := (List.getElem?_eq_some_iff.mp g3).1
      simp only [List.size_toArray]; omega
    have G := GoesN.zip3 (prog := X.prog) (w := X.w) (A := X.A) (elts := elts) (x1 := kk) (pos := tpos) D (Draws.tuple hh i1 a n1 us1.toArray) (Draws.tuple hh i2 b n2 us2.toArray) (Draws.tuple hh i3 c n3 us3.toArray)
    have old : ∀ d ∈ [z, TI, TO, i1, i2, i3], d < s.heap.objs.size := fun d hd => by
      have e' : d = z ∨ d = TI ∨ d = TO ∨ d = i1 ∨ d = i2 ∨ d = i3 := by simpa using hd
      rcases e' with rfl | rfl | rfl | rfl | rfl | rfl
      · exact Heap.lt_size hz
      · exact Heap.lt_size hTI
      · obtain ⟨_, _, _, q⟩ := hTO; exact Heap.lt_size q
      · obtain ⟨_, q, _⟩ := h1; exact Heap.lt_size q
      · obtain ⟨_, q, _⟩ := h2; exact Heap.lt_size q
      · obtain ⟨_, q, _⟩ := h3; exact Heap.lt_size q
    refine G.goes i s _ E hi ⟨hz, hTI, hTO, ⟨h1, p1⟩, ⟨h2, p2⟩, ⟨h3, p3⟩⟩ fun v h' tk hY st' hk htk => ?_
    obtain ⟨T, w1, w2, w3, rfl, hT, k1, k2, k3, hTup⟩ := hY
    have e1 : w1 = v1 := by
      have k1' : us1.toArray[i]? = some w1 := k1
      rw [List.getElem?_toArray, g1] at k1'
      exact (Option.some.inj k1').symm
    have e2 : w2 = v2 := by
      have k2' : us2.toArray[i]? = some w2 := k2
      rw [List.getElem?_toArray, g2] at k2'
      exact (Option.some.inj k2').symm
    have e3 : w3 = v3 := by
      have k3' : us3.toArray[i]? = some w3 := k3
      rw [List.getElem?_toArray, g3] at k3'
      exact (Option.some.inj k3').symm
    subst e1 e2 e3
    have new : ObjOk X.prog X.w (upd H T (.tup [x, y, u])) h' T (.tup [x, y, u]) :=
      ⟨by show 3 ≤ sizeLine; decide, [w1, w2, w3], .cons rv1 (.cons rv2 (.cons rv3 .nil)), hTup⟩
    have I1 := I.turnedNew (t' := tk) (ch := [z, TO, i1, i2, i3]) hk (fun d hd => hf d (by simp at hd ⊢; rcases hd with e | e | e | e | e <;> simp [e])) hT new
    refine ⟨.ref T, _, I1, rfl, ⟨T, x, y, u, rfl, I.hok.fresh hT, rfl, fun l hl => by rw [I.tuple_inj hl qx]; exact hx, fun l hl => by rw [I.tuple_inj hl qy]; exact hy, fun l hl => by rw [I.tuple_inj hl qz]; exact hu⟩,
      ⟨st'.1, st'.2.1, st'.2.2.1, st'.2.2.2.1.1, st'.2.2.2.2.1.1, st'.2.2.2.2.2.1⟩, fun d hd => ?_⟩
    rw [upd_ne (Nat.ne_of_lt (Nat.lt_of_lt_of_le (old d hd) hT))]
    exact (hf d hd).1
  done := by
    intro X hP hw hK hc i pins s σ H E I hf st hg
    subst hP hw hK
    obtain ⟨hz, hTI, hTO, h1, h2, h3⟩ := st
    obtain ⟨xs, ys, zs, ⟨qx, qy, qz⟩, he, l1, l2, l3⟩ := hg
    obtain ⟨us1, r1, p1, _⟩ := I.tuple qx
    obtain ⟨us2, r2, p2, _⟩ := I.tuple qy
    obtain ⟨us3, r3, p3, _⟩ := I.tuple qz
    have hh : X.A.in1.handled = none := I.ok.hd hc
    have hi : i = min (min us1.toArray.size us2.toArray.size) us3.toArray.size := by
      have := r1.length; have := r2.length; have := r3.length
      simp only [List.size_toArray]; omega
    have G := GoesN.zip3 (prog := X.prog) (w := X.w) (A := X.A) (elts := elts) (x1 := kk) (pos := tpos) D (Draws.tuple hh i1 a n1 us1.toArray) (Draws.tuple hh i2 b n2 us2.toArray) (Draws.tuple hh i3 c n3 us3.toArray)
    refine G.stops s _ E ?_ fun h' tk hk _ => I.turnedL (t' := tk) (ch := [z, TO, i1, i2, i3]) hk (fun d hd => hf d (by simp at hd ⊢; rcases hd with e | e | e | e | e <;> simp [e]))
    rw [← hi]
    exact ⟨hz, hTI, hTO, ⟨h1, p1⟩, ⟨h2, p2⟩, ⟨h3, p3⟩⟩
  self := fun A i s Q E st h => wpAny_pyIter_zip st.1 h
def iZip3 (K : PySem.W.Frag) (ta : TA) : TI := fun σ H R => ta σ H fun vs H1 => ∃ a b c xs ys zs, vs = [.ref a, .ref b, .ref c] ∧ (SqT K H1 a xs ∧ SqT K H1 b ys ∧ SqT K H1 c zs) ∧ R (ItzT3 K a b c) H1
theorem pi_zip3 {X : Cx} {e e2 e3 : Expr} {ta : TA} {p pos tpos : Pos} {elts : List Expr} {kk : Nat} (hg : Gl X "zip") (hm : X.mg "zip" = none) (ha : PA X [e, e2, e3] ta)
    (hs : starEach [e, e2, e3] X.env = (false, eval e X.env) :: starEach [e2, e3] X.env := by rfl) (hpl : (backTo pos (starEach [e2, e3] X.env)).any (·.1) = false := by rfl) :
    PI X (.Tuple elts kk tpos) (.Call (.Name "zip" p) [e, e2, e3] [] pos) (iZip3 X.K ta) := by
  refine ⟨fun pins s σ H R I h => ?_⟩
  refine Call_ (ld_blt I hg hm PyProof.Rows.boot_zip (PyProof.Rows.callWith_type1 (thn (ha.run pos pins s σ H _ I h) fun us s1 ⟨vs, H1, I1, r1, q1⟩ => ?_) hs hpl))
  obtain ⟨a, b, c, xs, ys, zs, rfl, ⟨qx, qy, qz⟩, q⟩ := q1
  cases r1 with
  | cons r rr =>
    cases rr with
    | cons r' rr =>
      cases rr with
      | cons r'' rr =>
        cases rr
        cases r
        cases r'
        cases r''
        obtain ⟨us1, w1, p1, _⟩ := I1.tuple qx
        obtain ⟨us2, w2, p2, _⟩ := I1.tuple qy
        obtain ⟨us3, w3, p3, _⟩ := I1.tuple qz
        have la : a < s1.heap.objs.size := by obtain ⟨_, q, _⟩ := id p1; exact Heap.lt_size q
        have lb : b < s1.heap.objs.size := by obtain ⟨_, q, _⟩ := id p2; exact Heap.lt_size q
        have lc : c < s1.heap.objs.size := by obtain ⟨_, q, _⟩ := id p3; exact Heap.lt_size q
        refine zip_begins3 (begins_tuple a us1.toArray) (begins_tuple b us2.toArray) (begins_tuple c us3.toArray) p1 p2 p3 fun h' hz hTI hTO g1 g2 g3 hsz hk => wpAny_pyIter_zip hz ?_
        have D := zip_sep3 (N := s1.heap.objs.size) (fp1 := [a]) (fp2 := [b]) (fp3 := [c]) (by simpa using la) (by simpa using lb) (by simpa using lc)
        refine ⟨s1.heap.objs.size + 5, _, _, _, H1, rfl, I1.kept (t' := s1.toks) hk, turn_zip3 D (Nat.ne_of_lt la) (Nat.ne_of_lt (Nat.lt_succ_of_lt lb)) (Nat.ne_of_lt (Nat.lt_succ_of_lt (Nat.lt_succ_of_lt lc))),
          ⟨hz, hTI, ⟨_, _, _, hTO⟩, ⟨_, g1, rfl, rfl⟩, ⟨_, g2, rfl, rfl⟩, ⟨_, g3, rfl, rfl⟩⟩, fun d hd => ?_, q⟩
        have hle : s1.heap.objs.size ≤ d := by
          have le : ∀ k : Nat, s1.heap.objs.size ≤ s1.heap.objs.size + k := fun k => Nat.le_add_right _ k
          simp at hd
          rcases hd with e | e | e | e | e | e <;> rw [e]
          · exact le 5
          · exact le 3
          · exact le 4
          · exact Nat.le_refl _
          · exact le 1
          · exact le 2
        exact I1.fpOk hle (I1.hok.fresh hle)
theorem zipT3_get : ∀ (xs ys zs : List D) (i : Nat) (d : D), (zipT3 xs ys zs)[i]? = some d → ∃ x y z, xs[i]? = some x ∧ ys[i]? = some y ∧ zs[i]? = some z ∧ d = .tup [x, y, z]
  | [], ys, zs, i, d, h => by simp [zipT3] at h
  | x :: xs, [], zs, i, d, h => by simp [zipT3] at h
  | x :: xs, y :: ys, [], i, d, h => by simp [zipT3] at h
  | x :: xs, y :: ys, z :: zs, 0, d, h => by simp [zipT3] at h; exact ⟨x, y, z, rfl, rfl, rfl, h.symm⟩
  | x :: xs, y :: ys, z :: zs, i + 1, d, h => by
    obtain ⟨a, b, c, h1, h2, h3, h4⟩ := zipT3_get xs ys zs i d (by simpa [zipT3] using h)
    exact ⟨a, b, c, by simpa using h1, by simpa using h2, by simpa using h3, h4⟩
theorem zipT3_len : ∀ (xs ys zs : List D), (zipT3 xs ys zs).length = min (min xs.length ys.length) zs.length
  | [], ys, zs => by simp [zipT3]
  | x :: xs, [], zs => by simp [zipT3]
  | x :: xs, y :: ys, [] => by simp [zipT3]
  | x :: xs, y :: ys, z :: zs => by
    have := zipT3_len xs ys zs
    simp only [zipT3, List.length_cons]
    omega
section
variable {X : Cx} {cx : Cls} {W : WX} {tA : TA} {fs : Sl → Mem → R (List D)} {e e2 e3 : Expr} {p pos tpos : Pos} {elts : List Expr} {kk : Nat}
theorem si_zip3 {K : Frag} (h : SA K cx W tA fs) : SI K cx W (iZip3 K tA) (zip3 fs) := by
  intro H0 ρ σ S Q o so p
  refine h H0 ρ σ S _ o so (Post.bind p fun ds S1 o1 s1 p1 vs r => ?_)
  split at p1
  · rename_i l m n
    cases r with
    | cons ra rr =>
      cases rr with
      | cons rb rr =>
        cases rr with
        | cons rc rr =>
          cases rr
          cases ra with
          | tup qa ha la =>
            cases rb with
            | tup qb hb lb =>
              cases rc with
              | tup qc hc lc =>
                rename_i a us b ws c ts
                refine ⟨a, b, c, us, ws, ts, rfl, ⟨Evl.ex_t o1.ex qa, Evl.ex_t o1.ex qb, Evl.ex_t o1.ex qc⟩, p1 S1 rfl o1 (Step.refl S1) _ fun S2 o2 e2 q2 => ⟨fun i hi => ?_, fun i d hd => ?_⟩⟩
                · rw [zipT3_len] at hi
                  have := ha.len; have := hb.len; have := hc.len
                  refine ⟨us, ws, ts, ⟨Evl.ex_t (e2.trans o2.ex) qa, Evl.ex_t (e2.trans o2.ex) qb, Evl.ex_t (e2.trans o2.ex) qc⟩, ?_, ?_, ?_, ?_⟩ <;> omega
                · obtain ⟨x, y, z, h1, h2, h3, rfl⟩ := zipT3_get l m n i d hd
                  obtain ⟨vx, g1, r1⟩ := ha.get h1
                  obtain ⟨vy, g2, r2⟩ := hb.get h2
                  obtain ⟨vz, g3, r3⟩ := hc.get h3
                  have sa : SqT K S2.H a us := Evl.ex_t (e2.trans o2.ex) qa
                  have sb : SqT K S2.H b ws := Evl.ex_t (e2.trans o2.ex) qb
                  have sc : SqT K S2.H c ts := Evl.ex_t (e2.trans o2.ex) qc
                  refine ⟨⟨us, ws, ts, vx, vy, vz, ⟨sa, sb, sc⟩, g1, g2, g3⟩, fun v H' hy => ?_⟩
                  obtain ⟨T, x', y', z', rfl, hT, rfl, hx, hy, hz⟩ := hy
                  have ex := hx us sa
                  rw [g1] at ex; cases ex
                  have ey := hy ws sb
                  rw [g2] at ey; cases ey
                  have ez := hz ts sc
                  rw [g3] at ez; cases ez
                  exact yield_tup o2 (.cons (r1.mono e2 q2) (.cons (r2.mono e2 q2) (.cons (r3.mono e2 q2) .nil))) (by show 3 ≤ LIM; decide) hT
  · exact p1.elim
theorem i_zip3 {K : Frag} (hm : X.mg "zip" = none) (ha : XA X cx W [e, e2, e3] tA fs) (hg : Gl X "zip" := by rfl) (hs : starEach [e, e2, e3] X.env = (false, eval e X.env) :: starEach [e2, e3] X.env := by rfl) (hpl : (backTo pos (starEach [e2, e3] X.env)).any (·.1) = false := by rfl) (hK : X.K = K := by rfl) :
    XI X cx W (.Tuple elts kk tpos) (.Call (.Name "zip" p) [e, e2, e3] [] pos) (iZip3 K tA) (zip3 fs) := by
  subst hK
  exact ⟨pi_zip3 hg hm ha.p hs hpl, si_zip3 ha.s⟩
end
end RS
set_option Elab.async false
set_option linter.all false
set_option maxRecDepth 100000
set_option maxHeartbeats 2000000
/-! # RS, part M: how plain functions are computed: each construct where it is applied, loops. -/
namespace RS
open PySem L2
section
variable (p q : FS) (ρ : Sl) (M : Mem) (f g h : FE) (fs : Sl → Mem → R (List D)) (b c : Sl → Mem → R Bool) (i : Nat)
@[simp] theorem seqF_ap : seqF p q ρ M = (match p ρ M with | .ok (.next ρ') M' => q ρ' M' | r => r) := by unfold seqF; rfl
@[simp] theorem ifF_ap : ifF b p q ρ M = (b ρ M).bind fun c M => if c = true then p ρ M else q ρ M := rfl
@[simp] theorem nxt_ap : nxt ρ M = .ok (.next ρ) M := rfl
@[simp] theorem cntF_ap : cntF ρ M = .ok (.cnt ρ) M := rfl
@[simp] theorem retF_ap : retF f ρ M = (f ρ M).bind fun x M => match x with | .bor _ => .bad | x => .ok (.ret x) M := rfl
@[simp] theorem retN_ap : retN ρ M = .ok (.ret (.val .non)) M := rfl
@[simp] theorem retV_ap : retV i ρ M = (match ρ[i]? with | some (.own l) => .ok (.ret (.own l)) M | some (.val d) => .ok (.ret (.val d)) M | _ => .bad) := rfl
@[simp] theorem rseF_ap (k : Nat) : rseF k f ρ M = (stE f ρ M).bind fun d M => .exn k d M := rfl
@[simp] theorem setF_ap : setF i f ρ M = (stE f ρ M).bind fun d M => .ok (.next (ρ.set i (.val d))) M := rfl
@[simp] theorem asgF_ap (t : D → Sl → Option Sl) (fd : Sl → Mem → R D) : asgF t fd ρ M = (fd ρ M).bind fun d M => match t d ρ with | some ρ' => .ok (.next ρ') M | none => .bad := rfl
@[simp] theorem ownF_ap : ownF i f ρ M = (f ρ M).bind fun x M => match x with | .own l => .ok (.next (ρ.set i (.own l))) M | _ => .bad := rfl
@[simp] theorem cellF_ap : cellF i f ρ M = (f ρ M).bind fun x M => match x with | .own l => .ok (.next (ρ.set i (.val (.ref M.length)))) (M ++ [some l]) | _ => .bad := rfl
@[simp] theorem expF_ap : expF f ρ M = (f ρ M).bind fun _ M => .ok (.next ρ) M := rfl
@[simp] theorem frzF_ap : frzF i p ρ M = (match ρ[i]? with | some (.own l) => p (ρ.set i (.val (.lst l))) M | _ => .bad) := rfl
@[simp] theorem forF_ap (fi : Sl → Mem → R (List D)) (t : D → Sl → Option Sl) : forF fi t p ρ M = (fi ρ M).bind fun ds M => forGo t p ds ρ M := rfl
@[simp] theorem getVar_ap : getVar i ρ M = (match ρ[i]? with | some (.val d) => .ok (.val d) M | some (.own l) => .ok (.bor l) M | _ => .bad) := rfl
@[simp] theorem con_ap (d : D) : con d ρ M = .ok (.val d) M := rfl
@[simp] theorem op2_ap (k : Val → Val → Mem → R Val) : op2 f g k ρ M = (f ρ M).bind fun x M => (g ρ M).bind fun y M => k x y M := rfl
@[simp] theorem op1_ap (k : Val → Mem → R Val) : op1 f k ρ M = (f ρ M).bind fun x M => k x M := rfl
@[simp] theorem stE_ap : stE f ρ M = (f ρ M).bind sto := rfl
@[simp] theorem aNil_ap : aNil ρ M = .ok [] M := rfl
@[simp] theorem aCons_ap (fd : Sl → Mem → R D) : aCons fd fs ρ M = (fd ρ M).bind fun d M => (fs ρ M).bind fun ds M => .ok (d :: ds) M := rfl
@[simp] theorem tupE_ap : tupE fs ρ M = (fs ρ M).bind fun ds M => if ds.length ≤ LIM then .ok (.val (.tup ds)) M else .bad := rfl
@[simp] theorem lstE_ap : lstE fs ρ M = (fs ρ M).bind fun ds M => if ds.length ≤ LIM then .ok (.own ds) M else .bad := rfl
@[simp] theorem callE_ap (n : Nat) (F : List D → Mem → R Val) : callE n F fs ρ M = (fs ρ M).bind fun ds M => if ds.length = n then F ds M else .bad := rfl
@[simp] theorem tst_ap : tst f ρ M = (f ρ M).bind asBool := rfl
@[simp] theorem andT_ap : andT b c ρ M = (b ρ M).bind fun z M => if z = true then c ρ M else .ok false M := rfl
@[simp] theorem orT_ap : orT b c ρ M = (b ρ M).bind fun z M => if z = true then .ok true M else c ρ M := rfl
@[simp] theorem notT_ap : notT b ρ M = (b ρ M).bind fun z M => .ok (!z) M := rfl
@[simp] theorem yesT_ap : yesT ρ M = .ok true M := rfl
@[simp] theorem notV_ap : notV f ρ M = (f ρ M).bind fun x M => match view x M with | .bl b => .ok (.val (.bl (!b))) M | _ => .bad := rfl
@[simp] theorem seqE_ap : seqE f ρ M = (stE f ρ M).bind itemsOf := rfl
@[simp] theorem ixO_ap : ixO f ρ M = (f ρ M).bind asInt := rfl
@[simp] theorem asBool_bl (x : Bool) : asBool (.val (.bl x)) M = .ok x M := rfl
@[simp] theorem asInt_int (x : Int) : asInt (.val (.int x)) M = .ok (some x) M := rfl
@[simp] theorem items_lst (l : List D) : itemsOf (.lst l) M = .ok l M := rfl
@[simp] theorem items_tup (l : List D) : itemsOf (.tup l) M = .ok l M := rfl
@[simp] theorem items_str (s : Str) : itemsOf (.str s) M = .ok (s.cps.toList.map fun c => .str (mk [c])) M := rfl
@[simp] theorem tgN_ap (d : D) : tgN i d ρ = some (ρ.set i (.val d)) := rfl
end
@[simp] theorem mk_len (w : List Nat) : (mk w).length = w.length := by simp [Str.length]
@[simp] theorem mk_list (w : List Nat) : (mk w).cps.toList = w := by simp
@[simp] theorem sign_mk (c : Nat) : sign? (mk [c]) = some c := rfl
@[simp] theorem sign_mk' (c : Nat) : sign? ⟨#[c]⟩ = some c := rfl
@[simp] theorem atI_zero {α : Type} (a : α) (l : List α) : atI (a :: l) 0 = some a := atI_nat (j := 0) rfl
@[simp] theorem atI_one {α : Type} (a b : α) (l : List α) : atI (a :: b :: l) 1 = some b := atI_nat (j := 1) rfl
@[simp] theorem atI_two {α : Type} (a b c : α) (l : List α) : atI (a :: b :: c :: l) 2 = some c := atI_nat (j := 2) rfl
@[simp] theorem atI_three {α : Type} (a b c d : α) (l : List α) : atI (a :: b :: c :: d :: l) 3 = some d := atI_nat (j := 3) rfl
@[simp] theorem lenP_str (s : Str) (M : Mem) : lenP (.val (.str s)) M = .ok (.val (.int s.length)) M := rfl
@[simp] theorem intP0_int (g : Int → Int → D) (i j : Int) (M : Mem) : intP0 g (.val (.int i)) (.val (.int j)) M = .ok (.val (g i j)) M := rfl
@[simp] theorem leP_int (i j : Int) (M : Mem) : leP (.val (.int i)) (.val (.int j)) M = .ok (.val (.bl (decide (i ≤ j)))) M := rfl
@[simp] theorem ltP_int (i j : Int) (M : Mem) : ltP (.val (.int i)) (.val (.int j)) M = .ok (.val (.bl (decide (i < j)))) M := rfl
@[simp] theorem gtP_int (i j : Int) (M : Mem) : gtP (.val (.int i)) (.val (.int j)) M = .ok (.val (.bl (decide (j < i)))) M := rfl
@[simp] theorem geP_int (i j : Int) (M : Mem) : geP (.val (.int i)) (.val (.int j)) M = .ok (.val (.bl (decide (j ≤ i)))) M := rfl
@[simp] theorem subP_int (i j : Int) (M : Mem) : subP (.val (.int i)) (.val (.int j)) M = .ok (.val (.int (i - j))) M := rfl
@[simp] theorem inP_sign (neg : Bool) (c : Nat) (z : Str) (M : Mem) : inP neg (.val (.str (mk [c]))) (.val (.str z)) M = .ok (.val (.bl (if neg then !decide (c ∈ z.cps.toList) else decide (c ∈ z.cps.toList)))) M := rfl
@[simp] theorem idxP_str (s : Str) (i : Int) (M : Mem) : idxP (.val (.str s)) (.val (.int i)) M = (match atI s.cps.toList i with | some c => .ok (.val (.str (mk [c]))) M | none => .bad) := rfl
@[simp] theorem idxP_lst (s : List D) (i : Int) (M : Mem) : idxP (.val (.lst s)) (.val (.int i)) M = (match atI s i with | some c => .ok (.val c) M | none => .bad) := rfl
@[simp] theorem idxP_tup (s : List D) (i : Int) (M : Mem) : idxP (.val (.tup s)) (.val (.int i)) M = (match atI s i with | some c => .ok (.val c) M | none => .bad) := rfl
@[simp] theorem idxP_bor (s : List D) (i : Int) (M : Mem) : idxP (.bor s) (.val (.int i)) M = (match atI s i with | some c => .ok (.val c) M | none => .bad) := rfl
@[simp] theorem idxP_own (s : List D) (i : Int) (M : Mem) : idxP (.own s) (.val (.int i)) M = (match atI s i with | some c => .ok (.val c) M | none => .bad) := rfl
/-! ### loops -/
/-- a loop that a state follows: f tells the next state, or how the loop ends -/
def foldX {α σ ε : Type} (f : α → σ → Except ε σ) : List α → σ → Except ε σ
  | [], s => .ok s
  | a :: l, s => match f a s with | .ok s' => foldX f l s' | .error e => .error e
theorem forGo_sim {α σ ε : Type} {t : D → Sl → Option Sl} {b : FS} (g : α → D) (I : Sl → Mem → σ → Prop) (f : α → σ → Except ε σ) (out : ε → Mem → R Fl) (ho : ∀ e M, (∃ x, out e M = .ok (.ret x) M) ∨ ∃ c d, out e M = .exn c d M) :
    ∀ (l : List α) (_ : ∀ a ∈ l, ∀ ρ M s, I ρ M s → ∃ ρ1, t (g a) ρ = some ρ1 ∧ match f a s with
      | .ok s' => ∃ ρ' M', (b ρ1 M = .ok (.next ρ') M' ∨ b ρ1 M = .ok (.cnt ρ') M') ∧ I ρ' M' s'
      | .error e => ∃ M', b ρ1 M = out e M') (ρ : Sl) (M : Mem) (s : σ), I ρ M s →
    match foldX f l s with
    | .ok s' => ∃ ρ' M', forGo t b (l.map g) ρ M = .ok (.next ρ') M' ∧ I ρ' M' s'
    | .error e => ∃ M', forGo t b (l.map g) ρ M = out e M'
  | [], _, ρ, M, s, h => ⟨ρ, M, rfl, h⟩
  | a :: l, st, ρ, M, s, h => by
    obtain ⟨ρ1, h1, h2⟩ := st a List.mem_cons_self ρ M s h
    have ih := forGo_sim g I f out ho l (fun x hx => st x (List.mem_cons_of_mem _ hx))
    unfold foldX
    cases e : f a s with
    | ok s' =>
      rw [e] at h2
      obtain ⟨ρ', M', h3, h4⟩ := h2
      have e2 : forGo t b ((a :: l).map g) ρ M = forGo t b (l.map g) ρ' M' := by
        rw [List.map_cons]
        unfold forGo
        rw [h1]
        rcases h3 with h3 | h3 <;> simp only [h3] <;> (cases l <;> rfl)
      simp only
      rw [e2]
      exact ih ρ' M' s' h4
    | error x =>
      rw [e] at h2
      obtain ⟨M', h3⟩ := h2
      refine ⟨M', ?_⟩
      rw [List.map_cons]
      unfold forGo
      rw [h1]
      simp only [h3]
      rcases ho x M' with ⟨y, h5⟩ | ⟨c, d, h5⟩ <;> simp only [h5]
def OutX {ε σ : Type} (P : σ → Prop) (Q : ε → Prop) : Except ε σ → Prop
  | .ok s => P s
  | .error e => Q e
/-- .. the invariant sees the items that are left -/
theorem forGo_simR {α σ ε : Type} {t : D → Sl → Option Sl} {b : FS} (g : α → D) (I : List α → Sl → Mem → σ → Prop) (f : α → σ → Except ε σ) (out : ε → Mem → R Fl) (ho : ∀ e M, (∃ x, out e M = .ok (.ret x) M) ∨ ∃ c d, out e M = .exn c d M)
    (st : ∀ a l ρ M s, I (a :: l) ρ M s → ∃ ρ1, t (g a) ρ = some ρ1 ∧ OutX (fun s' => ∃ ρ' M', (b ρ1 M = .ok (.next ρ') M' ∨ b ρ1 M = .ok (.cnt ρ') M') ∧ I l ρ' M' s') (fun e => b ρ1 M = out e M) (f a s)) :
    ∀ (l : List α) (ρ : Sl) (M : Mem) (s : σ), I l ρ M s →
    OutX (fun s' => ∃ ρ' M', forGo t b (l.map g) ρ M = .ok (.next ρ') M' ∧ I [] ρ' M' s') (fun e => ∃ ρ' M' l' s', I l' ρ' M' s' ∧ forGo t b (l.map g) ρ M = out e M') (foldX f l s)
  | [], ρ, M, s, h => ⟨ρ, M, rfl, h⟩
  | a :: l, ρ, M, s, h => by
    obtain ⟨ρ1, h1, h2⟩ := st a l ρ M s h
    have ih := forGo_simR g I f out ho st l
    have ef : foldX f (a :: l) s = (match f a s with | .ok s' => foldX f l s' | .error e => .error e) := rfl
    rw [ef]
    cases e : f a s with
    | ok s' =>
      rw [e] at h2
      obtain ⟨ρ', M', h3, h4⟩ := h2
      have e2 : forGo t b ((a :: l).map g) ρ M = forGo t b (l.map g) ρ' M' := by
        rw [List.map_cons]
        conv => lhs; unfold forGo
        rw [h1]
        rcases h3 with h3 | h3 <;> simp only [h3]
      simp only
      rw [e2]
      exact ih ρ' M' s' h4
    | error x =>
      rw [e] at h2
      replace h2 : b ρ1 M = out x M := h2
      refine ⟨ρ, M, a :: l, s, h, ?_⟩
      rw [List.map_cons]
      conv => lhs; unfold forGo
      rw [h1]
      simp only [h2]
      rcases ho x M with ⟨y, h5⟩ | ⟨c, d, h5⟩ <;> simp only [h5]
/-- a loop that looks for the first item that stops it -/
theorem forGo_all {α : Type} {t : D → Sl → Option Sl} {b : FS} (g : α → D) (I : Sl → Prop) (P : α → Bool) (x : Val) (M : Mem) : ∀ (l : List α) (ρ : Sl) (_ : I ρ)
    (_ : ∀ a ∈ l, ∀ ρ, I ρ → ∃ ρ1, t (g a) ρ = some ρ1 ∧ (if P a = true then ∃ ρ', b ρ1 M = .ok (.next ρ') M ∧ I ρ' else b ρ1 M = .ok (.ret x) M)),
    if l.all P = true then ∃ ρ', forGo t b (l.map g) ρ M = .ok (.next ρ') M ∧ I ρ' else forGo t b (l.map g) ρ M = .ok (.ret x) M
  | [], ρ, h, _ => by
    rw [if_pos (by rfl)]
    exact ⟨ρ, rfl, h⟩
  | a :: l, ρ, h, st => by
    obtain ⟨ρ1, h1, h2⟩ := st a List.mem_cons_self ρ h
    by_cases hp : P a = true
    · rw [if_pos hp] at h2
      obtain ⟨ρ', h3, h4⟩ := h2
      have ih := forGo_all g I P x M l ρ' h4 (fun y hy => st y (List.mem_cons_of_mem _ hy))
      have e2 : forGo t b ((a :: l).map g) ρ M = forGo t b (l.map g) ρ' M := by
        rw [List.map_cons]
        conv => lhs; unfold forGo
        rw [h1]
        simp only [h3]
      rw [List.all_cons, hp, Bool.true_and, e2]
      exact ih
    · rw [if_neg hp] at h2
      rw [List.all_cons, Bool.eq_false_iff.mpr hp, Bool.false_and, if_neg Bool.false_ne_true, List.map_cons]
      unfold forGo
      rw [h1]
      simp only [h2]
/-- a comprehension whose tests and items are plain -/
theorem cmpGo_plain {α : Type} {t : D → Sl → Option Sl} {b : Sl → Mem → R Bool} {e : Sl → Mem → R D} {ρ : Sl} {M : Mem} (g : α → D) (P : α → Bool) (F : α → D) : ∀ (l : List α) (acc : List D)
    (_ : ∀ a ∈ l, ∃ ρ1, t (g a) ρ = some ρ1 ∧ b ρ1 M = .ok (P a) M ∧ (P a = true → e ρ1 M = .ok (F a) M)), cmpGo t b e ρ (l.map g) acc M = .ok (.own (acc ++ (l.filter P).map F)) M
  | [], acc, _ => by simp [cmpGo]
  | a :: l, acc, h => by
    obtain ⟨ρ1, h1, h2, h3⟩ := h a List.mem_cons_self
    have ih := fun acc' => cmpGo_plain (t := t) (b := b) (e := e) (ρ := ρ) (M := M) g P F l acc' (fun x hx => h x (List.mem_cons_of_mem _ hx))
    rw [List.map_cons]
    unfold cmpGo
    rw [h1]
    cases hp : P a with
    | true =>
      rw [hp] at h2
      simp only [h2, h3 hp]
      rw [ih, List.filter_cons_of_pos hp]
      simp
    | false =>
      rw [hp] at h2
      simp only [h2]
      rw [ih, List.filter_cons_of_neg (by rw [hp]; exact Bool.false_ne_true)]
theorem cmpE_plain {α : Type} {fi : Sl → Mem → R (List D)} {t : D → Sl → Option Sl} {b : Sl → Mem → R Bool} {e : Sl → Mem → R D} {vs : List Nat} {ρ : Sl} {M : Mem} (g : α → D) (P : α → Bool) (F : α → D) (l : List α) (hf : fi ρ M = .ok (l.map g) M) (hl : l.length ≤ SLIM)
    (h : ∀ a ∈ l, ∃ ρ1, t (g a) (wipeS ρ vs) = some ρ1 ∧ b ρ1 M = .ok (P a) M ∧ (P a = true → e ρ1 M = .ok (F a) M)) : cmpE fi t b e vs ρ M = .ok (.own ((l.filter P).map F)) M := by
  unfold cmpE
  rw [hf]
  show (if (l.map g).length ≤ SLIM then _ else _) = _
  rw [List.length_map, if_pos hl, cmpGo_plain g P F l [] h, List.nil_append]
end RS
set_option Elab.async false
set_option linter.all false
set_option maxRecDepth 100000
set_option maxHeartbeats 2000000
/-! # RS, part X: own errors whose __init__ says super().__init__(text); self.f = f. -/
namespace RS
open PySem PySem.W PySem.Calls PyProof.Rows PySem.HandSPX
structure P11 where
  (a b q1 q2 q3 q4 q5 q6 r1 r2 r3 r4 : Pos)
def suA (f : Str) (p : P11) : Arguments := { posonlyargs := [], args := [{ arg := "self", annotation := none, pos := p.a }, { arg := f, annotation := none, pos := p.b }], vararg := none, kwonlyargs := [], kw_defaults := [], kwarg := none, defaults := [] }
def suB (f m : Str) (p : P11) : List Stmt := [.Expr (.Call (.Attribute (.Call (.Name "super" p.q1) [] [] p.q2) "__init__" p.q3) [.Constant (.str m) 0 p.q4] [] p.q5) p.q6, .Assign [.Attribute (.Name "self" p.r1) f p.r2] (.Name f p.r3) p.r4]
def SuEval (m : Str) (p : P11) : Prop := ∃ pl : Env → Sem Bool, ∀ env : Env, eval (.Call (.Attribute (.Call (.Name "super" p.q1) [] [] p.q2) "__init__" p.q3) [.Constant (.str m) 0 p.q4] [] p.q5) env = (do
  let ov ← attributeBase (.Call (.Name "super" p.q1) [] [] p.q2) "__init__" env (eval (.Call (.Name "super" p.q1) [] [] p.q2) env)
  standAt p.q3.atName
  let (f, first) ← holding [ov] (getMethod ov "__init__" (pl env))
  callWith p.q5 f first (backTo p.q5 (starEach [.Constant (.str m) 0 p.q4] env)) [])
def suS (f : Str) : Scope := { kind := .function, names := [(PySem.Str.ofString "self", .local), (f, .local), (PySem.Str.ofString "__class__", .free), (PySem.Str.ofString "super", .globalImplicit)], isGenerator := false, isCoroutine := false, more := [] }
/-- what the written part says of such a class, named x, at C; its __init__ at fI -/
structure SupTxt (P : Program) (K : Frag) (mg : Str → Option Value) (x f : Str) (C fI : Addr) : Prop where
  gC : mg x = some (.ref C)
  cls : ∃ nm q N bs bm sn sub ab col dd k0 k1 k2 k3 k5, K.lookup C = some (excClassObj nm q C N bs bm true sn sub ab col dd k0 k1 k2 k3 k5 "ValueError.__new__") ∧ refsVE bm = true
  sa : findIn K (.ref C) "__setattr__" = some (some (.builtin "object.__setattr__"))
  ga : findIn K (.ref C) "__getattribute__" = some (some (.builtin "BaseException.__getattribute__"))
  gg : findIn K (.ref C) "__getattr__" = some none
  noN : findIn K (.ref C) f = some none
  iC : findIn K (.ref C) "__init__" = some (some (.ref fI))
  tC : typeIn K (.ref fI) = some (.type "function")
  kC : keepIn K (.ref C) = true
  exC : subIn K (.ref C) (.type "BaseException") = some true
  veC : subIn K (.ref C) (.type "ValueError") = some true
  tyC : typeIn K (.ref C) = some (.type "type")
  hdC : hasDictIn K C = true
  sup : ks_superIn K C C "__init__" = some (some (.builtin "ValueError.__init__"))
  seC : mroIn K C (.ref C) = some true
  opq : nsIn K cStatics "thirdparty.any" = some none
  noS : mg "super" = none
  top : (P.main.scope.names.lookup ("super" : Str)).isSome = false
  fn : ∃ (qn m : Str) (oc : Value) (od : Option Addr) (doc pm : Value) (an : Option Addr) (ct : Value) (osl : Array (Option Value)) (p : P11) (cc cda : Addr) (cl ccl : Value) (cld cdd : Option Addr) (csl ccs : Array (Option Value)) (vs : Array Value) (file : Str) (tf : Tok),
    K.lookup fI = some ⟨oc, od, .func (ksFn "__init__" qn (suA f p) (suB f m p) (suS f) .none .none doc pm an (.ref cda) ct cc), osl⟩ ∧ codeIn K (.ref cda) qn = true ∧
    K.lookup cc = some ⟨cl, cld, .cell (some (.ref C)), csl⟩ ∧ K.lookup cda = some ⟨ccl, cdd, .fields vs, ccs⟩ ∧ vs[2]? = some (.str file tf) ∧ ((P.main.file : Str) == file) = true ∧ SuEval m p
/-- f is none of the names at work -/
structure NameF (f : Str) : Prop where
  nd : (f == ("__debug__" : Str)) = false
  lf : (suS f).names.lookup f = some .local
  lcls : (suS f).names.lookup ("__class__" : Str) = some .free
  lsup : (suS f).names.lookup ("super" : Str) = some .globalImplicit
  l1 : ∀ (x v : Value), List.lookup ("self" : Str) [(("self" : Str), x), (f, v)].reverse = some x
  l2 : ∀ (x v : Value), List.lookup f [(("self" : Str), x), (f, v)].reverse = some v
  bind : ∀ (qn m : Str) (p : P11) (doc pm : Value) (an : Option Addr) (cda : Addr) (ct : Value) (cc : Addr) (s : Shared) (u v : Value), BindsTo s (ksFn "__init__" qn (suA f p) (suB f m p) (suS f) .none .none doc pm an (.ref cda) ct cc) ⟨[u, v], []⟩ [("self", u), (f, v)]
theorem name_line : NameF "line" := ⟨rfl, rfl, rfl, rfl, fun _ _ => rfl, fun _ _ => rfl, fun _ _ _ _ _ _ _ _ _ _ _ _ => .of_eq rfl⟩
theorem name_limit : NameF "limit" := ⟨rfl, rfl, rfl, rfl, fun _ _ => rfl, fun _ _ => rfl, fun _ _ _ _ _ _ _ _ _ _ _ _ => .of_eq rfl⟩
theorem one_size (v : Value) : [v].length ≤ sizeLine := by
  rw [sizeLine_eq]
  exact (by decide : 1 ≤ 16777216)
structure InitEnd (h h' : Heap) (x C dx : Addr) (f : Str) (v : Value) : Prop where
  keep : ∀ b o, b ≠ x → h.get? b = some o → h'.get? b = some o
  obj : ∃ t1, h'.get? x = some { cls := .ref C, dict := some dx, data := .fields #[.ref t1, .none, .none, .none, .bool false, .none] }
  dbig : h.objs.size ≤ dx
  dne : dx ≠ x
  ns : h'.Ns1 dx (fun y => if y = f then some v else none)
structure OwnMade (h h' : Heap) (e C d : Addr) (f : Str) (v : Value) : Prop where
  keep : ∀ b o, h.get? b = some o → h'.get? b = some o
  new : h.objs.size ≤ e
  obj : ∃ oe vs, h'.get? e = some oe ∧ oe.cls = .ref C ∧ oe.dict = some d ∧ oe.data = .fields vs ∧ vs[1]? = some .none ∧ vs[2]? = some .none
  dbig : h.objs.size ≤ d
  dne : d ≠ e
  ns : h'.Ns1 d (fun y => if y = f then some v else none)
section
variable {P : Program} {w : World} {A : Around} {E : Value → Shared → Prop} {R : Result → Shared → Prop} {s : Shared} {K : Frag} {mg : Str → Option Value} {C fI : Addr} {xn f : Str}
theorem sup_init (T : SupTxt P K mg xn f C fI) (NF : NameF f) {x t0 : Addr} {v : Value} {mb : Str → Option Value} (X : K.In s.heap) (hlim : s.heap.NoLimit) (hg : s.heap.Ns mainGlobals mg) (hb : s.heap.Ns builtinsNs mb) (hmb : mb "super" = some (.type "super"))
    (hx : s.heap.get? x = some (excO C t0)) (hnx : K.lookup x = none) (hroom : A.depth < recursionLimit)
    (hq : ∀ h' tk dx, InitEnd s.heap h' x C dx f v → R (.ok (.ret .none)) { s with heap := h', toks := tk }) :
    codeAny (model P w) A (.call (.ref fI) ⟨[.ref x, v], []⟩) R s := by
  obtain ⟨qn, m, oc, od, doc, pm, an, ct, osl, p, cc, cda, cl, ccl, cld, cdd, csl, ccs, vs, file, tf, ho, hcd, hcell, hcode, hvs, hfile, pl, hev⟩ := T.fn
  obtain ⟨nm, q, N, bs, bm, sn, sub, ab, col, dd, k0, k1, k2, k3, k5, hC, hbm⟩ := T.cls
  have hcl : clsIn K C = some { name := nm, bases := bs, mro := .ref C :: bm, ns := N, qualname := q, hasDict := true, slotNames := sn, subclasses := sub, abstract := ab, collection := col, hasDel := false } := by unfold clsIn; rw [hC] <;> rfl
  have lself : (suS f).names.lookup ("self" : Str) = some .local := rfl
  refine ks_codeAny_call_defAt (fd := ksFn "__init__" qn (suA f p) (suB f m p) (suS f) .none .none doc pm an (.ref cda) ct cc) (body := suB f m p) (binds := [("self", .ref x), (f, v)]) hroom (X _ _ ho) rfl hlim (codeRec_of X hcd) rfl
    (NF.bind qn m p doc pm an cda ct cc s (.ref x) v) (fun y hy => ?_) (fun y hy => ?_) (fun h₁ hn k => ?_) rfl rfl rfl
  · have e : y = (PySem.Str.ofString "self", .local) ∨ y = (f, .local) ∨ y = (PySem.Str.ofString "__class__", .free) ∨ y = (PySem.Str.ofString "super", .globalImplicit) := by
      have hy' : y ∈ [(PySem.Str.ofString "self", NameKind.local), (f, .local), (PySem.Str.ofString "__class__", .free), (PySem.Str.ofString "super", .globalImplicit)] := hy
      simpa using hy'
    rcases e with rfl | rfl | rfl | rfl <;> exact fun z => by cases z
  · have e : y = (("self" : Str), Value.ref x) ∨ y = (f, v) := by simpa using hy
    rcases e with rfl | rfl
    · exact lself
    · exact NF.lf
  · have hxL : s.heap.objs.size ≠ x := Nat.ne_of_gt (Heap.lt_size hx)
    have X₁ : K.In h₁ := X.keeps k
    have hx₁ := k _ _ hx
    have z : s.heap.objs.size < h₁.objs.size := hn.lt
    have hD := X₁ _ _ hC
    have isv : Looks (model P w) h₁ (isInstance (.ref x) (.type "ValueError")) true := (⟨hx₁, rfl, rfl, trivial⟩ : InstAt h₁ x (excO C t0) C none).type.andThen (looks_subIn X₁ T.veC)
    have xC : x ≠ C := fun e => by rw [e] at hx₁; rw [hD] at hx₁; cases hx₁
    refine ks_wpAt_execs_cons (ks_wpAt_Expr_any (ks_wpAt_MethodCall ?_ (hev _)))
    refine ks_wpAt_super_base (env := ksEnv qn (suS f) s.heap.objs.size fI (.ref cda) cc) NF.lsup NF.lcls (by decide) rfl (X₁ _ _ ho) rfl rfl rfl (X₁ _ _ hcode) rfl hvs hfile T.top ?_
    refine ks_loadName_global (env := ksEnv qn (suS f) s.heap.objs.size fI (.ref cda) cc) rfl NF.lsup (loadGlobal_builtin (env := ksEnv qn (suS f) s.heap.objs.size fI (.ref cda) cc) (hg.keeps k) T.noS (hb.keeps k) hmb ⟨rfl, ?_⟩)
    refine wpAny_loadName_free (env := ksEnv qn (suS f) s.heap.objs.size fI (.ref cda) cc) rfl NF.lcls rfl ⟨_, X₁ _ _ hcell, rfl⟩ ?_
    refine wpAny_loadName_local (env := ksEnv qn (suS f) s.heap.objs.size fI (.ref cda) cc) rfl lself hn (v := .ref x) (NF.l1 _ _) ?_
    refine ks_wpAny_isType_cls hD rfl ⟨rfl, ?_⟩
    refine ks_wpAny_call_super hD rfl hx₁ rfl (fun c e => by cases e) (looks_mroIn X₁ T.seC) (fun h₂ e2 k2 => ?_)
    have hal : alongIn K "__init__" ((((Value.ref C :: bm).dropWhile (· != .ref C)).drop 1)) = some (some (.builtin "ValueError.__init__")) := by
      have := T.sup
      unfold ks_superIn at this
      rw [hcl] at this
      exact this
    refine kxs_getMethod kxs_ValueError e2 (looks_opaque (X₁.keeps k2) T.opq) (l₀ := .ref C :: bm) (fun A Q E s k q => wpAny_bind ((looks_clsIn (X₁.keeps k2) hcl) A _ E s k (wpAny_pure q))) rfl (X₁.keeps k2) hal (isv.keeps k2) xC (by decide) ?_
    have hu : (h₂.push (kxs_mw "ValueError.__init__" x)).get? h₂.objs.size = some (kxs_mw "ValueError.__init__" x) := Heap.get?_push_at rfl rfl
    have k3 : ∀ b o, h₁.get? b = some o → (h₂.push (kxs_mw "ValueError.__init__" x)).get? b = some o := fun b o e => Heap.get?_push_of_some _ (k2 b o e)
    refine kxs_callWith (i := "ValueError.__init__") (x := x) rfl (evalArgs_plain (args_cons (Constant_str (args_nil ⟨hu, ?_⟩)) rfl))
    refine wpAny_call (codeAny_of_tree ?_)
    show wpAny _ _ (callAny (.ref h₂.objs.size) ⟨_, []⟩) _ _ _
    simp only [callAny]
    refine wpAny_bind (wpAny_load hu ?_)
    simp only [kxs_mw, show (Value.type "method-wrapper" == Value.type "method" || Value.type "method-wrapper" == Value.type "builtin_function_or_method" || Value.type "method-wrapper" == Value.type "method-wrapper") = true by decide, if_true]
    refine KFB.if_so (by decide) ?_
    refine wpAny_bind (check_bound_init F.excBase_ValueError.toExcCallFacts (k3 _ _ hD) (k3 _ _ hx₁) rfl ?_)
    refine wpAny_bind (wpAny_pure (wpAny_pure ?_))
    refine ⟨plainId_quiet F.excBase_ValueError.init.plain _, codeAny_builtin F.excBase_ValueError.initEntry ?_⟩
    refine exc_init_tree (cls := .ref C) (t0 := t0) (dv := none) (c2 := .none) (c3 := .none) (b4 := .bool false) (k3 _ _ hx₁) (one_size _) (fun h₄ k4 e4 _ => ?_)
    show _root_.PySem.wpAt _ _ _ (execs _ _) _ _ _
    have k5 : ∀ b o, b ≠ x → h₁.get? b = some o → h₄.get? b = some o := fun b o hb e => k4 b o hb (k3 b o e)
    have X₄ : K.In h₄ := fun a o e => k5 a o (fun z => by rw [z, hnx] at e; cases e) (X₁ a o e)
    have hn4 : h₄.Ns s.heap.objs.size (fun y => [((("self" : Str)), Value.ref x), (f, v)].reverse.lookup y) := by
      obtain ⟨oL, es, ep, hL, r⟩ := hn
      exact ⟨oL, es, ep, k5 _ _ hxL hL, r⟩
    refine ks_wpAt_execs_cons (wpAt_of_wpAny (plainObj_wpAny_Assign_Attribute ?_))
    refine wpAny_Name (env := ksEnv qn (suS f) s.heap.objs.size fI (.ref cda) cc) (wpAny_loadName_local rfl NF.lf hn4 (NF.l2 _ _) ?_) NF.nd
    refine wpAny_Name (env := ksEnv qn (suS f) s.heap.objs.size fI (.ref cda) cc) (wpAny_loadName_local rfl lself hn4 (NF.l1 _ _) ?_) (by decide)
    refine set_plain X₄ (ox := excO C (h₂.push (kxs_mw "ValueError.__init__" x)).objs.size) (od := none) ⟨e4, rfl, rfl, trivial⟩ T.sa ?_
    refine exc_osa X₄ e4 hcl (show refsVE (.ref C :: bm) = true from hbm) rfl T.noN (fun h₅ tk₅ dx k₅ dn dne hx₅ hn₅ => ?_)
    show _root_.PySem.wpAt _ _ _ (execs _ _) _ _ _
    refine wpAt_of_wpAny (wpAny_execs_nil (hq h₅ tk₅ dx ⟨fun b o hb e => k₅ b o hb (k5 b o hb (k b o e)), ⟨_, hx₅⟩, ?_, dne, hn₅⟩))
    rcases Nat.lt_or_ge dx s.heap.objs.size with hlt | hge
    · exfalso
      have : dx < h₄.objs.size := Nat.lt_of_lt_of_le hlt (Nat.le_of_lt (by obtain ⟨oL, _, _, hL, _⟩ := hn4; exact Heap.lt_size hL))
      exact absurd dn (Nat.not_le.mpr this)
    · exact hge
theorem sup_made (T : SupTxt P K mg xn f C fI) (NF : NameF f) {v : Value} {mb : Str → Option Value} (X : K.In s.heap) (hlim : s.heap.NoLimit) (hg : s.heap.Ns mainGlobals mg) (hb : s.heap.Ns builtinsNs mb) (hmb : mb "super" = some (.type "super")) (hroom : A.depth + 1 < recursionLimit)
    (hq : ∀ h' tk e d, OwnMade s.heap h' e C d f v → R (.ok (.ret (.ref e))) { s with heap := h', toks := tk }) :
    codeAny (model P w) A (.call (.ref C) ⟨[v], []⟩) R s := by
  obtain ⟨nm, q, N, bs, bm, sn, sub, ab, col, dd, k0, k1, k2, k3, k5, hC, hbm⟩ := T.cls
  obtain ⟨hp, g, dr, tk, os⟩ := s
  have k : ∀ b o, hp.get? b = some o → ((hp.push (kdv_tup [v])).push (excO C hp.objs.size)).get? b = some o := fun b o e => Heap.get?_push_of_some _ (Heap.get?_push_of_some _ e)
  have hget : ((hp.push (kdv_tup [v])).push (excO C hp.objs.size)).get? (hp.objs.size + 1) = some (excO C hp.objs.size) := by heap_get
  have hnx : K.lookup (hp.objs.size + 1) = none := by
    cases e : K.lookup (hp.objs.size + 1) with
    | none => rfl
    | some o => exact absurd (Nat.lt_of_succ_lt (Heap.lt_size (show hp.get? (hp.objs.size + 1) = some o from X _ _ e))) (Nat.lt_irrefl _)
  refine call_own F.excBase_ValueError (fun Y => refsVE_contains Y bm hbm) (X _ _ hC) (looks_findIn X T.iC) (fun self => bind_fn X self T.tC) (one_size v) ?_
  refine sup_init (s := ⟨(hp.push (kdv_tup [v])).push (excO C hp.objs.size), g, dr, tk, os⟩) T NF (X.keeps k) (hlim.keeps k) (hg.keeps k) (hb.keeps k) hmb hget hnx (show A.depth + 1 < recursionLimit from hroom) fun h' tk' dx ⟨k', ⟨t1, hx⟩, dn, dne, hns⟩ => ?_
  have old : ∀ b o, hp.get? b = some o → h'.get? b = some o := fun b o e => k' b o (Nat.ne_of_lt (Nat.lt_succ_of_lt (Heap.lt_size e))) (k b o e)
  have z : hp.objs.size + 1 + 1 ≤ dx := by
    have q := dn
    simp only [Heap.size_push] at q
    exact q
  exact ⟨rfl, hq h' tk' (hp.objs.size + 1) dx ⟨old, Nat.le_succ _, ⟨_, _, hx, rfl, rfl, rfl, rfl, rfl⟩, Nat.le_trans (Nat.le_trans (Nat.le_succ _) (Nat.le_succ _)) z, dne, hns⟩⟩
end
end RS
namespace RS
open PySem PySem.Spec PyProof.Rows L2
theorem relO_one {v : V} {v' : Value} {f : Str} (r : RelV v v') (g : Str) : RelO (List.lookup g [(f, v)]) (if g = f then some v' else none) := by
  by_cases h : g = f
  · subst h
    rw [if_pos rfl, show List.lookup g [(g, v)] = some v by simp [List.lookup]]
    exact r
  · rw [if_neg h, show List.lookup g [(f, v)] = none by simp only [List.lookup, beq_eq_false_iff_ne.mpr h]]
    trivial
section
variable {X : Cx} {C fI : Addr} {xn f : Str}
/-- C(e) -/
def tMkS (C : Addr) (f : Str) (ta : TE) : L2.St → Hp → XK → Prop := fun σ H Q => ta σ H fun v H1 => ∀ d, H1 d = none → Q (.ref C) (some d) (upd H1 d (.xd [(f, v)]))
theorem pmk_sup {a : Expr} {ta : TE} {p pos : Pos} {k : Nat} (T : SupTxt X.prog X.K X.mg xn f C fI) (NF : NameF f) (hr : Room k X.A) (ha : PE X a ta) (hg : Gl X xn) (hdb : (xn == ("__debug__" : Str)) = false)
    (he : starEach (a :: []) X.env = (false, eval a X.env) :: starEach [] X.env := by rfl) (hpl : (backTo pos (starEach [] X.env)).any (·.1) = false := by rfl) :
    L2N.PMk X (.Call (.Name xn p) [a] [] pos) (tMkS C f ta) := by
  intro pins s σ H Q I h
  refine wpAny_Call_Name_kw (ld_glob I hg T.gC ?_ hdb)
  refine PySem.W.callWith_K (h₀ := X.base) I.ok.mod.kin T.kC (args_cons (thn (ha.run pins s σ H _ I h) fun v' s1 hh => args_nil ?_) he) he hpl
  obtain ⟨v, H1, I1, rv, q1⟩ := hh
  refine ⟨I1.kIn, ?_⟩
  show wpAny _ _ (call (.ref C) [v']) _ _ _
  have hlim := I1.nolimit
  obtain ⟨mb, hb1, hb2⟩ := I1.mod.blt
  obtain ⟨hp, g, dr, tk, os⟩ := s1
  refine wpAny_call (sup_made T NF I1.kIn hlim (I1.mod.glob.keeps I1.bk) (hb1.keeps I1.bk) ((hb2 _ (by decide)).trans (by first | decide +kernel | rfl)) (by have := hr.dp; omega) fun h' tk' e d M => ?_)
  show L2N.MkP X pins σ Q (.ref e) ⟨h', g, dr, tk', os⟩
  obtain ⟨oe, fv, hoe, hc, hd, hdat, h1, h2⟩ := M.obj
  have hns := M.ns
  obtain ⟨G', g1, g2⟩ := restrict h' fun b => decide (b ≠ e)
  have gk : ∀ b, b ≠ e → G'.get? b = h'.get? b := fun b hb => g1 b (decide_eq_true hb)
  have ge : G'.get? e = none := g2 e (by simp)
  have old : ∀ b o, hp.get? b = some o → G'.get? b = some o := fun b o q => (gk b (Nat.ne_of_lt (Nat.lt_of_lt_of_le (Heap.lt_size q) M.new))).trans (M.keep b o q)
  have J : Inv X pins σ (upd H1 d (.xd [(f, v)])) ⟨G', g, dr, tk', os⟩ := I1.laid (t' := tk') old M.dbig ⟨_, hns.at (fun o q => (gk d M.dne).trans q), fun z => relO_one rv z⟩
  refine ⟨e, oe, fv, ⟨G', g, dr, tk', os⟩, _, .ref C, some d, rfl, J, fun b o q => ?_, ge, hoe, ⟨hc, hd, fun vs e => by rw [hdat] at e; cases e; exact h2⟩, hdat, h1, ?_, rfl, I1.bare, raises_own T.exC T.tyC, q1 d (I1.hok.fresh M.dbig)⟩
  · by_cases hb : b = e
    · rw [hb, ge] at q; cases q
    · exact (gk b hb).symm.trans q
  · rw [upd_ne (Ne.symm M.dne)]
    exact I1.hok.fresh M.new
theorem s_rse {cx : Cls} {W : WX} {c : Nat} {a : Expr} {ta : TE} {fe : FE} {p pos pos2 : Pos} {k : Nat} (T : SupTxt X.prog X.K X.mg xn f C fI) (hcx : cx c = some (C, f)) (NF : NameF f) (hc : X.calm = true) (tk : L2N.Takes X W) (hr : Room k X.A) (h : RS.XE X cx W a ta fe) (hg : Gl X xn := by rfl) (hdb : (xn == ("__debug__" : Str)) = false := by decide)
    (he : starEach (a :: []) X.env = (false, eval a X.env) :: starEach [] X.env := by rfl) (hpl : (backTo pos (starEach [] X.env)).any (·.1) = false := by rfl) :
    XS X cx W (.Raise (some (.Call (.Name xn p) [a] [] pos)) none pos2) (tRse W C f ta) (rseF c fe) := ⟨L2N.ps_raise hc tk (pmk_sup T NF hr h.p hg hdb he hpl), ss_rse hcx h.s⟩
end
end RS
set_option Elab.async false
set_option linter.all false
set_option maxRecDepth 100000
set_option maxHeartbeats 2000000
/-! # RS, part Y: within an except suite: isinstance and fields of what is caught, a comprehension, calls, try. -/
namespace RS
open PySem PySem.Spec PyProof.Rows L2

/-! ### a comprehension over range while an exception is handled -/
/-- a block's context that keeps the caught exception p in view -/
abbrev blkP (X : Cx) (p : Addr × Obj) (s : Shared) (H : Hp) (scope : Scope) (cenv : Env) (fp : List Addr) : Cx := (X.blk s H scope cenv fp).tr [p] fun _ _ => False
section
variable {X : Cx} {p : Addr × Obj}
theorem compHot {pins : List (Addr × Obj)} {s : Shared} {σ : L2.St} {H : Hp} {Q : VK} {elt tg iter : Expr} {ifs : List Expr} {scope : Scope} {own : List (Str × Nat)} {pos pos' : Pos} {wi : TI} {g : TG} {tt : TT} {te : TE} {use : Option (Value → Sem Unit)} {Qf : Value → Shared → Prop}
    (hot : L2H.Hot1 X.A p) (hp : p ∈ X.pn) (nd : X.N.Nodup) (I : Inv X pins σ H s) (walk : L2H.PIH X tg iter wi) (bo : BlkOk X.N X.env.scope scope own)
    (pg : ∀ (s : Shared) (H : Hp) (C : Addr) (cl : List (Str × Addr)) (fp : List Addr), PG (blkP X p s H scope (compEnvC scope cl C X.env) fp) tg g)
    (pt : ∀ (s : Shared) (H : Hp) (C : Addr) (cl : List (Str × Addr)) (fp : List Addr), PTs (blkP X p s H scope (compEnvC scope cl C X.env) fp) ifs tt)
    (pe : ∀ (s : Shared) (H : Hp) (C : Addr) (cl : List (Str × Addr)) (fp : List Addr), PE (blkP X p s H scope (compEnvC scope cl C X.env) fp) elt te)
    (fo : ∀ x, foldedSetIterable iter X.env x = pure x) (ask : tLc wi g tt te (own.map (·.2)) σ H Q)
    (back : ∀ D C s' m H', Inv X pins σ H' s' → Q (.ref D) H' → s'.heap.Ns C m → FpOk X pins H' C → compPost (model X.prog X.w) X.A X.xe use Qf (.ref D) C (.ok .next) s') :
    wpAny (model X.prog X.w) X.A (comprehension (.ListComp elt [⟨tg, iter, ifs, 0⟩] scope pos) scope X.env pos' (newList []) false (eval iter X.env) use) Qf X.xe s := by
  have frees : ∀ y ∈ scope.names, y.2 = .free → ∃ c, X.env.cells.lookup y.1 = some c := fun y hy e => (bo.free y hy e).elim (fun k => I.ok.has _ (.inl k)) fun k => I.ok.has _ (.inr k)
  refine wpAny_comprehension_free (use := use) rfl fo (closure_ok frees) bo.kind (fun y hy e => by rw [bo.uniq y hy, e]) (thn (walk.run pins s σ H _ I ask) fun xv sa hx => thn hx fun itv sb hb => ?_)
  obtain ⟨it, fp, tn, J, Hb, rfl, Ib, T, stb, fb, q⟩ := hb
  refine wpAny_newObj_type (newEnv_comp ?_) (by show 0 ≤ sizeLine; decide)
  obtain ⟨W, ⟨m0, w0⟩, turn⟩ := q sb.heap.objs.size (Ib.hok.fresh (Nat.le_refl _))
  -- behind the new list
  generalize hl : sb.heap.objs.size = D at w0 turn ⊢
  generalize hsc : ({ sb with heap := sb.heap.push { cls := .type "list", data := .seq ([] : List Value).toArray } } : Shared) = sc
  have hc : sc.heap = sb.heap.push { cls := .type "list", data := .seq ([] : List Value).toArray } := by rw [← hsc]
  have kc : ∀ b o, sb.heap.get? b = some o → sc.heap.get? b = some o := fun b o e => by rw [hc]; exact Heap.get?_push_of_some _ e
  have Ic : Inv X pins σ (upd Hb D (.lst [])) sc := by
    rw [← hsc, ← hl]
    exact Ib.laid (t' := sb.toks) (fun b o e => Heap.get?_push_of_some _ e) (Nat.le_refl _) ⟨Nat.zero_le _, [], 0, .nil, Heap.get?_push_size _ rfl⟩
  have fc : ∀ b ∈ fp, FpOk X pins (upd Hb D (.lst [])) b ∧ b < sc.heap.objs.size := fun b hb => by
    obtain ⟨o, e, _⟩ := T.obj _ _ stb b hb
    have lt := Heap.lt_size e
    refine ⟨⟨?_, (fb b hb).2⟩, Nat.lt_of_lt_of_le lt (by rw [hc, Heap.size_push]; exact Nat.le_succ _)⟩
    rw [upd_ne (by rw [← hl]; exact Nat.ne_of_lt lt)]
    exact (fb b hb).1
  have Ip := Ic.pin p (List.mem_append_left _ hp)
  generalize hH : upd Hb D (.lst []) = Hc at Ic fc w0 Ip
  -- in the block
  have Id0 := block_start Ic bo nd fc
  have pg := pg sc Hc sc.heap.objs.size (cellsFrom (sc.heap.objs.size + 1) scope.names (cloFrom X.env.cells scope.names [])) fp
  have pt := pt sc Hc sc.heap.objs.size (cellsFrom (sc.heap.objs.size + 1) scope.names (cloFrom X.env.cells scope.names [])) fp
  have pe := pe sc Hc sc.heap.objs.size (cellsFrom (sc.heap.objs.size + 1) scope.names (cloFrom X.env.cells scope.names [])) fp
  show codeAny _ _ (.compStart (.ListComp elt [⟨tg, iter, ifs, 0⟩] scope pos) 0 (.ref it) (.ref D) (compEnvC scope (cellsFrom (sc.heap.objs.size + 1) scope.names (cloFrom X.env.cells scope.names [])) sc.heap.objs.size X.env)) (compPost (model X.prog X.w) X.A X.xe use Qf (.ref D) sc.heap.objs.size) { sc with heap := pushCells (sc.heap.push { cls := .type "dict", data := .dict #[] }) scope.names }
  have kd : ∀ b o, sc.heap.get? b = some o → (pushCells (sc.heap.push { cls := .type "dict", data := .dict #[] }) scope.names).get? b = some o := fun b o e => pushCells_keeps _ _ _ _ (Heap.get?_push_of_some _ e)
  generalize hce : compEnvC scope (cellsFrom (sc.heap.objs.size + 1) scope.names (cloFrom X.env.cells scope.names [])) sc.heap.objs.size X.env = ce at Id0 pg pt pe ⊢
  have cloc : ce.locals = sc.heap.objs.size := by rw [← hce]; rfl
  generalize hsd : ({ sc with heap := pushCells (sc.heap.push { cls := .type "dict", data := .dict #[] }) scope.names } : Shared) = sd at Id0 ⊢
  have hdh : sd.heap = pushCells (sc.heap.push { cls := .type "dict", data := .dict #[] }) scope.names := by rw [← hsd]
  have Id1 : Inv (X.blk sc Hc scope ce fp) [p] (wipe σ (own.map (·.2))) Hc sd :=
    ⟨Id0.ok, Id0.os, Id0.bare, Id0.base, Id0.loc, Id0.cell, Id0.free, Id0.freeC, fun z hz => by
      have ez : z = p := by simpa using (show z ∈ ([] : List (Addr × Obj)) ++ [p] from hz)
      subst ez
      refine ⟨by rw [hdh]; exact kd _ _ Ip.1, Ip.2.1, ?_, fun hm => ?_, Ip.2.2.2.2⟩
      · show z.1 ≠ ce.locals
        rw [cloc]
        exact Nat.ne_of_lt (Heap.lt_size Ip.1)
      · rcases List.mem_cons.mp (Ic.stkSub z.1 hm) with e | e
        · exact Ip.2.2.1 e
        · exact Ip.2.2.2.1 e, Id0.hok, Id0.len⟩
  have Iq : Inv (blkP X p sc Hc scope ce fp) [] (wipe σ (own.map (·.2))) Hc sd := Id1.toTry fun _ _ => False
  have hotC : L2H.HotC (blkP X p sc Hc scope ce fp) := ⟨p, hot, List.mem_singleton.mpr rfl⟩
  have std : tn 0 sd.heap := T.keep _ _ _ stb fun b _ o e => by rw [hdh]; exact kd _ _ (kc _ _ e)
  have fpd : ∀ {σ' : L2.St} {H' : Hp} {s' : Shared}, Inv (blkP X p sc Hc scope ce fp) [] σ' H' s' → (∀ b ∈ fp, H' b = none) → ∀ b ∈ fp, FpOk (blkP X p sc Hc scope ce fp) [] H' b := fun {σ' H' s'} J hn b hb =>
    ⟨hn b hb, (J.ok.exf b hb).1, J.ok.exfs b hb, .inl hb, fun x c e => (J.ok.exf b hb).2 x c e, fun z hz => by
      have ez : z = p := by simpa using (show z ∈ [p] ++ ([] : List (Addr × Obj)) from hz)
      rw [ez]
      exact (fc b hb).1.2.2.2.2.2 p (List.mem_append_left _ hp)⟩
  have loop : codeAny (model X.prog X.w) X.A (.compLoop (.ListComp elt [⟨tg, iter, ifs, 0⟩] scope pos) 0 (.ref it) (.ref D) ce) (compPost (model X.prog X.w) X.A X.xe use Qf (.ref D) sc.heap.objs.size) sd := by
    refine compLoop_any (fun n s' => ∃ i H', Inv (blkP X p sc Hc scope ce fp) [] (wipe σ (own.map (·.2))) H' s' ∧ tn i s'.heap ∧ (∀ b ∈ fp, H' b = none) ∧ W i n H') ?_ m0 ⟨0, Hc, Iq, std, fun b hb => (fc b hb).1.1, w0⟩
    rintro n se ⟨i, He, Ie, ste, ne, we⟩
    rcases turn i n He we with ⟨stop, qq⟩ | ⟨go, Nx, less, step⟩
    · refine thnF (T.done (blkP X p sc Hc scope ce fp) rfl rfl rfl hotC i [] se _ He (fun _ _ => False) Ie (fpd Ie ne) ste stop) fun r sf ⟨hr, If⟩ => ?_
      subst hr
      obtain ⟨m, hm, _⟩ := If.loc
      have hm : sf.heap.Ns ce.locals m := hm
      have fr : He ce.locals = none := If.free
      rw [cloc] at hm fr
      refine back D sc.heap.objs.size sf m He (Ic.call' (ch := fp) If.os If.base If.hok If.bare fun b hb => ?_) qq hm (Ic.fpOk (Nat.le_refl _) fr)
      exact ⟨(fc b hb).1.2.2.2.1, (fc b hb).1.2.1, (fc b hb).1.2.2.2.2.1, (fc b hb).1.2.2.2.2.2⟩
    · refine thnF (T.item (blkP X p sc Hc scope ce fp) rfl rfl rfl hotC i [] se _ He (fun _ _ => False) Ie (fpd Ie ne) ste go) fun r sf ⟨u, hr, hf⟩ => ?_
      subst hr
      refine thnF hf fun _ sg ⟨x, Hg, Ig, rg, yg, stg, ng⟩ => ?_
      have Ig' := Ig.pinned (fpd Ig ng) (T.obj _ _ stg)
      refine thnF (pg.run _ sg _ Hg x u _ Ig' rg (step x Hg yg)) fun _ sh ⟨σh, Hh, Ih, wh, qh⟩ => thnF (pt.run _ sh σh Hh _ Ih qh) fun b sj ⟨Hj, Ij, qj⟩ => ?_
      have next : ∀ {s' : Shared} {H' : Hp}, Inv (blkP X p sc Hc scope ce fp) ([] ++ pinsAt fp sg.heap) σh H' s' → Nx H' → ∃ m, m < n ∧ ∃ i H', Inv (blkP X p sc Hc scope ce fp) [] (wipe σ (own.map (·.2))) H' s' ∧ tn i s'.heap ∧ (∀ b ∈ fp, H' b = none) ∧ W i m H' := fun {s' H'} J nx => by
        obtain ⟨m', lt, w'⟩ := less H' nx
        have at_ : ∀ b ∈ fp, ∀ o, sg.heap.get? b = some o → s'.heap.get? b = some o ∧ H' b = none := fun b hb o e =>
          have z := J.pin (b, o) (List.mem_append_right _ (List.mem_append_right _ (mem_pinsAt hb e)))
          ⟨z.1, z.2.1⟩
        refine ⟨m', lt, i + 1, H', (J.unpinned (pins := [])).weak (by rw [← wh, wipe_length]) (fun j v e => by rw [← wh] at e; exact (wipe_some e).1), T.keep _ _ _ stg fun b hb o e => (at_ b hb o e).1, fun b hb => ?_, w'⟩
        obtain ⟨o, e, _⟩ := T.obj _ _ stg b hb
        exact (at_ b hb o e).2
      cases b with
      | false => simp only [Bool.false_eq_true, if_false] at qj ⊢; exact next Ij qj
      | true =>
        simp only [if_true] at qj ⊢
        exact thnF (pe.run _ sj σh Hj _ Ij qj) fun z sk ⟨yv, Hk, Ik, rk, acc, hD, hz, nx⟩ => app_ok (X := blkP X p sc Hc scope ce fp) Ik hD hz rk fun sl Il => next Il nx
  exact codeAny_compStart_list loop (T.self X.A 0 _ _ _ std loop)
/-- name = [..] on one line, the name a local -/
theorem ps_setHot {i : Nat} {y : Str} {py : Pos} {elt tg iter : Expr} {ifs : List Expr} {scope : Scope} {own : List (Str × Nat)} {pos spos : Pos} {wi : TI} {g : TG} {tt : TT} {te : TE}
    (hot : L2H.Hot1 X.A p) (hp : p ∈ X.pn) (nd : X.N.Nodup) (hy : X.N[i]? = some y) (hyl : X.env.scope.names.lookup y = some .local)
    (sw : swapsWith (.ListComp elt [⟨tg, iter, ifs, 0⟩] scope pos) (some (.Name y py)) spos.line X.env = pure true) (walk : L2H.PIH X tg iter wi) (bo : BlkOk X.N X.env.scope scope own)
    (pg : ∀ (s : Shared) (H : Hp) (C : Addr) (cl : List (Str × Addr)) (fp : List Addr), PG (blkP X p s H scope (compEnvC scope cl C X.env) fp) tg g)
    (pt : ∀ (s : Shared) (H : Hp) (C : Addr) (cl : List (Str × Addr)) (fp : List Addr), PTs (blkP X p s H scope (compEnvC scope cl C X.env) fp) ifs tt)
    (pe : ∀ (s : Shared) (H : Hp) (C : Addr) (cl : List (Str × Addr)) (fp : List Addr), PE (blkP X p s H scope (compEnvC scope cl C X.env) fp) elt te)
    (fo : ∀ x, foldedSetIterable iter X.env x = pure x) : PS X (.Assign [.Name y py] (.ListComp elt [⟨tg, iter, ifs, 0⟩] scope pos) spos) (tAsg (tLc wi g tt te (own.map (·.2))) (gName i)) := by
  refine ⟨fun pins s σ H D I ask => ?_⟩
  rw [exec_Assign_Name_used _ _ _ _ sw]
  refine wpAny_bind (wpAny_standAt (wpAny_bind ?_))
  show wpAny _ X.A (do let _ ← comprehension (.ListComp elt [⟨tg, iter, ifs, 0⟩] scope pos) scope X.env (firstIterPos [⟨tg, iter, ifs, 0⟩] pos) (newList []) false (eval iter X.env) (some (assign (.Name y py) X.env))) _ _ s
  have ask : tLc wi g tt te (own.map (·.2)) σ H (fun x H1 => gName i x σ H1 D.nx) := ask
  refine wpAny_bind (thn (compHot (Qf := fun _ s' => SP X pins D .next s') hot hp nd I walk bo pg pt pe fo ask fun L C s' m H' J q hn f => ?_) fun _ s' hq => wpAny_pure (wpAny_pure hq))
  show wpAny _ _ (assign (.Name y py) X.env (.ref L)) _ _ _
  refine wpAny_assign_Name (store_ok2 (v := V.ref L) J nd hy (.inl hyl) rfl (fun s2 J2 ⟨a, sb, ha⟩ => ?_) (.inr hyl))
  have ne : C ≠ a := ha.elim (fun z => z ▸ f.2.1) fun z e => f.2.2.2.2.1 y a z e.symm
  exact ⟨m, hn.sameBut sb ne, fun h3 sb3 => ⟨_, H', J2.turned (t' := s2.toks) (fun b o hb e => (sb3.2 b hb).trans e) f.1 f.2.1 f.2.2.2.1 f.2.2.2.2.1 f.2.2.2.2.2, q⟩⟩
end
/-! ### isinstance, fields -/
structure ExcK (K : Frag) (C : Addr) : Prop where
  cl : (PySem.W.clsIn K C).isSome = true
  ga : PySem.W.findIn K (.ref C) "__getattribute__" = some (some (.builtin "BaseException.__getattribute__"))
  gg : PySem.W.findIn K (.ref C) "__getattr__" = some none
  ex : PySem.W.subIn K (.ref C) (.type "BaseException") = some true
  kc : PySem.W.findIn K (.ref C) "__class__" = some (some (.builtin "object.__class__"))
  kn : PySem.W.specialIn K (.builtin "object.__class__") "__get__" = some (some (.builtin "getset_descriptor.__get__"))
  kt : PySem.W.takesIn K (.builtin "object.__class__") = some true
  km : PySem.W.mroIn K C (.type "object") = some true
  hd : PySem.W.hasDictIn K C = true
/-- the caught exception p: of the class at C, its dict at dd -/
structure Caught (X : Cx) (p : Addr × Obj) (C dd : Addr) : Prop where
  hp : p ∈ X.pn
  hot : L2H.Hot1 X.A p
  zc : Zc (.ref C) (some dd) p.2
  k : ExcK X.K C
section
variable {X : Cx} {p : Addr × Obj} {C dd : Addr}
theorem Caught.inst (c : Caught X p C dd) {pins : List (Addr × Obj)} {σ : L2.St} {H : Hp} {s : Shared} (I : Inv X pins σ H s) {fs : List (Str × V)} (e : H dd = some (.xd fs)) :
    ∃ od, PySem.W.InstAt s.heap p.1 p.2 C (some od) ∧ ∀ (n : Str) (v : V), fs.lookup n = some v → ∃ u, PySem.W.lookIn n od = some (some u) ∧ L2.RelV v u := by
  obtain ⟨mA, hns, hr⟩ := (show ObjOk X.prog X.w H s.heap dd (.xd fs) from I.hok dd _ e)
  obtain ⟨od, ho, hl⟩ := lookIn_ns hns
  obtain ⟨_, vs, hv, _⟩ := c.hot
  refine ⟨od, ⟨(I.pin p (List.mem_append_left _ c.hp)).1, c.zc.1, by unfold PySem.W.notCls; rw [hv] <;> rfl, by rw [c.zc.2]; exact ho⟩, fun n v h => ?_⟩
  obtain ⟨u, hu, ru⟩ := RelO.some_of (v := v) (o := mA n) (by rw [← h]; exact hr n)
  exact ⟨u, by rw [hl, hu], ru⟩
/-- isinstance(e, c) -/
def rIsE (K : Frag) (C a dd : Addr) : List V → Hp → VK → Prop := fun xs H Q => ∃ (y : V) (u : Value) (b : Bool) (fs : List (Str × V)), xs = [.ref a, y] ∧ ClsV y u ∧ H dd = some (.xd fs) ∧ PySem.W.kitOne K (.ref C) u = some b ∧ Q (.bl b) H
theorem call_isE1 (c : Caught X p C dd) : CallR X (.builtin "isinstance") (rIsE X.K C p.1 dd) := by
  intro pins s σ H xs us Q I r h
  obtain ⟨y, u, b, fs, rfl, k, e, hk, q⟩ := h
  obtain ⟨u1, u2, rfl, r1, r2⟩ := vals2 r
  have e2 := k.eq r2
  subst e2
  cases (show u1 = Value.ref p.1 from r1)
  obtain ⟨od, J, _⟩ := c.inst I e
  exact PySem.W.kia_one (PySem.W.kitx_exc c.k.cl c.k.ga c.k.gg c.k.ex c.k.kc c.k.kn c.k.kt c.k.km) I.kIn J hk (fun z => nomatch z) fun tk => ⟨.bl b, H, I.tok tk, rfl, q⟩
def rIsET (K : Frag) (C a dd : Addr) : List V → Hp → VK → Prop := fun xs H Q => ∃ (tp : Addr) (cs : List V) (us : List Value) (b : Bool) (fs : List (Str × V)), xs = [.ref a, .ref tp] ∧ H tp = some (.tup cs) ∧ Paired ClsV cs us ∧ H dd = some (.xd fs) ∧ PySem.W.kitAny K (.ref C) us = some b ∧ Q (.bl b) H
theorem call_isE2 (c : Caught X p C dd) : CallR X (.builtin "isinstance") (rIsET X.K C p.1 dd) := by
  intro pins s σ H xs us Q I r h
  obtain ⟨tp, cs, ws, b, fs, rfl, ht, k, e, hk, q⟩ := h
  obtain ⟨u1, u2, rfl, r1, r2⟩ := vals2 r
  cases (show u1 = Value.ref p.1 from r1)
  cases (show u2 = Value.ref tp from r2)
  obtain ⟨od, J, _⟩ := c.inst I e
  obtain ⟨_, its, rv, o, h1, h2, n, h3⟩ := (show ObjOk X.prog X.w H s.heap tp (.tup cs) from I.hok tp _ ht)
  have e3 := ClsV.all k rv
  subst e3
  obtain ⟨oc, od2, dt, sl⟩ := o
  simp only at h2 h3
  subst h2 h3
  exact PySem.W.kia_tup (PySem.W.kitx_exc c.k.cl c.k.ga c.k.gg c.k.ex c.k.kc c.k.kn c.k.kt c.k.km) I.kIn J h1 hk (fun z => nomatch z) fun tk => ⟨.bl b, H, I.tok tk, rfl, q⟩
/-- e.n -/
def tFldE (a dd : Addr) (n : Str) (te : TE) : TE := fun σ H Q => te σ H fun x H1 => x = .ref a ∧ ∃ (fs : List (Str × V)) (v : V), H1 dd = some (.xd fs) ∧ fs.lookup n = some v ∧ Q v H1
theorem pe_fldE {e : Expr} {te : TE} {pos : Pos} {n : Str} (c : Caught X p C dd) (no : PySem.W.findIn X.K (.ref C) n = some none) (he : PE X e te) (hb : attributeBase e n X.env (eval e X.env) = eval e X.env := by rfl) : PE X (.Attribute e n pos) (tFldE p.1 dd n te) := by
  refine ⟨fun pins s σ H Q I h => ?_⟩
  refine attr_of hb (thn (he.run pins s σ H _ I h) fun u s1 ⟨x, H1, I1, rx, ex, fs, v, e, l, q⟩ => ?_)
  subst ex
  obtain rfl : u = Value.ref p.1 := rx
  obtain ⟨od, J, look⟩ := c.inst I1 e
  obtain ⟨w, hw, rw'⟩ := look n v l
  exact HandSPX.exc_get I1.kIn J c.k.ga c.k.gg c.k.ex (PySem.W.findObj_own c.k.hd no rfl hw) (handed_of rw') ⟨v, H1, I1.tok _, rw', q⟩

/-! ### their plain functions -/
def isEP (a dd : Addr) (b : Bool) (x : Val) (M : Mem) : R Val := match x with
  | .val (.exc a' dd' _ _) => if a' = a ∧ dd' = dd then .ok (.val (.bl b)) M else .bad
  | _ => .bad
def fldP (a dd : Addr) (n : Str) (x : Val) (M : Mem) : R Val := match x with
  | .val (.exc a' dd' f d) => if a' = a ∧ dd' = dd ∧ f = n then .ok (.val d) M else .bad
  | _ => .bad
variable {cx : Cls} {W : WX} {e : Expr} {te : TE} {f : FE} {q pos : Pos}
theorem e_isE {y : Str} {cv : V} {u : Value} {b : Bool} {q2 : Pos} {K : Frag} (c : Caught X p C dd) (hm : X.mg "isinstance" = none) (hy : PE X (.Name y q2) (tC cv)) (k : ClsV cv u) (hk : PySem.W.kitOne K (.ref C) u = some b) (h : RS.XE X cx W e te f) (hg : Gl X "isinstance" := by rfl)
    (he : starEach [e, .Name y q2] X.env = (false, eval e X.env) :: starEach [.Name y q2] X.env := by rfl) (hK : X.K = K := by rfl) : RS.XE X cx W (.Call (.Name "isinstance" q) [e, .Name y q2] [] pos) (tCB (rIsE K C p.1 dd) (tCons te (tCons (tC cv) tNil))) (op1 f (isEP p.1 dd b)) := by
  subst hK
  refine ⟨pe_callB (call_isE1 c) hg hm (by decide +kernel) (pa_cons h.p (pa_cons hy pa_nil) he) (he := he), fun H0 ρ σ S Q o so pp => ?_⟩
  refine h.s H0 ρ σ S _ o so (Post.bind (k := fun x M => isEP p.1 dd b x M) pp fun x S1 o1 s1 p1 v hv => ?_)
  unfold isEP at p1
  split at p1
  · rename_i a' dd' f' d'
    split at p1
    · rename_i hc
      obtain ⟨rfl, rfl⟩ := hc
      cases hv.1 with
      | exc hF r => exact ⟨cv, u, b, _, rfl, k, o1.ex _ _ hF, hk, p1 S1 rfl o1 (Step.refl S1) _ (VR.data (.bl _))⟩
    · exact p1.elim
  · exact p1.elim
theorem e_fldE {n : Str} (c : Caught X p C dd) (no : PySem.W.findIn X.K (.ref C) n = some none) (h : RS.XE X cx W e te f) (hb : attributeBase e n X.env (eval e X.env) = eval e X.env := by rfl) : RS.XE X cx W (.Attribute e n pos) (tFldE p.1 dd n te) (op1 f (fldP p.1 dd n)) := by
  refine ⟨pe_fldE c no h.p hb, fun H0 ρ σ S Q o so pp => ?_⟩
  refine h.s H0 ρ σ S _ o so (Post.bind (k := fun x M => fldP p.1 dd n x M) pp fun x S1 o1 s1 p1 v hv => ?_)
  unfold fldP at p1
  split at p1
  · rename_i a' dd' f' d'
    split at p1
    · rename_i hc
      obtain ⟨rfl, rfl, rfl⟩ := hc
      cases hv.1 with
      | exc hF r => exact ⟨rfl, _, _, o1.ex _ _ hF, by simp [List.lookup], p1 S1 rfl o1 (Step.refl S1) _ (VR.data r)⟩
    · exact p1.elim
  · exact p1.elim
theorem e_isET {es : List Expr} {kk : Nat} {tpos : Pos} {tA : TA} {cs : List V} {us : List Value} {b : Bool} {K : Frag} (c : Caught X p C dd) (hm : X.mg "isinstance" = none) (hA : PA X es tA) (htA : ∀ σ H (Q : List V → Hp → Prop), Q cs H → tA σ H Q) (hz : cs.length ≤ sizeLine) (k : Paired ClsV cs us)
    (hk : PySem.W.kitAny X.K (.ref C) us = some b) (h : RS.XE X cx W e te f) (ht : PE X (.Tuple es kk tpos) (tTup tA)) (hg : Gl X "isinstance" := by rfl)
    (he : starEach [e, .Tuple es kk tpos] X.env = (false, eval e X.env) :: starEach [.Tuple es kk tpos] X.env := by rfl) (hK : X.K = K := by rfl) :
    RS.XE X cx W (.Call (.Name "isinstance" q) [e, .Tuple es kk tpos] [] pos) (tCB (rIsET K C p.1 dd) (tCons te (tCons (tTup tA) tNil))) (op1 f (isEP p.1 dd b)) := by
  subst hK
  refine ⟨pe_callB (call_isE2 c) hg hm (by decide +kernel) (pa_cons h.p (pa_cons ht pa_nil) he) (he := he), fun H0 ρ σ S Q o so pp => ?_⟩
  refine h.s H0 ρ σ S _ o so (Post.bind (k := fun x M => isEP p.1 dd b x M) pp fun x S1 o1 s1 p1 v hv => ?_)
  unfold isEP at p1
  split at p1
  · rename_i a' dd' f' d'
    split at p1
    · rename_i hc
      obtain ⟨rfl, rfl⟩ := hc
      cases hv.1 with
      | exc hF r =>
        refine htA σ S1.H _ ⟨hz, fun tp htp => ?_⟩
        obtain ⟨o2, s2⟩ := o1.alloc (u := .tup cs) htp
        exact ⟨tp, cs, us, b, _, rfl, upd_same, k, o2.ex _ _ hF, hk, p1 { S1 with H := upd S1.H tp (.tup cs) } rfl o2 s2 _ (VR.data (.bl _))⟩
    · exact p1.elim
  · exact p1.elim
/-- what is not reached -/
theorem e_dead {e : Expr} : RS.XE X cx W e (fun _ _ _ => False) (fun _ _ => .bad) := ⟨⟨fun _ _ _ _ _ _ h => h.elim⟩, fun H0 ρ σ S Q o so pp => pp⟩
theorem b_dead {sts : List Stmt} : XB X cx W sts (fun _ _ _ => False) (fun _ _ => .bad) := ⟨⟨fun _ _ _ _ _ _ h => h.elim⟩, fun E0 T S ρ σ D iv hp => hp⟩
end

/-! ### the comprehension, with its plain function -/
section
variable {X : Cx} {cx : Cls} {W : WX} {p : Addr × Obj} {tg : Expr}
structure XIH (X : Cx) (cx : Cls) (W : WX) (tg iter : Expr) (wi : TI) (f : Sl → Mem → R (List D)) : Prop where
  p : L2H.PIH X tg iter wi
  s : SI X.K cx W wi f
theorem i_rng1H {a : Expr} {tA : TA} {fs : Sl → Mem → R (List D)} {q pos : Pos} (hm : X.mg "range" = none) (ha : XA X cx W [a] tA fs) (hg : Gl X "range" := by rfl) (hs : starEach [a] X.env = [(false, eval a X.env)] := by rfl) :
    XIH X cx W tg (.Call (.Name "range" q) [a] [] pos) (iRng1 tA) (rng1 fs) := ⟨L2H.pi_range1H hg hm ha.p hs, si_rng1 ha.s⟩
theorem s_ownH {i : Nat} {y : Str} {py : Pos} {elt iter : Expr} {ifs : List Expr} {scope : Scope} (own : List (Str × Nat)) {pos spos : Pos} {wi : TI} {g : TG} {tt : TT} {te : TE} {fi : Sl → Mem → R (List D)} {t : D → Sl → Option Sl} {is : List Nat} {fb : Sl → Mem → R Bool} {f : FE}
    (hot : L2H.Hot1 X.A p) (hp : p ∈ X.pn) (nd : X.N.Nodup) (hi : XIH X cx W tg iter wi fi)
    (hg : ∀ (s : Shared) (H : Hp) (C : Addr) (cl : List (Str × Addr)) (fp : List Addr), XG (blkP X p s H scope (compEnvC scope cl C X.env) fp) tg g t is)
    (ht : ∀ (s : Shared) (H : Hp) (C : Addr) (cl : List (Str × Addr)) (fp : List Addr), XTs (blkP X p s H scope (compEnvC scope cl C X.env) fp) cx W0 ifs tt fb)
    (he : ∀ (s : Shared) (H : Hp) (C : Addr) (cl : List (Str × Addr)) (fp : List Addr), RS.XE (blkP X p s H scope (compEnvC scope cl C X.env) fp) cx W0 elt te f)
    (ok : blkC X.N X.env.scope scope own = true := by kernel_rfl) (hs : is.all (fun i => (own.map (·.2)).contains i) = true := by rfl) (hy : X.N[i]? = some y := by rfl) (hyl : X.env.scope.names.lookup y = some .local := by rfl)
    (hsw : swapsWith (.ListComp elt [⟨tg, iter, ifs, 0⟩] scope pos) (some (.Name y py)) spos.line X.env = pure true := by exact sw_true rfl rfl rfl (by decide +kernel)) (fo : ∀ x, foldedSetIterable iter X.env x = pure x := by intro _; rfl) :
    XS X cx W (.Assign [.Name y py] (.ListComp elt [⟨tg, iter, ifs, 0⟩] scope pos) spos) (tAsg (tLc wi g tt te (own.map (·.2))) (gName i)) (ownF i (cmpE fi t fb (stE f) (own.map (·.2)))) :=
  ⟨ps_setHot hot hp nd hy hyl hsw hi.p (blkOk_by ok) (fun s H C cl fp => (hg s H C cl fp).p) (fun s H C cl fp => (ht s H C cl fp).p) (fun s H C cl fp => (he s H C cl fp).p) fo,
    ss_own i (se_comp hi.s (hg X.s_0 X.H_0 0 [] []).s (fun i hi => by
      have := List.all_eq_true.mp hs i hi
      simpa using this) (ht X.s_0 X.H_0 0 [] []).s (he X.s_0 X.H_0 0 [] []).s)⟩
end
end RS
set_option Elab.async false
set_option linter.all false
set_option maxRecDepth 100000
set_option maxHeartbeats 2000000
/-! # RS, part Z: a def called with the caught exception; try .. except .. as. -/
namespace RS
open PySem PySem.Spec PyProof.Rows L2
section
variable {P : Program} {w : World} {K : Frag} {mg : Str → Option Value} {base : Heap} {CX : CXT} {cx : Cls}
/-- what a def promises while p is handled, p of the kind Pp -/
structure FnP (P : Program) (w : World) (K : Frag) (mg : Str → Option Value) (base : Heap) (CX : CXT) (k : Nat) (f : Addr) (fd : FuncData) (ps : List Str) (Pp : Addr × Obj → Prop) (sp : Addr × Obj → Sp) : Prop where
  len : ∀ p vs H Q E, sp p vs H Q E → vs.length = ps.length
  run : ∀ (p : Addr × Obj), Pp p → ∀ (A : Around) (outer : List PySem.Env) (s : Shared) (H : Hp) (args : Args) (us : List Value) (vs : List V) (Q : VK) (E : XK), L2H.RoomH k A → L2H.Hot1 A p → L2H.PinOk outer H s p → Env0 P w K mg base A outer s H →
    BindsTo s fd args (ps.zip us) → Vals vs us → sp p vs H Q E → codeAny (model P w) A (.call (.ref f) args) (CR CX outer P w H s Q E) s
theorem fn_rsP {x qual : Str} {st : Stmt} {f : Addr} {fd : FuncData} {N ps : List Str} {k n : Nat} {Pp : Addr × Obj → Prop} {b : Addr × Obj → FS} (F : Fun K x qual st f fd) (S : FnScope N ps (defScope st)) (hn : N.length = n)
    (hbody : ∀ (p : Addr × Obj), Pp p → ∀ (cdv : Value) (A : Around) (outer : List PySem.Env) (s : Shared) (H : Hp) (E : XK), L2H.Hot1 A p → A.units + 100 < cLine →
      ∃ t, XB (L2H.cxH (L2N.CX P w) P w K mg base N qual (defScope st) f cdv A outer s H E p) cx (fun cls d _ H => E cls d H) (defBody st) t (b p)) :
    FnP P w K mg base (L2N.CX P w) (k + 1) f fd ps Pp (fun p => spOf K cx ps.length (fnD n (b p))) := by
  obtain ⟨oc, od, kV, doc, pm, an, cdv, ct, osl, rfl, lk, hcd⟩ := F.ex
  refine ⟨fun p vs H Q E h => h.1, fun p hPp A outer s H args us vs Q E hr hot pin e0 hb r sp => ?_⟩
  have bsub : ∀ z o, base.get? z = some o → s.heap.get? z = some o := fun z o e => (e0.bs z o e).1
  refine codeAny_call_function hr.depth (e0.mod.kin.keeps bsub _ _ lk) rfl S.co S.gen rfl (PySem.W.codeRec_of (e0.mod.kin.keeps bsub) hcd) (hb _ _ _ _ ?_)
  refine wpAny_newFunctionEnv_cells S.kind (fun ⟨y, u⟩ hy => (S.par y (List.of_mem_zip hy).1).elim .inl fun c => .inr ⟨c, PySem.W.cellsFrom_some _ _ _ (.inl c)⟩) fun env he s1 x => ?_
  subst he
  refine ⟨e0.mod.nolimit.keeps fun z o e => x.toInCall.keep z o (bsub z o e), codeAny_func ?_⟩
  obtain ⟨t, hx⟩ := hbody p hPp cdv A outer s H E hot (by have := hr.un; omega)
  have ask : t { nx := fun _ H' => Q .non H', rt := Q } (L2.start N vs) H := by
    obtain ⟨_, S0, ds, rfl, o, rr, pp⟩ := sp
    refine hx.s S0 S0 S0 _ _ _ ⟨o, Step.refl _, start_ok hn rr, Grow.refl _⟩ ?_
    unfold fnD at pp
    split at pp
    · rename_i v M' e
      rw [e]
      exact fun S' v e o s r => pp S' e o s v r
    · rename_i ρ M' e
      rw [e]
      exact fun S' σ' e i => pp S' e i.ok i.st .non (VR.data .non)
    · rename_i c d M' e
      rw [e]
      exact fun C f v dd S' σ' h1 h2 h3 h4 h5 h6 h7 => pp C f v dd S' h1 h2 h3 h4 h5 h6 h7
    · exact pp.elim
  have J := L2H.inv_startH (CX := L2N.CX P w) (E := E) S pin e0 sp.1 r x
  refine wpAny_mono (hx.p.run [] s1 (L2.start N vs) H _ J ask) (fun fl s' hs => ?_) fun _ _ hs => hs
  cases fl with
  | ret u => obtain ⟨v, σ', H', J', rv, q⟩ := hs; exact ⟨v, H', J'.os, J'.bare, J'.base, J'.hok, rv, q⟩
  | next => obtain ⟨σ', H', J', q⟩ := hs; exact ⟨V.non, H', J'.os, J'.bare, J'.base, J'.hok, rfl, q⟩
  | brk => obtain ⟨_, _, _, q⟩ := hs; exact False.elim q
  | cont => obtain ⟨_, _, _, q⟩ := hs; exact False.elim q
end
section
variable {X : Cx} {cx : Cls} {W : WX} {p : Addr × Obj}
theorem e_callP {K : Frag} {k n : Nat} {fa : Addr} {fd : FuncData} {ps : List Str} {Pp : Addr × Obj → Prop} {F : Addr × Obj → List RS.D → Mem → R Val} {x : Str} {q pos : Pos} {e : Expr} {es : List Expr} {tA : TA} {fs : Sl → Mem → R (List RS.D)}
    (G : FnP X.prog X.w K X.mg X.base (L2N.CX X.prog X.w) k fa fd ps Pp (fun p => spOf K cx n (F p))) (hP : Pp p) (hot : L2H.Hot1 X.A p) (hp : p ∈ X.pn) (hr : L2H.RoomH k X.A) (hm : X.mg x = some (.ref fa)) (hk : PySem.W.keepIn X.K (.ref fa) = true) (hb : Binds X.K fd ps [])
    (hx : ∀ σ, PassesAt (L2N.CX X.prog X.w) X σ (WE W σ)) (ha : XA X cx W (e :: es) tA fs) (hg : Gl X x := by rfl) (hdb : (x == ("__debug__" : Str)) = false := by decide) (he : starEach (e :: es) X.env = (false, eval e X.env) :: starEach es X.env := by rfl)
    (hpl : (backTo pos (starEach es X.env)).any (·.1) = false := by rfl) (hK : X.K = K := by rfl) : RS.XE X cx W (.Call (.Name x q) (e :: es) [] pos) (tCallS (spOf K cx n (F p)) (WE W) tA) (callE n (F p) fs) := by
  subst hK
  refine ⟨⟨fun pins s σ H Q I h => ?_⟩, se_call ha.s⟩
  refine wpAny_Call_Name_kw (ld_glob I hg hm ?_ hdb)
  refine PySem.W.callWith_K (h₀ := X.base) I.ok.mod.kin hk (thn (ha.p.run pos pins s σ H _ I h) fun us s1 ⟨vs, H1, J, r, q⟩ => ⟨J.kIn, ?_⟩) he hpl
  have at_ := J.pin p (List.mem_append_left _ hp)
  have lens : us.length = ps.length := by rw [← r.length]; exact G.len _ _ _ _ _ q
  have bd := hb s1 us J.kIn (by rw [List.append_nil]; exact lens)
  rw [List.append_nil] at bd
  refine wpAny_call (codeAny_mono (G.run p hP X.A X.stack s1 H1 ⟨us, []⟩ us vs Q (WE W σ) hr hot ⟨at_.1, at_.2.1, fun hm => ?_, at_.2.2.2.2⟩ J.env0 bd r q) fun rr s' hq => ?_)
  · rcases List.mem_cons.mp (J.stkSub p.1 hm) with z | z
    · exact at_.2.2.1 z
    · exact at_.2.2.2.1 z
  · cases rr with
    | error er => exact hx σ pins H1 s1 er s' J hq
    | ok fl =>
      cases fl with
      | ret u => exact J.after hq
      | next => exact False.elim hq
      | brk => exact False.elim hq
      | cont => exact False.elim hq
end
end RS
set_option Elab.async false
set_option linter.all false
set_option maxRecDepth 100000
set_option maxHeartbeats 2000000
/-! # RS, part T: try: body, except x as n: a suite that returns. -/
namespace RS
open PySem PySem.Spec PyProof.Rows L2
def lenW (n : Nat) (W : WX) : WX := fun cls d σ H => σ.length = n → W cls d σ H
theorem takes_len {X : Cx} {W : WX} (tk : L2N.Takes X W) : L2N.Takes X (lenW X.N.length W) := fun u s' h => by
  obtain ⟨a, B, sI, pins, σ, H, cls, d, e, I, nb, up, sky, na, os, ag, w⟩ := h
  exact tk u s' ⟨a, B, sI, pins, σ, H, cls, d, e, I, nb, up, sky, na, os, ag, w I.len⟩
def tryF (bf : FS) (sf : Nat → RS.D → RS.D) : FS := fun ρ M => match bf ρ M with
  | .exn c d M' => .ok (.ret (.val (sf c d))) M'
  | r => r
def tsOf (cx : Cls) (tsx : Nat → Addr → Addr → TS) : Addr → Value → Option Addr → TS := fun a cls d D σ H => ∃ c C f dd, cls = .ref C ∧ d = some dd ∧ cx c = some (C, f) ∧ tsx c a dd D σ H
/-- the dict of what is caught becomes known data -/
theorem Ok.catch {K : Frag} {S E0 : S4} (o : Ok K S) (st : Step E0 S) {dd : Addr} {f : Str} {v : V} (h : S.H dd = some (.xd [(f, v)])) (h0 : E0.H dd = none) :
    ∃ F', Ok K { S with F := F' } ∧ Step E0 { S with F := F' } ∧ F' dd = some (.xd [(f, v)]) ∧ Evl.Ex S.F F' := by
  have at_ : ∀ b u, (upd S.F dd (.xd [(f, v)])) b = some u → (b = dd ∧ u = .xd [(f, v)]) ∨ (b ≠ dd ∧ S.F b = some u) := fun b u e => by
    by_cases hb : b = dd
    · subst hb; rw [upd_same] at e; cases e; exact .inl ⟨rfl, rfl⟩
    · rw [upd_ne hb] at e; exact .inr ⟨hb, e⟩
  have x : Evl.Ex S.F (upd S.F dd (.xd [(f, v)])) := fun b u e => by
    by_cases hb : b = dd
    · subst hb
      have e' := o.ex b u e
      rw [h] at e'; cases e'
      exact upd_same
    · rw [upd_ne hb]; exact e
  refine ⟨upd S.F dd (.xd [(f, v)]), ⟨fun b u e => ?_, o.len, o.nd, fun k l q => ?_, o.old⟩, ⟨st.exF.trans x, st.pre, st.keep, fun b u e => ?_, st.newB, st.live, st.there⟩, upd_same, x⟩
  · rcases at_ b u e with ⟨rfl, rfl⟩ | ⟨_, e⟩
    · exact h
    · exact o.ex b u e
  · obtain ⟨a, vs, q1, q2, q3, q4⟩ := o.cell k l q
    refine ⟨a, vs, q1, q2, ⟨q3.1.mono x (List.prefix_refl _), q3.2⟩, ?_⟩
    have ne : a ≠ dd := fun z => by rw [z, h] at q2; cases q2
    show upd S.F dd _ a = none
    rw [upd_ne ne]; exact q4
  · rcases at_ b u e with ⟨rfl, rfl⟩ | ⟨_, e⟩
    · exact .inr (.inl h0)
    · exact st.newF b u e
theorem slots_none (K : Frag) (H0 : Hp) (S : S4) {n : Nat} {σ : L2.St} (h : σ.length = n) : SlOk K H0 S (List.replicate n Slot.none) σ := by
  have no : ∀ (i : Nat) (u : Slot), u ≠ .none → (List.replicate n Slot.none)[i]? = some u → False := fun i u hu q => by
    rw [List.getElem?_replicate] at q
    split at q
    · cases q; exact hu rfl
    · cases q
  exact ⟨by rw [List.length_replicate, h], fun i d q => (no i (.val d) (fun z => nomatch z) q).elim, fun i l q => (no i (.own l) (fun z => nomatch z) q).elim, fun i j l m a q => (no i (.own l) (fun z => nomatch z) q).elim⟩
theorem ss_try {K : Frag} {cx : Cls} {W : WX} {n i : Nat} {cex : Value} {tb : WX → TS} {bf : FS} {tsx : Nat → Addr → Addr → TS} {g : Nat → Addr → Addr → FS} {sf : Nat → RS.D → RS.D}
    (hb : ∀ W', SS K cx (lenW n W') (tb W') bf) (hx : ∀ c C f, cx c = some (C, f) → PySem.W.exmOne K (.ref C) cex = some true) (hs : ∀ c a dd, SS K cx W0 (tsx c a dd) (g c a dd))
    (hv : ∀ c C f a dd d M, cx c = some (C, f) → g c a dd ((List.replicate n Slot.none).set i (.val (.exc a dd f d))) M = .ok (.ret (.val (sf c d))) M) :
    SS K cx W (fun D σ H => tb (wAs K cex i (tsOf cx tsx) W D) D σ H) (tryF bf sf) := by
  intro E0 T S ρ σ D iv hp
  refine hb _ E0 T S ρ σ D iv ?_
  unfold tryF at hp
  cases e : bf ρ S.M with
  | bad => rw [e] at hp; exact hp.elim
  | ok fl M' =>
    rw [e] at hp
    cases fl <;> exact hp
  | exn c d M' =>
    rw [e] at hp
    intro C f v dd S' σ' h1 h2 h3 h4 h5 h6 h7 hlen
    refine ⟨true, hx c C f h1, fun _ a ha => ⟨c, C, f, dd, rfl, rfl, h1, ?_⟩, fun z => nomatch z⟩
    obtain ⟨F', o', st', hF, x⟩ := h3.catch h4 h5 h7
    have r : Rep K F' S'.β (.ref a) (.exc a dd f d) := .exc hF (h6.mono x (List.prefix_refl _))
    refine hs c a dd E0 { S' with F := F' } { S' with F := F' } _ (σ'.set i (some (.ref a))) _ ⟨o', st', (slots_none K E0.H { S' with F := F' } hlen).setVal r i, Grow.refl _⟩ ?_
    show PostS K cx W0 E0 _ _ (g c a dd _ S'.M)
    rw [hv c C f a dd d S'.M h1, h2]
    exact hp
theorem x_try {X : Cx} {cx : Cls} {W : WX} {x nm : Str} {cex : Value} {i : Nat} {body suite : List Stmt} {b₀ : Stmt} {np pos pos' : Pos} {tb : WX → TS} {bf : FS} {tsx : Nat → Addr → Addr → TS} {g : Nat → Addr → Addr → FS} {sf : Nat → RS.D → RS.D}
    (hs : X.stack = X.env :: X.outer) (hf : X.env.frame = some X.env.locals) (hN : X.N.Nodup) (hi : X.N[i]? = some nm) (hln : X.env.kindOf nm = some .local) (hc : Names X x cex) (tk : L2N.Takes X W)
    (hbp : ∀ (W' : WX) (pn : List (Addr × Obj)) (xe : Value → Shared → Prop), L2N.Takes (X.tr pn xe) W' → PassesOwn (model X.prog X.w) X.A X.env xe → PSs (X.tr pn xe) body (tb W'))
    (hsp : ∀ (c : Nat) (C : Addr) (f : Str), cx c = some (C, f) → ∀ (a : Addr) (oe : Obj) (dd : Addr) (pn : List (Addr × Obj)), L2N.Zn (.ref C) (some dd) oe → (∃ vs, oe.data = .fields vs) → PSs (X.suite a ((a, oe) :: pn)) (b₀ :: suite) (tsx c a dd))
    (sb : SS X.K cx W (fun D σ H => tb (wAs X.K cex i (tsOf cx tsx) W D) D σ H) (tryF bf sf)) :
    XS X cx W (.Try body [.ExceptHandler (some (.Name x np)) (some nm) (b₀ :: suite) pos'] [] [] pos) (fun D σ H => tb (wAs X.K cex i (tsOf cx tsx) W D) D σ H) (tryF bf sf) :=
  ⟨L2N.ps_try_as hs hf hN hi hln hc tk hbp fun a oe cls d pn hz hfl => ⟨fun pins s σ H D I h => by
    obtain ⟨c, C, f, dd, rfl, rfl, h1, q⟩ := h
    exact (hsp c C f h1 a oe dd pn hz hfl).run pins s σ H D I q⟩, sb⟩
end RS
set_option Elab.async false
set_option linter.all false
set_option maxRecDepth 100000
set_option maxHeartbeats 2000000
/-! law_k58, plain: what the texts are, a reader of word lists, a writer; reading what is written, writing what is read. No program in it. -/
namespace K58
open PySem RS
abbrev W := List Nat
def sl (s : Str) : W := s.cps.toList
def letters : List Nat := sl "abcdefghijklmnopqrstuvwxyz"
def digits : List Nat := sl "0123456789"
def isName (w : W) : Bool := decide (1 ≤ w.length) && decide (w.length ≤ 8) && (match w with | c :: _ => decide (c ∈ letters) | [] => false) && w.all fun c => decide (c ∈ letters) || decide (c ∈ digits)
def goodNum (w : W) : Bool := decide (1 ≤ w.length) && decide (w.length ≤ 10) && w.all (fun c => decide (c ∈ digits)) && !(decide (w.head? = some 48) && decide (1 < w.length))
def num? (w : W) : Option Nat := if goodNum w = true then some (NumText.digitsVal w) else none
def nums? : List W → Option (List Nat)
  | [] => some []
  | w :: ws => match num? w, nums? ws with | some n, some ns => some (n :: ns) | _, _ => none

inductive CondK where
  | group (x : W) | feature (x : W) | share (x : W) (a b : Nat) | days (a b : Nat)
structure Cond where
  k : CondK
  yes : Bool
inductive Row where
  | void | shown (ns : List Nat) | split (c : Cond)
structure Vis where
  n : Nat
  gs : List W
  day : Nat
inductive Why where
  | ban (i : Nat) | loss (x : W)
structure Reason where
  why : Why
  v : Vis
inductive Answer where
  | course (moves : List W) (trees : List (List Row))
  | enclosure (blocks : List (List W × List (W × Reason)))
  | spoiled (r : Reason)

/-! ### reading -/
def pos? (ws : List W) : Option CondK := match ws with
  | [a, x] => if a = sl "group" ∧ isName x = true then some (.group x) else if a = sl "feature" ∧ isName x = true then some (.feature x) else none
  | [a, p, q] => if a = sl "days" then (match num? p, num? q with | some p, some q => some (.days p q) | _, _ => none) else none
  | [a, x, p, q] => if a = sl "share" ∧ isName x = true then (match num? p, num? q with | some p, some q => some (.share x p q) | _, _ => none) else none
  | _ => none
def cond? (ws : List W) : Option Cond := match ws with
  | [] => none
  | w :: r => if w = sl "not" then (pos? r).map (⟨·, false⟩) else (pos? (w :: r)).map (⟨·, true⟩)
def isFeature : CondK → Bool
  | .feature _ => true
  | _ => false
def gcond? (ws : List W) : Option Cond := (cond? ws).filter fun c => !isFeature c.k
def row? (ws : List W) : Option Row := match ws with
  | [] => none
  | w :: r => if w = sl "void" ∧ r = [] then some .void else if w = sl "shown" then (nums? r).map .shown else if w = sl "split" then (gcond? r).map .split else none
def vis? (ws : List W) : Option Vis := match ws with
  | a :: b :: gs => if gs.all isName = true then (match num? a, num? b with | some a, some b => some ⟨a, gs, b⟩ | _, _ => none) else none
  | _ => none
def reason? (ws : List W) : Option Reason := match ws with
  | a :: x :: r => if a = sl "ban" then (match num? x, vis? r with | some n, some v => some ⟨.ban n, v⟩ | _, _ => none)
      else if a = sl "loss" then (if isName x = true then (vis? r).map (⟨.loss x, ·⟩) else none) else none
  | _ => none
/-- a course behind its first line: the moves so far, the trees so far (state, move, state, ..) -/
abbrev CS := List W × List (List Row)
def addLast {α : Type} : List (List α) → α → List (List α)
  | [], _ => []
  | [l], x => [l ++ [x]]
  | l :: m :: r, x => l :: addLast (m :: r) x
def cstep (ws : List W) (s : CS) : Option CS :=
  if ws = [sl "state"] ∧ s.2.length % 2 = 0 then some (s.1, s.2 ++ [[]])
  else match ws with
    | [a, x] => if a = sl "move" ∧ s.2.length % 2 = 1 then (if isName x = true then some (s.1 ++ [x], s.2 ++ [[]]) else none)
      else (match row? ws with | some r => if s.2 = [] then none else some (s.1, addLast s.2 r) | none => none)
    | _ => (match row? ws with | some r => if s.2 = [] then none else some (s.1, addLast s.2 r) | none => none)
abbrev Block := List W × List (W × Reason)
def addBlock : List Block → W × Reason → List Block
  | [], _ => []
  | [b], x => [(b.1, b.2 ++ [x])]
  | b :: c :: r, x => b :: addBlock (c :: r) x
def estep (ws : List W) (s : List Block) : Option (List Block) := match ws with
  | [] => none
  | w :: r => if w = sl "at" ∧ r.all isName = true then some (s ++ [(r, [])])
    else match r with
      | x :: r' => if w = sl "exit" ∧ s ≠ [] ∧ isName x = true then (match reason? r' with | some q => some (addBlock s (x, q)) | none => none) else none
      | [] => none
/-- from the item at place i on; the number of a bad line -/
def foldL {σ : Type} (step : List W → σ → Option σ) : Nat → List (List W) → σ → Except Nat σ
  | _, [], s => .ok s
  | i, ws :: l, s => match step ws s with | some s' => foldL step (i + 1) l s' | none => .error (i + 1)
inductive Err where
  | line (n : Nat) | many
def readA (ls : List (List W)) : Except Err Answer :=
  if 20000 < ls.length then .error .many
  else match ls with
    | [] => .error (.line 1)
    | l :: r => if l = [sl "course"] then (match foldL cstep 1 r ([], []) with
          | .error n => .error (.line n)
          | .ok s => if s.2.length % 2 = 1 then .ok (.course s.1 s.2) else .error (.line (ls.length + 1)))
      else if l = [sl "enclosure"] then (match foldL estep 1 r [] with | .error n => .error (.line n) | .ok s => .ok (.enclosure s))
      else match l with
        | w :: q => (match reason? q with
            | some ⟨.ban i, v⟩ => if w = sl "spoiled" then (if r = [] then .ok (.spoiled ⟨.ban i, v⟩) else .error (.line 2)) else .error (.line 1)
            | _ => .error (.line 1))
        | [] => .error (.line 1)
end K58
set_option Elab.async false
set_option linter.all false
set_option maxRecDepth 100000
set_option maxHeartbeats 2000000
/-! law_k58, plain mathematics: what is read writes itself, what is written reads itself. -/
namespace K58
open PySem RS

/-! ### numbers -/
theorem digits_is : digits = [48, 49, 50, 51, 52, 53, 54, 55, 56, 57] := by decide +kernel
theorem mem_digits {c : Nat} : c ∈ digits ↔ 48 ≤ c ∧ c ≤ 57 := by
  rw [digits_is]
  simp only [List.mem_cons, List.not_mem_nil, or_false]
  omega
def numW (n : Nat) : W := TL.numL n
theorem goodNum_digits {w : W} (h : goodNum w = true) : NumText.AllDigits w := by
  unfold goodNum at h
  simp only [Bool.and_eq_true, List.all_eq_true, decide_eq_true_eq] at h
  exact fun c hc => mem_digits.mp (h.1.2 c hc)
theorem numW_back {w : W} (h : goodNum w = true) : numW (NumText.digitsVal w) = w := by
  have hd := goodNum_digits h
  unfold goodNum at h
  simp only [Bool.and_eq_true, decide_eq_true_eq] at h
  obtain ⟨⟨⟨h1, h2⟩, _⟩, h4⟩ := h
  unfold numW TL.numL
  cases w with
  | nil => simp at h1
  | cons c r =>
    have key : Nat.toDigits 10 (NumText.digitsVal (c :: r)) = (c :: r).map Char.ofNat := by
      refine NumText.toDigits_digitsVal r.length (c :: r) rfl hd ?_
      cases r with
      | nil => exact .inl rfl
      | cons d r =>
        refine .inr ⟨c, d :: r, rfl, ?_⟩
        have := hd c List.mem_cons_self
        have hc : c ≠ 48 := fun e => by
          subst e
          simp at h4
        omega
    rw [key, List.map_map]
    conv => rhs; rw [← List.map_id (c :: r)]
    refine List.map_congr_left fun d hd' => ?_
    have := hd d hd'
    exact (show ∀ d : Nat, d < 58 → (Char.ofNat d).toNat = d by decide) d (by omega)
theorem numL_head : ∀ (n : Nat), 1 ≤ n → (TL.numL n).head? ≠ some 48 := fun n => by
  induction n using Nat.strongRecOn with
  | _ n ih =>
    intro h1
    by_cases h : n < 10
    · rw [TL.numL_lt h]
      simp
      omega
    · rw [TL.numL_step (by omega)]
      have := ih (n / 10) (by omega) (by omega)
      cases e : TL.numL (n / 10) with
      | nil => exact absurd e (TL.numL_ne _)
      | cons a b => rw [e] at this; simpa using this
theorem digitsVal_lt : ∀ (cs : List Nat) (a : Nat), NumText.AllDigits cs → cs.foldl (fun acc c => acc * 10 + (c - 48)) a < (a + 1) * 10 ^ cs.length
  | [], a, _ => by simp
  | c :: cs, a, h => by
    have hc := h c List.mem_cons_self
    have ih := digitsVal_lt cs (a * 10 + (c - 48)) (fun d hd => h d (List.mem_cons_of_mem _ hd))
    rw [List.foldl_cons, List.length_cons, Nat.pow_succ]
    refine Nat.lt_of_lt_of_le ih ?_
    have : a * 10 + (c - 48) + 1 ≤ (a + 1) * 10 := by omega
    calc (a * 10 + (c - 48) + 1) * 10 ^ cs.length ≤ ((a + 1) * 10) * 10 ^ cs.length := Nat.mul_le_mul_right _ this
      _ = (a + 1) * (10 ^ cs.length * 10) := by rw [Nat.mul_assoc, Nat.mul_comm 10]
theorem numW_good {n : Nat} (h : n < 10 ^ 10) : goodNum (numW n) = true := by
  have hd := TL.numL_digits n
  have hl := TL.numL_len (n := n) (k := 10) (by decide) h
  have hne := TL.numL_ne n
  unfold goodNum numW
  simp only [Bool.and_eq_true, decide_eq_true_eq, List.all_eq_true]
  refine ⟨⟨⟨?_, hl⟩, fun c hc => mem_digits.mpr (hd c hc)⟩, ?_⟩
  · cases e : TL.numL n with
    | nil => exact absurd e hne
    | cons a b => simp
  · rw [Bool.not_eq_true', Bool.and_eq_false_iff, decide_eq_false_iff_not, decide_eq_false_iff_not]
    by_cases h0 : n = 0
    · subst h0; exact .inr (by decide)
    · exact .inl (numL_head n (by omega))
theorem num_numW {n : Nat} (h : n < 10 ^ 10) : num? (numW n) = some n := by
  unfold num?
  rw [if_pos (numW_good h)]
  show some (NumText.digitsVal (TL.numL n)) = _
  rw [TL.numL_val]
theorem num_some {w : W} {n : Nat} (h : num? w = some n) : numW n = w ∧ n < 10 ^ 10 := by
  unfold num? at h
  split at h
  · rename_i hg
    cases h
    refine ⟨numW_back hg, ?_⟩
    have := digitsVal_lt w 0 (goodNum_digits hg)
    unfold goodNum at hg
    simp only [Bool.and_eq_true, decide_eq_true_eq] at hg
    refine Nat.lt_of_lt_of_le this ?_
    rw [Nat.zero_add, Nat.one_mul]
    exact Nat.pow_le_pow_right (by decide) hg.1.1.2
  · cases h

theorem nums_some : ∀ {ws : List W} {ns : List Nat}, nums? ws = some ns → ns.map numW = ws ∧ ∀ n ∈ ns, n < 10 ^ 10
  | [], _, h => by cases h; exact ⟨rfl, fun n hn => nomatch hn⟩
  | w :: ws, ns, h => by
    unfold nums? at h
    split at h
    · rename_i n ms h1 h2
      cases h
      obtain ⟨a1, a2⟩ := num_some h1
      obtain ⟨b1, b2⟩ := nums_some h2
      exact ⟨by rw [List.map_cons, a1, b1], fun x hx => (List.mem_cons.mp hx).elim (fun e => e ▸ a2) (b2 x)⟩
    · cases h
theorem nums_numW : ∀ {ns : List Nat}, (∀ n ∈ ns, n < 10 ^ 10) → nums? (ns.map numW) = some ns
  | [], _ => rfl
  | n :: ns, h => by
    rw [List.map_cons]
    unfold nums?
    rw [num_numW (h n List.mem_cons_self), nums_numW fun x hx => h x (List.mem_cons_of_mem _ hx)]

/-! ### conditions, rows -/
def posW : CondK → List W
  | .group x => [sl "group", x] | .feature x => [sl "feature", x] | .share x a b => [sl "share", x, numW a, numW b] | .days a b => [sl "days", numW a, numW b]
def posOk : CondK → Prop
  | .group x => isName x = true | .feature x => isName x = true | .share x a b => isName x = true ∧ a < 10 ^ 10 ∧ b < 10 ^ 10 | .days a b => a < 10 ^ 10 ∧ b < 10 ^ 10
theorem pos_some {ws : List W} {k : CondK} (h : pos? ws = some k) : posW k = ws ∧ posOk k := by
  unfold pos? at h
  split at h
  · split at h
    · rename_i hc; cases h; exact ⟨by rw [hc.1]; rfl, hc.2⟩
    · split at h
      · rename_i hc; cases h; exact ⟨by rw [hc.1]; rfl, hc.2⟩
      · cases h
  · split at h
    · rename_i hc
      split at h
      · rename_i p q h1 h2
        cases h
        obtain ⟨a1, a2⟩ := num_some h1
        obtain ⟨b1, b2⟩ := num_some h2
        exact ⟨by show [_, _, _] = _; rw [a1, b1, hc], a2, b2⟩
      · cases h
    · cases h
  · split at h
    · rename_i hc
      split at h
      · rename_i p q h1 h2
        cases h
        obtain ⟨a1, a2⟩ := num_some h1
        obtain ⟨b1, b2⟩ := num_some h2
        exact ⟨by show [_, _, _, _] = _; rw [a1, b1, hc.1], hc.2, a2, b2⟩
      · cases h
    · cases h
  · cases h
theorem n_fg : sl "feature" ≠ sl "group" := by decide +kernel
theorem n_sv : sl "shown" ≠ sl "void" := by decide +kernel
theorem n_pv : sl "split" ≠ sl "void" := by decide +kernel
theorem n_ps : sl "split" ≠ sl "shown" := by decide +kernel
theorem n_lb : sl "loss" ≠ sl "ban" := by decide +kernel
theorem pos_posW {k : CondK} (h : posOk k) : pos? (posW k) = some k := by
  cases k with
  | group x => simp only [posOk] at h; simp [pos?, posW, h]
  | feature x => simp only [posOk] at h; simp [pos?, posW, h, n_fg]
  | share x a b => simp only [posOk] at h; simp [pos?, posW, h, num_numW h.2.1, num_numW h.2.2]
  | days a b => simp only [posOk] at h; simp [pos?, posW, num_numW h.1, num_numW h.2]
def condW (c : Cond) : List W := (if c.yes = true then [] else [sl "not"]) ++ posW c.k
theorem posW_head (k : CondK) : ∃ a r, posW k = a :: r ∧ a ≠ sl "not" := by
  cases k with
  | group x => exact ⟨_, _, rfl, by decide +kernel⟩
  | feature x => exact ⟨_, _, rfl, by decide +kernel⟩
  | share x a b => exact ⟨_, _, rfl, by decide +kernel⟩
  | days a b => exact ⟨_, _, rfl, by decide +kernel⟩
theorem cond_some {ws : List W} {c : Cond} (h : cond? ws = some c) : condW c = ws ∧ posOk c.k := by
  unfold cond? at h
  split at h
  · cases h
  · rename_i w r
    split at h
    · rename_i hw
      cases e : pos? r with
      | none => rw [e] at h; cases h
      | some k =>
        rw [e] at h; cases h
        obtain ⟨a1, a2⟩ := pos_some e
        exact ⟨by show [sl "not"] ++ posW k = _; rw [a1, hw]; rfl, a2⟩
    · cases e : pos? (w :: r) with
      | none => rw [e] at h; cases h
      | some k =>
        rw [e] at h; cases h
        obtain ⟨a1, a2⟩ := pos_some e
        exact ⟨by show [] ++ posW k = _; rw [a1]; rfl, a2⟩
theorem cond_condW {c : Cond} (h : posOk c.k) : cond? (condW c) = some c := by
  obtain ⟨k, y⟩ := c
  cases y with
  | true =>
    obtain ⟨a, r, e, n⟩ := posW_head k
    show cond? (posW k) = _
    have := pos_posW h
    rw [e] at this ⊢
    unfold cond?
    simp only [if_neg n]
    rw [this]; rfl
  | false =>
    show cond? (sl "not" :: posW k) = _
    unfold cond?
    simp only [if_true]
    rw [pos_posW h]; rfl
def condOk (c : Cond) : Prop := posOk c.k ∧ isFeature c.k = false
theorem gcond_some {ws : List W} {c : Cond} (h : gcond? ws = some c) : condW c = ws ∧ condOk c := by
  unfold gcond? at h
  obtain ⟨h1, h2⟩ := Option.filter_eq_some_iff.mp h
  obtain ⟨a1, a2⟩ := cond_some h1
  exact ⟨a1, a2, by simpa using h2⟩
theorem gcond_condW {c : Cond} (h : condOk c) : gcond? (condW c) = some c := by
  unfold gcond?
  rw [cond_condW h.1]
  exact Option.filter_eq_some_iff.mpr ⟨rfl, by simpa using h.2⟩
def rowW : Row → List W
  | .void => [sl "void"] | .shown ns => sl "shown" :: ns.map numW | .split c => sl "split" :: condW c
def rowOk : Row → Prop
  | .void => True | .shown ns => ∀ n ∈ ns, n < 10 ^ 10 | .split c => condOk c
theorem row_some {ws : List W} {r : Row} (h : row? ws = some r) : rowW r = ws ∧ rowOk r := by
  unfold row? at h
  split at h
  · cases h
  · rename_i w q
    split at h
    · rename_i hc; cases h; exact ⟨by rw [hc.1, hc.2]; rfl, trivial⟩
    · split at h
      · rename_i hw
        cases e : nums? q with
        | none => rw [e] at h; cases h
        | some ns =>
          rw [e] at h; cases h
          obtain ⟨a1, a2⟩ := nums_some e
          exact ⟨by show sl "shown" :: _ = _; rw [a1, hw], a2⟩
      · split at h
        · rename_i hw
          cases e : gcond? q with
          | none => rw [e] at h; cases h
          | some c =>
            rw [e] at h; cases h
            obtain ⟨a1, a2⟩ := gcond_some e
            exact ⟨by show sl "split" :: _ = _; rw [a1, hw], a2⟩
        · cases h
theorem row_rowW {r : Row} (h : rowOk r) : row? (rowW r) = some r := by
  cases r with
  | void => simp [row?, rowW]
  | shown ns => simp only [rowOk] at h; simp [row?, rowW, n_sv, nums_numW h]
  | split c => simp only [rowOk] at h; simp [row?, rowW, n_pv, n_ps, gcond_condW h]
theorem rowW_head (r : Row) : ∃ a q, rowW r = a :: q ∧ (a = sl "void" ∨ a = sl "shown" ∨ a = sl "split") := by
  cases r with
  | void => exact ⟨_, _, rfl, .inl rfl⟩
  | shown ns => exact ⟨_, _, rfl, .inr (.inl rfl)⟩
  | split c => exact ⟨_, _, rfl, .inr (.inr rfl)⟩

/-! ### visitors, reasons -/
def visW (v : Vis) : List W := numW v.n :: numW v.day :: v.gs
def visOk (v : Vis) : Prop := v.n < 10 ^ 10 ∧ v.day < 10 ^ 10 ∧ v.gs.all isName = true
theorem vis_some {ws : List W} {v : Vis} (h : vis? ws = some v) : visW v = ws ∧ visOk v := by
  unfold vis? at h
  split at h
  · split at h
    · rename_i hg
      split at h
      · rename_i p q h1 h2
        cases h
        obtain ⟨a1, a2⟩ := num_some h1
        obtain ⟨b1, b2⟩ := num_some h2
        exact ⟨by show numW p :: numW q :: _ = _; rw [a1, b1], a2, b2, hg⟩
      · cases h
    · cases h
  · cases h
theorem vis_visW {v : Vis} (h : visOk v) : vis? (visW v) = some v := by
  show (if _ then _ else _) = _
  rw [if_pos h.2.2, num_numW h.1, num_numW h.2.1]
def reasonW (q : Reason) : List W := (match q.why with | .ban i => [sl "ban", numW i] | .loss x => [sl "loss", x]) ++ visW q.v
def reasonOk (q : Reason) : Prop := (match q.why with | .ban i => i < 10 ^ 10 | .loss x => isName x = true) ∧ visOk q.v
theorem reason_some {ws : List W} {q : Reason} (h : reason? ws = some q) : reasonW q = ws ∧ reasonOk q := by
  unfold reason? at h
  split at h
  · split at h
    · rename_i hw
      split at h
      · rename_i n v h1 h2
        cases h
        obtain ⟨a1, a2⟩ := num_some h1
        obtain ⟨b1, b2⟩ := vis_some h2
        exact ⟨by show sl "ban" :: numW n :: visW v = _; rw [a1, b1, hw], a2, b2⟩
      · cases h
    · split at h
      · rename_i hw
        split at h
        · rename_i hn
          rename_i a x r _
          cases e : vis? r with
          | none => rw [e] at h; cases h
          | some v =>
            rw [e] at h; cases h
            obtain ⟨b1, b2⟩ := vis_some e
            exact ⟨by show sl "loss" :: x :: visW v = _; rw [b1, hw], hn, b2⟩
        · cases h
      · cases h
  · cases h
theorem reason_reasonW {q : Reason} (h : reasonOk q) : reason? (reasonW q) = some q := by
  obtain ⟨y, v⟩ := q
  cases y with
  | ban i => simp only [reasonOk] at h; simp [reason?, reasonW, num_numW h.1, vis_visW h.2]
  | loss x => simp only [reasonOk] at h; simp [reason?, reasonW, n_lb, h.1, vis_visW h.2]
end K58
set_option Elab.async false
set_option linter.all false
set_option maxRecDepth 100000
set_option maxHeartbeats 2000000
/-! law_k58, plain mathematics: whole answers. -/
namespace K58
open PySem RS
/-! ### a course: its trees, its lines -/
/-- the lines of the trees from the k-th on -/
def treesW : Nat → List W → List (List Row) → List (List W)
  | _, _, [] => []
  | k, ms, t :: ts => if k % 2 = 0 then [sl "state"] :: (t.map rowW ++ treesW (k + 1) ms ts)
    else match ms with
      | m :: ms => [sl "move", m] :: (t.map rowW ++ treesW (k + 1) ms ts)
      | [] => []
def courseOk (ms : List W) (ts : List (List Row)) : Prop := ms.length = ts.length / 2 ∧ (∀ m ∈ ms, isName m = true) ∧ ∀ t ∈ ts, ∀ r ∈ t, rowOk r
theorem addLast_append {α : Type} (l : List (List α)) (t : List α) (x : α) : addLast (l ++ [t]) x = l ++ [t ++ [x]] := by
  induction l with
  | nil => rfl
  | cons a l ih =>
    cases l with
    | nil => rfl
    | cons b l => show a :: addLast ((b :: l) ++ [t]) x = _; rw [ih]; rfl
theorem addLast_length {α : Type} (l : List (List α)) (x : α) : (addLast l x).length = l.length := by
  induction l with
  | nil => rfl
  | cons a l ih =>
    cases l with
    | nil => rfl
    | cons b l => show (addLast (b :: l) x).length + 1 = _; rw [ih]; rfl
theorem treesW_append (ts : List (List Row)) (t : List Row) : ∀ (k : Nat) (ms ms' : List W), ms.length = (k + ts.length) / 2 - k / 2 → treesW k (ms ++ ms') (ts ++ [t]) = treesW k ms ts ++ treesW (k + ts.length) ms' [t] := by
  induction ts with
  | nil =>
    intro k ms ms' h
    have : ms = [] := List.eq_nil_of_length_eq_zero (by simpa using h)
    subst this
    simp [treesW]
  | cons u ts ih =>
    intro k ms ms' h
    rw [List.length_cons] at h
    rw [List.cons_append]
    unfold treesW
    by_cases hk : k % 2 = 0
    · rw [if_pos hk, if_pos hk, ih (k + 1) ms ms' (by omega)]
      rw [show k + (u :: ts).length = k + 1 + ts.length by simp; omega]
      simp [treesW]
    · rw [if_neg hk, if_neg hk]
      cases ms with
      | nil => simp at h; omega
      | cons m ms =>
        simp only [List.cons_append]
        rw [ih (k + 1) ms ms' (by simp at h; omega)]
        rw [show k + (u :: ts).length = k + 1 + ts.length by simp; omega]
        simp [treesW]

theorem foldL_cons {σ : Type} (step : List W → σ → Option σ) (i : Nat) (w : List W) (l : List (List W)) (s : σ) : foldL step i (w :: l) s = (match step w s with | some s' => foldL step (i + 1) l s' | none => .error (i + 1)) := rfl
theorem foldL_append {σ : Type} (step : List W → σ → Option σ) : ∀ (a b : List (List W)) (i : Nat) (s : σ), foldL step i (a ++ b) s = (match foldL step i a s with | .ok s' => foldL step (i + a.length) b s' | .error n => .error n)
  | [], b, i, s => rfl
  | w :: a, b, i, s => by
    have e1 : foldL step i (w :: a ++ b) s = (match step w s with | some s' => foldL step (i + 1) (a ++ b) s' | none => .error (i + 1)) := rfl
    have e2 : foldL step i (w :: a) s = (match step w s with | some s' => foldL step (i + 1) a s' | none => .error (i + 1)) := rfl
    rw [e1, e2]
    cases step w s with
    | none => rfl
    | some s' =>
      simp only
      rw [foldL_append step a b (i + 1) s', show i + (w :: a).length = i + 1 + a.length by simp; omega]
theorem foldL_sim {σ : Type} {step : List W → σ → Option σ} (I : σ → Prop) (wr : σ → List (List W)) (h : ∀ ws s s', I s → step ws s = some s' → I s' ∧ wr s' = wr s ++ [ws]) : ∀ (ls : List (List W)) (i : Nat) (s s' : σ), I s → foldL step i ls s = .ok s' → I s' ∧ wr s' = wr s ++ ls
  | [], i, s, s', hi, e => by cases e; exact ⟨hi, by simp⟩
  | w :: ls, i, s, s', hi, e => by
    unfold foldL at e
    cases q : step w s with
    | none => rw [q] at e; cases e
    | some s1 =>
      rw [q] at e
      obtain ⟨a1, a2⟩ := h w s s1 hi q
      obtain ⟨b1, b2⟩ := foldL_sim I wr h ls (i + 1) s1 s' a1 e
      exact ⟨b1, by rw [b2, a2]; simp⟩
/-! ### a course -/
theorem treesW_snoc_row (ms : List W) (ts : List (List Row)) (t : List Row) (r : Row) (h : ms.length = (ts.length + 1) / 2) : treesW 0 ms (ts ++ [t ++ [r]]) = treesW 0 ms (ts ++ [t]) ++ [rowW r] := by
  have hm : ms = ms.take (ts.length / 2) ++ ms.drop (ts.length / 2) := (List.take_append_drop _ _).symm
  have hl : (ms.take (ts.length / 2)).length = (0 + ts.length) / 2 - 0 / 2 := by rw [List.length_take]; omega
  rw [hm, treesW_append ts _ 0 _ _ hl, treesW_append ts _ 0 _ _ hl, List.append_assoc]
  congr 1
  simp only [treesW]
  by_cases hk : (0 + ts.length) % 2 = 0
  · rw [if_pos hk, if_pos hk]; simp
  · rw [if_neg hk, if_neg hk]
    cases e : ms.drop (ts.length / 2) with
    | nil => have := congrArg List.length e; rw [List.length_drop] at this; simp at this; omega
    | cons m q => simp
/-- with the last tree open -/
def coOk (s : CS) : Prop := s.1.length = s.2.length / 2 ∧ (∀ m ∈ s.1, isName m = true) ∧ ∀ t ∈ s.2, ∀ r ∈ t, rowOk r
theorem cstep_ok (ws : List W) (s s' : CS) (h : coOk s) (e : cstep ws s = some s') : coOk s' ∧ treesW 0 s'.1 s'.2 = treesW 0 s.1 s.2 ++ [ws] := by
  obtain ⟨ms, ts⟩ := s
  obtain ⟨h1, h2, h3⟩ := h
  simp only at h1 h2 h3
  have row : ∀ {s'}, (match row? ws with | some r => if ts = [] then none else some (ms, addLast ts r) | none => none) = some s' → coOk s' ∧ treesW 0 s'.1 s'.2 = treesW 0 ms ts ++ [ws] := fun {s'} e => by
    cases q : row? ws with
    | none => rw [q] at e; cases e
    | some r =>
      rw [q] at e
      obtain ⟨r1, r2⟩ := row_some q
      by_cases ht : ts = []
      · simp [ht] at e
      · simp only [if_neg ht, Option.some.injEq] at e
        subst e
        obtain ⟨us, t, rfl⟩ : ∃ us t, ts = us ++ [t] := ⟨_, _, (List.dropLast_concat_getLast ht).symm⟩
        refine ⟨⟨?_, h2, ?_⟩, ?_⟩
        · show ms.length = (addLast (us ++ [t]) r).length / 2
          rw [addLast_length]; exact h1
        · show ∀ t' ∈ addLast (us ++ [t]) r, _
          rw [addLast_append]
          intro t' ht' r' hr'
          rcases List.mem_append.mp ht' with hx | hx
          · exact h3 t' (List.mem_append_left _ hx) r' hr'
          · have : t' = t ++ [r] := by simpa using hx
            subst this
            rcases List.mem_append.mp hr' with hy | hy
            · exact h3 t (List.mem_append_right _ List.mem_cons_self) r' hy
            · have : r' = r := by simpa using hy
              subst this; exact r2
        · show treesW 0 ms (addLast (us ++ [t]) r) = _
          rw [addLast_append, treesW_snoc_row ms us t r (by rw [List.length_append] at h1; simpa using h1), r1]
  have hlen : ms.length = (0 + ts.length) / 2 - 0 / 2 := by omega
  unfold cstep at e
  by_cases hs : ws = [sl "state"] ∧ ts.length % 2 = 0
  · rw [if_pos hs] at e
    cases e
    refine ⟨⟨by simp; omega, h2, fun t ht r hr => ?_⟩, ?_⟩
    · rcases List.mem_append.mp ht with hx | hx
      · exact h3 t hx r hr
      · have : t = [] := by simpa using hx
        subst this; cases hr
    · show treesW 0 ms (ts ++ [[]]) = _
      have := treesW_append ts [] 0 ms [] hlen
      rw [List.append_nil] at this
      rw [this]
      simp only [treesW]
      rw [if_pos (by omega), hs.1]; simp
  · rw [if_neg hs] at e
    split at e
    · rename_i a x
      by_cases hm : a = sl "move" ∧ ts.length % 2 = 1
      · rw [if_pos hm] at e
        split at e
        · rename_i hx
          cases e
          refine ⟨⟨by simp; omega, fun m hm => ?_, fun t ht r hr => ?_⟩, ?_⟩
          · rcases List.mem_append.mp hm with hy | hy
            · exact h2 m hy
            · have : m = x := by simpa using hy
              subst this; exact hx
          · rcases List.mem_append.mp ht with hy | hy
            · exact h3 t hy r hr
            · have : t = [] := by simpa using hy
              subst this; cases hr
          · show treesW 0 (ms ++ [x]) (ts ++ [[]]) = _
            rw [treesW_append ts [] 0 ms [x] hlen]
            simp only [treesW]
            rw [if_neg (by omega), hm.1]; simp
        · cases e
      · rw [if_neg hm] at e
        exact row e
    · exact row e

theorem n_vs : sl "void" ≠ sl "state" := by decide +kernel
theorem n_ss : sl "shown" ≠ sl "state" := by decide +kernel
theorem n_pst : sl "split" ≠ sl "state" := by decide +kernel
theorem n_vm : sl "void" ≠ sl "move" := by decide +kernel
theorem n_sm : sl "shown" ≠ sl "move" := by decide +kernel
theorem n_pm : sl "split" ≠ sl "move" := by decide +kernel
theorem cstep_row {r : Row} (h : rowOk r) (ms : List W) (us : List (List Row)) (t : List Row) : cstep (rowW r) (ms, us ++ [t]) = some (ms, us ++ [t ++ [r]]) := by
  obtain ⟨a, q, e, ha⟩ := rowW_head r
  have hr := row_rowW h
  have ns : a ≠ sl "state" := by rcases ha with rfl | rfl | rfl; exact n_vs; exact n_ss; exact n_pst
  have nm : a ≠ sl "move" := by rcases ha with rfl | rfl | rfl; exact n_vm; exact n_sm; exact n_pm
  rw [e] at hr ⊢
  have ne : us ++ [t] ≠ [] := by simp
  have fin : (match row? (a :: q) with | some r => if us ++ [t] = [] then none else some (ms, addLast (us ++ [t]) r) | none => none) = some (ms, us ++ [t ++ [r]]) := by
    rw [hr]
    simp only [if_neg ne]
    rw [addLast_append]
  unfold cstep
  rw [if_neg (fun z => ns (by have := z.1; injection this))]
  split
  · rename_i a' x heq
    injection heq with h1 h2
    subst h1
    rw [if_neg (fun z => nm z.1)]
    exact fin
  · exact fin
theorem cread_rows : ∀ (rows : List Row) (i : Nat) (ms : List W) (us : List (List Row)) (t : List Row), (∀ r ∈ rows, rowOk r) → foldL cstep i (rows.map rowW) (ms, us ++ [t]) = .ok (ms, us ++ [t ++ rows])
  | [], i, ms, us, t, _ => by simp [foldL]
  | r :: rows, i, ms, us, t, h => by
    rw [List.map_cons, foldL_cons, cstep_row (h r List.mem_cons_self)]
    simp only
    rw [cread_rows rows (i + 1) ms us (t ++ [r]) fun x hx => h x (List.mem_cons_of_mem _ hx)]
    simp
theorem cread_trees : ∀ (ts : List (List Row)) (k : Nat) (ms ms0 : List W) (ts0 : List (List Row)) (i : Nat), ts0.length = k → ms.length = (k + ts.length) / 2 - k / 2 → (∀ m ∈ ms, isName m = true) → (∀ t ∈ ts, ∀ r ∈ t, rowOk r) →
    foldL cstep i (treesW k ms ts) (ms0, ts0) = .ok (ms0 ++ ms, ts0 ++ ts)
  | [], k, ms, ms0, ts0, i, _, hl, _, _ => by
    have : ms = [] := List.eq_nil_of_length_eq_zero (by simpa using hl)
    subst this
    simp [treesW, foldL]
  | t :: ts, k, ms, ms0, ts0, i, hk, hl, hn, hr => by
    rw [List.length_cons] at hl
    have hr' : ∀ t ∈ ts, ∀ r ∈ t, rowOk r := fun u hu => hr u (List.mem_cons_of_mem _ hu)
    by_cases h2 : k % 2 = 0
    · have e : treesW k ms (t :: ts) = [sl "state"] :: (t.map rowW ++ treesW (k + 1) ms ts) := by simp only [treesW]; rw [if_pos h2]
      have c : cstep [sl "state"] (ms0, ts0) = some (ms0, ts0 ++ [[]]) := by unfold cstep; rw [if_pos ⟨rfl, by show ts0.length % 2 = 0; omega⟩]
      rw [e, foldL_cons, c]
      simp only
      rw [foldL_append, cread_rows t _ ms0 ts0 [] (hr t List.mem_cons_self)]
      simp only [List.nil_append]
      rw [cread_trees ts (k + 1) ms ms0 (ts0 ++ [t]) _ (by simp; omega) (by omega) hn hr']
      simp
    · cases ms with
      | nil => simp at hl; omega
      | cons m ms =>
        have e : treesW k (m :: ms) (t :: ts) = [sl "move", m] :: (t.map rowW ++ treesW (k + 1) ms ts) := by simp only [treesW]; rw [if_neg h2]
        have c : cstep [sl "move", m] (ms0, ts0) = some (ms0 ++ [m], ts0 ++ [[]]) := by
          unfold cstep
          rw [if_neg (fun z => by have := z.1; simp at this)]
          simp only
          rw [if_pos ⟨trivial, by show ts0.length % 2 = 1; omega⟩, if_pos (hn m List.mem_cons_self)]
        rw [e, foldL_cons, c]
        simp only
        rw [foldL_append, cread_rows t _ (ms0 ++ [m]) ts0 [] (hr t List.mem_cons_self)]
        simp only [List.nil_append]
        rw [cread_trees ts (k + 1) ms (ms0 ++ [m]) (ts0 ++ [t]) _ (by simp; omega) (by simp at hl; omega) (fun x hx => hn x (List.mem_cons_of_mem _ hx)) hr']
        simp

/-! ### an enclosure -/
def exitW (e : W × Reason) : List W := sl "exit" :: e.1 :: reasonW e.2
def blocksW : List Block → List (List W)
  | [] => []
  | b :: bs => (sl "at" :: b.1) :: (b.2.map exitW ++ blocksW bs)
def exitOk (e : W × Reason) : Prop := isName e.1 = true ∧ reasonOk e.2
def blockOk (b : Block) : Prop := b.1.all isName = true ∧ ∀ e ∈ b.2, exitOk e
theorem blocksW_append : ∀ (a b : List Block), blocksW (a ++ b) = blocksW a ++ blocksW b
  | [], b => rfl
  | x :: a, b => by simp only [List.cons_append, blocksW, blocksW_append a b, List.append_assoc]
theorem addBlock_append (l : List Block) (b : Block) (x : W × Reason) : addBlock (l ++ [b]) x = l ++ [(b.1, b.2 ++ [x])] := by
  induction l with
  | nil => rfl
  | cons a l ih =>
    cases l with
    | nil => rfl
    | cons c l => show a :: addBlock ((c :: l) ++ [b]) x = _; rw [ih]; rfl
theorem estep_ok (ws : List W) (s s' : List Block) (h : ∀ b ∈ s, blockOk b) (e : estep ws s = some s') : (∀ b ∈ s', blockOk b) ∧ blocksW s' = blocksW s ++ [ws] := by
  unfold estep at e
  split at e
  · cases e
  · rename_i w r
    split at e
    · rename_i hc
      cases e
      refine ⟨fun b hb => ?_, ?_⟩
      · rcases List.mem_append.mp hb with hx | hx
        · exact h b hx
        · have : b = (r, []) := by simpa using hx
          subst this
          exact ⟨hc.2, fun e he => nomatch he⟩
      · rw [blocksW_append, hc.1]; rfl
    · split at e
      · rename_i x r' _
        split at e
        · rename_i hc
          split at e
          · rename_i q hq
            cases e
            obtain ⟨q1, q2⟩ := reason_some hq
            obtain ⟨us, b, rfl⟩ : ∃ us b, s = us ++ [b] := ⟨_, _, (List.dropLast_concat_getLast hc.2.1).symm⟩
            rw [addBlock_append]
            refine ⟨fun b' hb => ?_, ?_⟩
            · rcases List.mem_append.mp hb with hx | hx
              · exact h b' (List.mem_append_left _ hx)
              · have : b' = (b.1, b.2 ++ [(x, q)]) := by simpa using hx
                subst this
                have hb0 := h b (List.mem_append_right _ List.mem_cons_self)
                refine ⟨hb0.1, fun e he => ?_⟩
                rcases List.mem_append.mp he with hy | hy
                · exact hb0.2 e hy
                · have : e = (x, q) := by simpa using hy
                  subst this
                  exact ⟨hc.2.2, q2⟩
            · rw [blocksW_append, blocksW_append]
              simp [blocksW, exitW, q1, hc.1]
          · cases e
        · cases e
      · cases e
theorem n_ea : sl "exit" ≠ sl "at" := by decide +kernel
theorem estep_exit {e : W × Reason} (h : exitOk e) (us : List Block) (b : Block) : estep (exitW e) (us ++ [b]) = some (us ++ [(b.1, b.2 ++ [e])]) := by
  unfold estep exitW
  simp only
  rw [if_neg (fun z => n_ea z.1), if_pos ⟨trivial, by simp, h.1⟩, reason_reasonW h.2]
  simp only
  rw [addBlock_append]
theorem eread_exits : ∀ (es : List (W × Reason)) (i : Nat) (us : List Block) (b : Block), (∀ e ∈ es, exitOk e) → foldL estep i (es.map exitW) (us ++ [b]) = .ok (us ++ [(b.1, b.2 ++ es)])
  | [], i, us, b, _ => by simp [foldL]
  | e :: es, i, us, b, h => by
    rw [List.map_cons, foldL_cons, estep_exit (h e List.mem_cons_self)]
    simp only
    rw [eread_exits es (i + 1) us _ fun x hx => h x (List.mem_cons_of_mem _ hx)]
    simp
theorem eread : ∀ (bs us : List Block) (i : Nat), (∀ b ∈ bs, blockOk b) → foldL estep i (blocksW bs) us = .ok (us ++ bs)
  | [], us, i, _ => by simp [blocksW, foldL]
  | b :: bs, us, i, h => by
    have hb := h b List.mem_cons_self
    have c : estep (sl "at" :: b.1) us = some (us ++ [(b.1, [])]) := by unfold estep; simp only; rw [if_pos ⟨trivial, hb.1⟩]
    show foldL estep i ((sl "at" :: b.1) :: (b.2.map exitW ++ blocksW bs)) us = _
    rw [foldL_cons, c]
    simp only
    rw [foldL_append, eread_exits b.2 _ us (b.1, []) hb.2]
    simp only [List.nil_append]
    rw [eread bs (us ++ [b]) _ fun x hx => h x (List.mem_cons_of_mem _ hx)]
    simp
end K58
set_option Elab.async false
set_option linter.all false
set_option maxRecDepth 100000
set_option maxHeartbeats 2000000
/-! law_k58, plain mathematics: the two directions, on word lists and on texts. -/
namespace K58
open PySem RS
def answerW : Answer → List (List W)
  | .course ms ts => [sl "course"] :: treesW 0 ms ts
  | .enclosure bs => [sl "enclosure"] :: blocksW bs
  | .spoiled q => [sl "spoiled" :: reasonW q]
def answerOk : Answer → Prop
  | .course ms ts => coOk (ms, ts) ∧ ts.length % 2 = 1
  | .enclosure bs => ∀ b ∈ bs, blockOk b
  | .spoiled q => reasonOk q ∧ ∃ i, q.why = .ban i
theorem readA_ok {ls : List (List W)} {a : Answer} (h : readA ls = .ok a) : answerOk a ∧ answerW a = ls ∧ ls.length ≤ 20000 := by
  unfold readA at h
  split at h
  · cases h
  · rename_i hl
    have hl' : ls.length ≤ 20000 := by omega
    split at h
    · cases h
    · rename_i l r
      split at h
      · rename_i hc
        split at h
        · cases h
        · rename_i s e
          split at h
          · rename_i h2
            cases h
            obtain ⟨a1, a2⟩ := foldL_sim coOk (fun s => treesW 0 s.1 s.2) cstep_ok r 1 ([], []) s ⟨rfl, fun _ z => (nomatch z), fun _ z => (nomatch z)⟩ e
            refine ⟨⟨a1, h2⟩, ?_, hl'⟩
            show [sl "course"] :: treesW 0 s.1 s.2 = _
            rw [a2, hc]; rfl
          · cases h
      · split at h
        · rename_i hc
          split at h
          · cases h
          · rename_i s e
            cases h
            obtain ⟨a1, a2⟩ := foldL_sim (fun s => ∀ b ∈ s, blockOk b) blocksW estep_ok r 1 [] s (fun _ z => (nomatch z)) e
            refine ⟨a1, ?_, hl'⟩
            show [sl "enclosure"] :: blocksW s = _
            rw [a2, hc]; rfl
        · split at h
          · rename_i w q
            split at h
            · rename_i i v e
              split at h
              · rename_i hw
                split at h
                · rename_i hr
                  cases h
                  obtain ⟨a1, a2⟩ := reason_some e
                  refine ⟨⟨a2, i, rfl⟩, ?_, hl'⟩
                  show [sl "spoiled" :: reasonW _] = _
                  rw [a1, hw, hr]
                · cases h
              · cases h
            · cases h
          · cases h
theorem n_ec : [sl "enclosure"] ≠ [sl "course"] := by decide +kernel
theorem n_spc : sl "spoiled" ≠ sl "course" := by decide +kernel
theorem n_spe : sl "spoiled" ≠ sl "enclosure" := by decide +kernel
theorem readA_answerW {a : Answer} (h : answerOk a) (hl : (answerW a).length ≤ 20000) : readA (answerW a) = .ok a := by
  unfold readA
  rw [if_neg (by omega)]
  cases a with
  | course ms ts =>
    obtain ⟨⟨h1, h2, h3⟩, h4⟩ := h
    simp only [answerW, if_true]
    rw [cread_trees ts 0 ms [] [] 1 rfl (by simpa using h1) h2 h3]
    simp only [List.nil_append, if_pos h4]
  | enclosure bs =>
    simp only [answerW]
    rw [if_neg n_ec, if_pos trivial, eread bs [] 1 h]
    simp
  | spoiled q =>
    obtain ⟨⟨y, v⟩, hq⟩ : ∃ q', q' = q := ⟨q, rfl⟩
    subst hq
    obtain ⟨h1, i, rfl⟩ := h
    simp only [answerW]
    rw [if_neg (fun z => n_spc (by injection z)), if_neg (fun z => n_spe (by injection z)), reason_reasonW h1]
    simp
end K58
set_option Elab.async false
set_option linter.all false
set_option maxRecDepth 100000
set_option maxHeartbeats 2000000
/-! law_k58, plain mathematics: texts. -/
namespace K58
open PySem RS
theorem join_split (c : Nat) : ∀ l : W, TL.joinL [c] (splitC c l) = l
  | [] => by simp [splitC, TL.joinL]
  | x :: xs => by
    have ih := join_split c xs
    unfold splitC
    by_cases h : x = c
    · rw [if_pos h]
      cases e : splitC c xs with
      | nil => exact absurd e (splitC_ne c xs)
      | cons p ps =>
        rw [e] at ih
        show [] ++ ([c] ++ TL.joinL [c] (p :: ps)) = _
        rw [ih, h]; rfl
    · rw [if_neg h]
      cases e : splitC c xs with
      | nil => exact absurd e (splitC_ne c xs)
      | cons p ps =>
        rw [e] at ih
        simp only
        cases ps with
        | nil => show x :: p = _; rw [show p = xs from ih]
        | cons q qs =>
          show (x :: p) ++ ([c] ++ TL.joinL [c] (q :: qs)) = _
          rw [List.cons_append, show p ++ ([c] ++ TL.joinL [c] (q :: qs)) = xs from ih]
theorem splitC_cons (c x : Nat) (xs : W) : splitC c (x :: xs) = if x = c then [] :: splitC c xs else (match splitC c xs with | p :: ps => (x :: p) :: ps | [] => [[x]]) := rfl
theorem splitC_clean {c : Nat} : ∀ {p : W}, c ∉ p → splitC c p = [p]
  | [], _ => rfl
  | x :: xs, h => by
    have hx : x ≠ c := fun e => h (by rw [e]; exact List.mem_cons_self)
    rw [splitC_cons, if_neg hx, splitC_clean fun m => h (List.mem_cons_of_mem _ m)]
theorem splitC_app {c : Nat} : ∀ {p : W} (l : W), c ∉ p → splitC c (p ++ c :: l) = p :: splitC c l
  | [], l, _ => by rw [List.nil_append, splitC_cons, if_pos rfl]
  | x :: xs, l, h => by
    have hx : x ≠ c := fun e => h (by rw [e]; exact List.mem_cons_self)
    rw [List.cons_append, splitC_cons, if_neg hx, splitC_app l fun m => h (List.mem_cons_of_mem _ m)]
theorem split_join {c : Nat} : ∀ {ps : List W}, ps ≠ [] → (∀ p ∈ ps, c ∉ p) → splitC c (TL.joinL [c] ps) = ps
  | [], h, _ => absurd rfl h
  | [p], _, h => splitC_clean (h p List.mem_cons_self)
  | p :: q :: r, _, h => by
    show splitC c (p ++ ([c] ++ TL.joinL [c] (q :: r))) = _
    rw [show [c] ++ TL.joinL [c] (q :: r) = c :: TL.joinL [c] (q :: r) from rfl, splitC_app _ (h p List.mem_cons_self), split_join (by simp) fun x hx => h x (List.mem_cons_of_mem _ hx)]
def lineW (ws : List W) : W := TL.joinL [32] ws
def textW (ls : List (List W)) : W := TL.joinL [10] (ls.map lineW)
def wordsT (t : W) : List (List W) := (splitC 10 t).map (splitC 32)
theorem text_words (t : W) : textW (wordsT t) = t := by
  unfold textW wordsT
  rw [List.map_map]
  have : (lineW ∘ splitC 32) = id := by funext l; exact join_split 32 l
  rw [this, List.map_id, join_split]
def Clean (w : W) : Prop := 32 ∉ w ∧ 10 ∉ w
theorem mem_joinL {c x : Nat} : ∀ {ps : List W}, x ∈ TL.joinL [c] ps → x = c ∨ ∃ p ∈ ps, x ∈ p := fun {ps} h => by
  rcases joinL_mem h with h | h
  · exact .inl (by simpa using h)
  · exact .inr h
theorem words_text {ls : List (List W)} (h0 : ls ≠ []) (h : ∀ l ∈ ls, l ≠ [] ∧ ∀ w ∈ l, Clean w) : wordsT (textW ls) = ls := by
  unfold textW wordsT
  rw [split_join (by simpa using h0) (fun p hp => ?_), List.map_map]
  · conv => rhs; rw [← List.map_id ls]
    refine List.map_congr_left fun l hl => ?_
    exact split_join (h l hl).1 fun w hw => ((h l hl).2 w hw).1
  · obtain ⟨l, hl, rfl⟩ := List.mem_map.mp hp
    intro hm
    rcases mem_joinL hm with e | ⟨w, hw, hx⟩
    · exact absurd e (by decide)
    · exact ((h l hl).2 w hw).2 hx
theorem letters_clean : ∀ c ∈ letters, c ≠ 32 ∧ c ≠ 10 ∧ c < 128 := by decide +kernel
theorem digits_clean : ∀ c ∈ digits, c ≠ 32 ∧ c ≠ 10 ∧ c < 128 := by decide +kernel
theorem name_signs {w : W} (h : isName w = true) : w.length ≤ 8 ∧ ∀ c ∈ w, c ≠ 32 ∧ c ≠ 10 ∧ c < 128 := by
  unfold isName at h
  simp only [Bool.and_eq_true, decide_eq_true_eq, List.all_eq_true, Bool.or_eq_true] at h
  refine ⟨h.1.1.2, fun c hc => ?_⟩
  rcases h.2 c hc with q | q
  · exact letters_clean c q
  · exact digits_clean c q
/-- a word of an answer: short, its signs plain -/
def Plain (w : W) : Prop := w.length ≤ 10 ∧ ∀ c ∈ w, c ≠ 32 ∧ c ≠ 10 ∧ c < 128
theorem Plain.clean {w : W} (h : Plain w) : Clean w := ⟨fun m => (h.2 32 m).1 rfl, fun m => (h.2 10 m).2.1 rfl⟩
theorem name_plain {w : W} (h : isName w = true) : Plain w := ⟨Nat.le_trans (name_signs h).1 (by decide), (name_signs h).2⟩
theorem num_plain {n : Nat} (h : n < 10 ^ 10) : Plain (numW n) := by
  refine ⟨TL.numL_len (by decide) h, fun c hc => ?_⟩
  have := TL.numL_digits n c hc
  omega
theorem nums_plain {ns : List Nat} (h : ∀ n ∈ ns, n < 10 ^ 10) : ∀ w ∈ ns.map numW, Plain w := fun w hw => by
  obtain ⟨n, hn, rfl⟩ := List.mem_map.mp hw
  exact num_plain (h n hn)
def plainB (w : W) : Bool := decide (w.length ≤ 10) && w.all fun c => decide (c ≠ 32) && decide (c ≠ 10) && decide (c < 128)
theorem plain_of {w : W} (h : plainB w = true) : Plain w := by
  unfold plainB at h
  simp only [Bool.and_eq_true, decide_eq_true_eq, List.all_eq_true] at h
  exact ⟨h.1, fun c hc => ⟨(h.2 c hc).1.1, (h.2 c hc).1.2, (h.2 c hc).2⟩⟩
theorem pos_plain {k : CondK} (h : posOk k) : ∀ w ∈ posW k, Plain w := by
  cases k with
  | group x => intro w hw; simp only [posW, List.mem_cons, List.not_mem_nil, or_false] at hw; rcases hw with rfl | rfl; exact plain_of (by decide +kernel); exact name_plain h
  | feature x => intro w hw; simp only [posW, List.mem_cons, List.not_mem_nil, or_false] at hw; rcases hw with rfl | rfl; exact plain_of (by decide +kernel); exact name_plain h
  | share x a b => intro w hw; simp only [posW, List.mem_cons, List.not_mem_nil, or_false] at hw; rcases hw with rfl | rfl | rfl | rfl; exact plain_of (by decide +kernel); exact name_plain h.1; exact num_plain h.2.1; exact num_plain h.2.2
  | days a b => intro w hw; simp only [posW, List.mem_cons, List.not_mem_nil, or_false] at hw; rcases hw with rfl | rfl | rfl; exact plain_of (by decide +kernel); exact num_plain h.1; exact num_plain h.2
theorem cond_plain {c : Cond} (h : posOk c.k) : ∀ w ∈ condW c, Plain w := by
  intro w hw
  unfold condW at hw
  rcases List.mem_append.mp hw with hw | hw
  · split at hw
    · cases hw
    · have : w = sl "not" := by simpa using hw
      subst this; exact plain_of (by decide +kernel)
  · exact pos_plain h w hw
theorem row_plain {r : Row} (h : rowOk r) : ∀ w ∈ rowW r, Plain w := by
  cases r with
  | void => intro w hw; have : w = sl "void" := by simpa [rowW] using hw
            subst this; exact plain_of (by decide +kernel)
  | shown ns =>
    intro w hw
    rcases List.mem_cons.mp hw with rfl | hw
    · exact plain_of (by decide +kernel)
    · exact nums_plain h w hw
  | split c =>
    intro w hw
    rcases List.mem_cons.mp hw with rfl | hw
    · exact plain_of (by decide +kernel)
    · exact cond_plain h.1 w hw
theorem vis_plain {v : Vis} (h : visOk v) : ∀ w ∈ visW v, Plain w := by
  intro w hw
  rcases List.mem_cons.mp hw with rfl | hw
  · exact num_plain h.1
  · rcases List.mem_cons.mp hw with rfl | hw
    · exact num_plain h.2.1
    · exact name_plain (List.all_eq_true.mp h.2.2 w hw)
theorem reason_plain {q : Reason} (h : reasonOk q) : ∀ w ∈ reasonW q, Plain w := by
  obtain ⟨y, v⟩ := q
  intro w hw
  unfold reasonW at hw
  rcases List.mem_append.mp hw with hw | hw
  · cases y with
    | ban i => simp only [List.mem_cons, List.not_mem_nil, or_false] at hw; rcases hw with rfl | rfl; exact plain_of (by decide +kernel); exact num_plain h.1
    | loss x => simp only [List.mem_cons, List.not_mem_nil, or_false] at hw; rcases hw with rfl | rfl; exact plain_of (by decide +kernel); exact name_plain h.1
  · exact vis_plain h.2 w hw
def LineOk (l : List W) : Prop := l ≠ [] ∧ ∀ w ∈ l, Plain w
theorem trees_plain : ∀ {ts : List (List Row)} {k : Nat} {ms : List W}, (∀ m ∈ ms, isName m = true) → (∀ t ∈ ts, ∀ r ∈ t, rowOk r) → ∀ l ∈ treesW k ms ts, LineOk l
  | [], k, ms, _, _, l, hl => by simp [treesW] at hl
  | t :: ts, k, ms, hm, hr, l, hl => by
    have rows : ∀ l ∈ t.map rowW, LineOk l := fun l hl => by
      obtain ⟨r, hr', rfl⟩ := List.mem_map.mp hl
      obtain ⟨a, q, e, _⟩ := rowW_head r
      exact ⟨by rw [e]; simp, row_plain (hr t List.mem_cons_self r hr')⟩
    have hr' : ∀ t ∈ ts, ∀ r ∈ t, rowOk r := fun u hu => hr u (List.mem_cons_of_mem _ hu)
    simp only [treesW] at hl
    split at hl
    · rcases List.mem_cons.mp hl with rfl | hl
      · exact ⟨by simp, fun w hw => by have : w = sl "state" := by simpa using hw
                                       subst this; exact plain_of (by decide +kernel)⟩
      · rcases List.mem_append.mp hl with hl | hl
        · exact rows l hl
        · exact trees_plain hm hr' l hl
    · cases ms with
      | nil => cases hl
      | cons m ms =>
        rcases List.mem_cons.mp hl with rfl | hl
        · refine ⟨by simp, fun w hw => ?_⟩
          simp only [List.mem_cons, List.not_mem_nil, or_false] at hw
          rcases hw with rfl | rfl
          · exact plain_of (by decide +kernel)
          · exact name_plain (hm _ List.mem_cons_self)
        · rcases List.mem_append.mp hl with hl | hl
          · exact rows l hl
          · exact trees_plain (fun x hx => hm x (List.mem_cons_of_mem _ hx)) hr' l hl
theorem blocks_plain : ∀ {bs : List Block}, (∀ b ∈ bs, blockOk b) → ∀ l ∈ blocksW bs, LineOk l
  | [], _, l, hl => by simp [blocksW] at hl
  | b :: bs, h, l, hl => by
    have hb := h b List.mem_cons_self
    simp only [blocksW] at hl
    rcases List.mem_cons.mp hl with rfl | hl
    · refine ⟨by simp, fun w hw => ?_⟩
      rcases List.mem_cons.mp hw with rfl | hw
      · exact plain_of (by decide +kernel)
      · exact name_plain (List.all_eq_true.mp hb.1 w hw)
    · rcases List.mem_append.mp hl with hl | hl
      · obtain ⟨e, he, rfl⟩ := List.mem_map.mp hl
        refine ⟨by simp [exitW], fun w hw => ?_⟩
        simp only [exitW] at hw
        rcases List.mem_cons.mp hw with rfl | hw
        · exact plain_of (by decide +kernel)
        · rcases List.mem_cons.mp hw with rfl | hw
          · exact name_plain (hb.2 e he).1
          · exact reason_plain (hb.2 e he).2 w hw
      · exact blocks_plain (fun x hx => h x (List.mem_cons_of_mem _ hx)) l hl
theorem answer_plain {a : Answer} (h : answerOk a) : answerW a ≠ [] ∧ ∀ l ∈ answerW a, LineOk l := by
  have one : ∀ {x : W}, plainB x = true → LineOk [x] := fun {x} hx => ⟨by simp, fun w hw => by
    have : w = x := by simpa using hw
    subst this; exact plain_of hx⟩
  cases a with
  | course ms ts =>
    refine ⟨by simp [answerW], fun l hl => ?_⟩
    rcases List.mem_cons.mp hl with rfl | hl
    · exact one (by decide +kernel)
    · exact trees_plain h.1.2.1 h.1.2.2 l hl
  | enclosure bs =>
    refine ⟨by simp [answerW], fun l hl => ?_⟩
    rcases List.mem_cons.mp hl with rfl | hl
    · exact one (by decide +kernel)
    · exact blocks_plain h l hl
  | spoiled q =>
    refine ⟨by simp [answerW], fun l hl => ?_⟩
    have : l = sl "spoiled" :: reasonW q := by simpa [answerW] using hl
    subst this
    refine ⟨by simp, fun w hw => ?_⟩
    rcases List.mem_cons.mp hw with rfl | hw
    · exact plain_of (by decide +kernel)
    · exact reason_plain h.1 w hw
/-- what a valid answer's text reads as -/
theorem read_text {a : Answer} (h : answerOk a) (hl : (answerW a).length ≤ 20000) : readA (wordsT (textW (answerW a))) = .ok a := by
  obtain ⟨h1, h2⟩ := answer_plain h
  rw [words_text h1 fun l hl => ⟨(h2 l hl).1, fun w hw => ((h2 l hl).2 w hw).clean⟩]
  exact readA_answerW h hl
/-- what a read text writes -/
theorem write_text {t : W} {a : Answer} (h : readA (wordsT t) = .ok a) : textW (answerW a) = t := by
  rw [(readA_ok h).2.1, text_words]
end K58
set_option Elab.async false
set_option linter.all false
set_option maxRecDepth 100000
set_option maxHeartbeats 2000000
/-! law_k58: the plain functions of the defs (printed by gen.py). -/
namespace K58
open PySem L2 RS

def lb_is_name_1 : FS :=
 (ifF (andT (tst (op2 (getVar 1) (con (.str "abcdefghijklmnopqrstuvwxyz")) (inP true))) (tst (op2 (getVar 1) (con (.str "0123456789")) (inP true))))
 (retF (con (.bl false)))
 nxt)
def b_is_name : FS :=
 (seqF (ifF (notT (chn (con (.int 1)) (op1 (getVar 0) lenP) (con (.int 8)) leP leP))
 (retF (con (.bl false)))
 nxt)
 (seqF (ifF (tst (op2 (op2 (getVar 0) (con (.int 0)) idxP) (con (.str "abcdefghijklmnopqrstuvwxyz")) (inP true)))
 (retF (con (.bl false)))
 nxt)
 (seqF (forF (seqE (getVar 0)) (tgN 1)
 lb_is_name_1)
 (retF (con (.bl true))))))
def f_is_name : List D → Mem → R Val := fnD 2 b_is_name

def b_condition_words : FS :=
 (seqF (setF 1 (cmpE (seqE (slE (getVar 0) (fun _ M => .ok none M) (ixO (op1 (con (.int 1)) negP)))) (tgN 2) yesT (stE (op1 (getVar 2) strP)) [2]))
 (seqF (ifF (notT (tst (op2 (getVar 0) (op1 (con (.int 1)) negP) idxP)))
 (setF 1 (op2 (lstE (aCons (stE (con (.str "not"))) aNil)) (getVar 1) addP))
 nxt)
 (retF (joinE (con (.str " ")) (getVar 1)))))
def f_condition_words : List D → Mem → R Val := fnD 3 b_condition_words

def lb_read_number_1 : FS :=
 (ifF (tst (op2 (getVar 1) (con (.str "0123456789")) (inP true)))
 (retF (con .non))
 nxt)
def b_read_number : FS :=
 (seqF (ifF (notT (chn (con (.int 1)) (op1 (getVar 0) lenP) (con (.int 10)) leP leP))
 (retF (con .non))
 nxt)
 (seqF (forF (seqE (getVar 0)) (tgN 1)
 lb_read_number_1)
 (seqF (ifF (andT (tst (op2 (op2 (getVar 0) (con (.int 0)) idxP) (con (.str "0")) (eqP false))) (tst (op2 (op1 (getVar 0) lenP) (con (.int 1)) gtP)))
 (retF (con .non))
 nxt)
 (retF (op1 (getVar 0) intOf)))))
def f_read_number : List D → Mem → R Val := fnD 2 b_read_number

def b_are_names : FS :=
 (retF (op1 (cmpE (seqE (getVar 0)) (tgN 1) yesT (stE (callE 1 f_is_name (aCons (stE (getVar 1)) aNil))) [1]) allP))
def f_are_names : List D → Mem → R Val := fnD 2 b_are_names

def b_read_numbers : FS :=
 (seqF (setF 1 (cmpE (seqE (getVar 0)) (tgN 2) yesT (stE (callE 1 f_read_number (aCons (stE (getVar 2)) aNil))) [2]))
 (seqF (ifF (tst (op2 (con .non) (getVar 1) (inP false)))
 (retF (con .non))
 nxt)
 (retF (getVar 1))))
def f_read_numbers : List D → Mem → R Val := fnD 3 b_read_numbers

def b_read_positive : FS :=
 (seqF (ifF (andT (tst (op2 (op1 (getVar 0) lenP) (con (.int 2)) (eqP false))) (andT (tst (op2 (op2 (getVar 0) (con (.int 0)) idxP) (tupE (aCons (stE (con (.str "group"))) (aCons (stE (con (.str "feature"))) aNil))) (inP false))) (tst (callE 1 f_is_name (aCons (stE (op2 (getVar 0) (con (.int 1)) idxP)) aNil)))))
 (retF (tupE (aCons (stE (op2 (getVar 0) (con (.int 0)) idxP)) (aCons (stE (op2 (getVar 0) (con (.int 1)) idxP)) aNil))))
 nxt)
 (seqF (ifF (andT (tst (op2 (op1 (getVar 0) lenP) (con (.int 4)) (eqP false))) (andT (tst (op2 (op2 (getVar 0) (con (.int 0)) idxP) (con (.str "share")) (eqP false))) (tst (callE 1 f_is_name (aCons (stE (op2 (getVar 0) (con (.int 1)) idxP)) aNil)))))
 (seqF (setF 1 (callE 1 f_read_numbers (aCons (stE (slE (getVar 0) (ixO (con (.int 2))) (fun _ M => .ok none M))) aNil)))
 (ifF (tst (op2 (getVar 1) (con .non) (isNP true)))
 (retF (tupE (aCons (stE (con (.str "share"))) (aCons (stE (op2 (getVar 0) (con (.int 1)) idxP)) (aCons (stE (op2 (getVar 1) (con (.int 0)) idxP)) (aCons (stE (op2 (getVar 1) (con (.int 1)) idxP)) aNil))))))
 nxt))
 nxt)
 (seqF (ifF (andT (tst (op2 (op1 (getVar 0) lenP) (con (.int 3)) (eqP false))) (tst (op2 (op2 (getVar 0) (con (.int 0)) idxP) (con (.str "days")) (eqP false))))
 (seqF (setF 1 (callE 1 f_read_numbers (aCons (stE (slE (getVar 0) (ixO (con (.int 1))) (fun _ M => .ok none M))) aNil)))
 (ifF (tst (op2 (getVar 1) (con .non) (isNP true)))
 (retF (tupE (aCons (stE (con (.str "days"))) (aCons (stE (op2 (getVar 1) (con (.int 0)) idxP)) (aCons (stE (op2 (getVar 1) (con (.int 1)) idxP)) aNil)))))
 nxt))
 nxt)
 (retF (con .non)))))
def f_read_positive : List D → Mem → R Val := fnD 2 b_read_positive

def b_read_condition : FS :=
 (seqF (setF 1 (con (.bl true)))
 (seqF (ifF (andT (tst (op2 (op1 (getVar 0) lenP) (con (.int 0)) gtP)) (tst (op2 (op2 (getVar 0) (con (.int 0)) idxP) (con (.str "not")) (eqP false))))
 (seqF (setF 1 (con (.bl false)))
 (setF 0 (slE (getVar 0) (ixO (con (.int 1))) (fun _ M => .ok none M))))
 nxt)
 (seqF (setF 2 (callE 1 f_read_positive (aCons (stE (getVar 0)) aNil)))
 (seqF (ifF (tst (op2 (getVar 2) (con .non) (isNP false)))
 (retF (con .non))
 nxt)
 (retF (op2 (getVar 2) (tupE (aCons (stE (getVar 1)) aNil)) addP))))))
def f_read_condition : List D → Mem → R Val := fnD 3 b_read_condition

def b_read_ground_condition : FS :=
 (seqF (setF 1 (callE 1 f_read_condition (aCons (stE (getVar 0)) aNil)))
 (seqF (ifF (orT (tst (op2 (getVar 1) (con .non) (isNP false))) (tst (op2 (op2 (getVar 1) (con (.int 0)) idxP) (con (.str "feature")) (eqP false))))
 (retF (con .non))
 nxt)
 (retF (getVar 1))))
def f_read_ground_condition : List D → Mem → R Val := fnD 2 b_read_ground_condition

def b_read_row : FS :=
 (seqF (ifF (tst (op2 (getVar 0) (lstE (aCons (stE (con (.str "void"))) aNil)) (eqP false)))
 (retF (tupE (aCons (stE (con (.str "void"))) aNil)))
 nxt)
 (seqF (ifF (tst (op2 (op2 (getVar 0) (con (.int 0)) idxP) (con (.str "shown")) (eqP false)))
 (seqF (setF 1 (callE 1 f_read_numbers (aCons (stE (slE (getVar 0) (ixO (con (.int 1))) (fun _ M => .ok none M))) aNil)))
 (ifF (tst (op2 (getVar 1) (con .non) (isNP true)))
 (retF (tupE (aCons (stE (con (.str "shown"))) (aCons (stE (op1 (getVar 1) tupP)) aNil))))
 nxt))
 nxt)
 (seqF (ifF (tst (op2 (op2 (getVar 0) (con (.int 0)) idxP) (con (.str "split")) (eqP false)))
 (seqF (setF 2 (callE 1 f_read_ground_condition (aCons (stE (slE (getVar 0) (ixO (con (.int 1))) (fun _ M => .ok none M))) aNil)))
 (ifF (tst (op2 (getVar 2) (con .non) (isNP true)))
 (retF (tupE (aCons (stE (con (.str "split"))) (aCons (stE (getVar 2)) aNil))))
 nxt))
 nxt)
 (retF (con .non)))))
def f_read_row : List D → Mem → R Val := fnD 3 b_read_row

def b_read_visitor : FS :=
 (seqF (ifF (orT (tst (op2 (op1 (getVar 0) lenP) (con (.int 2)) ltP)) (notT (tst (callE 1 f_are_names (aCons (stE (slE (getVar 0) (ixO (con (.int 2))) (fun _ M => .ok none M))) aNil)))))
 (retF (con .non))
 nxt)
 (seqF (setF 1 (callE 1 f_read_numbers (aCons (stE (slE (getVar 0) (fun _ M => .ok none M) (ixO (con (.int 2))))) aNil)))
 (seqF (ifF (tst (op2 (getVar 1) (con .non) (isNP false)))
 (retF (con .non))
 nxt)
 (retF (tupE (aCons (stE (op2 (getVar 1) (con (.int 0)) idxP)) (aCons (stE (op1 (slE (getVar 0) (ixO (con (.int 2))) (fun _ M => .ok none M)) tupP)) (aCons (stE (op2 (getVar 1) (con (.int 1)) idxP)) aNil))))))))
def f_read_visitor : List D → Mem → R Val := fnD 2 b_read_visitor

def b_read_reason : FS :=
 (seqF (ifF (orT (tst (op2 (op1 (getVar 0) lenP) (con (.int 2)) ltP)) (tst (op2 (op2 (getVar 0) (con (.int 0)) idxP) (tupE (aCons (stE (con (.str "ban"))) (aCons (stE (con (.str "loss"))) aNil))) (inP true))))
 (retF (con .non))
 nxt)
 (seqF (setF 1 (op2 (getVar 0) (con (.int 1)) idxP))
 (seqF (ifF (tst (op2 (op2 (getVar 0) (con (.int 0)) idxP) (con (.str "ban")) (eqP false)))
 (setF 1 (callE 1 f_read_number (aCons (stE (op2 (getVar 0) (con (.int 1)) idxP)) aNil)))
 (ifF (notT (tst (callE 1 f_is_name (aCons (stE (op2 (getVar 0) (con (.int 1)) idxP)) aNil))))
 (setF 1 (con .non))
 nxt))
 (seqF (setF 2 (callE 1 f_read_visitor (aCons (stE (slE (getVar 0) (ixO (con (.int 2))) (fun _ M => .ok none M))) aNil)))
 (seqF (ifF (orT (tst (op2 (getVar 1) (con .non) (isNP false))) (tst (op2 (getVar 2) (con .non) (isNP false))))
 (retF (con .non))
 nxt)
 (retF (tupE (aCons (stE (op2 (getVar 0) (con (.int 0)) idxP)) (aCons (stE (getVar 1)) (aCons (stE (getVar 2)) aNil))))))))))
def f_read_reason : List D → Mem → R Val := fnD 3 b_read_reason

def lb_read_course_1 : FS :=
 (seqF (setF 6 (splitE (op2 (getVar 0) (getVar 5) idxP) (con (.str " "))))
 (ifF (andT (tst (op2 (getVar 6) (lstE (aCons (stE (con (.str "state"))) aNil)) (eqP false))) (tst (op2 (op1 (getVar 2) lenP) (op1 (getVar 3) lenP) (eqP false))))
 (seqF (cellF 4 (lstE aNil))
 (appF 2 (getVar 4)))
 (ifF (andT (tst (op2 (op2 (getVar 6) (con (.int 0)) idxP) (con (.str "move")) (eqP false))) (andT (tst (op2 (op1 (getVar 6) lenP) (con (.int 2)) (eqP false))) (tst (op2 (op1 (getVar 2) lenP) (op1 (getVar 3) lenP) gtP))))
 (seqF (ifF (notT (tst (callE 1 f_is_name (aCons (stE (op2 (getVar 6) (con (.int 1)) idxP)) aNil))))
 (rseF 0 (op2 (getVar 5) (con (.int 1)) addP))
 nxt)
 (seqF (cellF 4 (lstE aNil))
 (seqF (appF 1 (op2 (getVar 6) (con (.int 1)) idxP))
 (appF 3 (getVar 4)))))
 (seqF (setF 7 (callE 1 f_read_row (aCons (stE (getVar 6)) aNil)))
 (seqF (ifF (orT (tst (op2 (getVar 7) (con .non) (isNP false))) (tst (op2 (getVar 4) (con .non) (isNP false))))
 (rseF 0 (op2 (getVar 5) (con (.int 1)) addP))
 nxt)
 (appC (getVar 4) (getVar 7)))))))
def b_read_course : FS :=
 (seqF (ownF 1 (lstE aNil))
 (seqF (ownF 2 (lstE aNil))
 (seqF (ownF 3 (lstE aNil))
 (seqF (setF 4 (con .non))
 (seqF (forF (rng2 (aCons (stE (con (.int 1))) (aCons (stE (op1 (getVar 0) lenP)) aNil))) (tgN 5)
 lb_read_course_1)
 (seqF (ifF (tst (op2 (op1 (getVar 2) lenP) (op1 (getVar 3) lenP) (eqP false)))
 (rseF 0 (op2 (op1 (getVar 0) lenP) (con (.int 1)) addP))
 nxt)
 (frzF 3 (frzF 2 (seqF (setF 8 (op1 (cmpE (seqE (getVar 2)) (tgN 9) yesT (stE (op1 (getVar 9) tupP)) [9]) tupP))
 (retF (tupE (aCons (stE (con (.str "course"))) (aCons (stE (op1 (getVar 1) tupP)) (aCons (stE (getVar 8)) (aCons (stE (op1 (cmpE (seqE (getVar 3)) (tgN 9) yesT (stE (op1 (getVar 9) tupP)) [9]) tupP)) aNil)))))))))))))))
def f_read_course : List D → Mem → R Val := fnD 10 b_read_course

def lb_read_enclosure_1 : FS :=
 (seqF (setF 4 (splitE (op2 (getVar 0) (getVar 3) idxP) (con (.str " "))))
 (seqF (ifF (andT (tst (op2 (op2 (getVar 4) (con (.int 0)) idxP) (con (.str "at")) (eqP false))) (tst (callE 1 f_are_names (aCons (stE (slE (getVar 4) (ixO (con (.int 1))) (fun _ M => .ok none M))) aNil))))
 (seqF (appF 1 (op1 (slE (getVar 4) (ixO (con (.int 1))) (fun _ M => .ok none M)) tupP))
 (seqF (appF 2 (mkCell (lstE aNil)))
 cntF))
 nxt)
 (seqF (setF 5 (callE 1 f_read_reason (aCons (stE (slE (getVar 4) (ixO (con (.int 2))) (fun _ M => .ok none M))) aNil)))
 (seqF (ifF (orT (tst (op2 (op2 (getVar 4) (con (.int 0)) idxP) (con (.str "exit")) (eqP true))) (orT (tst (op2 (op1 (getVar 1) lenP) (con (.int 0)) (eqP false))) (orT (tst (op2 (getVar 5) (con .non) (isNP false))) (notT (tst (callE 1 f_is_name (aCons (stE (op2 (getVar 4) (con (.int 1)) idxP)) aNil)))))))
 (rseF 0 (op2 (getVar 3) (con (.int 1)) addP))
 nxt)
 (appC (op2 (getVar 2) (op1 (con (.int 1)) negP) idxP) (tupE (aCons (stE (op2 (getVar 4) (con (.int 1)) idxP)) (aCons (stE (getVar 5)) aNil))))))))
def b_read_enclosure : FS :=
 (seqF (ownF 1 (lstE aNil))
 (seqF (ownF 2 (lstE aNil))
 (seqF (forF (rng2 (aCons (stE (con (.int 1))) (aCons (stE (op1 (getVar 0) lenP)) aNil))) (tgN 3)
 lb_read_enclosure_1)
 (frzF 2 (frzF 1 (seqF (setF 6 (cmpE (zip2 (aCons (stE (getVar 1)) (aCons (stE (getVar 2)) aNil))) (tgT 2 (tgsCons (tgN 7) (tgsCons (tgN 8) tgsNil))) yesT (stE (tupE (aCons (stE (getVar 7)) (aCons (stE (op1 (getVar 8) tupP)) aNil)))) [7, 8]))
 (retF (tupE (aCons (stE (con (.str "enclosure"))) (aCons (stE (op1 (getVar 6) tupP)) aNil))))))))))
def f_read_enclosure : List D → Mem → R Val := fnD 9 b_read_enclosure

def b_read_spoiled : FS :=
 (seqF (setF 1 (splitE (op2 (getVar 0) (con (.int 0)) idxP) (con (.str " "))))
 (seqF (setF 2 (callE 1 f_read_reason (aCons (stE (slE (getVar 1) (ixO (con (.int 1))) (fun _ M => .ok none M))) aNil)))
 (seqF (ifF (orT (tst (op2 (op2 (getVar 1) (con (.int 0)) idxP) (con (.str "spoiled")) (eqP true))) (orT (tst (op2 (getVar 2) (con .non) (isNP false))) (tst (op2 (op2 (getVar 2) (con (.int 0)) idxP) (con (.str "ban")) (eqP true)))))
 (rseF 0 (con (.int 1)))
 nxt)
 (seqF (ifF (tst (op2 (op1 (getVar 0) lenP) (con (.int 1)) gtP))
 (rseF 0 (con (.int 2)))
 nxt)
 (retF (tupE (aCons (stE (con (.str "spoiled"))) (aCons (stE (getVar 2)) aNil))))))))
def f_read_spoiled : List D → Mem → R Val := fnD 3 b_read_spoiled

def b_read_answer : FS :=
 (seqF (setF 1 (splitE (getVar 0) (con (.str "\n"))))
 (seqF (ifF (tst (op2 (op1 (getVar 1) lenP) (con (.int 20000)) gtP))
 (rseF 1 (con (.int 20000)))
 nxt)
 (seqF (ifF (tst (op2 (op2 (getVar 1) (con (.int 0)) idxP) (con (.str "course")) (eqP false)))
 (retF (callE 1 f_read_course (aCons (stE (getVar 1)) aNil)))
 nxt)
 (seqF (ifF (tst (op2 (op2 (getVar 1) (con (.int 0)) idxP) (con (.str "enclosure")) (eqP false)))
 (retF (callE 1 f_read_enclosure (aCons (stE (getVar 1)) aNil)))
 nxt)
 (retF (callE 1 f_read_spoiled (aCons (stE (getVar 1)) aNil)))))))
def f_read_answer : List D → Mem → R Val := fnD 2 b_read_answer

def b_row_line : FS :=
 (seqF (ifF (tst (op2 (op2 (getVar 0) (con (.int 0)) idxP) (con (.str "split")) (eqP false)))
 (retF (op2 (con (.str "split ")) (callE 1 f_condition_words (aCons (stE (op2 (getVar 0) (con (.int 1)) idxP)) aNil)) addP))
 nxt)
 (seqF (ifF (tst (op2 (op2 (getVar 0) (con (.int 0)) idxP) (con (.str "shown")) (eqP false)))
 (retF (joinE (con (.str " ")) (op2 (lstE (aCons (stE (con (.str "shown"))) aNil)) (cmpE (seqE (op2 (getVar 0) (con (.int 1)) idxP)) (tgN 1) yesT (stE (op1 (getVar 1) strP)) [1]) addP)))
 nxt)
 (retF (con (.str "void")))))
def f_row_line : List D → Mem → R Val := fnD 2 b_row_line

def b_visitor_words : FS :=
 (retF (joinE (con (.str " ")) (op2 (lstE (aCons (stE (op1 (op2 (getVar 0) (con (.int 0)) idxP) strP)) (aCons (stE (op1 (op2 (getVar 0) (con (.int 2)) idxP) strP)) aNil))) (op1 (op2 (getVar 0) (con (.int 1)) idxP) lstP) addP)))
def f_visitor_words : List D → Mem → R Val := fnD 1 b_visitor_words

def b_reason_words : FS :=
 (retF (op2 (op2 (op2 (op2 (op2 (getVar 0) (con (.int 0)) idxP) (con (.str " ")) addP) (op1 (op2 (getVar 0) (con (.int 1)) idxP) strP) addP) (con (.str " ")) addP) (callE 1 f_visitor_words (aCons (stE (op2 (getVar 0) (con (.int 2)) idxP)) aNil)) addP))
def f_reason_words : List D → Mem → R Val := fnD 1 b_reason_words

def lb_course_lines_1 : FS :=
 (seqF (appF 3 (op2 (con (.str "move ")) (getVar 5) addP))
 (seqF (extF 3 (cmpE (seqE (getVar 6)) (tgN 4) yesT (stE (callE 1 f_row_line (aCons (stE (getVar 4)) aNil))) [4]))
 (seqF (appF 3 (con (.str "state")))
 (extF 3 (cmpE (seqE (getVar 7)) (tgN 4) yesT (stE (callE 1 f_row_line (aCons (stE (getVar 4)) aNil))) [4])))))
def b_course_lines : FS :=
 (seqF (ownF 3 (op2 (lstE (aCons (stE (con (.str "course"))) (aCons (stE (con (.str "state"))) aNil))) (cmpE (seqE (op2 (getVar 1) (con (.int 0)) idxP)) (tgN 4) yesT (stE (callE 1 f_row_line (aCons (stE (getVar 4)) aNil))) [4]) addP))
 (seqF (forF (zip3 (aCons (stE (getVar 0)) (aCons (stE (getVar 2)) (aCons (stE (slE (getVar 1) (ixO (con (.int 1))) (fun _ M => .ok none M))) aNil)))) (tgT 3 (tgsCons (tgN 5) (tgsCons (tgN 6) (tgsCons (tgN 7) tgsNil))))
 lb_course_lines_1)
 (retV 3)))
def f_course_lines : List D → Mem → R Val := fnD 8 b_course_lines

def lb_enclosure_lines_1 : FS :=
 (appF 1 (op2 (op2 (op2 (con (.str "exit ")) (getVar 4) addP) (con (.str " ")) addP) (callE 1 f_reason_words (aCons (stE (getVar 5)) aNil)) addP))
def lb_enclosure_lines_2 : FS :=
 (seqF (appF 1 (joinE (con (.str " ")) (op2 (lstE (aCons (stE (con (.str "at"))) aNil)) (op1 (getVar 2) lstP) addP)))
 (forF (seqE (getVar 3)) (tgT 2 (tgsCons (tgN 4) (tgsCons (tgN 5) tgsNil)))
 lb_enclosure_lines_1))
def b_enclosure_lines : FS :=
 (seqF (ownF 1 (lstE (aCons (stE (con (.str "enclosure"))) aNil)))
 (seqF (forF (seqE (getVar 0)) (tgT 2 (tgsCons (tgN 2) (tgsCons (tgN 3) tgsNil)))
 lb_enclosure_lines_2)
 (retV 1)))
def f_enclosure_lines : List D → Mem → R Val := fnD 6 b_enclosure_lines

def b_write_answer : FS :=
 (seqF (ifF (tst (op2 (op2 (getVar 0) (con (.int 0)) idxP) (con (.str "course")) (eqP false)))
 (setF 1 (callE 3 f_course_lines (aCons (stE (op2 (getVar 0) (con (.int 1)) idxP)) (aCons (stE (op2 (getVar 0) (con (.int 2)) idxP)) (aCons (stE (op2 (getVar 0) (con (.int 3)) idxP)) aNil)))))
 (ifF (tst (op2 (op2 (getVar 0) (con (.int 0)) idxP) (con (.str "enclosure")) (eqP false)))
 (setF 1 (callE 1 f_enclosure_lines (aCons (stE (op2 (getVar 0) (con (.int 1)) idxP)) aNil)))
 (setF 1 (lstE (aCons (stE (op2 (con (.str "spoiled ")) (callE 1 f_reason_words (aCons (stE (op2 (getVar 0) (con (.int 1)) idxP)) aNil)) addP)) aNil)))))
 (retF (joinE (con (.str "\n")) (getVar 1))))
def f_write_answer : List D → Mem → R Val := fnD 2 b_write_answer

def b_law_draw : FS :=
 (seqF (ifF (andT (tst (op2 (op2 (getVar 0) (con (.int 2)) idxP) (con (.int 0)) (eqP false))) (tst (op2 (op2 (getVar 0) (con (.int 1)) idxP) (op1 (op2 (getVar 0) (con (.int 0)) idxP) lenP) ltP)))
 (seqF (setF 2 (op2 (op2 (getVar 0) (con (.int 0)) idxP) (op2 (getVar 0) (con (.int 1)) idxP) idxP))
 (seqF (putC (getVar 0) (con (.int 1)) (op2 (op2 (getVar 0) (con (.int 1)) idxP) (con (.int 1)) addP))
 (seqF (putC (getVar 0) (con (.int 3)) (op2 (op1 (op2 (op2 (op2 (getVar 0) (con (.int 3)) idxP) (con (.int 48271)) mulP) (getVar 2) addP) intOf) (con (.int 2147483647)) modP))
 (putC (getVar 0) (con (.int 2)) (op2 (getVar 2) (op1 (op2 (getVar 2) (op2 (con (.int 10)) (con (.int 18)) powP) geP) intOf) mulP)))))
 nxt)
 (seqF (ifF (tst (op2 (op2 (getVar 0) (con (.int 2)) idxP) (con (.int 0)) gtP))
 (seqF (setF 3 (op2 (op1 (op2 (getVar 0) (con (.int 2)) idxP) intOf) (getVar 1) modP))
 (seqF (putC (getVar 0) (con (.int 2)) (op2 (op2 (getVar 0) (con (.int 2)) idxP) (getVar 1) divP))
 (retF (getVar 3))))
 nxt)
 (seqF (putC (getVar 0) (con (.int 3)) (op2 (op1 (op2 (op2 (op2 (getVar 0) (con (.int 3)) idxP) (con (.int 69621)) mulP) (con (.int 11)) addP) intOf) (con (.int 2147483647)) modP))
 (retF (op2 (op1 (op2 (op2 (getVar 0) (con (.int 3)) idxP) (con (.int 64)) divP) intOf) (getVar 1) modP)))))
def f_law_draw : List D → Mem → R Val := fnD 4 b_law_draw

def b_law_source : FS :=
 (seqF (setF 1 (op2 (op2 (op2 (op2 (op2 (con (.int 10)) (con (.int 64)) powP) (op2 (con (.int 10)) (con (.int 64)) powP) mulP) (op2 (con (.int 10)) (con (.int 64)) powP) mulP) (op2 (con (.int 10)) (con (.int 64)) powP) mulP) (op2 (con (.int 10)) (con (.int 64)) powP) mulP))
 (seqF (cellF 2 (lstE (aCons (stE (cmpE (seqE (slE (getVar 0) (fun _ M => .ok none M) (ixO (con (.int 63))))) (tgN 3) yesT (stE (op2 (op1 (getVar 3) intOf) (getVar 1) modP)) [3])) (aCons (stE (con (.int 0))) (aCons (stE (con (.int 0))) (aCons (stE (con (.int 20011))) (aCons (stE (con (.int 0))) aNil)))))))
 (seqF (putC (getVar 2) (con (.int 4)) (callE 2 f_law_draw (aCons (stE (getVar 2)) (aCons (stE (con (.int 16))) aNil))))
 (retF (getVar 2)))))
def f_law_source : List D → Mem → R Val := fnD 4 b_law_source

def lb_law_names_1 : FS :=
 (ifF (tst (op2 (getVar 6) (getVar 3) (inP false)))
 (setF 6 (op2 (op2 (getVar 2) (op2 (op1 (op2 (getVar 5) (getVar 7) addP) intOf) (con (.int 25)) modP) idxP) (op1 (getVar 7) strP) addP))
 nxt)
def lb_law_names_2 : FS :=
 (setF 6 (op2 (getVar 6) (op2 (getVar 2) (callE 2 f_law_draw (aCons (stE (getVar 0)) (aCons (stE (con (.int 35))) aNil))) idxP) addP))
def lb_law_names_3 : FS :=
 (seqF (setF 5 (callE 2 f_law_draw (aCons (stE (getVar 0)) (aCons (stE (con (.int 25))) aNil))))
 (seqF (setF 6 (op2 (op2 (slE (con (.str "ab0cd1ef")) (fun _ M => .ok none M) (ixO (op2 (getVar 0) (con (.int 4)) idxP))) (op2 (getVar 2) (getVar 5) idxP) addP) (slE (con (.str "ab0cd1ef")) (ixO (op2 (op2 (getVar 0) (con (.int 4)) idxP) (con (.int 1)) addP)) (fun _ M => .ok none M)) addP))
 (seqF (ifF (tst (op2 (op2 (getVar 0) (con (.int 4)) idxP) (con (.int 7)) gtP))
 (seqF (setF 6 (op2 (getVar 2) (getVar 5) idxP))
 (forF (rng1 (aCons (stE (callE 2 f_law_draw (aCons (stE (getVar 0)) (aCons (stE (con (.int 8))) aNil)))) aNil)) (tgN 7)
 lb_law_names_2))
 nxt)
 (seqF (forF (rng1 (aCons (stE (con (.int 50))) aNil)) (tgN 7)
 lb_law_names_1)
 (appF 3 (getVar 6))))))
def b_law_names : FS :=
 (seqF (setF 2 (con (.str "abcdefghijklmnoprstuvwxyz0123456789")))
 (seqF (ownF 3 (lstE aNil))
 (seqF (forF (rng1 (aCons (stE (getVar 1)) aNil)) (tgN 4)
 lb_law_names_3)
 (retV 3))))
def f_law_names : List D → Mem → R Val := fnD 8 b_law_names

def b_law_number : FS :=
 (seqF (ifF (orT (tst (op2 (op1 (getVar 0) lenP) (con (.int 1)) ltP)) (orT (tst (op2 (op1 (getVar 0) lenP) (con (.int 10)) gtP)) (tst (op2 (op1 (cmpE (seqE (getVar 0)) (tgN 1) (tst (op2 (getVar 1) (con (.str "0123456789")) (inP true))) (stE (getVar 1)) [1]) lenP) (con (.int 0)) gtP))))
 (retF (op1 (con (.int 1)) negP))
 nxt)
 (seqF (ifF (andT (tst (op2 (op2 (getVar 0) (con (.int 0)) idxP) (con (.str "0")) (eqP false))) (tst (op2 (op1 (getVar 0) lenP) (con (.int 1)) gtP)))
 (retF (op1 (con (.int 1)) negP))
 nxt)
 (retF (op1 (getVar 0) intOf))))
def f_law_number : List D → Mem → R Val := fnD 2 b_law_number

def lb_law_named_1 : FS :=
 (seqF (ifF (orT (tst (op2 (op1 (getVar 2) lenP) (con (.int 1)) ltP)) (orT (tst (op2 (op1 (getVar 2) lenP) (con (.int 8)) gtP)) (tst (op2 (op2 (getVar 2) (con (.int 0)) idxP) (getVar 1) (inP true)))))
 (retF (con (.bl false)))
 nxt)
 (ifF (tst (op2 (op1 (cmpE (seqE (getVar 2)) (tgN 3) (tst (op2 (getVar 3) (op2 (getVar 1) (con (.str "0123456789")) addP) (inP true))) (stE (getVar 3)) [3]) lenP) (con (.int 0)) gtP))
 (retF (con (.bl false)))
 nxt))
def b_law_named : FS :=
 (seqF (setF 1 (con (.str "abcdefghijklmnopqrstuvwxyz")))
 (seqF (forF (seqE (getVar 0)) (tgN 2)
 lb_law_named_1)
 (retF (con (.bl true)))))
def f_law_named : List D → Mem → R Val := fnD 4 b_law_named

def b_law_condition_of : FS :=
 (seqF (setF 1 (op2 (slE (getVar 0) (fun _ M => .ok none M) (ixO (con (.int 1)))) (lstE (aCons (stE (con (.str "not"))) aNil)) (eqP true)))
 (seqF (setF 2 (slE (getVar 0) (ixO (op2 (con (.int 1)) (op1 (getVar 1) intOf) subP)) (fun _ M => .ok none M)))
 (seqF (setF 3 (cmpE (seqE (slE (getVar 2) (ixO (op1 (con (.int 2)) negP)) (fun _ M => .ok none M))) (tgN 4) yesT (stE (callE 1 f_law_number (aCons (stE (getVar 4)) aNil))) [4]))
 (seqF (ifF (andT (tst (op2 (op1 (getVar 2) lenP) (con (.int 2)) (eqP false))) (andT (tst (op2 (op2 (getVar 2) (con (.int 0)) idxP) (tupE (aCons (stE (con (.str "group"))) (aCons (stE (con (.str "feature"))) aNil))) (inP false))) (tst (callE 1 f_law_named (aCons (stE (slE (getVar 2) (ixO (con (.int 1))) (fun _ M => .ok none M))) aNil)))))
 (retF (tupE (aCons (stE (op2 (getVar 2) (con (.int 0)) idxP)) (aCons (stE (op2 (getVar 2) (con (.int 1)) idxP)) (aCons (stE (getVar 1)) aNil)))))
 nxt)
 (seqF (ifF (andT (tst (op2 (op1 (getVar 2) lenP) (con (.int 4)) (eqP false))) (andT (tst (op2 (op2 (getVar 2) (con (.int 0)) idxP) (con (.str "share")) (eqP false))) (andT (tst (callE 1 f_law_named (aCons (stE (slE (getVar 2) (ixO (con (.int 1))) (ixO (con (.int 2))))) aNil))) (tst (op2 (op1 (con (.int 1)) negP) (getVar 3) (inP true))))))
 (retF (tupE (aCons (stE (con (.str "share"))) (aCons (stE (op2 (getVar 2) (con (.int 1)) idxP)) (aCons (stE (op2 (getVar 3) (con (.int 0)) idxP)) (aCons (stE (op2 (getVar 3) (con (.int 1)) idxP)) (aCons (stE (getVar 1)) aNil)))))))
 nxt)
 (seqF (ifF (andT (tst (op2 (op1 (getVar 2) lenP) (con (.int 3)) (eqP false))) (andT (tst (op2 (op2 (getVar 2) (con (.int 0)) idxP) (con (.str "days")) (eqP false))) (tst (op2 (op1 (con (.int 1)) negP) (getVar 3) (inP true)))))
 (retF (tupE (aCons (stE (con (.str "days"))) (aCons (stE (op2 (getVar 3) (con (.int 0)) idxP)) (aCons (stE (op2 (getVar 3) (con (.int 1)) idxP)) (aCons (stE (getVar 1)) aNil))))))
 nxt)
 (retF (con .non))))))))
def f_law_condition_of : List D → Mem → R Val := fnD 5 b_law_condition_of

def b_law_spoilt : FS :=
 (seqF (ownF 2 (op1 (getVar 1) lstP))
 (seqF (setF 3 (callE 2 f_law_draw (aCons (stE (getVar 0)) (aCons (stE (op1 (getVar 2) lenP)) aNil))))
 (seqF (ownF 4 (splitE (op2 (getVar 2) (getVar 3) idxP) (con (.str " "))))
 (seqF (setF 5 (callE 2 f_law_draw (aCons (stE (getVar 0)) (aCons (stE (op1 (getVar 4) lenP)) aNil))))
 (seqF (setF 6 (lstE (aCons (stE (con (.str ""))) (aCons (stE (con (.str "0"))) (aCons (stE (con (.str "00"))) (aCons (stE (con (.str "01"))) (aCons (stE (con (.str "-1"))) (aCons (stE (con (.str "A"))) (aCons (stE (con (.str "a_b"))) (aCons (stE (con (.str "abcdefghi"))) (aCons (stE (con (.str "12345678901"))) (aCons (stE (con (.str "9999999999"))) (aCons (stE (con (.str "on"))) (aCons (stE (con (.str "off"))) (aCons (stE (con (.str "not"))) (aCons (stE (con (.str "first"))) aNil))))))))))))))))
 (seqF (setF 6 (op2 (getVar 6) (lstE (aCons (stE (con (.str "state"))) (aCons (stE (con (.str "void"))) (aCons (stE (con (.str "q"))) (aCons (stE (con (.str "1"))) (aCons (stE (con (.str "x1"))) (aCons (stE (con (.str "+1"))) (aCons (stE (con (.str "unarmed"))) (aCons (stE (con (.str "ban"))) (aCons (stE (con (.str "at"))) (aCons (stE (con (.str "goal"))) (aCons (stE (con (.str "agree"))) (aCons (stE (con (.str "days"))) (aCons (stE (con (.str "1a"))) (aCons (stE (con (.str "group"))) aNil))))))))))))))) addP))
 (seqF (setF 6 (op2 (getVar 6) (lstE (aCons (stE (con (.str "share"))) (aCons (stE (con (.str "feature"))) (aCons (stE (con (.str "shown"))) (aCons (stE (con (.str "split"))) (aCons (stE (con (.str "loss"))) aNil)))))) addP))
 (seqF (setF 7 (op2 (getVar 6) (callE 2 f_law_draw (aCons (stE (getVar 0)) (aCons (stE (op1 (getVar 6) lenP)) aNil))) idxP))
 (seqF (setF 8 (callE 2 f_law_draw (aCons (stE (getVar 0)) (aCons (stE (con (.int 12))) aNil))))
 (seqF (ifF (tst (op2 (getVar 8) (con (.int 0)) (eqP false)))
 (retF (op2 (slE (getVar 2) (fun _ M => .ok none M) (ixO (getVar 3))) (slE (getVar 2) (ixO (op2 (getVar 3) (con (.int 1)) addP)) (fun _ M => .ok none M)) addP))
 nxt)
 (seqF (ifF (tst (op2 (getVar 8) (con (.int 1)) (eqP false)))
 (retF (op2 (op2 (slE (getVar 2) (fun _ M => .ok none M) (ixO (getVar 3))) (slE (getVar 2) (ixO (getVar 3)) (ixO (op2 (getVar 3) (con (.int 1)) addP))) addP) (slE (getVar 2) (ixO (getVar 3)) (fun _ M => .ok none M)) addP))
 nxt)
 (seqF (ifF (tst (op2 (getVar 8) (con (.int 2)) (eqP false)))
 (retF (op2 (op2 (op2 (slE (getVar 2) (fun _ M => .ok none M) (ixO (getVar 3))) (slE (getVar 2) (ixO (op2 (getVar 3) (con (.int 1)) addP)) (ixO (op2 (getVar 3) (con (.int 2)) addP))) addP) (slE (getVar 2) (ixO (getVar 3)) (ixO (op2 (getVar 3) (con (.int 1)) addP))) addP) (slE (getVar 2) (ixO (op2 (getVar 3) (con (.int 2)) addP)) (fun _ M => .ok none M)) addP))
 nxt)
 (seqF (ifF (tst (op2 (getVar 8) (con (.int 3)) (eqP false)))
 (retF (slE (getVar 2) (fun _ M => .ok none M) (ixO (getVar 3))))
 nxt)
 (seqF (ifF (tst (op2 (getVar 8) (con (.int 4)) (eqP false)))
 (retF (op2 (op2 (slE (getVar 2) (fun _ M => .ok none M) (ixO (getVar 3))) (lstE (aCons (stE (getVar 7)) aNil)) addP) (slE (getVar 2) (ixO (getVar 3)) (fun _ M => .ok none M)) addP))
 nxt)
 (seqF (ifF (tst (op2 (getVar 8) (con (.int 5)) (eqP false)))
 (retF (op2 (getVar 2) (lstE (aCons (stE (getVar 7)) aNil)) addP))
 nxt)
 (seqF (ifF (tst (op2 (getVar 8) (con (.int 6)) (eqP false)))
 (ownF 4 (op2 (slE (getVar 4) (fun _ M => .ok none M) (ixO (getVar 5))) (slE (getVar 4) (ixO (op2 (getVar 5) (con (.int 1)) addP)) (fun _ M => .ok none M)) addP))
 nxt)
 (seqF (ifF (tst (op2 (getVar 8) (con (.int 7)) (eqP false)))
 (ownF 4 (op2 (op2 (slE (getVar 4) (fun _ M => .ok none M) (ixO (getVar 5))) (lstE (aCons (stE (getVar 7)) aNil)) addP) (slE (getVar 4) (ixO (getVar 5)) (fun _ M => .ok none M)) addP))
 nxt)
 (seqF (ifF (tst (op2 (getVar 8) (con (.int 8)) (eqP false)))
 (ownF 4 (op2 (getVar 4) (lstE (aCons (stE (getVar 7)) aNil)) addP))
 nxt)
 (seqF (ifF (tst (op2 (getVar 8) (con (.int 9)) (eqP false)))
 (putF 4 (getVar 5) (op2 (op2 (getVar 4) (getVar 5) idxP) (op2 (lstE (aCons (stE (con (.str "0"))) (aCons (stE (con (.str "a"))) (aCons (stE (con (.str " "))) (aCons (stE (con (.str "A"))) aNil))))) (callE 2 f_law_draw (aCons (stE (getVar 0)) (aCons (stE (con (.int 4))) aNil))) idxP) addP))
 nxt)
 (seqF (ifF (tst (op2 (getVar 8) (con (.int 9)) gtP))
 (putF 4 (getVar 5) (getVar 7))
 nxt)
 (seqF (putF 2 (getVar 3) (joinE (con (.str " ")) (getVar 4)))
 (retV 2))))))))))))))))))))))
def f_law_spoilt : List D → Mem → R Val := fnD 9 b_law_spoilt


def b_law_same (rec : List D → Mem → R Val) : FS :=
 (seqF (ifF (tst (op1 (getVar 1) (isiP "tuple")))
 (seqF (ifF (orT (notT (tst (op1 (getVar 0) (isiP "tuple")))) (tst (op2 (op1 (getVar 0) lenP) (op1 (getVar 1) lenP) (eqP true))))
 (retF (con (.bl false)))
 nxt)
 (retF (op2 (op1 (cmpE (rng1 (aCons (stE (op1 (getVar 1) lenP)) aNil)) (tgN 2) (notT (tst (callE 2 rec (aCons (stE (op2 (getVar 0) (getVar 2) idxP)) (aCons (stE (op2 (getVar 1) (getVar 2) idxP)) aNil))))) (stE (getVar 2)) [2]) lenP) (con (.int 0)) (eqP false))))
 nxt)
 (seqF (ifF (tst (op2 (getVar 1) (con .non) (isNP false)))
 (retF (op2 (getVar 0) (con .non) (isNP false)))
 nxt)
 (seqF (ifF (tst (op1 (getVar 1) (isiP "bool")))
 (retF (andV (op1 (getVar 0) (isiP "bool")) (op2 (getVar 0) (getVar 1) (eqP false))))
 nxt)
 (seqF (ifF (tst (op1 (getVar 1) (isiP "int")))
 (retF (andV (op1 (getVar 0) (isiP "int")) (andV (notV (op1 (getVar 0) (isiP "bool"))) (op2 (getVar 0) (getVar 1) (eqP false)))))
 nxt)
 (retF (andV (op1 (getVar 0) (isiP "str")) (op2 (getVar 0) (getVar 1) (eqP false))))))))
def f_law_same : Nat → List D → Mem → R Val
 | 0 => fun _ _ => .bad
 | k + 1 => fnD 3 (b_law_same (f_law_same k))

def lb_law_some_names_1 : FS :=
 (ifF (tst (op2 (op2 (getVar 0) (con (.int 4)) idxP) (tupE (aCons (stE (con (.int 3))) (aCons (stE (con (.int 6))) (aCons (stE (con (.int 9))) (aCons (stE (con (.int 12))) aNil))))) (inP false)))
 (seqF (setF 4 (lstE (aCons (stE (con (.str "not"))) (aCons (stE (con (.str "ban"))) (aCons (stE (con (.str "state"))) (aCons (stE (con (.str "void"))) (aCons (stE (con (.str "at"))) (aCons (stE (con (.str "exit"))) (aCons (stE (con (.str "loss"))) (aCons (stE (con (.str "group"))) (aCons (stE (con (.str "days"))) (aCons (stE (con (.str "share"))) (aCons (stE (con (.str "move"))) (aCons (stE (con (.str "shown"))) aNil))))))))))))))
 (putF 2 (getVar 3) (op2 (getVar 4) (callE 2 f_law_draw (aCons (stE (getVar 0)) (aCons (stE (con (.int 12))) aNil))) idxP)))
 nxt)
def b_law_some_names : FS :=
 (seqF (ownF 2 (callE 2 f_law_names (aCons (stE (getVar 0)) (aCons (stE (getVar 1)) aNil))))
 (seqF (forF (rng1 (aCons (stE (getVar 1)) aNil)) (tgN 3)
 lb_law_some_names_1)
 (retF (op1 (getVar 2) tupP))))
def f_law_some_names : List D → Mem → R Val := fnD 5 b_law_some_names

def lb_law_some_number_1 : FS :=
 (setF 2 (op2 (op2 (getVar 2) (con (.int 10)) mulP) (callE 2 f_law_draw (aCons (stE (getVar 0)) (aCons (stE (con (.int 10))) aNil))) addP))
def b_law_some_number : FS :=
 (seqF (setF 1 (op2 (con (.int 1)) (callE 2 f_law_draw (aCons (stE (getVar 0)) (aCons (stE (con (.int 10))) aNil))) addP))
 (seqF (setF 2 (con (.int 0)))
 (seqF (forF (rng1 (aCons (stE (getVar 1)) aNil)) (tgN 3)
 lb_law_some_number_1)
 (retF (op2 (lstE (aCons (stE (getVar 2)) (aCons (stE (con (.int 0))) (aCons (stE (con (.int 9999999999))) (aCons (stE (getVar 2)) aNil))))) (callE 2 f_law_draw (aCons (stE (getVar 0)) (aCons (stE (con (.int 4))) aNil))) idxP)))))
def f_law_some_number : List D → Mem → R Val := fnD 4 b_law_some_number

def b_law_some_condition : FS :=
 (seqF (setF 1 (op2 (callE 2 f_law_draw (aCons (stE (getVar 0)) (aCons (stE (con (.int 2))) aNil))) (con (.int 0)) (eqP false)))
 (seqF (setF 2 (callE 2 f_law_draw (aCons (stE (getVar 0)) (aCons (stE (con (.int 3))) aNil))))
 (seqF (ifF (tst (op2 (getVar 2) (con (.int 0)) (eqP false)))
 (retF (tupE (aCons (stE (con (.str "group"))) (aCons (stE (op2 (callE 2 f_law_some_names (aCons (stE (getVar 0)) (aCons (stE (con (.int 1))) aNil))) (con (.int 0)) idxP)) (aCons (stE (getVar 1)) aNil)))))
 nxt)
 (seqF (ifF (tst (op2 (getVar 2) (con (.int 1)) (eqP false)))
 (retF (tupE (aCons (stE (con (.str "share"))) (aCons (stE (op2 (callE 2 f_law_some_names (aCons (stE (getVar 0)) (aCons (stE (con (.int 1))) aNil))) (con (.int 0)) idxP)) (aCons (stE (callE 1 f_law_some_number (aCons (stE (getVar 0)) aNil))) (aCons (stE (callE 1 f_law_some_number (aCons (stE (getVar 0)) aNil))) (aCons (stE (getVar 1)) aNil)))))))
 nxt)
 (retF (tupE (aCons (stE (con (.str "days"))) (aCons (stE (callE 1 f_law_some_number (aCons (stE (getVar 0)) aNil))) (aCons (stE (callE 1 f_law_some_number (aCons (stE (getVar 0)) aNil))) (aCons (stE (getVar 1)) aNil))))))))))
def f_law_some_condition : List D → Mem → R Val := fnD 3 b_law_some_condition

def lb_law_some_rows_1 : FS :=
 (seqF (setF 3 (callE 2 f_law_draw (aCons (stE (getVar 0)) (aCons (stE (con (.int 3))) aNil))))
 (ifF (tst (op2 (getVar 3) (con (.int 0)) (eqP false)))
 (appF 1 (tupE (aCons (stE (con (.str "void"))) aNil)))
 (ifF (tst (op2 (getVar 3) (con (.int 1)) (eqP false)))
 (appF 1 (tupE (aCons (stE (con (.str "shown"))) (aCons (stE (op1 (cmpE (rng1 (aCons (stE (callE 2 f_law_draw (aCons (stE (getVar 0)) (aCons (stE (con (.int 5))) aNil)))) aNil)) (tgN 4) yesT (stE (callE 1 f_law_some_number (aCons (stE (getVar 0)) aNil))) [4]) tupP)) aNil))))
 (appF 1 (tupE (aCons (stE (con (.str "split"))) (aCons (stE (callE 1 f_law_some_condition (aCons (stE (getVar 0)) aNil))) aNil)))))))
def b_law_some_rows : FS :=
 (seqF (ownF 1 (lstE aNil))
 (seqF (forF (rng1 (aCons (stE (callE 2 f_law_draw (aCons (stE (getVar 0)) (aCons (stE (con (.int 5))) aNil)))) aNil)) (tgN 2)
 lb_law_some_rows_1)
 (retF (op1 (getVar 1) tupP))))
def f_law_some_rows : List D → Mem → R Val := fnD 5 b_law_some_rows

def b_law_some_reason : FS :=
 (seqF (setF 2 (callE 1 f_law_some_number (aCons (stE (getVar 0)) aNil)))
 (seqF (ifF (tst (op2 (getVar 1) (con (.str "loss")) (eqP false)))
 (setF 2 (op2 (callE 2 f_law_some_names (aCons (stE (getVar 0)) (aCons (stE (con (.int 1))) aNil))) (con (.int 0)) idxP))
 nxt)
 (seqF (setF 3 (callE 2 f_law_some_names (aCons (stE (getVar 0)) (aCons (stE (callE 2 f_law_draw (aCons (stE (getVar 0)) (aCons (stE (con (.int 4))) aNil)))) aNil))))
 (retF (tupE (aCons (stE (getVar 1)) (aCons (stE (getVar 2)) (aCons (stE (tupE (aCons (stE (callE 1 f_law_some_number (aCons (stE (getVar 0)) aNil))) (aCons (stE (getVar 3)) (aCons (stE (callE 1 f_law_some_number (aCons (stE (getVar 0)) aNil))) aNil))))) aNil))))))))
def f_law_some_reason : List D → Mem → R Val := fnD 4 b_law_some_reason

def lb_law_some_answer_1 : FS :=
 (appF 8 (tupE (aCons (stE (getVar 9)) (aCons (stE (callE 2 f_law_some_reason (aCons (stE (getVar 0)) (aCons (stE (op2 (lstE (aCons (stE (con (.str "ban"))) (aCons (stE (con (.str "loss"))) aNil))) (callE 2 f_law_draw (aCons (stE (getVar 0)) (aCons (stE (con (.int 2))) aNil))) idxP)) aNil)))) aNil))))
def lb_law_some_answer_2 : FS :=
 (seqF (setF 7 (callE 2 f_law_some_names (aCons (stE (getVar 0)) (aCons (stE (callE 2 f_law_draw (aCons (stE (getVar 0)) (aCons (stE (con (.int 5))) aNil)))) aNil))))
 (seqF (ownF 8 (lstE aNil))
 (seqF (forF (seqE (callE 2 f_law_some_names (aCons (stE (getVar 0)) (aCons (stE (callE 2 f_law_draw (aCons (stE (getVar 0)) (aCons (stE (con (.int 4))) aNil)))) aNil)))) (tgN 9)
 lb_law_some_answer_1)
 (appF 6 (tupE (aCons (stE (getVar 7)) (aCons (stE (op1 (getVar 8) tupP)) aNil)))))))
def b_law_some_answer : FS :=
 (seqF (setF 1 (callE 2 f_law_draw (aCons (stE (getVar 0)) (aCons (stE (con (.int 3))) aNil))))
 (seqF (ifF (tst (op2 (getVar 1) (con (.int 0)) (eqP false)))
 (seqF (setF 2 (callE 2 f_law_some_names (aCons (stE (getVar 0)) (aCons (stE (callE 2 f_law_draw (aCons (stE (getVar 0)) (aCons (stE (con (.int 5))) aNil)))) aNil))))
 (seqF (setF 3 (op1 (cmpE (rng1 (aCons (stE (op2 (op1 (getVar 2) lenP) (con (.int 1)) addP)) aNil)) (tgN 4) yesT (stE (callE 1 f_law_some_rows (aCons (stE (getVar 0)) aNil))) [4]) tupP))
 (retF (tupE (aCons (stE (con (.str "course"))) (aCons (stE (getVar 2)) (aCons (stE (getVar 3)) (aCons (stE (op1 (cmpE (seqE (getVar 2)) (tgN 5) yesT (stE (callE 1 f_law_some_rows (aCons (stE (getVar 0)) aNil))) [5]) tupP)) aNil))))))))
 nxt)
 (seqF (ifF (tst (op2 (getVar 1) (con (.int 1)) (eqP false)))
 (seqF (ownF 6 (lstE aNil))
 (seqF (forF (rng1 (aCons (stE (callE 2 f_law_draw (aCons (stE (getVar 0)) (aCons (stE (con (.int 5))) aNil)))) aNil)) (tgN 4)
 lb_law_some_answer_2)
 (retF (tupE (aCons (stE (con (.str "enclosure"))) (aCons (stE (op1 (getVar 6) tupP)) aNil))))))
 nxt)
 (retF (tupE (aCons (stE (con (.str "spoiled"))) (aCons (stE (callE 2 f_law_some_reason (aCons (stE (getVar 0)) (aCons (stE (con (.str "ban"))) aNil)))) aNil)))))))
def f_law_some_answer : List D → Mem → R Val := fnD 10 b_law_some_answer

def b_law_row_line : FS :=
 (seqF (ifF (tst (op2 (op2 (getVar 0) (con (.int 0)) idxP) (con (.str "shown")) (eqP false)))
 (retF (joinE (con (.str " ")) (op2 (lstE (aCons (stE (con (.str "shown"))) aNil)) (cmpE (seqE (op2 (getVar 0) (con (.int 1)) idxP)) (tgN 1) yesT (stE (op1 (getVar 1) strP)) [1]) addP)))
 nxt)
 (seqF (ifF (tst (op2 (op2 (getVar 0) (con (.int 0)) idxP) (con (.str "split")) (eqP false)))
 (retF (joinE (con (.str " ")) (op2 (op2 (lstE (aCons (stE (con (.str "split"))) aNil)) (op2 (lstE (aCons (stE (lstE (aCons (stE (con (.str "not"))) aNil))) (aCons (stE (lstE aNil)) aNil))) (op1 (op2 (op2 (getVar 0) (con (.int 1)) idxP) (op1 (con (.int 1)) negP) idxP) intOf) idxP) addP) (cmpE (seqE (slE (op2 (getVar 0) (con (.int 1)) idxP) (fun _ M => .ok none M) (ixO (op1 (con (.int 1)) negP)))) (tgN 2) yesT (stE (op1 (getVar 2) strP)) [2]) addP)))
 nxt)
 (retF (con (.str "void")))))
def f_law_row_line : List D → Mem → R Val := fnD 3 b_law_row_line

def b_law_reason_line : FS :=
 (seqF (asgF (tgT 3 (tgsCons (tgN 1) (tgsCons (tgN 2) (tgsCons (tgN 3) tgsNil)))) (stE (op2 (getVar 0) (con (.int 2)) idxP)))
 (retF (joinE (con (.str " ")) (op2 (lstE (aCons (stE (op2 (getVar 0) (con (.int 0)) idxP)) (aCons (stE (op1 (op2 (getVar 0) (con (.int 1)) idxP) strP)) (aCons (stE (op1 (getVar 1) strP)) (aCons (stE (op1 (getVar 3) strP)) aNil))))) (op1 (getVar 2) lstP) addP))))
def f_law_reason_line : List D → Mem → R Val := fnD 4 b_law_reason_line

def lb_law_written_1 : FS :=
 (seqF (ifF (tst (op2 (getVar 5) (con (.int 0)) gtP))
 (seqF (appF 1 (op2 (con (.str "move ")) (op2 (op2 (getVar 0) (con (.int 1)) idxP) (op2 (getVar 5) (con (.int 1)) subP) idxP) addP))
 (extF 1 (cmpE (seqE (op2 (op2 (getVar 0) (con (.int 3)) idxP) (op2 (getVar 5) (con (.int 1)) subP) idxP)) (tgN 4) yesT (stE (callE 1 f_law_row_line (aCons (stE (getVar 4)) aNil))) [4])))
 nxt)
 (seqF (appF 1 (con (.str "state")))
 (extF 1 (cmpE (seqE (op2 (op2 (getVar 0) (con (.int 2)) idxP) (getVar 5) idxP)) (tgN 4) yesT (stE (callE 1 f_law_row_line (aCons (stE (getVar 4)) aNil))) [4]))))
def lb_law_written_2 : FS :=
 (seqF (appF 1 (joinE (con (.str " ")) (op2 (lstE (aCons (stE (con (.str "at"))) aNil)) (op1 (getVar 2) lstP) addP)))
 (extF 1 (cmpE (seqE (getVar 3)) (tgN 4) yesT (stE (op2 (op2 (op2 (con (.str "exit ")) (op2 (getVar 4) (con (.int 0)) idxP) addP) (con (.str " ")) addP) (callE 1 f_law_reason_line (aCons (stE (op2 (getVar 4) (con (.int 1)) idxP)) aNil)) addP)) [4])))
def b_law_written : FS :=
 (seqF (ifF (tst (op2 (op2 (getVar 0) (con (.int 0)) idxP) (con (.str "spoiled")) (eqP false)))
 (retF (lstE (aCons (stE (op2 (con (.str "spoiled ")) (callE 1 f_law_reason_line (aCons (stE (op2 (getVar 0) (con (.int 1)) idxP)) aNil)) addP)) aNil)))
 nxt)
 (seqF (ownF 1 (lstE (aCons (stE (op2 (getVar 0) (con (.int 0)) idxP)) aNil)))
 (seqF (ifF (tst (op2 (op2 (getVar 0) (con (.int 0)) idxP) (con (.str "enclosure")) (eqP false)))
 (seqF (forF (seqE (op2 (getVar 0) (con (.int 1)) idxP)) (tgT 2 (tgsCons (tgN 2) (tgsCons (tgN 3) tgsNil)))
 lb_law_written_2)
 (retV 1))
 nxt)
 (seqF (forF (rng1 (aCons (stE (op1 (op2 (getVar 0) (con (.int 2)) idxP) lenP)) aNil)) (tgN 5)
 lb_law_written_1)
 (retV 1)))))
def f_law_written : List D → Mem → R Val := fnD 6 b_law_written

def b_law_row_of : FS :=
 (seqF (ifF (tst (op2 (getVar 0) (lstE (aCons (stE (con (.str "void"))) aNil)) (eqP false)))
 (retF (tupE (aCons (stE (con (.str "void"))) aNil)))
 nxt)
 (seqF (setF 1 (cmpE (seqE (slE (getVar 0) (ixO (con (.int 1))) (fun _ M => .ok none M))) (tgN 2) yesT (stE (callE 1 f_law_number (aCons (stE (getVar 2)) aNil))) [2]))
 (seqF (ifF (andT (tst (op2 (op2 (getVar 0) (con (.int 0)) idxP) (con (.str "shown")) (eqP false))) (tst (op2 (op1 (con (.int 1)) negP) (getVar 1) (inP true))))
 (retF (tupE (aCons (stE (con (.str "shown"))) (aCons (stE (op1 (getVar 1) tupP)) aNil))))
 nxt)
 (seqF (setF 3 (callE 1 f_law_condition_of (aCons (stE (slE (getVar 0) (ixO (con (.int 1))) (fun _ M => .ok none M))) aNil)))
 (seqF (ifF (orT (tst (op2 (op2 (getVar 0) (con (.int 0)) idxP) (con (.str "split")) (eqP true))) (orT (tst (op2 (getVar 3) (con .non) (isNP false))) (tst (op2 (op2 (getVar 3) (con (.int 0)) idxP) (con (.str "feature")) (eqP false)))))
 (retF (con .non))
 nxt)
 (retF (tupE (aCons (stE (con (.str "split"))) (aCons (stE (getVar 3)) aNil)))))))))
def f_law_row_of : List D → Mem → R Val := fnD 4 b_law_row_of

def b_law_reason_of : FS :=
 (seqF (ifF (orT (tst (op2 (op1 (getVar 0) lenP) (con (.int 4)) ltP)) (notT (tst (callE 1 f_law_named (aCons (stE (slE (getVar 0) (ixO (con (.int 4))) (fun _ M => .ok none M))) aNil)))))
 (retF (con .non))
 nxt)
 (seqF (setF 1 (lstE (aCons (stE (callE 1 f_law_number (aCons (stE (op2 (getVar 0) (con (.int 2)) idxP)) aNil))) (aCons (stE (callE 1 f_law_number (aCons (stE (op2 (getVar 0) (con (.int 3)) idxP)) aNil))) aNil))))
 (seqF (setF 2 (tupE (aCons (stE (op2 (getVar 1) (con (.int 0)) idxP)) (aCons (stE (op1 (slE (getVar 0) (ixO (con (.int 4))) (fun _ M => .ok none M)) tupP)) (aCons (stE (op2 (getVar 1) (con (.int 1)) idxP)) aNil)))))
 (seqF (ifF (andT (tst (op2 (op2 (getVar 0) (con (.int 0)) idxP) (con (.str "ban")) (eqP false))) (andT (tst (op2 (op1 (con (.int 1)) negP) (getVar 1) (inP true))) (tst (op2 (callE 1 f_law_number (aCons (stE (op2 (getVar 0) (con (.int 1)) idxP)) aNil)) (con (.int 0)) geP))))
 (retF (tupE (aCons (stE (con (.str "ban"))) (aCons (stE (callE 1 f_law_number (aCons (stE (op2 (getVar 0) (con (.int 1)) idxP)) aNil))) (aCons (stE (getVar 2)) aNil)))))
 nxt)
 (seqF (ifF (andT (tst (op2 (op2 (getVar 0) (con (.int 0)) idxP) (con (.str "loss")) (eqP false))) (andT (tst (op2 (op1 (con (.int 1)) negP) (getVar 1) (inP true))) (tst (callE 1 f_law_named (aCons (stE (slE (getVar 0) (ixO (con (.int 1))) (ixO (con (.int 2))))) aNil)))))
 (retF (tupE (aCons (stE (con (.str "loss"))) (aCons (stE (op2 (getVar 0) (con (.int 1)) idxP)) (aCons (stE (getVar 2)) aNil)))))
 nxt)
 (retF (con .non)))))))
def f_law_reason_of : List D → Mem → R Val := fnD 3 b_law_reason_of

def lb_law_read_course_1 : FS :=
 (seqF (setF 5 (splitE (op2 (getVar 0) (getVar 4) idxP) (con (.str " "))))
 (seqF (setF 6 (callE 1 f_law_row_of (aCons (stE (getVar 5)) aNil)))
 (ifF (andT (tst (op2 (getVar 5) (lstE (aCons (stE (con (.str "state"))) aNil)) (eqP false))) (tst (op2 (getVar 3) (con (.int 1)) (eqP true))))
 (seqF (setF 3 (con (.int 1)))
 (appF 1 (mkCell (lstE aNil))))
 (ifF (andT (tst (op2 (op2 (getVar 5) (con (.int 0)) idxP) (con (.str "move")) (eqP false))) (andT (tst (op2 (op1 (getVar 5) lenP) (con (.int 2)) (eqP false))) (andT (tst (callE 1 f_law_named (aCons (stE (slE (getVar 5) (ixO (con (.int 1))) (fun _ M => .ok none M))) aNil))) (tst (op2 (getVar 3) (con (.int 1)) (eqP false))))))
 (seqF (setF 3 (con (.int 2)))
 (seqF (appF 2 (op2 (getVar 5) (con (.int 1)) idxP))
 (appF 1 (mkCell (lstE aNil)))))
 (ifF (andT (tst (op2 (getVar 6) (con .non) (isNP true))) (tst (op2 (getVar 3) (con (.int 0)) gtP)))
 (seqF (setF 7 (op2 (getVar 1) (op1 (con (.int 1)) negP) idxP))
 (appC (getVar 7) (getVar 6)))
 (retF (tupE (aCons (stE (con (.str "error"))) (aCons (stE (tupE (aCons (stE (con (.str "BadLine"))) (aCons (stE (op2 (getVar 4) (con (.int 1)) addP)) aNil)))) aNil)))))))))
def b_law_read_course : FS :=
 (seqF (ownF 1 (lstE aNil))
 (seqF (ownF 2 (lstE aNil))
 (seqF (setF 3 (con (.int 0)))
 (seqF (forF (rng2 (aCons (stE (con (.int 1))) (aCons (stE (op1 (getVar 0) lenP)) aNil))) (tgN 4)
 lb_law_read_course_1)
 (seqF (ifF (tst (op2 (getVar 3) (con (.int 1)) (eqP true)))
 (retF (tupE (aCons (stE (con (.str "error"))) (aCons (stE (tupE (aCons (stE (con (.str "BadLine"))) (aCons (stE (op2 (op1 (getVar 0) lenP) (con (.int 1)) addP)) aNil)))) aNil))))
 nxt)
 (frzF 1 (seqF (setF 8 (cmpE (seqE (getVar 1)) (tgN 7) yesT (stE (op1 (getVar 7) tupP)) [7]))
 (retF (tupE (aCons (stE (con (.str "value"))) (aCons (stE (tupE (aCons (stE (con (.str "course"))) (aCons (stE (op1 (getVar 2) tupP)) (aCons (stE (op1 (op1 (getVar 8) (stepP 0)) tupP)) (aCons (stE (op1 (op1 (getVar 8) (stepP 1)) tupP)) aNil)))))) aNil)))))))))))
def f_law_read_course : List D → Mem → R Val := fnD 9 b_law_read_course

def lb_law_read_enclosure_1 : FS :=
 (seqF (setF 4 (splitE (op2 (getVar 0) (getVar 3) idxP) (con (.str " "))))
 (seqF (setF 5 (callE 1 f_law_reason_of (aCons (stE (slE (getVar 4) (ixO (con (.int 2))) (fun _ M => .ok none M))) aNil)))
 (ifF (andT (tst (op2 (op2 (getVar 4) (con (.int 0)) idxP) (con (.str "at")) (eqP false))) (tst (callE 1 f_law_named (aCons (stE (slE (getVar 4) (ixO (con (.int 1))) (fun _ M => .ok none M))) aNil))))
 (seqF (appF 1 (op1 (slE (getVar 4) (ixO (con (.int 1))) (fun _ M => .ok none M)) tupP))
 (appF 2 (mkCell (lstE aNil))))
 (ifF (andT (tst (op2 (op2 (getVar 4) (con (.int 0)) idxP) (con (.str "exit")) (eqP false))) (andT (tst (op2 (op1 (getVar 1) lenP) (con (.int 0)) gtP)) (andT (tst (callE 1 f_law_named (aCons (stE (slE (getVar 4) (ixO (con (.int 1))) (ixO (con (.int 2))))) aNil))) (tst (op2 (getVar 5) (con .non) (isNP true))))))
 (seqF (setF 6 (op2 (getVar 2) (op1 (con (.int 1)) negP) idxP))
 (appC (getVar 6) (tupE (aCons (stE (op2 (getVar 4) (con (.int 1)) idxP)) (aCons (stE (getVar 5)) aNil)))))
 (retF (tupE (aCons (stE (con (.str "error"))) (aCons (stE (tupE (aCons (stE (con (.str "BadLine"))) (aCons (stE (op2 (getVar 3) (con (.int 1)) addP)) aNil)))) aNil))))))))
def b_law_read_enclosure : FS :=
 (seqF (ownF 1 (lstE aNil))
 (seqF (ownF 2 (lstE aNil))
 (seqF (forF (rng2 (aCons (stE (con (.int 1))) (aCons (stE (op1 (getVar 0) lenP)) aNil))) (tgN 3)
 lb_law_read_enclosure_1)
 (retF (tupE (aCons (stE (con (.str "value"))) (aCons (stE (tupE (aCons (stE (con (.str "enclosure"))) (aCons (stE (op1 (cmpE (rng1 (aCons (stE (op1 (getVar 1) lenP)) aNil)) (tgN 7) yesT (stE (tupE (aCons (stE (op2 (getVar 1) (getVar 7) idxP)) (aCons (stE (op1 (op2 (getVar 2) (getVar 7) idxP) tupP)) aNil)))) [7]) tupP)) aNil)))) aNil)))))))
def f_law_read_enclosure : List D → Mem → R Val := fnD 8 b_law_read_enclosure

def b_law_read : FS :=
 (seqF (ifF (tst (op2 (op1 (getVar 0) lenP) (con (.int 20000)) gtP))
 (retF (tupE (aCons (stE (con (.str "error"))) (aCons (stE (tupE (aCons (stE (con (.str "TooMany"))) (aCons (stE (con (.int 20000))) aNil)))) aNil))))
 nxt)
 (seqF (ifF (tst (op2 (op2 (getVar 0) (con (.int 0)) idxP) (con (.str "course")) (eqP false)))
 (retF (callE 1 f_law_read_course (aCons (stE (getVar 0)) aNil)))
 nxt)
 (seqF (ifF (tst (op2 (op2 (getVar 0) (con (.int 0)) idxP) (con (.str "enclosure")) (eqP false)))
 (retF (callE 1 f_law_read_enclosure (aCons (stE (getVar 0)) aNil)))
 nxt)
 (seqF (setF 1 (splitE (op2 (getVar 0) (con (.int 0)) idxP) (con (.str " "))))
 (seqF (setF 2 (callE 1 f_law_reason_of (aCons (stE (slE (getVar 1) (ixO (con (.int 1))) (fun _ M => .ok none M))) aNil)))
 (seqF (ifF (orT (tst (op2 (op2 (getVar 1) (con (.int 0)) idxP) (con (.str "spoiled")) (eqP true))) (orT (tst (op2 (slE (getVar 1) (ixO (con (.int 1))) (ixO (con (.int 2)))) (lstE (aCons (stE (con (.str "ban"))) aNil)) (eqP true))) (tst (op2 (getVar 2) (con .non) (isNP false)))))
 (retF (tupE (aCons (stE (con (.str "error"))) (aCons (stE (tupE (aCons (stE (con (.str "BadLine"))) (aCons (stE (con (.int 1))) aNil)))) aNil))))
 nxt)
 (seqF (ifF (tst (op2 (op1 (getVar 0) lenP) (con (.int 1)) gtP))
 (retF (tupE (aCons (stE (con (.str "error"))) (aCons (stE (tupE (aCons (stE (con (.str "BadLine"))) (aCons (stE (con (.int 2))) aNil)))) aNil))))
 nxt)
 (retF (tupE (aCons (stE (con (.str "value"))) (aCons (stE (tupE (aCons (stE (con (.str "spoiled"))) (aCons (stE (getVar 2)) aNil)))) aNil)))))))))))
def f_law_read : List D → Mem → R Val := fnD 3 b_law_read

/-- what _law_told tells of an error -/
def f_told (c : Nat) (d : RS.D) : RS.D := .tup [.str (if c = 0 then "BadLine" else "TooMany"), d]
def b_law_call0 : FS := retF (tupE (aCons (stE (con (.str "value"))) (aCons (stE (callE 1 f_read_answer (aCons (stE (getVar 0)) aNil))) aNil)))
def b_law_call : FS := tryF b_law_call0 (fun c d => .tup [.str "error", f_told c d])
def f_law_call : List RS.D → Mem → R Val := fnD 2 b_law_call

def b_law_agrees : FS :=
 (seqF (setF 1 (joinE (con (.str "\n")) (getVar 0)))
 (seqF (setF 2 (callE 1 f_law_read (aCons (stE (splitE (getVar 1) (con (.str "\n")))) aNil)))
 (seqF (ifF (notT (tst (callE 2 (f_law_same 20) (aCons (stE (callE 1 f_law_call (aCons (stE (getVar 1)) aNil))) (aCons (stE (getVar 2)) aNil)))))
 (retF (con (.bl false)))
 nxt)
 (retF (orV (op2 (op2 (getVar 2) (con (.int 0)) idxP) (con (.str "error")) (eqP false)) (callE 2 (f_law_same 20) (aCons (stE (callE 1 f_write_answer (aCons (stE (op2 (getVar 2) (con (.int 1)) idxP)) aNil))) (aCons (stE (getVar 1)) aNil))))))))
def f_law_agrees : List D → Mem → R Val := fnD 3 b_law_agrees

def lb_law_1 : FS :=
 (seqF (setF 5 (callE 2 f_law_spoilt (aCons (stE (getVar 1)) (aCons (stE (getVar 3)) aNil))))
 (seqF (ifF (andT (tst (op2 (callE 2 f_law_draw (aCons (stE (getVar 1)) (aCons (stE (con (.int 4))) aNil))) (con (.int 0)) (eqP false))) (tst (op2 (op1 (getVar 5) lenP) (con (.int 0)) gtP)))
 (setF 5 (callE 2 f_law_spoilt (aCons (stE (getVar 1)) (aCons (stE (getVar 5)) aNil))))
 nxt)
 (ifF (notT (tst (callE 1 f_law_agrees (aCons (stE (getVar 5)) aNil))))
 (retF (con (.bl false)))
 nxt)))
def b_law : FS :=
 (seqF (setF 1 (callE 1 f_law_source (aCons (stE (getVar 0)) aNil)))
 (seqF (setF 2 (callE 1 f_law_some_answer (aCons (stE (getVar 1)) aNil)))
 (seqF (setF 3 (callE 1 f_law_written (aCons (stE (getVar 2)) aNil)))
 (seqF (ifF (tst (op2 (callE 2 f_law_draw (aCons (stE (getVar 1)) (aCons (stE (con (.int 16))) aNil))) (con (.int 0)) (eqP false)))
 (seqF (setF 2 (tupE (aCons (stE (con (.str "course"))) (aCons (stE (tupE aNil)) (aCons (stE (tupE (aCons (stE (op2 (tupE (aCons (stE (tupE (aCons (stE (con (.str "void"))) aNil))) aNil)) (op2 (con (.int 19998)) (callE 2 f_law_draw (aCons (stE (getVar 1)) (aCons (stE (con (.int 2))) aNil))) addP) mulP)) aNil))) (aCons (stE (tupE aNil)) aNil))))))
 (retF (callE 1 f_law_agrees (aCons (stE (callE 1 f_law_written (aCons (stE (getVar 2)) aNil))) aNil))))
 nxt)
 (seqF (ifF (orT (notT (tst (callE 2 (f_law_same 20) (aCons (stE (callE 1 f_law_call (aCons (stE (joinE (con (.str "\n")) (getVar 3))) aNil))) (aCons (stE (tupE (aCons (stE (con (.str "value"))) (aCons (stE (getVar 2)) aNil)))) aNil))))) (notT (tst (callE 1 f_law_agrees (aCons (stE (getVar 3)) aNil)))))
 (retF (con (.bl false)))
 nxt)
 (seqF (forF (rng1 (aCons (stE (con (.int 16))) aNil)) (tgN 4)
 lb_law_1)
 (retF (andV (callE 1 f_law_agrees (aCons (stE (lstE (aCons (stE (con (.str ""))) aNil))) aNil)) (callE 1 f_law_agrees (aCons (stE (op2 (getVar 3) (lstE (aCons (stE (con (.str ""))) aNil)) addP)) aNil))))))))))
def f_law : List D → Mem → R Val := fnD 6 b_law

end K58
set_option Elab.async false
set_option linter.all false
set_option maxRecDepth 100000
set_option maxHeartbeats 2000000
/-! law_k58: what the mirrors lean on. -/
namespace K58
open PySem L2 RS
theorem mk_eq (w : W) (s : Str) : mk w = s ↔ w = sl s := ⟨fun h => by rw [← h]; simp [sl], fun h => by rw [h]; exact TL.mk_tl s⟩
@[simp] theorem mk_beq (w : W) (s : Str) : (mk w == s) = decide (w = sl s) := by
  rw [Bool.eq_iff_iff]; simp [mk_eq]
@[simp] theorem beq_mk (w : W) (s : Str) : (s == mk w) = decide (w = sl s) := by
  rw [Bool.eq_iff_iff]; simp [eq_comm (a := s), mk_eq]
@[simp] theorem eqP_str (neg : Bool) (a b : Str) (M : Mem) : eqP neg (.val (.str a)) (.val (.str b)) M = .ok (.val (.bl (if neg then !(a == b) else (a == b)))) M := rfl
@[simp] theorem eqP_int (neg : Bool) (a b : Int) (M : Mem) : eqP neg (.val (.int a)) (.val (.int b)) M = .ok (.val (.bl (if neg then !(a == b) else (a == b)))) M := rfl
@[simp] theorem sIx_two (n d : Nat) : HT.sIx n d (some 2) = min 2 n := HT.sIx_nat n d 2
@[simp] theorem sIx_one (n d : Nat) : HT.sIx n d (some 1) = min 1 n := HT.sIx_nat n d 1
@[simp] theorem sIx_zero (n d : Nat) : HT.sIx n d (some 0) = min 0 n := HT.sIx_nat n d 0
@[simp] theorem sIx_four (n d : Nat) : HT.sIx n d (some 4) = min 4 n := HT.sIx_nat n d 4
theorem drop_min {α : Type} (k : Nat) (l : List α) : l.drop (min k l.length) = l.drop k := by
  rcases Nat.le_total k l.length with h | h
  · rw [Nat.min_eq_left h]
  · rw [Nat.min_eq_right h, List.drop_length, List.drop_eq_nil_of_le h]
theorem cut_from {α : Type} (k : Nat) (l : List α) : cutL l (some (k : Int)) none = l.drop k := by
  unfold cutL
  rw [HT.sIx_nat, HT.sIx_none, drop_min, List.take_of_length_le]
  rw [List.length_drop]; omega
theorem cut_to {α : Type} (k : Nat) (l : List α) : cutL l none (some (k : Int)) = l.take k := by
  unfold cutL
  rw [HT.sIx_nat, HT.sIx_none, List.drop_zero, Nat.sub_zero]
  rcases Nat.le_total k l.length with h | h
  · rw [Nat.min_eq_left h]
  · rw [Nat.min_eq_right h, List.take_length, List.take_of_length_le h]
@[simp] theorem cut_f1 {α : Type} (l : List α) : cutL l (some 1) none = l.drop 1 := cut_from 1 l
@[simp] theorem cut_f2 {α : Type} (l : List α) : cutL l (some 2) none = l.drop 2 := cut_from 2 l
@[simp] theorem cut_f4 {α : Type} (l : List α) : cutL l (some 4) none = l.drop 4 := cut_from 4 l
@[simp] theorem cut_f0 {α : Type} (l : List α) : cutL l (some 0) none = l := by have := cut_from 0 l; simpa using this
@[simp] theorem cut_t1 {α : Type} (l : List α) : cutL l none (some 1) = l.take 1 := cut_to 1 l
@[simp] theorem cut_t2 {α : Type} (l : List α) : cutL l none (some 2) = l.take 2 := cut_to 2 l
@[simp] theorem slP_lst (l : List D) (lo hi : Option Int) (M : Mem) : slP (.val (.lst l)) lo hi M = .ok (.own (cutL l lo hi)) M := rfl
@[simp] theorem slP_bor (l : List D) (lo hi : Option Int) (M : Mem) : slP (.bor l) lo hi M = .ok (.own (cutL l lo hi)) M := rfl
@[simp] theorem slP_tup (l : List D) (lo hi : Option Int) (M : Mem) : slP (.val (.tup l)) lo hi M = .ok (.val (.tup (cutL l lo hi))) M := rfl
@[simp] theorem slE_ap (f : FE) (fl fh : Sl → Mem → R (Option Int)) (ρ : Sl) (M : Mem) : slE f fl fh ρ M = (f ρ M).bind fun x M => (fl ρ M).bind fun lo M => (fh ρ M).bind fun hi M => slP x lo hi M := rfl
@[simp] theorem lenP_lst (l : List D) (M : Mem) : lenP (.val (.lst l)) M = .ok (.val (.int l.length)) M := rfl
@[simp] theorem lenP_tup (l : List D) (M : Mem) : lenP (.val (.tup l)) M = .ok (.val (.int l.length)) M := rfl
@[simp] theorem lenP_bor (l : List D) (M : Mem) : lenP (.bor l) M = .ok (.val (.int l.length)) M := rfl
@[simp] theorem lenP_own (l : List D) (M : Mem) : lenP (.own l) M = .ok (.val (.int l.length)) M := rfl
@[simp] theorem isNP_non (neg : Bool) (M : Mem) : isNP neg (.val .non) (.val .non) M = .ok (.val (.bl (!neg))) M := by cases neg <;> rfl
@[simp] theorem isNP_lst (neg : Bool) (l : List D) (M : Mem) : isNP neg (.val (.lst l)) (.val .non) M = .ok (.val (.bl neg)) M := by cases neg <;> rfl
@[simp] theorem isNP_tup (neg : Bool) (l : List D) (M : Mem) : isNP neg (.val (.tup l)) (.val .non) M = .ok (.val (.bl neg)) M := by cases neg <;> rfl
@[simp] theorem isNP_int (neg : Bool) (l : Int) (M : Mem) : isNP neg (.val (.int l)) (.val .non) M = .ok (.val (.bl neg)) M := by cases neg <;> rfl
@[simp] theorem isNP_str (neg : Bool) (l : Str) (M : Mem) : isNP neg (.val (.str l)) (.val .non) M = .ok (.val (.bl neg)) M := by cases neg <;> rfl
@[simp] theorem addP_tup (a b : List D) (M : Mem) : addP (.val (.tup a)) (.val (.tup b)) M = (if (a ++ b).length ≤ LIM then .ok (.val (.tup (a ++ b))) M else .bad) := by
  unfold addP; simp
/-- words as data -/
abbrev tx (ws : List W) : List D := ws.map fun w => D.str (mk w)
def optD (o : Option D) : D := o.getD .non
def numD (o : Option Nat) : D := match o with | some n => .int n | none => .non
end K58
set_option Elab.async false
set_option linter.all false
set_option maxRecDepth 100000
set_option maxHeartbeats 2000000
/-! law_k58: the program's readers compute the plain reader. -/
namespace K58
open PySem L2 RS
theorem m_is_name (w : W) (M : Mem) : f_is_name [.str (mk w)] M = .ok (.val (.bl (isName w))) M := by
  unfold f_is_name fnD b_is_name
  by_cases h8 : w.length ≤ 8
  · cases w with
    | nil => simp [chn, isName]
    | cons c r =>
      have h8' : (r.length : Int) + 1 ≤ 8 := by simp at h8; omega
      have h1' : (1 : Int) ≤ (r.length : Int) + 1 := by omega
      by_cases hc : c ∈ letters
      · have hc' : c ∈ (Str.ofString "abcdefghijklmnopqrstuvwxyz").cps.toList := hc
        have L := forGo_all (t := tgN 1) (b := lb_is_name_1) (fun c => D.str (mk [c])) (fun ρ => ∃ d, ρ = [.val (.str (mk (c :: r))), d]) (fun c => decide (c ∈ letters) || decide (c ∈ digits)) (.val (.bl false)) M (c :: r) [.val (.str (mk (c :: r))), .none] ⟨_, rfl⟩ (fun a _ ρ ⟨d, e⟩ => by
          subst e
          refine ⟨_, rfl, ?_⟩
          unfold lb_is_name_1
          by_cases h1 : a ∈ letters
          · have h1' : a ∈ (Str.ofString "abcdefghijklmnopqrstuvwxyz").cps.toList := h1
            simp [h1, h1']
          · have h1' : ¬ a ∈ (Str.ofString "abcdefghijklmnopqrstuvwxyz").cps.toList := h1
            by_cases h2 : a ∈ digits
            · have h2' : a ∈ (Str.ofString "0123456789").cps.toList := h2
              simp [h1, h1', h2, h2']
            · have h2' : ¬ a ∈ (Str.ofString "0123456789").cps.toList := h2
              simp [h1, h1', h2, h2'])
        simp only [List.map_cons] at L
        have hn : isName (c :: r) = (c :: r).all fun c => decide (c ∈ letters) || decide (c ∈ digits) := by
          unfold isName
          simp only [hc, h8, decide_true, Bool.and_true, Bool.true_and]
          simp
        rw [hn]
        simp [chn, h8', h1', hc']
        split at L
        · rename_i hp
          obtain ⟨ρ', q, _⟩ := L
          simp [q]
          simpa using hp
        · rename_i hp
          simp [L]
          simpa using hp
      · have hc' : ¬ c ∈ (Str.ofString "abcdefghijklmnopqrstuvwxyz").cps.toList := hc
        simp [chn, h8', h1', hc', isName, hc]
  · have h8' : ¬ (w.length : Int) ≤ 8 := by omega
    have h1' : (1 : Int) ≤ w.length := by omega
    simp [chn, h8', h1', isName, h8]

theorem zero_is : sl "0" = [48] := by decide +kernel
theorem m_read_number (w : W) (M : Mem) : f_read_number [.str (mk w)] M = .ok (.val (numD (num? w))) M := by
  unfold f_read_number fnD b_read_number
  by_cases h10 : w.length ≤ 10
  · cases w with
    | nil => simp [chn, num?, goodNum, numD]
    | cons c r =>
      have h10' : (r.length : Int) + 1 ≤ 10 := by simp at h10; omega
      have h1' : (1 : Int) ≤ (r.length : Int) + 1 := by omega
      have L := forGo_all (t := tgN 1) (b := lb_read_number_1) (fun c => D.str (mk [c])) (fun ρ => ∃ d, ρ = [.val (.str (mk (c :: r))), d]) (fun c => decide (c ∈ digits)) (.val .non) M (c :: r) [.val (.str (mk (c :: r))), .none] ⟨_, rfl⟩ (fun a _ ρ ⟨d, e⟩ => by
        subst e
        refine ⟨_, rfl, ?_⟩
        unfold lb_read_number_1
        by_cases h1 : a ∈ digits
        · have h1' : a ∈ (Str.ofString "0123456789").cps.toList := h1
          simp [h1, h1']
        · have h1' : ¬ a ∈ (Str.ofString "0123456789").cps.toList := h1
          simp [h1, h1'])
      simp only [List.map_cons] at L
      simp [chn, h10', h1']
      split at L
      · rename_i hp
        obtain ⟨ρ', q, d, hρ⟩ := L
        subst hρ
        rw [q]
        have hd : NumText.AllDigits (c :: r) := fun x hx => mem_digits.mp (by have := List.all_eq_true.mp hp x hx; simpa using this)
        have hi : intText? (mk (c :: r)) = some ((NumText.digitsVal (c :: r) : Nat) : Int) := by
          have := PySem.intText_digits (x := mk (c :: r)) (by simpa using hd) (by simp) (by simp at h10 ⊢; omega)
          simpa using this
        have hlen : (mk (c :: r)).length ≤ 640 := by rw [mk_len]; omega
        have hint : intOf (.val (.str (mk (c :: r)))) M = .ok (.val (.int (NumText.digitsVal (c :: r) : Nat))) M := by
          show (match intText? (mk (c :: r)) with | some n => if (mk (c :: r)).length ≤ 640 then R.ok (Val.val (RS.D.int n)) M else R.bad | none => R.bad) = _
          rw [hi]
          simp only [if_pos hlen]
        by_cases hz : c = 48 ∧ 0 < r.length
        · obtain ⟨rfl, hr⟩ := hz
          have hg : goodNum (48 :: r) = false := by unfold goodNum; simp [hr]
          have h1 : (1 : Int) < (r.length : Int) + 1 := by omega
          simp [num?, hg, numD, zero_is, h1]
        · have hg : goodNum (c :: r) = true := by
            unfold goodNum
            simp only [hp, h10, Bool.and_eq_true, decide_eq_true_eq]
            simp
            by_cases hc : c = 48
            · exact .inr (by cases r with | nil => rfl | cons a b => exact absurd ⟨hc, by simp⟩ hz)
            · exact .inl hc
          by_cases hc : c = 48
          · have hr : r = [] := by cases r with | nil => rfl | cons a b => exact absurd ⟨hc, by simp⟩ hz
            subst hr
            simp [num?, hg, numD, zero_is, hc, hint]
            subst hc
            simp [hint, hg]
          · simp [num?, hg, numD, zero_is, hc, hint]
      · rename_i hp
        have hg : goodNum (c :: r) = false := by unfold goodNum; rw [Bool.eq_false_iff.mpr hp]; simp
        simp [L, num?, hg, numD]
  · have h10' : ¬ (w.length : Int) ≤ 10 := by omega
    have h1' : (1 : Int) ≤ w.length := by omega
    simp [chn, h10', h1', num?, goodNum, h10, numD]

theorem bools_map {α : Type} (f : α → Bool) : ∀ l : List α, bools? (l.map fun a => RS.D.bl (f a)) = some (l.map f)
  | [] => rfl
  | a :: l => by
    show (bools? (l.map fun a => RS.D.bl (f a))).map _ = _
    rw [bools_map f l]; rfl
theorem m_are_names (ws : List W) (M : Mem) (hl : ws.length ≤ SLIM) : f_are_names [.lst (tx ws)] M = .ok (.val (.bl (ws.all isName))) M := by
  unfold f_are_names fnD b_are_names
  have C := cmpE_plain (fi := seqE (getVar 0)) (t := tgN 1) (b := yesT) (e := stE (callE 1 f_is_name (aCons (stE (getVar 1)) aNil))) (vs := [1]) (ρ := [.val (.lst (tx ws)), .none]) (M := M) (fun w => RS.D.str (mk w)) (fun _ => true) (fun w => .bl (isName w)) ws (by simp) hl
    (fun w _ => ⟨_, rfl, rfl, fun _ => by simp [wipeS, m_is_name]⟩)
  have hf : (ws.filter fun _ => true) = ws := by simp
  rw [hf] at C
  simp [C, allP, bools_map]
def lstD (o : Option (List Nat)) : RS.D := match o with | some ns => .lst (ns.map fun (n : Nat) => .int n) | none => .non
theorem nums_non : ∀ (ws : List W), (match nums? ws with | some ns => (ws.map fun w => numD (num? w)) = (ns.map fun (n : Nat) => RS.D.int n) ∧ inF .non (ws.map fun w => numD (num? w)) = false | none => inF .non (ws.map fun w => numD (num? w)) = true)
  | [] => ⟨rfl, rfl⟩
  | w :: ws => by
    have ih := nums_non ws
    have e : ∀ d l, inF .non (d :: l) = (eqF d .non || inF .non l) := fun d l => rfl
    unfold nums?
    rw [List.map_cons, e]
    cases h : num? w with
    | none => simp [numD, eqF]
    | some n =>
      cases h2 : nums? ws with
      | none => rw [h2] at ih; simp only at ih ⊢; rw [ih]; simp
      | some ns =>
        rw [h2] at ih
        simp only at ih ⊢
        rw [ih.2]
        exact ⟨by rw [List.map_cons, ih.1]; rfl, rfl⟩
theorem nums_flat (ws : List W) : (ws.map fun w => numD (num? w)).all flatB = true := by
  rw [List.all_map, List.all_eq_true]
  intro w _
  show flatB (numD (num? w)) = true
  cases num? w <;> rfl
theorem m_read_numbers (ws : List W) (M : Mem) (hl : ws.length ≤ SLIM) : f_read_numbers [.lst (tx ws)] M = .ok (.val (lstD (nums? ws))) M := by
  unfold f_read_numbers fnD b_read_numbers
  have C := cmpE_plain (fi := seqE (getVar 0)) (t := tgN 2) (b := yesT) (e := stE (callE 1 f_read_number (aCons (stE (getVar 2)) aNil))) (vs := [2]) (ρ := [.val (.lst (tx ws)), .none, .none]) (M := M) (fun w => RS.D.str (mk w)) (fun _ => true) (fun w => numD (num? w)) ws (by simp) hl
    (fun w _ => ⟨_, rfl, rfl, fun _ => by simp [wipeS, m_read_number]⟩)
  have hf : (ws.filter fun _ => true) = ws := by simp
  rw [hf] at C
  have N := nums_non ws
  have hin : inP false (.val .non) (.val (.lst (ws.map fun w => numD (num? w)))) M = .ok (.val (.bl (inF .non (ws.map fun w => numD (num? w))))) M := by
    show (if flatB .non && (ws.map fun w => numD (num? w)).all flatB then _ else _) = _
    rw [nums_flat]; rfl
  simp [C, hin]
  cases h : nums? ws with
  | none => rw [h] at N; simp only at N; simp [N, lstD]
  | some ns =>
    rw [h] at N
    simp only at N
    have N2 := N.2
    rw [N.1] at N2
    simp [N.1, N2, lstD]
end K58
set_option Elab.async false
set_option linter.all false
set_option maxRecDepth 100000
set_option maxHeartbeats 2000000
/-! law_k58: the program's readers of conditions, rows, reasons. -/
namespace K58
open PySem L2 RS
@[simp] theorem mk_sl (s : Str) : mk (sl s) = s := TL.mk_tl s
def posD : CondK → List RS.D
  | .group x => [.str "group", .str (mk x)] | .feature x => [.str "feature", .str (mk x)] | .share x a b => [.str "share", .str (mk x), .int a, .int b] | .days a b => [.str "days", .int a, .int b]
def condD (c : Cond) : RS.D := .tup (posD c.k ++ [.bl c.yes])
def rowD : Row → RS.D
  | .void => .tup [.str "void"] | .shown ns => .tup [.str "shown", .tup (ns.map fun (n : Nat) => .int n)] | .split c => .tup [.str "split", condD c]
def visD (v : Vis) : RS.D := .tup [.int v.n, .tup (tx v.gs), .int v.day]
def whyD : Why → List RS.D
  | .ban i => [.str "ban", .int i] | .loss x => [.str "loss", .str (mk x)]
def reasonD (q : Reason) : RS.D := .tup (whyD q.why ++ [visD q.v])
@[simp] theorem inP_two (neg : Bool) (s a b : Str) (M : Mem) : inP neg (.val (.str s)) (.val (.tup [.str a, .str b])) M = .ok (.val (.bl (if neg then !((a == s) || (b == s)) else ((a == s) || (b == s))))) M := by
  simp [inP, flatB, inF, eqF]
theorem m_read_positive (ws : List W) (M : Mem) (hl : ws.length ≤ SLIM) : f_read_positive [.lst (tx ws)] M = .ok (.val (match pos? ws with | some k => .tup (posD k) | none => .non)) M := by
  unfold f_read_positive fnD b_read_positive
  match ws, hl with
  | [], _ => simp [pos?]
  | [a], _ => simp [pos?]
  | [a, x], _ =>
    by_cases h1 : a = sl "group"
    · by_cases h2 : isName x = true
      · simp +decide [pos?, h1, h2, m_is_name, LIM, posD]
      · simp +decide [pos?, h1, h2, m_is_name, LIM, n_fg.symm]
    · by_cases h3 : a = sl "feature"
      · by_cases h2 : isName x = true
        · simp +decide [pos?, h3, h2, m_is_name, LIM, posD, n_fg]
        · simp +decide [pos?, h3, h2, m_is_name, LIM, n_fg]
      · simp [pos?, h1, h3, LIM]
  | [a, p, q], _ =>
    by_cases h1 : a = sl "days"
    · have hn : nums? [p, q] = (match num? p, num? q with | some p, some q => some [p, q] | _, _ => none) := by
        unfold nums? nums? nums?
        cases num? p <;> cases num? q <;> rfl
      have R := m_read_numbers [p, q] M (by simp [SLIM])
      rw [hn] at R
      cases hp : num? p with
      | none => rw [hp] at R; simp [lstD] at R; simp [pos?, h1, hp, R]
      | some p' =>
        cases hq : num? q with
        | none => rw [hp, hq] at R; simp [lstD] at R; simp [pos?, h1, hp, hq, R]
        | some q' => rw [hp, hq] at R; simp [lstD] at R; simp [pos?, h1, hp, hq, R, LIM, posD]
    · simp [pos?, h1]
  | [a, x, p, q], _ =>
    by_cases h1 : a = sl "share"
    · by_cases h2 : isName x = true
      · have hn : nums? [p, q] = (match num? p, num? q with | some p, some q => some [p, q] | _, _ => none) := by
          unfold nums? nums? nums?
          cases num? p <;> cases num? q <;> rfl
        have R := m_read_numbers [p, q] M (by simp [SLIM])
        rw [hn] at R
        cases hp : num? p with
        | none => rw [hp] at R; simp [lstD] at R; simp [pos?, h1, h2, hp, R, m_is_name]
        | some p' =>
          cases hq : num? q with
          | none => rw [hp, hq] at R; simp [lstD] at R; simp [pos?, h1, h2, hp, hq, R, m_is_name]
          | some q' => rw [hp, hq] at R; simp [lstD] at R; simp [pos?, h1, h2, hp, hq, R, LIM, posD, m_is_name]
      · simp [pos?, h1, h2, m_is_name]
    · simp [pos?, h1]
  | a :: b :: c :: d :: e :: r, _ =>
    have e2 : ¬ ((r.length : Int) + 1 + 1 + 1 + 1 + 1 = 2) := by omega
    have e3 : ¬ ((r.length : Int) + 1 + 1 + 1 + 1 + 1 = 3) := by omega
    have e4 : ¬ ((r.length : Int) + 1 + 1 + 1 + 1 + 1 = 4) := by omega
    simp [pos?, e2, e3, e4]

def kD (o : Option CondK) : RS.D := match o with | some k => .tup (posD k) | none => .non
def cD (o : Option Cond) : RS.D := match o with | some c => condD c | none => .non
theorem m_pos (ws : List W) (M : Mem) (hl : ws.length ≤ SLIM) : f_read_positive [.lst (tx ws)] M = .ok (.val (kD (pos? ws))) M := by
  rw [m_read_positive ws M hl]
  cases pos? ws <;> rfl
theorem posD_len (k : CondK) : (posD k).length ≤ 4 := by cases k <;> simp [posD]
theorem m_read_condition (ws : List W) (M : Mem) (hl : ws.length ≤ SLIM) : f_read_condition [.lst (tx ws)] M = .ok (.val (cD (cond? ws))) M := by
  unfold f_read_condition fnD b_read_condition
  cases ws with
  | nil =>
    have R := m_pos [] M hl
    simp [pos?, kD] at R
    simp [cond?, R, cD]
  | cons w r =>
    have h0 : (0 : Int) < (r.length : Int) + 1 := by omega
    by_cases h1 : w = sl "not"
    · have R := m_pos r M (by simp at hl; omega)
      cases hk : pos? r with
      | none => rw [hk] at R; simp [kD] at R; simp [cond?, h1, h0, R, hk, cD]
      | some k =>
        have := posD_len k
        rw [hk] at R; simp [kD] at R
        have h5 : (posD k).length + 1 ≤ 16000001 := by omega
        simp [cond?, h1, h0, R, hk, cD, condD, h5, addP, LIM]
    · have R := m_pos (w :: r) M hl
      cases hk : pos? (w :: r) with
      | none => rw [hk] at R; simp [kD] at R; simp [cond?, h1, h0, R, hk, cD]
      | some k =>
        have := posD_len k
        rw [hk] at R; simp [kD] at R
        have h5 : (posD k).length + 1 ≤ 16000001 := by omega
        simp [cond?, h1, h0, R, hk, cD, condD, h5, addP, LIM]
end K58
set_option Elab.async false
set_option linter.all false
set_option maxRecDepth 100000
set_option maxHeartbeats 2000000
/-! law_k58: rows, visitors, reasons. -/
namespace K58
open PySem L2 RS
theorem m_gcond (ws : List W) (M : Mem) (hl : ws.length ≤ SLIM) : f_read_ground_condition [.lst (tx ws)] M = .ok (.val (cD (gcond? ws))) M := by
  unfold f_read_ground_condition fnD b_read_ground_condition
  have R := m_read_condition ws M hl
  cases h : cond? ws with
  | none => rw [h] at R; simp [cD] at R; simp [gcond?, h, R, cD]
  | some c =>
    obtain ⟨k, y⟩ := c
    rw [h] at R
    cases k <;> (simp [cD, condD, posD] at R; simp +decide [gcond?, h, R, cD, condD, posD, isFeature, Option.filter])
theorem flats_words : ∀ ws : List W, flats? (tx ws) = some (ws.map fun w => PyData.str (mk w))
  | [] => rfl
  | w :: ws => by
    show (match flat? (.str (mk w)), flats? (tx ws) with | some p, some ps => some (p :: ps) | _, _ => none) = _
    rw [flats_words ws]; rfl
theorem eqv_words (ws : List W) (s : Str) : PyData.eqv (.list (ws.map fun w => PyData.str (mk w))) (.list [.str s]) = decide (ws = [sl s]) := by
  match ws with
  | [] => rfl
  | [w] =>
    show ((mk w == s) && true) = _
    rw [mk_beq, Bool.and_true]
    simp
  | w :: v :: r =>
    show ((mk w == s) && false) = _
    simp
theorem eqP_words {neg : Bool} {x y : Val} {M : Mem} {ws : List W} {s : Str} (hx : view x M = .lst (tx ws)) (hy : view y M = .lst [.str s]) : eqP neg x y M = .ok (.val (.bl (if neg then !decide (ws = [sl s]) else decide (ws = [sl s])))) M := by
  have e1 : py? (view x M) = some (.list (ws.map fun w => PyData.str (mk w))) := by
    rw [hx]
    show (flats? (tx ws)).map PyData.list = _
    rw [flats_words]; rfl
  have e2 : py? (view y M) = some (.list [.str s]) := by rw [hy]; rfl
  unfold eqP
  rw [e1, e2]
  simp only [eqv_words]
@[simp] theorem tupP_lst (l : List RS.D) (M : Mem) : tupP (.val (.lst l)) M = .ok (.val (.tup l)) M := rfl
@[simp] theorem tupP_bor (l : List RS.D) (M : Mem) : tupP (.bor l) M = .ok (.val (.tup l)) M := rfl
@[simp] theorem tupP_own (l : List RS.D) (M : Mem) : tupP (.own l) M = .ok (.val (.tup l)) M := rfl
def rD (o : Option Row) : RS.D := match o with | some r => rowD r | none => .non
theorem m_row (ws : List W) (M : Mem) (h0 : ws ≠ []) (hl : ws.length ≤ SLIM) : f_read_row [.lst (tx ws)] M = .ok (.val (rD (row? ws))) M := by
  unfold f_read_row fnD b_read_row
  have E := eqP_words (neg := false) (x := .val (.lst (tx ws))) (y := .own [.str "void"]) (M := M) rfl rfl
  cases ws with
  | nil => exact absurd rfl h0
  | cons w r =>
    have hr : r.length ≤ SLIM := by simp at hl; omega
    by_cases hv : w :: r = [sl "void"]
    · have hv' : w = sl "void" ∧ r = [] := by simpa using hv
      simp [hv] at E
      simp [E, hv'.1, hv'.2, row?, rD, rowD, LIM]
    · have hv' : ¬ (w = sl "void" ∧ r = []) := fun z => hv (by rw [z.1, z.2])
      simp only [hv, decide_false] at E
      simp only [List.map_cons] at E
      by_cases h1 : w = sl "shown"
      · have R := m_read_numbers r M hr
        subst h1
        simp only [mk_sl] at E
        cases hn : nums? r with
        | none => rw [hn] at R; simp [lstD] at R; simp +decide [E, R, row?, rD, hn, LIM, n_sv]
        | some ns => rw [hn] at R; simp [lstD] at R; simp +decide [E, R, row?, rD, rowD, hn, LIM, n_sv]
      · by_cases h2 : w = sl "split"
        · have R := m_gcond r M hr
          subst h2
          simp only [mk_sl] at E
          cases hn : gcond? r with
          | none => rw [hn] at R; simp [cD] at R; simp +decide [E, R, row?, rD, hn, LIM, n_pv, n_ps]
          | some c => rw [hn] at R; simp [cD] at R; simp +decide [E, R, row?, rD, rowD, hn, LIM, n_pv, n_ps, condD]
        · simp [E, h1, h2, row?, rD, hv', LIM]

def vD (o : Option Vis) : RS.D := match o with | some v => visD v | none => .non
theorem m_visitor (ws : List W) (M : Mem) (hl : ws.length ≤ SLIM) : f_read_visitor [.lst (tx ws)] M = .ok (.val (vD (vis? ws))) M := by
  unfold f_read_visitor fnD b_read_visitor
  match ws, hl with
  | [], _ => simp [vis?, vD]
  | [a], _ => simp [vis?, vD]
  | a :: b :: gs, hl =>
    have hg : gs.length ≤ SLIM := by simp at hl; omega
    have h2 : ¬ ((gs.length : Int) + 1 + 1 < 2) := by omega
    have N := m_are_names gs M hg
    by_cases hn : gs.all isName = true
    · rw [hn] at N
      have hn2 : nums? [a, b] = (match num? a, num? b with | some p, some q => some [p, q] | _, _ => none) := by
        unfold nums? nums? nums?
        cases num? a <;> cases num? b <;> rfl
      have R := m_read_numbers [a, b] M (by simp [SLIM])
      rw [hn2] at R
      cases hp : num? a with
      | none => rw [hp] at R; simp [lstD] at R; simp [vis?, hn, hp, R, N, h2, vD]
      | some p' =>
        cases hq : num? b with
        | none => rw [hp, hq] at R; simp [lstD] at R; simp [vis?, hn, hp, hq, R, N, h2, vD]
        | some q' => rw [hp, hq] at R; simp [lstD] at R; simp [vis?, hn, hp, hq, R, N, h2, vD, visD, LIM]
    · rw [Bool.eq_false_iff.mpr hn] at N
      simp [vis?, hn, N, h2, vD]
def qD (o : Option Reason) : RS.D := match o with | some v => reasonD v | none => .non
theorem m_reason (ws : List W) (M : Mem) (hl : ws.length ≤ SLIM) : f_read_reason [.lst (tx ws)] M = .ok (.val (qD (reason? ws))) M := by
  unfold f_read_reason fnD b_read_reason
  match ws, hl with
  | [], _ => simp [reason?, qD]
  | [a], _ => simp [reason?, qD]
  | a :: x :: r, hl =>
    have hr : r.length ≤ SLIM := by simp at hl; omega
    have h2 : ¬ ((r.length : Int) + 1 + 1 < 2) := by omega
    have V := m_visitor r M hr
    by_cases h1 : a = sl "ban"
    · subst h1
      cases hv : vis? r with
      | none =>
        rw [hv] at V; simp [vD] at V
        cases hx : num? x with
        | none => simp +decide [reason?, hx, hv, V, h2, qD, m_read_number, numD, LIM]
        | some n => simp +decide [reason?, hx, hv, V, h2, qD, m_read_number, numD, LIM]
      | some v =>
        rw [hv] at V; simp [vD] at V
        cases hx : num? x with
        | none => simp +decide [reason?, hx, hv, V, h2, qD, m_read_number, numD, LIM]
        | some n => simp +decide [reason?, hx, hv, V, h2, qD, m_read_number, numD, LIM, reasonD, whyD, visD]
    · by_cases h3 : a = sl "loss"
      · subst h3
        cases hv : vis? r with
        | none =>
          rw [hv] at V; simp [vD] at V
          by_cases hx : isName x = true
          · simp +decide [reason?, hx, hv, V, h2, qD, m_is_name, LIM, n_lb]
          · simp +decide [reason?, hx, hv, V, h2, qD, m_is_name, LIM, n_lb]
        | some v =>
          rw [hv] at V; simp [vD] at V
          by_cases hx : isName x = true
          · simp +decide [reason?, hx, hv, V, h2, qD, m_is_name, LIM, n_lb, reasonD, whyD, visD]
          · simp +decide [reason?, hx, hv, V, h2, qD, m_is_name, LIM, n_lb]
      · simp [reason?, h1, h3, h2, qD, LIM]
end K58
set_option Elab.async false
set_option linter.all false
set_option maxRecDepth 100000
set_option maxHeartbeats 4000000
/-! law_k58: the loops over lines. -/
namespace K58
open PySem L2 RS
def pairsF {α : Type} : List α → Nat → List (Nat × α)
  | [], _ => []
  | x :: l, i => (i, x) :: pairsF l (i + 1)
theorem pairs_range : ∀ (ls : List W) (i : Nat), (pairsF ls i).map (fun p => RS.D.int (p.1 : Nat)) = (List.range ls.length).map fun (k : Nat) => RS.D.int ((i : Int) + (k : Int))
  | [], i => rfl
  | x :: ls, i => by
    have ih := pairs_range ls (i + 1)
    show RS.D.int (i : Nat) :: (pairsF ls (i + 1)).map _ = _
    rw [ih, List.length_cons, List.range_succ_eq_map, List.map_cons, List.map_map]
    have e0 : (i : Int) + ((0 : Nat) : Int) = (i : Int) := by omega
    rw [e0]
    congr 1
    refine List.map_congr_left fun k _ => ?_
    show RS.D.int (((i + 1 : Nat) : Int) + k) = RS.D.int ((i : Int) + ((k + 1 : Nat) : Int))
    congr 1
    omega
def stepX {σ : Type} (step : List W → σ → Option σ) (p : Nat × W) (s : σ) : Except Nat σ := match step (splitC 32 p.2) s with | some s' => .ok s' | none => .error (p.1 + 1)
theorem foldX_cons {α σ ε : Type} (f : α → σ → Except ε σ) (a : α) (l : List α) (s : σ) : foldX f (a :: l) s = (match f a s with | .ok s' => foldX f l s' | .error e => .error e) := rfl
theorem fold_pairs {σ : Type} (step : List W → σ → Option σ) : ∀ (ls : List W) (i : Nat) (s : σ), foldX (stepX step) (pairsF ls i) s = foldL step i (ls.map (splitC 32)) s
  | [], i, s => rfl
  | x :: ls, i, s => by
    show foldX (stepX step) ((i, x) :: pairsF ls (i + 1)) s = _
    rw [foldX_cons, List.map_cons, foldL_cons]
    unfold stepX
    simp only
    cases step (splitC 32 x) s with
    | none => rfl
    | some s' => exact fold_pairs step ls (i + 1) s'
def refsE (n : Nat) : Nat → List RS.D
  | 0 => []
  | k + 1 => if k % 2 = 0 then refsE n k ++ [.ref (n + k)] else refsE n k
def refsO (n : Nat) : Nat → List RS.D
  | 0 => []
  | k + 1 => if k % 2 = 1 then refsO n k ++ [.ref (n + k)] else refsO n k
theorem refsE_len (n : Nat) : ∀ k, (refsE n k).length = (k + 1) / 2
  | 0 => rfl
  | k + 1 => by
    have := refsE_len n k
    unfold refsE
    split
    · rw [List.length_append, this]; simp; omega
    · rw [this]; omega
theorem refsO_len (n : Nat) : ∀ k, (refsO n k).length = k / 2
  | 0 => rfl
  | k + 1 => by
    have := refsO_len n k
    unfold refsO
    split
    · rw [List.length_append, this]; simp; omega
    · rw [this]; omega
@[simp] theorem sign_sp : sign? (Str.ofString " ") = some 32 := by decide +kernel
@[simp] theorem sign_nl : sign? (Str.ofString "\n") = some 10 := by decide +kernel
theorem split_at (f : FE) (ρ : Sl) (M : Mem) (l : W) (hf : f ρ M = .ok (.val (.str (mk l))) M) (hl : l.length + 2 ≤ SLIM) : splitE f (con (.str " ")) ρ M = .ok (.own (tx (splitC 32 l))) M := by
  unfold splitE
  rw [hf]
  simp [hl, txts]
theorem split_nl (f : FE) (ρ : Sl) (M : Mem) (l : W) (hf : f ρ M = .ok (.val (.str (mk l))) M) (hl : l.length + 2 ≤ SLIM) : splitE f (con (.str "\n")) ρ M = .ok (.own (tx (splitC 10 l))) M := by
  unfold splitE
  rw [hf]
  simp [hl, txts]
@[simp] theorem appF_ap (i : Nat) (f : FE) (ρ : Sl) (M : Mem) : appF i f ρ M = (match ρ[i]? with
  | some (.own l) => (stE f ρ M).bind fun d M => if l.length < LIM then .ok (.next (ρ.set i (.own (l ++ [d])))) M else .bad
  | _ => .bad) := rfl
/-- where the course's loop stands -/
structure CI (lines : List W) (M0 : Mem) (rest : List (Nat × W)) (ρ : Sl) (M : Mem) (s : CS) : Prop where
  h : ∃ i d5 d6 d7, rest = pairsF (lines.drop i) i ∧ i ≤ lines.length ∧ s.1.length ≤ i ∧ s.2.length ≤ i ∧ (∀ t ∈ s.2, t.length ≤ i) ∧ M = M0 ++ s.2.map (fun t => some (t.map rowD)) ∧
    ρ = [.val (.lst (tx lines)), .own (tx s.1), .own (refsE M0.length s.2.length), .own (refsO M0.length s.2.length), .val (if s.2.length = 0 then .non else .ref (M0.length + (s.2.length - 1))), d5, d6, d7, .none, .none]
theorem ci_mk {lines : List W} {M0 M : Mem} {rest : List (Nat × W)} {s : CS} {e o : List RS.D} {cur : RS.D} (i : Nat) (d5 d6 d7 : Slot) (h1 : rest = pairsF (lines.drop i) i) (h2 : i ≤ lines.length) (h3 : s.1.length ≤ i) (h4 : s.2.length ≤ i) (h5 : ∀ t ∈ s.2, t.length ≤ i)
    (h6 : M = M0 ++ s.2.map (fun t => some (t.map rowD))) (hE : e = refsE M0.length s.2.length) (hO : o = refsO M0.length s.2.length) (hc : cur = (if s.2.length = 0 then .non else .ref (M0.length + (s.2.length - 1)))) :
    CI lines M0 rest [.val (.lst (tx lines)), .own (tx s.1), .own e, .own o, .val cur, d5, d6, d7, .none, .none] M s := ⟨⟨i, d5, d6, d7, h1, h2, h3, h4, h5, h6, by rw [hE, hO, hc]⟩⟩
section
variable {L : Slot} {ms ws : List W} {e o : List RS.D} {cur : RS.D} {i : Nat} {d6 d7 : Slot} {M : Mem}
abbrev cslots (L : Slot) (ms : List W) (e o : List RS.D) (cur : RS.D) (i : Nat) (d6 d7 : Slot) : Sl := [L, .own (tx ms), .own e, .own o, .val cur, .val (.int (i : Nat)), d6, d7, .none, .none]
variable (sp : splitE (op2 (getVar 0) (getVar 5) idxP) (con (.str " ")) (cslots L ms e o cur i d6 d7) M = .ok (.own (tx ws)) M)
include sp
theorem cl_state (hw : ws = [sl "state"]) (he : e.length = o.length) (hb : e.length < 16000001) :
    lb_read_course_1 (cslots L ms e o cur i d6 d7) M = .ok (.next (cslots L ms (e ++ [.ref M.length]) o (.ref M.length) i (.val (.lst (tx ws))) d7)) (M ++ [some []]) := by
  subst hw
  have E := eqP_words (neg := false) (x := .val (.lst (tx [sl "state"]))) (y := .own [.str "state"]) (M := M) rfl rfl
  simp at E
  unfold lb_read_course_1
  simp [sp]
  simp [E, LIM, hb, he]
  omega
theorem cl_move {x : W} (hw : ws = [sl "move", x]) (he : o.length < e.length) (hb : e.length < 16000001) (hm : ms.length < 16000001) (hx : isName x = true) :
    lb_read_course_1 (cslots L ms e o cur i d6 d7) M = .ok (.next (cslots L (ms ++ [x]) e (o ++ [.ref M.length]) (.ref M.length) i (.val (.lst (tx ws))) d7)) (M ++ [some []]) := by
  subst hw
  have E := eqP_words (neg := false) (x := .val (.lst (tx [sl "move", x]))) (y := .own [.str "state"]) (M := M) rfl rfl
  simp at E
  unfold lb_read_course_1
  have ho : o.length < 16000001 := by omega
  simp [sp]
  simp [E, LIM, hb, he, ho, hm, m_is_name, hx]
theorem cl_move_bad {x : W} (hw : ws = [sl "move", x]) (he : o.length < e.length) (hx : isName x = false) :
    lb_read_course_1 (cslots L ms e o cur i d6 d7) M = .exn 0 (.int ((i + 1 : Nat) : Int)) M := by
  subst hw
  have E := eqP_words (neg := false) (x := .val (.lst (tx [sl "move", x]))) (y := .own [.str "state"]) (M := M) rfl rfl
  simp at E
  unfold lb_read_course_1
  simp [sp]
  simp [E, LIM, he, m_is_name, hx, addP]
def cl_tail : FS := (seqF (setF 7 (callE 1 f_read_row (aCons (stE (getVar 6)) aNil))) (seqF (ifF (orT (tst (op2 (getVar 7) (con .non) (isNP false))) (tst (op2 (getVar 4) (con .non) (isNP false)))) (rseF 0 (op2 (getVar 5) (con (.int 1)) addP)) nxt) (appC (getVar 4) (getVar 7))))
theorem cl_else {w : W} {r : List W} (hw : ws = w :: r) (hA : ¬ (ws = [sl "state"] ∧ e.length = o.length)) (hB : ¬ (w = sl "move" ∧ r.length = 1 ∧ o.length < e.length)) :
    lb_read_course_1 (cslots L ms e o cur i d6 d7) M = cl_tail (cslots L ms e o cur i (.val (.lst (tx ws))) d7) M := by
  have E := eqP_words (neg := false) (x := .val (.lst (tx ws))) (y := .own [.str "state"]) (M := M) rfl rfl
  subst hw
  have sw : (w :: r = [sl "state"]) = (w = sl "state" ∧ r = []) := by simp
  rw [sw] at hA
  simp only [List.map_cons, sw] at E
  unfold lb_read_course_1 cl_tail
  have hl1 : ((r.length : Int) + 1 = 2) = (r.length = 1) := by simp; omega
  by_cases h1 : w = sl "state" ∧ r = []
  · obtain ⟨rfl, rfl⟩ := h1
    have he : ¬ ((e.length : Int) = (o.length : Int)) := fun z => hA ⟨⟨rfl, rfl⟩, by omega⟩
    simp at E
    simp [sp]
    simp +decide [E, he, LIM]
  · simp only [h1, decide_false] at E
    simp [sp]
    by_cases h2 : w = sl "move"
    · by_cases h3 : r.length = 1
      · have h4 : ¬ (o.length < e.length) := fun z => hB ⟨h2, h3, z⟩
        simp [E, LIM, h2, hl1, h3, h4]
        simp [h2] at E
        simp [E]
      · simp [E, LIM, h2, hl1, h3]
        simp [h2] at E
        simp [E]
    · simp [E, LIM, h2]
end
theorem cl_tail_bad {L : Slot} {ms ws : List W} {e o : List RS.D} {cur : RS.D} {i : Nat} {d7 : Slot} {M : Mem} (h0 : ws ≠ []) (hl : ws.length ≤ SLIM) (hc : cur = .non ∨ (∃ k l, cur = .ref k ∧ M[k]? = some (some l))) (h : row? ws = none ∨ cur = .non) :
    cl_tail (cslots L ms e o cur i (.val (.lst (tx ws))) d7) M = .exn 0 (.int ((i + 1 : Nat) : Int)) M := by
  have R := m_row ws M h0 hl
  unfold cl_tail
  cases hr : row? ws with
  | none => rw [hr] at R; simp [rD] at R; simp [R, addP]
  | some row =>
    have hn : cur = .non := h.resolve_left (by rw [hr]; exact fun z => nomatch z)
    subst hn
    rw [hr] at R
    cases row <;> (simp [rD, rowD] at R; simp [R, addP])
theorem cl_tail_row {L : Slot} {ms ws : List W} {e o : List RS.D} {i k : Nat} {d7 : Slot} {M : Mem} {l : List RS.D} {row : Row} (h0 : ws ≠ []) (hl : ws.length ≤ SLIM) (hk : M[k]? = some (some l)) (hb : l.length < 16000001) (h : row? ws = some row) :
    cl_tail (cslots L ms e o (.ref k) i (.val (.lst (tx ws))) d7) M = .ok (.next (cslots L ms e o (.ref k) i (.val (.lst (tx ws))) (.val (rowD row)))) (M.set k (some (l ++ [rowD row]))) := by
  have R := m_row ws M h0 hl
  rw [h] at R
  unfold cl_tail
  have hn : isNP false (.val (.ref k)) (.val .non) M = .ok (.val (.bl false)) M := by
    unfold isNP
    simp [cellV_of hk, isNonD]
  cases row <;> (simp [rD, rowD] at R; simp [R, hn, appC, hk, LIM, hb, rowD])
end K58
set_option Elab.async false
set_option linter.all false
set_option maxRecDepth 100000
set_option maxHeartbeats 4000000
/-! law_k58: the course's loop. -/
namespace K58
open PySem L2 RS
theorem cstep_else {ws : List W} {ms : List W} {ts : List (List Row)} (hA : ¬ (ws = [sl "state"] ∧ ts.length % 2 = 0)) (hB : ∀ x, ¬ (ws = [sl "move", x] ∧ ts.length % 2 = 1)) :
    cstep ws (ms, ts) = (match row? ws with | some r => if ts = [] then none else some (ms, addLast ts r) | none => none) := by
  unfold cstep
  rw [if_neg hA]
  split
  · rename_i a x
    rw [if_neg (fun z => hB x ⟨by rw [z.1], z.2⟩)] <;> (cases row? [a, x] <;> rfl)
  · cases row? ws <;> rfl
theorem refsE_succ (n k : Nat) : refsE n (k + 1) = if k % 2 = 0 then refsE n k ++ [.ref (n + k)] else refsE n k := rfl
theorem refsO_succ (n k : Nat) : refsO n (k + 1) = if k % 2 = 1 then refsO n k ++ [.ref (n + k)] else refsO n k := rfl
theorem course_step (lines : List W) (M0 : Mem) (hn : lines.length ≤ 20000) (hw : ∀ l ∈ lines, l.length + 2 ≤ SLIM) (a : Nat × W) (rest : List (Nat × W)) (ρ : Sl) (M : Mem) (s : CS) (h : CI lines M0 (a :: rest) ρ M s) :
    ∃ ρ1, tgN 5 (.int (a.1 : Nat)) ρ = some ρ1 ∧ OutX (fun s' => ∃ ρ' M', (lb_read_course_1 ρ1 M = .ok (.next ρ') M' ∨ lb_read_course_1 ρ1 M = .ok (.cnt ρ') M') ∧ CI lines M0 rest ρ' M' s') (fun e => lb_read_course_1 ρ1 M = .exn 0 (.int (e : Nat)) M) (stepX cstep a s) := by
  obtain ⟨i, d5, d6, d7, hr, hi, b1, b2, b3, hM, hρ⟩ := h.h
  cases hd : lines.drop i with
  | nil => rw [hd] at hr; cases hr
  | cons l ls =>
    rw [hd] at hr
    have hr' : a :: rest = (i, l) :: pairsF ls (i + 1) := hr
    injection hr' with ha hrest
    subst ha
    have hls : lines.drop (i + 1) = ls := by rw [← List.tail_drop, hd]; rfl
    have hl : lines[i]? = some l := by
      have := congrArg List.head? hd
      rw [List.head?_drop] at this
      simpa using this
    have hlt : i < lines.length := (List.getElem?_eq_some_iff.mp hl).1
    have hlm : l ∈ lines := List.mem_of_getElem? hl
    have hat : atI (tx lines) ((i : Nat) : Int) = some (.str (mk l)) := atI_nat (by rw [List.getElem?_map, hl]; rfl)
    obtain ⟨ms, ts⟩ := s
    simp only at b1 b2 b3 hM hρ
    subst hρ
    have hMl : M.length = M0.length + ts.length := by rw [hM]; simp
    have hwl : (splitC 32 l).length ≤ SLIM := by have := (splitC_len 32 l).1; have := hw l hlm; omega
    have hne : splitC 32 l ≠ [] := splitC_ne 32 l
    have le := refsE_len M0.length ts.length
    have lo := refsO_len M0.length ts.length
    have keep : ∀ t ∈ ts, t.length ≤ i + 1 := fun t ht => Nat.le_succ_of_le (b3 t ht)
    have sp : splitE (op2 (getVar 0) (getVar 5) idxP) (con (.str " ")) (cslots (.val (.lst (tx lines))) ms (refsE M0.length ts.length) (refsO M0.length ts.length) (if ts.length = 0 then .non else .ref (M0.length + (ts.length - 1))) i d6 d7) M = .ok (.own (tx (splitC 32 l))) M :=
      split_at _ _ M l (by simp [hat]) (hw l hlm)
    refine ⟨cslots (.val (.lst (tx lines))) ms (refsE M0.length ts.length) (refsO M0.length ts.length) (if ts.length = 0 then .non else .ref (M0.length + (ts.length - 1))) i d6 d7, rfl, ?_⟩
    simp only [stepX]
    generalize splitC 32 l = ws at sp hwl hne
    have hcur : (if ts.length = 0 then RS.D.non else .ref (M0.length + (ts.length - 1))) = .non ∨ ∃ k lst, (if ts.length = 0 then RS.D.non else .ref (M0.length + (ts.length - 1))) = .ref k ∧ M[k]? = some (some lst) := by
      by_cases h0 : ts.length = 0
      · exact .inl (if_pos h0)
      · obtain ⟨t, ht⟩ : ∃ t, ts[ts.length - 1]? = some t := ⟨_, List.getElem?_eq_getElem (by omega)⟩
        refine .inr ⟨M0.length + (ts.length - 1), t.map rowD, if_neg h0, ?_⟩
        rw [hM, List.getElem?_append_right (by omega), show M0.length + (ts.length - 1) - M0.length = ts.length - 1 by omega, List.getElem?_map, ht]; rfl
    by_cases hs : ws = [sl "state"] ∧ ts.length % 2 = 0
    · have hc : cstep ws (ms, ts) = some (ms, ts ++ [[]]) := by unfold cstep; rw [if_pos hs]
      rw [hc]
      show ∃ _ _, _
      refine ⟨_, _, .inl (cl_state sp hs.1 (by omega) (by omega)), ci_mk (s := (ms, ts ++ [[]])) (i + 1) _ _ _ (by rw [hrest, hls]) hlt (by show ms.length ≤ _; omega) (by simp; omega) ?_ (by rw [hM]; simp) ?_ ?_ ?_⟩
      · intro t ht
        rcases List.mem_append.mp ht with hx | hx
        · exact keep t hx
        · have : t = [] := by simpa using hx
          subst this; simp
      · show _ = refsE M0.length (ts ++ [[]]).length
        rw [List.length_append, List.length_singleton, refsE_succ, if_pos hs.2, hMl]
      · show _ = refsO M0.length (ts ++ [[]]).length
        rw [List.length_append, List.length_singleton, refsO_succ, if_neg (by omega)]
      · simp [hMl]
    · by_cases hm : ∃ x, ws = [sl "move", x] ∧ ts.length % 2 = 1
      · obtain ⟨x, hx, h2⟩ := hm
        have hc : cstep ws (ms, ts) = if isName x = true then some (ms ++ [x], ts ++ [[]]) else none := by
          unfold cstep
          rw [if_neg hs, hx]
          simp only
          rw [if_pos ⟨trivial, h2⟩]
        rw [hc]
        by_cases hnm : isName x = true
        · rw [if_pos hnm]
          show ∃ _ _, _
          refine ⟨_, _, .inl (cl_move sp hx (by omega) (by omega) (by omega) hnm), ci_mk (s := (ms ++ [x], ts ++ [[]])) (i + 1) _ _ _ (by rw [hrest, hls]) hlt (by simp; omega) (by simp; omega) ?_ (by rw [hM]; simp) ?_ ?_ ?_⟩
          · intro t ht
            rcases List.mem_append.mp ht with hx | hx
            · exact keep t hx
            · have : t = [] := by simpa using hx
              subst this; simp
          · show _ = refsE M0.length (ts ++ [[]]).length
            rw [List.length_append, List.length_singleton, refsE_succ, if_neg (by omega)]
          · show _ = refsO M0.length (ts ++ [[]]).length
            rw [List.length_append, List.length_singleton, refsO_succ, if_pos h2, hMl]
          · simp [hMl]
        · rw [if_neg hnm]
          exact cl_move_bad sp hx (by omega) (Bool.eq_false_iff.mpr hnm)
      · have hB : ∀ x, ¬ (ws = [sl "move", x] ∧ ts.length % 2 = 1) := fun x z => hm ⟨x, z⟩
        rw [cstep_else hs hB]
        obtain ⟨w, r, hwr⟩ : ∃ w r, ws = w :: r := by
          cases ws with
          | nil => exact absurd rfl hne
          | cons w r => exact ⟨w, r, rfl⟩
        have ev := cl_else sp hwr (fun z => hs ⟨z.1, by have := z.2; rw [le, lo] at this; omega⟩) (fun z => by
          obtain ⟨z1, z2, z3⟩ := z
          rw [le, lo] at z3
          obtain ⟨y, hy⟩ : ∃ y, r = [y] := by
            match r, z2 with
            | [y], _ => exact ⟨y, rfl⟩
          exact hB y ⟨by rw [hwr, z1, hy], by omega⟩)
        cases hrow : row? ws with
        | none =>
          show _ = _
          rw [ev]
          exact cl_tail_bad hne hwl hcur (.inl hrow)
        | some row =>
          simp only
          by_cases h0 : ts = []
          · rw [if_pos h0]
            show _ = _
            rw [ev]
            exact cl_tail_bad hne hwl hcur (.inr (by rw [h0]; rfl))
          · rw [if_neg h0]
            obtain ⟨us, t, rfl⟩ : ∃ us t, ts = us ++ [t] := ⟨_, _, (List.dropLast_concat_getLast h0).symm⟩
            have hk : M[M0.length + us.length]? = some (some (t.map rowD)) := by
              rw [hM, List.getElem?_append_right (by omega), show M0.length + us.length - M0.length = us.length by omega]
              simp
            have hlen : (us ++ [t]).length = us.length + 1 := by simp
            have hc0 : (if (us ++ [t]).length = 0 then RS.D.non else .ref (M0.length + ((us ++ [t]).length - 1))) = .ref (M0.length + us.length) := by
              rw [if_neg (by omega), hlen]; rfl
            rw [hc0] at ev ⊢
            show ∃ _ _, _
            refine ⟨_, _, .inl (ev.trans (cl_tail_row hne hwl hk (by have := b3 t (by simp); simp; omega) hrow)), ci_mk (s := (ms, addLast (us ++ [t]) row)) (i + 1) _ _ _ (by rw [hrest, hls]) hlt (by show ms.length ≤ _; omega) (by show (addLast _ _).length ≤ _; rw [addLast_length]; omega) ?_ ?_ ?_ ?_ ?_⟩
            · show ∀ t' ∈ addLast (us ++ [t]) row, _
              rw [addLast_append]
              intro t' ht'
              rcases List.mem_append.mp ht' with hx | hx
              · exact keep t' (List.mem_append_left _ hx)
              · have : t' = t ++ [row] := by simpa using hx
                subst this
                have := b3 t (by simp)
                simp; omega
            · show _ = M0 ++ (addLast (us ++ [t]) row).map _
              rw [addLast_append, hM]
              rw [List.set_append_right _ _ (by omega), show M0.length + us.length - M0.length = us.length by omega]
              simp
            · show _ = refsE M0.length (addLast (us ++ [t]) row).length
              rw [addLast_length]
            · show _ = refsO M0.length (addLast (us ++ [t]) row).length
              rw [addLast_length]
            · show _ = (if (addLast (us ++ [t]) row).length = 0 then _ else RS.D.ref (M0.length + ((addLast (us ++ [t]) row).length - 1)))
              rw [addLast_length, hc0]
end K58
set_option Elab.async false
set_option linter.all false
set_option maxRecDepth 100000
set_option maxHeartbeats 4000000
/-! law_k58: read_course. -/
namespace K58
open PySem L2 RS
def evI : Nat → List Nat
  | 0 => []
  | k + 1 => if k % 2 = 0 then evI k ++ [k] else evI k
def odI : Nat → List Nat
  | 0 => []
  | k + 1 => if k % 2 = 1 then odI k ++ [k] else odI k
theorem refsE_ev (n : Nat) : ∀ k, refsE n k = (evI k).map fun j => RS.D.ref (n + j)
  | 0 => rfl
  | k + 1 => by
    rw [refsE_succ, evI]
    split
    · rw [refsE_ev n k]; simp
    · exact refsE_ev n k
theorem refsO_od (n : Nat) : ∀ k, refsO n k = (odI k).map fun j => RS.D.ref (n + j)
  | 0 => rfl
  | k + 1 => by
    rw [refsO_succ, odI]
    split
    · rw [refsO_od n k]; simp
    · exact refsO_od n k
theorem evI_lt : ∀ k, ∀ j ∈ evI k, j < k
  | 0, j, h => by cases h
  | k + 1, j, h => by
    rw [evI] at h
    split at h
    · rcases List.mem_append.mp h with h | h
      · have := evI_lt k j h; omega
      · have : j = k := by simpa using h
        omega
    · have := evI_lt k j h; omega
theorem odI_lt : ∀ k, ∀ j ∈ odI k, j < k
  | 0, j, h => by cases h
  | k + 1, j, h => by
    rw [odI] at h
    split at h
    · rcases List.mem_append.mp h with h | h
      · have := odI_lt k j h; omega
      · have : j = k := by simpa using h
        omega
    · have := odI_lt k j h; omega
theorem evI_len (k : Nat) : (evI k).length = (k + 1) / 2 := by have := refsE_len 0 k; rw [refsE_ev, List.length_map] at this; exact this
theorem odI_len (k : Nat) : (odI k).length = k / 2 := by have := refsO_len 0 k; rw [refsO_od, List.length_map] at this; exact this
def treeD (t : List Row) : RS.D := .tup (t.map rowD)
def stD (ts : List (List Row)) : List RS.D := (evI ts.length).map fun j => treeD (ts.getD j [])
def trD (ts : List (List Row)) : List RS.D := (odI ts.length).map fun j => treeD (ts.getD j [])
def courseD (ms : List W) (ts : List (List Row)) : RS.D := .tup [.str "course", .tup (tx ms), .tup (stD ts), .tup (trD ts)]
theorem cell_tree {M M0 : Mem} {ts : List (List Row)} (hM : M = M0 ++ ts.map (fun t => some (t.map rowD))) {j : Nat} (hj : j < ts.length) : M[M0.length + j]? = some (some ((ts.getD j []).map rowD)) := by
  rw [hM, List.getElem?_append_right (by omega), show M0.length + j - M0.length = j by omega, List.getElem?_map, List.getD_eq_getElem?_getD, List.getElem?_eq_getElem hj]; rfl
theorem tupP_ref {k : Nat} {M : Mem} {l : List RS.D} (h : M[k]? = some (some l)) : tupP (.val (.ref k)) M = .ok (.val (.tup l)) M := by
  unfold tupP
  simp [cellV_of h]
theorem cmp_cells {i : Nat} {js : List Nat} {ρ : Sl} {M M0 : Mem} {ts : List (List Row)} (hM : M = M0 ++ ts.map (fun t => some (t.map rowD))) (hρ : ρ[i]? = some (.val (.lst (js.map fun j => RS.D.ref (M0.length + j))))) (h9 : 9 < ρ.length) (hj : ∀ j ∈ js, j < ts.length) (hl : js.length ≤ SLIM) :
    cmpE (seqE (getVar i)) (tgN 9) yesT (stE (op1 (getVar 9) tupP)) [9] ρ M = .ok (.own (js.map fun j => treeD (ts.getD j []))) M := by
  have C := cmpE_plain (fi := seqE (getVar i)) (t := tgN 9) (b := yesT) (e := stE (op1 (getVar 9) tupP)) (vs := [9]) (ρ := ρ) (M := M) (fun j => RS.D.ref (M0.length + j)) (fun _ => true) (fun j => treeD (ts.getD j [])) js (by simp [hρ]) hl
    (fun j hj' => ⟨_, rfl, rfl, fun _ => by
      have e9 : ((wipeS ρ [9]).set 9 (.val (RS.D.ref (M0.length + j))))[9]? = some (.val (RS.D.ref (M0.length + j))) := by
        rw [List.getElem?_set_self]
        show 9 < (ρ.set 9 Slot.none).length
        rw [List.length_set]; exact h9
      simp only [stE_ap, op1_ap, getVar_ap, e9, R.bind_ok, tupP_ref (cell_tree hM (hj j hj'))]
      rfl⟩)
  have hf : (js.filter fun _ => true) = js := by simp
  rw [hf] at C
  exact C
theorem m_read_course (lines : List W) (M : Mem) (h0 : lines ≠ []) (hn : lines.length ≤ 20000) (hw : ∀ l ∈ lines, l.length + 2 ≤ SLIM) :
    ∃ X, f_read_course [.lst (tx lines)] M = (match foldL cstep 1 ((lines.drop 1).map (splitC 32)) ([], []) with
      | .error n => .exn 0 (.int (n : Nat)) (M ++ X)
      | .ok s => if s.2.length % 2 = 1 then .ok (.val (courseD s.1 s.2)) (M ++ X) else .exn 0 (.int ((lines.length + 1 : Nat) : Int)) (M ++ X)) := by
  have hd : (pairsF (lines.drop 1) 1).map (fun p => RS.D.int (p.1 : Nat)) = (List.range (lines.length - 1)).map fun (k : Nat) => RS.D.int ((1 : Int) + (k : Int)) := by
    rw [pairs_range, List.length_drop]; rfl
  have hpos : 1 ≤ lines.length := by cases lines with | nil => exact absurd rfl h0 | cons a b => simp
  have L := forGo_simR (t := tgN 5) (b := lb_read_course_1) (fun p : Nat × W => RS.D.int (p.1 : Nat)) (CI lines M) (stepX cstep) (fun (e : Nat) M' => .exn 0 (.int (e : Nat)) M') (fun e M' => .inr ⟨0, _, rfl⟩) (course_step lines M hn hw) (pairsF (lines.drop 1) 1)
    [.val (.lst (tx lines)), .own (tx []), .own [], .own [], .val .non, .none, .none, .none, .none, .none] M ([], []) (ci_mk (s := ([], [])) 1 .none .none .none rfl hpos (by simp) (by simp) (fun t ht => nomatch ht) (by simp) rfl rfl rfl)
  rw [fold_pairs, hd] at L
  have hr : rng2 (aCons (stE (con (.int 1))) (aCons (stE (op1 (getVar 0) lenP)) aNil)) [.val (.lst (tx lines)), .own [], .own [], .own [], .val .non, .none, .none, .none, .none, .none] M = .ok ((List.range (lines.length - 1)).map fun (k : Nat) => RS.D.int ((1 : Int) + (k : Int))) M := by
    unfold rng2
    have c1 : ((lines.length : Int) ≤ 1099511627776) := by omega
    have c2 : ((lines.length : Int) - 1 ≤ 16000000) := by omega
    have c3 : (-1099511627776 : Int) ≤ (lines.length : Int) := by omega
    simp [c1, c2, c3]
  unfold f_read_course fnD b_read_course
  cases hf : foldL cstep 1 ((lines.drop 1).map (splitC 32)) ([], []) with
  | error n =>
    rw [hf] at L
    obtain ⟨ρ', M', l', s', hI, hg⟩ := L
    obtain ⟨i, d5, d6, d7, _, _, _, _, _, hM, _⟩ := hI.h
    refine ⟨s'.2.map (fun t => some (t.map rowD)), ?_⟩
    simp only [List.map_nil] at hg
    simp [hr, hg, hM, LIM]
  | ok s =>
    rw [hf] at L
    obtain ⟨ρ', M', hg, hI⟩ := L
    obtain ⟨i, d5, d6, d7, _, hi, b1, b2, _, hM, hρ⟩ := hI.h
    subst hρ
    refine ⟨s.2.map (fun t => some (t.map rowD)), ?_⟩
    simp only [List.map_nil] at hg
    have le := refsE_len M.length s.2.length
    have lo := refsO_len M.length s.2.length
    by_cases h2 : s.2.length % 2 = 1
    · have hne : ¬ ((refsE M.length s.2.length).length = (refsO M.length s.2.length).length) := by omega
      have le2 := evI_len s.2.length
      have lo2 := odI_len s.2.length
      have C1 := cmp_cells (i := 2) (js := evI s.2.length) (ρ := [.val (.lst (tx lines)), .own (tx s.1), .val (.lst (refsE M.length s.2.length)), .val (.lst (refsO M.length s.2.length)), .val (if s.2.length = 0 then .non else .ref (M.length + (s.2.length - 1))), d5, d6, d7, .none, .none]) hM
        (by simp [refsE_ev]) (by simp) (evI_lt _) (by unfold SLIM; omega)
      have C2 := cmp_cells (i := 3) (js := odI s.2.length) (ρ := [.val (.lst (tx lines)), .own (tx s.1), .val (.lst (refsE M.length s.2.length)), .val (.lst (refsO M.length s.2.length)), .val (if s.2.length = 0 then .non else .ref (M.length + (s.2.length - 1))), d5, d6, d7, .val (.tup (stD s.2)), .none]) hM
        (by simp [refsO_od]) (by simp) (odI_lt _) (by unfold SLIM; omega)
      have h0' : s.2.length ≠ 0 := by omega
      have l1 : s.2 ≠ [] := fun z => h0' (by rw [z]; rfl)
      simp only [stD] at C2
      simp only [hM] at C1 C2
      have hnI : ¬ (((refsE M.length s.2.length).length : Int) = ((refsO M.length s.2.length).length : Int)) := by omega
      have c3 : (evI s.2.length).length ≤ 16000001 := by omega
      have c4 : (odI s.2.length).length ≤ 16000001 := by omega
      have c5 : s.1.length ≤ 16000001 := by omega
      simp at C1 C2
      simp [hr, hg, hM, LIM, h2, hnI, C1, C2, stD, trD, courseD, tx, c3, c4, c5]
    · have heq : (refsE M.length s.2.length).length = (refsO M.length s.2.length).length := by omega
      simp [hr, hg, hM, LIM, h2, heq, addP]
end K58
set_option Elab.async false
set_option linter.all false
set_option maxRecDepth 100000
set_option maxHeartbeats 4000000
/-! law_k58: read_enclosure, read_spoiled, read_answer. -/
namespace K58
open PySem L2 RS
def namesD (gs : List W) : RS.D := .tup (tx gs)
def exitD (p : W × Reason) : RS.D := .tup [.str (mk p.1), reasonD p.2]
def bRefs (n k : Nat) : List RS.D := (List.range k).map fun j => RS.D.ref (n + j)
theorem bRefs_succ (n k : Nat) : bRefs n (k + 1) = bRefs n k ++ [.ref (n + k)] := by unfold bRefs; rw [List.range_succ]; simp
@[simp] theorem bRefs_len (n k : Nat) : (bRefs n k).length = k := by simp [bRefs]
@[simp] theorem negP_int (i : Int) (M : Mem) : negP (.val (.int i)) M = .ok (.val (.int (-i))) M := rfl
abbrev esl (L : Slot) (bs : List Block) (rf : List RS.D) (i : Nat) (d4 d5 : Slot) : Sl := [L, .own (bs.map fun b => namesD b.1), .own rf, .val (.int (i : Nat)), d4, d5, .none, .none, .none]
section
variable {L : Slot} {bs : List Block} {w : W} {r : List W} {rf : List RS.D} {i : Nat} {d4 d5 : Slot} {M : Mem}
variable (sp : splitE (op2 (getVar 0) (getVar 3) idxP) (con (.str " ")) (esl L bs rf i d4 d5) M = .ok (.own (tx (w :: r))) M) (hl : r.length ≤ SLIM)
include sp hl
theorem el_at (hw : w = sl "at") (ha : r.all isName = true) (hb : bs.length < 16000001) (hr : rf.length < 16000001) :
    lb_read_enclosure_1 (esl L bs rf i d4 d5) M = .ok (.cnt (esl L (bs ++ [(r, [])]) (rf ++ [.ref M.length]) i (.val (.lst (tx (w :: r)))) d5)) (M ++ [some []]) := by
  subst hw
  have N := m_are_names r M hl
  rw [ha] at N
  unfold lb_read_enclosure_1
  simp [sp]
  simp [mkCell, N, LIM, hb, hr, namesD]
def el_tail : FS := (seqF (setF 5 (callE 1 f_read_reason (aCons (stE (slE (getVar 4) (ixO (con (.int 2))) (fun _ M => .ok none M))) aNil)))
 (seqF (ifF (orT (tst (op2 (op2 (getVar 4) (con (.int 0)) idxP) (con (.str "exit")) (eqP true))) (orT (tst (op2 (op1 (getVar 1) lenP) (con (.int 0)) (eqP false))) (orT (tst (op2 (getVar 5) (con .non) (isNP false))) (notT (tst (callE 1 f_is_name (aCons (stE (op2 (getVar 4) (con (.int 1)) idxP)) aNil)))))))
 (rseF 0 (op2 (getVar 3) (con (.int 1)) addP)) nxt)
 (appC (op2 (getVar 2) (op1 (con (.int 1)) negP) idxP) (tupE (aCons (stE (op2 (getVar 4) (con (.int 1)) idxP)) (aCons (stE (getVar 5)) aNil))))))
theorem el_else (h : ¬ (w = sl "at" ∧ r.all isName = true)) :
    lb_read_enclosure_1 (esl L bs rf i d4 d5) M = el_tail (esl L bs rf i (.val (.lst (tx (w :: r)))) d5) M := by
  have N := m_are_names r M hl
  unfold lb_read_enclosure_1 el_tail
  by_cases h1 : w = sl "at"
  · have h2 : r.all isName = false := Bool.eq_false_iff.mpr fun z => h ⟨h1, z⟩
    rw [h2] at N
    subst h1
    simp [sp]
    simp [N]
  · simp [sp]
    simp [h1]
end
theorem el_bad {L : Slot} {bs : List Block} {w : W} {r : List W} {rf : List RS.D} {i : Nat} {d5 : Slot} {M : Mem} (hl : r.length ≤ SLIM) (h : ¬ (w = sl "at" ∧ r.all isName = true)) (he : estep (w :: r) bs = none) :
    el_tail (esl L bs rf i (.val (.lst (tx (w :: r)))) d5) M = .exn 0 (.int ((i + 1 : Nat) : Int)) M := by
  unfold estep at he
  simp only [if_neg h] at he
  unfold el_tail
  have R := m_reason (r.drop 1) M (by rw [List.length_drop]; omega)
  cases r with
  | nil =>
    simp [reason?, qD] at R
    by_cases hw : w = sl "exit"
    · by_cases hb : bs = []
      · simp [R, hw, hb, addP]
      · simp [R, hw, hb, addP]
    · simp [R, hw, addP]
  | cons x q =>
    simp only [List.drop_one, List.tail_cons] at R
    simp only at he
    by_cases hw : w = sl "exit"
    · by_cases hb : bs = []
      · simp [R, hw, hb, addP]
      · cases hq : reason? q with
        | none =>
          rw [hq] at R; simp [qD] at R
          simp [R, hw, hb, addP]
        | some y =>
          rw [hq] at R; simp [qD, reasonD] at R
          by_cases hx : isName x = true
          · rw [if_pos ⟨hw, hb, hx⟩, hq] at he; cases he
          · simp [R, hw, hb, hx, m_is_name, addP]
    · simp [R, hw, addP]
theorem el_exit {L : Slot} {bs : List Block} {x : W} {q : List W} {y : Reason} {rf : List RS.D} {i k : Nat} {d5 : Slot} {M : Mem} {l : List RS.D} (hl : q.length + 1 ≤ SLIM) (hb : bs ≠ []) (hx : isName x = true) (hq : reason? q = some y) (hk : M[k]? = some (some l)) (hn : l.length < 16000001) :
    el_tail (esl L bs (rf ++ [.ref k]) i (.val (.lst (tx (sl "exit" :: x :: q)))) d5) M = .ok (.next (esl L bs (rf ++ [.ref k]) i (.val (.lst (tx (sl "exit" :: x :: q)))) (.val (reasonD y)))) (M.set k (some (l ++ [exitD (x, y)]))) := by
  unfold el_tail
  have R := m_reason q M (by omega)
  rw [hq] at R; simp [qD, reasonD] at R
  simp [R, hb, hx, m_is_name, appC, atI_last, hk, LIM, hn, exitD, reasonD]
/-- where the enclosure's loop stands -/
structure EI (lines : List W) (M0 : Mem) (rest : List (Nat × W)) (ρ : Sl) (M : Mem) (s : List Block) : Prop where
  h : ∃ i d3 d4 d5, rest = pairsF (lines.drop i) i ∧ i ≤ lines.length ∧ s.length ≤ i ∧ (∀ b ∈ s, b.2.length ≤ i) ∧ M = M0 ++ s.map (fun b => some (b.2.map exitD)) ∧
    ρ = [.val (.lst (tx lines)), .own (s.map fun b => namesD b.1), .own (bRefs M0.length s.length), d3, d4, d5, .none, .none, .none]
theorem ei_mk {lines : List W} {M0 M : Mem} {rest : List (Nat × W)} {s : List Block} {n e : List RS.D} (i : Nat) (d3 d4 d5 : Slot) (h1 : rest = pairsF (lines.drop i) i) (h2 : i ≤ lines.length) (h3 : s.length ≤ i) (h5 : ∀ b ∈ s, b.2.length ≤ i)
    (h6 : M = M0 ++ s.map (fun b => some (b.2.map exitD))) (hN : n = s.map fun b => namesD b.1) (hE : e = bRefs M0.length s.length) :
    EI lines M0 rest [.val (.lst (tx lines)), .own n, .own e, d3, d4, d5, .none, .none, .none] M s := ⟨⟨i, d3, d4, d5, h1, h2, h3, h5, h6, by rw [hN, hE]⟩⟩
theorem addBlock_app2 (us : List Block) (b : Block) (x : W × Reason) : addBlock (us ++ [b]) x = us ++ [(b.1, b.2 ++ [x])] := by
  induction us with
  | nil => rfl
  | cons c us ih =>
    cases us with
    | nil => rfl
    | cons d us => show c :: addBlock (d :: us ++ [b]) x = _; rw [ih]; rfl
theorem estep_ex {w : W} {r : List W} {s s' : List Block} (h : ¬ (w = sl "at" ∧ r.all isName = true)) (he : estep (w :: r) s = some s') : ∃ x q y, w = sl "exit" ∧ r = x :: q ∧ s ≠ [] ∧ isName x = true ∧ reason? q = some y ∧ s' = addBlock s (x, y) := by
  unfold estep at he
  simp only [if_neg h] at he
  cases r with
  | nil => cases he
  | cons x q =>
    simp only at he
    by_cases h2 : w = sl "exit" ∧ s ≠ [] ∧ isName x = true
    · rw [if_pos h2] at he
      cases hq : reason? q with
      | none => rw [hq] at he; cases he
      | some y =>
        rw [hq] at he
        injection he with he
        exact ⟨x, q, y, h2.1, rfl, h2.2.1, h2.2.2, hq, he.symm⟩
    · rw [if_neg h2] at he; cases he
theorem encl_step (lines : List W) (M0 : Mem) (hn : lines.length ≤ 20000) (hw : ∀ l ∈ lines, l.length + 2 ≤ SLIM) (a : Nat × W) (rest : List (Nat × W)) (ρ : Sl) (M : Mem) (s : List Block) (h : EI lines M0 (a :: rest) ρ M s) :
    ∃ ρ1, tgN 3 (.int (a.1 : Nat)) ρ = some ρ1 ∧ OutX (fun s' => ∃ ρ' M', (lb_read_enclosure_1 ρ1 M = .ok (.next ρ') M' ∨ lb_read_enclosure_1 ρ1 M = .ok (.cnt ρ') M') ∧ EI lines M0 rest ρ' M' s') (fun e => lb_read_enclosure_1 ρ1 M = .exn 0 (.int (e : Nat)) M) (stepX estep a s) := by
  obtain ⟨i, d3, d4, d5, hr, hi, b1, b3, hM, hρ⟩ := h.h
  cases hd : lines.drop i with
  | nil => rw [hd] at hr; cases hr
  | cons l ls =>
    rw [hd] at hr
    have hr' : a :: rest = (i, l) :: pairsF ls (i + 1) := hr
    injection hr' with ha hrest
    subst ha
    have hls : lines.drop (i + 1) = ls := by rw [← List.tail_drop, hd]; rfl
    have hl : lines[i]? = some l := by
      have := congrArg List.head? hd
      rw [List.head?_drop] at this
      simpa using this
    have hlt : i < lines.length := (List.getElem?_eq_some_iff.mp hl).1
    have hlm : l ∈ lines := List.mem_of_getElem? hl
    have hat : atI (tx lines) ((i : Nat) : Int) = some (.str (mk l)) := atI_nat (by rw [List.getElem?_map, hl]; rfl)
    subst hρ
    have hMl : M.length = M0.length + s.length := by rw [hM]; simp
    have hwl : (splitC 32 l).length ≤ SLIM := by have := (splitC_len 32 l).1; have := hw l hlm; omega
    have hne : splitC 32 l ≠ [] := splitC_ne 32 l
    have keep : ∀ t ∈ s, t.2.length ≤ i + 1 := fun t ht => Nat.le_succ_of_le (b3 t ht)
    have sp : splitE (op2 (getVar 0) (getVar 3) idxP) (con (.str " ")) (esl (.val (.lst (tx lines))) s (bRefs M0.length s.length) i d4 d5) M = .ok (.own (tx (splitC 32 l))) M :=
      split_at _ _ M l (by simp [hat]) (hw l hlm)
    refine ⟨esl (.val (.lst (tx lines))) s (bRefs M0.length s.length) i d4 d5, rfl, ?_⟩
    simp only [stepX]
    generalize splitC 32 l = ws at sp hwl hne
    obtain ⟨w, r, rfl⟩ : ∃ w r, ws = w :: r := by
      cases ws with
      | nil => exact absurd rfl hne
      | cons w r => exact ⟨w, r, rfl⟩
    have hrl : r.length + 1 ≤ SLIM := by simpa using hwl
    by_cases hA : w = sl "at" ∧ r.all isName = true
    · have hc : estep (w :: r) s = some (s ++ [(r, [])]) := by unfold estep; simp only [if_pos hA]
      rw [hc]
      show ∃ _ _, _
      refine ⟨_, _, .inr (el_at sp (by omega) hA.1 hA.2 (by omega) (by rw [bRefs_len]; omega)), ei_mk (s := s ++ [(r, [])]) (i + 1) _ _ _ (by rw [hrest, hls]) hlt (by simp; omega) ?_ (by rw [hM]; simp) rfl ?_⟩
      · intro t ht
        rcases List.mem_append.mp ht with hx | hx
        · exact keep t hx
        · have : t = (r, []) := by simpa using hx
          subst this; simp
      · rw [List.length_append, List.length_singleton, bRefs_succ, hMl]
    · have ev := el_else sp (by omega) hA
      cases he : estep (w :: r) s with
      | none =>
        show _ = _
        rw [ev]
        exact el_bad (by omega) hA he
      | some s' =>
        obtain ⟨x, q, y, rfl, rfl, h0, hx, hq, rfl⟩ := estep_ex hA he
        show ∃ _ _, _
        obtain ⟨us, b, rfl⟩ : ∃ us b, s = us ++ [b] := ⟨_, _, (List.dropLast_concat_getLast h0).symm⟩
        have hk : M[M0.length + us.length]? = some (some (b.2.map exitD)) := by
          rw [hM, List.getElem?_append_right (by omega), show M0.length + us.length - M0.length = us.length by omega]
          simp
        have hlen : (us ++ [b]).length = us.length + 1 := by simp
        rw [hlen, bRefs_succ] at ev
        rw [hlen, bRefs_succ]
        refine ⟨_, _, .inl (ev.trans (el_exit (by simp at hrl; omega) h0 hx hq hk (by have := b3 b (by simp); simp; omega))), ?_⟩
        rw [addBlock_app2]
        refine ei_mk (i + 1) _ _ _ (by rw [hrest, hls]) hlt (by simp at b1 ⊢; omega) ?_ ?_ (by simp) (by rw [List.length_append, List.length_singleton, bRefs_succ])
        · intro t ht
          rcases List.mem_append.mp ht with hx | hx
          · exact keep t (List.mem_append_left _ hx)
          · have : t = (b.1, b.2 ++ [(x, y)]) := by simpa using hx
            subst this
            have := b3 b (by simp)
            simp; omega
        · rw [hM, List.set_append_right _ _ (by omega), show M0.length + us.length - M0.length = us.length by omega]
          simp
end K58
set_option Elab.async false
set_option linter.all false
set_option maxRecDepth 100000
set_option maxHeartbeats 4000000
/-! law_k58: read_enclosure, read_spoiled, read_answer as a whole. -/
namespace K58
open PySem L2 RS
def blockD (b : Block) : RS.D := .tup [namesD b.1, .tup (b.2.map exitD)]
def enclD (bs : List Block) : RS.D := .tup [.str "enclosure", .tup (bs.map blockD)]
def answerD : Answer → RS.D
  | .course ms ts => courseD ms ts | .enclosure bs => enclD bs | .spoiled q => .tup [.str "spoiled", reasonD q]
theorem zip_blocks : ∀ (bs : List Block) (n : Nat), zipT (bs.map fun b => namesD b.1) ((List.range bs.length).map fun j => RS.D.ref (n + j)) = (pairsF bs n).map fun p => RS.D.tup [namesD p.2.1, .ref p.1]
  | [], n => rfl
  | b :: bs, n => by
    rw [List.length_cons, List.range_succ_eq_map, List.map_cons, List.map_cons, List.map_map]
    have ih := zip_blocks bs (n + 1)
    have e : ((fun j => RS.D.ref (n + j)) ∘ Nat.succ) = fun j => RS.D.ref (n + 1 + j) := by
      funext j
      show RS.D.ref (n + (j + 1)) = _
      congr 1; omega
    rw [e]
    show RS.D.tup [namesD b.1, .ref (n + 0)] :: zipT _ _ = _
    rw [ih]; rfl
theorem pairs_mem {α : Type} : ∀ (l : List α) (n : Nat) (p : Nat × α), p ∈ pairsF l n → ∃ k, p.1 = n + k ∧ l[k]? = some p.2
  | [], n, p, h => nomatch h
  | x :: l, n, p, h => by
    rcases List.mem_cons.mp h with h | h
    · exact ⟨0, by rw [h]; rfl, by rw [h]; rfl⟩
    · obtain ⟨k, h1, h2⟩ := pairs_mem l (n + 1) p h
      exact ⟨k + 1, by omega, h2⟩
theorem pairs_snd {α β : Type} (F : α → β) : ∀ (l : List α) (n : Nat), (pairsF l n).map (fun p => F p.2) = l.map F
  | [], n => rfl
  | x :: l, n => by show F x :: (pairsF l (n + 1)).map _ = _; rw [pairs_snd F l (n + 1)]; rfl
theorem pairs_len {α : Type} : ∀ (l : List α) (n : Nat), (pairsF l n).length = l.length
  | [], n => rfl
  | x :: l, n => by show (pairsF l (n + 1)).length + 1 = _; rw [pairs_len l (n + 1)]; rfl
theorem cmp_blocks {ρ : Sl} {M M0 : Mem} {bs : List Block} (hM : M = M0 ++ bs.map (fun b => some (b.2.map exitD))) (h1 : ρ[1]? = some (.val (.lst (bs.map fun b => namesD b.1)))) (h2 : ρ[2]? = some (.val (.lst (bRefs M0.length bs.length)))) (h9 : ρ.length = 9) (hl : bs.length ≤ SLIM) :
    cmpE (zip2 (aCons (stE (getVar 1)) (aCons (stE (getVar 2)) aNil))) (tgT 2 (tgsCons (tgN 7) (tgsCons (tgN 8) tgsNil))) yesT (stE (tupE (aCons (stE (getVar 7)) (aCons (stE (op1 (getVar 8) tupP)) aNil)))) [7, 8] ρ M = .ok (.own (bs.map blockD)) M := by
  have C := cmpE_plain (fi := zip2 (aCons (stE (getVar 1)) (aCons (stE (getVar 2)) aNil))) (t := tgT 2 (tgsCons (tgN 7) (tgsCons (tgN 8) tgsNil))) (b := yesT) (e := stE (tupE (aCons (stE (getVar 7)) (aCons (stE (op1 (getVar 8) tupP)) aNil)))) (vs := [7, 8]) (ρ := ρ) (M := M)
    (fun p : Nat × Block => RS.D.tup [namesD p.2.1, .ref p.1]) (fun _ => true) (fun p => blockD p.2) (pairsF bs M0.length) (by
      have := zip_blocks bs M0.length
      unfold bRefs at h2
      unfold zip2
      simp [h1, h2, this]) (by rw [pairs_len]; exact hl)
    (fun p hp => by
      obtain ⟨k, e1, e2⟩ := pairs_mem bs _ p hp
      have hk : M[p.1]? = some (some (p.2.2.map exitD)) := by
        rw [hM, e1, List.getElem?_append_right (by omega), show M0.length + k - M0.length = k by omega, List.getElem?_map, e2]; rfl
      have g7 : (((wipeS ρ [7, 8]).set 7 (.val (namesD p.2.1))).set 8 (.val (RS.D.ref p.1)))[7]? = some (.val (namesD p.2.1)) := by
        rw [List.getElem?_set_ne (by omega), List.getElem?_set_self]
        simp [wipeS, h9]
      have g8 : (((wipeS ρ [7, 8]).set 7 (.val (namesD p.2.1))).set 8 (.val (RS.D.ref p.1)))[8]? = some (.val (RS.D.ref p.1)) := by
        rw [List.getElem?_set_self]
        simp [wipeS, h9]
      refine ⟨_, rfl, rfl, fun _ => ?_⟩
      simp only [stE_ap, tupE_ap, aCons_ap, aNil_ap, op1_ap, getVar_ap, g7, g8, R.bind_ok]
      simp [blockD, namesD, LIM, tupP_ref hk])
  have hf : ((pairsF bs M0.length).filter fun _ => true) = pairsF bs M0.length := by simp
  rw [hf, pairs_snd blockD] at C
  exact C
theorem m_read_enclosure (lines : List W) (M : Mem) (h0 : lines ≠ []) (hn : lines.length ≤ 20000) (hw : ∀ l ∈ lines, l.length + 2 ≤ SLIM) :
    ∃ X, f_read_enclosure [.lst (tx lines)] M = (match foldL estep 1 ((lines.drop 1).map (splitC 32)) [] with
      | .error n => .exn 0 (.int (n : Nat)) (M ++ X)
      | .ok s => .ok (.val (enclD s)) (M ++ X)) := by
  have hd : (pairsF (lines.drop 1) 1).map (fun p => RS.D.int (p.1 : Nat)) = (List.range (lines.length - 1)).map fun (k : Nat) => RS.D.int ((1 : Int) + (k : Int)) := by
    rw [pairs_range, List.length_drop]; rfl
  have hpos : 1 ≤ lines.length := by cases lines with | nil => exact absurd rfl h0 | cons a b => simp
  have L := forGo_simR (t := tgN 3) (b := lb_read_enclosure_1) (fun p : Nat × W => RS.D.int (p.1 : Nat)) (EI lines M) (stepX estep) (fun (e : Nat) M' => .exn 0 (.int (e : Nat)) M') (fun e M' => .inr ⟨0, _, rfl⟩) (encl_step lines M hn hw) (pairsF (lines.drop 1) 1)
    [.val (.lst (tx lines)), .own [], .own [], .none, .none, .none, .none, .none, .none] M [] (ei_mk (s := []) 1 .none .none .none rfl hpos (by simp) (fun t ht => nomatch ht) (by simp) rfl rfl)
  rw [fold_pairs, hd] at L
  have hr : rng2 (aCons (stE (con (.int 1))) (aCons (stE (op1 (getVar 0) lenP)) aNil)) [.val (.lst (tx lines)), .own [], .own [], .none, .none, .none, .none, .none, .none] M = .ok ((List.range (lines.length - 1)).map fun (k : Nat) => RS.D.int ((1 : Int) + (k : Int))) M := by
    unfold rng2
    have c1 : ((lines.length : Int) ≤ 1099511627776) := by omega
    have c2 : ((lines.length : Int) - 1 ≤ 16000000) := by omega
    have c3 : (-1099511627776 : Int) ≤ (lines.length : Int) := by omega
    simp [c1, c2, c3]
  unfold f_read_enclosure fnD b_read_enclosure
  cases hf : foldL estep 1 ((lines.drop 1).map (splitC 32)) [] with
  | error n =>
    rw [hf] at L
    obtain ⟨ρ', M', l', s', hI, hg⟩ := L
    obtain ⟨i, d3, d4, d5, _, _, _, _, hM, _⟩ := hI.h
    refine ⟨s'.map (fun b => some (b.2.map exitD)), ?_⟩
    simp [hr, hg, hM, LIM]
  | ok s =>
    rw [hf] at L
    obtain ⟨ρ', M', hg, hI⟩ := L
    obtain ⟨i, d3, d4, d5, _, hi, b1, _, hM, hρ⟩ := hI.h
    subst hρ
    refine ⟨s.map (fun b => some (b.2.map exitD)), ?_⟩
    have C1 := cmp_blocks (ρ := [.val (.lst (tx lines)), .val (.lst (s.map fun b => namesD b.1)), .val (.lst (bRefs M.length s.length)), d3, d4, d5, .none, .none, .none]) hM rfl rfl rfl (by unfold SLIM; omega)
    simp only [hM] at C1
    have c3 : s.length ≤ 16000001 := by omega
    simp [hr, hg, hM, LIM, C1, enclD, c3]
theorem m_read_spoiled (l : W) (r : List W) (M : Mem) (hn : r.length ≤ 20000) (hw : l.length + 2 ≤ SLIM) :
    f_read_spoiled [.lst (tx (l :: r))] M = (match splitC 32 l with
      | [] => .bad
      | w :: q => (match reason? q with
          | some ⟨.ban i, v⟩ => if w = sl "spoiled" then (if r = [] then .ok (.val (.tup [.str "spoiled", reasonD ⟨.ban i, v⟩])) M else .exn 0 (.int 2) M) else .exn 0 (.int 1) M
          | _ => .exn 0 (.int 1) M)) := by
  have sp : splitE (op2 (getVar 0) (con (.int 0)) idxP) (con (.str " ")) [.val (.lst (tx (l :: r))), .none, .none] M = .ok (.own (tx (splitC 32 l))) M :=
    split_at _ _ M l (by simp) hw
  have hwl : (splitC 32 l).length ≤ SLIM := by have := (splitC_len 32 l).1; omega
  have hne : splitC 32 l ≠ [] := splitC_ne 32 l
  unfold f_read_spoiled fnD b_read_spoiled
  simp only [List.map_cons] at sp
  generalize splitC 32 l = ws at sp hwl hne
  cases ws with
  | nil => exact absurd rfl hne
  | cons w q =>
    have R := m_reason q M (by simp at hwl; omega)
    by_cases hx : w = sl "spoiled"
    · subst hx
      cases hq : reason? q with
      | none => rw [hq] at R; simp [qD] at R; simp [sp, R, hq]
      | some y =>
        obtain ⟨y, v⟩ := y
        rw [hq] at R
        cases y with
        | ban i =>
          simp [qD, reasonD, whyD] at R
          cases r with
          | nil => simp only [List.map_nil] at sp; simp [sp, R, hq, reasonD, whyD, LIM]
          | cons r1 r2 =>
            have : ((r2.length : Int) + 1 + 1 > 1) := by omega
            simp only [List.map_cons] at sp
            simp [sp, R, hq, reasonD, whyD, LIM, this]
        | loss x =>
          simp [qD, reasonD, whyD] at R
          simp +decide [sp, R, hq]
    · cases hq : reason? q with
      | none => rw [hq] at R; simp [qD] at R; simp [sp, R, hx, hq]
      | some y =>
        obtain ⟨y, v⟩ := y
        rw [hq] at R
        cases y <;> (simp [qD, reasonD, whyD] at R; simp [sp, R, hx, hq])
def outA (M : Mem) : Except Err Answer → R Val
  | .error .many => .exn 1 (.int 20000) M
  | .error (.line n) => .exn 0 (.int (n : Nat)) M
  | .ok a => .ok (.val (answerD a)) M
theorem rA_many {ls : List (List W)} (h : 20000 < ls.length) : readA ls = .error .many := by unfold readA; rw [if_pos h]
theorem rA_course {l : List W} {r : List (List W)} (h : ¬ 20000 < (l :: r).length) (hl : l = [sl "course"]) : readA (l :: r) = (match foldL cstep 1 r ([], []) with
          | .error n => .error (.line n)
          | .ok s => if s.2.length % 2 = 1 then .ok (.course s.1 s.2) else .error (.line ((l :: r).length + 1))) := by unfold readA; rw [if_neg h]; simp only [if_pos hl] <;> rfl
theorem ce_ne : ¬ (sl "enclosure" = sl "course") := by decide +kernel
theorem rA_encl {l : List W} {r : List (List W)} (h : ¬ 20000 < (l :: r).length) (hl : l = [sl "enclosure"]) : readA (l :: r) = (match foldL estep 1 r [] with | .error n => .error (.line n) | .ok s => .ok (.enclosure s)) := by
  have h1 : ¬ (l = [sl "course"]) := by rw [hl]; exact fun z => ce_ne (by injection z)
  unfold readA; rw [if_neg h]; simp only [if_neg h1, if_pos hl] <;> rfl
theorem rA_else {w : W} {q : List W} {r : List (List W)} (h : ¬ 20000 < ((w :: q) :: r).length) (h1 : ¬ (w :: q = [sl "course"])) (h2 : ¬ (w :: q = [sl "enclosure"])) : readA ((w :: q) :: r) = (match reason? q with
            | some ⟨.ban i, v⟩ => if w = sl "spoiled" then (if r = [] then .ok (.spoiled ⟨.ban i, v⟩) else .error (.line 2)) else .error (.line 1)
            | _ => .error (.line 1)) := by
  unfold readA; rw [if_neg h]; simp only [if_neg h1, if_neg h2] <;> rfl
theorem split_one {l w : W} (h : 32 ∉ w) : splitC 32 l = [w] ↔ l = w := by
  constructor
  · intro z
    have := join_split 32 l
    rw [z] at this
    exact this.symm
  · intro z; rw [z]; exact splitC_clean h
theorem n_course : 32 ∉ sl "course" := by decide +kernel
theorem n_encl : 32 ∉ sl "enclosure" := by decide +kernel
theorem ra_many {ls : List W} {t : Str} {M : Mem} (sp : splitE (getVar 0) (con (.str "\n")) [.val (.str t), .none] M = .ok (.own (tx ls)) M) (h : 20000 < ls.length) : f_read_answer [.str t] M = .exn 1 (.int 20000) M := by
  have g : (20000 : Int) < (ls.length : Int) := by omega
  unfold f_read_answer fnD b_read_answer
  simp [sp, g]
theorem ra_course {ds : List RS.D} {t : Str} {M M' : Mem} {x : Except Err Answer} (sp : splitE (getVar 0) (con (.str "\n")) [.val (.str t), .none] M = .ok (.own ds) M) (g : ¬ (20000 : Int) < (ds.length : Int)) (hl : atI ds 0 = some (.str "course"))
    (hX : f_read_course [.lst ds] M = outA M' x) : f_read_answer [.str t] M = outA M' x := by
  unfold f_read_answer fnD b_read_answer
  rcases x with (n | _) | a <;> (simp only [outA] at hX ⊢; simp [sp, g, hl, hX])
theorem ra_encl {ds : List RS.D} {t : Str} {M M' : Mem} {x : Except Err Answer} (sp : splitE (getVar 0) (con (.str "\n")) [.val (.str t), .none] M = .ok (.own ds) M) (g : ¬ (20000 : Int) < (ds.length : Int)) (hl : atI ds 0 = some (.str "enclosure"))
    (hX : f_read_enclosure [.lst ds] M = outA M' x) : f_read_answer [.str t] M = outA M' x := by
  have n1 : ¬ (("enclosure" : Str) = ("course" : Str)) := by decide +kernel
  unfold f_read_answer fnD b_read_answer
  rcases x with (n | _) | a <;> (simp only [outA] at hX ⊢; simp [sp, g, hl, hX, n1])
theorem ra_else {ds : List RS.D} {l : W} {t : Str} {M M' : Mem} {x : Except Err Answer} (sp : splitE (getVar 0) (con (.str "\n")) [.val (.str t), .none] M = .ok (.own ds) M) (g : ¬ (20000 : Int) < (ds.length : Int)) (hl : atI ds 0 = some (.str (mk l))) (h1 : ¬ (l = sl "course")) (h2 : ¬ (l = sl "enclosure"))
    (hX : f_read_spoiled [.lst ds] M = outA M' x) : f_read_answer [.str t] M = outA M' x := by
  unfold f_read_answer fnD b_read_answer
  rcases x with (n | _) | a <;> (simp only [outA] at hX ⊢; simp [sp, g, hl, h1, h2, hX])
theorem m_read_answer (t : W) (M : Mem) (ht : t.length + 2 ≤ SLIM) : ∃ X, f_read_answer [.str (mk t)] M = outA (M ++ X) (readA (wordsT t)) := by
  have sp : splitE (getVar 0) (con (.str "\n")) [.val (.str (mk t)), .none] M = .ok (.own (tx (splitC 10 t))) M := split_nl _ _ M t (by simp) ht
  have hw : ∀ l ∈ splitC 10 t, l.length + 2 ≤ SLIM := fun l hl => by have := (splitC_len 10 t).2 l hl; omega
  have hne : splitC 10 t ≠ [] := splitC_ne 10 t
  unfold wordsT
  generalize splitC 10 t = ls at sp hw hne
  by_cases hn : 20000 < ls.length
  · exact ⟨[], by rw [rA_many (by rw [List.length_map]; exact hn), ra_many sp hn, List.append_nil]; rfl⟩
  · have hn' : ls.length ≤ 20000 := by omega
    have g : ¬ (20000 : Int) < ((tx ls).length : Int) := by rw [List.length_map]; omega
    cases ls with
    | nil => exact absurd rfl hne
    | cons l r =>
      have gm : ¬ 20000 < (splitC 32 l :: r.map (splitC 32)).length := by
        have := hn
        rw [List.length_cons] at this ⊢
        rw [List.length_map]; exact this
      rw [List.map_cons]
      by_cases h1 : l = sl "course"
      · have sl1 : splitC 32 l = [sl "course"] := (split_one n_course).mpr h1
        obtain ⟨X, hX⟩ := m_read_course (l :: r) M (by simp) hn' hw
        refine ⟨X, ra_course sp g (by rw [h1]; simp) ?_⟩
        rw [hX, rA_course gm sl1]
        show (match foldL cstep 1 (r.map (splitC 32)) ([], []) with | .error n => _ | .ok s => _) = _
        cases foldL cstep 1 (r.map (splitC 32)) ([], []) with
        | error n => rfl
        | ok s =>
          show (if _ then _ else _) = outA _ (if _ then _ else _)
          by_cases h2 : s.2.length % 2 = 1
          · rw [if_pos h2, if_pos h2]; rfl
          · rw [if_neg h2, if_neg h2, List.length_cons, List.length_cons, List.length_map]; rfl
      · have s1 : ¬ (splitC 32 l = [sl "course"]) := fun z => h1 ((split_one n_course).mp z)
        by_cases h2 : l = sl "enclosure"
        · have sl1 : splitC 32 l = [sl "enclosure"] := (split_one n_encl).mpr h2
          obtain ⟨X, hX⟩ := m_read_enclosure (l :: r) M (by simp) hn' hw
          refine ⟨X, ra_encl sp g (by rw [h2]; simp) ?_⟩
          rw [hX, rA_encl gm sl1]
          show (match foldL estep 1 (r.map (splitC 32)) [] with | .error n => _ | .ok s => _) = _
          cases foldL estep 1 (r.map (splitC 32)) [] with
          | error n => rfl
          | ok s => rfl
        · have s2 : ¬ (splitC 32 l = [sl "enclosure"]) := fun z => h2 ((split_one n_encl).mp z)
          have R := m_read_spoiled l r M (by rw [List.length_cons] at hn'; omega) (hw l (by simp))
          refine ⟨[], ra_else sp g (atI_zero (RS.D.str (mk l)) (tx r)) h1 h2 ?_⟩
          rw [R, List.append_nil]
          have hne2 : splitC 32 l ≠ [] := splitC_ne 32 l
          generalize splitC 32 l = ws at hne2 gm s1 s2
          cases ws with
          | nil => exact absurd rfl hne2
          | cons w q =>
            rw [rA_else gm s1 s2]
            simp only
            cases reason? q with
            | none => rfl
            | some y =>
              obtain ⟨y, v⟩ := y
              cases y with
              | loss x => rfl
              | ban i =>
                simp only
                by_cases h3 : w = sl "spoiled"
                · rw [if_pos h3, if_pos h3]
                  cases r with
                  | nil => rfl
                  | cons r1 r2 => rfl
                · rw [if_neg h3, if_neg h3]; rfl
end K58
set_option Elab.async false
set_option linter.all false
set_option maxRecDepth 100000
set_option maxHeartbeats 4000000
/-! law_k58: the writers: conditions, rows, visitors, reasons. -/
namespace K58
open PySem L2 RS
theorem join_len (c : Nat) : ∀ {ps : List W}, ps ≠ [] → joinSize [c] ps = (TL.joinL [c] ps).length + 1
  | [], h => absurd rfl h
  | [p], _ => by simp [joinSize, TL.joinL]
  | p :: q :: r, _ => by
    have ih := join_len c (ps := q :: r) (by simp)
    unfold joinSize at ih ⊢
    show _ = (p ++ ([c] ++ TL.joinL [c] (q :: r))).length + 1
    rw [List.length_append, List.length_append, List.map_cons, List.sum_cons, List.length_cons]
    simp only [List.length_singleton, Nat.mul_one] at ih ⊢
    omega
theorem join_count (c : Nat) : ∀ ps : List W, ps.length ≤ (TL.joinL [c] ps).length + 1
  | [] => Nat.zero_le _
  | [p] => by simp [TL.joinL]
  | p :: q :: r => by
    have ih := join_count c (q :: r)
    show _ ≤ (p ++ ([c] ++ TL.joinL [c] (q :: r))).length + 1
    rw [List.length_append, List.length_append, List.length_cons]
    simp only [List.length_singleton]
    omega
theorem join_mem_len (c : Nat) : ∀ {ps : List W} {p : W}, p ∈ ps → p.length ≤ (TL.joinL [c] ps).length
  | [p], q, h => by
    have : q = p := by simpa using h
    subst this; exact Nat.le_refl _
  | p :: q :: r, x, h => by
    show _ ≤ (p ++ ([c] ++ TL.joinL [c] (q :: r))).length
    rw [List.length_append, List.length_append]
    rcases List.mem_cons.mp h with h | h
    · rw [h]; omega
    · have := join_mem_len c h; omega
theorem txts_tx : ∀ ws : List W, txts? (tx ws) = some ws
  | [] => rfl
  | w :: ws => by
    have ih := txts_tx ws
    simp only [List.map_cons, txts?, ih]
    simp
theorem joinR_tx {s : Str} {c : Nat} {ws : List W} {M : Mem} (hs : s.cps.toList = [c]) (h0 : ws ≠ []) (hl : (TL.joinL [c] ws).length + 1 ≤ SLIM) : joinR s (tx ws) M = .ok (.val (.str (mk (TL.joinL [c] ws)))) M := by
  unfold joinR
  rw [txts_tx]
  simp only [hs]
  rw [if_pos (by rw [join_len c h0]; exact hl)]
theorem joinE_own {f g : FE} {ρ : Sl} {M : Mem} {s : Str} {c : Nat} {ws : List W} (hf : f ρ M = .ok (.val (.str s)) M) (hs : s.cps.toList = [c]) (hg : g ρ M = .ok (.own (tx ws)) M) (h0 : ws ≠ []) (hl : (TL.joinL [c] ws).length + 1 ≤ SLIM) :
    joinE f g ρ M = .ok (.val (.str (mk (TL.joinL [c] ws)))) M := by
  unfold joinE
  rw [hf]
  simp only [R.bind_ok]
  show (g ρ M).bind _ = _
  rw [hg]
  exact joinR_tx hs h0 hl
theorem joinE_lst {f g : FE} {ρ : Sl} {M : Mem} {s : Str} {c : Nat} {ws : List W} (hf : f ρ M = .ok (.val (.str s)) M) (hs : s.cps.toList = [c]) (hg : g ρ M = .ok (.val (.lst (tx ws))) M) (h0 : ws ≠ []) (hl : (TL.joinL [c] ws).length + 1 ≤ SLIM) :
    joinE f g ρ M = .ok (.val (.str (mk (TL.joinL [c] ws)))) M := by
  unfold joinE
  rw [hf]
  simp only [R.bind_ok]
  show (g ρ M).bind _ = _
  rw [hg]
  exact joinR_tx hs h0 hl
theorem strP_num {n : Nat} (h : n < 10 ^ 10) (M : Mem) : strP (.val (.int (n : Nat))) M = .ok (.val (.str (mk (numW n)))) M := by
  unfold strP
  show (if 0 ≤ ((n : Nat) : Int) ∧ ((n : Nat) : Int) < 10 ^ 40 then _ else _) = _
  rw [if_pos ⟨by omega, by omega⟩]
  rfl
@[simp] theorem strP_str (s : Str) (M : Mem) : strP (.val (.str s)) M = .ok (.val (.str s)) M := rfl
@[simp] theorem lstP_tup (l : List RS.D) (M : Mem) : lstP (.val (.tup l)) M = .ok (.own l) M := rfl
theorem mk_app (s : Str) (w : W) : s ++ mk w = mk (sl s ++ w) := by
  have h : (s ++ mk w).cps.toList = sl s ++ w := by
    show (s.cps ++ (mk w).cps).toList = _
    rw [Array.toList_append]; simp [sl]
  rw [← h]; first | done | exact (TL.mk_tl _).symm
end K58
set_option Elab.async false
set_option linter.all false
set_option maxRecDepth 100000
set_option maxHeartbeats 4000000
/-! law_k58: conditions, rows, visitors, reasons written; the program's writers and the law's. -/
namespace K58
open PySem L2 RS
theorem join_le (c b : Nat) : ∀ {ps : List W}, (∀ p ∈ ps, p.length ≤ b) → (TL.joinL [c] ps).length ≤ ps.length * (b + 1)
  | [], _ => Nat.zero_le _
  | [p], h => by
    have := h p List.mem_cons_self
    show p.length ≤ 1 * (b + 1)
    omega
  | p :: q :: r, h => by
    have ih := join_le c b (ps := q :: r) fun x hx => h x (List.mem_cons_of_mem _ hx)
    have := h p List.mem_cons_self
    show (p ++ ([c] ++ TL.joinL [c] (q :: r))).length ≤ _
    rw [List.length_append, List.length_append, List.length_cons (as := q :: r), Nat.succ_mul]
    simp only [List.length_singleton]
    omega
theorem lineW_cons (a b : W) (r : List W) : lineW (a :: b :: r) = a ++ (32 :: lineW (b :: r)) := rfl
theorem lineW_cons' {a : W} {r : List W} (h : r ≠ []) : lineW (a :: r) = a ++ (32 :: lineW r) := by
  cases r with
  | nil => exact absurd rfl h
  | cons b r => rfl
/-- the texts of some data -/
theorem cmp_strs {j : Nat} {fi : Sl → Mem → R (List RS.D)} {ρ : Sl} {M : Mem} (ps : List (RS.D × W)) (hf : fi ρ M = .ok (ps.map Prod.fst) M) (hj : j < ρ.length) (hl : ps.length ≤ SLIM) (h : ∀ p ∈ ps, strP (.val p.1) M = .ok (.val (.str (mk p.2))) M) :
    cmpE fi (tgN j) yesT (stE (op1 (getVar j) strP)) [j] ρ M = .ok (.own (tx (ps.map Prod.snd))) M := by
  have C := cmpE_plain (fi := fi) (t := tgN j) (b := yesT) (e := stE (op1 (getVar j) strP)) (vs := [j]) (ρ := ρ) (M := M) (fun p : RS.D × W => p.1) (fun _ => true) (fun p => RS.D.str (mk p.2)) ps hf hl
    (fun p hp => ⟨_, rfl, rfl, fun _ => by
      have e9 : ((wipeS ρ [j]).set j (.val p.1))[j]? = some (.val p.1) := by
        rw [List.getElem?_set_self]
        show j < (ρ.set j Slot.none).length
        rw [List.length_set]; exact hj
      simp only [stE_ap, op1_ap, getVar_ap, e9, R.bind_ok, h p hp]
      rfl⟩)
  have hf : (ps.filter fun _ => true) = ps := by simp
  rw [hf] at C
  rw [C]
  congr 2
  rw [tx, List.map_map]; rfl
def numP (n : Nat) : RS.D × W := (.int n, numW n)
def posP : CondK → List (RS.D × W)
  | .group x => [(.str "group", sl "group"), (.str (mk x), x)] | .feature x => [(.str "feature", sl "feature"), (.str (mk x), x)]
  | .share x a b => [(.str "share", sl "share"), (.str (mk x), x), numP a, numP b] | .days a b => [(.str "days", sl "days"), numP a, numP b]
theorem posP_fst (k : CondK) : (posP k).map Prod.fst = posD k := by cases k <;> rfl
theorem posP_snd (k : CondK) : (posP k).map Prod.snd = posW k := by cases k <;> rfl
theorem strP_sl (s : Str) (M : Mem) : strP (.val (.str s)) M = .ok (.val (.str (mk (sl s)))) M := by rw [mk_sl]; rfl
theorem posP_str {k : CondK} (h : posOk k) (M : Mem) : ∀ p ∈ posP k, strP (.val p.1) M = .ok (.val (.str (mk p.2))) M := by
  cases k with
  | group x => intro p hp; simp only [posP, List.mem_cons, List.not_mem_nil, or_false] at hp; rcases hp with rfl | rfl; exact strP_sl _ _; rfl
  | feature x => intro p hp; simp only [posP, List.mem_cons, List.not_mem_nil, or_false] at hp; rcases hp with rfl | rfl; exact strP_sl _ _; rfl
  | share x a b => intro p hp; simp only [posP, List.mem_cons, List.not_mem_nil, or_false] at hp; rcases hp with rfl | rfl | rfl | rfl; exact strP_sl _ _; rfl; exact strP_num h.2.1 M; exact strP_num h.2.2 M
  | days a b => intro p hp; simp only [posP, List.mem_cons, List.not_mem_nil, or_false] at hp; rcases hp with rfl | rfl | rfl; exact strP_sl _ _; exact strP_num h.1 M; exact strP_num h.2 M
theorem posD_cut (k : CondK) (x : RS.D) : cutL (posD k ++ [x]) none (some (-1)) = posD k := by cases k <;> rfl
theorem posD_last (k : CondK) (x : RS.D) : atI (posD k ++ [x]) (-1) = some x := by cases k <;> rfl
theorem posW_ne (k : CondK) : posW k ≠ [] := by obtain ⟨a, r, e, _⟩ := posW_head k; rw [e]; simp
theorem condW_ne (c : Cond) : condW c ≠ [] := by
  unfold condW
  intro h
  exact posW_ne c.k (List.append_eq_nil_iff.mp h).2
theorem posW_len (k : CondK) : (posW k).length ≤ 4 := by cases k <;> simp [posW]
theorem condW_len (c : Cond) : (condW c).length ≤ 5 := by
  have := posW_len c.k
  unfold condW
  rw [List.length_append]
  split <;> simp <;> omega
theorem cond_line {c : Cond} (h : posOk c.k) : (lineW (condW c)).length ≤ 55 := by
  have := join_le 32 10 (ps := condW c) fun p hp => (cond_plain h p hp).1
  have := condW_len c
  have : (lineW (condW c)).length ≤ (condW c).length * (10 + 1) := by assumption
  omega
@[simp] theorem sl_sp : (Str.ofString " ").cps.toList = [32] := by decide +kernel
@[simp] theorem sl_nl : (Str.ofString "\n").cps.toList = [10] := by decide +kernel
theorem m_condition_words (c : Cond) (M : Mem) (h : posOk c.k) : f_condition_words [condD c] M = .ok (.val (.str (mk (lineW (condW c))))) M := by
  obtain ⟨k, y⟩ := c
  have hl : (TL.joinL [32] (condW ⟨k, y⟩)).length + 1 ≤ SLIM := by have : (lineW (condW ⟨k, y⟩)).length ≤ 55 := cond_line h; unfold lineW at this; unfold SLIM; omega
  unfold f_condition_words fnD b_condition_words
  have C := cmp_strs (j := 2) (fi := seqE (slE (getVar 0) (fun _ M => .ok none M) (ixO (op1 (con (.int 1)) negP)))) (ρ := [.val (condD ⟨k, y⟩), .none, .none]) (M := M) (posP k)
    (by simp [condD, posP_fst, posD_cut]) (by simp) (by have := posW_len k; rw [← posP_snd, List.length_map] at this; unfold SLIM; omega) (posP_str h M)
  rw [posP_snd] at C
  cases y with
  | true =>
    have J := joinE_lst (f := con (.str " ")) (g := getVar 1) (ρ := [.val (condD ⟨k, true⟩), .val (.lst (tx (posW k))), .none]) (M := M) (ws := condW ⟨k, true⟩) rfl sl_sp (by simp [condW]) (condW_ne _) hl
    simp only [condW, if_true, List.nil_append, condD] at J C
    simp [C, condD, posD_last, J, condW, lineW]
  | false =>
    have J := joinE_lst (f := con (.str " ")) (g := getVar 1) (ρ := [.val (condD ⟨k, false⟩), .val (.lst (tx (condW ⟨k, false⟩))), .none]) (M := M) (ws := condW ⟨k, false⟩) rfl sl_sp (by simp) (condW_ne _) hl
    have hp := posW_len k
    have h5 : 1 + (posW k).length ≤ 16000001 := by omega
    have c : condW ⟨k, false⟩ = sl "not" :: posW k := rfl
    rw [c] at J ⊢
    simp only [condD, List.map_cons, mk_sl] at J C
    simp [C, condD, posD_last, addP, h5, LIM, J, lineW]
end K58
set_option Elab.async false
set_option linter.all false
set_option maxRecDepth 100000
set_option maxHeartbeats 4000000
/-! law_k58: the law's own readers compute the same plain reader. -/
namespace K58
open PySem L2 RS
@[simp] theorem intOf_bl (b : Bool) (M : Mem) : intOf (.val (.bl b)) M = .ok (.val (.int (if b then 1 else 0))) M := rfl
@[simp] theorem intOf_int (b : Int) (M : Mem) : intOf (.val (.int b)) M = .ok (.val (.int b)) M := rfl
def lnum (w : W) : Int := match num? w with | some n => (n : Int) | none => -1
theorem m_law_number (w : W) (M : Mem) : f_law_number [.str (mk w)] M = .ok (.val (.int (lnum w))) M := by
  unfold f_law_number fnD b_law_number
  by_cases h10 : w.length ≤ 10
  · cases w with
    | nil => simp [lnum, num?, goodNum, negP]
    | cons c r =>
      have h10' : ¬ (10 : Int) < (r.length : Int) + 1 := by simp at h10; omega
      have h1' : ¬ (r.length : Int) + 1 < 1 := by omega
      have C := cmpE_plain (fi := seqE (getVar 0)) (t := tgN 1) (b := tst (op2 (getVar 1) (con (.str "0123456789")) (inP true))) (e := stE (getVar 1)) (vs := [1]) (ρ := [.val (.str (mk (c :: r))), .none]) (M := M) (fun c => RS.D.str (mk [c])) (fun c => !decide (c ∈ digits)) (fun c => RS.D.str (mk [c])) (c :: r) (by simp) (by unfold SLIM; omega)
        (fun a _ => ⟨_, rfl, by
          have : ∀ p : Bool, (.ok p M : R Bool) = .ok p M := fun _ => rfl
          simp only [tst_ap, op2_ap, getVar_ap, con_ap, wipeS, List.foldl]
          show ((inP true (.val (.str (mk [a]))) (.val (.str "0123456789")) M).bind asBool) = _
          rfl, fun _ => by simp [wipeS]⟩)
      by_cases hd : ((c :: r).all fun c => decide (c ∈ digits)) = true
      · have hf : ((c :: r).filter fun c => !decide (c ∈ digits)) = [] := by
          rw [List.filter_eq_nil_iff]
          intro a ha
          have := List.all_eq_true.mp hd a ha
          simp at this ⊢
          exact this
        rw [hf] at C
        have hdd : NumText.AllDigits (c :: r) := fun x hx => mem_digits.mp (by have := List.all_eq_true.mp hd x hx; simpa using this)
        have hi : intText? (mk (c :: r)) = some ((NumText.digitsVal (c :: r) : Nat) : Int) := by
          have := PySem.intText_digits (x := mk (c :: r)) (by simpa using hdd) (by simp) (by simp at h10 ⊢; omega)
          simpa using this
        have hlen : (mk (c :: r)).length ≤ 640 := by rw [mk_len]; omega
        have hint : intOf (.val (.str (mk (c :: r)))) M = .ok (.val (.int (NumText.digitsVal (c :: r) : Nat))) M := by
          show (match intText? (mk (c :: r)) with | some n => if (mk (c :: r)).length ≤ 640 then R.ok (Val.val (RS.D.int n)) M else R.bad | none => R.bad) = _
          rw [hi]
          simp only [if_pos hlen]
        by_cases hz : c = 48 ∧ 0 < r.length
        · obtain ⟨rfl, hr⟩ := hz
          have hg : goodNum (48 :: r) = false := by unfold goodNum; simp [hr]
          have h1 : (1 : Int) < (r.length : Int) + 1 := by omega
          simp [C, h10', h1', lnum, num?, hg, zero_is, h1, negP, andT, orT]
        · have hg : goodNum (c :: r) = true := by
            unfold goodNum
            simp only [hd, h10, Bool.and_eq_true, decide_eq_true_eq]
            simp
            by_cases hc : c = 48
            · exact .inr (by cases r with | nil => rfl | cons a b => exact absurd ⟨hc, by simp⟩ hz)
            · exact .inl hc
          by_cases hc : c = 48
          · have hr : r = [] := by cases r with | nil => rfl | cons a b => exact absurd ⟨hc, by simp⟩ hz
            subst hr
            subst hc
            simp [C, lnum, num?, hg, zero_is, hint]
          · simp [C, h10', h1', lnum, num?, hg, zero_is, hc, hint]
      · have hg : goodNum (c :: r) = false := by unfold goodNum; rw [Bool.eq_false_iff.mpr hd]; simp
        have hf : 0 < ((c :: r).filter fun c => !decide (c ∈ digits)).length := by
          rw [List.length_pos_iff]
          intro z
          refine hd (List.all_eq_true.mpr fun a ha => ?_)
          have := List.filter_eq_nil_iff.mp z a ha
          simpa using this
        have hf' : (0 : Int) < (((c :: r).filter fun c => !decide (c ∈ digits)).length : Int) := by omega
        generalize ((c :: r).filter fun c => !decide (c ∈ digits)) = q at C hf hf'
        have hq : ¬ q = [] := fun z => by rw [z] at hf; simp at hf
        simp [C, h10', h1', lnum, num?, hg, hf, hq, negP]
  · have h10' : (10 : Int) < w.length := by omega
    have hg : goodNum w = false := by unfold goodNum; simp [h10]
    have h1' : ¬ ((w.length : Int) < 1) := by omega
    simp [h10', h1', lnum, num?, hg, negP]
theorem m_law_named (ws : List W) (M : Mem) : f_law_named [.lst (tx ws)] M = .ok (.val (.bl (ws.all isName))) M := by
  unfold f_law_named fnD b_law_named
  have L := forGo_all (t := tgN 2) (b := lb_law_named_1) (fun w : W => RS.D.str (mk w)) (fun ρ => ∃ d e, ρ = [.val (.lst (tx ws)), .val (.str "abcdefghijklmnopqrstuvwxyz"), d, e]) isName (.val (.bl false)) M ws [.val (.lst (tx ws)), .val (.str "abcdefghijklmnopqrstuvwxyz"), .none, .none] ⟨_, _, rfl⟩ (fun w _ ρ ⟨d, e, hρ⟩ => by
    subst hρ
    refine ⟨_, rfl, ?_⟩
    unfold lb_law_named_1
    by_cases h8 : w.length ≤ 8
    · cases w with
      | nil => simp [isName]
      | cons c r =>
        have h8' : ¬ (8 : Int) < (r.length : Int) + 1 := by simp at h8; omega
        have h1' : ¬ ((r.length : Int) + 1 < 1) := by omega
        have hm : ∀ a : Nat, decide (a ∈ (Str.ofString "abcdefghijklmnopqrstuvwxyz" ++ Str.ofString "0123456789").cps) = (decide (a ∈ letters) || decide (a ∈ digits)) := fun a => by
          have : (Str.ofString "abcdefghijklmnopqrstuvwxyz" ++ Str.ofString "0123456789").cps.toList = letters ++ digits := by decide +kernel
          rw [Bool.eq_iff_iff]
          simp only [decide_eq_true_eq, Bool.or_eq_true]
          rw [← Array.mem_toList_iff, this, List.mem_append]
        have hl : (Str.ofString "abcdefghijklmnopqrstuvwxyz").length + (Str.ofString "0123456789").length ≤ SLIM := by decide +kernel
        by_cases hc : c ∈ letters
        · have hc' : c ∈ (Str.ofString "abcdefghijklmnopqrstuvwxyz").cps.toList := hc
          have C := cmpE_plain (fi := seqE (getVar 2)) (t := tgN 3) (b := tst (op2 (getVar 3) (op2 (getVar 1) (con (.str "0123456789")) addP) (inP true))) (e := stE (getVar 3)) (vs := [3]) (ρ := [.val (.lst (tx ws)), .val (.str "abcdefghijklmnopqrstuvwxyz"), .val (.str (mk (c :: r))), e]) (M := M) (fun c => RS.D.str (mk [c])) (fun c => !(decide (c ∈ letters) || decide (c ∈ digits))) (fun c => RS.D.str (mk [c])) (c :: r) (by simp) (by unfold SLIM; omega)
            (fun a _ => ⟨_, rfl, by simp [wipeS, addP, hl, hm], fun _ => by simp [wipeS]⟩)
          have hn : isName (c :: r) = (c :: r).all fun c => decide (c ∈ letters) || decide (c ∈ digits) := by
            unfold isName
            simp only [hc, h8, decide_true, Bool.and_true, Bool.true_and]
            simp
          by_cases ha : ((c :: r).all fun c => decide (c ∈ letters) || decide (c ∈ digits)) = true
          · have hf : ((c :: r).filter fun c => !(decide (c ∈ letters) || decide (c ∈ digits))) = [] := by
              rw [List.filter_eq_nil_iff]
              intro a h
              have := List.all_eq_true.mp ha a h
              rw [this]; simp
            rw [hf] at C
            rw [hn, if_pos ha]
            refine ⟨[.val (.lst (tx ws)), .val (.str "abcdefghijklmnopqrstuvwxyz"), .val (.str (mk (c :: r))), e], ?_, _, _, rfl⟩
            simp [h8', h1', hc', C]
          · have hf : 0 < ((c :: r).filter fun c => !(decide (c ∈ letters) || decide (c ∈ digits))).length := by
              rw [List.length_pos_iff]
              intro z
              refine ha (List.all_eq_true.mpr fun a h => ?_)
              have := List.filter_eq_nil_iff.mp z a h
              revert this
              cases (decide (a ∈ letters) || decide (a ∈ digits)) <;> simp
            have hf' : (0 : Int) < (((c :: r).filter fun c => !(decide (c ∈ letters) || decide (c ∈ digits))).length : Int) := by omega
            rw [hn, if_neg ha]
            generalize ((c :: r).filter fun c => !(decide (c ∈ letters) || decide (c ∈ digits))) = q at C hf hf'
            have hq : ¬ q = [] := fun z => by rw [z] at hf; simp at hf
            simp [h8', h1', hc', C, hf, hq]
        · have hc' : ¬ c ∈ (Str.ofString "abcdefghijklmnopqrstuvwxyz").cps.toList := hc
          have hn : isName (c :: r) = false := by unfold isName; simp [hc]
          simp [h8', h1', hc', hn]
    · have h8' : (8 : Int) < w.length := by omega
      have h1' : ¬ ((w.length : Int) < 1) := by omega
      have hn : isName w = false := by unfold isName; simp [h8]
      simp [h8', h1', hn])
  have g : forF (seqE (getVar 0)) (tgN 2) lb_law_named_1 [.val (.lst (tx ws)), .val (.str "abcdefghijklmnopqrstuvwxyz"), .none, .none] M = forGo (tgN 2) lb_law_named_1 (tx ws) [.val (.lst (tx ws)), .val (.str "abcdefghijklmnopqrstuvwxyz"), .none, .none] M := rfl
  have st : [Slot.val (.lst (tx ws))] ++ List.replicate 3 Slot.none = [.val (.lst (tx ws)), .none, .none, .none] := rfl
  by_cases hp : ws.all isName = true
  · rw [if_pos hp] at L
    obtain ⟨ρ', q, _⟩ := L
    rw [hp]
    simp [q]
  · rw [if_neg hp] at L
    rw [Bool.eq_false_iff.mpr hp]
    simp [L]
/-- the numbers of words -/
theorem lnum_non (w : W) : lnum w = -1 ↔ num? w = none := by
  unfold lnum
  cases num? w with
  | none => simp
  | some n => simp
theorem lnums_non : ∀ (ws : List W), (match nums? ws with | some ns => (ws.map fun w => RS.D.int (lnum w)) = (ns.map fun (n : Nat) => RS.D.int n) ∧ inF (.int (-1)) (ws.map fun w => RS.D.int (lnum w)) = false | none => inF (.int (-1)) (ws.map fun w => RS.D.int (lnum w)) = true)
  | [] => ⟨rfl, rfl⟩
  | w :: ws => by
    have ih := lnums_non ws
    have e : ∀ d l, inF (.int (-1)) (d :: l) = (eqF d (.int (-1)) || inF (.int (-1)) l) := fun d l => rfl
    unfold nums?
    rw [List.map_cons, e]
    cases h : num? w with
    | none => simp [lnum, h, eqF]
    | some n =>
      have hn : ¬ ((n : Int) = -1) := by omega
      cases h2 : nums? ws with
      | none => rw [h2] at ih; simp only at ih ⊢; rw [ih]; simp
      | some ns =>
        rw [h2] at ih
        simp only at ih ⊢
        rw [ih.2]
        refine ⟨by rw [List.map_cons, ih.1]; simp [lnum, h], ?_⟩
        simp [lnum, h, eqF, hn]
theorem cmp_lnum {j : Nat} {fi : Sl → Mem → R (List RS.D)} {ρ : Sl} {M : Mem} (ws : List W) (hf : fi ρ M = .ok (tx ws) M) (hj : j < ρ.length) (hl : ws.length ≤ SLIM) :
    cmpE fi (tgN j) yesT (stE (callE 1 f_law_number (aCons (stE (getVar j)) aNil))) [j] ρ M = .ok (.own (ws.map fun w => RS.D.int (lnum w))) M := by
  have C := cmpE_plain (fi := fi) (t := tgN j) (b := yesT) (e := stE (callE 1 f_law_number (aCons (stE (getVar j)) aNil))) (vs := [j]) (ρ := ρ) (M := M) (fun w : W => RS.D.str (mk w)) (fun _ => true) (fun w => RS.D.int (lnum w)) ws hf hl
    (fun w _ => ⟨_, rfl, rfl, fun _ => by
      have e9 : ((wipeS ρ [j]).set j (.val (RS.D.str (mk w))))[j]? = some (.val (RS.D.str (mk w))) := by
        rw [List.getElem?_set_self]
        show j < (ρ.set j Slot.none).length
        rw [List.length_set]; exact hj
      simp [e9, m_law_number]⟩)
  have hf : (ws.filter fun _ => true) = ws := by simp
  rw [hf] at C
  exact C
theorem inP_lnum (l : List W) (v : List RS.D → Val) (hv : ∀ M, view (v (l.map fun w => RS.D.int (lnum w))) M = .lst (l.map fun w => RS.D.int (lnum w))) (M : Mem) :
    inP true (.val (.int (-1))) (v (l.map fun w => RS.D.int (lnum w))) M = .ok (.val (.bl (nums? l).isSome)) M := by
  have N := lnums_non l
  have hf : (l.map fun w => RS.D.int (lnum w)).all flatB = true := by
    rw [List.all_map, List.all_eq_true]; intro w _; rfl
  unfold inP
  rw [hv]
  simp only [view_int, hf, flatB, Bool.and_true, if_true]
  cases h : nums? l with
  | none => rw [h] at N; simp only at N; rw [N]; rfl
  | some ns => rw [h] at N; simp only at N; rw [N.2]; rfl
end K58
set_option Elab.async false
set_option linter.all false
set_option maxRecDepth 100000
set_option maxHeartbeats 4000000
/-! law_k58: the law's conditions, rows, reasons. -/
namespace K58
open PySem L2 RS
def lc_tail : FS := (seqF (ifF (andT (tst (op2 (op1 (getVar 2) lenP) (con (.int 2)) (eqP false))) (andT (tst (op2 (op2 (getVar 2) (con (.int 0)) idxP) (tupE (aCons (stE (con (.str "group"))) (aCons (stE (con (.str "feature"))) aNil))) (inP false))) (tst (callE 1 f_law_named (aCons (stE (slE (getVar 2) (ixO (con (.int 1))) (fun _ M => .ok none M))) aNil)))))
 (retF (tupE (aCons (stE (op2 (getVar 2) (con (.int 0)) idxP)) (aCons (stE (op2 (getVar 2) (con (.int 1)) idxP)) (aCons (stE (getVar 1)) aNil)))))
 nxt)
 (seqF (ifF (andT (tst (op2 (op1 (getVar 2) lenP) (con (.int 4)) (eqP false))) (andT (tst (op2 (op2 (getVar 2) (con (.int 0)) idxP) (con (.str "share")) (eqP false))) (andT (tst (callE 1 f_law_named (aCons (stE (slE (getVar 2) (ixO (con (.int 1))) (ixO (con (.int 2))))) aNil))) (tst (op2 (op1 (con (.int 1)) negP) (getVar 3) (inP true))))))
 (retF (tupE (aCons (stE (con (.str "share"))) (aCons (stE (op2 (getVar 2) (con (.int 1)) idxP)) (aCons (stE (op2 (getVar 3) (con (.int 0)) idxP)) (aCons (stE (op2 (getVar 3) (con (.int 1)) idxP)) (aCons (stE (getVar 1)) aNil)))))))
 nxt)
 (seqF (ifF (andT (tst (op2 (op1 (getVar 2) lenP) (con (.int 3)) (eqP false))) (andT (tst (op2 (op2 (getVar 2) (con (.int 0)) idxP) (con (.str "days")) (eqP false))) (tst (op2 (op1 (con (.int 1)) negP) (getVar 3) (inP true)))))
 (retF (tupE (aCons (stE (con (.str "days"))) (aCons (stE (op2 (getVar 3) (con (.int 0)) idxP)) (aCons (stE (op2 (getVar 3) (con (.int 1)) idxP)) (aCons (stE (getVar 1)) aNil))))))
 nxt)
 (retF (con .non)))))
@[simp] theorem cut_12 {α : Type} (a b : α) (l : List α) : cutL (a :: b :: l) (some 1) (some 2) = [b] := by
  unfold cutL
  have h1 : min 1 (a :: b :: l).length = 1 := by simp
  have h2 : min 2 (a :: b :: l).length = 2 := by simp
  rw [sIx_two, sIx_one, h1, h2]; rfl
theorem nums_two (p q : W) : nums? [p, q] = (match num? p, num? q with | some p, some q => some [p, q] | _, _ => none) := by
  unfold nums? nums? nums?
  cases num? p <;> cases num? q <;> rfl
theorem lc_tail_ok (A : Slot) (y : Bool) (rest : List W) (e : Slot) (M : Mem) : lc_tail [A, .val (.bl y), .val (.lst (tx rest)), .val (.lst ((cutL rest (some (-2)) none).map fun w => .int (lnum w))), e] M = .ok (.ret (.val (cD ((pos? rest).map (⟨·, y⟩))))) M := by
  unfold lc_tail
  match rest with
  | [] => simp [pos?, cD]
  | [a] => simp [pos?, cD]
  | [a, x] =>
    have N := m_law_named [x] M
    simp at N
    by_cases h1 : a = sl "group"
    · by_cases h2 : isName x = true
      · rw [h2] at N; simp +decide [pos?, h1, h2, N, LIM, cD, condD, posD]
      · rw [Bool.eq_false_iff.mpr h2] at N; simp +decide [pos?, h1, h2, N, LIM, n_fg.symm, cD]
    · by_cases h3 : a = sl "feature"
      · by_cases h2 : isName x = true
        · rw [h2] at N; simp +decide [pos?, h3, h2, N, LIM, posD, n_fg, cD, condD]
        · rw [Bool.eq_false_iff.mpr h2] at N; simp +decide [pos?, h3, h2, N, LIM, n_fg, cD]
      · simp [pos?, h1, h3, LIM, cD]
  | [a, p, q] =>
    have hc : cutL [a, p, q] (some (-2)) none = [p, q] := rfl
    rw [hc]
    have I := inP_lnum [p, q] (fun l => .val (.lst l)) (fun _ => rfl) M
    rw [nums_two] at I
    simp at I
    by_cases h1 : a = sl "days"
    · cases hp : num? p with
      | none => rw [hp] at I; simp at I; simp [pos?, h1, hp, I, cD, negP]
      | some p' =>
        cases hq : num? q with
        | none => rw [hp, hq] at I; simp at I; simp [pos?, h1, hp, hq, I, cD, negP]
        | some q' => rw [hp, hq] at I; simp at I; simp [pos?, h1, hp, hq, I, LIM, posD, cD, condD, lnum, negP]; simp [lnum, hp, hq] at I; simp [I]
    · simp [pos?, h1, cD]
  | [a, x, p, q] =>
    have hc : cutL [a, x, p, q] (some (-2)) none = [p, q] := rfl
    rw [hc]
    have I := inP_lnum [p, q] (fun l => .val (.lst l)) (fun _ => rfl) M
    rw [nums_two] at I
    simp at I
    have N := m_law_named [x] M
    simp at N
    by_cases h1 : a = sl "share"
    · by_cases h2 : isName x = true
      · rw [h2] at N
        cases hp : num? p with
        | none => rw [hp] at I; simp at I; simp [pos?, h1, h2, hp, I, N, cD, negP]
        | some p' =>
          cases hq : num? q with
          | none => rw [hp, hq] at I; simp at I; simp [pos?, h1, h2, hp, hq, I, N, cD, negP]
          | some q' => rw [hp, hq] at I; simp at I; simp [pos?, h1, h2, hp, hq, I, N, LIM, posD, cD, condD, lnum, negP]; simp [lnum, hp, hq] at I; simp [I]
      · rw [Bool.eq_false_iff.mpr h2] at N
        simp [pos?, h1, h2, N, cD]
    · simp [pos?, h1, cD]
  | a :: b :: c :: d :: e' :: r =>
    have e2 : ¬ ((r.length : Int) + 1 + 1 + 1 + 1 + 1 = 2) := by omega
    have e3 : ¬ ((r.length : Int) + 1 + 1 + 1 + 1 + 1 = 3) := by omega
    have e4 : ¬ ((r.length : Int) + 1 + 1 + 1 + 1 + 1 = 4) := by omega
    simp [pos?, e2, e3, e4, cD]
theorem m_law_condition_of (ws : List W) (M : Mem) (hl : ws.length ≤ SLIM) : f_law_condition_of [.lst (tx ws)] M = .ok (.val (cD (cond? ws))) M := by
  have key : ∀ (y : Bool) (rest : List W), rest.length ≤ ws.length →
      seqF (setF 3 (cmpE (seqE (slE (getVar 2) (ixO (op1 (con (.int 2)) negP)) (fun _ M => .ok none M))) (tgN 4) yesT (stE (callE 1 f_law_number (aCons (stE (getVar 4)) aNil))) [4])) lc_tail [.val (.lst (tx ws)), .val (.bl y), .val (.lst (tx rest)), .none, .none] M = .ok (.ret (.val (cD ((pos? rest).map (⟨·, y⟩))))) M := by
    intro y rest hr
    have C := cmp_lnum (j := 4) (fi := seqE (slE (getVar 2) (ixO (op1 (con (.int 2)) negP)) (fun _ M => .ok none M))) (ρ := [.val (.lst (tx ws)), .val (.bl y), .val (.lst (tx rest)), .none, .none]) (M := M) (cutL rest (some (-2)) none) (by simp [cutL_map]) (by simp) (by have := cutL_len rest (some (-2)) none; omega)
    rw [seqF_ap, setF_ap]
    simp only [stE_ap, C, R.bind_ok, sto_own]
    exact lc_tail_ok _ y rest _ M
  unfold f_law_condition_of fnD
  show (match b_law_condition_of [.val (.lst (tx ws)), .none, .none, .none, .none] M with | .ok (.ret x) M' => _ | .ok (.next _) M' => _ | .exn c d M' => _ | _ => _) = _
  have B : b_law_condition_of [.val (.lst (tx ws)), .none, .none, .none, .none] M = .ok (.ret (.val (cD (cond? ws)))) M := by
    show seqF _ (seqF _ (seqF _ lc_tail)) _ _ = _
    have E := eqP_words (neg := true) (x := .own (tx (ws.take 1))) (y := .own [.str "not"]) (M := M) (ws := ws.take 1) (s := "not") rfl rfl
    simp only [if_true] at E
    cases ws with
    | nil =>
      have K := key true [] (by simp)
      simp at E K
      simp [E, cond?, LIM]
      simpa [pos?, cD] using K
    | cons w r =>
      by_cases h : w = sl "not"
      · have K := key false r (by simp)
        simp [h] at E K
        simp [E, h, cond?, LIM]
        simpa using K
      · have K := key true (w :: r) (by simp)
        simp [h] at E K
        simp [E, h, cond?, LIM]
        simpa using K
  rw [B]
end K58
set_option Elab.async false
set_option linter.all false
set_option maxRecDepth 100000
set_option maxHeartbeats 4000000
/-! law_k58: the law's rows, reasons. -/
namespace K58
open PySem L2 RS
theorem gcond_is (ws : List W) : gcond? ws = (match cond? ws with | some c => if isFeature c.k = true then none else some c | none => none) := by
  unfold gcond?
  cases h : cond? ws with
  | none => rfl
  | some c => cases hf : isFeature c.k <;> simp [Option.filter, hf]
theorem m_law_row_of (ws : List W) (M : Mem) (h0 : ws ≠ []) (hl : ws.length ≤ SLIM) : f_law_row_of [.lst (tx ws)] M = .ok (.val (rD (row? ws))) M := by
  unfold f_law_row_of fnD b_law_row_of
  have E := eqP_words (neg := false) (x := .val (.lst (tx ws))) (y := .own [.str "void"]) (M := M) rfl rfl
  cases ws with
  | nil => exact absurd rfl h0
  | cons w r =>
    have hr : r.length ≤ SLIM := by simp at hl; omega
    by_cases hv : w :: r = [sl "void"]
    · have hv' : w = sl "void" ∧ r = [] := by simpa using hv
      simp [hv] at E
      simp [E, hv'.1, hv'.2, row?, rD, rowD, LIM]
    · have hv' : ¬ (w = sl "void" ∧ r = []) := fun z => hv (by rw [z.1, z.2])
      simp only [hv, decide_false] at E
      have C := cmp_lnum (j := 2) (fi := seqE (slE (getVar 0) (ixO (con (.int 1))) (fun _ M => .ok none M))) (ρ := [.val (.lst (tx (w :: r))), .none, .none, .none]) (M := M) r (by simp) (by simp) hr
      have I := inP_lnum r (fun l => .val (.lst l)) (fun _ => rfl) M
      have Q := m_law_condition_of r M hr
      have N := lnums_non r
      simp only [List.map_cons] at E C
      by_cases h1 : w = sl "shown"
      · subst h1
        simp only [mk_sl] at E C
        cases hn : nums? r with
        | none =>
          rw [hn] at I
          simp at I
          cases hc : cond? r with
          | none => rw [hc] at Q; simp [cD] at Q; simp +decide [E, C, I, Q, row?, rD, hn, n_sv, negP, LIM]
          | some c => rw [hc] at Q; simp [cD, condD] at Q; simp +decide [E, C, I, Q, row?, rD, hn, n_sv, negP, LIM]
        | some ns =>
          rw [hn] at I N
          simp only at N
          rw [N.1] at I C
          simp at I
          simp +decide [E, C, I, row?, rD, rowD, hn, n_sv, negP, LIM]
      · by_cases h2 : w = sl "split"
        · subst h2
          simp only [mk_sl] at E C
          have G := gcond_is r
          cases hc : cond? r with
          | none =>
            rw [hc] at Q G
            simp [cD] at Q
            simp only at G
            simp +decide [E, C, Q, row?, rD, G, n_pv, n_ps, LIM]
          | some c =>
            obtain ⟨k, y⟩ := c
            rw [hc] at Q G
            simp only at G
            cases k <;> (simp [cD, condD, posD] at Q; simp [isFeature] at G; simp +decide [E, C, Q, row?, rD, rowD, G, n_pv, n_ps, condD, posD, LIM])
        · cases hc : cond? r with
          | none => rw [hc] at Q; simp [cD] at Q; simp [E, C, Q, h1, h2, row?, rD, hv', LIM]
          | some c => rw [hc] at Q; simp [cD, condD] at Q; simp [E, C, Q, h1, h2, row?, rD, hv', LIM]
theorem m_law_reason_of (ws : List W) (M : Mem) (hl : ws.length ≤ SLIM) : f_law_reason_of [.lst (tx ws)] M = .ok (.val (qD (reason? ws))) M := by
  unfold f_law_reason_of fnD b_law_reason_of
  match ws, hl with
  | [], _ => simp [reason?, qD]
  | [a], _ => simp [reason?, qD]
  | [a, x], _ =>
    have : reason? [a, x] = none := by simp [reason?, vis?]
    simp [this, qD, LIM]
  | [a, x, p], _ =>
    have : reason? [a, x, p] = none := by simp [reason?, vis?]
    simp [this, qD, LIM]
  | a :: x :: p :: q :: gs, hl =>
    have hg : gs.length ≤ SLIM := by simp at hl; omega
    have h4 : ¬ ((gs.length : Int) + 1 + 1 + 1 + 1 < 4) := by omega
    have N := m_law_named gs M
    have hgl : gs.length ≤ LIM := by unfold SLIM at hg; unfold LIM; omega
    by_cases hn : gs.all isName = true
    · rw [hn] at N
      have I := inP_lnum [p, q] (fun l => .val (.lst l)) (fun _ => rfl) M
      rw [nums_two] at I
      simp at I
      have NX := m_law_named [x] M
      simp at NX
      cases hp : num? p with
      | none =>
        rw [hp] at I; simp at I
        have : reason? (a :: x :: p :: q :: gs) = none := by simp [reason?, vis?, hp]
        rw [this]
        by_cases h1 : a = sl "ban" <;> by_cases h3 : a = sl "loss" <;> simp [qD, h4, N, I, LIM, m_law_number, h1, h3, negP]
      | some p' =>
        cases hq : num? q with
        | none =>
          rw [hp, hq] at I; simp at I
          have : reason? (a :: x :: p :: q :: gs) = none := by simp [reason?, vis?, hp, hq]
          rw [this]
          by_cases h1 : a = sl "ban" <;> by_cases h3 : a = sl "loss" <;> simp [qD, h4, N, I, LIM, m_law_number, h1, h3, negP]
        | some q' =>
          rw [hp, hq] at I; simp at I
          simp [lnum, hp, hq] at I
          by_cases h1 : a = sl "ban"
          · subst h1
            cases hx : num? x with
            | none => simp +decide [reason?, vis?, hp, hq, hx, hn, qD, h4, N, I, LIM, m_law_number, lnum, negP]
            | some n => simp +decide [reason?, vis?, hp, hq, hx, hn, qD, h4, N, I, LIM, m_law_number, lnum, negP, reasonD, whyD, visD]
          · by_cases h3 : a = sl "loss"
            · subst h3
              by_cases hx : isName x = true
              · rw [hx] at NX; simp +decide [reason?, vis?, hp, hq, hx, hn, qD, h4, N, I, NX, LIM, m_law_number, lnum, negP, reasonD, whyD, visD, n_lb]
              · rw [Bool.eq_false_iff.mpr hx] at NX; simp +decide [reason?, vis?, hp, hq, hx, hn, qD, h4, N, I, NX, LIM, m_law_number, lnum, negP, n_lb]
            · simp [reason?, h1, h3, qD, h4, N, I, LIM, m_law_number, lnum, hp, hq]
    · rw [Bool.eq_false_iff.mpr hn] at N
      have : reason? (a :: x :: p :: q :: gs) = none := by simp [reason?, vis?, hn]
      simp [this, qD, h4, N, LIM]
end K58
set_option Elab.async false
set_option linter.all false
set_option maxRecDepth 100000
set_option maxHeartbeats 4000000
/-! law_k58: the law's reader of courses. -/
namespace K58
open PySem L2 RS
def errD (n : Nat) : RS.D := .tup [.str "error", .tup [.str "BadLine", .int n]]
def stg (n : Nat) : Int := if n = 0 then 0 else if n % 2 = 1 then 1 else 2
theorem stg_one {n : Nat} : stg n = 1 ↔ n % 2 = 1 := by
  unfold stg
  by_cases h : n = 0
  · subst h; simp
  · by_cases h2 : n % 2 = 1 <;> simp [h, h2]
theorem stg_pos {n : Nat} : 0 < stg n ↔ n ≠ 0 := by
  unfold stg
  by_cases h : n = 0
  · simp [h]
  · by_cases h2 : n % 2 = 1 <;> simp [h, h2]
theorem isNP_row (neg : Bool) (r : Row) (M : Mem) : isNP neg (.val (rowD r)) (.val .non) M = .ok (.val (.bl neg)) M := by
  cases r <;> simp [rowD, condD]
abbrev lsl (L : Slot) (rf : List RS.D) (ms : List W) (st : Int) (i : Nat) (d5 d6 d7 : Slot) : Sl := [L, .own rf, .own (tx ms), .val (.int st), .val (.int (i : Nat)), d5, d6, d7, .none]
def ll_else : FS := (ifF (andT (tst (op2 (getVar 6) (con .non) (isNP true))) (tst (op2 (getVar 3) (con (.int 0)) gtP)))
 (seqF (setF 7 (op2 (getVar 1) (op1 (con (.int 1)) negP) idxP))
 (appC (getVar 7) (getVar 6)))
 (retF (tupE (aCons (stE (con (.str "error"))) (aCons (stE (tupE (aCons (stE (con (.str "BadLine"))) (aCons (stE (op2 (getVar 4) (con (.int 1)) addP)) aNil)))) aNil)))))
section
variable {L : Slot} {ms ws : List W} {rf : List RS.D} {st : Int} {i : Nat} {d5 d6 d7 : Slot} {M : Mem}
variable (sp : splitE (op2 (getVar 0) (getVar 4) idxP) (con (.str " ")) (lsl L rf ms st i d5 d6 d7) M = .ok (.own (tx ws)) M) (h0 : ws ≠ []) (hl : ws.length ≤ SLIM)
include sp h0 hl
theorem ll_state (hw : ws = [sl "state"]) (he : st ≠ 1) (hb : rf.length < 16000001) :
    lb_law_read_course_1 (lsl L rf ms st i d5 d6 d7) M = .ok (.next (lsl L (rf ++ [.ref M.length]) ms 1 i (.val (.lst (tx ws))) (.val (rD (row? ws))) d7)) (M ++ [some []]) := by
  have RO := m_law_row_of ws M h0 hl
  subst hw
  have E := eqP_words (neg := false) (x := .val (.lst (tx [sl "state"]))) (y := .own [.str "state"]) (M := M) rfl rfl
  simp at E RO
  unfold lb_law_read_course_1
  simp [sp]
  simp [E, RO, LIM, hb, he, mkCell]
theorem ll_move {x : W} (hw : ws = [sl "move", x]) (he : st = 1) (hb : rf.length < 16000001) (hm : ms.length < 16000001) (hx : isName x = true) :
    lb_law_read_course_1 (lsl L rf ms st i d5 d6 d7) M = .ok (.next (lsl L (rf ++ [.ref M.length]) (ms ++ [x]) 2 i (.val (.lst (tx ws))) (.val (rD (row? ws))) d7)) (M ++ [some []]) := by
  have RO := m_law_row_of ws M h0 hl
  subst hw
  subst he
  have E := eqP_words (neg := false) (x := .val (.lst (tx [sl "move", x]))) (y := .own [.str "state"]) (M := M) rfl rfl
  have N := m_law_named [x] M
  simp [hx] at E RO N
  unfold lb_law_read_course_1
  simp [sp]
  simp [E, RO, LIM, hb, hm, mkCell, N]
theorem ll_rest {w : W} {r : List W} (hw : ws = w :: r) (hA : ¬ (ws = [sl "state"] ∧ st ≠ 1)) (hB : ¬ ((w = sl "move" ∧ r.length = 1 ∧ r.all isName = true) ∧ st = 1)) :
    lb_law_read_course_1 (lsl L rf ms st i d5 d6 d7) M = ll_else (lsl L rf ms st i (.val (.lst (tx ws))) (.val (rD (row? ws))) d7) M := by
  have RO := m_law_row_of ws M h0 hl
  have E := eqP_words (neg := false) (x := .val (.lst (tx ws))) (y := .own [.str "state"]) (M := M) rfl rfl
  subst hw
  have N := m_law_named r M
  have hl1 : ((r.length : Int) + 1 = 2) = (r.length = 1) := by simp; omega
  unfold lb_law_read_course_1
  show _ = ll_else _ M
  by_cases h1 : w :: r = [sl "state"]
  · have h2 : st = 1 := Classical.byContradiction fun z => hA ⟨h1, z⟩
    have h1' : w = sl "state" ∧ r = [] := by simpa using h1
    obtain ⟨rfl, rfl⟩ := h1'
    subst h2
    simp at E RO
    simp [sp]
    simp +decide [E, RO, LIM]
    rfl
  · simp only [h1, decide_false] at E
    simp only [List.map_cons] at E RO
    simp [sp]
    simp [E, RO, LIM]
    by_cases h2 : w = sl "move"
    · by_cases h3 : r.length = 1
      · by_cases h5 : r.all isName = true
        · have h4 : ¬ (st = 1) := fun z => hB ⟨⟨h2, h3, h5⟩, z⟩
          rw [h5] at N
          simp [h2, hl1, h3, N, h4]
          rfl
        · rw [Bool.eq_false_iff.mpr h5] at N
          simp [h2, hl1, h3, N]
          rfl
      · simp [h2, hl1, h3]
        rfl
    · simp [h2]
      rfl
end
theorem ll_bad {L : Slot} {ms : List W} {rf : List RS.D} {st : Int} {i : Nat} {d5 d7 : Slot} {M : Mem} {o : Option Row} (h : o = none ∨ ¬ 0 < st) :
    ll_else (lsl L rf ms st i d5 (.val (rD o)) d7) M = .ok (.ret (.val (errD (i + 1)))) M := by
  unfold ll_else
  cases o with
  | none => simp [rD, LIM, addP, errD]
  | some r =>
    have h : ¬ 0 < st := h.resolve_left (fun z => nomatch z)
    have I := isNP_row true r M
    simp [rD, LIM, addP, errD, I, h]
theorem ll_row {L : Slot} {ms : List W} {rf : List RS.D} {st : Int} {i k : Nat} {d5 d7 : Slot} {M : Mem} {r : Row} {l : List RS.D} (h : 0 < st) (hk : M[k]? = some (some l)) (hb : l.length < 16000001) :
    ll_else (lsl L (rf ++ [.ref k]) ms st i d5 (.val (rD (some r))) d7) M = .ok (.next (lsl L (rf ++ [.ref k]) ms st i d5 (.val (rD (some r))) (.val (.ref k)))) (M.set k (some (l ++ [rowD r]))) := by
  unfold ll_else
  have I := isNP_row true r M
  simp [rD, I, h, atI_last, appC, hk, hb, LIM]
structure LI (lines : List W) (M0 : Mem) (rest : List (Nat × W)) (ρ : Sl) (M : Mem) (s : CS) : Prop where
  h : ∃ i d4 d5 d6 d7, rest = pairsF (lines.drop i) i ∧ i ≤ lines.length ∧ s.1.length ≤ i ∧ s.2.length ≤ i ∧ (∀ t ∈ s.2, t.length ≤ i) ∧ M = M0 ++ s.2.map (fun t => some (t.map rowD)) ∧
    ρ = [.val (.lst (tx lines)), .own (bRefs M0.length s.2.length), .own (tx s.1), .val (.int (stg s.2.length)), d4, d5, d6, d7, .none]
theorem li_mk {lines : List W} {M0 M : Mem} {rest : List (Nat × W)} {s : CS} {e : List RS.D} {st : Int} {ms : List W} (i : Nat) (d4 d5 d6 d7 : Slot) (h1 : rest = pairsF (lines.drop i) i) (h2 : i ≤ lines.length) (h3 : s.1.length ≤ i) (h4 : s.2.length ≤ i) (h5 : ∀ t ∈ s.2, t.length ≤ i)
    (h6 : M = M0 ++ s.2.map (fun t => some (t.map rowD))) (hE : e = bRefs M0.length s.2.length) (hO : ms = s.1) (hc : st = stg s.2.length) :
    LI lines M0 rest [.val (.lst (tx lines)), .own e, .own (tx ms), .val (.int st), d4, d5, d6, d7, .none] M s := ⟨⟨i, d4, d5, d6, d7, h1, h2, h3, h4, h5, h6, by rw [hE, hO, hc]⟩⟩
theorem row_move (r : List W) : row? (sl "move" :: r) = none := by
  simp [row?, n_vm.symm, n_sm.symm, n_pm.symm]
theorem lcourse_step (lines : List W) (M0 : Mem) (hn : lines.length ≤ 20000) (hw : ∀ l ∈ lines, l.length + 2 ≤ SLIM) (a : Nat × W) (rest : List (Nat × W)) (ρ : Sl) (M : Mem) (s : CS) (h : LI lines M0 (a :: rest) ρ M s) :
    ∃ ρ1, tgN 4 (.int (a.1 : Nat)) ρ = some ρ1 ∧ OutX (fun s' => ∃ ρ' M', (lb_law_read_course_1 ρ1 M = .ok (.next ρ') M' ∨ lb_law_read_course_1 ρ1 M = .ok (.cnt ρ') M') ∧ LI lines M0 rest ρ' M' s') (fun e => lb_law_read_course_1 ρ1 M = .ok (.ret (.val (errD e))) M) (stepX cstep a s) := by
  obtain ⟨i, d4, d5, d6, d7, hr, hi, b1, b2, b3, hM, hρ⟩ := h.h
  cases hd : lines.drop i with
  | nil => rw [hd] at hr; cases hr
  | cons l ls =>
    rw [hd] at hr
    have hr' : a :: rest = (i, l) :: pairsF ls (i + 1) := hr
    injection hr' with ha hrest
    subst ha
    have hls : lines.drop (i + 1) = ls := by rw [← List.tail_drop, hd]; rfl
    have hl : lines[i]? = some l := by
      have := congrArg List.head? hd
      rw [List.head?_drop] at this
      simpa using this
    have hlt : i < lines.length := (List.getElem?_eq_some_iff.mp hl).1
    have hlm : l ∈ lines := List.mem_of_getElem? hl
    have hat : atI (tx lines) ((i : Nat) : Int) = some (.str (mk l)) := atI_nat (by rw [List.getElem?_map, hl]; rfl)
    obtain ⟨ms, ts⟩ := s
    simp only at b1 b2 b3 hM hρ
    subst hρ
    have hMl : M.length = M0.length + ts.length := by rw [hM]; simp
    have hwl : (splitC 32 l).length ≤ SLIM := by have := (splitC_len 32 l).1; have := hw l hlm; omega
    have hne : splitC 32 l ≠ [] := splitC_ne 32 l
    have keep : ∀ t ∈ ts, t.length ≤ i + 1 := fun t ht => Nat.le_succ_of_le (b3 t ht)
    have hb : (bRefs M0.length ts.length).length < 16000001 := by rw [bRefs_len]; omega
    have sp : splitE (op2 (getVar 0) (getVar 4) idxP) (con (.str " ")) (lsl (.val (.lst (tx lines))) (bRefs M0.length ts.length) ms (stg ts.length) i d5 d6 d7) M = .ok (.own (tx (splitC 32 l))) M :=
      split_at _ _ M l (by simp [hat]) (hw l hlm)
    refine ⟨lsl (.val (.lst (tx lines))) (bRefs M0.length ts.length) ms (stg ts.length) i d5 d6 d7, rfl, ?_⟩
    simp only [stepX]
    generalize splitC 32 l = ws at sp hwl hne
    have push : ∀ t' ∈ ts ++ [[]], t'.length ≤ i + 1 := by
      intro t ht
      rcases List.mem_append.mp ht with hx | hx
      · exact keep t hx
      · have : t = [] := by simpa using hx
        subst this; simp
    by_cases hs : ws = [sl "state"] ∧ ts.length % 2 = 0
    · have hc : cstep ws (ms, ts) = some (ms, ts ++ [[]]) := by unfold cstep; rw [if_pos hs]
      rw [hc]
      show ∃ _ _, _
      refine ⟨_, _, .inl (ll_state sp hne hwl hs.1 (fun z => by rw [stg_one] at z; omega) hb), li_mk (s := (ms, ts ++ [[]])) (i + 1) _ _ _ _ (by rw [hrest, hls]) hlt (by show ms.length ≤ _; omega) (by simp; omega) push (by rw [hM]; simp) ?_ rfl ?_⟩
      · show _ = bRefs M0.length (ts ++ [[]]).length
        rw [List.length_append, List.length_singleton, bRefs_succ, hMl]
      · show (1 : Int) = stg (ts ++ [[]]).length
        rw [List.length_append, List.length_singleton, stg_one.mpr (by omega)]
    · by_cases hm : ∃ x, ws = [sl "move", x] ∧ ts.length % 2 = 1 ∧ isName x = true
      · obtain ⟨x, hx, h2, hnm⟩ := hm
        have hc : cstep ws (ms, ts) = some (ms ++ [x], ts ++ [[]]) := by
          unfold cstep
          rw [if_neg hs, hx]
          simp only
          rw [if_pos ⟨trivial, h2⟩, if_pos hnm]
        rw [hc]
        show ∃ _ _, _
        refine ⟨_, _, .inl (ll_move sp hne hwl hx (stg_one.mpr h2) hb (by omega) hnm), li_mk (s := (ms ++ [x], ts ++ [[]])) (i + 1) _ _ _ _ (by rw [hrest, hls]) hlt (by simp; omega) (by simp; omega) push (by rw [hM]; simp) ?_ rfl ?_⟩
        · show _ = bRefs M0.length (ts ++ [[]]).length
          rw [List.length_append, List.length_singleton, bRefs_succ, hMl]
        · show (2 : Int) = stg (ts ++ [[]]).length
          rw [List.length_append, List.length_singleton]
          unfold stg
          rw [if_neg (by omega), if_neg (by omega)]
      · obtain ⟨w, r, hwr⟩ : ∃ w r, ws = w :: r := by
          cases ws with
          | nil => exact absurd rfl hne
          | cons w r => exact ⟨w, r, rfl⟩
        have ev := ll_rest sp hne hwl hwr (fun z => hs ⟨z.1, by have := z.2; have h3 : ¬ ts.length % 2 = 1 := fun q => this (stg_one.mpr q); omega⟩) (fun z => by
          obtain ⟨⟨z1, z2, z3⟩, z4⟩ := z
          obtain ⟨y, hy⟩ : ∃ y, r = [y] := by
            match r, z2 with
            | [y], _ => exact ⟨y, rfl⟩
          subst hy
          exact hm ⟨y, by rw [hwr, z1], stg_one.mp z4, by simpa using z3⟩)
        have hcs : cstep ws (ms, ts) = (match row? ws with | some r => if ts = [] then none else some (ms, addLast ts r) | none => none) := by
          by_cases hq : ∃ x, ws = [sl "move", x] ∧ ts.length % 2 = 1
          · obtain ⟨x, hx, h2⟩ := hq
            have hnm : isName x = false := Bool.eq_false_iff.mpr fun z => hm ⟨x, hx, h2, z⟩
            have hro : row? ws = none := by rw [hx]; exact row_move _
            rw [hro]
            unfold cstep
            rw [if_neg hs, hx]
            simp only
            rw [if_pos ⟨trivial, h2⟩, hnm]; rfl
          · exact cstep_else hs (fun x z => hq ⟨x, z⟩)
        rw [hcs]
        cases hrow : row? ws with
        | none =>
          show _ = _
          rw [ev, hrow]
          exact ll_bad (.inl rfl)
        | some row =>
          rw [hrow] at ev
          simp only
          by_cases h0 : ts = []
          · rw [if_pos h0]
            show _ = _
            rw [ev]
            exact ll_bad (.inr (by rw [h0]; decide))
          · rw [if_neg h0]
            obtain ⟨us, t, rfl⟩ : ∃ us t, ts = us ++ [t] := ⟨_, _, (List.dropLast_concat_getLast h0).symm⟩
            have hk : M[M0.length + us.length]? = some (some (t.map rowD)) := by
              rw [hM, List.getElem?_append_right (by omega), show M0.length + us.length - M0.length = us.length by omega]
              simp
            have hlen : (us ++ [t]).length = us.length + 1 := by simp
            have hpos : 0 < stg (us ++ [t]).length := stg_pos.mpr (by omega)
            have hbr : bRefs M0.length (us ++ [t]).length = bRefs M0.length us.length ++ [.ref (M0.length + us.length)] := by rw [hlen, bRefs_succ]
            rw [hbr] at ev ⊢
            show ∃ _ _, _
            refine ⟨_, _, .inl (ev.trans (ll_row hpos hk (by have := b3 t (by simp); simp; omega))), li_mk (s := (ms, addLast (us ++ [t]) row)) (i + 1) _ _ _ _ (by rw [hrest, hls]) hlt (by show ms.length ≤ _; omega) (by show (addLast _ _).length ≤ _; rw [addLast_length]; omega) ?_ ?_ ?_ rfl ?_⟩
            · show ∀ t' ∈ addLast (us ++ [t]) row, _
              rw [addLast_append]
              intro t' ht'
              rcases List.mem_append.mp ht' with hx | hx
              · exact keep t' (List.mem_append_left _ hx)
              · have : t' = t ++ [row] := by simpa using hx
                subst this
                have := b3 t (by simp)
                simp; omega
            · show _ = M0 ++ (addLast (us ++ [t]) row).map _
              rw [addLast_append, hM]
              rw [List.set_append_right _ _ (by omega), show M0.length + us.length - M0.length = us.length by omega]
              simp
            · show _ = bRefs M0.length (addLast (us ++ [t]) row).length
              rw [addLast_length, hbr]
            · show _ = stg (addLast (us ++ [t]) row).length
              rw [addLast_length]
end K58
set_option Elab.async false
set_option linter.all false
set_option maxRecDepth 100000
set_option maxHeartbeats 4000000
/-! law_k58: the law's reader of courses, whole. -/
namespace K58
open PySem L2 RS
theorem evI_two (n : Nat) : evI (n + 2) = 0 :: (evI n).map (· + 2) ∧ evI (n + 3) = 0 :: (evI (n + 1)).map (· + 2) := by
  induction n with
  | zero => exact ⟨rfl, rfl⟩
  | succ n ih =>
    refine ⟨ih.2, ?_⟩
    have e : evI (n + 1 + 3) = if (n + 3) % 2 = 0 then evI (n + 3) ++ [n + 3] else evI (n + 3) := rfl
    have e2 : evI (n + 1 + 1) = if (n + 1) % 2 = 0 then evI (n + 1) ++ [n + 1] else evI (n + 1) := rfl
    rw [e, e2, ih.2]
    by_cases h : (n + 1) % 2 = 0
    · rw [if_pos h, if_pos (by omega)]; simp
    · rw [if_neg h, if_neg (by omega)]
theorem odI_two (n : Nat) : odI (n + 2) = 1 :: (odI n).map (· + 2) ∧ odI (n + 3) = 1 :: (odI (n + 1)).map (· + 2) := by
  induction n with
  | zero => exact ⟨rfl, rfl⟩
  | succ n ih =>
    refine ⟨ih.2, ?_⟩
    have e : odI (n + 1 + 3) = if (n + 3) % 2 = 1 then odI (n + 3) ++ [n + 3] else odI (n + 3) := rfl
    have e2 : odI (n + 1 + 1) = if (n + 1) % 2 = 1 then odI (n + 1) ++ [n + 1] else odI (n + 1) := rfl
    rw [e, e2, ih.2]
    by_cases h : (n + 1) % 2 = 1
    · rw [if_pos h, if_pos (by omega)]; simp
    · rw [if_neg h, if_neg (by omega)]
theorem stD_nil : stD [] = [] := rfl
theorem stD_one (t : List Row) : stD [t] = [treeD t] := rfl
theorem stD_two (a b : List Row) (ts : List (List Row)) : stD (a :: b :: ts) = treeD a :: stD ts := by
  unfold stD
  rw [List.length_cons, List.length_cons, (evI_two ts.length).1, List.map_cons, List.map_map]
  rfl
theorem trD_nil : trD [] = [] := rfl
theorem trD_one (t : List Row) : trD [t] = [] := rfl
theorem trD_two (a b : List Row) (ts : List (List Row)) : trD (a :: b :: ts) = treeD b :: trD ts := by
  unfold trD
  rw [List.length_cons, List.length_cons, (odI_two ts.length).1, List.map_cons, List.map_map]
  rfl
theorem alt_two {α : Type} (a b : α) (l : List α) : alt (a :: b :: l) = a :: alt l := rfl
theorem alt_st : ∀ ts : List (List Row), alt (ts.map treeD) = stD ts
  | [] => rfl
  | [t] => rfl
  | a :: b :: ts => by rw [List.map_cons, List.map_cons, alt_two, stD_two, alt_st ts]
theorem alt_tr : ∀ ts : List (List Row), alt ((ts.map treeD).drop 1) = trD ts
  | [] => rfl
  | [t] => rfl
  | [a, b] => rfl
  | a :: b :: c :: ts => by
    have ih := alt_tr (c :: ts)
    rw [trD_two, ← ih]
    rfl
theorem cmp_cells7 {ρ : Sl} {M M0 : Mem} {ts : List (List Row)} (hM : M = M0 ++ ts.map (fun t => some (t.map rowD))) (hρ : ρ[1]? = some (.val (.lst (bRefs M0.length ts.length)))) (h9 : 7 < ρ.length) (hl : ts.length ≤ SLIM) :
    cmpE (seqE (getVar 1)) (tgN 7) yesT (stE (op1 (getVar 7) tupP)) [7] ρ M = .ok (.own (ts.map treeD)) M := by
  have C := cmpE_plain (fi := seqE (getVar 1)) (t := tgN 7) (b := yesT) (e := stE (op1 (getVar 7) tupP)) (vs := [7]) (ρ := ρ) (M := M) (fun j => RS.D.ref (M0.length + j)) (fun _ => true) (fun j => treeD (ts.getD j [])) (List.range ts.length) (by simp [hρ, bRefs]) (by rw [List.length_range]; exact hl)
    (fun j hj' => ⟨_, rfl, rfl, fun _ => by
      have e9 : ((wipeS ρ [7]).set 7 (.val (RS.D.ref (M0.length + j))))[7]? = some (.val (RS.D.ref (M0.length + j))) := by
        rw [List.getElem?_set_self]
        show 7 < (ρ.set 7 Slot.none).length
        rw [List.length_set]; exact h9
      simp only [stE_ap, op1_ap, getVar_ap, e9, R.bind_ok, tupP_ref (cell_tree hM (List.mem_range.mp hj'))]
      rfl⟩)
  have hf : ((List.range ts.length).filter fun _ => true) = List.range ts.length := by simp
  rw [hf] at C
  rw [C]
  congr 2
  refine List.ext_getElem? fun k => ?_
  rw [List.getElem?_map, List.getElem?_map]
  by_cases h : k < ts.length
  · rw [List.getElem?_range h, List.getElem?_eq_getElem h]
    show some (treeD (ts.getD k [])) = some (treeD ts[k])
    rw [List.getD_eq_getElem?_getD, List.getElem?_eq_getElem h]; rfl
  · rw [List.getElem?_eq_none (by rw [List.length_range]; omega), List.getElem?_eq_none (by omega)]; rfl
def valD (d : RS.D) : RS.D := .tup [.str "value", d]
theorem m_law_read_course (lines : List W) (M : Mem) (h0 : lines ≠ []) (hn : lines.length ≤ 20000) (hw : ∀ l ∈ lines, l.length + 2 ≤ SLIM) :
    ∃ X, f_law_read_course [.lst (tx lines)] M = .ok (.val (match foldL cstep 1 ((lines.drop 1).map (splitC 32)) ([], []) with
      | .error n => errD n
      | .ok s => if s.2.length % 2 = 1 then valD (courseD s.1 s.2) else errD (lines.length + 1))) (M ++ X) := by
  have hd : (pairsF (lines.drop 1) 1).map (fun p => RS.D.int (p.1 : Nat)) = (List.range (lines.length - 1)).map fun (k : Nat) => RS.D.int ((1 : Int) + (k : Int)) := by
    rw [pairs_range, List.length_drop]; rfl
  have hpos : 1 ≤ lines.length := by cases lines with | nil => exact absurd rfl h0 | cons a b => simp
  have L := forGo_simR (t := tgN 4) (b := lb_law_read_course_1) (fun p : Nat × W => RS.D.int (p.1 : Nat)) (LI lines M) (stepX cstep) (fun (e : Nat) M' => .ok (.ret (.val (errD e))) M') (fun e M' => .inl ⟨_, rfl⟩) (lcourse_step lines M hn hw) (pairsF (lines.drop 1) 1)
    [.val (.lst (tx lines)), .own [], .own (tx []), .val (.int 0), .none, .none, .none, .none, .none] M ([], []) (li_mk (s := ([], [])) 1 .none .none .none .none rfl hpos (by simp) (by simp) (fun t ht => nomatch ht) (by simp) rfl rfl rfl)
  rw [fold_pairs, hd] at L
  have hr : rng2 (aCons (stE (con (.int 1))) (aCons (stE (op1 (getVar 0) lenP)) aNil)) [.val (.lst (tx lines)), .own [], .own [], .val (.int 0), .none, .none, .none, .none, .none] M = .ok ((List.range (lines.length - 1)).map fun (k : Nat) => RS.D.int ((1 : Int) + (k : Int))) M := by
    unfold rng2
    have c1 : ((lines.length : Int) ≤ 1099511627776) := by omega
    have c2 : ((lines.length : Int) - 1 ≤ 16000000) := by omega
    have c3 : (-1099511627776 : Int) ≤ (lines.length : Int) := by omega
    simp [c1, c2, c3]
  unfold f_law_read_course fnD b_law_read_course
  cases hf : foldL cstep 1 ((lines.drop 1).map (splitC 32)) ([], []) with
  | error n =>
    rw [hf] at L
    obtain ⟨ρ', M', l', s', hI, hg⟩ := L
    obtain ⟨i, d4, d5, d6, d7, _, _, _, _, _, hM, _⟩ := hI.h
    refine ⟨s'.2.map (fun t => some (t.map rowD)), ?_⟩
    simp only [List.map_nil] at hg
    simp [hr, hg, hM, LIM]
  | ok s =>
    rw [hf] at L
    obtain ⟨ρ', M', hg, hI⟩ := L
    obtain ⟨i, d4, d5, d6, d7, _, hi, b1, b2, _, hM, hρ⟩ := hI.h
    subst hρ
    refine ⟨s.2.map (fun t => some (t.map rowD)), ?_⟩
    simp only [List.map_nil] at hg
    by_cases h2 : s.2.length % 2 = 1
    · have C1 := cmp_cells7 (ρ := [.val (.lst (tx lines)), .val (.lst (bRefs M.length s.2.length)), .own (tx s.1), .val (.int (stg s.2.length)), d4, d5, d6, d7, .none]) hM rfl (by simp) (by unfold SLIM; omega)
      have a1 := alt_st s.2
      have a2 := alt_tr s.2
      have a3 := stg_one.mpr h2
      simp only [hM, a3] at C1
      simp only [List.drop_one] at a2
      have q1 : (trD s.2).length ≤ 16000001 := by unfold trD; rw [List.length_map, odI_len]; omega
      have q2 : (stD s.2).length ≤ 16000001 := by unfold stD; rw [List.length_map, evI_len]; omega
      simp [hr, hg, hM, LIM, h2, C1, stepP, courseD, a1, a2, a3, valD]
    · have a3 : ¬ (stg s.2.length = 1) := fun z => h2 (stg_one.mp z)
      simp [hr, hg, hM, LIM, h2, a3, addP, errD]
end K58
set_option Elab.async false
set_option linter.all false
set_option maxRecDepth 100000
set_option maxHeartbeats 4000000
/-! law_k58: rows, visitors, reasons written, by the program and by the law. -/
namespace K58
open PySem L2 RS
theorem nums_strs {ns : List Nat} (h : ∀ n ∈ ns, n < 10 ^ 10) (M : Mem) : ∀ p ∈ ns.map numP, strP (.val p.1) M = .ok (.val (.str (mk p.2))) M := fun p hp => by
  obtain ⟨n, hn, rfl⟩ := List.mem_map.mp hp
  exact strP_num (h n hn) M
theorem nums_fst (ns : List Nat) : (ns.map numP).map Prod.fst = ns.map fun (n : Nat) => RS.D.int n := by rw [List.map_map]; rfl
theorem nums_snd (ns : List Nat) : (ns.map numP).map Prod.snd = ns.map numW := by rw [List.map_map]; rfl
theorem addP_own {l m : List RS.D} {M : Mem} (h : l.length + m.length ≤ 16000001) : addP (.own l) (.own m) M = .ok (.own (l ++ m)) M := by
  unfold addP
  simp only [view_own]
  rw [if_pos (show l.length + m.length ≤ LIM from h)]
theorem op2_own {f g : FE} {ρ : Sl} {M : Mem} {a b : List RS.D} (h : f ρ M = .ok (.own a) M) (h' : g ρ M = .ok (.own b) M) (hb : a.length + b.length ≤ 16000001) : (op2 f g addP) ρ M = .ok (.own (a ++ b)) M := by
  rw [op2_ap, h, R.bind_ok, h', R.bind_ok, addP_own hb]
theorem split_is : sl "split " = sl "split" ++ [32] := by decide +kernel
/-- shown's line -/
theorem shown_line {ρ : Sl} {M : Mem} {ns : List Nat} {L : RS.D} (h0 : ρ[0]? = some (.val (rowD (.shown ns)))) (h1 : 1 < ρ.length) (h : rowOk (.shown ns)) (hl : (lineW (rowW (.shown ns))).length + 2 ≤ SLIM) :
    joinE (con (.str " ")) (op2 (lstE (aCons (stE (con (.str "shown"))) aNil)) (cmpE (seqE (op2 (getVar 0) (con (.int 1)) idxP)) (tgN 1) yesT (stE (op1 (getVar 1) strP)) [1]) addP) ρ M = .ok (.val (.str (mk (lineW (rowW (.shown ns)))))) M := by
  have hn : (rowW (.shown ns)).length ≤ (lineW (rowW (.shown ns))).length + 1 := join_count 32 _
  have hn2 : ns.length + 1 ≤ (lineW (rowW (.shown ns))).length + 1 := by simpa [rowW] using hn
  have C := cmp_strs (j := 1) (fi := seqE (op2 (getVar 0) (con (.int 1)) idxP)) (ρ := ρ) (M := M) (ns.map numP)
    (by rw [nums_fst]; simp [h0, rowD]) h1 (by rw [List.length_map]; omega) (nums_strs h M)
  rw [nums_snd] at C
  have hb : 1 + ns.length ≤ 16000001 := by unfold SLIM at hl; omega
  refine joinE_own (ws := rowW (.shown ns)) (c := 32) rfl sl_sp ?_ (by simp [rowW]) ?_
  · refine (op2_own (a := [.str "shown"]) (by simp +decide [LIM]) C ?_).trans ?_
    · rw [List.length_map, List.length_map]; exact hb
    · rw [rowW]; rfl
  · show (lineW _).length + 1 ≤ SLIM; omega
theorem m_row_line (r : Row) (M : Mem) (h : rowOk r) (hl : (lineW (rowW r)).length + 2 ≤ SLIM) : f_row_line [rowD r] M = .ok (.val (.str (mk (lineW (rowW r))))) M := by
  unfold f_row_line fnD b_row_line
  cases r with
  | void => simp +decide [rowD, rowW, lineW, TL.joinL]
  | shown ns =>
    have J := shown_line (ρ := [.val (rowD (.shown ns)), .none]) (M := M) (L := .non) rfl (by simp) h hl
    simp only [rowD] at J
    simp +decide [rowD, J]
  | split c =>
    have Q := m_condition_words c M h.1
    have hc : lineW (rowW (.split c)) = sl "split" ++ (32 :: lineW (condW c)) := lineW_cons' (condW_ne c)
    have hs : (Str.ofString "split ").length = 6 := by decide +kernel
    rw [hc] at hl ⊢
    have hl2 : (lineW (condW c)).length + 8 ≤ SLIM := by
      rw [List.length_append, List.length_cons] at hl
      have : (sl "split").length = 5 := by decide +kernel
      omega
    have hl3 : 6 + (lineW (condW c)).length ≤ SLIM := by omega
    simp only [condD] at Q
    simp +decide [rowD, Q, addP, hs, hl3, condD]
    rw [mk_app, split_is, List.append_assoc]
    rfl
theorem vis_ne (v : Vis) : visW v ≠ [] := by simp [visW]
theorem visW_len (v : Vis) : (visW v).length = v.gs.length + 2 := by simp [visW]
theorem vis_gen (d f : RS.D) (gs : List RS.D) (M : Mem) (x y : Str) (s1 : strP (.val d) M = .ok (.val (.str x)) M) (s2 : strP (.val f) M = .ok (.val (.str y)) M) (hb : 2 + gs.length ≤ 16000001) (L : W)
    (J : joinR (Str.ofString " ") ([.str x, .str y] ++ gs) M = .ok (.val (.str (mk L))) M) : f_visitor_words [.tup [d, .tup gs, f]] M = .ok (.val (.str (mk L))) M := by
  have O := op2_own (f := (lstE (aCons (stE (op1 (op2 (getVar 0) (con (.int 0)) idxP) strP)) (aCons (stE (op1 (op2 (getVar 0) (con (.int 2)) idxP) strP)) aNil)))) (g := (op1 (op2 (getVar 0) (con (.int 1)) idxP) lstP)) (ρ := [.val (.tup [d, .tup gs, f])]) (M := M) (a := [.str x, .str y]) (b := gs) (by simp [s1, s2]; decide) (by simp) hb
  have K : joinE (con (.str " ")) (op2 (lstE (aCons (stE (op1 (op2 (getVar 0) (con (.int 0)) idxP) strP)) (aCons (stE (op1 (op2 (getVar 0) (con (.int 2)) idxP) strP)) aNil))) (op1 (op2 (getVar 0) (con (.int 1)) idxP) lstP) addP) [.val (.tup [d, .tup gs, f])] M = .ok (.val (.str (mk L))) M := by
    unfold joinE
    rw [con_ap, R.bind_ok]
    simp only [view_str]
    rw [O, R.bind_ok]
    exact J
  unfold f_visitor_words fnD b_visitor_words
  simp [K]
theorem m_visitor_words (v : Vis) (M : Mem) (h : visOk v) (hl : (lineW (visW v)).length + 2 ≤ SLIM) : f_visitor_words [visD v] M = .ok (.val (.str (mk (lineW (visW v))))) M := by
  have hn : (visW v).length ≤ (lineW (visW v)).length + 1 := join_count 32 _
  have hb : 2 + (tx v.gs).length ≤ 16000001 := by rw [visW_len] at hn; rw [List.length_map]; unfold SLIM at hl; omega
  have J := joinR_tx (s := " ") (c := 32) (ws := visW v) (M := M) sl_sp (vis_ne v) (Nat.le_of_succ_le hl)
  exact vis_gen (.int v.n) (.int v.day) (tx v.gs) M _ _ (strP_num h.1 M) (strP_num h.2.1 M) hb (lineW (visW v)) J
theorem whyW_line (q : Reason) : ∃ a b, reasonW q = a :: b :: visW q.v ∧ (match q.why with | .ban i => a = sl "ban" ∧ b = numW i | .loss x => a = sl "loss" ∧ b = x) := by
  obtain ⟨y, v⟩ := q
  cases y with
  | ban i => exact ⟨_, _, rfl, rfl, rfl⟩
  | loss x => exact ⟨_, _, rfl, rfl, rfl⟩
theorem mk_cat (a b : W) : mk a ++ mk b = mk (a ++ b) := by rw [mk_app]; simp [sl]
theorem mk_catS (a : W) (s : Str) : mk a ++ s = mk (a ++ sl s) := by
  conv => lhs; rw [← mk_sl s]
  rw [mk_cat]
theorem sp_is : sl " " = [32] := by decide +kernel
theorem sp_len : (Str.ofString " ").length = 1 := by decide +kernel
theorem str_app_len (a b : Str) : (a ++ b).length = a.length + b.length := by
  show (a.cps ++ b.cps).size = _
  rw [Array.size_append]; rfl
theorem rw_gen (a : Str) (d vd : RS.D) (M : Mem) (x z : Str) (s1 : strP (.val d) M = .ok (.val (.str x)) M) (V : f_visitor_words [vd] M = .ok (.val (.str z)) M) (hl : a.length + 1 + x.length + 1 + z.length ≤ SLIM) :
    f_reason_words [.tup [.str a, d, vd]] M = .ok (.val (.str ((((a ++ Str.ofString " ") ++ x) ++ Str.ofString " ") ++ z))) M := by
  have c1 : a.length + 1 ≤ SLIM := by omega
  have c2 : a.length + 1 + x.length ≤ SLIM := by omega
  have c3 : a.length + 1 + x.length + 1 ≤ SLIM := by omega
  unfold f_reason_words fnD b_reason_words
  simp [s1, V, addP, sp_len, str_app_len, c1, c2, c3, hl]
theorem rw_text (a b : Str) (x z : W) (hb : b = Str.ofString " ") : (((a ++ b) ++ mk x) ++ b) ++ mk z = mk (sl a ++ (32 :: (x ++ (32 :: z)))) := by
  have e1 : a = mk (sl a) := (mk_sl _).symm
  have e2 : b = mk [32] := by rw [hb, ← sp_is]; exact (mk_sl _).symm
  rw [e2]
  conv => lhs; rw [e1]
  rw [mk_cat, mk_cat, mk_cat, mk_cat]
  congr 1
  simp
theorem rw_len {a : Str} {x z : W} {n : Nat} (ha : a.length = n) (h : n + 1 + x.length + 1 + z.length ≤ SLIM) : a.length + 1 + (mk x).length + 1 + (mk z).length ≤ SLIM := by
  have h1 := mk_len x
  have h2 := mk_len z
  omega
theorem m_reason_words (q : Reason) (M : Mem) (h : reasonOk q) (hl : (lineW (reasonW q)).length + 2 ≤ SLIM) : f_reason_words [reasonD q] M = .ok (.val (.str (mk (lineW (reasonW q))))) M := by
  obtain ⟨y, v⟩ := q
  cases y with
  | ban i =>
    have e : lineW (reasonW ⟨.ban i, v⟩) = sl "ban" ++ (32 :: (numW i ++ (32 :: lineW (visW v)))) := by
      show lineW (sl "ban" :: numW i :: visW v) = _
      rw [lineW_cons, lineW_cons' (vis_ne v)]
    rw [e] at hl ⊢
    simp only [List.length_append, List.length_cons] at hl
    have hb : (sl "ban").length = 3 := by decide +kernel
    have hb2 : (Str.ofString "ban").length = 3 := by decide +kernel
    have V := m_visitor_words v M h.2 (by omega)
    have G := rw_gen "ban" (.int i) (visD v) M _ _ (strP_num h.1 M) V (rw_len hb2 (by omega))
    rw [rw_text _ _ _ _ rfl] at G
    exact G
  | loss x =>
    have e : lineW (reasonW ⟨.loss x, v⟩) = sl "loss" ++ (32 :: (x ++ (32 :: lineW (visW v)))) := by
      show lineW (sl "loss" :: x :: visW v) = _
      rw [lineW_cons, lineW_cons' (vis_ne v)]
    rw [e] at hl ⊢
    simp only [List.length_append, List.length_cons] at hl
    have hb : (sl "loss").length = 4 := by decide +kernel
    have hb2 : (Str.ofString "loss").length = 4 := by decide +kernel
    have V := m_visitor_words v M h.2 (by omega)
    have G := rw_gen "loss" (.str (mk x)) (visD v) M _ _ (strP_str _ M) V (rw_len hb2 (by omega))
    rw [rw_text _ _ _ _ rfl] at G
    exact G
/-! ### the law's -/
theorem m_law_row_line (r : Row) (M : Mem) (h : rowOk r) (hl : (lineW (rowW r)).length + 2 ≤ SLIM) : f_law_row_line [rowD r] M = .ok (.val (.str (mk (lineW (rowW r))))) M := by
  unfold f_law_row_line fnD b_law_row_line
  cases r with
  | void => simp +decide [rowD, rowW, lineW, TL.joinL]
  | shown ns =>
    have J := shown_line (ρ := [.val (rowD (.shown ns)), .none, .none]) (M := M) (L := .non) rfl (by simp) h hl
    simp only [rowD] at J
    simp +decide [rowD, J]
  | split c =>
    obtain ⟨k, y⟩ := c
    have C := cmp_strs (j := 2) (fi := seqE (slE (op2 (getVar 0) (con (.int 1)) idxP) (fun _ M => .ok none M) (ixO (op1 (con (.int 1)) negP)))) (ρ := [.val (rowD (.split ⟨k, y⟩)), .none, .none]) (M := M) (posP k)
      (by simp [rowD, condD, posP_fst, posD_cut]) (by simp) (by have := posW_len k; rw [← posP_snd, List.length_map] at this; unfold SLIM; omega) (posP_str h.1 M)
    rw [posP_snd] at C
    have hp := posW_len k
    have F : (op2 (lstE (aCons (stE (con (.str "split"))) aNil)) (op2 (lstE (aCons (stE (lstE (aCons (stE (con (.str "not"))) aNil))) (aCons (stE (lstE aNil)) aNil))) (op1 (op2 (op2 (getVar 0) (con (.int 1)) idxP) (op1 (con (.int 1)) negP) idxP) intOf) idxP) addP) [.val (rowD (.split ⟨k, y⟩)), .none, .none] M = .ok (.own (tx (sl "split" :: (if y = true then [] else [sl "not"])))) M := by
      cases y <;> simp [rowD, condD, posD_last, LIM, addP]
    have J := joinE_own (f := con (.str " ")) (ρ := [.val (rowD (.split ⟨k, y⟩)), .none, .none]) (M := M) (ws := rowW (.split ⟨k, y⟩)) (c := 32) rfl sl_sp ((op2_own F C (by
      rw [List.length_map, List.length_map, List.length_cons]
      split <;> simp <;> omega)).trans (by
        have : rowW (.split ⟨k, y⟩) = (sl "split" :: (if y = true then [] else [sl "not"])) ++ posW k := rfl
        rw [this]
        unfold tx
        rw [List.map_append])) (by simp [rowW]) (by show (lineW _).length + 1 ≤ SLIM; omega)
    have e : TL.joinL [32] (rowW (.split ⟨k, y⟩)) = lineW (rowW (.split ⟨k, y⟩)) := rfl
    rw [e] at J
    simp only [rowD] at J
    simp +decide [rowD, J]
theorem rl_gen (a : Str) (d d1 d2 : RS.D) (gs : List RS.D) (M : Mem) (x y z : Str) (s1 : strP (.val d) M = .ok (.val (.str x)) M) (s2 : strP (.val d1) M = .ok (.val (.str y)) M) (s3 : strP (.val d2) M = .ok (.val (.str z)) M) (hb : 4 + gs.length ≤ 16000001) (L : W)
    (J : joinR (Str.ofString " ") ([.str a, .str x, .str y, .str z] ++ gs) M = .ok (.val (.str (mk L))) M) : f_law_reason_line [.tup [.str a, d, .tup [d1, .tup gs, d2]]] M = .ok (.val (.str (mk L))) M := by
  have O := op2_own (f := (lstE (aCons (stE (op2 (getVar 0) (con (.int 0)) idxP)) (aCons (stE (op1 (op2 (getVar 0) (con (.int 1)) idxP) strP)) (aCons (stE (op1 (getVar 1) strP)) (aCons (stE (op1 (getVar 3) strP)) aNil)))))) (g := (op1 (getVar 2) lstP)) (ρ := [.val (.tup [.str a, d, .tup [d1, .tup gs, d2]]), .val d1, .val (.tup gs), .val d2]) (M := M) (a := [.str a, .str x, .str y, .str z]) (b := gs) (by simp [s1, s2, s3]; decide) (by simp) hb
  have K : joinE (con (.str " ")) (op2 (lstE (aCons (stE (op2 (getVar 0) (con (.int 0)) idxP)) (aCons (stE (op1 (op2 (getVar 0) (con (.int 1)) idxP) strP)) (aCons (stE (op1 (getVar 1) strP)) (aCons (stE (op1 (getVar 3) strP)) aNil))))) (op1 (getVar 2) lstP) addP) [.val (.tup [.str a, d, .tup [d1, .tup gs, d2]]), .val d1, .val (.tup gs), .val d2] M = .ok (.val (.str (mk L))) M := by
    unfold joinE
    rw [con_ap, R.bind_ok]
    simp only [view_str]
    rw [O, R.bind_ok]
    exact J
  unfold f_law_reason_line fnD b_law_reason_line
  simp [tgT, tgsCons, tgsNil]
  simp [K]
theorem m_law_reason_line (q : Reason) (M : Mem) (h : reasonOk q) (hl : (lineW (reasonW q)).length + 2 ≤ SLIM) : f_law_reason_line [reasonD q] M = .ok (.val (.str (mk (lineW (reasonW q))))) M := by
  have hn : (reasonW q).length ≤ (lineW (reasonW q)).length + 1 := join_count 32 _
  have hn2 : (reasonW q).length = q.v.gs.length + 4 := by
    obtain ⟨a, b, e, _⟩ := whyW_line q
    rw [e, List.length_cons, List.length_cons, visW_len]
  have J := joinR_tx (s := " ") (c := 32) (ws := reasonW q) (M := M) sl_sp (by obtain ⟨a, b, e, _⟩ := whyW_line q; rw [e]; simp) (Nat.le_of_succ_le hl)
  have hb : 4 + (tx q.v.gs).length ≤ 16000001 := by
    rw [List.length_map]
    unfold SLIM at hl; omega
  obtain ⟨y, v⟩ := q
  cases y with
  | ban i =>
    refine rl_gen "ban" (.int i) (.int v.n) (.int v.day) (tx v.gs) M _ _ _ (strP_num h.1 M) (strP_num h.2.1 M) (strP_num h.2.2.1 M) hb _ ?_
    refine Eq.trans ?_ J
    show joinR _ _ M = joinR _ (.str (mk (sl "ban")) :: .str (mk (numW i)) :: .str (mk (numW v.n)) :: .str (mk (numW v.day)) :: tx v.gs) M
    rw [mk_sl]; rfl
  | loss x =>
    refine rl_gen "loss" (.str (mk x)) (.int v.n) (.int v.day) (tx v.gs) M _ _ _ (strP_str _ M) (strP_num h.2.1 M) (strP_num h.2.2.1 M) hb _ ?_
    refine Eq.trans ?_ J
    show joinR _ _ M = joinR _ (.str (mk (sl "loss")) :: .str (mk x) :: .str (mk (numW v.n)) :: .str (mk (numW v.day)) :: tx v.gs) M
    rw [mk_sl]; rfl
end K58
set_option Elab.async false
set_option linter.all false
set_option maxRecDepth 100000
set_option maxHeartbeats 4000000
/-! law_k58: the law's reader of enclosures. -/
namespace K58
open PySem L2 RS
abbrev elsl (L : Slot) (bs : List Block) (rf : List RS.D) (i : Nat) (d4 d5 d6 : Slot) : Sl := [L, .own (bs.map fun b => namesD b.1), .own rf, .val (.int (i : Nat)), d4, d5, d6, .none]
def le_else : FS := (ifF (andT (tst (op2 (op2 (getVar 4) (con (.int 0)) idxP) (con (.str "exit")) (eqP false))) (andT (tst (op2 (op1 (getVar 1) lenP) (con (.int 0)) gtP)) (andT (tst (callE 1 f_law_named (aCons (stE (slE (getVar 4) (ixO (con (.int 1))) (ixO (con (.int 2))))) aNil))) (tst (op2 (getVar 5) (con .non) (isNP true))))))
 (seqF (setF 6 (op2 (getVar 2) (op1 (con (.int 1)) negP) idxP))
 (appC (getVar 6) (tupE (aCons (stE (op2 (getVar 4) (con (.int 1)) idxP)) (aCons (stE (getVar 5)) aNil)))))
 (retF (tupE (aCons (stE (con (.str "error"))) (aCons (stE (tupE (aCons (stE (con (.str "BadLine"))) (aCons (stE (op2 (getVar 3) (con (.int 1)) addP)) aNil)))) aNil)))))
section
variable {L : Slot} {bs : List Block} {w : W} {r : List W} {rf : List RS.D} {i : Nat} {d4 d5 d6 : Slot} {M : Mem}
variable (sp : splitE (op2 (getVar 0) (getVar 3) idxP) (con (.str " ")) (elsl L bs rf i d4 d5 d6) M = .ok (.own (tx (w :: r))) M) (hl : r.length ≤ SLIM)
include sp hl
theorem le_at (hw : w = sl "at") (ha : r.all isName = true) (hb : bs.length < 16000001) (hr : rf.length < 16000001) :
    lb_law_read_enclosure_1 (elsl L bs rf i d4 d5 d6) M = .ok (.next (elsl L (bs ++ [(r, [])]) (rf ++ [.ref M.length]) i (.val (.lst (tx (w :: r)))) (.val (qD (reason? (r.drop 1)))) d6)) (M ++ [some []]) := by
  subst hw
  have N := m_law_named r M
  have RE := m_law_reason_of (r.drop 1) M (by rw [List.length_drop]; omega)
  rw [ha] at N
  have e2 : (tx (sl "at" :: r)).drop 2 = tx (r.drop 1) := by simp
  unfold lb_law_read_enclosure_1
  simp [sp]
  simp at RE
  simp [mkCell, N, LIM, hb, hr, namesD, RE]
theorem le_rest (h : ¬ (w = sl "at" ∧ r.all isName = true)) :
    lb_law_read_enclosure_1 (elsl L bs rf i d4 d5 d6) M = le_else (elsl L bs rf i (.val (.lst (tx (w :: r)))) (.val (qD (reason? (r.drop 1)))) d6) M := by
  have N := m_law_named r M
  have RE := m_law_reason_of (r.drop 1) M (by rw [List.length_drop]; omega)
  simp at RE
  unfold lb_law_read_enclosure_1
  show _ = le_else _ M
  by_cases h1 : w = sl "at"
  · have h2 : r.all isName = false := Bool.eq_false_iff.mpr fun z => h ⟨h1, z⟩
    rw [h2] at N
    subst h1
    simp [sp]
    simp [N, RE, le_else]
  · simp [sp]
    simp [h1, RE, le_else]
end
theorem isNP_reason (neg : Bool) (q : Reason) (M : Mem) : isNP neg (.val (reasonD q)) (.val .non) M = .ok (.val (.bl neg)) M := by
  obtain ⟨y, v⟩ := q
  cases y <;> simp [reasonD]
theorem le_bad {L : Slot} {bs : List Block} {w : W} {r : List W} {rf : List RS.D} {i : Nat} {d6 : Slot} {M : Mem} (hl : r.length ≤ SLIM) (h : ¬ (w = sl "at" ∧ r.all isName = true)) (he : estep (w :: r) bs = none) :
    le_else (elsl L bs rf i (.val (.lst (tx (w :: r)))) (.val (qD (reason? (r.drop 1)))) d6) M = .ok (.ret (.val (errD (i + 1)))) M := by
  unfold estep at he
  simp only [if_neg h] at he
  unfold le_else
  cases r with
  | nil =>
    have N := m_law_named [] M
    simp at N
    have cN : cutL [RS.D.str (mk w)] (some 1) (some 2) = [] := rfl
    by_cases hw : w = sl "exit"
    · by_cases hb : bs = []
      · simp [hw, hb, addP, LIM, errD]
      · have hb' : 0 < bs.length := List.length_pos_iff.mpr hb
        simp [hw, hb, addP, LIM, errD, reason?, qD]
        simp [hw] at cN
        simp [cN, N]
    · simp [hw, addP, LIM, errD]
  | cons x q =>
    have N := m_law_named [x] M
    simp at N
    simp only at he
    by_cases hw : w = sl "exit"
    · by_cases hb : bs = []
      · simp [hw, hb, addP, LIM, errD]
      · have hb' : 0 < bs.length := List.length_pos_iff.mpr hb
        by_cases hx : isName x = true
        · rw [if_pos ⟨hw, hb, hx⟩] at he
          rw [hx] at N
          cases hq : reason? q with
          | none => simp [hw, hb, hb', N, hq, qD, addP, LIM, errD]
          | some y => rw [hq] at he; cases he
        · rw [Bool.eq_false_iff.mpr hx] at N
          simp [hw, hb, hb', N, addP, LIM, errD]
    · simp [hw, addP, LIM, errD]
theorem le_exit {L : Slot} {bs : List Block} {x : W} {q : List W} {y : Reason} {rf : List RS.D} {i k : Nat} {d6 : Slot} {M : Mem} {l : List RS.D} (hb : bs ≠ []) (hx : isName x = true) (hq : reason? q = some y) (hk : M[k]? = some (some l)) (hn : l.length < 16000001) :
    le_else (elsl L bs (rf ++ [.ref k]) i (.val (.lst (tx (sl "exit" :: x :: q)))) (.val (qD (reason? ((x :: q).drop 1)))) d6) M = .ok (.next (elsl L bs (rf ++ [.ref k]) i (.val (.lst (tx (sl "exit" :: x :: q)))) (.val (qD (reason? ((x :: q).drop 1)))) (.val (.ref k)))) (M.set k (some (l ++ [exitD (x, y)]))) := by
  unfold le_else
  have N := m_law_named [x] M
  simp at N
  rw [hx] at N
  have hb' : 0 < bs.length := List.length_pos_iff.mpr hb
  have I := isNP_reason true y M
  simp [hb, hb', N, hq, qD, I, appC, atI_last, hk, LIM, hn, exitD]
structure LEI (lines : List W) (M0 : Mem) (rest : List (Nat × W)) (ρ : Sl) (M : Mem) (s : List Block) : Prop where
  h : ∃ i d3 d4 d5 d6, rest = pairsF (lines.drop i) i ∧ i ≤ lines.length ∧ s.length ≤ i ∧ (∀ b ∈ s, b.2.length ≤ i) ∧ M = M0 ++ s.map (fun b => some (b.2.map exitD)) ∧
    ρ = [.val (.lst (tx lines)), .own (s.map fun b => namesD b.1), .own (bRefs M0.length s.length), d3, d4, d5, d6, .none]
theorem lei_mk {lines : List W} {M0 M : Mem} {rest : List (Nat × W)} {s : List Block} {n e : List RS.D} (i : Nat) (d3 d4 d5 d6 : Slot) (h1 : rest = pairsF (lines.drop i) i) (h2 : i ≤ lines.length) (h3 : s.length ≤ i) (h5 : ∀ b ∈ s, b.2.length ≤ i)
    (h6 : M = M0 ++ s.map (fun b => some (b.2.map exitD))) (hN : n = s.map fun b => namesD b.1) (hE : e = bRefs M0.length s.length) :
    LEI lines M0 rest [.val (.lst (tx lines)), .own n, .own e, d3, d4, d5, d6, .none] M s := ⟨⟨i, d3, d4, d5, d6, h1, h2, h3, h5, h6, by rw [hN, hE]⟩⟩
theorem lencl_step (lines : List W) (M0 : Mem) (hn : lines.length ≤ 20000) (hw : ∀ l ∈ lines, l.length + 2 ≤ SLIM) (a : Nat × W) (rest : List (Nat × W)) (ρ : Sl) (M : Mem) (s : List Block) (h : LEI lines M0 (a :: rest) ρ M s) :
    ∃ ρ1, tgN 3 (.int (a.1 : Nat)) ρ = some ρ1 ∧ OutX (fun s' => ∃ ρ' M', (lb_law_read_enclosure_1 ρ1 M = .ok (.next ρ') M' ∨ lb_law_read_enclosure_1 ρ1 M = .ok (.cnt ρ') M') ∧ LEI lines M0 rest ρ' M' s') (fun e => lb_law_read_enclosure_1 ρ1 M = .ok (.ret (.val (errD e))) M) (stepX estep a s) := by
  obtain ⟨i, d3, d4, d5, d6, hr, hi, b1, b3, hM, hρ⟩ := h.h
  cases hd : lines.drop i with
  | nil => rw [hd] at hr; cases hr
  | cons l ls =>
    rw [hd] at hr
    have hr' : a :: rest = (i, l) :: pairsF ls (i + 1) := hr
    injection hr' with ha hrest
    subst ha
    have hls : lines.drop (i + 1) = ls := by rw [← List.tail_drop, hd]; rfl
    have hl : lines[i]? = some l := by
      have := congrArg List.head? hd
      rw [List.head?_drop] at this
      simpa using this
    have hlt : i < lines.length := (List.getElem?_eq_some_iff.mp hl).1
    have hlm : l ∈ lines := List.mem_of_getElem? hl
    have hat : atI (tx lines) ((i : Nat) : Int) = some (.str (mk l)) := atI_nat (by rw [List.getElem?_map, hl]; rfl)
    subst hρ
    have hMl : M.length = M0.length + s.length := by rw [hM]; simp
    have hwl : (splitC 32 l).length ≤ SLIM := by have := (splitC_len 32 l).1; have := hw l hlm; omega
    have hne : splitC 32 l ≠ [] := splitC_ne 32 l
    have keep : ∀ t ∈ s, t.2.length ≤ i + 1 := fun t ht => Nat.le_succ_of_le (b3 t ht)
    have sp : splitE (op2 (getVar 0) (getVar 3) idxP) (con (.str " ")) (elsl (.val (.lst (tx lines))) s (bRefs M0.length s.length) i d4 d5 d6) M = .ok (.own (tx (splitC 32 l))) M :=
      split_at _ _ M l (by simp [hat]) (hw l hlm)
    refine ⟨elsl (.val (.lst (tx lines))) s (bRefs M0.length s.length) i d4 d5 d6, rfl, ?_⟩
    simp only [stepX]
    generalize splitC 32 l = ws at sp hwl hne
    obtain ⟨w, r, rfl⟩ : ∃ w r, ws = w :: r := by
      cases ws with
      | nil => exact absurd rfl hne
      | cons w r => exact ⟨w, r, rfl⟩
    have hrl : r.length + 1 ≤ SLIM := by simpa using hwl
    by_cases hA : w = sl "at" ∧ r.all isName = true
    · have hc : estep (w :: r) s = some (s ++ [(r, [])]) := by unfold estep; simp only [if_pos hA]
      rw [hc]
      show ∃ _ _, _
      refine ⟨_, _, .inl (le_at sp (by omega) hA.1 hA.2 (by omega) (by rw [bRefs_len]; omega)), lei_mk (s := s ++ [(r, [])]) (i + 1) _ _ _ _ (by rw [hrest, hls]) hlt (by simp; omega) ?_ (by rw [hM]; simp) rfl ?_⟩
      · intro t ht
        rcases List.mem_append.mp ht with hx | hx
        · exact keep t hx
        · have : t = (r, []) := by simpa using hx
          subst this; simp
      · rw [List.length_append, List.length_singleton, bRefs_succ, hMl]
    · have ev := le_rest sp (by omega) hA
      cases he : estep (w :: r) s with
      | none =>
        show _ = _
        rw [ev]
        exact le_bad (by omega) hA he
      | some s' =>
        obtain ⟨x, q, y, rfl, rfl, h0, hx, hq, rfl⟩ := estep_ex hA he
        show ∃ _ _, _
        obtain ⟨us, b, rfl⟩ : ∃ us b, s = us ++ [b] := ⟨_, _, (List.dropLast_concat_getLast h0).symm⟩
        have hk : M[M0.length + us.length]? = some (some (b.2.map exitD)) := by
          rw [hM, List.getElem?_append_right (by omega), show M0.length + us.length - M0.length = us.length by omega]
          simp
        have hlen : (us ++ [b]).length = us.length + 1 := by simp
        rw [hlen, bRefs_succ] at ev
        rw [hlen, bRefs_succ]
        refine ⟨_, _, .inl (ev.trans (le_exit h0 hx hq hk (by have := b3 b (by simp); simp; omega))), ?_⟩
        rw [addBlock_app2]
        refine lei_mk (i + 1) _ _ _ _ (by rw [hrest, hls]) hlt (by simp at b1 ⊢; omega) ?_ ?_ (by simp) (by rw [List.length_append, List.length_singleton, bRefs_succ])
        · intro t ht
          rcases List.mem_append.mp ht with hx | hx
          · exact keep t (List.mem_append_left _ hx)
          · have : t = (b.1, b.2 ++ [(x, y)]) := by simpa using hx
            subst this
            have := b3 b (by simp)
            simp; omega
        · rw [hM, List.set_append_right _ _ (by omega), show M0.length + us.length - M0.length = us.length by omega]
          simp
end K58
set_option Elab.async false
set_option linter.all false
set_option maxRecDepth 100000
set_option maxHeartbeats 4000000
/-! law_k58: the law's reader, whole; the call of the program's. -/
namespace K58
open PySem L2 RS
theorem cmp_blocks2 {ρ : Sl} {M M0 : Mem} {bs : List Block} (hM : M = M0 ++ bs.map (fun b => some (b.2.map exitD))) (h1 : ρ[1]? = some (.own (bs.map fun b => namesD b.1))) (h2 : ρ[2]? = some (.own (bRefs M0.length bs.length))) (h9 : ρ.length = 8) (hl : bs.length ≤ 16000000) :
    cmpE (rng1 (aCons (stE (op1 (getVar 1) lenP)) aNil)) (tgN 7) yesT (stE (tupE (aCons (stE (op2 (getVar 1) (getVar 7) idxP)) (aCons (stE (op1 (op2 (getVar 2) (getVar 7) idxP) tupP)) aNil)))) [7] ρ M = .ok (.own (bs.map blockD)) M := by
  have C := cmpE_plain (fi := rng1 (aCons (stE (op1 (getVar 1) lenP)) aNil)) (t := tgN 7) (b := yesT) (e := stE (tupE (aCons (stE (op2 (getVar 1) (getVar 7) idxP)) (aCons (stE (op1 (op2 (getVar 2) (getVar 7) idxP) tupP)) aNil)))) (vs := [7]) (ρ := ρ) (M := M)
    (fun k : Nat => RS.D.int ((0 : Int) + (k : Int))) (fun _ => true) (fun k => blockD (bs.getD k ([], []))) (List.range bs.length) (by
      have c1 : ((bs.length : Int) ≤ 16000000) := by omega
      have c2 : (-1099511627776 : Int) ≤ (bs.length : Int) := by omega
      unfold rng1
      simp [h1, c1, c2]) (by rw [List.length_range]; unfold SLIM; omega)
    (fun k hk' => by
      have hk : k < bs.length := List.mem_range.mp hk'
      have hg : bs[k]? = some bs[k] := List.getElem?_eq_getElem hk
      have hc : M[M0.length + k]? = some (some (bs[k].2.map exitD)) := by
        rw [hM, List.getElem?_append_right (by omega), show M0.length + k - M0.length = k by omega, List.getElem?_map, hg]; rfl
      have g1 : ((wipeS ρ [7]).set 7 (.val (RS.D.int ((0 : Int) + (k : Int)))))[1]? = some (.own (bs.map fun b => namesD b.1)) := by
        rw [List.getElem?_set_ne (by omega)]
        show (ρ.set 7 Slot.none)[1]? = _
        rw [List.getElem?_set_ne (by omega)]; exact h1
      have g2 : ((wipeS ρ [7]).set 7 (.val (RS.D.int ((0 : Int) + (k : Int)))))[2]? = some (.own (bRefs M0.length bs.length)) := by
        rw [List.getElem?_set_ne (by omega)]
        show (ρ.set 7 Slot.none)[2]? = _
        rw [List.getElem?_set_ne (by omega)]; exact h2
      have g7 : ((wipeS ρ [7]).set 7 (.val (RS.D.int ((0 : Int) + (k : Int)))))[7]? = some (.val (RS.D.int ((0 : Int) + (k : Int)))) := by
        rw [List.getElem?_set_self]
        simp [wipeS, h9]
      have z : (0 : Int) + (k : Int) = ((k : Nat) : Int) := by omega
      have a1 : atI (bs.map fun b => namesD b.1) ((k : Nat) : Int) = some (namesD bs[k].1) := atI_nat (by rw [List.getElem?_map, hg]; rfl)
      have a2 : atI (bRefs M0.length bs.length) ((k : Nat) : Int) = some (RS.D.ref (M0.length + k)) := atI_nat (by unfold bRefs; rw [List.getElem?_map, List.getElem?_range hk]; rfl)
      refine ⟨_, rfl, rfl, fun _ => ?_⟩
      simp only [z] at g1 g2 g7 ⊢
      have gd : bs.getD k ([], []) = bs[k] := by rw [List.getD_eq_getElem?_getD, hg]; rfl
      rw [gd]
      simp only [stE_ap, tupE_ap, aCons_ap, aNil_ap, op1_ap, op2_ap, getVar_ap, g1, g2, g7, R.bind_ok, idxP_bor, a1, a2, tupP_ref hc]
      simp [blockD, namesD, LIM, a1, a2, tupP_ref hc])
  have hf : ((List.range bs.length).filter fun _ => true) = List.range bs.length := by simp
  rw [hf] at C
  rw [C]
  congr 2
  refine List.ext_getElem? fun k => ?_
  rw [List.getElem?_map, List.getElem?_map]
  by_cases h : k < bs.length
  · rw [List.getElem?_range h, List.getElem?_eq_getElem h]
    show some (blockD (bs.getD k ([], []))) = some (blockD bs[k])
    rw [List.getD_eq_getElem?_getD, List.getElem?_eq_getElem h]; rfl
  · rw [List.getElem?_eq_none (by rw [List.length_range]; omega), List.getElem?_eq_none (by omega)]; rfl
theorem m_law_read_enclosure (lines : List W) (M : Mem) (h0 : lines ≠ []) (hn : lines.length ≤ 20000) (hw : ∀ l ∈ lines, l.length + 2 ≤ SLIM) :
    ∃ X, f_law_read_enclosure [.lst (tx lines)] M = .ok (.val (match foldL estep 1 ((lines.drop 1).map (splitC 32)) [] with
      | .error n => errD n
      | .ok s => valD (enclD s))) (M ++ X) := by
  have hd : (pairsF (lines.drop 1) 1).map (fun p => RS.D.int (p.1 : Nat)) = (List.range (lines.length - 1)).map fun (k : Nat) => RS.D.int ((1 : Int) + (k : Int)) := by
    rw [pairs_range, List.length_drop]; rfl
  have hpos : 1 ≤ lines.length := by cases lines with | nil => exact absurd rfl h0 | cons a b => simp
  have L := forGo_simR (t := tgN 3) (b := lb_law_read_enclosure_1) (fun p : Nat × W => RS.D.int (p.1 : Nat)) (LEI lines M) (stepX estep) (fun (e : Nat) M' => .ok (.ret (.val (errD e))) M') (fun e M' => .inl ⟨_, rfl⟩) (lencl_step lines M hn hw) (pairsF (lines.drop 1) 1)
    [.val (.lst (tx lines)), .own [], .own [], .none, .none, .none, .none, .none] M [] (lei_mk (s := []) 1 .none .none .none .none rfl hpos (by simp) (fun t ht => nomatch ht) (by simp) rfl rfl)
  rw [fold_pairs, hd] at L
  have hr : rng2 (aCons (stE (con (.int 1))) (aCons (stE (op1 (getVar 0) lenP)) aNil)) [.val (.lst (tx lines)), .own [], .own [], .none, .none, .none, .none, .none] M = .ok ((List.range (lines.length - 1)).map fun (k : Nat) => RS.D.int ((1 : Int) + (k : Int))) M := by
    unfold rng2
    have c1 : ((lines.length : Int) ≤ 1099511627776) := by omega
    have c2 : ((lines.length : Int) - 1 ≤ 16000000) := by omega
    have c3 : (-1099511627776 : Int) ≤ (lines.length : Int) := by omega
    simp [c1, c2, c3]
  unfold f_law_read_enclosure fnD b_law_read_enclosure
  cases hf : foldL estep 1 ((lines.drop 1).map (splitC 32)) [] with
  | error n =>
    rw [hf] at L
    obtain ⟨ρ', M', l', s', hI, hg⟩ := L
    obtain ⟨i, d3, d4, d5, d6, _, _, _, _, hM, _⟩ := hI.h
    refine ⟨s'.map (fun b => some (b.2.map exitD)), ?_⟩
    simp [hr, hg, hM, LIM]
  | ok s =>
    rw [hf] at L
    obtain ⟨ρ', M', hg, hI⟩ := L
    obtain ⟨i, d3, d4, d5, d6, _, hi, b1, _, hM, hρ⟩ := hI.h
    subst hρ
    refine ⟨s.map (fun b => some (b.2.map exitD)), ?_⟩
    have C1 := cmp_blocks2 (ρ := [.val (.lst (tx lines)), .own (s.map fun b => namesD b.1), .own (bRefs M.length s.length), d3, d4, d5, d6, .none]) hM rfl rfl rfl (by omega)
    simp only [hM] at C1
    have c3 : s.length ≤ 16000001 := by omega
    simp [hr, hg, hM, LIM, C1, enclD, c3, valD]
def dueD : Except Err Answer → RS.D
  | .error .many => .tup [.str "error", .tup [.str "TooMany", .int 20000]]
  | .error (.line n) => errD n
  | .ok a => valD (answerD a)
def lr_tail : FS := (seqF (setF 1 (splitE (op2 (getVar 0) (con (.int 0)) idxP) (con (.str " "))))
 (seqF (setF 2 (callE 1 f_law_reason_of (aCons (stE (slE (getVar 1) (ixO (con (.int 1))) (fun _ M => .ok none M))) aNil)))
 (seqF (ifF (orT (tst (op2 (op2 (getVar 1) (con (.int 0)) idxP) (con (.str "spoiled")) (eqP true))) (orT (tst (op2 (slE (getVar 1) (ixO (con (.int 1))) (ixO (con (.int 2)))) (lstE (aCons (stE (con (.str "ban"))) aNil)) (eqP true))) (tst (op2 (getVar 2) (con .non) (isNP false)))))
 (retF (tupE (aCons (stE (con (.str "error"))) (aCons (stE (tupE (aCons (stE (con (.str "BadLine"))) (aCons (stE (con (.int 1))) aNil)))) aNil))))
 nxt)
 (seqF (ifF (tst (op2 (op1 (getVar 0) lenP) (con (.int 1)) gtP))
 (retF (tupE (aCons (stE (con (.str "error"))) (aCons (stE (tupE (aCons (stE (con (.str "BadLine"))) (aCons (stE (con (.int 2))) aNil)))) aNil))))
 nxt)
 (retF (tupE (aCons (stE (con (.str "value"))) (aCons (stE (tupE (aCons (stE (con (.str "spoiled"))) (aCons (stE (getVar 2)) aNil)))) aNil))))))))
theorem m_law_spoiled (l : W) (r : List W) (M : Mem) (hn : r.length ≤ 20000) (hw : l.length + 2 ≤ SLIM) :
    lr_tail [.val (.lst (tx (l :: r))), .none, .none] M = .ok (.ret (.val (match splitC 32 l with
      | [] => .non
      | w :: q => (match reason? q with
          | some ⟨.ban i, v⟩ => if w = sl "spoiled" then (if r = [] then valD (.tup [.str "spoiled", reasonD ⟨.ban i, v⟩]) else errD 2) else errD 1
          | _ => errD 1)))) M := by
  have sp : splitE (op2 (getVar 0) (con (.int 0)) idxP) (con (.str " ")) [.val (.lst (tx (l :: r))), .none, .none] M = .ok (.own (tx (splitC 32 l))) M :=
    split_at _ _ M l (by simp) hw
  have hwl : (splitC 32 l).length ≤ SLIM := by have := (splitC_len 32 l).1; omega
  have hne : splitC 32 l ≠ [] := splitC_ne 32 l
  unfold lr_tail
  simp only [List.map_cons] at sp
  generalize splitC 32 l = ws at sp hwl hne
  cases ws with
  | nil => exact absurd rfl hne
  | cons w q =>
    have R := m_law_reason_of q M (by simp at hwl; omega)
    have cE : ∀ (q : List W), eqP true (.own (cutL (tx (w :: q)) (some 1) (some 2))) (.own [.str "ban"]) M = .ok (.val (.bl (!decide (q.take 1 = [sl "ban"])))) M := by
      intro q
      have : cutL (tx (w :: q)) (some 1) (some 2) = tx (q.take 1) := by
        cases q with
        | nil => rfl
        | cons x q => simp
      rw [this]
      have E := eqP_words (neg := true) (x := .own (tx (q.take 1))) (y := .own [.str "ban"]) (M := M) (ws := q.take 1) (s := "ban") rfl rfl
      simpa using E
    have cE := cE q
    simp only [List.map_cons] at cE
    by_cases hx : w = sl "spoiled"
    · subst hx
      cases hq : reason? q with
      | none => rw [hq] at R; simp [qD] at R; simp at cE; simp [sp, R, LIM, errD, cE, hq]
      | some y =>
        obtain ⟨y, v⟩ := y
        rw [hq] at R
        cases y with
        | ban i =>
          obtain ⟨e1, _⟩ := reason_some hq
          have hb : q.take 1 = [sl "ban"] := by rw [← e1]; rfl
          simp [qD, reasonD, whyD] at R
          simp [hb] at cE
          cases r with
          | nil => simp only [List.map_nil] at sp; simp [sp, R, reasonD, whyD, LIM, cE, valD, hq]
          | cons r1 r2 =>
            have : ((r2.length : Int) + 1 + 1 > 1) := by omega
            simp only [List.map_cons] at sp
            simp [sp, R, reasonD, whyD, LIM, this, cE, errD, hq]
        | loss x =>
          obtain ⟨e1, _⟩ := reason_some hq
          have hb : q.take 1 = [sl "loss"] := by rw [← e1]; rfl
          simp [qD, reasonD, whyD] at R
          simp [hb, n_lb] at cE
          simp [sp, R, LIM, cE, errD, hq]
    · cases hq : reason? q with
      | none => rw [hq] at R; simp [qD] at R; simp [sp, R, hx, LIM, errD, hq]
      | some y =>
        obtain ⟨y, v⟩ := y
        rw [hq] at R
        cases y <;> (simp [qD, reasonD, whyD] at R; simp [sp, R, hx, LIM, errD, hq])
theorem lr_many {ds : List RS.D} {M : Mem} (g : (20000 : Int) < (ds.length : Int)) : f_law_read [.lst ds] M = .ok (.val (.tup [.str "error", .tup [.str "TooMany", .int 20000]])) M := by
  unfold f_law_read fnD b_law_read
  simp [g, LIM]
theorem lr_course {ds : List RS.D} {M M' : Mem} {x : RS.D} (g : ¬ (20000 : Int) < (ds.length : Int)) (hl : atI ds 0 = some (.str "course")) (hX : f_law_read_course [.lst ds] M = .ok (.val x) M') : f_law_read [.lst ds] M = .ok (.val x) M' := by
  unfold f_law_read fnD b_law_read
  simp [g, hl, hX]
theorem lr_encl {ds : List RS.D} {M M' : Mem} {x : RS.D} (g : ¬ (20000 : Int) < (ds.length : Int)) (hl : atI ds 0 = some (.str "enclosure")) (hX : f_law_read_enclosure [.lst ds] M = .ok (.val x) M') : f_law_read [.lst ds] M = .ok (.val x) M' := by
  have n1 : ¬ (("enclosure" : Str) = ("course" : Str)) := by decide +kernel
  unfold f_law_read fnD b_law_read
  simp [g, hl, hX, n1]
theorem lr_else {ds : List RS.D} {l : W} {M M' : Mem} {x : RS.D} (g : ¬ (20000 : Int) < (ds.length : Int)) (hl : atI ds 0 = some (.str (mk l))) (h1 : ¬ (l = sl "course")) (h2 : ¬ (l = sl "enclosure"))
    (hX : lr_tail [.val (.lst ds), .none, .none] M = .ok (.ret (.val x)) M') : f_law_read [.lst ds] M = .ok (.val x) M' := by
  unfold f_law_read fnD
  have B : b_law_read [.val (.lst ds), .none, .none] M = .ok (.ret (.val x)) M' := by
    rw [← hX]
    show seqF _ (seqF _ (seqF _ lr_tail)) _ _ = _
    simp [g, hl, h1, h2]
  show (match b_law_read [.val (.lst ds), .none, .none] M with | .ok (.ret x) M' => _ | .ok (.next _) M' => _ | .exn c d M' => _ | _ => _) = _
  rw [B]
theorem m_law_read (lines : List W) (M : Mem) (h0 : lines ≠ []) (hw : ∀ l ∈ lines, l.length + 2 ≤ SLIM) :
    ∃ X, f_law_read [.lst (tx lines)] M = .ok (.val (dueD (readA (lines.map (splitC 32))))) (M ++ X) := by
  by_cases hn : 20000 < lines.length
  · refine ⟨[], ?_⟩
    have g : (20000 : Int) < ((tx lines).length : Int) := by rw [List.length_map]; omega
    rw [rA_many (by rw [List.length_map]; exact hn), lr_many g, List.append_nil]; rfl
  · have hn' : lines.length ≤ 20000 := by omega
    have g : ¬ (20000 : Int) < ((tx lines).length : Int) := by rw [List.length_map]; omega
    cases lines with
    | nil => exact absurd rfl h0
    | cons l r =>
      have gm : ¬ 20000 < (splitC 32 l :: r.map (splitC 32)).length := by
        have := hn
        rw [List.length_cons] at this ⊢
        rw [List.length_map]; exact this
      rw [List.map_cons]
      by_cases h1 : l = sl "course"
      · have sl1 : splitC 32 l = [sl "course"] := (split_one n_course).mpr h1
        obtain ⟨X, hX⟩ := m_law_read_course (l :: r) M (by simp) hn' hw
        refine ⟨X, (lr_course g (by rw [h1]; simp) hX).trans ?_⟩
        rw [rA_course gm sl1]
        refine congrArg (fun d => R.ok (Val.val d) (M ++ X)) ?_
        show (match foldL cstep 1 (r.map (splitC 32)) ([], []) with | .error n => _ | .ok s => _) = _
        cases foldL cstep 1 (r.map (splitC 32)) ([], []) with
        | error n => rfl
        | ok s =>
          show (if _ then _ else _) = dueD (if _ then _ else _)
          by_cases h2 : s.2.length % 2 = 1
          · rw [if_pos h2, if_pos h2]; rfl
          · rw [if_neg h2, if_neg h2, List.length_cons, List.length_cons, List.length_map]; rfl
      · have s1 : ¬ (splitC 32 l = [sl "course"]) := fun z => h1 ((split_one n_course).mp z)
        by_cases h2 : l = sl "enclosure"
        · have sl1 : splitC 32 l = [sl "enclosure"] := (split_one n_encl).mpr h2
          obtain ⟨X, hX⟩ := m_law_read_enclosure (l :: r) M (by simp) hn' hw
          refine ⟨X, (lr_encl g (by rw [h2]; simp) hX).trans ?_⟩
          rw [rA_encl gm sl1]
          refine congrArg (fun d => R.ok (Val.val d) (M ++ X)) ?_
          show (match foldL estep 1 (r.map (splitC 32)) [] with | .error n => _ | .ok s => _) = _
          cases foldL estep 1 (r.map (splitC 32)) [] with
          | error n => rfl
          | ok s => rfl
        · have s2 : ¬ (splitC 32 l = [sl "enclosure"]) := fun z => h2 ((split_one n_encl).mp z)
          have R := m_law_spoiled l r M (by rw [List.length_cons] at hn'; omega) (hw l (by simp))
          refine ⟨[], (lr_else g (atI_zero (RS.D.str (mk l)) (tx r)) h1 h2 R).trans ?_⟩
          rw [List.append_nil]
          refine congrArg (fun d => RS.R.ok (Val.val d) M) ?_
          have hne2 : splitC 32 l ≠ [] := splitC_ne 32 l
          generalize splitC 32 l = ws at hne2 gm s1 s2
          cases ws with
          | nil => exact absurd rfl hne2
          | cons w q =>
            rw [rA_else gm s1 s2]
            simp only
            cases reason? q with
            | none => rfl
            | some y =>
              obtain ⟨y, v⟩ := y
              cases y with
              | loss x => rfl
              | ban i =>
                simp only
                by_cases h3 : w = sl "spoiled"
                · rw [if_pos h3, if_pos h3]
                  cases r with
                  | nil => rfl
                  | cons r1 r2 => rfl
                · rw [if_neg h3, if_neg h3]; rfl
end K58
set_option Elab.async false
set_option linter.all false
set_option maxRecDepth 100000
set_option maxHeartbeats 4000000
/-! law_k58: the call of the program's reader; _law_same of equal data. -/
namespace K58
open PySem L2 RS
theorem m_law_call (t : W) (M : Mem) (ht : t.length + 2 ≤ SLIM) : ∃ X, f_law_call [.str (mk t)] M = .ok (.val (dueD (readA (wordsT t)))) (M ++ X) := by
  obtain ⟨X, hX⟩ := m_read_answer t M ht
  refine ⟨X, ?_⟩
  unfold f_law_call fnD b_law_call tryF b_law_call0
  generalize readA (wordsT t) = x at hX ⊢
  rcases x with (n | _) | a <;> (simp only [outA] at hX; simp [hX, LIM, dueD, errD, f_told, valD])
@[simp] theorem isNP_bl (neg : Bool) (l : Bool) (M : Mem) : isNP neg (.val (.bl l)) (.val .non) M = .ok (.val (.bl neg)) M := by cases neg <;> rfl
/-- data without cells, of few levels, each tuple not too long -/
inductive Pl : Nat → RS.D → Prop
  | non (k : Nat) : Pl (k + 1) .non
  | bl (k : Nat) (b : Bool) : Pl (k + 1) (.bl b)
  | int (k : Nat) (i : Int) : Pl (k + 1) (.int i)
  | str (k : Nat) (s : Str) : Pl (k + 1) (.str s)
  | tup (k : Nat) (l : List RS.D) (hl : l.length ≤ 16000000) (h : ∀ d ∈ l, Pl k d) : Pl (k + 1) (.tup l)
theorem Pl.succ : ∀ {k : Nat} {d : RS.D}, Pl k d → Pl (k + 1) d
  | _, _, .non k => .non _
  | _, _, .bl k b => .bl _ b
  | _, _, .int k b => .int _ b
  | _, _, .str k b => .str _ b
  | _, _, .tup k l hl h => .tup _ l hl fun d hd => (h d hd).succ
theorem Pl.le {k n : Nat} (h : k ≤ n) {d : RS.D} (p : Pl k d) : Pl n d := by
  induction h with
  | refl => exact p
  | step _ ih => exact ih.succ
@[simp] theorem isi_tup_tup (l : List RS.D) (M : Mem) : isiP "tuple" (.val (.tup l)) M = .ok (.val (.bl true)) M := by
  unfold isiP; rw [view_tup]; rfl
@[simp] theorem isi_tup_str (l : Str) (M : Mem) : isiP "tuple" (.val (.str l)) M = .ok (.val (.bl false)) M := by
  unfold isiP; rw [view_str]; rfl
@[simp] theorem isi_tup_int (l : Int) (M : Mem) : isiP "tuple" (.val (.int l)) M = .ok (.val (.bl false)) M := by
  unfold isiP; rw [view_int]; rfl
@[simp] theorem isi_tup_bl (l : Bool) (M : Mem) : isiP "tuple" (.val (.bl l)) M = .ok (.val (.bl false)) M := by
  unfold isiP; rw [view_bl]; rfl
@[simp] theorem isi_tup_non (M : Mem) : isiP "tuple" (.val .non) M = .ok (.val (.bl false)) M := by
  unfold isiP; rw [view_non]; rfl
@[simp] theorem isi_bl_bl (l : Bool) (M : Mem) : isiP "bool" (.val (.bl l)) M = .ok (.val (.bl true)) M := by
  unfold isiP; rw [view_bl]; rfl
@[simp] theorem isi_bl_int (l : Int) (M : Mem) : isiP "bool" (.val (.int l)) M = .ok (.val (.bl false)) M := by
  unfold isiP; rw [view_int]; rfl
@[simp] theorem isi_bl_str (l : Str) (M : Mem) : isiP "bool" (.val (.str l)) M = .ok (.val (.bl false)) M := by
  unfold isiP; rw [view_str]; rfl
@[simp] theorem isi_int_int (l : Int) (M : Mem) : isiP "int" (.val (.int l)) M = .ok (.val (.bl true)) M := by
  unfold isiP; rw [view_int]; rfl
@[simp] theorem isi_int_str (l : Str) (M : Mem) : isiP "int" (.val (.str l)) M = .ok (.val (.bl false)) M := by
  unfold isiP; rw [view_str]; rfl
@[simp] theorem isi_str_str (l : Str) (M : Mem) : isiP "str" (.val (.str l)) M = .ok (.val (.bl true)) M := by
  unfold isiP; rw [view_str]; rfl
@[simp] theorem andV_ap (f g : FE) (ρ : Sl) (M : Mem) : andV f g ρ M = (f ρ M).bind fun x M => match view x M with | .bl b => if b = true then g ρ M else .ok (.val (.bl false)) M | _ => .bad := rfl
@[simp] theorem orV_ap (f g : FE) (ρ : Sl) (M : Mem) : orV f g ρ M = (f ρ M).bind fun x M => match view x M with | .bl b => if b = true then .ok (.val (.bl true)) M else g ρ M | _ => .bad := rfl
@[simp] theorem eqP_bl (neg : Bool) (a b : Bool) (M : Mem) : eqP neg (.val (.bl a)) (.val (.bl b)) M = .ok (.val (.bl (if neg then !(a == b) else (a == b)))) M := rfl
theorem same_step (f : List RS.D → Mem → R Val) {d : RS.D} {k : Nat} (h : Pl (k + 1) d) (M : Mem) (hf : ∀ e, Pl k e → f [e, e] M = .ok (.val (.bl true)) M) : fnD 3 (b_law_same f) [d, d] M = .ok (.val (.bl true)) M := by
  unfold fnD b_law_same
  cases h with
  | non => simp
  | bl _ b => simp
  | int _ b => simp
  | str _ b => simp
  | tup _ l hl h =>
    have C := cmpE_plain (fi := rng1 (aCons (stE (op1 (getVar 1) lenP)) aNil)) (t := tgN 2) (b := notT (tst (callE 2 f (aCons (stE (op2 (getVar 0) (getVar 2) idxP)) (aCons (stE (op2 (getVar 1) (getVar 2) idxP)) aNil))))) (e := stE (getVar 2)) (vs := [2]) (ρ := [.val (.tup l), .val (.tup l), .none]) (M := M)
      (fun k : Nat => RS.D.int ((0 : Int) + (k : Int))) (fun _ => false) (fun _ => .non) (List.range l.length) (by
        have c1 : ((l.length : Int) ≤ 16000000) := by omega
        have c2 : (-1099511627776 : Int) ≤ (l.length : Int) := by omega
        unfold rng1
        simp [c1, c2]) (by rw [List.length_range]; unfold SLIM; exact hl)
      (fun j hj => by
        have hj' : j < l.length := List.mem_range.mp hj
        have z : (0 : Int) + (j : Int) = ((j : Nat) : Int) := by omega
        have a1 : atI l ((j : Nat) : Int) = some l[j] := atI_nat (List.getElem?_eq_getElem hj')
        have a2 := hf l[j] (h _ (List.getElem_mem hj'))
        refine ⟨_, rfl, ?_, fun z => nomatch z⟩
        simp [wipeS, a1, a2])
    have hf : ((List.range l.length).filter fun _ => false) = [] := by simp
    rw [hf] at C
    simp at C
    simp [C]
theorem law_same_self : ∀ (k : Nat) (d : RS.D), Pl k d → ∀ M, f_law_same k [d, d] M = .ok (.val (.bl true)) M
  | 0, d, h, M => nomatch h
  | k + 1, d, h, M => same_step (f_law_same k) h M fun e he => law_same_self k e he M
end K58
set_option Elab.async false
set_option linter.all false
set_option maxRecDepth 100000
set_option maxHeartbeats 4000000
/-! law_k58: whole answers written. -/
namespace K58
open PySem L2 RS
theorem forGo_inv {α : Type} {t : RS.D → Sl → Option Sl} {b : FS} (g : α → RS.D) (I : List α → Sl → Mem → Prop)
    (st : ∀ a l ρ M, I (a :: l) ρ M → ∃ ρ1 ρ' M', t (g a) ρ = some ρ1 ∧ (b ρ1 M = .ok (.next ρ') M' ∨ b ρ1 M = .ok (.cnt ρ') M') ∧ I l ρ' M') :
    ∀ (l : List α) (ρ : Sl) (M : Mem), I l ρ M → ∃ ρ' M', forGo t b (l.map g) ρ M = .ok (.next ρ') M' ∧ I [] ρ' M'
  | [], ρ, M, h => ⟨ρ, M, rfl, h⟩
  | a :: l, ρ, M, h => by
    obtain ⟨ρ1, ρ2, M2, h1, h2, h3⟩ := st a l ρ M h
    obtain ⟨ρ', M', h4, h5⟩ := forGo_inv g I st l ρ2 M2 h3
    refine ⟨ρ', M', ?_, h5⟩
    rw [List.map_cons, ← h4]
    conv => lhs; unfold forGo
    rw [h1]
    rcases h2 with h2 | h2 <;> simp only [h2]
@[simp] theorem extF_ap (i : Nat) (f : FE) (ρ : Sl) (M : Mem) : extF i f ρ M = (match ρ[i]? with
  | some (.own l) => (f ρ M).bind fun x M => (match view x M with
    | .lst m => if l.length + m.length ≤ LIM then .ok (.next (ρ.set i (.own (l ++ m)))) M else .bad
    | _ => .bad)
  | _ => .bad) := rfl
/-- lines as data -/
def lnD (ls : List (List W)) : List RS.D := ls.map fun l => .str (mk (lineW l))
theorem lnD_app (a b : List (List W)) : lnD (a ++ b) = lnD a ++ lnD b := by unfold lnD; rw [List.map_append]
theorem lnD_len (a : List (List W)) : (lnD a).length = a.length := by unfold lnD; rw [List.length_map]
theorem lnD_tx (a : List (List W)) : lnD a = tx (a.map lineW) := by unfold lnD tx; rw [List.map_map]; rfl
/-- a line that is short enough -/
def LnOk (l : List W) : Prop := (lineW l).length + 2 ≤ SLIM
theorem cmp_rows {j : Nat} {F : List RS.D → Mem → R Val} {fi : Sl → Mem → R (List RS.D)} {ρ : Sl} {M : Mem} (t : List Row) (hF : ∀ (r : Row) (M : Mem), rowOk r → LnOk (rowW r) → F [rowD r] M = .ok (.val (.str (mk (lineW (rowW r))))) M)
    (hf : fi ρ M = .ok (t.map rowD) M) (hj : j < ρ.length) (hl : t.length ≤ SLIM) (h : ∀ r ∈ t, rowOk r ∧ LnOk (rowW r)) :
    cmpE fi (tgN j) yesT (stE (callE 1 F (aCons (stE (getVar j)) aNil))) [j] ρ M = .ok (.own (lnD (t.map rowW))) M := by
  have C := cmpE_plain (fi := fi) (t := tgN j) (b := yesT) (e := stE (callE 1 F (aCons (stE (getVar j)) aNil))) (vs := [j]) (ρ := ρ) (M := M) rowD (fun _ => true) (fun r => RS.D.str (mk (lineW (rowW r)))) t hf hl
    (fun r hr => ⟨_, rfl, rfl, fun _ => by
      have e9 : ((wipeS ρ [j]).set j (.val (rowD r)))[j]? = some (.val (rowD r)) := by
        rw [List.getElem?_set_self]
        show j < (ρ.set j Slot.none).length
        rw [List.length_set]; exact hj
      simp [e9, hF r M (h r hr).1 (h r hr).2]⟩)
  have hf : (t.filter fun _ => true) = t := by simp
  rw [hf] at C
  rw [C]
  unfold lnD
  rw [List.map_map]; rfl
/-- the moves with their two trees -/
def triO : List W → List (List Row) → List (W × List Row × List Row)
  | m :: ms, a :: b :: ts => (m, a, b) :: triO ms ts
  | _, _ => []
theorem zip_tri : ∀ (ms : List W) (t : List Row) (ts : List (List Row)), ts.length = 2 * ms.length → zipT3 (tx ms) (trD (t :: ts)) ((stD (t :: ts)).drop 1) = (triO ms ts).map fun p => RS.D.tup [.str (mk p.1), treeD p.2.1, treeD p.2.2]
  | [], t, [], _ => rfl
  | m :: ms, t, a :: b :: ts, h => by
    have ih := zip_tri ms b ts (by simp at h; omega)
    rw [trD_two, stD_two]
    have e : trD (b :: ts) = trD (b :: ts) := rfl
    show zipT3 (.str (mk m) :: tx ms) (treeD a :: trD (b :: ts)) (stD (b :: ts)) = _
    have hs : stD (b :: ts) = treeD b :: (stD (b :: ts)).drop 1 := by
      cases ts with
      | nil => rfl
      | cons c r => rw [stD_two]; rfl
    rw [hs]
    show RS.D.tup [.str (mk m), treeD a, treeD b] :: zipT3 (tx ms) (trD (b :: ts)) ((stD (b :: ts)).drop 1) = _
    rw [ih]; rfl
def triW (p : W × List Row × List Row) : List (List W) := [sl "move", p.1] :: (p.2.1.map rowW ++ ([sl "state"] :: p.2.2.map rowW))
theorem trees_tri : ∀ (ms : List W) (ts : List (List Row)) (k : Nat), k % 2 = 1 → ts.length = 2 * ms.length → treesW k ms ts = (triO ms ts).flatMap triW
  | [], [], k, _, _ => rfl
  | m :: ms, a :: b :: ts, k, hk, h => by
    have ih := trees_tri ms ts (k + 2) (by omega) (by simp at h; omega)
    have e1 : treesW k (m :: ms) (a :: b :: ts) = [sl "move", m] :: (a.map rowW ++ treesW (k + 1) ms (b :: ts)) := by
      conv => lhs; unfold treesW
      rw [if_neg (by omega)]
    have e2 : treesW (k + 1) ms (b :: ts) = [sl "state"] :: (b.map rowW ++ treesW (k + 2) ms ts) := by
      conv => lhs; unfold treesW
      rw [if_pos (by omega)]
    rw [e1, e2, ih]
    simp [triO, triW]
theorem course_split {ms : List W} {ts : List (List Row)} (h : coOk (ms, ts)) (h2 : ts.length % 2 = 1) : ∃ t us, ts = t :: us ∧ us.length = 2 * ms.length := by
  cases ts with
  | nil => simp at h2
  | cons t us =>
    refine ⟨t, us, rfl, ?_⟩
    have := h.1
    simp only [List.length_cons] at this h2
    omega
theorem tri_mem : ∀ {ms : List W} {ts : List (List Row)} {p : W × List Row × List Row}, p ∈ triO ms ts → p.1 ∈ ms ∧ p.2.1 ∈ ts ∧ p.2.2 ∈ ts
  | m :: ms, a :: b :: ts, p, h => by
    rcases List.mem_cons.mp h with h | h
    · subst h; exact ⟨by simp, by simp, by simp⟩
    · obtain ⟨h1, h2, h3⟩ := tri_mem h
      exact ⟨List.mem_cons_of_mem _ h1, List.mem_cons_of_mem _ (List.mem_cons_of_mem _ h2), List.mem_cons_of_mem _ (List.mem_cons_of_mem _ h3)⟩
theorem lineW_one (w : W) : lineW [w] = w := rfl
theorem lineW_two (a b : W) : lineW [a, b] = a ++ (32 :: b) := rfl
theorem move_line (w : W) : (Str.ofString "move ") ++ mk w = mk (lineW [sl "move", w]) := by
  rw [mk_app, lineW_two]
  have : sl "move " = sl "move" ++ [32] := by decide +kernel
  rw [this, List.append_assoc]; rfl
theorem state_line : RS.D.str (Str.ofString "state") = .str (mk (lineW [sl "state"])) := by rw [lineW_one, mk_sl]
theorem row_lines {t : List Row} {ls : List (List W)} (h : ∀ r ∈ t, rowOk r) (hs : ∀ l ∈ t.map rowW, LnOk l) : ∀ r ∈ t, rowOk r ∧ LnOk (rowW r) := fun r hr => ⟨h r hr, hs _ (List.mem_map.mpr ⟨r, hr, rfl⟩)⟩
theorem cl1 {F : List RS.D → Mem → R Val} (hF : ∀ (r : Row) (M : Mem), rowOk r → LnOk (rowW r) → F [rowD r] M = .ok (.val (.str (mk (lineW (rowW r))))) M) {A0 A1 A2 d4 : Slot} {out : List (List W)} {p : W × List Row × List Row} {M : Mem} (hn : out.length + (triW p).length ≤ 16000000) (hm : 5 + p.1.length ≤ SLIM) (h1 : ∀ r ∈ p.2.1, rowOk r ∧ LnOk (rowW r)) (h2 : ∀ r ∈ p.2.2, rowOk r ∧ LnOk (rowW r)) :
    (seqF (appF 3 (op2 (con (.str "move ")) (getVar 5) addP))
 (seqF (extF 3 (cmpE (seqE (getVar 6)) (tgN 4) yesT (stE (callE 1 F (aCons (stE (getVar 4)) aNil))) [4]))
 (seqF (appF 3 (con (.str "state")))
 (extF 3 (cmpE (seqE (getVar 7)) (tgN 4) yesT (stE (callE 1 F (aCons (stE (getVar 4)) aNil))) [4]))))) [A0, A1, A2, .own (lnD out), d4, .val (.str (mk p.1)), .val (treeD p.2.1), .val (treeD p.2.2)] M =
    .ok (.next [A0, A1, A2, .own (lnD (out ++ triW p)), d4, .val (.str (mk p.1)), .val (treeD p.2.1), .val (treeD p.2.2)]) M := by
  obtain ⟨m, t, u⟩ := p
  have hl : (triW (m, t, u)).length = 2 + t.length + u.length := by simp [triW]; omega
  rw [hl] at hn
  simp only at hm h1 h2
  have l1 : (lnD out).length < LIM := by rw [lnD_len]; unfold LIM; omega
  have C1 := cmp_rows (j := 4) (fi := seqE (getVar 6)) (ρ := [A0, A1, A2, .own (lnD (out ++ [[sl "move", m]])), d4, .val (.str (mk m)), .val (treeD t), .val (treeD u)]) (M := M) t hF (by simp [treeD]) (by simp) (by unfold SLIM; omega) h1
  have C2 := cmp_rows (j := 4) (fi := seqE (getVar 7)) (ρ := [A0, A1, A2, .own (lnD (out ++ [[sl "move", m]] ++ t.map rowW ++ [[sl "state"]])), d4, .val (.str (mk m)), .val (treeD t), .val (treeD u)]) (M := M) u hF (by simp [treeD]) (by simp) (by unfold SLIM; omega) h2
  have hml : (Str.ofString "move ").length = 5 := by decide +kernel
  have a1 : appF 3 (op2 (con (.str "move ")) (getVar 5) addP) [A0, A1, A2, .own (lnD out), d4, .val (.str (mk m)), .val (treeD t), .val (treeD u)] M = .ok (.next [A0, A1, A2, .own (lnD (out ++ [[sl "move", m]])), d4, .val (.str (mk m)), .val (treeD t), .val (treeD u)]) M := by
    have := move_line m
    simp [addP, hml, hm, l1, this, lnD_app]
    rfl
  have a2 : extF 3 (cmpE (seqE (getVar 6)) (tgN 4) yesT (stE (callE 1 F (aCons (stE (getVar 4)) aNil))) [4]) [A0, A1, A2, .own (lnD (out ++ [[sl "move", m]])), d4, .val (.str (mk m)), .val (treeD t), .val (treeD u)] M = .ok (.next [A0, A1, A2, .own (lnD (out ++ [[sl "move", m]] ++ t.map rowW)), d4, .val (.str (mk m)), .val (treeD t), .val (treeD u)]) M := by
    rw [extF_ap]
    simp only [List.getElem?_cons_succ, List.getElem?_cons_zero, C1, R.bind_ok, view_own]
    rw [if_pos (by rw [lnD_len, lnD_len, List.length_append, List.length_map]; simp only [List.length_singleton]; unfold LIM; omega), ← lnD_app]
    rfl
  have a3 : appF 3 (con (.str "state")) [A0, A1, A2, .own (lnD (out ++ [[sl "move", m]] ++ t.map rowW)), d4, .val (.str (mk m)), .val (treeD t), .val (treeD u)] M = .ok (.next [A0, A1, A2, .own (lnD (out ++ [[sl "move", m]] ++ t.map rowW ++ [[sl "state"]])), d4, .val (.str (mk m)), .val (treeD t), .val (treeD u)]) M := by
    have l3 : (lnD (out ++ [[sl "move", m]] ++ t.map rowW)).length < LIM := by
      rw [lnD_len, List.length_append, List.length_append, List.length_map]; simp only [List.length_singleton]; unfold LIM; omega
    rw [appF_ap]
    simp only [List.getElem?_cons_succ, List.getElem?_cons_zero, stE_ap, con_ap, R.bind_ok, sto_val]
    rw [if_pos l3, lnD_app _ [[sl "state"]], state_line]
    rfl
  have a4 : extF 3 (cmpE (seqE (getVar 7)) (tgN 4) yesT (stE (callE 1 F (aCons (stE (getVar 4)) aNil))) [4]) [A0, A1, A2, .own (lnD (out ++ [[sl "move", m]] ++ t.map rowW ++ [[sl "state"]])), d4, .val (.str (mk m)), .val (treeD t), .val (treeD u)] M = .ok (.next [A0, A1, A2, .own (lnD (out ++ [[sl "move", m]] ++ t.map rowW ++ [[sl "state"]] ++ u.map rowW)), d4, .val (.str (mk m)), .val (treeD t), .val (treeD u)]) M := by
    rw [extF_ap]
    simp only [List.getElem?_cons_succ, List.getElem?_cons_zero, C2, R.bind_ok, view_own]
    rw [if_pos (by rw [lnD_len, lnD_len, List.length_append, List.length_append, List.length_append, List.length_map, List.length_map]; simp only [List.length_singleton]; unfold LIM; omega), ← lnD_app]
    rfl
  have e : out ++ [[sl "move", m]] ++ t.map rowW ++ [[sl "state"]] ++ u.map rowW = out ++ triW (m, t, u) := by simp [triW]
  rw [seqF_ap, a1]
  simp only
  rw [seqF_ap, a2]
  simp only
  rw [seqF_ap, a3]
  simp only
  rw [a4, e]
structure CL (A0 A1 A2 : Slot) (M0 : Mem) (all : List (List W)) (rest : List (W × List Row × List Row)) (ρ : Sl) (M : Mem) : Prop where
  h : ∃ out d4 d5 d6 d7, ρ = [A0, A1, A2, .own (lnD out), d4, d5, d6, d7] ∧ M = M0 ∧ out ++ rest.flatMap triW = all
theorem m_course_lines (ms : List W) (ts : List (List Row)) (M : Mem) (h : coOk (ms, ts)) (h2 : ts.length % 2 = 1) (hn : (answerW (.course ms ts)).length ≤ 16000000) (hs : ∀ l ∈ answerW (.course ms ts), LnOk l) :
    f_course_lines [.tup (tx ms), .tup (stD ts), .tup (trD ts)] M = .ok (.own (lnD (answerW (.course ms ts)))) M := by
  obtain ⟨t, us, rfl, hu⟩ := course_split h h2
  have hall : answerW (.course ms (t :: us)) = ([sl "course"] :: [sl "state"] :: t.map rowW) ++ (triO ms us).flatMap triW := by
    show [sl "course"] :: treesW 0 ms (t :: us) = _
    have : treesW 0 ms (t :: us) = [sl "state"] :: (t.map rowW ++ treesW 1 ms us) := by
      conv => lhs; unfold treesW
      rw [if_pos (by rfl)]
    rw [this, trees_tri ms us 1 rfl hu]; rfl
  rw [hall] at hn hs ⊢
  have ht : ∀ r ∈ t, rowOk r ∧ LnOk (rowW r) := row_lines (ls := []) (h.2.2 t (by simp)) fun l hl => hs l (by simp only [List.mem_append, List.mem_cons]; exact .inl (.inr (.inr hl)))
  have htl : t.length + 2 ≤ 16000000 := by simp at hn; omega
  have hst : stD (t :: us) = treeD t :: (stD (t :: us)).drop 1 := by
    cases us with
    | nil => rfl
    | cons c r => rw [stD_two]; rfl
  have C1 := cmp_rows (F := f_row_line) (j := 4) (fi := seqE (op2 (getVar 1) (con (.int 0)) idxP)) (ρ := [.val (.tup (tx ms)), .val (.tup (stD (t :: us))), .val (.tup (trD (t :: us))), .none, .none, .none, .none, .none]) (M := M) t m_row_line (by rw [hst]; simp [treeD]) (by simp) (by unfold SLIM; omega) ht
  have st1 : ownF 3 (op2 (lstE (aCons (stE (con (.str "course"))) (aCons (stE (con (.str "state"))) aNil))) (cmpE (seqE (op2 (getVar 1) (con (.int 0)) idxP)) (tgN 4) yesT (stE (callE 1 f_row_line (aCons (stE (getVar 4)) aNil))) [4]) addP) [.val (.tup (tx ms)), .val (.tup (stD (t :: us))), .val (.tup (trD (t :: us))), .none, .none, .none, .none, .none] M = .ok (.next [.val (.tup (tx ms)), .val (.tup (stD (t :: us))), .val (.tup (trD (t :: us))), .own (lnD ([sl "course"] :: [sl "state"] :: t.map rowW)), .none, .none, .none, .none]) M := by
    have O := op2_own (f := lstE (aCons (stE (con (.str "course"))) (aCons (stE (con (.str "state"))) aNil))) (a := [.str "course", .str "state"]) (ρ := [.val (.tup (tx ms)), .val (.tup (stD (t :: us))), .val (.tup (trD (t :: us))), .none, .none, .none, .none, .none]) (M := M) (by simp; decide) C1 (by rw [lnD_len, List.length_map]; simp only [List.length_cons, List.length_nil]; omega)
    rw [ownF_ap, O, R.bind_ok]
    have e1 : lnD ([sl "course"] :: [sl "state"] :: t.map rowW) = [.str "course", .str "state"] ++ lnD (t.map rowW) := by
      show RS.D.str (mk (lineW [sl "course"])) :: RS.D.str (mk (lineW [sl "state"])) :: _ = _
      rw [lineW_one, lineW_one, mk_sl, mk_sl]; rfl
    rw [e1]; rfl
  have Z := zip_tri ms t us hu
  have L := forGo_inv (t := tgT 3 (tgsCons (tgN 5) (tgsCons (tgN 6) (tgsCons (tgN 7) tgsNil)))) (b := lb_course_lines_1) (fun p : W × List Row × List Row => RS.D.tup [.str (mk p.1), treeD p.2.1, treeD p.2.2])
    (fun l ρ M' => (∀ p ∈ l, p ∈ triO ms us) ∧ CL (.val (.tup (tx ms))) (.val (.tup (stD (t :: us)))) (.val (.tup (trD (t :: us)))) M (([sl "course"] :: [sl "state"] :: t.map rowW) ++ (triO ms us).flatMap triW) l ρ M')
    (fun p l ρ M' ⟨hm, hc⟩ => by
      obtain ⟨out, d4, d5, d6, d7, rfl, rfl, ha⟩ := hc.h
      have hp := hm p (by simp)
      obtain ⟨q1, q2, q3⟩ := tri_mem hp
      rw [List.flatMap_cons] at ha
      have hlen : out.length + (triW p).length ≤ 16000000 := by
        have := congrArg List.length ha
        simp only [List.length_append] at this hn
        omega
      have hin : ∀ l ∈ triW p, LnOk l := fun l' hl' => hs l' (by rw [← ha]; simp [hl'])
      have i1 : ∀ r ∈ p.2.1, rowOk r ∧ LnOk (rowW r) := row_lines (ls := []) (h.2.2 _ (List.mem_cons_of_mem _ q2)) fun l' hl' => hin l' (by unfold triW; simp only [List.mem_cons, List.mem_append]; exact .inr (.inl hl'))
      have i2 : ∀ r ∈ p.2.2, rowOk r ∧ LnOk (rowW r) := row_lines (ls := []) (h.2.2 _ (List.mem_cons_of_mem _ q3)) fun l' hl' => hin l' (by unfold triW; simp only [List.mem_cons, List.mem_append]; exact .inr (.inr (.inr hl')))
      have hmv : 5 + p.1.length ≤ SLIM := by
        have := hin [sl "move", p.1] (by unfold triW; simp)
        unfold LnOk at this
        rw [lineW_two] at this
        have e5 : (sl "move").length = 4 := by decide +kernel
        simp only [List.length_append, List.length_cons] at this
        omega
      refine ⟨_, _, _, rfl, .inl (cl1 m_row_line hlen hmv i1 i2), fun q hq => hm q (List.mem_cons_of_mem _ hq), ⟨⟨out ++ triW p, _, _, _, _, rfl, rfl, by rw [List.append_assoc]; exact ha⟩⟩⟩)
    (triO ms us) [.val (.tup (tx ms)), .val (.tup (stD (t :: us))), .val (.tup (trD (t :: us))), .own (lnD ([sl "course"] :: [sl "state"] :: t.map rowW)), .none, .none, .none, .none] M ⟨fun p hp => hp, ⟨⟨_, _, _, _, _, rfl, rfl, rfl⟩⟩⟩
  obtain ⟨ρ', M', hg, _, hc⟩ := L
  obtain ⟨out, d4, d5, d6, d7, rfl, rfl, ha⟩ := hc.h
  simp only [List.flatMap_nil, List.append_nil] at ha
  subst ha
  have hz : zip3 (aCons (stE (getVar 0)) (aCons (stE (getVar 2)) (aCons (stE (slE (getVar 1) (ixO (con (.int 1))) (fun _ M => .ok none M))) aNil))) [.val (.tup (tx ms)), .val (.tup (stD (t :: us))), .val (.tup (trD (t :: us))), .own (lnD ([sl "course"] :: [sl "state"] :: t.map rowW)), .none, .none, .none, .none] M' = .ok ((triO ms us).map fun p => RS.D.tup [.str (mk p.1), treeD p.2.1, treeD p.2.2]) M' := by
    unfold zip3
    simp only [List.drop_one] at Z
    simp [Z]
  have B : b_course_lines [.val (.tup (tx ms)), .val (.tup (stD (t :: us))), .val (.tup (trD (t :: us))), .none, .none, .none, .none, .none] M' = .ok (.ret (.own (lnD (([sl "course"] :: [sl "state"] :: t.map rowW) ++ (triO ms us).flatMap triW)))) M' := by
    unfold b_course_lines
    rw [seqF_ap, st1]
    simp only
    rw [seqF_ap, forF_ap, hz, R.bind_ok, hg]
    simp
  unfold f_course_lines fnD
  show (match b_course_lines [.val (.tup (tx ms)), .val (.tup (stD (t :: us))), .val (.tup (trD (t :: us))), .none, .none, .none, .none, .none] M' with | .ok (.ret x) M' => _ | .ok (.next _) M' => _ | .exn c d M' => _ | _ => _) = _
  rw [B]
end K58
set_option Elab.async false
set_option linter.all false
set_option maxRecDepth 100000
set_option maxHeartbeats 4000000
/-! law_k58: enclosures written, write_answer. -/
namespace K58
open PySem L2 RS
theorem exit_line (w z : W) (b : Str) (hb : b = Str.ofString " ") : ((Str.ofString "exit " ++ mk w) ++ b) ++ mk z = mk (sl "exit" ++ (32 :: (w ++ (32 :: z)))) := by
  have e1 : Str.ofString "exit " = mk (sl "exit" ++ [32]) := by
    have : sl "exit " = sl "exit" ++ [32] := by decide +kernel
    rw [← this]; exact (mk_sl _).symm
  have e2 : b = mk [32] := by rw [hb, ← sp_is]; exact (mk_sl _).symm
  rw [e1, e2, mk_cat, mk_cat, mk_cat]
  congr 1
  simp
theorem exitW_line (e : W × Reason) : lineW (exitW e) = sl "exit" ++ (32 :: (e.1 ++ (32 :: lineW (reasonW e.2)))) := by
  show lineW (sl "exit" :: e.1 :: reasonW e.2) = _
  have : reasonW e.2 ≠ [] := by obtain ⟨a, b, h, _⟩ := whyW_line e.2; rw [h]; simp
  rw [lineW_cons, lineW_cons' this]
theorem ex_gen (F : List RS.D → Mem → R Val) (x z : Str) (q : RS.D) (f g : FE) (ρ : Sl) (M : Mem) (hf : f ρ M = .ok (.val (.str x)) M) (hg : g ρ M = .ok (.val q) M) (hF : F [q] M = .ok (.val (.str z)) M) (hl : 6 + x.length + z.length ≤ SLIM) :
    (op2 (op2 (op2 (con (.str "exit ")) f addP) (con (.str " ")) addP) (callE 1 F (aCons (stE g) aNil)) addP) ρ M = .ok (.val (.str (((Str.ofString "exit " ++ x) ++ Str.ofString " ") ++ z))) M := by
  have h5 : (Str.ofString "exit ").length = 5 := by decide +kernel
  have c1 : 5 + x.length ≤ SLIM := by omega
  have c2 : 5 + x.length + 1 ≤ SLIM := by omega
  have c3 : 5 + x.length + 1 + z.length ≤ SLIM := by omega
  simp [hf, hg, hF, addP, h5, sp_len, str_app_len, c1, c2, c3]
theorem exit_len {e : W × Reason} (hl : LnOk (exitW e)) : 6 + e.1.length + (lineW (reasonW e.2)).length ≤ SLIM ∧ (lineW (reasonW e.2)).length + 2 ≤ SLIM := by
  unfold LnOk at hl
  rw [exitW_line] at hl
  have e5 : (sl "exit").length = 4 := by decide +kernel
  simp only [List.length_append, List.length_cons] at hl
  constructor <;> omega
theorem at_line {gs : List W} {ρ : Sl} {M : Mem} {f : FE} (hf : f ρ M = .ok (.val (namesD gs)) M) (hl : LnOk (sl "at" :: gs)) : joinE (con (.str " ")) (op2 (lstE (aCons (stE (con (.str "at"))) aNil)) (op1 f lstP) addP) ρ M = .ok (.val (.str (mk (lineW (sl "at" :: gs))))) M := by
  have hn : (sl "at" :: gs).length ≤ (lineW (sl "at" :: gs)).length + 1 := join_count 32 _
  unfold LnOk at hl
  rw [List.length_cons] at hn
  refine joinE_own (ws := sl "at" :: gs) (c := 32) rfl sl_sp ((op2_own (a := [.str "at"]) (b := tx gs) (by simp; decide) (by simp [hf, namesD]) (by rw [List.length_map]; simp only [List.length_singleton]; unfold SLIM at hl; omega)).trans ?_) (by simp) (Nat.le_of_succ_le hl)
  simp
/-- one exit -/
theorem el1 {A0 d2 d3 : Slot} {out : List (List W)} {e : W × Reason} {M : Mem} (hn : out.length + 1 ≤ 16000000) (he : exitOk e) (hl : LnOk (exitW e)) :
    lb_enclosure_lines_1 [A0, .own (lnD out), d2, d3, .val (.str (mk e.1)), .val (reasonD e.2)] M = .ok (.next [A0, .own (lnD (out ++ [exitW e])), d2, d3, .val (.str (mk e.1)), .val (reasonD e.2)]) M := by
  obtain ⟨h1, h2⟩ := exit_len hl
  have G := ex_gen f_reason_words (mk e.1) (mk (lineW (reasonW e.2))) (reasonD e.2) (getVar 4) (getVar 5) [A0, .own (lnD out), d2, d3, .val (.str (mk e.1)), .val (reasonD e.2)] M rfl rfl (m_reason_words e.2 M he.2 h2) (by rw [mk_len, mk_len]; exact h1)
  rw [exit_line _ _ _ rfl, ← exitW_line] at G
  unfold lb_enclosure_lines_1
  rw [appF_ap]
  simp only [List.getElem?_cons_succ, List.getElem?_cons_zero, stE_ap, G, R.bind_ok, sto_val]
  rw [if_pos (by rw [lnD_len]; unfold LIM; omega), lnD_app]
  rfl
def blockW (b : Block) : List (List W) := (sl "at" :: b.1) :: b.2.map exitW
theorem blocks_flat : ∀ bs : List Block, blocksW bs = bs.flatMap blockW
  | [] => rfl
  | b :: bs => by
    rw [List.flatMap_cons, ← blocks_flat bs]; rfl
structure EL (A0 d2 d3 : Slot) (M0 : Mem) (all : List (List W)) (rest : List (W × Reason)) (ρ : Sl) (M : Mem) : Prop where
  h : ∃ out d4 d5, ρ = [A0, .own (lnD out), d2, d3, d4, d5] ∧ M = M0 ∧ out ++ rest.map exitW = all
theorem el2 {A0 d4 d5 : Slot} {out : List (List W)} {b : Block} {M : Mem} (hn : out.length + (blockW b).length ≤ 16000000) (hb : blockOk b) (hs : ∀ l ∈ blockW b, LnOk l) :
    ∃ e4 e5, lb_enclosure_lines_2 [A0, .own (lnD out), .val (namesD b.1), .val (.tup (b.2.map exitD)), d4, d5] M = .ok (.next [A0, .own (lnD (out ++ blockW b)), .val (namesD b.1), .val (.tup (b.2.map exitD)), e4, e5]) M := by
  have hlen : (blockW b).length = 1 + b.2.length := by simp [blockW]; omega
  rw [hlen] at hn
  have AL := at_line (gs := b.1) (ρ := [A0, .own (lnD out), .val (namesD b.1), .val (.tup (b.2.map exitD)), d4, d5]) (M := M) (f := getVar 2) rfl (hs _ (by simp [blockW]))
  have a1 : appF 1 (joinE (con (.str " ")) (op2 (lstE (aCons (stE (con (.str "at"))) aNil)) (op1 (getVar 2) lstP) addP)) [A0, .own (lnD out), .val (namesD b.1), .val (.tup (b.2.map exitD)), d4, d5] M = .ok (.next [A0, .own (lnD (out ++ [sl "at" :: b.1])), .val (namesD b.1), .val (.tup (b.2.map exitD)), d4, d5]) M := by
    rw [appF_ap]
    simp only [List.getElem?_cons_succ, List.getElem?_cons_zero, stE_ap, AL, R.bind_ok, sto_val]
    rw [if_pos (by rw [lnD_len]; unfold LIM; omega), lnD_app]
    rfl
  have L := forGo_inv (t := tgT 2 (tgsCons (tgN 4) (tgsCons (tgN 5) tgsNil))) (b := lb_enclosure_lines_1) exitD
    (fun l ρ M' => (∀ e ∈ l, e ∈ b.2) ∧ EL A0 (.val (namesD b.1)) (.val (.tup (b.2.map exitD))) M (out ++ blockW b) l ρ M')
    (fun e l ρ M' ⟨hm, hc⟩ => by
      obtain ⟨o, e4, e5, rfl, rfl, ha⟩ := hc.h
      have he := hm e (by simp)
      have hol : o.length + 1 ≤ 16000000 := by
        have := congrArg List.length ha
        simp only [List.length_append, List.map_cons, List.length_cons, hlen] at this
        omega
      exact ⟨_, _, _, rfl, .inl (el1 hol (hb.2 e he) (hs _ (by unfold blockW; exact List.mem_cons_of_mem _ (List.mem_map.mpr ⟨e, he, rfl⟩)))), fun q hq => hm q (List.mem_cons_of_mem _ hq), ⟨⟨o ++ [exitW e], _, _, rfl, rfl, by rw [← ha]; simp⟩⟩⟩)
    b.2 [A0, .own (lnD (out ++ [sl "at" :: b.1])), .val (namesD b.1), .val (.tup (b.2.map exitD)), d4, d5] M ⟨fun p hp => hp, ⟨⟨_, _, _, rfl, rfl, by simp [blockW]⟩⟩⟩
  obtain ⟨ρ', M', hg, _, hc⟩ := L
  obtain ⟨o, e4, e5, rfl, rfl, ha⟩ := hc.h
  simp only [List.map_nil, List.append_nil] at ha
  subst ha
  refine ⟨e4, e5, ?_⟩
  unfold lb_enclosure_lines_2
  rw [seqF_ap, a1]
  simp only
  rw [forF_ap]
  have : seqE (getVar 3) [A0, .own (lnD (out ++ [sl "at" :: b.1])), .val (namesD b.1), .val (.tup (b.2.map exitD)), d4, d5] M' = .ok (b.2.map exitD) M' := by simp
  rw [this, R.bind_ok, hg]
structure BL (A0 : Slot) (M0 : Mem) (all : List (List W)) (rest : List Block) (ρ : Sl) (M : Mem) : Prop where
  h : ∃ out d2 d3 d4 d5, ρ = [A0, .own (lnD out), d2, d3, d4, d5] ∧ M = M0 ∧ out ++ rest.flatMap blockW = all
theorem m_enclosure_lines (bs : List Block) (M : Mem) (h : ∀ b ∈ bs, blockOk b) (hn : (answerW (.enclosure bs)).length ≤ 16000000) (hs : ∀ l ∈ answerW (.enclosure bs), LnOk l) :
    f_enclosure_lines [.tup (bs.map blockD)] M = .ok (.own (lnD (answerW (.enclosure bs)))) M := by
  have hall : answerW (.enclosure bs) = [[sl "enclosure"]] ++ bs.flatMap blockW := by rw [← blocks_flat]; rfl
  rw [hall] at hn hs ⊢
  have L := forGo_inv (t := tgT 2 (tgsCons (tgN 2) (tgsCons (tgN 3) tgsNil))) (b := lb_enclosure_lines_2) blockD
    (fun l ρ M' => (∀ e ∈ l, e ∈ bs) ∧ BL (.val (.tup (bs.map blockD))) M ([[sl "enclosure"]] ++ bs.flatMap blockW) l ρ M')
    (fun b l ρ M' ⟨hm, hc⟩ => by
      obtain ⟨o, d2, d3, d4, d5, rfl, rfl, ha⟩ := hc.h
      have hb := hm b (by simp)
      rw [List.flatMap_cons] at ha
      have hol : o.length + (blockW b).length ≤ 16000000 := by
        have := congrArg List.length ha
        simp only [List.length_append] at this hn
        omega
      obtain ⟨e4, e5, he⟩ := el2 (A0 := .val (.tup (bs.map blockD))) (d4 := d4) (d5 := d5) (M := M') hol (h b hb) (fun l hl => hs l (by rw [← ha]; simp [hl]))
      exact ⟨_, _, _, rfl, .inl he, fun q hq => hm q (List.mem_cons_of_mem _ hq), ⟨⟨o ++ blockW b, _, _, _, _, rfl, rfl, by rw [List.append_assoc]; exact ha⟩⟩⟩)
    bs [.val (.tup (bs.map blockD)), .own (lnD [[sl "enclosure"]]), .none, .none, .none, .none] M ⟨fun p hp => hp, ⟨⟨_, _, _, _, _, rfl, rfl, rfl⟩⟩⟩
  obtain ⟨ρ', M', hg, _, hc⟩ := L
  obtain ⟨o, d2, d3, d4, d5, rfl, rfl, ha⟩ := hc.h
  simp only [List.flatMap_nil, List.append_nil] at ha
  subst ha
  have e1 : lnD [[sl "enclosure"]] = [.str "enclosure"] := by
    show [RS.D.str (mk (lineW [sl "enclosure"]))] = _
    rw [lineW_one, mk_sl]
  rw [e1] at hg
  unfold f_enclosure_lines fnD b_enclosure_lines
  simp [LIM, hg]
theorem joinE_nl {ρ : Sl} {M : Mem} {ls : List (List W)} {f : FE} (hf : f ρ M = .ok (.val (.lst (lnD ls))) M) (h0 : ls ≠ []) (hl : (textW ls).length + 1 ≤ SLIM) : joinE (con (.str "\n")) f ρ M = .ok (.val (.str (mk (textW ls)))) M := by
  rw [lnD_tx] at hf
  exact joinE_lst rfl sl_nl hf (by simpa using h0) hl
theorem line_le {ls : List (List W)} {l : List W} (h : l ∈ ls) : (lineW l).length ≤ (textW ls).length := join_mem_len 10 (List.mem_map.mpr ⟨l, h, rfl⟩)
theorem lines_le (ls : List (List W)) : ls.length ≤ (textW ls).length + 1 := by
  have := join_count 10 (ls.map lineW)
  rw [List.length_map] at this
  exact this
theorem m_write_answer (a : Answer) (M : Mem) (h : answerOk a) (hl : (textW (answerW a)).length + 2 ≤ SLIM) : f_write_answer [answerD a] M = .ok (.val (.str (mk (textW (answerW a))))) M := by
  have hs : ∀ l ∈ answerW a, LnOk l := fun l hl' => by have := line_le hl'; unfold LnOk; omega
  have hn : (answerW a).length ≤ 16000000 := by have := lines_le (answerW a); unfold SLIM at hl; omega
  have h0 := (answer_plain h).1
  unfold f_write_answer fnD b_write_answer
  cases a with
  | course ms ts =>
    have C := m_course_lines ms ts M h.1 h.2 hn hs
    have J := joinE_nl (ρ := [.val (courseD ms ts), .val (.lst (lnD (answerW (.course ms ts))))]) (M := M) (f := getVar 1) rfl h0 (by omega)
    simp only [courseD] at J
    simp [answerD, courseD, C, J]
  | enclosure bs =>
    have C := m_enclosure_lines bs M h hn hs
    have J := joinE_nl (ρ := [.val (enclD bs), .val (.lst (lnD (answerW (.enclosure bs))))]) (M := M) (f := getVar 1) rfl h0 (by omega)
    simp only [enclD] at J
    simp +decide [answerD, enclD, C, J]
  | spoiled q =>
    have hlq : LnOk (sl "spoiled" :: reasonW q) := hs _ (by simp [answerW])
    have hne : reasonW q ≠ [] := by obtain ⟨a, b, h, _⟩ := whyW_line q; rw [h]; simp
    unfold LnOk at hlq
    rw [lineW_cons' hne] at hlq
    have e7 : (sl "spoiled").length = 7 := by decide +kernel
    have e8 : (Str.ofString "spoiled ").length = 8 := by decide +kernel
    have e9 : sl "spoiled " = sl "spoiled" ++ [32] := by decide +kernel
    simp only [List.length_append, List.length_cons, e7] at hlq
    have Q := m_reason_words q M h.1 (by omega)
    have ht : Str.ofString "spoiled " ++ mk (lineW (reasonW q)) = mk (lineW (sl "spoiled" :: reasonW q)) := by
      rw [mk_app, e9, lineW_cons' hne, List.append_assoc]; rfl
    have c1 : 8 + (lineW (reasonW q)).length ≤ SLIM := by omega
    have J := joinE_nl (ρ := [.val (.tup [.str "spoiled", reasonD q]), .val (.lst (lnD (answerW (.spoiled q))))]) (M := M) (f := getVar 1) rfl h0 (by omega)
    have e10 : lnD (answerW (.spoiled q)) = [.str (mk (lineW (sl "spoiled" :: reasonW q)))] := rfl
    rw [e10] at J
    simp +decide [answerD, Q, addP, e8, c1, ht, LIM]
    simp [J]
end K58
set_option Elab.async false
set_option linter.all false
set_option maxRecDepth 100000
set_option maxHeartbeats 4000000
/-! law_k58: the law's own writer. -/
namespace K58
open PySem L2 RS
theorem pairs_rangeG {α : Type} : ∀ (ls : List α) (i : Nat), (pairsF ls i).map (fun p => RS.D.int ((0 : Int) + ((p.1 : Nat) : Int))) = (List.range ls.length).map fun (k : Nat) => RS.D.int ((0 : Int) + ((i + k : Nat) : Int))
  | [], i => rfl
  | x :: ls, i => by
    have ih := pairs_rangeG ls (i + 1)
    show RS.D.int ((0 : Int) + ((i : Nat) : Int)) :: (pairsF ls (i + 1)).map _ = _
    rw [ih, List.length_cons, List.range_succ_eq_map, List.map_cons, List.map_map]
    congr 1
    refine List.map_congr_left fun k _ => ?_
    show RS.D.int ((0 : Int) + ((i + 1 + k : Nat) : Int)) = RS.D.int ((0 : Int) + ((i + (k + 1) : Nat) : Int))
    congr 3
    omega
theorem tri_parts : ∀ (ms : List W) (t : List Row) (us : List (List Row)), us.length = 2 * ms.length →
    ms = (triO ms us).map (fun p => p.1) ∧ trD (t :: us) = (triO ms us).map (fun p => treeD p.2.1) ∧ (stD (t :: us)) = treeD t :: (triO ms us).map (fun p => treeD p.2.2)
  | [], t, [], _ => ⟨rfl, rfl, rfl⟩
  | m :: ms, t, a :: b :: us, h => by
    obtain ⟨h1, h2, h3⟩ := tri_parts ms b us (by simp at h; omega)
    refine ⟨?_, ?_, ?_⟩
    · show m :: ms = m :: (triO ms us).map _
      rw [← h1]
    · rw [trD_two, h2]; rfl
    · rw [stD_two, h3]; rfl
/-- one turn of the law's loop over trees -/
def turnW (o : Option (W × List Row × List Row)) (t : List Row) : List (List W) := match o with
  | none => [sl "state"] :: t.map rowW
  | some q => triW q
structure WL (A : RS.D) (M0 : Mem) (t : List Row) (all : List (List W)) (rest : List (Nat × Option (W × List Row × List Row))) (ρ : Sl) (M : Mem) : Prop where
  h : ∃ out d5, ρ = [.val A, .own (lnD out), .none, .none, .none, d5] ∧ M = M0 ∧ out ++ rest.flatMap (fun p => turnW p.2 t) = all
theorem wl_state {A : RS.D} {out : List (List W)} {d5 : Slot} {M : Mem} {fi : Sl → Mem → R (List RS.D)} {u : List Row} (hn : out.length + 1 + u.length ≤ 16000000) (hu : ∀ r ∈ u, rowOk r ∧ LnOk (rowW r)) (hf : ∀ o, fi [.val A, .own o, .none, .none, .none, d5] M = .ok (u.map rowD) M) :
    (seqF (appF 1 (con (.str "state"))) (extF 1 (cmpE fi (tgN 4) yesT (stE (callE 1 f_law_row_line (aCons (stE (getVar 4)) aNil))) [4]))) [.val A, .own (lnD out), .none, .none, .none, d5] M = .ok (.next [.val A, .own (lnD (out ++ [sl "state"] :: u.map rowW)), .none, .none, .none, d5]) M := by
  have C := cmp_rows (F := f_law_row_line) (j := 4) (fi := fi) (ρ := [.val A, .own (lnD (out ++ [[sl "state"]])), .none, .none, .none, d5]) (M := M) u m_law_row_line (hf _) (by simp) (by unfold SLIM; omega) hu
  have l1 : (lnD out).length < LIM := by rw [lnD_len]; unfold LIM; omega
  have a3 : appF 1 (con (.str "state")) [.val A, .own (lnD out), .none, .none, .none, d5] M = .ok (.next [.val A, .own (lnD (out ++ [[sl "state"]])), .none, .none, .none, d5]) M := by
    rw [appF_ap]
    simp only [List.getElem?_cons_succ, List.getElem?_cons_zero, stE_ap, con_ap, R.bind_ok, sto_val]
    rw [if_pos l1, lnD_app _ [[sl "state"]], state_line]
    rfl
  rw [seqF_ap, a3]
  simp only
  rw [extF_ap]
  simp only [List.getElem?_cons_succ, List.getElem?_cons_zero, C, R.bind_ok, view_own]
  rw [if_pos (by rw [lnD_len, lnD_len, List.length_append, List.length_map]; simp only [List.length_singleton]; unfold LIM; omega), ← lnD_app, List.append_assoc]
  rfl
theorem wl_move {A : RS.D} {out : List (List W)} {d5 : Slot} {M : Mem} {fm : FE} {fi : Sl → Mem → R (List RS.D)} {m : W} {u : List Row} (hn : out.length + 1 + u.length ≤ 16000000) (hm : 5 + m.length ≤ SLIM) (hu : ∀ r ∈ u, rowOk r ∧ LnOk (rowW r)) (hfm : ∀ o, fm [.val A, .own o, .none, .none, .none, d5] M = .ok (.val (.str (mk m))) M) (hf : ∀ o, fi [.val A, .own o, .none, .none, .none, d5] M = .ok (u.map rowD) M) :
    (seqF (appF 1 (op2 (con (.str "move ")) fm addP)) (extF 1 (cmpE fi (tgN 4) yesT (stE (callE 1 f_law_row_line (aCons (stE (getVar 4)) aNil))) [4]))) [.val A, .own (lnD out), .none, .none, .none, d5] M = .ok (.next [.val A, .own (lnD (out ++ [sl "move", m] :: u.map rowW)), .none, .none, .none, d5]) M := by
  have C := cmp_rows (F := f_law_row_line) (j := 4) (fi := fi) (ρ := [.val A, .own (lnD (out ++ [[sl "move", m]])), .none, .none, .none, d5]) (M := M) u m_law_row_line (hf _) (by simp) (by unfold SLIM; omega) hu
  have l1 : (lnD out).length < LIM := by rw [lnD_len]; unfold LIM; omega
  have hml : (Str.ofString "move ").length = 5 := by decide +kernel
  have a3 : appF 1 (op2 (con (.str "move ")) fm addP) [.val A, .own (lnD out), .none, .none, .none, d5] M = .ok (.next [.val A, .own (lnD (out ++ [[sl "move", m]])), .none, .none, .none, d5]) M := by
    have := move_line m
    simp [addP, hml, hm, l1, this, lnD_app, hfm]
    rfl
  rw [seqF_ap, a3]
  simp only
  rw [extF_ap]
  simp only [List.getElem?_cons_succ, List.getElem?_cons_zero, C, R.bind_ok, view_own]
  rw [if_pos (by rw [lnD_len, lnD_len, List.length_append, List.length_map]; simp only [List.length_singleton]; unfold LIM; omega), ← lnD_app, List.append_assoc]
  rfl
theorem wl_turn0 {a0 : RS.D} {mm S T : List RS.D} {out : List (List W)} {t : List Row} {M : Mem} (h1 : atI S ((0 : Nat) : Int) = some (treeD t)) (hl2 : out.length + 1 + t.length ≤ 16000000) (hr : ∀ r ∈ t, rowOk r ∧ LnOk (rowW r)) :
    lb_law_written_1 [.val (.tup [a0, .tup mm, .tup S, .tup T]), .own (lnD out), .none, .none, .none, .val (.int ((0 : Nat) : Int))] M = .ok (.next [.val (.tup [a0, .tup mm, .tup S, .tup T]), .own (lnD (out ++ [sl "state"] :: t.map rowW)), .none, .none, .none, .val (.int ((0 : Nat) : Int))]) M := by
  have S0 := wl_state (A := .tup [a0, .tup mm, .tup S, .tup T]) (out := out) (d5 := .val (.int ((0 : Nat) : Int))) (M := M) (fi := seqE (op2 (op2 (getVar 0) (con (.int 2)) idxP) (getVar 5) idxP)) (u := t) hl2 hr (fun o => by
    rw [seqE_ap, stE_ap, op2_ap, op2_ap]
    simp only [getVar_ap, List.getElem?_cons_succ, List.getElem?_cons_zero, R.bind_ok, con_ap, idxP_tup, atI_two, h1, sto_val]
    rfl)
  unfold lb_law_written_1
  rw [seqF_ap]
  have T0 : ifF (tst (op2 (getVar 5) (con (.int 0)) gtP)) (seqF (appF 1 (op2 (con (.str "move ")) (op2 (op2 (getVar 0) (con (.int 1)) idxP) (op2 (getVar 5) (con (.int 1)) subP) idxP) addP)) (extF 1 (cmpE (seqE (op2 (op2 (getVar 0) (con (.int 3)) idxP) (op2 (getVar 5) (con (.int 1)) subP) idxP)) (tgN 4) yesT (stE (callE 1 f_law_row_line (aCons (stE (getVar 4)) aNil))) [4]))) nxt [.val (.tup [a0, .tup mm, .tup S, .tup T]), .own (lnD out), .none, .none, .none, .val (.int ((0 : Nat) : Int))] M = .ok (.next [.val (.tup [a0, .tup mm, .tup S, .tup T]), .own (lnD out), .none, .none, .none, .val (.int ((0 : Nat) : Int))]) M := by simp
  rw [T0]
  exact S0
theorem wl_turn1 {a0 : RS.D} {mm S T : List RS.D} {out : List (List W)} {j : Nat} {m : W} {ua ub : List Row} {M : Mem} (a1 : atI mm ((j : Nat) : Int) = some (.str (mk m))) (a2 : atI T ((j : Nat) : Int) = some (treeD ua)) (a3 : atI S ((j + 1 : Nat) : Int) = some (treeD ub))
    (hl2 : out.length + 2 + ua.length + ub.length ≤ 16000000) (hmv : 5 + m.length ≤ SLIM) (i1 : ∀ r ∈ ua, rowOk r ∧ LnOk (rowW r)) (i2 : ∀ r ∈ ub, rowOk r ∧ LnOk (rowW r)) :
    lb_law_written_1 [.val (.tup [a0, .tup mm, .tup S, .tup T]), .own (lnD out), .none, .none, .none, .val (.int ((j + 1 : Nat) : Int))] M = .ok (.next [.val (.tup [a0, .tup mm, .tup S, .tup T]), .own (lnD (out ++ triW (m, ua, ub))), .none, .none, .none, .val (.int ((j + 1 : Nat) : Int))]) M := by
  have z2 : (((j + 1 : Nat) : Int) - 1) = ((j : Nat) : Int) := by omega
  have S1 := wl_move (A := .tup [a0, .tup mm, .tup S, .tup T]) (out := out) (d5 := .val (.int ((j + 1 : Nat) : Int))) (M := M) (fm := op2 (op2 (getVar 0) (con (.int 1)) idxP) (op2 (getVar 5) (con (.int 1)) subP) idxP) (fi := seqE (op2 (op2 (getVar 0) (con (.int 3)) idxP) (op2 (getVar 5) (con (.int 1)) subP) idxP)) (m := m) (u := ua) (by omega) hmv i1
    (fun o => by
      rw [op2_ap, op2_ap]
      simp only [getVar_ap, List.getElem?_cons_zero, R.bind_ok, con_ap, idxP_tup, atI_one]
      rw [op2_ap]
      simp only [getVar_ap, List.getElem?_cons_succ, List.getElem?_cons_zero, R.bind_ok, con_ap, subP_int, z2, idxP_tup, a1])
    (fun o => by
      rw [seqE_ap, stE_ap, op2_ap, op2_ap]
      simp only [getVar_ap, List.getElem?_cons_zero, R.bind_ok, con_ap, idxP_tup, atI_three]
      rw [op2_ap]
      simp only [getVar_ap, List.getElem?_cons_succ, List.getElem?_cons_zero, R.bind_ok, con_ap, subP_int, z2, idxP_tup, a2, sto_val]
      rfl)
  have S2 := wl_state (A := .tup [a0, .tup mm, .tup S, .tup T]) (out := out ++ [sl "move", m] :: ua.map rowW) (d5 := .val (.int ((j + 1 : Nat) : Int))) (M := M) (fi := seqE (op2 (op2 (getVar 0) (con (.int 2)) idxP) (getVar 5) idxP)) (u := ub) (by simp; omega) i2 (fun o => by
    rw [seqE_ap, stE_ap, op2_ap, op2_ap]
    simp only [getVar_ap, List.getElem?_cons_succ, List.getElem?_cons_zero, R.bind_ok, con_ap, idxP_tup, atI_two, a3, sto_val]
    rfl)
  unfold lb_law_written_1
  rw [seqF_ap, ifF_ap]
  have T : tst (op2 (getVar 5) (con (.int 0)) gtP) [.val (.tup [a0, .tup mm, .tup S, .tup T]), .own (lnD out), .none, .none, .none, .val (.int ((j + 1 : Nat) : Int))] M = .ok true M := by
    have : (0 : Int) < ((j + 1 : Nat) : Int) := by omega
    rw [tst_ap, op2_ap]
    simp only [getVar_ap, List.getElem?_cons_succ, List.getElem?_cons_zero, R.bind_ok, con_ap, gtP_int, this, decide_true, asBool_bl]
  rw [T, R.bind_ok, if_pos rfl, S1]
  simp only
  rw [S2]
  have e : out ++ [sl "move", m] :: ua.map rowW ++ [sl "state"] :: ub.map rowW = out ++ triW (m, ua, ub) := by simp [triW]
  rw [e]
theorem course_lines_all {ms : List W} {t : List Row} {us : List (List Row)} (hu : us.length = 2 * ms.length) : answerW (.course ms (t :: us)) = ([[sl "course"]]) ++ (pairsF (none :: (triO ms us).map some) 0).flatMap (fun p => turnW p.2 t) := by
  have e0 : treesW 0 ms (t :: us) = [sl "state"] :: (t.map rowW ++ treesW 1 ms us) := by
    conv => lhs; unfold treesW
    rw [if_pos (by rfl)]
  have e1 : ∀ (l : List (W × List Row × List Row)) (n : Nat), (pairsF (l.map some) n).flatMap (fun p => turnW p.2 t) = l.flatMap triW := by
    intro l
    induction l with
    | nil => intro n; rfl
    | cons a l ih => intro n; show triW a ++ (pairsF (l.map some) (n + 1)).flatMap _ = _; rw [ih]; rfl
  show [sl "course"] :: treesW 0 ms (t :: us) = _
  rw [e0, trees_tri ms us 1 rfl hu]
  show _ = [sl "course"] :: (([sl "state"] :: t.map rowW) ++ (pairsF ((triO ms us).map some) 1).flatMap _)
  rw [e1]; rfl
theorem turn_count {t : List Row} : ∀ (l : List (Nat × Option (W × List Row × List Row))), l.length ≤ (l.flatMap (fun p => turnW p.2 t)).length
  | [] => Nat.le_refl _
  | a :: l => by
    have ih := turn_count (t := t) l
    have h1 : 1 ≤ (turnW a.2 t).length := by
      obtain ⟨k, o⟩ := a
      cases o <;> simp [turnW, triW]
    rw [List.flatMap_cons, List.length_append, List.length_cons]; omega
theorem wl_loop {a0 : RS.D} {mm S T : List RS.D} {M : Mem} {t : List Row} {tri : List (W × List Row × List Row)} (n1 : mm = tri.map fun p => RS.D.str (mk p.1)) (n2 : T = tri.map fun p => treeD p.2.1) (n3 : S = treeD t :: tri.map fun p => treeD p.2.2)
    (ht : ∀ r ∈ t, rowOk r) (htri : ∀ q ∈ tri, (∀ r ∈ q.2.1, rowOk r) ∧ ∀ r ∈ q.2.2, rowOk r) (all : List (List W)) (hall : all = ([[sl "course"]]) ++ (pairsF (none :: tri.map some) 0).flatMap (fun p => turnW p.2 t)) (hn : all.length ≤ 16000000) (hs : ∀ l ∈ all, LnOk l) :
    ∃ d5, forGo (tgN 5) lb_law_written_1 ((pairsF (none :: tri.map some) 0).map (fun p => RS.D.int ((0 : Int) + ((p.1 : Nat) : Int)))) [.val (.tup [a0, .tup mm, .tup S, .tup T]), .own (lnD [[sl "course"]]), .none, .none, .none, .none] M = .ok (.next [.val (.tup [a0, .tup mm, .tup S, .tup T]), .own (lnD all), .none, .none, .none, d5]) M := by
  have L := forGo_inv (t := tgN 5) (b := lb_law_written_1) (fun p : Nat × Option (W × List Row × List Row) => RS.D.int ((0 : Int) + ((p.1 : Nat) : Int)))
    (fun l ρ M' => (∀ p ∈ l, p ∈ pairsF (none :: tri.map some) 0) ∧ WL (.tup [a0, .tup mm, .tup S, .tup T]) M t all l ρ M')
    (fun p l ρ M' ⟨hm, hc⟩ => by
      obtain ⟨out, d5, rfl, rfl, ha⟩ := hc.h
      have hp := hm p (by simp)
      obtain ⟨k, hk1, hk2⟩ := pairs_mem _ _ _ hp
      obtain ⟨pk, po⟩ := p
      simp only [Nat.zero_add] at hk1 hk2
      subst hk1
      rw [List.flatMap_cons] at ha
      have hlen : out.length + (turnW po t).length ≤ 16000000 := by
        have := congrArg List.length ha
        simp only [List.length_append] at this hn
        omega
      have hin : ∀ l ∈ turnW po t, LnOk l := fun l' hl' => hs l' (by rw [← ha]; simp [hl'])
      refine ⟨[.val (.tup [a0, .tup mm, .tup S, .tup T]), .own (lnD out), .none, .none, .none, .val (.int ((0 : Int) + ((pk : Nat) : Int)))], [.val (.tup [a0, .tup mm, .tup S, .tup T]), .own (lnD (out ++ turnW po t)), .none, .none, .none, .val (.int ((0 : Int) + ((pk : Nat) : Int)))], M', rfl, .inl ?_, fun q hq => hm q (List.mem_cons_of_mem _ hq), ⟨⟨out ++ turnW po t, _, rfl, rfl, by rw [List.append_assoc]; exact ha⟩⟩⟩
      have z : (0 : Int) + ((pk : Nat) : Int) = ((pk : Nat) : Int) := by omega
      rw [z]
      cases po with
      | none =>
        have hk0 : pk = 0 := by
          cases pk with
          | zero => rfl
          | succ j => simp at hk2
        subst hk0
        exact wl_turn0 (atI_nat (by rw [n3]; rfl)) (by rw [turnW, List.length_cons, List.length_map] at hlen; omega) (row_lines (ls := []) ht fun l' hl' => hin l' (by unfold turnW; exact List.mem_cons_of_mem _ hl'))
      | some q =>
        obtain ⟨j, rfl⟩ : ∃ j, pk = j + 1 := by
          cases pk with
          | zero => simp at hk2
          | succ j => exact ⟨j, rfl⟩
        have hq : tri[j]? = some q := by
          simp only [List.getElem?_cons_succ, List.getElem?_map] at hk2
          cases e : tri[j]? with
          | none => rw [e] at hk2; cases hk2
          | some y => rw [e] at hk2; simpa using hk2
        obtain ⟨t2, t3⟩ := htri q (List.mem_of_getElem? hq)
        obtain ⟨m, ua, ub⟩ := q
        have hmv : 5 + m.length ≤ SLIM := by
          have := hin [sl "move", m] (by unfold turnW triW; simp)
          unfold LnOk at this
          rw [lineW_two] at this
          have e5 : (sl "move").length = 4 := by decide +kernel
          simp only [List.length_append, List.length_cons] at this
          omega
        have hl3 : (triW (m, ua, ub)).length = 2 + ua.length + ub.length := by simp [triW]; omega
        have hl4 : out.length + (triW (m, ua, ub)).length ≤ 16000000 := hlen
        exact wl_turn1 (atI_nat (by rw [n1, List.getElem?_map, hq]; rfl)) (atI_nat (by rw [n2, List.getElem?_map, hq]; rfl)) (atI_nat (by rw [n3, List.getElem?_cons_succ, List.getElem?_map, hq]; rfl)) (by omega) hmv
          (row_lines (ls := []) t2 fun l' hl' => hin l' (by unfold turnW triW; simp only [List.mem_cons, List.mem_append]; exact .inr (.inl hl')))
          (row_lines (ls := []) t3 fun l' hl' => hin l' (by unfold turnW triW; simp only [List.mem_cons, List.mem_append]; exact .inr (.inr (.inr hl')))))
    (pairsF (none :: tri.map some) 0) [.val (.tup [a0, .tup mm, .tup S, .tup T]), .own (lnD [[sl "course"]]), .none, .none, .none, .none] M ⟨fun p hp => hp, ⟨⟨_, _, rfl, rfl, hall.symm⟩⟩⟩
  obtain ⟨ρ', M', hg, _, hc⟩ := L
  obtain ⟨out, d5, rfl, rfl, ha⟩ := hc.h
  simp only [List.flatMap_nil, List.append_nil] at ha
  subst ha
  exact ⟨d5, hg⟩
theorem wl_whole {mm S T : List RS.D} {M : Mem} {n : Nat} {all : List (List W)} {d5 : Slot} (hn : n ≤ 16000000) (hS : S.length = n)
    (hg : forGo (tgN 5) lb_law_written_1 ((List.range n).map fun (k : Nat) => RS.D.int ((0 : Int) + ((0 + k : Nat) : Int))) [.val (.tup [.str "course", .tup mm, .tup S, .tup T]), .own [.str "course"], .none, .none, .none, .none] M = .ok (.next [.val (.tup [.str "course", .tup mm, .tup S, .tup T]), .own (lnD all), .none, .none, .none, d5]) M) :
    f_law_written [.tup [.str "course", .tup mm, .tup S, .tup T]] M = .ok (.own (lnD all)) M := by
  have hr : rng1 (aCons (stE (op1 (op2 (getVar 0) (con (.int 2)) idxP) lenP)) aNil) [.val (.tup [.str "course", .tup mm, .tup S, .tup T]), .own [.str "course"], .none, .none, .none, .none] M = .ok ((List.range n).map fun (k : Nat) => RS.D.int ((0 : Int) + ((0 + k : Nat) : Int))) M := by
    have c1 : ((n : Int) ≤ 16000000) := by omega
    have c2 : (-1099511627776 : Int) ≤ (n : Int) := by omega
    unfold rng1
    simp [hS, c1, c2]
  unfold f_law_written fnD b_law_written
  simp +decide [LIM]
  simp [hr]
  simp at hg
  simp [hg]
theorem m_law_written_course (ms : List W) (ts : List (List Row)) (M : Mem) (h : coOk (ms, ts)) (h2 : ts.length % 2 = 1) (hn : (answerW (.course ms ts)).length ≤ 16000000) (hs : ∀ l ∈ answerW (.course ms ts), LnOk l) :
    f_law_written [courseD ms ts] M = .ok (.own (lnD (answerW (.course ms ts)))) M := by
  obtain ⟨t, us, rfl, hu⟩ := course_split h h2
  obtain ⟨p1, p2, p3⟩ := tri_parts ms t us hu
  have hall := course_lines_all (t := t) hu
  generalize answerW (.course ms (t :: us)) = all at hn hs hall ⊢
  have hcnt := turn_count (t := t) (pairsF (none :: (triO ms us).map some) 0)
  have hpl : (pairsF (none :: (triO ms us).map some) 0).length = (triO ms us).length + 1 := by rw [pairs_len, List.length_cons, List.length_map]
  have hle : (triO ms us).length + 1 ≤ 16000000 := by
    rw [hall, List.length_append] at hn
    omega
  obtain ⟨d5, L⟩ := wl_loop (a0 := .str "course") (M := M) (mm := tx ms) (S := stD (t :: us)) (T := trD (t :: us)) (t := t) (tri := triO ms us) (by
    conv => lhs; rw [p1]
    rw [tx, List.map_map]; rfl) p2 p3 (h.2.2 t (by simp)) (fun q hq => by
      obtain ⟨_, t2, t3⟩ := tri_mem hq
      exact ⟨h.2.2 _ (List.mem_cons_of_mem _ t2), h.2.2 _ (List.mem_cons_of_mem _ t3)⟩) all hall hn hs
  rw [pairs_rangeG] at L
  have e1 : lnD [[sl "course"]] = [.str "course"] := by
    show [RS.D.str (mk (lineW [sl "course"]))] = _
    rw [lineW_one, mk_sl]
  rw [e1] at L
  exact wl_whole hle (by rw [p3, List.length_cons, List.length_map]) (by rw [List.length_cons, List.length_map] at L; exact L)
end K58
set_option Elab.async false
set_option linter.all false
set_option maxRecDepth 100000
set_option maxHeartbeats 4000000
/-! law_k58: the law's own writer, whole; _law_agrees. -/
namespace K58
open PySem L2 RS
theorem cmp_exits {A d2 d3 d5 : Slot} {out : List RS.D} {M : Mem} (es : List (W × Reason)) (he : ∀ e ∈ es, exitOk e ∧ LnOk (exitW e)) (hl : es.length ≤ SLIM) (h3 : d3 = .val (.tup (es.map exitD))) :
    cmpE (seqE (getVar 3)) (tgN 4) yesT (stE (op2 (op2 (op2 (con (.str "exit ")) (op2 (getVar 4) (con (.int 0)) idxP) addP) (con (.str " ")) addP) (callE 1 f_law_reason_line (aCons (stE (op2 (getVar 4) (con (.int 1)) idxP)) aNil)) addP)) [4] [A, .own out, d2, d3, .none, d5] M = .ok (.own (lnD (es.map exitW))) M := by
  subst h3
  have C := cmpE_plain (fi := seqE (getVar 3)) (t := tgN 4) (b := yesT) (e := stE (op2 (op2 (op2 (con (.str "exit ")) (op2 (getVar 4) (con (.int 0)) idxP) addP) (con (.str " ")) addP) (callE 1 f_law_reason_line (aCons (stE (op2 (getVar 4) (con (.int 1)) idxP)) aNil)) addP)) (vs := [4]) (ρ := [A, .own out, d2, .val (.tup (es.map exitD)), .none, d5]) (M := M) exitD (fun _ => true) (fun e => RS.D.str (mk (lineW (exitW e)))) es (by simp) hl
    (fun e hm => ⟨_, rfl, rfl, fun _ => by
      obtain ⟨h1, h2⟩ := exit_len (he e hm).2
      have G := ex_gen f_law_reason_line (mk e.1) (mk (lineW (reasonW e.2))) (reasonD e.2) (op2 (getVar 4) (con (.int 0)) idxP) (op2 (getVar 4) (con (.int 1)) idxP) [A, .own out, d2, .val (.tup (es.map exitD)), .val (exitD e), d5] M (by simp [exitD]) (by simp [exitD]) (m_law_reason_line e.2 M (he e hm).1.2 h2) (by rw [mk_len, mk_len]; exact h1)
      rw [exit_line _ _ _ rfl, ← exitW_line] at G
      show stE _ [A, .own out, d2, .val (.tup (es.map exitD)), .val (exitD e), d5] M = _
      rw [stE_ap, G]; rfl⟩)
  have hf : (es.filter fun _ => true) = es := by simp
  rw [hf] at C
  rw [C]
  unfold lnD
  rw [List.map_map]; rfl
theorem lw_block {A d2 d3 d5 : Slot} {out : List (List W)} {b : Block} {M : Mem} (hn : out.length + (blockW b).length ≤ 16000000) (hb : blockOk b) (hs : ∀ l ∈ blockW b, LnOk l) :
    lb_law_written_2 [A, .own (lnD out), .val (namesD b.1), .val (.tup (b.2.map exitD)), .none, d5] M = .ok (.next [A, .own (lnD (out ++ blockW b)), .val (namesD b.1), .val (.tup (b.2.map exitD)), .none, d5]) M := by
  have hlen : (blockW b).length = 1 + b.2.length := by simp [blockW]; omega
  rw [hlen] at hn
  have AL := at_line (gs := b.1) (ρ := [A, .own (lnD out), .val (namesD b.1), .val (.tup (b.2.map exitD)), .none, d5]) (M := M) (f := getVar 2) rfl (hs _ (by simp [blockW]))
  have a1 : appF 1 (joinE (con (.str " ")) (op2 (lstE (aCons (stE (con (.str "at"))) aNil)) (op1 (getVar 2) lstP) addP)) [A, .own (lnD out), .val (namesD b.1), .val (.tup (b.2.map exitD)), .none, d5] M = .ok (.next [A, .own (lnD (out ++ [sl "at" :: b.1])), .val (namesD b.1), .val (.tup (b.2.map exitD)), .none, d5]) M := by
    rw [appF_ap]
    simp only [List.getElem?_cons_succ, List.getElem?_cons_zero, stE_ap, AL, R.bind_ok, sto_val]
    rw [if_pos (by rw [lnD_len]; unfold LIM; omega), lnD_app]
    rfl
  have C := cmp_exits (A := A) (d2 := .val (namesD b.1)) (d5 := d5) (out := lnD (out ++ [sl "at" :: b.1])) (M := M) b.2 (fun e he => ⟨hb.2 e he, hs _ (by unfold blockW; exact List.mem_cons_of_mem _ (List.mem_map.mpr ⟨e, he, rfl⟩))⟩) (by unfold SLIM; omega) rfl
  unfold lb_law_written_2
  rw [seqF_ap, a1]
  simp only
  rw [extF_ap]
  simp only [List.getElem?_cons_succ, List.getElem?_cons_zero, C, R.bind_ok, view_own]
  rw [if_pos (by rw [lnD_len, lnD_len, List.length_append, List.length_map]; simp only [List.length_singleton]; unfold LIM; omega), ← lnD_app, List.append_assoc]
  rfl
structure WB (A d5 : Slot) (M0 : Mem) (all : List (List W)) (rest : List Block) (ρ : Sl) (M : Mem) : Prop where
  h : ∃ out d2 d3, ρ = [A, .own (lnD out), d2, d3, .none, d5] ∧ M = M0 ∧ out ++ rest.flatMap blockW = all
theorem lw_loop {A d5 : Slot} {bs : List Block} {M : Mem} (h : ∀ b ∈ bs, blockOk b) (all : List (List W)) (hall : all = [[sl "enclosure"]] ++ bs.flatMap blockW) (hn : all.length ≤ 16000000) (hs : ∀ l ∈ all, LnOk l) :
    ∃ d2 d3, forGo (tgT 2 (tgsCons (tgN 2) (tgsCons (tgN 3) tgsNil))) lb_law_written_2 (bs.map blockD) [A, .own (lnD [[sl "enclosure"]]), .none, .none, .none, d5] M = .ok (.next [A, .own (lnD all), d2, d3, .none, d5]) M := by
  have L := forGo_inv (t := tgT 2 (tgsCons (tgN 2) (tgsCons (tgN 3) tgsNil))) (b := lb_law_written_2) blockD
    (fun l ρ M' => (∀ e ∈ l, e ∈ bs) ∧ WB A d5 M all l ρ M')
    (fun b l ρ M' ⟨hm, hc⟩ => by
      obtain ⟨o, d2, d3, rfl, rfl, ha⟩ := hc.h
      have hb := hm b (by simp)
      rw [List.flatMap_cons] at ha
      have hol : o.length + (blockW b).length ≤ 16000000 := by
        have := congrArg List.length ha
        simp only [List.length_append] at this hn
        omega
      have he := lw_block (A := A) (d2 := d2) (d3 := d3) (d5 := d5) (M := M') hol (h b hb) (fun l hl => hs l (by rw [← ha]; simp [hl]))
      exact ⟨_, _, _, rfl, .inl he, fun q hq => hm q (List.mem_cons_of_mem _ hq), ⟨⟨o ++ blockW b, _, _, rfl, rfl, by rw [List.append_assoc]; exact ha⟩⟩⟩)
    bs [A, .own (lnD [[sl "enclosure"]]), .none, .none, .none, d5] M ⟨fun p hp => hp, ⟨⟨_, _, _, rfl, rfl, hall.symm⟩⟩⟩
  obtain ⟨ρ', M', hg, _, hc⟩ := L
  obtain ⟨o, d2, d3, rfl, rfl, ha⟩ := hc.h
  simp only [List.flatMap_nil, List.append_nil] at ha
  subst ha
  exact ⟨d2, d3, hg⟩
theorem lw_encl {bd : List RS.D} {M : Mem} {all : List RS.D} {d2 d3 : Slot} (hg : forGo (tgT 2 (tgsCons (tgN 2) (tgsCons (tgN 3) tgsNil))) lb_law_written_2 bd [.val (.tup [.str "enclosure", .tup bd]), .own [.str "enclosure"], .none, .none, .none, .none] M = .ok (.next [.val (.tup [.str "enclosure", .tup bd]), .own all, d2, d3, .none, .none]) M) :
    f_law_written [.tup [.str "enclosure", .tup bd]] M = .ok (.own all) M := by
  unfold f_law_written fnD b_law_written
  simp +decide [LIM]
  simp [hg]
theorem lw_spoil {q : RS.D} {z w : Str} {M : Mem} (hq : f_law_reason_line [q] M = .ok (.val (.str z)) M) (hl : 8 + z.length ≤ SLIM) (hw : Str.ofString "spoiled " ++ z = w) : f_law_written [.tup [.str "spoiled", q]] M = .ok (.own [.str w]) M := by
  have e8 : (Str.ofString "spoiled ").length = 8 := by decide +kernel
  unfold f_law_written fnD b_law_written
  simp +decide [LIM, hq, addP, e8, hl, hw]
theorem m_law_written (a : Answer) (M : Mem) (h : answerOk a) (hn : (answerW a).length ≤ 16000000) (hs : ∀ l ∈ answerW a, LnOk l) : f_law_written [answerD a] M = .ok (.own (lnD (answerW a))) M := by
  cases a with
  | course ms ts => exact m_law_written_course ms ts M h.1 h.2 hn hs
  | enclosure bs =>
    have hall : answerW (.enclosure bs) = [[sl "enclosure"]] ++ bs.flatMap blockW := by rw [← blocks_flat]; rfl
    obtain ⟨d2, d3, L⟩ := lw_loop (A := .val (enclD bs)) (d5 := .none) (M := M) h _ hall hn hs
    have e1 : lnD [[sl "enclosure"]] = [.str "enclosure"] := by
      show [RS.D.str (mk (lineW [sl "enclosure"]))] = _
      rw [lineW_one, mk_sl]
    rw [e1] at L
    exact lw_encl L
  | spoiled q =>
    have hlq : LnOk (sl "spoiled" :: reasonW q) := hs _ (by simp [answerW])
    have hne : reasonW q ≠ [] := by obtain ⟨a, b, h, _⟩ := whyW_line q; rw [h]; simp
    unfold LnOk at hlq
    rw [lineW_cons' hne] at hlq
    have e7 : (sl "spoiled").length = 7 := by decide +kernel
    have e9 : sl "spoiled " = sl "spoiled" ++ [32] := by decide +kernel
    simp only [List.length_append, List.length_cons, e7] at hlq
    have Q := m_law_reason_line q M h.1 (by omega)
    have ht : Str.ofString "spoiled " ++ mk (lineW (reasonW q)) = mk (lineW (sl "spoiled" :: reasonW q)) := by
      rw [mk_app, e9, lineW_cons' hne, List.append_assoc]; rfl
    exact lw_spoil Q (by rw [mk_len]; omega) ht
/-! ### the data of an answer are plain -/
theorem pl_tup {k : Nat} {l : List RS.D} (hl : l.length ≤ 16000000) (h : ∀ d ∈ l, Pl k d) : Pl (k + 1) (.tup l) := .tup k l hl h
theorem pl_tx {k : Nat} {ws : List W} (hl : ws.length ≤ 16000000) : Pl (k + 2) (.tup (tx ws)) := pl_tup (by rw [List.length_map]; exact hl) fun d hd => by
  obtain ⟨w, _, rfl⟩ := List.mem_map.mp hd
  exact .str _ _
theorem pl_cond (c : Cond) : Pl 2 (condD c) := by
  have h4 := posD_len c.k
  refine pl_tup (by rw [List.length_append]; simp only [List.length_singleton]; omega) fun d hd => ?_
  rcases List.mem_append.mp hd with hd | hd
  · obtain ⟨k, y⟩ := c
    cases k <;> (simp only [posD, List.mem_cons, List.not_mem_nil, or_false] at hd; rcases hd with rfl | hd; exact .str _ _; first | (rcases hd with rfl | rfl | rfl; exact .str _ _; exact .int _ _; exact .int _ _) | (rcases hd with rfl | rfl; exact .int _ _; exact .int _ _) | (subst hd; exact .str _ _))
  · have : d = .bl c.yes := by simpa using hd
    subst this; exact .bl _ _
theorem pl_row {r : Row} (hl : (rowW r).length ≤ 16000000) : Pl 3 (rowD r) := by
  cases r with
  | void =>
    refine pl_tup (by simp) fun d hd => ?_
    have : d = .str "void" := by simpa using hd
    subst this; exact .str _ _
  | shown ns =>
    refine pl_tup (by simp) fun d hd => ?_
    simp only [List.mem_cons, List.not_mem_nil, or_false] at hd
    rcases hd with rfl | rfl
    · exact .str _ _
    · refine pl_tup (by simp [rowW] at hl; rw [List.length_map]; omega) fun d hd => ?_
      obtain ⟨n, _, rfl⟩ := List.mem_map.mp hd
      exact .int _ _
  | split c =>
    refine pl_tup (by simp) fun d hd => ?_
    simp only [List.mem_cons, List.not_mem_nil, or_false] at hd
    rcases hd with rfl | rfl
    · exact .str _ _
    · exact pl_cond c
theorem pl_vis {v : Vis} (hl : v.gs.length ≤ 16000000) : Pl 3 (visD v) := pl_tup (by simp) fun d hd => by
  simp only [List.mem_cons, List.not_mem_nil, or_false] at hd
  rcases hd with rfl | rfl | rfl
  · exact .int _ _
  · exact pl_tx hl
  · exact .int _ _
theorem pl_reason {q : Reason} (hl : (reasonW q).length ≤ 16000000) : Pl 4 (reasonD q) := by
  have hg : q.v.gs.length ≤ 16000000 := by
    obtain ⟨a, b, e, _⟩ := whyW_line q
    rw [e, List.length_cons, List.length_cons, visW_len] at hl
    omega
  obtain ⟨y, v⟩ := q
  refine pl_tup (by cases y <;> simp [whyD]) fun d hd => ?_
  cases y <;> (simp only [whyD, List.mem_append, List.mem_cons, List.not_mem_nil, or_false] at hd; rcases hd with (rfl | rfl) | rfl; exact .str _ _; (first | exact .int _ _ | exact .str _ _); exact pl_vis hg)
theorem pl_tree {t : List Row} (hl : t.length ≤ 16000000) (h : ∀ r ∈ t, (rowW r).length ≤ 16000000) : Pl 4 (treeD t) := pl_tup (by rw [List.length_map]; exact hl) fun d hd => by
  obtain ⟨r, hr, rfl⟩ := List.mem_map.mp hd
  exact pl_row (h r hr)
theorem flat_len {α β : Type} (f : α → List β) : ∀ (l : List α) (a : α), a ∈ l → (f a).length ≤ (l.flatMap f).length
  | b :: l, a, h => by
    rw [List.flatMap_cons, List.length_append]
    rcases List.mem_cons.mp h with rfl | h
    · omega
    · have := flat_len f l a h; omega
theorem pl_answer {a : Answer} (h : answerOk a) (hn : (answerW a).length ≤ 16000000) (hs : ∀ l ∈ answerW a, l.length ≤ 16000000) : Pl 18 (answerD a) := by
  cases a with
  | course ms ts =>
    obtain ⟨t, us, rfl, hu⟩ := course_split h.1 h.2
    obtain ⟨p1, p2, p3⟩ := tri_parts ms t us hu
    have hall := course_lines_all (t := t) hu
    generalize answerW (.course ms (t :: us)) = all at hn hs hall
    have hcnt := turn_count (t := t) (pairsF (none :: (triO ms us).map some) 0)
    have hpl : (pairsF (none :: (triO ms us).map some) 0).length = (triO ms us).length + 1 := by rw [pairs_len, List.length_cons, List.length_map]
    have hfl : ((pairsF (none :: (triO ms us).map some) 0).flatMap (fun p => turnW p.2 t)).length ≤ 16000000 := by rw [hall, List.length_append] at hn; omega
    have hle : (triO ms us).length + 1 ≤ 16000000 := by omega
    have turns : ∀ o ∈ (none :: (triO ms us).map some), (turnW o t).length ≤ 16000000 ∧ ∀ l ∈ turnW o t, l.length ≤ 16000000 := fun o ho => by
      obtain ⟨k, hk⟩ := List.mem_iff_getElem?.mp ho
      have hp : ∀ (l : List (Option (W × List Row × List Row))) (n k : Nat) (o : Option (W × List Row × List Row)), l[k]? = some o → (n + k, o) ∈ pairsF l n := by
        intro l
        induction l with
        | nil => intro n k o h; simp at h
        | cons a l ih =>
          intro n k o h
          cases k with
          | zero => simp at h; subst h; exact List.mem_cons_self
          | succ k => exact List.mem_cons_of_mem _ (by have := ih (n + 1) k o (by simpa using h); rw [show n + (k + 1) = n + 1 + k by omega]; exact this)
      have hm := hp _ 0 k o hk
      have h1 := flat_len (fun p => turnW p.2 t) _ _ hm
      refine ⟨by simp only at h1; omega, fun l hl => hs l (by rw [hall]; exact List.mem_append_right _ (List.mem_flatMap.mpr ⟨_, hm, hl⟩))⟩
    have ht : Pl 4 (treeD t) := by
      obtain ⟨a1, a2⟩ := turns none (by simp)
      exact pl_tree (by simp [turnW] at a1; omega) fun r hr => a2 _ (by unfold turnW; exact List.mem_cons_of_mem _ (List.mem_map.mpr ⟨r, hr, rfl⟩))
    have htri : ∀ q ∈ triO ms us, Pl 4 (treeD q.2.1) ∧ Pl 4 (treeD q.2.2) := fun q hq => by
      obtain ⟨a1, a2⟩ := turns (some q) (by simp; exact hq)
      have a3 : (triW q).length ≤ 16000000 := a1
      have a4 : ∀ l ∈ triW q, l.length ≤ 16000000 := a2
      have hl3 : (triW q).length = 2 + q.2.1.length + q.2.2.length := by simp [triW]; omega
      refine ⟨pl_tree (by omega) fun r hr => a4 _ (by unfold triW; simp only [List.mem_cons, List.mem_append]; exact .inr (.inl (List.mem_map.mpr ⟨r, hr, rfl⟩))), pl_tree (by omega) fun r hr => a4 _ (by unfold triW; simp only [List.mem_cons, List.mem_append]; exact .inr (.inr (.inr (List.mem_map.mpr ⟨r, hr, rfl⟩))))⟩
    have hms : ms.length = (triO ms us).length := by
      conv => lhs; rw [p1]
      rw [List.length_map]
    refine Pl.le (k := 6) (by omega) (pl_tup (by simp) fun d hd => ?_)
    simp only [List.mem_cons, List.not_mem_nil, or_false] at hd
    rcases hd with rfl | rfl | rfl | rfl
    · exact .str _ _
    · exact pl_tx (by omega)
    · refine pl_tup (by rw [p3, List.length_cons, List.length_map]; omega) fun d hd => ?_
      rw [p3] at hd
      rcases List.mem_cons.mp hd with rfl | hd
      · exact ht
      · obtain ⟨q, hq, rfl⟩ := List.mem_map.mp hd
        exact (htri q hq).2
    · refine pl_tup (by rw [p2, List.length_map]; omega) fun d hd => ?_
      rw [p2] at hd
      obtain ⟨q, hq, rfl⟩ := List.mem_map.mp hd
      exact (htri q hq).1
  | enclosure bs =>
    have hall : answerW (.enclosure bs) = [[sl "enclosure"]] ++ bs.flatMap blockW := by rw [← blocks_flat]; rfl
    rw [hall] at hn hs
    have hcount : bs.length ≤ (bs.flatMap blockW).length := by
      have e : ∀ l : List Block, l.length ≤ (l.flatMap blockW).length := by
        intro l
        induction l with
        | nil => simp
        | cons a l ih =>
          have h1 : 1 ≤ (blockW a).length := by simp [blockW]
          rw [List.flatMap_cons, List.length_append, List.length_cons]; omega
      exact e bs
    rw [List.length_append] at hn
    refine Pl.le (k := 9) (by omega) (pl_tup (by simp) fun d hd => ?_)
    simp only [List.mem_cons, List.not_mem_nil, or_false] at hd
    rcases hd with rfl | rfl
    · exact .str _ _
    · refine pl_tup (by rw [List.length_map]; omega) fun d hd => ?_
      obtain ⟨b, hb, rfl⟩ := List.mem_map.mp hd
      have h1 := flat_len blockW bs b hb
      have h2 : ∀ l ∈ blockW b, l.length ≤ 16000000 := fun l hl => hs l (List.mem_append_right _ (List.mem_flatMap.mpr ⟨_, hb, hl⟩))
      have h3 : (blockW b).length = 1 + b.2.length := by simp [blockW]; omega
      refine pl_tup (by simp) fun d hd => ?_
      simp only [List.mem_cons, List.not_mem_nil, or_false] at hd
      rcases hd with rfl | rfl
      · have := h2 (sl "at" :: b.1) (by simp [blockW])
        exact pl_tx (by rw [List.length_cons] at this; omega)
      · refine pl_tup (by rw [List.length_map]; omega) fun d hd => ?_
        obtain ⟨e, he, rfl⟩ := List.mem_map.mp hd
        refine pl_tup (by simp) fun d hd => ?_
        simp only [List.mem_cons, List.not_mem_nil, or_false] at hd
        rcases hd with rfl | rfl
        · exact .str _ _
        · have := h2 (exitW e) (by unfold blockW; exact List.mem_cons_of_mem _ (List.mem_map.mpr ⟨e, he, rfl⟩))
          have h4 : (exitW e).length = (reasonW e.2).length + 2 := by simp [exitW]
          exact Pl.le (k := 4) (by omega) (pl_reason (by omega))
  | spoiled q =>
    have := hs (sl "spoiled" :: reasonW q) (by simp [answerW])
    rw [List.length_cons] at this
    refine Pl.le (k := 5) (by omega) (pl_tup (by simp) fun d hd => ?_)
    simp only [List.mem_cons, List.not_mem_nil, or_false] at hd
    rcases hd with rfl | rfl
    · exact .str _ _
    · exact pl_reason (by omega)
end K58
set_option Elab.async false
set_option linter.all false
set_option maxRecDepth 100000
set_option maxHeartbeats 4000000
/-! law_k58: _law_agrees. -/
namespace K58
open PySem L2 RS
theorem pl_due {t : W} (ht : t.length + 2 ≤ SLIM) : Pl 20 (dueD (readA (wordsT t))) := by
  have base : ∀ {k : Nat} {x : RS.D} {s : Str}, Pl (k + 1) x → Pl (k + 2) (.tup [.str s, x]) := fun {k x s} h => pl_tup (by simp) fun d hd => by
    simp only [List.mem_cons, List.not_mem_nil, or_false] at hd
    rcases hd with rfl | rfl
    · exact .str _ _
    · exact h
  cases h : readA (wordsT t) with
  | error e =>
    cases e with
    | line n => exact Pl.le (k := 3) (by omega) (base (base (.int 0 _)))
    | many => exact Pl.le (k := 3) (by omega) (base (base (.int 0 _)))
  | ok a =>
    obtain ⟨h1, h2, h3⟩ := readA_ok h
    have hl := splitC_len 10 t
    refine Pl.le (k := 19) (by omega) (base (k := 17) (pl_answer h1 (by rw [h2]; omega) fun l hl' => ?_))
    rw [h2] at hl'
    obtain ⟨w, hw, rfl⟩ := List.mem_map.mp hl'
    have a1 := hl.2 w hw
    have a2 := (splitC_len 32 w).1
    unfold SLIM at ht
    omega
theorem same_true {f g : FE} {ρ : Sl} {M M1 M2 : Mem} {d : RS.D} (hf : f ρ M = .ok (.val d) M1) (hg : g ρ M1 = .ok (.val d) M2) (hp : Pl 20 d) : callE 2 (f_law_same 20) (aCons (stE f) (aCons (stE g) aNil)) ρ M = .ok (.val (.bl true)) M2 := by
  have S := law_same_self 20 d hp M2
  generalize f_law_same 20 = F at S ⊢
  simp [hf, hg, S]
theorem ag_err {t : Str} {e : RS.D} {A : Slot} {M : Mem} : orV (op2 (op2 (getVar 2) (con (.int 0)) idxP) (con (.str "error")) (eqP false)) (callE 2 (f_law_same 20) (aCons (stE (callE 1 f_write_answer (aCons (stE (op2 (getVar 2) (con (.int 1)) idxP)) aNil))) (aCons (stE (getVar 1)) aNil))) [A, .val (.str t), .val (.tup [.str "error", e])] M = .ok (.val (.bl true)) M := by
  generalize f_law_same 20 = F
  simp
theorem ag_val {t : Str} {e : RS.D} {A : Slot} {M : Mem} (hw : f_write_answer [e] M = .ok (.val (.str t)) M) : orV (op2 (op2 (getVar 2) (con (.int 0)) idxP) (con (.str "error")) (eqP false)) (callE 2 (f_law_same 20) (aCons (stE (callE 1 f_write_answer (aCons (stE (op2 (getVar 2) (con (.int 1)) idxP)) aNil))) (aCons (stE (getVar 1)) aNil))) [A, .val (.str t), .val (.tup [.str "value", e])] M = .ok (.val (.bl true)) M := by
  have S := same_true (f := callE 1 f_write_answer (aCons (stE (op2 (getVar 2) (con (.int 1)) idxP)) aNil)) (g := getVar 1) (ρ := [A, .val (.str t), .val (.tup [.str "value", e])]) (M := M) (M1 := M) (M2 := M) (d := .str t) (by simp [hw]) (by simp) (.str _ _)
  rw [orV_ap]
  have c : (op2 (op2 (getVar 2) (con (.int 0)) idxP) (con (.str "error")) (eqP false)) [A, .val (.str t), .val (.tup [.str "value", e])] M = .ok (.val (.bl false)) M := by simp +decide
  rw [c, R.bind_ok]
  simp only [view_bl]
  rw [if_neg Bool.false_ne_true, S]
theorem joinE_any {f : FE} {ρ : Sl} {M : Mem} {ws : List W} (hf : f ρ M = .ok (.val (.lst (tx ws))) M) (hl : (TL.joinL [10] ws).length + 1 ≤ SLIM) : joinE (con (.str "\n")) f ρ M = .ok (.val (.str (mk (TL.joinL [10] ws)))) M := by
  cases ws with
  | nil =>
    unfold joinE
    rw [con_ap, R.bind_ok]
    simp only [view_str]
    rw [hf, R.bind_ok]
    rfl
  | cons a r => exact joinE_lst rfl sl_nl hf (by simp) hl
theorem m_agrees (rows : List W) (M : Mem) (hl : (TL.joinL [10] rows).length + 2 ≤ SLIM) : ∃ X, f_law_agrees [.lst (tx rows)] M = .ok (.val (.bl true)) (M ++ X) := by
  have hJ := joinE_any (f := getVar 0) (ρ := [.val (.lst (tx rows)), .none, .none]) (M := M) (ws := rows) rfl (by omega)
  generalize TL.joinL [10] rows = t at hl hJ
  have sp : splitE (getVar 1) (con (.str "\n")) [.val (.lst (tx rows)), .val (.str (mk t)), .none] M = .ok (.own (tx (splitC 10 t))) M := split_nl _ _ M t (by simp) hl
  have hw : ∀ l ∈ splitC 10 t, l.length + 2 ≤ SLIM := fun l hl' => by have := (splitC_len 10 t).2 l hl'; omega
  obtain ⟨X, hX⟩ := m_law_read (splitC 10 t) M (splitC_ne 10 t) hw
  have hX' : f_law_read [.lst (tx (splitC 10 t))] M = .ok (.val (dueD (readA (wordsT t)))) (M ++ X) := hX
  obtain ⟨Y, hY⟩ := m_law_call t (M ++ X) hl
  have P := pl_due hl
  have S := same_true (f := callE 1 f_law_call (aCons (stE (getVar 1)) aNil)) (g := getVar 2) (ρ := [.val (.lst (tx rows)), .val (.str (mk t)), .val (dueD (readA (wordsT t)))]) (M := M ++ X) (M1 := M ++ X ++ Y) (M2 := M ++ X ++ Y) (d := dueD (readA (wordsT t))) (by simp [hY]) (by simp) P
  have O : orV (op2 (op2 (getVar 2) (con (.int 0)) idxP) (con (.str "error")) (eqP false)) (callE 2 (f_law_same 20) (aCons (stE (callE 1 f_write_answer (aCons (stE (op2 (getVar 2) (con (.int 1)) idxP)) aNil))) (aCons (stE (getVar 1)) aNil))) [.val (.lst (tx rows)), .val (.str (mk t)), .val (dueD (readA (wordsT t)))] (M ++ X ++ Y) = .ok (.val (.bl true)) (M ++ X ++ Y) := by
    cases h : readA (wordsT t) with
    | error e => cases e <;> exact ag_err
    | ok a =>
      obtain ⟨h1, h2, h3⟩ := readA_ok h
      have ht := write_text h
      have Wr := m_write_answer a (M ++ X ++ Y) h1 (by rw [ht]; exact hl)
      rw [ht] at Wr
      exact ag_val Wr
  refine ⟨X ++ Y, ?_⟩
  rw [← List.append_assoc]
  generalize dueD (readA (wordsT t)) = d at hX' S O
  have B : b_law_agrees [.val (.lst (tx rows)), .none, .none] M = .ok (.ret (.val (.bl true))) (M ++ X ++ Y) := by
    unfold b_law_agrees
    rw [seqF_ap, setF_ap, stE_ap, hJ, R.bind_ok, sto_val, R.bind_ok]
    simp only [List.set_cons_zero, List.set_cons_succ]
    have T : callE 1 f_law_read (aCons (stE (splitE (getVar 1) (con (.str "\n")))) aNil) [.val (.lst (tx rows)), .val (.str (mk t)), .none] M = .ok (.val d) (M ++ X) := by
      rw [callE_ap, aCons_ap, stE_ap, sp, R.bind_ok, sto_own, R.bind_ok, aNil_ap, R.bind_ok, R.bind_ok]
      exact hX'
    rw [seqF_ap, setF_ap, stE_ap, T, R.bind_ok, sto_val, R.bind_ok]
    simp only [List.set_cons_zero, List.set_cons_succ]
    rw [seqF_ap, ifF_ap, notT_ap, tst_ap, S, R.bind_ok, asBool_bl, R.bind_ok, R.bind_ok, if_neg (by simp), nxt_ap]
    simp only
    rw [retF_ap, O, R.bind_ok]
  unfold f_law_agrees fnD
  show (match b_law_agrees [.val (.lst (tx rows)), .none, .none] M with | .ok (.ret x) M' => _ | .ok (.next _) M' => _ | .exn c d M' => _ | _ => _) = _
  rw [B]
end K58
set_option Elab.async false
set_option linter.all false
set_option maxRecDepth 100000
set_option maxHeartbeats 4000000
/-! law_k58: the source and its draws. -/
namespace K58
open PySem L2 RS
/-- the script's cells are below this -/
def BIG : Int := 10 ^ 320
structure Src where
  xs : List Int
  i : Nat
  n : Int
  s : Int
  k : Int
def Src.l (t : Src) : List RS.D := [.lst (t.xs.map RS.D.int), .int (t.i : Nat), .int t.n, .int t.s, .int t.k]
structure SrcOk (t : Src) : Prop where
  xs : ∀ x ∈ t.xs, 0 ≤ x ∧ x < BIG
  n : 0 ≤ t.n ∧ t.n < BIG
  s : 0 ≤ t.s ∧ t.s < 2147483647
  k : 0 ≤ t.k ∧ t.k < 16
@[simp] theorem idxP_src (l : List RS.D) (r : Mem) (i : Int) : idxP (.val (.ref 0)) (.val (.int i)) (some l :: r) = (match atI l i with | some c => .ok (.val c) (some l :: r) | none => .bad) := rfl
theorem putC_src {f : FE} {j : Nat} {ρ : Sl} {l : List RS.D} {r : Mem} {d : RS.D} (h0 : ρ[0]? = some (.val (.ref 0))) (hf : f ρ (some l :: r) = .ok (.val d) (some l :: r)) (hj : j < l.length) : putC (getVar 0) (con (.int (j : Nat))) f ρ (some l :: r) = .ok (.next ρ) (some (l.set j d) :: r) := by
  unfold putC
  rw [stE_ap, hf, R.bind_ok, sto_val, R.bind_ok, getVar_ap, h0]
  simp only [R.bind_ok, con_ap, view_int, List.getElem?_cons_zero, List.set_cons_zero]
  have : ixN l.length ((j : Nat) : Int) = some j := by
    unfold ixN
    rw [if_pos (by omega), if_pos (by omega)]
    simp
  rw [this]
theorem mulP_ok {i j : Int} {M : Mem} (h : CMulW i j) : mulP (.val (.int i)) (.val (.int j)) M = .ok (.val (.int (i * j))) M := by
  unfold mulP
  simp only [view_int]
  rw [if_pos h]
theorem modP_ok {i j : Int} {M : Mem} (h : j ≠ 0) : modP (.val (.int i)) (.val (.int j)) M = .ok (.val (.int (i.fmod j))) M := by
  unfold modP intP
  simp only [view_int]
  rw [if_pos h]
theorem divP_ok {i j : Int} {M : Mem} (h : CDivN i j) : divP (.val (.int i)) (.val (.int j)) M = .ok (.val (.int (i.fdiv j))) M := by
  unfold divP intP
  simp only [view_int]
  rw [if_pos h]
theorem powP_ok {i j : Int} {M : Mem} (h : CPow i j) : powP (.val (.int i)) (.val (.int j)) M = .ok (.val (.int (i ^ j.toNat))) M := by
  unfold powP intP
  simp only [view_int]
  rw [if_pos h]
@[simp] theorem addP_int (i j : Int) (M : Mem) : addP (.val (.int i)) (.val (.int j)) M = .ok (.val (.int (i + j))) M := rfl
theorem big_log {x : Int} (h0 : 0 ≤ x) (h : x < BIG) : x.natAbs < 2 ^ 1100 := by
  have : BIG ≤ 2 ^ 1100 := by unfold BIG; decide +kernel
  have h2 : x < 2 ^ 1100 := Int.lt_of_lt_of_le h this
  have e : ((x.natAbs : Nat) : Int) = x := by omega
  have e2 : (((2 : Nat) ^ 1100 : Nat) : Int) = (2 : Int) ^ 1100 := by norm_cast
  rw [← e, ← e2] at h2
  exact Int.ofNat_lt.mp h2
theorem small_log {x : Int} {m : Nat} (h : x.natAbs < m) (hm : m ≤ 2 ^ 1100) : x.natAbs < 2 ^ 1100 := Nat.lt_of_lt_of_le h hm
theorem mulW_ok {i j : Int} (hi : i.natAbs < 2 ^ 1100) (hj : j.natAbs < 2 ^ 1100) : CMulW i j := wide_mul hi hj (by decide) (by decide) (by decide)
theorem nat_log {x : Int} (h0 : 0 ≤ x) (h : x < 1000000000000) : x.natAbs < 2 ^ 1100 := by
  have h1 : x.natAbs < 2 ^ 40 := by
    have : (2 : Nat) ^ 40 = 1099511627776 := by decide +kernel
    omega
  exact Nat.lt_of_lt_of_le h1 (Nat.pow_le_pow_right (by decide) (by decide))
def dr1 : FS := (ifF (andT (tst (op2 (op2 (getVar 0) (con (.int 2)) idxP) (con (.int 0)) (eqP false))) (tst (op2 (op2 (getVar 0) (con (.int 1)) idxP) (op1 (op2 (getVar 0) (con (.int 0)) idxP) lenP) ltP)))
 (seqF (setF 2 (op2 (op2 (getVar 0) (con (.int 0)) idxP) (op2 (getVar 0) (con (.int 1)) idxP) idxP))
 (seqF (putC (getVar 0) (con (.int 1)) (op2 (op2 (getVar 0) (con (.int 1)) idxP) (con (.int 1)) addP))
 (seqF (putC (getVar 0) (con (.int 3)) (op2 (op1 (op2 (op2 (op2 (getVar 0) (con (.int 3)) idxP) (con (.int 48271)) mulP) (getVar 2) addP) intOf) (con (.int 2147483647)) modP))
 (putC (getVar 0) (con (.int 2)) (op2 (getVar 2) (op1 (op2 (getVar 2) (op2 (con (.int 10)) (con (.int 18)) powP) geP) intOf) mulP)))))
 nxt)
def dr2 : FS := (ifF (tst (op2 (op2 (getVar 0) (con (.int 2)) idxP) (con (.int 0)) gtP))
 (seqF (setF 3 (op2 (op1 (op2 (getVar 0) (con (.int 2)) idxP) intOf) (getVar 1) modP))
 (seqF (putC (getVar 0) (con (.int 2)) (op2 (op2 (getVar 0) (con (.int 2)) idxP) (getVar 1) divP))
 (retF (getVar 3))))
 nxt)
def dr3 : FS := (seqF (putC (getVar 0) (con (.int 3)) (op2 (op1 (op2 (op2 (op2 (getVar 0) (con (.int 3)) idxP) (con (.int 69621)) mulP) (con (.int 11)) addP) intOf) (con (.int 2147483647)) modP))
 (retF (op2 (op1 (op2 (op2 (getVar 0) (con (.int 3)) idxP) (con (.int 64)) divP) intOf) (getVar 1) modP)))
theorem draw_is : b_law_draw = seqF dr1 (seqF dr2 dr3) := rfl
theorem fmod_in (x : Int) {L : Int} (h : 0 < L) : 0 ≤ x.fmod L ∧ x.fmod L < L := ⟨Int.fmod_nonneg_of_pos x h, Int.fmod_lt_of_pos x h⟩
theorem ge_any {ρ : Sl} {M : Mem} {x : Int} (h2 : ρ[2]? = some (.val (.int x))) : ∃ b : Bool, (op2 (getVar 2) (op2 (con (.int 10)) (con (.int 18)) powP) geP) ρ M = .ok (.val (.bl b)) M := by
  refine ⟨decide ((10 : Int) ^ (18 : Int).toNat ≤ x), ?_⟩
  rw [op2_ap, getVar_ap, h2]
  simp only [R.bind_ok, op2_ap, con_ap]
  rw [powP_ok (by unfold CPow; decide)]
  rfl
theorem dr1_ok (t : Src) (h : SrcOk t) (L : Int) (rest : Mem) : ∃ t' c2, SrcOk t' ∧ dr1 [.val (.ref 0), .val (.int L), .none, .none] (some t.l :: rest) = .ok (.next [.val (.ref 0), .val (.int L), c2, .none]) (some t'.l :: rest) := by
  by_cases hc : t.n = 0 ∧ t.i < t.xs.length
  · obtain ⟨h1, h2⟩ := hc
    obtain ⟨xs, i, n, s, k⟩ := t
    simp only at h1 h2
    subst h1
    have hx := h.xs xs[i] (List.getElem_mem h2)
    have hx0 : xs[i].natAbs < 2 ^ 1100 := big_log hx.1 hx.2
    have hs := h.s
    simp only at hs
    have hs0 : s.natAbs < 2 ^ 1100 := nat_log hs.1 (by omega)
    have hi : atI (xs.map RS.D.int) ((i : Nat) : Int) = some (.int xs[i]) := atI_nat (by rw [List.getElem?_map, List.getElem?_eq_getElem h2]; rfl)
    generalize hX : xs[i] = x at hx hx0 hi
    have T : andT (tst (op2 (op2 (getVar 0) (con (.int 2)) idxP) (con (.int 0)) (eqP false))) (tst (op2 (op2 (getVar 0) (con (.int 1)) idxP) (op1 (op2 (getVar 0) (con (.int 0)) idxP) lenP) ltP)) [.val (.ref 0), .val (.int L), .none, .none] (some (Src.l ⟨xs, i, 0, s, k⟩) :: rest) = .ok true (some (Src.l ⟨xs, i, 0, s, k⟩) :: rest) := by
      have : ((i : Nat) : Int) < (xs.length : Int) := by omega
      simp [Src.l, this]
    have S1 : setF 2 (op2 (op2 (getVar 0) (con (.int 0)) idxP) (op2 (getVar 0) (con (.int 1)) idxP) idxP) [.val (.ref 0), .val (.int L), .none, .none] (some (Src.l ⟨xs, i, 0, s, k⟩) :: rest) = .ok (.next [.val (.ref 0), .val (.int L), .val (.int x), .none]) (some (Src.l ⟨xs, i, 0, s, k⟩) :: rest) := by
      simp [Src.l, hi]
    have S2 := putC_src (f := op2 (op2 (getVar 0) (con (.int 1)) idxP) (con (.int 1)) addP) (j := 1) (ρ := [.val (.ref 0), .val (.int L), .val (.int x), .none]) (l := Src.l ⟨xs, i, 0, s, k⟩) (r := rest) (d := .int ((i + 1 : Nat) : Int)) rfl (by simp [Src.l]) (by simp [Src.l])
    have S3 := putC_src (f := op2 (op1 (op2 (op2 (op2 (getVar 0) (con (.int 3)) idxP) (con (.int 48271)) mulP) (getVar 2) addP) intOf) (con (.int 2147483647)) modP) (j := 3) (ρ := [.val (.ref 0), .val (.int L), .val (.int x), .none]) (l := Src.l ⟨xs, i + 1, 0, s, k⟩) (r := rest) (d := .int ((s * 48271 + x).fmod 2147483647)) rfl (by
      have m := mulP_ok (i := s) (j := 48271) (M := some (Src.l ⟨xs, i + 1, 0, s, k⟩) :: rest) (mulW_ok hs0 (nat_log (by decide) (by decide)))
      have m2 := modP_ok (i := s * 48271 + x) (j := 2147483647) (M := some (Src.l ⟨xs, i + 1, 0, s, k⟩) :: rest) (by decide)
      simp only [op2_ap, op1_ap, getVar_ap, List.getElem?_cons_zero, R.bind_ok, con_ap, idxP_src]
      have a3 : atI (Src.l ⟨xs, i + 1, 0, s, k⟩) 3 = some (.int s) := rfl
      rw [a3]
      simp only [R.bind_ok]
      rw [m]
      simp only [List.getElem?_cons_succ, List.getElem?_cons_zero, R.bind_ok, addP_int, intOf_int]
      exact m2) (by simp [Src.l])
    obtain ⟨b, hb⟩ := ge_any (ρ := [.val (.ref 0), .val (.int L), .val (.int x), .none]) (M := some (Src.l ⟨xs, i + 1, 0, (s * 48271 + x).fmod 2147483647, k⟩) :: rest) (x := x) rfl
    have S4 := putC_src (f := op2 (getVar 2) (op1 (op2 (getVar 2) (op2 (con (.int 10)) (con (.int 18)) powP) geP) intOf) mulP) (j := 2) (ρ := [.val (.ref 0), .val (.int L), .val (.int x), .none]) (l := Src.l ⟨xs, i + 1, 0, (s * 48271 + x).fmod 2147483647, k⟩) (r := rest) (d := .int (x * (if b then 1 else 0))) rfl (by
      rw [op2_ap, getVar_ap]
      simp only [List.getElem?_cons_succ, List.getElem?_cons_zero, R.bind_ok]
      rw [op1_ap, hb, R.bind_ok, intOf_bl, R.bind_ok]
      exact mulP_ok (mulW_ok hx0 (by cases b <;> exact nat_log (by decide) (by decide)))) (by simp [Src.l])
    refine ⟨⟨xs, i + 1, x * (if b then 1 else 0), (s * 48271 + x).fmod 2147483647, k⟩, .val (.int x), ⟨h.xs, ?_, fmod_in _ (by decide), h.k⟩, ?_⟩
    · have hB : 0 < BIG := by unfold BIG; decide +kernel
      cases b with
      | true => simp; exact hx
      | false => simp; exact hB
    · unfold dr1
      rw [ifF_ap, T, R.bind_ok, if_pos rfl, seqF_ap, S1]
      simp only
      rw [seqF_ap, show (RS.D.int 1) = RS.D.int ((1 : Nat) : Int) from rfl]
      have e1 : (Src.l ⟨xs, i, 0, s, k⟩).set 1 (.int ((i + 1 : Nat) : Int)) = Src.l ⟨xs, i + 1, 0, s, k⟩ := rfl
      rw [e1] at S2
      have e2 : (Src.l ⟨xs, i + 1, 0, s, k⟩).set 3 (.int ((s * 48271 + x).fmod 2147483647)) = Src.l ⟨xs, i + 1, 0, (s * 48271 + x).fmod 2147483647, k⟩ := rfl
      rw [e2] at S3
      have e3 : (Src.l ⟨xs, i + 1, 0, (s * 48271 + x).fmod 2147483647, k⟩).set 2 (.int (x * (if b then 1 else 0))) = Src.l ⟨xs, i + 1, x * (if b then 1 else 0), (s * 48271 + x).fmod 2147483647, k⟩ := rfl
      rw [e3] at S4
      have S2' : putC (getVar 0) (con (RS.D.int ((1 : Nat) : Int))) (op2 (op2 (getVar 0) (con (RS.D.int ((1 : Nat) : Int))) idxP) (con (RS.D.int ((1 : Nat) : Int))) addP) [.val (.ref 0), .val (.int L), .val (.int x), .none] (some (Src.l ⟨xs, i, 0, s, k⟩) :: rest) = _ := S2
      rw [S2']
      simp only
      rw [seqF_ap]
      have S3' : putC (getVar 0) (con (RS.D.int 3)) (op2 (op1 (op2 (op2 (op2 (getVar 0) (con (.int 3)) idxP) (con (.int 48271)) mulP) (getVar 2) addP) intOf) (con (.int 2147483647)) modP) [.val (.ref 0), .val (.int L), .val (.int x), .none] (some (Src.l ⟨xs, i + 1, 0, s, k⟩) :: rest) = _ := S3
      rw [S3']
      simp only
      exact S4
  · refine ⟨t, .none, h, ?_⟩
    have T : andT (tst (op2 (op2 (getVar 0) (con (.int 2)) idxP) (con (.int 0)) (eqP false))) (tst (op2 (op2 (getVar 0) (con (.int 1)) idxP) (op1 (op2 (getVar 0) (con (.int 0)) idxP) lenP) ltP)) [.val (.ref 0), .val (.int L), .none, .none] (some t.l :: rest) = .ok false (some t.l :: rest) := by
      by_cases h0 : t.n = 0
      · have h1 : ¬ t.i < t.xs.length := fun z => hc ⟨h0, z⟩
        simp [Src.l, h0]
        omega
      · simp [Src.l, h0]
    unfold dr1
    rw [ifF_ap, T, R.bind_ok, if_neg Bool.false_ne_true, nxt_ap]
theorem m_draw (t : Src) (h : SrcOk t) (L : Int) (h0 : 0 < L) (h1 : L < 1000000000) (rest : Mem) : ∃ t' r, SrcOk t' ∧ (0 ≤ r ∧ r < L) ∧ f_law_draw [.ref 0, .int L] (some t.l :: rest) = .ok (.val (.int r)) (some t'.l :: rest) := by
  obtain ⟨t1, c2, k1, e1⟩ := dr1_ok t h L rest
  have fin : ∀ t' r, SrcOk t' → (0 ≤ r ∧ r < L) → seqF dr2 dr3 [.val (.ref 0), .val (.int L), c2, .none] (some t1.l :: rest) = .ok (.ret (.val (.int r))) (some t'.l :: rest) → ∃ t' r, SrcOk t' ∧ (0 ≤ r ∧ r < L) ∧ f_law_draw [.ref 0, .int L] (some t.l :: rest) = .ok (.val (.int r)) (some t'.l :: rest) := fun t' r a b c => by
    refine ⟨t', r, a, b, ?_⟩
    have B : b_law_draw [.val (.ref 0), .val (.int L), .none, .none] (some t.l :: rest) = .ok (.ret (.val (.int r))) (some t'.l :: rest) := by
      rw [draw_is, seqF_ap, e1]
      exact c
    unfold f_law_draw fnD
    show (match b_law_draw [.val (.ref 0), .val (.int L), .none, .none] (some t.l :: rest) with | .ok (.ret x) M' => _ | .ok (.next _) M' => _ | .exn c d M' => _ | _ => _) = _
    rw [B]
  obtain ⟨xs, i, n, s, k⟩ := t1
  have hs := k1.s
  simp only at hs
  have hs0 : s.natAbs < 2 ^ 1100 := nat_log hs.1 (by omega)
  have hn := k1.n
  simp only at hn
  have cd : CDivN n L := ⟨by omega, by omega⟩
  by_cases hp : 0 < n
  · refine fin ⟨xs, i, n.fdiv L, s, k⟩ (n.fmod L) ⟨k1.xs, ?_, k1.s, k1.k⟩ (fmod_in _ h0) ?_
    · simp only
      rw [Int.fdiv_eq_ediv_of_nonneg _ (by omega)]
      exact ⟨Int.ediv_nonneg hn.1 (by omega), Int.lt_of_le_of_lt (Int.ediv_le_self L hn.1) hn.2⟩
    · have T : tst (op2 (op2 (getVar 0) (con (.int 2)) idxP) (con (.int 0)) gtP) [.val (.ref 0), .val (.int L), c2, .none] (some (Src.l ⟨xs, i, n, s, k⟩) :: rest) = .ok true (some (Src.l ⟨xs, i, n, s, k⟩) :: rest) := by simp [Src.l, hp]
      have S1 : setF 3 (op2 (op1 (op2 (getVar 0) (con (.int 2)) idxP) intOf) (getVar 1) modP) [.val (.ref 0), .val (.int L), c2, .none] (some (Src.l ⟨xs, i, n, s, k⟩) :: rest) = .ok (.next [.val (.ref 0), .val (.int L), c2, .val (.int (n.fmod L))]) (some (Src.l ⟨xs, i, n, s, k⟩) :: rest) := by
        have m2 := modP_ok (i := n) (j := L) (M := some (Src.l ⟨xs, i, n, s, k⟩) :: rest) (by omega)
        have a2 : atI (Src.l ⟨xs, i, n, s, k⟩) 2 = some (.int n) := rfl
        simp [a2, m2]
      have S2 := putC_src (f := op2 (op2 (getVar 0) (con (.int 2)) idxP) (getVar 1) divP) (j := 2) (ρ := [.val (.ref 0), .val (.int L), c2, .val (.int (n.fmod L))]) (l := Src.l ⟨xs, i, n, s, k⟩) (r := rest) (d := .int (n.fdiv L)) rfl (by
        have m2 := divP_ok (i := n) (j := L) (M := some (Src.l ⟨xs, i, n, s, k⟩) :: rest) cd
        have a2 : atI (Src.l ⟨xs, i, n, s, k⟩) 2 = some (.int n) := rfl
        simp [a2, m2]) (by simp [Src.l])
      have S2' : putC (getVar 0) (con (RS.D.int 2)) (op2 (op2 (getVar 0) (con (.int 2)) idxP) (getVar 1) divP) [.val (.ref 0), .val (.int L), c2, .val (.int (n.fmod L))] (some (Src.l ⟨xs, i, n, s, k⟩) :: rest) = _ := S2
      rw [seqF_ap]
      unfold dr2
      rw [ifF_ap, T, R.bind_ok, if_pos rfl, seqF_ap, S1]
      simp only
      rw [seqF_ap, S2']
      simp
      rfl
  · refine fin ⟨xs, i, n, (s * 69621 + 11).fmod 2147483647, k⟩ ((((s * 69621 + 11).fmod 2147483647).fdiv 64).fmod L) ⟨k1.xs, k1.n, fmod_in _ (by decide), k1.k⟩ (fmod_in _ h0) ?_
    have T : tst (op2 (op2 (getVar 0) (con (.int 2)) idxP) (con (.int 0)) gtP) [.val (.ref 0), .val (.int L), c2, .none] (some (Src.l ⟨xs, i, n, s, k⟩) :: rest) = .ok false (some (Src.l ⟨xs, i, n, s, k⟩) :: rest) := by
      simp [Src.l]
      omega
    have S3 := putC_src (f := op2 (op1 (op2 (op2 (op2 (getVar 0) (con (.int 3)) idxP) (con (.int 69621)) mulP) (con (.int 11)) addP) intOf) (con (.int 2147483647)) modP) (j := 3) (ρ := [.val (.ref 0), .val (.int L), c2, .none]) (l := Src.l ⟨xs, i, n, s, k⟩) (r := rest) (d := .int ((s * 69621 + 11).fmod 2147483647)) rfl (by
      have m := mulP_ok (i := s) (j := 69621) (M := some (Src.l ⟨xs, i, n, s, k⟩) :: rest) (mulW_ok hs0 (nat_log (by decide) (by decide)))
      have m2 := modP_ok (i := s * 69621 + 11) (j := 2147483647) (M := some (Src.l ⟨xs, i, n, s, k⟩) :: rest) (by decide)
      simp only [op2_ap, op1_ap, getVar_ap, List.getElem?_cons_zero, R.bind_ok, con_ap, idxP_src]
      have a3 : atI (Src.l ⟨xs, i, n, s, k⟩) 3 = some (.int s) := rfl
      rw [a3]
      simp only [R.bind_ok]
      rw [m]
      simp only [List.getElem?_cons_succ, List.getElem?_cons_zero, R.bind_ok, addP_int, intOf_int]
      exact m2) (by simp [Src.l])
    generalize (s * 69621 + 11).fmod 2147483647 = s' at S3 ⊢
    have S3' : putC (getVar 0) (con (RS.D.int 3)) (op2 (op1 (op2 (op2 (op2 (getVar 0) (con (.int 3)) idxP) (con (.int 69621)) mulP) (con (.int 11)) addP) intOf) (con (.int 2147483647)) modP) [.val (.ref 0), .val (.int L), c2, .none] (some (Src.l ⟨xs, i, n, s, k⟩) :: rest) = .ok (.next [.val (.ref 0), .val (.int L), c2, .none]) (some (Src.l ⟨xs, i, n, s', k⟩) :: rest) := S3
    rw [seqF_ap]
    unfold dr2
    rw [ifF_ap, T, R.bind_ok, if_neg Bool.false_ne_true, nxt_ap]
    simp only
    unfold dr3
    rw [seqF_ap, S3']
    simp only
    have m1 := divP_ok (i := s') (j := 64) (M := some (Src.l ⟨xs, i, n, s', k⟩) :: rest) ⟨by decide, by decide⟩
    have m2 := modP_ok (i := s'.fdiv 64) (j := L) (M := some (Src.l ⟨xs, i, n, s', k⟩) :: rest) (by omega)
    have a3 : atI (Src.l ⟨xs, i, n, s', k⟩) 3 = some (.int s') := rfl
    simp [a3, m1, m2]
end K58
set_option Elab.async false
set_option linter.all false
set_option maxRecDepth 100000
set_option maxHeartbeats 4000000
/-! law_k58: the source made; names drawn. -/
namespace K58
open PySem L2 RS
/-- what draws from the source, and what it gives -/
def Gen (F : Mem → R Val) (P : Val → Prop) : Prop := ∀ t rest, SrcOk t → ∃ t' v, SrcOk t' ∧ P v ∧ F (some t.l :: rest) = .ok v (some t'.l :: rest)
theorem g_draw {L : Int} (h0 : 0 < L) (h1 : L < 1000000000) : Gen (f_law_draw [.ref 0, .int L]) (fun v => ∃ r, v = .val (.int r) ∧ 0 ≤ r ∧ r < L) := fun t rest h => by
  obtain ⟨t', r, a, b, c⟩ := m_draw t h L h0 h1 rest
  exact ⟨t', _, a, ⟨r, rfl, b⟩, c⟩
/-- a memory that is a source and what else there is -/
def IsSrc (rest : Mem) (M : Mem) : Prop := ∃ t, SrcOk t ∧ M = some t.l :: rest
theorem Gen.at {F : Mem → R Val} {P : Val → Prop} (g : Gen F P) {rest M : Mem} (h : IsSrc rest M) : ∃ v M', IsSrc rest M' ∧ P v ∧ F M = .ok v M' := by
  obtain ⟨t, k, rfl⟩ := h
  obtain ⟨t', v, a, b, c⟩ := g t rest k
  exact ⟨v, _, ⟨t', a, rfl⟩, b, c⟩
theorem putC_gen {fo f : FE} {j : Nat} {ρ : Sl} {l l2 : List RS.D} {r r2 : Mem} {d : RS.D} (hf : f ρ (some l :: r) = .ok (.val d) (some l2 :: r2)) (h0 : fo ρ (some l2 :: r2) = .ok (.val (.ref 0)) (some l2 :: r2)) (hj : j < l2.length) : putC fo (con (.int (j : Nat))) f ρ (some l :: r) = .ok (.next ρ) (some (l2.set j d) :: r2) := by
  unfold putC
  rw [stE_ap, hf, R.bind_ok, sto_val, R.bind_ok, h0]
  simp only [R.bind_ok, con_ap, view_int, List.getElem?_cons_zero, List.set_cons_zero]
  have : ixN l2.length ((j : Nat) : Int) = some j := by
    unfold ixN
    rw [if_pos (by omega), if_pos (by omega)]
    simp
  rw [this]
/-- the great number -/
def P64 : Int := (10 : Int) ^ (64 : Int).toNat
theorem p64_log : P64.natAbs < 2 ^ 220 := by decide +kernel
theorem p64_big : P64 * P64 * P64 * P64 * P64 = BIG := by unfold BIG; decide +kernel
theorem src_great {ρ : Sl} {M : Mem} : (op2 (op2 (op2 (op2 (op2 (con (.int 10)) (con (.int 64)) powP) (op2 (con (.int 10)) (con (.int 64)) powP) mulP) (op2 (con (.int 10)) (con (.int 64)) powP) mulP) (op2 (con (.int 10)) (con (.int 64)) powP) mulP) (op2 (con (.int 10)) (con (.int 64)) powP) mulP) ρ M = .ok (.val (.int BIG)) M := by
  have h : (op2 (con (.int 10)) (con (.int 64)) powP) ρ M = .ok (.val (.int P64)) M := by
    rw [op2_ap, con_ap, R.bind_ok, con_ap, R.bind_ok]
    exact powP_ok (by unfold CPow; decide)
  have p1 := p64_log
  have p2 := wide_lt p1 p1
  have p3 := wide_lt p2 p1
  have p4 := wide_lt p3 p1
  rw [op2_ap, op2_ap, op2_ap, op2_ap, h]
  simp only [R.bind_ok]
  rw [h, R.bind_ok, mulP_ok (wide_mul p1 p1 (by decide) (by decide) (by decide)), R.bind_ok]
  rw [h, R.bind_ok, mulP_ok (wide_mul p2 p1 (by decide) (by decide) (by decide)), R.bind_ok]
  rw [h, R.bind_ok, mulP_ok (wide_mul p3 p1 (by decide) (by decide) (by decide)), R.bind_ok]
  rw [h, R.bind_ok, mulP_ok (wide_mul p4 p1 (by decide) (by decide) (by decide)), p64_big]
theorem big_pos : 0 < BIG := by unfold BIG; decide +kernel
theorem m_law_source (ns : List Int) (hl : ns.length ≤ 63) : ∃ t, SrcOk t ∧ f_law_source [.scr ns] [] = .ok (.val (.ref 0)) [some t.l] := by
  have hb : BIG ≠ 0 := by have := big_pos; omega
  have hc : (cutL ns none (some 63)).length ≤ SLIM := by have := cutL_len ns none (some 63); unfold SLIM; omega
  have C := cmpE_plain (fi := seqE (slE (getVar 0) (fun _ M => .ok none M) (ixO (con (.int 63))))) (t := tgN 3) (b := yesT) (e := stE (op2 (op1 (getVar 3) intOf) (getVar 1) modP)) (vs := [3]) (ρ := [.val (.scr ns), .val (.int BIG), .none, .none]) (M := []) (fun x : Int => RS.D.int x) (fun _ => true) (fun x => RS.D.int (x.fmod BIG)) (cutL ns none (some 63)) (by
    have : slP (.val (.scr ns)) none (some 63) [] = .ok (.own ((cutL ns none (some 63)).map RS.D.int)) [] := rfl
    rw [seqE_ap, stE_ap, slE_ap, getVar_ap]
    simp only [List.getElem?_cons_zero, R.bind_ok, ixO_ap, con_ap, asInt_int, this, sto_own, items_lst]) hc
    (fun x _ => ⟨_, rfl, rfl, fun _ => by
      show stE (op2 (op1 (getVar 3) intOf) (getVar 1) modP) [.val (.scr ns), .val (.int BIG), .none, .val (.int x)] [] = _
      have m := modP_ok (i := x) (j := BIG) (M := []) hb
      rw [stE_ap, op2_ap, op1_ap, getVar_ap]
      simp only [List.getElem?_cons_succ, List.getElem?_cons_zero, R.bind_ok, intOf_int, getVar_ap, m, sto_val]⟩)
  have hf : ((cutL ns none (some 63)).filter fun _ => true) = cutL ns none (some 63) := by simp
  rw [hf] at C
  have hx : ∀ x ∈ (cutL ns none (some 63)).map (fun x => x.fmod BIG), 0 ≤ x ∧ x < BIG := fun x hx => by
    obtain ⟨y, _, rfl⟩ := List.mem_map.mp hx
    exact fmod_in y big_pos
  generalize hxs : (cutL ns none (some 63)).map (fun x => x.fmod BIG) = xs at hx
  have C' : cmpE (seqE (slE (getVar 0) (fun _ M => .ok none M) (ixO (con (.int 63))))) (tgN 3) yesT (stE (op2 (op1 (getVar 3) intOf) (getVar 1) modP)) [3] [.val (.scr ns), .val (.int BIG), .none, .none] [] = .ok (.own (xs.map RS.D.int)) [] := by
    rw [C, ← hxs, List.map_map]; rfl
  have k0 : SrcOk ⟨xs, 0, 0, 20011, 0⟩ := ⟨hx, ⟨Int.le_refl _, big_pos⟩, ⟨(by decide : (0 : Int) ≤ 20011), (by decide : (20011 : Int) < 2147483647)⟩, ⟨(by decide : (0 : Int) ≤ 0), (by decide : (0 : Int) < 16)⟩⟩
  obtain ⟨t1, r, k1, hr, e1⟩ := m_draw ⟨xs, 0, 0, 20011, 0⟩ k0 16 (by decide) (by decide) []
  refine ⟨⟨t1.xs, t1.i, t1.n, t1.s, r⟩, ⟨k1.xs, k1.n, k1.s, hr⟩, ?_⟩
  have S1 : setF 1 (op2 (op2 (op2 (op2 (op2 (con (.int 10)) (con (.int 64)) powP) (op2 (con (.int 10)) (con (.int 64)) powP) mulP) (op2 (con (.int 10)) (con (.int 64)) powP) mulP) (op2 (con (.int 10)) (con (.int 64)) powP) mulP) (op2 (con (.int 10)) (con (.int 64)) powP) mulP) [.val (.scr ns), .none, .none, .none] [] = .ok (.next [.val (.scr ns), .val (.int BIG), .none, .none]) [] := by
    rw [setF_ap, stE_ap, src_great, R.bind_ok, sto_val, R.bind_ok]; rfl
  have S2 : cellF 2 (lstE (aCons (stE (cmpE (seqE (slE (getVar 0) (fun _ M => .ok none M) (ixO (con (.int 63))))) (tgN 3) yesT (stE (op2 (op1 (getVar 3) intOf) (getVar 1) modP)) [3])) (aCons (stE (con (.int 0))) (aCons (stE (con (.int 0))) (aCons (stE (con (.int 20011))) (aCons (stE (con (.int 0))) aNil)))))) [.val (.scr ns), .val (.int BIG), .none, .none] [] = .ok (.next [.val (.scr ns), .val (.int BIG), .val (.ref 0), .none]) [some (Src.l ⟨xs, 0, 0, 20011, 0⟩)] := by
    rw [cellF_ap, lstE_ap, aCons_ap, stE_ap, C']
    simp +decide [Src.l]
  have S3 := putC_gen (fo := getVar 2) (f := callE 2 f_law_draw (aCons (stE (getVar 2)) (aCons (stE (con (.int 16))) aNil))) (j := 4) (ρ := [.val (.scr ns), .val (.int BIG), .val (.ref 0), .none]) (l := Src.l ⟨xs, 0, 0, 20011, 0⟩) (l2 := t1.l) (r := []) (r2 := []) (d := .int r) (by simp [e1]) rfl (by simp [Src.l])
  have S3' : putC (getVar 2) (con (.int 4)) (callE 2 f_law_draw (aCons (stE (getVar 2)) (aCons (stE (con (.int 16))) aNil))) [.val (.scr ns), .val (.int BIG), .val (.ref 0), .none] [some (Src.l ⟨xs, 0, 0, 20011, 0⟩)] = .ok (.next [.val (.scr ns), .val (.int BIG), .val (.ref 0), .none]) [some (Src.l ⟨t1.xs, t1.i, t1.n, t1.s, r⟩)] := S3
  have B : b_law_source [.val (.scr ns), .none, .none, .none] [] = .ok (.ret (.val (.ref 0))) [some (Src.l ⟨t1.xs, t1.i, t1.n, t1.s, r⟩)] := by
    unfold b_law_source
    rw [seqF_ap, S1]
    simp only
    rw [seqF_ap, S2]
    simp only
    rw [seqF_ap, S3']
    simp
  unfold f_law_source fnD
  show (match b_law_source [.val (.scr ns), .none, .none, .none] [] with | .ok (.ret x) M' => _ | .ok (.next _) M' => _ | .exn c d M' => _ | _ => _) = _
  rw [B]
end K58
set_option Elab.async false
set_option linter.all false
set_option maxRecDepth 100000
set_option maxHeartbeats 4000000
/-! law_k58: names drawn. -/
namespace K58
open PySem L2 RS
theorem mk_cutS (w : W) (lo hi : Option Int) : cutS (mk w) lo hi = mk (cutL w lo hi) := by
  unfold cutS cutL
  rw [mk_list, mk_len]
theorem cut_to_nat {α : Type} (k : Nat) (l : List α) : cutL l none (some (k : Int)) = l.take k := cut_to k l
def nsigns : W := sl "abcdefghijklmnoprstuvwxyz0123456789"
def nbase : W := sl "ab0cd1ef"
theorem nsigns_a : ∀ k < 25, (match nsigns[k]? with | some c => decide (c ∈ letters) | none => false) = true := by decide +kernel
theorem nsigns_b : ∀ k < 35, (match nsigns[k]? with | some c => decide (c ∈ letters) || decide (c ∈ digits) | none => false) = true := by decide +kernel
theorem sign_a {r : Int} (h0 : 0 ≤ r) (h1 : r < 25) : ∃ c, atI nsigns r = some c ∧ c ∈ letters := by
  obtain ⟨k, rfl⟩ : ∃ k : Nat, r = (k : Int) := ⟨r.toNat, by omega⟩
  have := nsigns_a k (by omega)
  cases e : nsigns[k]? with
  | none => rw [e] at this; exact absurd this Bool.false_ne_true
  | some c => rw [e] at this; exact ⟨c, atI_nat e, by simpa using this⟩
theorem sign_b {r : Int} (h0 : 0 ≤ r) (h1 : r < 35) : ∃ c, atI nsigns r = some c ∧ (c ∈ letters ∨ c ∈ digits) := by
  obtain ⟨k, rfl⟩ : ∃ k : Nat, r = (k : Int) := ⟨r.toNat, by omega⟩
  have := nsigns_b k (by omega)
  cases e : nsigns[k]? with
  | none => rw [e] at this; exact absurd this Bool.false_ne_true
  | some c => rw [e] at this; exact ⟨c, atI_nat e, by simpa using this⟩
theorem name_of {c : Nat} {r : W} (hc : c ∈ letters) (hr : ∀ x ∈ r, x ∈ letters ∨ x ∈ digits) (hl : r.length ≤ 7) : isName (c :: r) = true := by
  have h8 : (c :: r).length ≤ 8 := by rw [List.length_cons]; omega
  have h1 : 1 ≤ (c :: r).length := by rw [List.length_cons]; omega
  unfold isName
  simp only [hc, h8, h1, decide_true, Bool.and_true, Bool.true_and, List.all_eq_true, Bool.or_eq_true, decide_eq_true_eq]
  intro x hx
  rcases List.mem_cons.mp hx with rfl | hx
  · exact .inl hc
  · exact hr x hx
/-- what a name is while it is being made -/
def NameSoFar (w : W) : Prop := ∃ c r, w = c :: r ∧ c ∈ letters ∧ ∀ x ∈ r, x ∈ letters ∨ x ∈ digits
theorem NameSoFar.name {w : W} (h : NameSoFar w) (hl : w.length ≤ 8) : isName w = true := by
  obtain ⟨c, r, rfl, h1, h2⟩ := h
  exact name_of h1 h2 (by rw [List.length_cons] at hl; omega)
theorem name_far {w : W} (h : isName w = true) : NameSoFar w ∧ w.length ≤ 8 := by
  unfold isName at h
  simp only [Bool.and_eq_true, decide_eq_true_eq, List.all_eq_true, Bool.or_eq_true] at h
  obtain ⟨⟨⟨h1, h2⟩, h3⟩, h4⟩ := h
  cases w with
  | nil => exact absurd h3 Bool.false_ne_true
  | cons c r => exact ⟨⟨c, r, rfl, by simpa using h3, fun x hx => h4 x (List.mem_cons_of_mem _ hx)⟩, h2⟩
theorem tx_flat (ns : List W) : (tx ns).all flatB = true := by
  rw [List.all_map, List.all_eq_true]; intro w _; rfl
theorem inP_own (w : W) (ns : List W) (M : Mem) : ∃ b : Bool, inP false (.val (.str (mk w))) (.bor (tx ns)) M = .ok (.val (.bl b)) M := by
  refine ⟨inF (.str (mk w)) (tx ns), ?_⟩
  unfold inP
  simp only [view_bor, view_str, tx_flat, flatB, Bool.and_true, if_true]
  rfl
/-- the names' slots -/
abbrev nsl (num : Int) (ns : List W) (k at_ : Slot) (w : W) (j : Slot) : Sl := [.val (.ref 0), .val (.int num), .val (.str (mk nsigns)), .own (tx ns), k, at_, .val (.str (mk w)), j]
theorem str_sl (s : Str) : mk (sl s) = s := mk_sl s
theorem n1_gen (P : Val → Mem → R Val) {num : Int} {ns : List W} {k : Slot} {at_ : Int} {w : W} {j : Nat} {M : Mem} {z : W} (sN : P (.val (.int ((j : Nat) : Int))) M = .ok (.val (.str (mk z))) M) (hz : z.length ≤ 7) (hd : ∀ x ∈ z, x ∈ letters ∨ x ∈ digits) (hw : isName w = true) :
    ∃ w', isName w' = true ∧ (ifF (tst (op2 (getVar 6) (getVar 3) (inP false)))
 (setF 6 (op2 (op2 (getVar 2) (op2 (op1 (op2 (getVar 5) (getVar 7) addP) intOf) (con (.int 25)) modP) idxP) (op1 (getVar 7) P) addP))
 nxt) (nsl num ns k (.val (.int at_)) w (.val (.int ((j : Nat) : Int)))) M = .ok (.next (nsl num ns k (.val (.int at_)) w' (.val (.int ((j : Nat) : Int))))) M := by
  obtain ⟨b, hb⟩ := inP_own w ns M
  have T : tst (op2 (getVar 6) (getVar 3) (inP false)) (nsl num ns k (.val (.int at_)) w (.val (.int ((j : Nat) : Int)))) M = .ok b M := by
    rw [tst_ap, op2_ap, getVar_ap]
    simp only [List.getElem?_cons_succ, List.getElem?_cons_zero, R.bind_ok, getVar_ap, hb, asBool_bl]
  cases b with
  | false =>
    refine ⟨w, hw, ?_⟩
    rw [ifF_ap, T, R.bind_ok, if_neg Bool.false_ne_true, nxt_ap]
  | true =>
    obtain ⟨c, hc1, hc2⟩ := sign_a (r := (at_ + ((j : Nat) : Int)).fmod 25) (fmod_in _ (by decide)).1 (fmod_in _ (by decide)).2
    refine ⟨c :: z, name_of hc2 hd hz, ?_⟩
    have m := modP_ok (i := at_ + ((j : Nat) : Int)) (j := 25) (M := M) (by decide)
    have ad : addP (.val (.str (mk [c]))) (.val (.str (mk z))) M = .ok (.val (.str (mk (c :: z)))) M := by
      unfold addP
      simp only [view_str]
      rw [if_pos (by rw [mk_len, mk_len]; simp only [List.length_singleton]; unfold SLIM; omega), mk_cat]; rfl
    rw [ifF_ap, T, R.bind_ok, if_pos rfl, setF_ap, stE_ap, op2_ap, op2_ap, getVar_ap]
    simp only [List.getElem?_cons_succ, List.getElem?_cons_zero, R.bind_ok, op2_ap, op1_ap, getVar_ap, addP_int, intOf_int, con_ap, m, idxP_str, mk_list, hc1, sN, ad, sto_val, List.set_cons_succ, List.set_cons_zero]
theorem n1_ok {num : Int} {ns : List W} {k : Slot} {at_ : Int} {w : W} {j : Nat} {M : Mem} (h0 : 0 ≤ at_) (hj : j < 50) (hw : isName w = true) :
    ∃ w', isName w' = true ∧ lb_law_names_1 (nsl num ns k (.val (.int at_)) w (.val (.int ((0 : Int) + ((j : Nat) : Int))))) M = .ok (.next (nsl num ns k (.val (.int at_)) w' (.val (.int ((0 : Int) + ((j : Nat) : Int)))))) M := by
  have z : (0 : Int) + ((j : Nat) : Int) = ((j : Nat) : Int) := by omega
  rw [z]
  have hn : (numW j).length ≤ 7 := by
    have := TL.numL_len (n := j) (k := 7) (by decide) (by omega)
    exact this
  have hd : ∀ x ∈ numW j, x ∈ letters ∨ x ∈ digits := fun x hx => .inr (mem_digits.mpr (by have := TL.numL_digits j x hx; omega))
  exact n1_gen strP (strP_num (n := j) (by omega) M) hn hd hw
theorem n1_loop {num : Int} {ns : List W} {k : Slot} {at_ : Int} {w : W} {j0 : Slot} {M : Mem} (h0 : 0 ≤ at_) (hw : isName w = true) :
    ∃ w' j', isName w' = true ∧ forF (rng1 (aCons (stE (con (.int 50))) aNil)) (tgN 7) lb_law_names_1 (nsl num ns k (.val (.int at_)) w j0) M = .ok (.next (nsl num ns k (.val (.int at_)) w' j')) M := by
  have L := forGo_inv (t := tgN 7) (b := lb_law_names_1) (fun j : Nat => RS.D.int ((0 : Int) + ((j : Nat) : Int)))
    (fun l ρ M' => (∀ j ∈ l, j < 50) ∧ M' = M ∧ ∃ w' j', isName w' = true ∧ ρ = nsl num ns k (.val (.int at_)) w' j')
    (fun j l ρ M' ⟨hm, e, w', j', hw', e2⟩ => by
      subst e2; subst e
      obtain ⟨w2, h2, h3⟩ := n1_ok (num := num) (ns := ns) (k := k) (M := M') h0 (hm j (by simp)) hw'
      exact ⟨_, _, _, rfl, .inl h3, fun q hq => hm q (List.mem_cons_of_mem _ hq), rfl, w2, _, h2, rfl⟩)
    (List.range 50) (nsl num ns k (.val (.int at_)) w j0) M ⟨fun j hj => List.mem_range.mp hj, rfl, w, j0, hw, rfl⟩
  obtain ⟨ρ', M', hg, _, e, w', j', hw', e2⟩ := L
  subst e2; subst e
  refine ⟨w', j', hw', ?_⟩
  rw [forF_ap]
  have hr : rng1 (aCons (stE (con (.int 50))) aNil) (nsl num ns k (.val (.int at_)) w j0) M' = .ok ((List.range 50).map fun (k : Nat) => RS.D.int ((0 : Int) + (k : Int))) M' := by
    unfold rng1
    simp
  rw [hr, R.bind_ok, hg]
theorem n2_loop {num : Int} {ns : List W} {k at_ : Slot} {w : W} {j0 : Slot} {rest M : Mem} (hM : IsSrc rest M) (hw : NameSoFar w) (hl : w.length ≤ 1) :
    ∃ w' j' M', IsSrc rest M' ∧ isName w' = true ∧ forF (rng1 (aCons (stE (callE 2 f_law_draw (aCons (stE (getVar 0)) (aCons (stE (con (.int 8))) aNil)))) aNil)) (tgN 7) lb_law_names_2 (nsl num ns k at_ w j0) M = .ok (.next (nsl num ns k at_ w' j')) M' := by
  obtain ⟨v, M1, hM1, ⟨r, rfl, r0, r1⟩, e1⟩ := (g_draw (L := 8) (by decide) (by decide)).at hM
  have L := forGo_inv (t := tgN 7) (b := lb_law_names_2) (fun j : Nat => RS.D.int ((0 : Int) + ((j : Nat) : Int)))
    (fun l ρ M' => IsSrc rest M' ∧ ∃ w' j', NameSoFar w' ∧ w'.length + l.length ≤ 8 ∧ ρ = nsl num ns k at_ w' j')
    (fun j l ρ M' ⟨hm, w', j', hw', hl', e2⟩ => by
      subst e2
      obtain ⟨v, M2, hM2, ⟨q, rfl, q0, q1⟩, e3⟩ := (g_draw (L := 35) (by decide) (by decide)).at hm
      obtain ⟨c, hc1, hc2⟩ := sign_b q0 q1
      have ad : addP (.val (.str (mk w'))) (.val (.str (mk [c]))) M2 = .ok (.val (.str (mk (w' ++ [c])))) M2 := by
        unfold addP
        simp only [view_str]
        rw [if_pos (by rw [mk_len, mk_len]; simp only [List.length_singleton]; simp only [List.length_cons] at hl'; unfold SLIM; omega), mk_cat]
      refine ⟨nsl num ns k at_ w' (.val (.int ((0 : Int) + ((j : Nat) : Int)))), nsl num ns k at_ (w' ++ [c]) (.val (.int ((0 : Int) + ((j : Nat) : Int)))), M2, rfl, .inl ?_, hM2, w' ++ [c], _, ?_, ?_, rfl⟩
      · unfold lb_law_names_2
        rw [setF_ap, stE_ap, op2_ap, getVar_ap]
        simp only [List.getElem?_cons_succ, List.getElem?_cons_zero, R.bind_ok, op2_ap, getVar_ap, callE_ap, aCons_ap, stE_ap, sto_val, con_ap, aNil_ap]
        simp only [List.length_cons, List.length_nil, Nat.zero_add, Nat.reduceAdd, if_true, e3, R.bind_ok, idxP_str, mk_list, hc1, ad, sto_val, List.set_cons_succ, List.set_cons_zero]
      · obtain ⟨a, r, rfl, h1, h2⟩ := hw'
        exact ⟨a, r ++ [c], rfl, h1, fun x hx => by
          rcases List.mem_append.mp hx with hx | hx
          · exact h2 x hx
          · have : x = c := by simpa using hx
            subst this; exact hc2⟩
      · rw [List.length_append]; simp only [List.length_cons, List.length_nil] at hl' ⊢; omega)
    (List.range r.toNat) (nsl num ns k at_ w j0) M1 ⟨hM1, w, j0, hw, by rw [List.length_range]; omega, rfl⟩
  obtain ⟨ρ', M', hg, hM', w', j', hw', hl', e2⟩ := L
  subst e2
  refine ⟨w', j', M', hM', hw'.name (by simpa using hl'), ?_⟩
  rw [forF_ap]
  have hr : rng1 (aCons (stE (callE 2 f_law_draw (aCons (stE (getVar 0)) (aCons (stE (con (.int 8))) aNil)))) aNil) (nsl num ns k at_ w j0) M = .ok ((List.range r.toNat).map fun (k : Nat) => RS.D.int ((0 : Int) + (k : Int))) M1 := by
    have c1 : r ≤ 16000000 := by omega
    have c2 : (-1099511627776 : Int) ≤ r := by omega
    unfold rng1
    simp [e1, c1, c2]
  rw [hr, R.bind_ok, hg]
end K58
set_option Elab.async false
set_option linter.all false
set_option maxRecDepth 100000
set_option maxHeartbeats 4000000
/-! law_k58: lists of names drawn. -/
namespace K58
open PySem L2 RS
@[simp] theorem putF_ap (i : Nat) (fk f : FE) (ρ : Sl) (M : Mem) : putF i fk f ρ M = (stE f ρ M).bind fun d M => match ρ[i]? with
  | some (.own l) => (fk ρ M).bind fun x M => (match view x M with
    | .int n => (match ixN l.length n with | some j => .ok (.next (ρ.set i (.own (l.set j d)))) M | none => .bad)
    | _ => .bad)
  | _ => .bad := rfl
theorem base_chars : ∀ x ∈ nbase, x ∈ letters ∨ x ∈ digits := by decide +kernel
theorem base_name {c : Nat} (hc : c ∈ letters) : ∀ k < 8, NameSoFar (nbase.take k ++ [c] ++ nbase.drop (k + 1)) ∧ (nbase.take k ++ [c] ++ nbase.drop (k + 1)).length ≤ 8 := fun k hk => by
  have hb : nbase = [97, 98, 48, 99, 100, 49, 101, 102] := by decide +kernel
  have h97 : 97 ∈ letters := by decide +kernel
  have hin : ∀ x ∈ nbase.take k ++ [c] ++ nbase.drop (k + 1), x ∈ letters ∨ x ∈ digits := fun x hx => by
    simp only [List.mem_append, List.mem_singleton] at hx
    rcases hx with (hx | rfl) | hx
    · exact base_chars x (List.mem_of_mem_take hx)
    · exact .inl hc
    · exact base_chars x (List.mem_of_mem_drop hx)
  have hlen : nbase.length = 8 := by rw [hb]; rfl
  refine ⟨?_, by simp only [List.length_append, List.length_take, List.length_drop, List.length_singleton, hlen]; omega⟩
  cases k with
  | zero => exact ⟨c, nbase.drop 1, rfl, hc, fun x hx => base_chars x (List.mem_of_mem_drop hx)⟩
  | succ k =>
    refine ⟨97, [98, 48, 99, 100, 49, 101, 102].take k ++ [c] ++ nbase.drop (k + 1 + 1), by rw [hb]; rfl, h97, fun x hx => hin x ?_⟩
    have : nbase.take (k + 1) = 97 :: [98, 48, 99, 100, 49, 101, 102].take k := by rw [hb]; rfl
    rw [this]
    simp only [List.cons_append, List.mem_cons]
    exact .inr hx
theorem addP_mk {a b : W} {M : Mem} (h : a.length + b.length ≤ 100) : addP (.val (.str (mk a))) (.val (.str (mk b))) M = .ok (.val (.str (mk (a ++ b)))) M := by
  unfold addP
  simp only [view_str]
  rw [if_pos (by rw [mk_len, mk_len]; unfold SLIM; omega), mk_cat]
theorem slP_mk (w : W) (lo hi : Option Int) (M : Mem) : slP (.val (.str (mk w))) lo hi M = .ok (.val (.str (mk (cutL w lo hi)))) M := by
  rw [← mk_cutS]; rfl
theorem n3_ok {num : Int} {ns : List W} {k d5 d7 : Slot} {d6 : Slot} {rest M : Mem} (hM : IsSrc rest M) (hn : ns.length < 16000000) :
    ∃ w e5 e6 e7 M', isName w = true ∧ IsSrc rest M' ∧ lb_law_names_3 [.val (.ref 0), .val (.int num), .val (.str (mk nsigns)), .own (tx ns), k, d5, d6, d7] M = .ok (.next [.val (.ref 0), .val (.int num), .val (.str (mk nsigns)), .own (tx (ns ++ [w])), k, e5, e6, e7]) M' := by
  obtain ⟨v, M1, hM1, ⟨r, rfl, r0, r1⟩, e1⟩ := (g_draw (L := 25) (by decide) (by decide)).at hM
  obtain ⟨t, kt, rfl⟩ := hM1
  obtain ⟨c, hc1, hc2⟩ := sign_a r0 r1
  have S1 : setF 5 (callE 2 f_law_draw (aCons (stE (getVar 0)) (aCons (stE (con (.int 25))) aNil))) [.val (.ref 0), .val (.int num), .val (.str (mk nsigns)), .own (tx ns), k, d5, d6, d7] M = .ok (.next [.val (.ref 0), .val (.int num), .val (.str (mk nsigns)), .own (tx ns), k, .val (.int r), d6, d7]) (some t.l :: rest) := by
    simp [e1]
  obtain ⟨kk, hk⟩ : ∃ kk : Nat, t.k = (kk : Int) := ⟨t.k.toNat, by have := kt.k.1; omega⟩
  have hk16 : kk < 16 := by have := kt.k.2; omega
  have a4 : atI t.l 4 = some (.int ((kk : Nat) : Int)) := by rw [← hk]; rfl
  have hbl : nbase.length = 8 := by decide +kernel
  have hbe : (Str.ofString "ab0cd1ef") = mk nbase := (mk_sl _).symm
  have S2 : setF 6 (op2 (op2 (slE (con (.str "ab0cd1ef")) (fun _ M => .ok none M) (ixO (op2 (getVar 0) (con (.int 4)) idxP))) (op2 (getVar 2) (getVar 5) idxP) addP) (slE (con (.str "ab0cd1ef")) (ixO (op2 (op2 (getVar 0) (con (.int 4)) idxP) (con (.int 1)) addP)) (fun _ M => .ok none M)) addP) [.val (.ref 0), .val (.int num), .val (.str (mk nsigns)), .own (tx ns), k, .val (.int r), d6, d7] (some t.l :: rest) = .ok (.next [.val (.ref 0), .val (.int num), .val (.str (mk nsigns)), .own (tx ns), k, .val (.int r), .val (.str (mk (nbase.take kk ++ [c] ++ nbase.drop (kk + 1)))), d7]) (some t.l :: rest) := by
    have z : ((kk : Nat) : Int) + 1 = ((kk + 1 : Nat) : Int) := by omega
    have ad1 := addP_mk (a := nbase.take kk) (b := [c]) (M := some t.l :: rest) (by rw [List.length_take]; simp only [List.length_singleton]; omega)
    have ad2 := addP_mk (a := nbase.take kk ++ [c]) (b := nbase.drop (kk + 1)) (M := some t.l :: rest) (by rw [List.length_append, List.length_take, List.length_drop]; simp only [List.length_singleton]; omega)
    rw [hbe]
    simp only [setF_ap, stE_ap, op2_ap, slE_ap, con_ap, R.bind_ok, ixO_ap, getVar_ap, List.getElem?_cons_zero, List.getElem?_cons_succ, idxP_src, a4, asInt_int, slP_mk, addP_int, z, cut_to, cut_from, idxP_str, mk_list, hc1, ad1, ad2, sto_val, List.set_cons_succ, List.set_cons_zero]
  -- the name, or a new one
  have S3 : ∃ w j' M', IsSrc rest M' ∧ isName w = true ∧ (ifF (tst (op2 (op2 (getVar 0) (con (.int 4)) idxP) (con (.int 7)) gtP))
 (seqF (setF 6 (op2 (getVar 2) (getVar 5) idxP))
 (forF (rng1 (aCons (stE (callE 2 f_law_draw (aCons (stE (getVar 0)) (aCons (stE (con (.int 8))) aNil)))) aNil)) (tgN 7)
 lb_law_names_2))
 nxt) (nsl num ns k (.val (.int r)) (nbase.take kk ++ [c] ++ nbase.drop (kk + 1)) d7) (some t.l :: rest) = .ok (.next (nsl num ns k (.val (.int r)) w j')) M' := by
    by_cases h7 : 7 < kk
    · have T : tst (op2 (op2 (getVar 0) (con (.int 4)) idxP) (con (.int 7)) gtP) (nsl num ns k (.val (.int r)) (nbase.take kk ++ [c] ++ nbase.drop (kk + 1)) d7) (some t.l :: rest) = .ok true (some t.l :: rest) := by
        have : (7 : Int) < ((kk : Nat) : Int) := by omega
        simp only [tst_ap, op2_ap, getVar_ap, List.getElem?_cons_zero, R.bind_ok, con_ap, idxP_src, a4, gtP_int, this, decide_true, asBool_bl]
      obtain ⟨w, j', M', h1, h2, h3⟩ := n2_loop (num := num) (ns := ns) (k := k) (at_ := .val (.int r)) (w := [c]) (j0 := d7) (rest := rest) (M := some t.l :: rest) ⟨t, kt, rfl⟩ ⟨c, [], rfl, hc2, fun x hx => nomatch hx⟩ (by simp)
      refine ⟨w, j', M', h1, h2, ?_⟩
      rw [ifF_ap, T, R.bind_ok, if_pos rfl, seqF_ap, setF_ap, stE_ap, op2_ap, getVar_ap]
      simp only [List.getElem?_cons_succ, List.getElem?_cons_zero, R.bind_ok, getVar_ap, idxP_str, mk_list, hc1, sto_val, List.set_cons_succ, List.set_cons_zero]
      exact h3
    · have T : tst (op2 (op2 (getVar 0) (con (.int 4)) idxP) (con (.int 7)) gtP) (nsl num ns k (.val (.int r)) (nbase.take kk ++ [c] ++ nbase.drop (kk + 1)) d7) (some t.l :: rest) = .ok false (some t.l :: rest) := by
        have : ¬ (7 : Int) < ((kk : Nat) : Int) := by omega
        simp only [tst_ap, op2_ap, getVar_ap, List.getElem?_cons_zero, R.bind_ok, con_ap, idxP_src, a4, gtP_int, this, decide_false, asBool_bl]
      obtain ⟨b1, b2⟩ := base_name hc2 kk (by omega)
      refine ⟨_, d7, _, ⟨t, kt, rfl⟩, b1.name b2, ?_⟩
      rw [ifF_ap, T, R.bind_ok, if_neg Bool.false_ne_true, nxt_ap]
  obtain ⟨w, j', M', h1, h2, h3⟩ := S3
  obtain ⟨w', j2, h4, h5⟩ := n1_loop (num := num) (ns := ns) (k := k) (at_ := r) (w := w) (j0 := j') (M := M') r0 h2
  refine ⟨w', .val (.int r), .val (.str (mk w')), j2, M', h4, h1, ?_⟩
  unfold lb_law_names_3
  rw [seqF_ap, S1]
  simp only
  rw [seqF_ap, S2]
  simp only
  rw [seqF_ap]
  have h3' := h3
  unfold nsl at h3'
  rw [h3']
  simp only
  rw [seqF_ap]
  have h5' := h5
  unfold nsl at h5'
  rw [h5']
  simp only
  rw [appF_ap]
  simp only [List.getElem?_cons_succ, List.getElem?_cons_zero, stE_ap, getVar_ap, R.bind_ok, sto_val]
  rw [if_pos (by rw [List.length_map]; unfold LIM; omega)]
  simp
theorem g_names (n : Nat) (hn : n ≤ 1000) : Gen (f_law_names [.ref 0, .int n]) (fun v => ∃ ns : List W, v = .own (tx ns) ∧ ns.length = n ∧ ns.all isName = true) := fun t rest h => by
  have L := forGo_inv (t := tgN 4) (b := lb_law_names_3) (fun j : Nat => RS.D.int ((0 : Int) + ((j : Nat) : Int)))
    (fun l ρ M' => IsSrc rest M' ∧ ∃ ns d4 d5 d6 d7, ns.all isName = true ∧ ns.length + l.length = n ∧ ρ = [.val (.ref 0), .val (.int n), .val (.str (mk nsigns)), .own (tx ns), d4, d5, d6, d7])
    (fun j l ρ M' ⟨hm, ns, d4, d5, d6, d7, ha, hl, e⟩ => by
      subst e
      obtain ⟨w, e5, e6, e7, M2, h1, h2, h3⟩ := n3_ok (num := n) (ns := ns) (k := .val (.int ((0 : Int) + ((j : Nat) : Int)))) (d5 := d5) (d6 := d6) (d7 := d7) hm (by simp only [List.length_cons] at hl; omega)
      refine ⟨_, _, M2, rfl, .inl h3, h2, ns ++ [w], _, _, _, _, ?_, ?_, rfl⟩
      · rw [List.all_append, ha]; simp [h1]
      · rw [List.length_append]; simp only [List.length_cons, List.length_nil] at hl ⊢; omega)
    (List.range n) [.val (.ref 0), .val (.int n), .val (.str (mk nsigns)), .own (tx []), .none, .none, .none, .none] (some t.l :: rest) ⟨⟨t, h, rfl⟩, [], _, _, _, _, rfl, by simp, rfl⟩
  obtain ⟨ρ', M', hg, ⟨t', k', e⟩, ns, d4, d5, d6, d7, ha, hl, e2⟩ := L
  subst e; subst e2
  refine ⟨t', .own (tx ns), k', ⟨ns, rfl, by simpa using hl, ha⟩, ?_⟩
  have hr : rng1 (aCons (stE (getVar 1)) aNil) [.val (.ref 0), .val (.int n), .val (.str (mk nsigns)), .own (tx []), .none, .none, .none, .none] (some t.l :: rest) = .ok ((List.range n).map fun (k : Nat) => RS.D.int ((0 : Int) + (k : Int))) (some t.l :: rest) := by
    have c1 : ((n : Int) ≤ 16000000) := by omega
    have c2 : (-1099511627776 : Int) ≤ (n : Int) := by omega
    unfold rng1
    simp [c1, c2]
  have hne : (Str.ofString "abcdefghijklmnoprstuvwxyz0123456789") = mk nsigns := (mk_sl _).symm
  have B : b_law_names [.val (.ref 0), .val (.int n), .none, .none, .none, .none, .none, .none] (some t.l :: rest) = .ok (.ret (.own (tx ns))) (some t'.l :: rest) := by
    unfold b_law_names
    rw [seqF_ap, setF_ap, stE_ap, con_ap, R.bind_ok, sto_val, R.bind_ok, hne]
    simp only [List.set_cons_succ, List.set_cons_zero]
    rw [seqF_ap, ownF_ap, lstE_ap, aNil_ap, R.bind_ok, if_pos (by simp), R.bind_ok]
    simp only [List.set_cons_succ, List.set_cons_zero]
    rw [seqF_ap, forF_ap]
    have hr' := hr
    simp only [tx, List.map_nil] at hr' hg
    rw [hr', R.bind_ok, hg]
    simp
  unfold f_law_names fnD
  show (match b_law_names [.val (.ref 0), .val (.int n), .none, .none, .none, .none, .none, .none] (some t.l :: rest) with | .ok (.ret x) M' => _ | .ok (.next _) M' => _ | .exn c d M' => _ | _ => _) = _
  rw [B]
end K58
set_option Elab.async false
set_option linter.all false
set_option maxRecDepth 100000
set_option maxHeartbeats 4000000
/-! law_k58: some names, some number. -/
namespace K58
open PySem L2 RS
def oddW : List W := [sl "not", sl "ban", sl "state", sl "void", sl "at", sl "exit", sl "loss", sl "group", sl "days", sl "share", sl "move", sl "shown"]
theorem oddW_names : ∀ k < 12, (match oddW[k]? with | some w => isName w | none => false) = true := by decide +kernel
theorem odd_at {r : Int} (h0 : 0 ≤ r) (h1 : r < 12) : ∃ w, atI (tx oddW) r = some (.str (mk w)) ∧ isName w = true := by
  obtain ⟨k, rfl⟩ : ∃ k : Nat, r = (k : Int) := ⟨r.toNat, by omega⟩
  have := oddW_names k (by omega)
  cases e : oddW[k]? with
  | none => rw [e] at this; exact absurd this Bool.false_ne_true
  | some w => rw [e] at this; exact ⟨w, atI_nat (by rw [List.getElem?_map, e]; rfl), this⟩
theorem inP_ints (k : Int) (l : List Int) (M : Mem) : ∃ b : Bool, inP false (.val (.int k)) (.val (.tup (l.map RS.D.int))) M = .ok (.val (.bl b)) M := by
  refine ⟨inF (.int k) (l.map RS.D.int), ?_⟩
  have hf : (l.map RS.D.int).all flatB = true := by rw [List.all_map, List.all_eq_true]; intro w _; rfl
  unfold inP
  simp only [view_tup, view_int, hf, flatB, Bool.and_true, if_true]
  rfl
theorem all_set {ns : List W} {w : W} (h : ns.all isName = true) (hw : isName w = true) (j : Nat) : (ns.set j w).all isName = true := by
  rw [List.all_eq_true] at h ⊢
  intro x hx
  rcases List.mem_or_eq_of_mem_set hx with hx | rfl
  · exact h x hx
  · exact hw
theorem sn_ok {num : Int} {ns : List W} {j : Nat} {d4 : Slot} {rest M : Mem} (hM : IsSrc rest M) (hj : j < ns.length) (ha : ns.all isName = true) :
    ∃ ns' e4 M', ns'.all isName = true ∧ ns'.length = ns.length ∧ IsSrc rest M' ∧ lb_law_some_names_1 [.val (.ref 0), .val (.int num), .own (tx ns), .val (.int ((0 : Int) + ((j : Nat) : Int))), d4] M = .ok (.next [.val (.ref 0), .val (.int num), .own (tx ns'), .val (.int ((0 : Int) + ((j : Nat) : Int))), e4]) M' := by
  have z : (0 : Int) + ((j : Nat) : Int) = ((j : Nat) : Int) := by omega
  rw [z]
  have hM0 := hM
  obtain ⟨t, kt, rfl⟩ := hM0
  have a4 : atI t.l 4 = some (.int t.k) := rfl
  obtain ⟨b, hb⟩ := inP_ints t.k [3, 6, 9, 12] (some t.l :: rest)
  have T : tst (op2 (op2 (getVar 0) (con (.int 4)) idxP) (tupE (aCons (stE (con (.int 3))) (aCons (stE (con (.int 6))) (aCons (stE (con (.int 9))) (aCons (stE (con (.int 12))) aNil))))) (inP false)) [.val (.ref 0), .val (.int num), .own (tx ns), .val (.int ((j : Nat) : Int)), d4] (some t.l :: rest) = .ok b (some t.l :: rest) := by
    have hl : ([RS.D.int 3, .int 6, .int 9, .int 12] : List RS.D).length ≤ LIM := by simp [LIM]
    simp only [tst_ap, op2_ap, getVar_ap, List.getElem?_cons_zero, R.bind_ok, con_ap, idxP_src, a4, tupE_ap, aCons_ap, stE_ap, sto_val, aNil_ap, if_pos hl]
    have hb' : inP false (.val (.int t.k)) (.val (.tup [RS.D.int 3, .int 6, .int 9, .int 12])) (some t.l :: rest) = .ok (.val (.bl b)) (some t.l :: rest) := hb
    rw [hb']; rfl
  cases b with
  | false =>
    refine ⟨ns, d4, _, ha, rfl, ⟨t, kt, rfl⟩, ?_⟩
    unfold lb_law_some_names_1
    rw [ifF_ap, T, R.bind_ok, if_neg Bool.false_ne_true, nxt_ap]
  | true =>
    obtain ⟨v, M1, hM1, ⟨r, rfl, r0, r1⟩, e1⟩ := (g_draw (L := 12) (by decide) (by decide)).at hM
    obtain ⟨w, hw1, hw2⟩ := odd_at r0 r1
    refine ⟨ns.set j w, .val (.lst (tx oddW)), M1, all_set ha hw2 j, List.length_set, hM1, ?_⟩
    have S1 : setF 4 (lstE (aCons (stE (con (.str "not"))) (aCons (stE (con (.str "ban"))) (aCons (stE (con (.str "state"))) (aCons (stE (con (.str "void"))) (aCons (stE (con (.str "at"))) (aCons (stE (con (.str "exit"))) (aCons (stE (con (.str "loss"))) (aCons (stE (con (.str "group"))) (aCons (stE (con (.str "days"))) (aCons (stE (con (.str "share"))) (aCons (stE (con (.str "move"))) (aCons (stE (con (.str "shown"))) aNil))))))))))))) [.val (.ref 0), .val (.int num), .own (tx ns), .val (.int ((j : Nat) : Int)), d4] (some t.l :: rest) = .ok (.next [.val (.ref 0), .val (.int num), .own (tx ns), .val (.int ((j : Nat) : Int)), .val (.lst (tx oddW))]) (some t.l :: rest) := by
      have ho : tx oddW = [.str "not", .str "ban", .str "state", .str "void", .str "at", .str "exit", .str "loss", .str "group", .str "days", .str "share", .str "move", .str "shown"] := by
        simp [oddW]
      rw [ho]
      simp [LIM]
    have hix : ixN (tx ns).length ((j : Nat) : Int) = some j := by
      unfold ixN
      rw [List.length_map, if_pos (by omega), if_pos (by omega)]
      simp
    have hset : (tx ns).set j (.str (mk w)) = tx (ns.set j w) := by unfold tx; rw [List.map_set]
    unfold lb_law_some_names_1
    rw [ifF_ap, T, R.bind_ok, if_pos rfl, seqF_ap, S1]
    simp only
    have S2 : stE (op2 (getVar 4) (callE 2 f_law_draw (aCons (stE (getVar 0)) (aCons (stE (con (.int 12))) aNil))) idxP) [.val (.ref 0), .val (.int num), .own (tx ns), .val (.int ((j : Nat) : Int)), .val (.lst (tx oddW))] (some t.l :: rest) = .ok (.str (mk w)) M1 := by
      have hw1' : atI (tx oddW) r = some (.str (mk w)) := hw1
      generalize tx oddW = ow at hw1'
      simp [e1, hw1']
    rw [putF_ap, S2, R.bind_ok]
    simp only [List.getElem?_cons_succ, List.getElem?_cons_zero, getVar_ap, R.bind_ok, view_int, hix, List.set_cons_succ, List.set_cons_zero, hset]
theorem g_some_names (n : Nat) (hn : n ≤ 1000) : Gen (f_law_some_names [.ref 0, .int n]) (fun v => ∃ ns : List W, v = .val (namesD ns) ∧ ns.length = n ∧ ns.all isName = true) := fun t rest h => by
  obtain ⟨v, M1, hM1, ⟨ns0, rfl, hl0, ha0⟩, e1⟩ := (g_names n hn).at (rest := rest) ⟨t, h, rfl⟩
  have L := forGo_inv (t := tgN 3) (b := lb_law_some_names_1) (fun j : Nat => RS.D.int ((0 : Int) + ((j : Nat) : Int)))
    (fun l ρ M' => (∀ j ∈ l, j < n) ∧ IsSrc rest M' ∧ ∃ ns d3 d4, ns.all isName = true ∧ ns.length = n ∧ ρ = [.val (.ref 0), .val (.int n), .own (tx ns), d3, d4])
    (fun j l ρ M' ⟨hj, hm, ns, d3, d4, ha, hl, e⟩ => by
      subst e
      obtain ⟨ns', e4, M2, h1, h2, h3, h4⟩ := sn_ok (num := n) (ns := ns) (j := j) (d4 := d4) hm (by rw [hl]; exact hj j (by simp)) ha
      exact ⟨_, _, M2, rfl, .inl h4, fun q hq => hj q (List.mem_cons_of_mem _ hq), h3, ns', _, _, h1, h2.trans hl, rfl⟩)
    (List.range n) [.val (.ref 0), .val (.int n), .own (tx ns0), .none, .none] M1 ⟨fun j hj => List.mem_range.mp hj, hM1, ns0, _, _, ha0, hl0, rfl⟩
  obtain ⟨ρ', M', hg, _, ⟨t', k', e⟩, ns, d3, d4, ha, hl, e2⟩ := L
  subst e; subst e2
  refine ⟨t', .val (namesD ns), k', ⟨ns, rfl, hl, ha⟩, ?_⟩
  have hr : rng1 (aCons (stE (getVar 1)) aNil) [.val (.ref 0), .val (.int n), .own (tx ns0), .none, .none] M1 = .ok ((List.range n).map fun (k : Nat) => RS.D.int ((0 : Int) + (k : Int))) M1 := by
    have c1 : ((n : Int) ≤ 16000000) := by omega
    have c2 : (-1099511627776 : Int) ≤ (n : Int) := by omega
    unfold rng1
    simp [c1, c2]
  have C : callE 2 f_law_names (aCons (stE (getVar 0)) (aCons (stE (getVar 1)) aNil)) [.val (.ref 0), .val (.int n), .none, .none, .none] (some t.l :: rest) = .ok (.own (tx ns0)) M1 := by simp [e1]
  have B : b_law_some_names [.val (.ref 0), .val (.int n), .none, .none, .none] (some t.l :: rest) = .ok (.ret (.val (namesD ns))) (some t'.l :: rest) := by
    unfold b_law_some_names
    rw [seqF_ap, ownF_ap, C, R.bind_ok]
    simp only [List.set_cons_succ, List.set_cons_zero]
    rw [seqF_ap, forF_ap, hr, R.bind_ok, hg]
    simp only
    rw [retF_ap, op1_ap, getVar_ap]
    simp [namesD]
  unfold f_law_some_names fnD
  show (match b_law_some_names [.val (.ref 0), .val (.int n), .none, .none, .none] (some t.l :: rest) with | .ok (.ret x) M' => _ | .ok (.next _) M' => _ | .exn c d M' => _ | _ => _) = _
  rw [B]
/-! ### a number -/
theorem sm_ok {d1 : Slot} {x : Nat} {j : Nat} {rest M : Mem} (hM : IsSrc rest M) (hx : x < 10 ^ 10) :
    ∃ r M', r < 10 ∧ IsSrc rest M' ∧ lb_law_some_number_1 [.val (.ref 0), d1, .val (.int x), .val (.int ((0 : Int) + ((j : Nat) : Int)))] M = .ok (.next [.val (.ref 0), d1, .val (.int ((x * 10 + r : Nat) : Int)), .val (.int ((0 : Int) + ((j : Nat) : Int)))]) M' := by
  obtain ⟨v, M1, hM1, ⟨r, rfl, r0, r1⟩, e1⟩ := (g_draw (L := 10) (by decide) (by decide)).at hM
  refine ⟨r.toNat, M1, by omega, hM1, ?_⟩
  have m := mulP_ok (i := (x : Int)) (j := 10) (M := M) (mulW_ok (nat_log (by omega) (by omega)) (nat_log (by decide) (by decide)))
  have z : (x : Int) * 10 + r = ((x * 10 + r.toNat : Nat) : Int) := by omega
  unfold lb_law_some_number_1
  rw [setF_ap, stE_ap, op2_ap, op2_ap, getVar_ap]
  simp only [List.getElem?_cons_succ, List.getElem?_cons_zero, R.bind_ok, con_ap, m]
  have C : callE 2 f_law_draw (aCons (stE (getVar 0)) (aCons (stE (con (.int 10))) aNil)) [.val (.ref 0), d1, .val (.int x), .val (.int ((0 : Int) + ((j : Nat) : Int)))] M = .ok (.val (.int r)) M1 := by simp [e1]
  rw [C, R.bind_ok, addP_int, R.bind_ok, sto_val, R.bind_ok, z]
  rfl
theorem pow_le_ten {a : Nat} (h : a ≤ 10) : 10 ^ a ≤ 10 ^ 10 := Nat.pow_le_pow_right (by decide) h
theorem g_number : Gen (f_law_some_number [.ref 0]) (fun v => ∃ n : Nat, v = .val (.int n) ∧ n < 10 ^ 10) := fun t rest h => by
  obtain ⟨v, M1, hM1, ⟨r, rfl, r0, r1⟩, e1⟩ := (g_draw (L := 10) (by decide) (by decide)).at (rest := rest) ⟨t, h, rfl⟩
  have L := forGo_inv (t := tgN 3) (b := lb_law_some_number_1) (fun j : Nat => RS.D.int ((0 : Int) + ((j : Nat) : Int)))
    (fun l ρ M' => l.length ≤ 10 ∧ IsSrc rest M' ∧ ∃ (x : Nat) (d3 : Slot), x < 10 ^ (10 - l.length) ∧ ρ = [.val (.ref 0), .val (.int (1 + r)), .val (.int x), d3])
    (fun j l ρ M' ⟨hj, hm, x, d3, hx, e⟩ => by
      subst e
      obtain ⟨q, M2, h1, h2, h3⟩ := sm_ok (d1 := .val (.int (1 + r))) (x := x) (j := j) hm (Nat.lt_of_lt_of_le hx (pow_le_ten (by omega)))
      refine ⟨_, _, M2, rfl, .inl h3, by simp only [List.length_cons] at hj; omega, h2, x * 10 + q, _, ?_, rfl⟩
      have e2 : 10 - l.length = (10 - (j :: l).length) + 1 := by simp only [List.length_cons] at hj ⊢; omega
      rw [e2, Nat.pow_succ]
      omega)
    (List.range (1 + r).toNat) [.val (.ref 0), .val (.int (1 + r)), .val (.int ((0 : Nat) : Int)), .none] M1 ⟨by rw [List.length_range]; omega, hM1, 0, _, Nat.pow_pos (by decide), rfl⟩
  obtain ⟨ρ', M2, hg, _, hM2, x, d3, hx, e2⟩ := L
  subst e2
  have hx' : x < 10 ^ 10 := hx
  obtain ⟨v, M3, hM3, ⟨q, rfl, q0, q1⟩, e3⟩ := (g_draw (L := 4) (by decide) (by decide)).at hM2
  obtain ⟨t', k', rfl⟩ := hM3
  have pick : ∃ n : Nat, atI [RS.D.int x, .int 0, .int 9999999999, .int x] q = some (.int n) ∧ n < 10 ^ 10 := by
    have : q = 0 ∨ q = 1 ∨ q = 2 ∨ q = 3 := by omega
    rcases this with rfl | rfl | rfl | rfl
    · exact ⟨x, atI_zero _ _, hx'⟩
    · exact ⟨0, atI_one _ _ _, by decide⟩
    · exact ⟨9999999999, atI_two _ _ _ _, by decide⟩
    · exact ⟨x, atI_three _ _ _ _ _, hx'⟩
  obtain ⟨n, hn1, hn2⟩ := pick
  refine ⟨t', .val (.int n), k', ⟨n, rfl, hn2⟩, ?_⟩
  have hr : rng1 (aCons (stE (getVar 1)) aNil) [.val (.ref 0), .val (.int (1 + r)), .val (.int 0), .none] M1 = .ok ((List.range (1 + r).toNat).map fun (k : Nat) => RS.D.int ((0 : Int) + (k : Int))) M1 := by
    have c1 : (1 + r ≤ 16000000) := by omega
    have c2 : (-1099511627776 : Int) ≤ 1 + r := by omega
    unfold rng1
    simp [c1, c2]
  have C : op2 (con (.int 1)) (callE 2 f_law_draw (aCons (stE (getVar 0)) (aCons (stE (con (.int 10))) aNil))) addP [.val (.ref 0), .none, .none, .none] (some t.l :: rest) = .ok (.val (.int (1 + r))) M1 := by simp [e1]
  have C2 : op2 (lstE (aCons (stE (getVar 2)) (aCons (stE (con (.int 0))) (aCons (stE (con (.int 9999999999))) (aCons (stE (getVar 2)) aNil))))) (callE 2 f_law_draw (aCons (stE (getVar 0)) (aCons (stE (con (.int 4))) aNil))) idxP [.val (.ref 0), .val (.int (1 + r)), .val (.int x), d3] M2 = .ok (.val (.int n)) (some t'.l :: rest) := by
    simp [e3, LIM, hn1]
  have B : b_law_some_number [.val (.ref 0), .none, .none, .none] (some t.l :: rest) = .ok (.ret (.val (.int n))) (some t'.l :: rest) := by
    unfold b_law_some_number
    rw [seqF_ap, setF_ap, stE_ap, C, R.bind_ok, sto_val, R.bind_ok]
    simp only [List.set_cons_succ, List.set_cons_zero]
    rw [seqF_ap, setF_ap, stE_ap, con_ap, R.bind_ok, sto_val, R.bind_ok]
    simp only [List.set_cons_succ, List.set_cons_zero]
    rw [seqF_ap, forF_ap, hr, R.bind_ok]
    have hg' : forGo (tgN 3) lb_law_some_number_1 ((List.range (1 + r).toNat).map fun (k : Nat) => RS.D.int ((0 : Int) + (k : Int))) [.val (.ref 0), .val (.int (1 + r)), .val (.int 0), .none] M1 = _ := hg
    rw [hg']
    simp only
    rw [retF_ap, C2, R.bind_ok]
  unfold f_law_some_number fnD
  show (match b_law_some_number [.val (.ref 0), .none, .none, .none] (some t.l :: rest) with | .ok (.ret x) M' => _ | .ok (.next _) M' => _ | .exn c d M' => _ | _ => _) = _
  rw [B]
end K58
set_option Elab.async false
set_option linter.all false
set_option maxRecDepth 100000
set_option maxHeartbeats 4000000
/-! law_k58: conditions, rows, reasons drawn. -/
namespace K58
open PySem L2 RS
theorem cmpGo_st {α β : Type} {t : RS.D → Sl → Option Sl} {e : Sl → Mem → R RS.D} {ρ : Sl} {rest : Mem} (g : α → RS.D) (Fd : β → RS.D) (P : β → Prop) : ∀ (l : List α) (acc : List β) (M : Mem), IsSrc rest M → (∀ b ∈ acc, P b) →
    (∀ a ∈ l, ∀ M, IsSrc rest M → ∃ ρ1 b M', t (g a) ρ = some ρ1 ∧ P b ∧ IsSrc rest M' ∧ e ρ1 M = .ok (Fd b) M') →
    ∃ (bs : List β) (M' : Mem), bs.length = acc.length + l.length ∧ (∀ b ∈ bs, P b) ∧ IsSrc rest M' ∧ cmpGo t yesT e ρ (l.map g) (acc.map Fd) M = .ok (.own (bs.map Fd)) M'
  | [], acc, M, hM, ha, _ => ⟨acc, M, rfl, ha, hM, rfl⟩
  | a :: l, acc, M, hM, ha, st => by
    obtain ⟨ρ1, b, M1, h1, h2, h3, h4⟩ := st a List.mem_cons_self M hM
    obtain ⟨bs, M', i1, i2, i3, i4⟩ := cmpGo_st g Fd P l (acc ++ [b]) M1 h3 (fun x hx => by
      rcases List.mem_append.mp hx with hx | hx
      · exact ha x hx
      · have : x = b := by simpa using hx
        subst this; exact h2) (fun x hx => st x (List.mem_cons_of_mem _ hx))
    refine ⟨bs, M', ?_, i2, i3, ?_⟩
    · rw [i1]; simp only [List.length_append, List.length_cons, List.length_nil]; omega
    · rw [List.map_cons]
      unfold cmpGo
      rw [h1]
      simp only [yesT, h4]
      rw [List.map_append] at i4
      exact i4
theorem cmp_st {α β : Type} {fi : Sl → Mem → R (List RS.D)} {t : RS.D → Sl → Option Sl} {e : Sl → Mem → R RS.D} {vs : List Nat} {ρ : Sl} {rest M M1 : Mem} (g : α → RS.D) (Fd : β → RS.D) (P : β → Prop) (l : List α) (hM : IsSrc rest M1) (hf : fi ρ M = .ok (l.map g) M1) (hl : l.length ≤ SLIM)
    (st : ∀ a ∈ l, ∀ M, IsSrc rest M → ∃ ρ1 b M', t (g a) (wipeS ρ vs) = some ρ1 ∧ P b ∧ IsSrc rest M' ∧ e ρ1 M = .ok (Fd b) M') :
    ∃ (bs : List β) (M' : Mem), bs.length = l.length ∧ (∀ b ∈ bs, P b) ∧ IsSrc rest M' ∧ cmpE fi t yesT e vs ρ M = .ok (.own (bs.map Fd)) M' := by
  obtain ⟨bs, M', i1, i2, i3, i4⟩ := cmpGo_st (t := t) (e := e) (ρ := wipeS ρ vs) g Fd P l [] M1 hM (fun b hb => nomatch hb) st
  refine ⟨bs, M', by simpa using i1, i2, i3, ?_⟩
  unfold cmpE
  rw [hf, R.bind_ok, if_pos (by rw [List.length_map]; exact hl)]
  exact i4
/-- a call that draws, where the source is in slot 0 -/
theorem call_src0 {F : List RS.D → Mem → R Val} {P : Val → Prop} (g : Gen (F [.ref 0]) P) {ρ : Sl} {rest M : Mem} (h0 : ρ[0]? = some (.val (.ref 0))) (hM : IsSrc rest M) : ∃ v M', IsSrc rest M' ∧ P v ∧ callE 1 F (aCons (stE (getVar 0)) aNil) ρ M = .ok v M' := by
  obtain ⟨v, M', h1, h2, h3⟩ := g.at hM
  exact ⟨v, M', h1, h2, by simp [h0, h3]⟩
theorem draw_src0 (L : Int) (l0 : 0 < L) (l1 : L < 1000000000) {ρ : Sl} {rest M : Mem} (h0 : ρ[0]? = some (.val (.ref 0))) (hM : IsSrc rest M) : ∃ r M', IsSrc rest M' ∧ 0 ≤ r ∧ r < L ∧ callE 2 f_law_draw (aCons (stE (getVar 0)) (aCons (stE (con (.int L))) aNil)) ρ M = .ok (.val (.int r)) M' := by
  obtain ⟨v, M', h1, ⟨r, rfl, r0, r1⟩, h3⟩ := (g_draw l0 l1).at hM
  exact ⟨r, M', h1, r0, r1, by simp [h0, h3]⟩
theorem name_src0 {ρ : Sl} {rest M : Mem} (h0 : ρ[0]? = some (.val (.ref 0))) (hM : IsSrc rest M) : ∃ w M', IsSrc rest M' ∧ isName w = true ∧ (op2 (callE 2 f_law_some_names (aCons (stE (getVar 0)) (aCons (stE (con (.int 1))) aNil))) (con (.int 0)) idxP) ρ M = .ok (.val (.str (mk w))) M' := by
  obtain ⟨v, M', h1, ⟨ns, rfl, hl, ha⟩, h3⟩ := (g_some_names 1 (by decide)).at hM
  obtain ⟨w, rfl⟩ : ∃ w, ns = [w] := by
    match ns, hl with
    | [w], _ => exact ⟨w, rfl⟩
  refine ⟨w, M', h1, by simpa using ha, ?_⟩
  have h3' : f_law_some_names [.ref 0, .int 1] M = .ok (.val (namesD [w])) M' := h3
  simp [h0, h3', namesD]
/-- names drawn, as many as drawn -/
theorem names_src0 (L : Int) (l0 : 0 < L) (l1 : L ≤ 1000) {ρ : Sl} {rest M : Mem} (h0 : ρ[0]? = some (.val (.ref 0))) (hM : IsSrc rest M) : ∃ ns M', IsSrc rest M' ∧ ns.all isName = true ∧ ((ns.length : Nat) : Int) < L ∧ callE 2 f_law_some_names (aCons (stE (getVar 0)) (aCons (stE (callE 2 f_law_draw (aCons (stE (getVar 0)) (aCons (stE (con (.int L))) aNil)))) aNil)) ρ M = .ok (.val (namesD ns)) M' := by
  obtain ⟨r, M1, h1, r0, r1, e1⟩ := draw_src0 L l0 (by omega) h0 hM
  obtain ⟨k, rfl⟩ : ∃ k : Nat, r = (k : Int) := ⟨r.toNat, by omega⟩
  obtain ⟨v, M', h2, ⟨ns, rfl, hl, ha⟩, h3⟩ := (g_some_names k (by omega)).at h1
  refine ⟨ns, M', h2, ha, by omega, ?_⟩
  rw [callE_ap, aCons_ap, stE_ap, getVar_ap, h0]
  simp only [R.bind_ok, sto_val, aCons_ap, stE_ap, e1, aNil_ap, List.length_cons, List.length_nil, Nat.zero_add, Nat.reduceAdd, if_true, h3]
theorem number_src0 {ρ : Sl} {rest M : Mem} (h0 : ρ[0]? = some (.val (.ref 0))) (hM : IsSrc rest M) : ∃ n M', IsSrc rest M' ∧ n < 10 ^ 10 ∧ callE 1 f_law_some_number (aCons (stE (getVar 0)) aNil) ρ M = .ok (.val (.int (n : Nat))) M' := by
  obtain ⟨v, M', h1, ⟨n, rfl, hn⟩, h3⟩ := call_src0 g_number h0 hM
  exact ⟨n, M', h1, hn, h3⟩
theorem g_condition : Gen (f_law_some_condition [.ref 0]) (fun v => ∃ c, v = .val (condD c) ∧ condOk c) := fun t rest h => by
  obtain ⟨y, M1, hM1, y0, y1, e1⟩ := draw_src0 2 (by decide) (by decide) (ρ := [.val (.ref 0), .none, .none]) rfl (rest := rest) (M := some t.l :: rest) ⟨t, h, rfl⟩
  obtain ⟨q, M2, hM2, q0, q1, e2⟩ := draw_src0 3 (by decide) (by decide) (ρ := [.val (.ref 0), .val (.bl (y == 0)), .none]) rfl (rest := rest) hM1
  have fin : ∀ c M3, IsSrc rest M3 → condOk c → (seqF (ifF (tst (op2 (getVar 2) (con (.int 0)) (eqP false)))
 (retF (tupE (aCons (stE (con (.str "group"))) (aCons (stE (op2 (callE 2 f_law_some_names (aCons (stE (getVar 0)) (aCons (stE (con (.int 1))) aNil))) (con (.int 0)) idxP)) (aCons (stE (getVar 1)) aNil)))))
 nxt)
 (seqF (ifF (tst (op2 (getVar 2) (con (.int 1)) (eqP false)))
 (retF (tupE (aCons (stE (con (.str "share"))) (aCons (stE (op2 (callE 2 f_law_some_names (aCons (stE (getVar 0)) (aCons (stE (con (.int 1))) aNil))) (con (.int 0)) idxP)) (aCons (stE (callE 1 f_law_some_number (aCons (stE (getVar 0)) aNil))) (aCons (stE (callE 1 f_law_some_number (aCons (stE (getVar 0)) aNil))) (aCons (stE (getVar 1)) aNil)))))))
 nxt)
 (retF (tupE (aCons (stE (con (.str "days"))) (aCons (stE (callE 1 f_law_some_number (aCons (stE (getVar 0)) aNil))) (aCons (stE (callE 1 f_law_some_number (aCons (stE (getVar 0)) aNil))) (aCons (stE (getVar 1)) aNil)))))))) [.val (.ref 0), .val (.bl (y == 0)), .val (.int q)] M2 = .ok (.ret (.val (condD c))) M3 →
      ∃ t' v, SrcOk t' ∧ (∃ c, v = .val (condD c) ∧ condOk c) ∧ f_law_some_condition [.ref 0] (some t.l :: rest) = .ok v (some t'.l :: rest) := fun c M3 hM3 hc hB => by
    obtain ⟨t', k', rfl⟩ := hM3
    refine ⟨t', _, k', ⟨c, rfl, hc⟩, ?_⟩
    have S1 : setF 1 (op2 (callE 2 f_law_draw (aCons (stE (getVar 0)) (aCons (stE (con (.int 2))) aNil))) (con (.int 0)) (eqP false)) [.val (.ref 0), .none, .none] (some t.l :: rest) = .ok (.next [.val (.ref 0), .val (.bl (y == 0)), .none]) M1 := by
      rw [setF_ap, stE_ap, op2_ap, e1]
      simp
    have S2 : setF 2 (callE 2 f_law_draw (aCons (stE (getVar 0)) (aCons (stE (con (.int 3))) aNil))) [.val (.ref 0), .val (.bl (y == 0)), .none] M1 = .ok (.next [.val (.ref 0), .val (.bl (y == 0)), .val (.int q)]) M2 := by
      rw [setF_ap, stE_ap, e2]
      simp
    have B : b_law_some_condition [.val (.ref 0), .none, .none] (some t.l :: rest) = .ok (.ret (.val (condD c))) (some t'.l :: rest) := by
      unfold b_law_some_condition
      rw [seqF_ap, S1]
      simp only
      rw [seqF_ap, S2]
      simp only
      exact hB
    unfold f_law_some_condition fnD
    show (match b_law_some_condition [.val (.ref 0), .none, .none] (some t.l :: rest) with | .ok (.ret x) M' => _ | .ok (.next _) M' => _ | .exn c d M' => _ | _ => _) = _
    rw [B]
  generalize hy : (y == 0) = yes at fin
  have T0 : ∀ n : Int, tst (op2 (getVar 2) (con (.int n)) (eqP false)) [.val (.ref 0), .val (.bl yes), .val (.int q)] M2 = .ok (q == n) M2 := fun n => by simp
  have : q = 0 ∨ q = 1 ∨ q = 2 := by omega
  rcases this with rfl | rfl | rfl
  · obtain ⟨w, M3, hM3, hw, e3⟩ := name_src0 (ρ := [.val (.ref 0), .val (.bl yes), .val (.int 0)]) rfl hM2
    refine fin ⟨.group w, yes⟩ M3 hM3 ⟨hw, rfl⟩ ?_
    rw [seqF_ap, ifF_ap, T0, R.bind_ok, if_pos (by decide), retF_ap, tupE_ap, aCons_ap, stE_ap, con_ap]
    simp only [R.bind_ok, sto_val]
    rw [aCons_ap, stE_ap, e3]
    simp [LIM, condD, posD]
  · obtain ⟨w, M3, hM3, hw, e3⟩ := name_src0 (ρ := [.val (.ref 0), .val (.bl yes), .val (.int 1)]) rfl hM2
    obtain ⟨a, M4, hM4, ha, e4⟩ := number_src0 (ρ := [.val (.ref 0), .val (.bl yes), .val (.int 1)]) rfl hM3
    obtain ⟨b, M5, hM5, hb, e5⟩ := number_src0 (ρ := [.val (.ref 0), .val (.bl yes), .val (.int 1)]) rfl hM4
    refine fin ⟨.share w a b, yes⟩ M5 hM5 ⟨⟨hw, ha, hb⟩, rfl⟩ ?_
    rw [seqF_ap, ifF_ap, T0, R.bind_ok, if_neg (by decide), nxt_ap]
    simp only
    rw [seqF_ap, ifF_ap, T0, R.bind_ok, if_pos (by decide), retF_ap, tupE_ap, aCons_ap, stE_ap, con_ap]
    simp only [R.bind_ok, sto_val]
    rw [aCons_ap, stE_ap, e3]
    simp only [R.bind_ok, sto_val]
    rw [aCons_ap, stE_ap, e4]
    simp only [R.bind_ok, sto_val]
    rw [aCons_ap, stE_ap, e5]
    simp [LIM, condD, posD]
  · obtain ⟨a, M4, hM4, ha, e4⟩ := number_src0 (ρ := [.val (.ref 0), .val (.bl yes), .val (.int 2)]) rfl hM2
    obtain ⟨b, M5, hM5, hb, e5⟩ := number_src0 (ρ := [.val (.ref 0), .val (.bl yes), .val (.int 2)]) rfl hM4
    refine fin ⟨.days a b, yes⟩ M5 hM5 ⟨⟨ha, hb⟩, rfl⟩ ?_
    rw [seqF_ap, ifF_ap, T0, R.bind_ok, if_neg (by decide), nxt_ap]
    simp only
    rw [seqF_ap, ifF_ap, T0, R.bind_ok, if_neg (by decide), nxt_ap]
    simp only
    rw [retF_ap, tupE_ap, aCons_ap, stE_ap, con_ap]
    simp only [R.bind_ok, sto_val]
    rw [aCons_ap, stE_ap, e4]
    simp only [R.bind_ok, sto_val]
    rw [aCons_ap, stE_ap, e5]
    simp [LIM, condD, posD]
/-! ### rows -/
def RowSm (r : Row) : Prop := rowOk r ∧ (rowW r).length ≤ 6
theorem lift_ints {ds : List RS.D} : True := trivial
theorem sr_ok {out : List Row} {d3 d4 : Slot} {j : RS.D} {rest M : Mem} (hM : IsSrc rest M) (hn : out.length < 100) :
    ∃ r e3 e4 M', RowSm r ∧ IsSrc rest M' ∧ lb_law_some_rows_1 [.val (.ref 0), .own (out.map rowD), .val j, d3, d4] M = .ok (.next [.val (.ref 0), .own ((out ++ [r]).map rowD), .val j, e3, e4]) M' := by
  obtain ⟨q, M1, hM1, q0, q1, e1⟩ := draw_src0 3 (by decide) (by decide) (ρ := [.val (.ref 0), .own (out.map rowD), .val j, d3, d4]) rfl hM
  have S1 : setF 3 (callE 2 f_law_draw (aCons (stE (getVar 0)) (aCons (stE (con (.int 3))) aNil))) [.val (.ref 0), .own (out.map rowD), .val j, d3, d4] M = .ok (.next [.val (.ref 0), .own (out.map rowD), .val j, .val (.int q), d4]) M1 := by
    rw [setF_ap, stE_ap, e1]
    simp
  have T0 : ∀ n : Int, tst (op2 (getVar 3) (con (.int n)) (eqP false)) [.val (.ref 0), .own (out.map rowD), .val j, .val (.int q), d4] M1 = .ok (q == n) M1 := fun n => by simp
  have app : ∀ (f : FE) (r : Row) (M2 : Mem), stE f [.val (.ref 0), .own (out.map rowD), .val j, .val (.int q), d4] M1 = .ok (rowD r) M2 → appF 1 f [.val (.ref 0), .own (out.map rowD), .val j, .val (.int q), d4] M1 = .ok (.next [.val (.ref 0), .own ((out ++ [r]).map rowD), .val j, .val (.int q), d4]) M2 := fun f r M2 hf => by
    rw [appF_ap]
    simp only [List.getElem?_cons_succ, List.getElem?_cons_zero]
    rw [hf, R.bind_ok, if_pos (by rw [List.length_map]; unfold LIM; omega), List.map_append]
    rfl
  have : q = 0 ∨ q = 1 ∨ q = 2 := by omega
  unfold lb_law_some_rows_1
  rcases this with rfl | rfl | rfl
  · refine ⟨.void, .val (.int 0), d4, M1, ⟨trivial, by simp [rowW]⟩, hM1, ?_⟩
    rw [seqF_ap, S1]
    simp only
    rw [ifF_ap, T0, R.bind_ok, if_pos (by decide)]
    exact app _ .void M1 (by simp [LIM, rowD])
  · obtain ⟨k, M2, hM2, k0, k1, e2⟩ := draw_src0 5 (by decide) (by decide) (ρ := [.val (.ref 0), .own (out.map rowD), .val j, .val (.int 1), d4]) rfl hM1
    have hr : rng1 (aCons (stE (callE 2 f_law_draw (aCons (stE (getVar 0)) (aCons (stE (con (.int 5))) aNil)))) aNil) [.val (.ref 0), .own (out.map rowD), .val j, .val (.int 1), d4] M1 = .ok ((List.range k.toNat).map fun (k : Nat) => RS.D.int ((0 : Int) + (k : Int))) M2 := by
      have c1 : k ≤ 16000000 := by omega
      have c2 : (-1099511627776 : Int) ≤ k := by omega
      unfold rng1
      rw [aCons_ap, stE_ap, e2]
      simp [c1, c2]
    obtain ⟨ns, M3, h1, h2, h3, h4⟩ := cmp_st (fi := rng1 (aCons (stE (callE 2 f_law_draw (aCons (stE (getVar 0)) (aCons (stE (con (.int 5))) aNil)))) aNil)) (t := tgN 4) (e := stE (callE 1 f_law_some_number (aCons (stE (getVar 0)) aNil))) (vs := [4]) (ρ := [.val (.ref 0), .own (out.map rowD), .val j, .val (.int 1), d4]) (M := M1) (fun k : Nat => RS.D.int ((0 : Int) + (k : Int))) (fun n : Nat => RS.D.int n) (fun n => n < 10 ^ 10) (List.range k.toNat) hM2 hr (by rw [List.length_range]; unfold SLIM; omega)
      (fun a _ M hM => by
        obtain ⟨n, M', m1, m2, m3⟩ := number_src0 (ρ := [.val (.ref 0), .own (out.map rowD), .val j, .val (.int 1), .val (.int ((0 : Int) + (a : Int)))]) rfl hM
        exact ⟨_, n, M', rfl, m2, m1, by
          show stE _ [.val (.ref 0), .own (out.map rowD), .val j, .val (.int 1), .val (.int ((0 : Int) + (a : Int)))] M = _
          rw [stE_ap, m3]; rfl⟩)
    rw [List.length_range] at h1
    refine ⟨.shown ns, .val (.int 1), d4, M3, ⟨fun n hn => h2 n hn, by simp [rowW]; omega⟩, h3, ?_⟩
    rw [seqF_ap, S1]
    simp only
    rw [ifF_ap, T0, R.bind_ok, if_neg (by decide), ifF_ap, T0, R.bind_ok, if_pos (by decide)]
    exact app _ (.shown ns) M3 (by
      rw [stE_ap, tupE_ap, aCons_ap, stE_ap, con_ap]
      simp only [R.bind_ok, sto_val]
      rw [aCons_ap, stE_ap, op1_ap, h4]
      simp [LIM, rowD])
  · obtain ⟨v, M2, hM2, ⟨c, rfl, hc⟩, e2⟩ := call_src0 g_condition (ρ := [.val (.ref 0), .own (out.map rowD), .val j, .val (.int 2), d4]) rfl hM1
    refine ⟨.split c, .val (.int 2), d4, M2, ⟨hc, by have := condW_len c; simp [rowW]; omega⟩, hM2, ?_⟩
    rw [seqF_ap, S1]
    simp only
    rw [ifF_ap, T0, R.bind_ok, if_neg (by decide), ifF_ap, T0, R.bind_ok, if_neg (by decide)]
    exact app _ (.split c) M2 (by
      rw [stE_ap, tupE_ap, aCons_ap, stE_ap, con_ap]
      simp only [R.bind_ok, sto_val]
      rw [aCons_ap, stE_ap, e2]
      simp [LIM, rowD])
theorem g_rows : Gen (f_law_some_rows [.ref 0]) (fun v => ∃ t : List Row, v = .val (treeD t) ∧ t.length ≤ 4 ∧ ∀ r ∈ t, RowSm r) := fun t rest h => by
  obtain ⟨k, M1, hM1, k0, k1, e1⟩ := draw_src0 5 (by decide) (by decide) (ρ := [.val (.ref 0), .own [], .none, .none, .none]) rfl (rest := rest) (M := some t.l :: rest) ⟨t, h, rfl⟩
  have hr : rng1 (aCons (stE (callE 2 f_law_draw (aCons (stE (getVar 0)) (aCons (stE (con (.int 5))) aNil)))) aNil) [.val (.ref 0), .own [], .none, .none, .none] (some t.l :: rest) = .ok ((List.range k.toNat).map fun (k : Nat) => RS.D.int ((0 : Int) + (k : Int))) M1 := by
    have c1 : k ≤ 16000000 := by omega
    have c2 : (-1099511627776 : Int) ≤ k := by omega
    unfold rng1
    rw [aCons_ap, stE_ap, e1]
    simp [c1, c2]
  have L := forGo_inv (t := tgN 2) (b := lb_law_some_rows_1) (fun j : Nat => RS.D.int ((0 : Int) + ((j : Nat) : Int)))
    (fun l ρ M' => IsSrc rest M' ∧ ∃ (out : List Row) (d2 d3 d4 : Slot), (∀ r ∈ out, RowSm r) ∧ out.length + l.length = k.toNat ∧ ρ = [.val (.ref 0), .own (out.map rowD), d2, d3, d4])
    (fun j l ρ M' ⟨hm, out, d2, d3, d4, ha, hl, e⟩ => by
      subst e
      obtain ⟨r, e3, e4, M2, h1, h2, h3⟩ := sr_ok (out := out) (d3 := d3) (d4 := d4) (j := .int ((0 : Int) + ((j : Nat) : Int))) hm (by simp only [List.length_cons] at hl; omega)
      refine ⟨_, _, M2, rfl, .inl h3, h2, out ++ [r], _, _, _, ?_, ?_, rfl⟩
      · intro x hx
        rcases List.mem_append.mp hx with hx | hx
        · exact ha x hx
        · have : x = r := by simpa using hx
          subst this; exact h1
      · rw [List.length_append]; simp only [List.length_cons, List.length_nil] at hl ⊢; omega)
    (List.range k.toNat) [.val (.ref 0), .own ([].map rowD), .none, .none, .none] M1 ⟨hM1, [], _, _, _, (fun r hr => absurd hr List.not_mem_nil), (by simp), rfl⟩
  obtain ⟨ρ', M', hg, ⟨t', k', e⟩, out, d2, d3, d4, ha, hl, e2⟩ := L
  subst e; subst e2
  simp only [List.length_nil, Nat.add_zero] at hl
  refine ⟨t', .val (treeD out), k', ⟨out, rfl, by omega, ha⟩, ?_⟩
  have B : b_law_some_rows [.val (.ref 0), .none, .none, .none, .none] (some t.l :: rest) = .ok (.ret (.val (treeD out))) (some t'.l :: rest) := by
    unfold b_law_some_rows
    rw [seqF_ap, ownF_ap, lstE_ap, aNil_ap, R.bind_ok, if_pos (by simp), R.bind_ok]
    simp only [List.set_cons_succ, List.set_cons_zero]
    rw [seqF_ap, forF_ap, hr, R.bind_ok]
    have hg' : forGo (tgN 2) lb_law_some_rows_1 ((List.range k.toNat).map fun (k : Nat) => RS.D.int ((0 : Int) + (k : Int))) [.val (.ref 0), .own [], .none, .none, .none] M1 = _ := hg
    rw [hg']
    simp [treeD]
  unfold f_law_some_rows fnD
  show (match b_law_some_rows [.val (.ref 0), .none, .none, .none, .none] (some t.l :: rest) with | .ok (.ret x) M' => _ | .ok (.next _) M' => _ | .exn c d M' => _ | _ => _) = _
  rw [B]
end K58
set_option Elab.async false
set_option linter.all false
set_option maxRecDepth 100000
set_option maxHeartbeats 4000000
/-! law_k58: reasons, answers drawn. -/
namespace K58
open PySem L2 RS
def ReasonSm (q : Reason) : Prop := reasonOk q ∧ (reasonW q).length ≤ 8
theorem g_reasonG (word : Str) (why : Bool) (hw : (word == Str.ofString "loss") = why) (hb : why = false → word = "ban") : Gen (f_law_some_reason [.ref 0, .str word]) (fun v => ∃ q, v = .val (reasonD q) ∧ ReasonSm q ∧ (why = false → ∃ i, q.why = .ban i)) := fun t rest h => by
  obtain ⟨n, M1, hM1, hn, e1⟩ := number_src0 (ρ := [.val (.ref 0), .val (.str word), .none, .none]) rfl (rest := rest) (M := some t.l :: rest) ⟨t, h, rfl⟩
  have S1 : setF 2 (callE 1 f_law_some_number (aCons (stE (getVar 0)) aNil)) [.val (.ref 0), .val (.str word), .none, .none] (some t.l :: rest) = .ok (.next [.val (.ref 0), .val (.str word), .val (.int (n : Nat)), .none]) M1 := by
    rw [setF_ap, stE_ap, e1]; rfl
  have T : tst (op2 (getVar 1) (con (.str "loss")) (eqP false)) [.val (.ref 0), .val (.str word), .val (.int (n : Nat)), .none] M1 = .ok why M1 := by
    rw [← hw]
    rw [tst_ap, op2_ap]
    rfl
  -- the subject
  have S2 : ∃ (y : Why) (d : RS.D) (M2 : Mem), IsSrc rest M2 ∧ whyD y = [.str word, d] ∧ (match y with | .ban i => i < 10 ^ 10 | .loss x => isName x = true) ∧ (why = false → ∃ i, y = .ban i) ∧
      ifF (tst (op2 (getVar 1) (con (.str "loss")) (eqP false))) (setF 2 (op2 (callE 2 f_law_some_names (aCons (stE (getVar 0)) (aCons (stE (con (.int 1))) aNil))) (con (.int 0)) idxP)) nxt [.val (.ref 0), .val (.str word), .val (.int (n : Nat)), .none] M1 = .ok (.next [.val (.ref 0), .val (.str word), .val d, .none]) M2 := by
    cases why with
    | false =>
      refine ⟨.ban n, .int (n : Nat), M1, hM1, by rw [hb rfl]; rfl, hn, fun _ => ⟨n, rfl⟩, ?_⟩
      rw [ifF_ap, T, R.bind_ok, if_neg Bool.false_ne_true, nxt_ap]
    | true =>
      obtain ⟨w, M2, hM2, hw2, e2⟩ := name_src0 (ρ := [.val (.ref 0), .val (.str word), .val (.int (n : Nat)), .none]) rfl hM1
      refine ⟨.loss w, .str (mk w), M2, hM2, ?_, hw2, (fun z => absurd z (by decide)), ?_⟩
      · have : word = "loss" := by simpa using hw
        rw [this]; rfl
      · rw [ifF_ap, T, R.bind_ok, if_pos rfl, setF_ap, stE_ap, e2]; rfl
  obtain ⟨y, d, M2, hM2, hy, hyo, hyb, S2⟩ := S2
  obtain ⟨gs, M3, hM3, hg, hgl, e3⟩ := names_src0 4 (by decide) (by decide) (ρ := [.val (.ref 0), .val (.str word), .val d, .none]) rfl hM2
  obtain ⟨a, M4, hM4, ha, e4⟩ := number_src0 (ρ := [.val (.ref 0), .val (.str word), .val d, .val (namesD gs)]) rfl hM3
  obtain ⟨b, M5, hM5, hb', e5⟩ := number_src0 (ρ := [.val (.ref 0), .val (.str word), .val d, .val (namesD gs)]) rfl hM4
  obtain ⟨t', k', rfl⟩ := hM5
  have hlen : (reasonW ⟨y, ⟨a, gs, b⟩⟩).length ≤ 8 := by
    cases y <;> (simp [reasonW, visW]; omega)
  refine ⟨t', .val (reasonD ⟨y, ⟨a, gs, b⟩⟩), k', ⟨⟨y, ⟨a, gs, b⟩⟩, rfl, ⟨⟨hyo, ha, hb', hg⟩, hlen⟩, hyb⟩, ?_⟩
  have S3 : setF 3 (callE 2 f_law_some_names (aCons (stE (getVar 0)) (aCons (stE (callE 2 f_law_draw (aCons (stE (getVar 0)) (aCons (stE (con (.int 4))) aNil)))) aNil))) [.val (.ref 0), .val (.str word), .val d, .none] M2 = .ok (.next [.val (.ref 0), .val (.str word), .val d, .val (namesD gs)]) M3 := by
    rw [setF_ap, stE_ap, e3]; rfl
  have B : b_law_some_reason [.val (.ref 0), .val (.str word), .none, .none] (some t.l :: rest) = .ok (.ret (.val (reasonD ⟨y, ⟨a, gs, b⟩⟩))) (some t'.l :: rest) := by
    unfold b_law_some_reason
    rw [seqF_ap, S1]
    simp only
    rw [seqF_ap, S2]
    simp only
    rw [seqF_ap, S3]
    simp only
    rw [retF_ap, tupE_ap, aCons_ap, stE_ap, getVar_ap]
    simp only [List.getElem?_cons_succ, List.getElem?_cons_zero, R.bind_ok, sto_val]
    rw [aCons_ap, stE_ap, getVar_ap]
    simp only [List.getElem?_cons_succ, List.getElem?_cons_zero, R.bind_ok, sto_val]
    rw [aCons_ap, stE_ap, tupE_ap, aCons_ap, stE_ap, e4]
    simp only [R.bind_ok, sto_val]
    rw [aCons_ap, stE_ap, getVar_ap]
    simp only [List.getElem?_cons_succ, List.getElem?_cons_zero, R.bind_ok, sto_val]
    rw [aCons_ap, stE_ap, e5]
    simp only [R.bind_ok, sto_val, aNil_ap, List.length_cons, List.length_nil, Nat.zero_add, Nat.reduceAdd]
    rw [if_pos (by unfold LIM; omega)]
    simp only [R.bind_ok, sto_val, List.length_cons, List.length_nil, Nat.zero_add, Nat.reduceAdd]
    rw [if_pos (by unfold LIM; omega)]
    simp only [R.bind_ok, reasonD, hy, visD, namesD, List.cons_append, List.nil_append]
  unfold f_law_some_reason fnD
  show (match b_law_some_reason [.val (.ref 0), .val (.str word), .none, .none] (some t.l :: rest) with | .ok (.ret x) M' => _ | .ok (.next _) M' => _ | .exn c d M' => _ | _ => _) = _
  rw [B]
theorem g_ban : Gen (f_law_some_reason [.ref 0, .str "ban"]) (fun v => ∃ q, v = .val (reasonD q) ∧ ReasonSm q ∧ ∃ i, q.why = .ban i) := fun t rest h => by
  obtain ⟨t', v, a, ⟨q, b, c, d⟩, e⟩ := g_reasonG "ban" false (by decide +kernel) (fun _ => rfl) t rest h
  exact ⟨t', v, a, ⟨q, b, c, d rfl⟩, e⟩
theorem g_loss : Gen (f_law_some_reason [.ref 0, .str "loss"]) (fun v => ∃ q, v = .val (reasonD q) ∧ ReasonSm q) := fun t rest h => by
  obtain ⟨t', v, a, ⟨q, b, c, d⟩, e⟩ := g_reasonG "loss" true (by decide +kernel) (fun z => absurd z (by decide)) t rest h
  exact ⟨t', v, a, ⟨q, b, c⟩, e⟩
/-! ### courses -/
def weave : List (List Row) → List (List Row) → List (List Row)
  | s :: ss, m :: mm => s :: m :: weave ss mm
  | [s], [] => [s]
  | _, _ => []
theorem weave_st : ∀ (ss mm : List (List Row)), ss.length = mm.length + 1 → stD (weave ss mm) = ss.map treeD ∧ trD (weave ss mm) = mm.map treeD ∧ (weave ss mm).length = 2 * mm.length + 1
  | [s], [], _ => ⟨rfl, rfl, rfl⟩
  | s :: s2 :: ss, m :: mm, h => by
    obtain ⟨h1, h2, h3⟩ := weave_st (s2 :: ss) mm (by simp at h ⊢; omega)
    have e : weave (s :: s2 :: ss) (m :: mm) = s :: m :: weave (s2 :: ss) mm := rfl
    rw [e]
    refine ⟨by rw [stD_two, h1]; rfl, by rw [trD_two, h2]; rfl, by rw [List.length_cons, List.length_cons, h3, List.length_cons]; omega⟩
theorem weave_mem : ∀ (ss mm : List (List Row)) (t : List Row), t ∈ weave ss mm → t ∈ ss ∨ t ∈ mm
  | [], _, t, h => by cases h
  | [s], [], t, h => .inl h
  | s :: s2 :: ss, [], t, h => by cases h
  | s :: ss, m :: mm, t, h => by
    have e : weave (s :: ss) (m :: mm) = s :: m :: weave ss mm := rfl
    rw [e] at h
    rcases List.mem_cons.mp h with rfl | h
    · exact .inl (by simp)
    · rcases List.mem_cons.mp h with rfl | h
      · exact .inr (by simp)
      · rcases weave_mem ss mm t h with h | h
        · exact .inl (List.mem_cons_of_mem _ h)
        · exact .inr (List.mem_cons_of_mem _ h)
theorem treesW_sm : ∀ (ts : List (List Row)) (k : Nat) (ms : List W), (∀ t ∈ ts, t.length ≤ 4 ∧ ∀ r ∈ t, RowSm r) → (treesW k ms ts).length ≤ 5 * ts.length ∧ ∀ l ∈ treesW k ms ts, l.length ≤ 6
  | [], k, ms, _ => ⟨by simp [treesW], fun l hl => by simp [treesW] at hl⟩
  | t :: ts, k, ms, h => by
    obtain ⟨ht, hr⟩ := h t (by simp)
    have hts := fun u hu => h u (List.mem_cons_of_mem _ hu)
    unfold treesW
    by_cases hk : k % 2 = 0
    · rw [if_pos hk]
      obtain ⟨i1, i2⟩ := treesW_sm ts (k + 1) ms hts
      refine ⟨by simp only [List.length_cons, List.length_append, List.length_map]; omega, fun l hl => ?_⟩
      rcases List.mem_cons.mp hl with rfl | hl
      · simp
      · rcases List.mem_append.mp hl with hl | hl
        · obtain ⟨r, hr', rfl⟩ := List.mem_map.mp hl
          exact (hr r hr').2
        · exact i2 l hl
    · rw [if_neg hk]
      cases ms with
      | nil => exact ⟨by simp, fun l hl => by cases hl⟩
      | cons m ms =>
        obtain ⟨i1, i2⟩ := treesW_sm ts (k + 1) ms hts
        refine ⟨by simp only [List.length_cons, List.length_append, List.length_map]; omega, fun l hl => ?_⟩
        rcases List.mem_cons.mp hl with rfl | hl
        · simp
        · rcases List.mem_append.mp hl with hl | hl
          · obtain ⟨r, hr', rfl⟩ := List.mem_map.mp hl
            exact (hr r hr').2
          · exact i2 l hl
def AnsSm (a : Answer) : Prop := answerOk a ∧ (answerW a).length ≤ 60 ∧ ∀ l ∈ answerW a, l.length ≤ 10
theorem course_sm {ms : List W} {ss mm : List (List Row)} (hm : ms.all isName = true) (h4 : ms.length ≤ 4) (hs : ss.length = ms.length + 1) (hmm : mm.length = ms.length) (h1 : ∀ t ∈ ss, t.length ≤ 4 ∧ ∀ r ∈ t, RowSm r) (h2 : ∀ t ∈ mm, t.length ≤ 4 ∧ ∀ r ∈ t, RowSm r) : AnsSm (.course ms (weave ss mm)) := by
  obtain ⟨w1, w2, w3⟩ := weave_st ss mm (by omega)
  have hall : ∀ t ∈ weave ss mm, t.length ≤ 4 ∧ ∀ r ∈ t, RowSm r := fun t ht => by
    rcases weave_mem ss mm t ht with h | h
    · exact h1 t h
    · exact h2 t h
  obtain ⟨t1, t2⟩ := treesW_sm (weave ss mm) 0 ms hall
  refine ⟨⟨⟨?_, fun m hm' => List.all_eq_true.mp hm m hm', fun t ht r hr => ((hall t ht).2 r hr).1⟩, by omega⟩, ?_, ?_⟩
  · show ms.length = (weave ss mm).length / 2
    omega
  · show ([sl "course"] :: treesW 0 ms (weave ss mm)).length ≤ 60
    rw [List.length_cons]; omega
  · intro l hl
    have hl' : l ∈ [sl "course"] :: treesW 0 ms (weave ss mm) := hl
    rcases List.mem_cons.mp hl' with rfl | h
    · simp
    · have := t2 l h; omega
theorem rows_cmp {α : Type} {i : Nat} {fi : Sl → Mem → R (List RS.D)} {ρ : Sl} {rest M : Mem} (g : α → RS.D) (l : List α) (h0 : ρ[0]? = some (.val (.ref 0))) (hi : 0 < i) (hM : IsSrc rest M) (hf : fi ρ M = .ok (l.map g) M) (hl : l.length ≤ 100) :
    ∃ (ts : List (List Row)) (M' : Mem), ts.length = l.length ∧ (∀ t ∈ ts, t.length ≤ 4 ∧ ∀ r ∈ t, RowSm r) ∧ IsSrc rest M' ∧ cmpE fi (tgN i) yesT (stE (callE 1 f_law_some_rows (aCons (stE (getVar 0)) aNil))) [i] ρ M = .ok (.own (ts.map treeD)) M' := by
  refine cmp_st g treeD (fun t => t.length ≤ 4 ∧ ∀ r ∈ t, RowSm r) l hM hf (by unfold SLIM; omega) (fun a _ M hM => ?_)
  have h0' : ((wipeS ρ [i]).set i (.val (g a)))[0]? = some (.val (.ref 0)) := by
    rw [List.getElem?_set_ne (by omega)]
    show (ρ.set i Slot.none)[0]? = _
    rw [List.getElem?_set_ne (by omega)]; exact h0
  obtain ⟨v, M', hM', ⟨t, rfl, p1, p2⟩, e⟩ := call_src0 g_rows h0' hM
  exact ⟨_, t, M', rfl, ⟨p1, p2⟩, hM', by rw [stE_ap, e]; rfl⟩
end K58
set_option Elab.async false
set_option linter.all false
set_option maxRecDepth 100000
set_option maxHeartbeats 4000000
/-! law_k58: an answer drawn. -/
namespace K58
open PySem L2 RS
def BlockSm (b : Block) : Prop := b.1.all isName = true ∧ b.1.length ≤ 4 ∧ b.2.length ≤ 3 ∧ ∀ e ∈ b.2, isName e.1 = true ∧ ReasonSm e.2
theorem encl_sm {bs : List Block} (h4 : bs.length ≤ 4) (h : ∀ b ∈ bs, BlockSm b) : AnsSm (.enclosure bs) := by
  have hb : ∀ b ∈ bs, (blockW b).length ≤ 4 ∧ ∀ l ∈ blockW b, l.length ≤ 10 := fun b hb => by
    obtain ⟨h1, h2, h3, h5⟩ := h b hb
    refine ⟨by simp [blockW]; omega, fun l hl => ?_⟩
    rcases List.mem_cons.mp hl with rfl | hl
    · simp; omega
    · obtain ⟨e, he, rfl⟩ := List.mem_map.mp hl
      have := (h5 e he).2.2
      simp [exitW]; omega
  have hlen : ∀ l : List Block, (∀ b ∈ l, b ∈ bs) → (l.flatMap blockW).length ≤ 4 * l.length := by
    intro l
    induction l with
    | nil => intro _; simp
    | cons a l ih =>
      intro hm
      have h1 := (hb a (hm a (by simp))).1
      have h2 := ih fun b hb => hm b (List.mem_cons_of_mem _ hb)
      rw [List.flatMap_cons, List.length_append, List.length_cons]; omega
  have hall : answerW (.enclosure bs) = [[sl "enclosure"]] ++ bs.flatMap blockW := by rw [← blocks_flat]; rfl
  refine ⟨fun b hb' => ⟨(h b hb').1, fun e he => ⟨((h b hb').2.2.2 e he).1, ((h b hb').2.2.2 e he).2.1⟩⟩, ?_, ?_⟩
  · have := hlen bs fun b hb => hb
    rw [hall, List.length_append]; simp only [List.length_singleton]; omega
  · intro l hl
    rw [hall] at hl
    rcases List.mem_append.mp hl with hl | hl
    · have : l = [sl "enclosure"] := by simpa using hl
      subst this; simp
    · obtain ⟨b, hb', hl⟩ := List.mem_flatMap.mp hl
      exact (hb b hb').2 l hl
abbrev asl (k d4 d5 : Slot) (bs : List Block) (d7 d8 d9 : Slot) : Sl := [.val (.ref 0), k, .none, .none, d4, d5, .own (bs.map blockD), d7, d8, d9]
theorem words_two {r : Int} (h0 : 0 ≤ r) (h1 : r < 2) : ∃ w : Str, atI [RS.D.str "ban", .str "loss"] r = some (.str w) ∧ (w = "ban" ∨ w = "loss") := by
  have : r = 0 ∨ r = 1 := by omega
  rcases this with rfl | rfl
  · exact ⟨_, atI_zero _ _, .inl rfl⟩
  · exact ⟨_, atI_one _ _ _, .inr rfl⟩
theorem ex_one {k d4 d5 d7 : Slot} {bs : List Block} {es : List (W × Reason)} {w : W} {rest M : Mem} (hM : IsSrc rest M) (hn : es.length < 100) :
    ∃ q M', ReasonSm q ∧ IsSrc rest M' ∧ lb_law_some_answer_1 (asl k d4 d5 bs d7 (.own (es.map exitD)) (.val (.str (mk w)))) M = .ok (.next (asl k d4 d5 bs d7 (.own ((es ++ [(w, q)]).map exitD)) (.val (.str (mk w))))) M' := by
  obtain ⟨r, M1, hM1, r0, r1, e1⟩ := draw_src0 2 (by decide) (by decide) (ρ := asl k d4 d5 bs d7 (.own (es.map exitD)) (.val (.str (mk w)))) rfl hM
  obtain ⟨z, hz1, hz2⟩ := words_two r0 r1
  have G : ∃ q M2, ReasonSm q ∧ IsSrc rest M2 ∧ f_law_some_reason [.ref 0, .str z] M1 = .ok (.val (reasonD q)) M2 := by
    rcases hz2 with rfl | rfl
    · obtain ⟨v, M2, h1, ⟨q, rfl, h2, _⟩, h3⟩ := g_ban.at hM1
      exact ⟨q, M2, h2, h1, h3⟩
    · obtain ⟨v, M2, h1, ⟨q, rfl, h2⟩, h3⟩ := g_loss.at hM1
      exact ⟨q, M2, h2, h1, h3⟩
  obtain ⟨q, M2, hq, hM2, e2⟩ := G
  refine ⟨q, M2, hq, hM2, ?_⟩
  have C0 : (op2 (lstE (aCons (stE (con (.str "ban"))) (aCons (stE (con (.str "loss"))) aNil))) (callE 2 f_law_draw (aCons (stE (getVar 0)) (aCons (stE (con (.int 2))) aNil))) idxP) (asl k d4 d5 bs d7 (.own (es.map exitD)) (.val (.str (mk w)))) M = .ok (.val (.str z)) M1 := by
    rw [op2_ap]
    have L0 : lstE (aCons (stE (con (.str "ban"))) (aCons (stE (con (.str "loss"))) aNil)) (asl k d4 d5 bs d7 (.own (es.map exitD)) (.val (.str (mk w)))) M = .ok (.own [.str "ban", .str "loss"]) M := by simp [LIM]
    rw [L0, R.bind_ok, e1, R.bind_ok, idxP_own, hz1]
  have C : callE 2 f_law_some_reason (aCons (stE (getVar 0)) (aCons (stE (op2 (lstE (aCons (stE (con (.str "ban"))) (aCons (stE (con (.str "loss"))) aNil))) (callE 2 f_law_draw (aCons (stE (getVar 0)) (aCons (stE (con (.int 2))) aNil))) idxP)) aNil)) (asl k d4 d5 bs d7 (.own (es.map exitD)) (.val (.str (mk w)))) M = .ok (.val (reasonD q)) M2 := by
    rw [callE_ap, aCons_ap, stE_ap, getVar_ap]
    simp only [List.getElem?_cons_succ, List.getElem?_cons_zero, R.bind_ok, sto_val]
    rw [aCons_ap, stE_ap, C0]
    simp only [R.bind_ok, sto_val, aNil_ap, List.length_cons, List.length_nil, Nat.zero_add, Nat.reduceAdd, if_true]
    exact e2
  unfold lb_law_some_answer_1
  rw [appF_ap]
  simp only [List.getElem?_cons_succ, List.getElem?_cons_zero]
  rw [stE_ap, tupE_ap, aCons_ap, stE_ap, getVar_ap]
  simp only [List.getElem?_cons_succ, List.getElem?_cons_zero, R.bind_ok, sto_val]
  rw [aCons_ap, stE_ap, C]
  simp only [R.bind_ok, sto_val, aNil_ap, List.length_cons, List.length_nil, Nat.zero_add, Nat.reduceAdd]
  rw [if_pos (by unfold LIM; omega)]
  simp only [R.bind_ok, sto_val]
  rw [if_pos (by rw [List.length_map]; unfold LIM; omega), List.map_append]
  rfl
theorem bl_one {k d5 d7 d8 d9 : Slot} {d4 : Slot} {bs : List Block} {rest M : Mem} (hM : IsSrc rest M) (hn : bs.length < 100) :
    ∃ b e7 e8 e9 M', BlockSm b ∧ IsSrc rest M' ∧ lb_law_some_answer_2 (asl k d4 d5 bs d7 d8 d9) M = .ok (.next (asl k d4 d5 (bs ++ [b]) e7 e8 e9)) M' := by
  obtain ⟨gs, M1, hM1, hg, hgl, e1⟩ := names_src0 5 (by decide) (by decide) (ρ := asl k d4 d5 bs d7 d8 d9) rfl hM
  obtain ⟨ns, M2, hM2, hns, hnl, e2⟩ := names_src0 4 (by decide) (by decide) (ρ := asl k d4 d5 bs (.val (namesD gs)) (.own []) d9) rfl hM1
  have S1 : setF 7 (callE 2 f_law_some_names (aCons (stE (getVar 0)) (aCons (stE (callE 2 f_law_draw (aCons (stE (getVar 0)) (aCons (stE (con (.int 5))) aNil)))) aNil))) (asl k d4 d5 bs d7 d8 d9) M = .ok (.next (asl k d4 d5 bs (.val (namesD gs)) d8 d9)) M1 := by
    rw [setF_ap, stE_ap, e1]; rfl
  have S2 : ownF 8 (lstE aNil) (asl k d4 d5 bs (.val (namesD gs)) d8 d9) M1 = .ok (.next (asl k d4 d5 bs (.val (namesD gs)) (.own []) d9)) M1 := by
    rw [ownF_ap, lstE_ap, aNil_ap, R.bind_ok, if_pos (by simp), R.bind_ok]; rfl
  have L := forGo_inv (t := tgN 9) (b := lb_law_some_answer_1) (fun w : W => RS.D.str (mk w))
    (fun l ρ M' => (∀ w ∈ l, w ∈ ns) ∧ IsSrc rest M' ∧ ∃ (es : List (W × Reason)) (d9 : Slot), (∀ e ∈ es, isName e.1 = true ∧ ReasonSm e.2) ∧ es.length + l.length = ns.length ∧ ρ = asl k d4 d5 bs (.val (namesD gs)) (.own (es.map exitD)) d9)
    (fun w l ρ M' ⟨hw, hm, es, d9, ha, hl, e⟩ => by
      subst e
      obtain ⟨q, M2, h1, h2, h3⟩ := ex_one (k := k) (d4 := d4) (d5 := d5) (d7 := .val (namesD gs)) (bs := bs) (es := es) (w := w) hm (by simp only [List.length_cons] at hl; omega)
      refine ⟨_, _, M2, rfl, .inl h3, fun x hx => hw x (List.mem_cons_of_mem _ hx), h2, es ++ [(w, q)], _, ?_, ?_, rfl⟩
      · intro x hx
        rcases List.mem_append.mp hx with hx | hx
        · exact ha x hx
        · have : x = (w, q) := by simpa using hx
          subst this; exact ⟨List.all_eq_true.mp hns w (hw w (by simp)), h1⟩
      · rw [List.length_append]; simp only [List.length_cons, List.length_nil] at hl ⊢; omega)
    ns (asl k d4 d5 bs (.val (namesD gs)) (.own ([].map exitD)) d9) M2 ⟨fun w hw => hw, hM2, [], _, (fun e he => absurd he List.not_mem_nil), (by simp), rfl⟩
  obtain ⟨ρ', M', hg', _, hM', es, e9, ha, hl, e3⟩ := L
  subst e3
  simp only [List.length_nil, Nat.add_zero] at hl
  refine ⟨(gs, es), .val (namesD gs), .own (es.map exitD), e9, M', ⟨hg, show gs.length ≤ 4 by omega, show es.length ≤ 3 by omega, ha⟩, hM', ?_⟩
  unfold lb_law_some_answer_2
  rw [seqF_ap, S1]
  simp only
  rw [seqF_ap, S2]
  simp only
  rw [seqF_ap, forF_ap, seqE_ap, stE_ap, e2]
  simp only [R.bind_ok, sto_val]
  have hg2 : forGo (tgN 9) lb_law_some_answer_1 (tx ns) (asl k d4 d5 bs (.val (namesD gs)) (.own []) d9) M2 = _ := hg'
  show (match forGo (tgN 9) lb_law_some_answer_1 (tx ns) (asl k d4 d5 bs (.val (namesD gs)) (.own []) d9) M2 with | .ok (.next ρ') M' => _ | r => r) = _
  rw [hg2]
  simp only
  rw [appF_ap]
  simp only [List.getElem?_cons_succ, List.getElem?_cons_zero]
  rw [stE_ap, tupE_ap, aCons_ap, stE_ap, getVar_ap]
  simp only [List.getElem?_cons_succ, List.getElem?_cons_zero, R.bind_ok, sto_val]
  rw [aCons_ap, stE_ap, op1_ap, getVar_ap]
  simp only [List.getElem?_cons_succ, List.getElem?_cons_zero, R.bind_ok, tupP_bor, sto_val, aNil_ap, List.length_cons, List.length_nil, Nat.zero_add, Nat.reduceAdd]
  rw [if_pos (by unfold LIM; omega)]
  simp only [R.bind_ok, sto_val]
  have hmap : (bs ++ [(gs, es)]).map blockD = bs.map blockD ++ [.tup [namesD gs, .tup (es.map exitD)]] := by rw [List.map_append]; rfl
  rw [if_pos (by rw [List.length_map]; unfold LIM; omega), ← hmap]
  rfl
def sa1 : FS := (seqF (setF 2 (callE 2 f_law_some_names (aCons (stE (getVar 0)) (aCons (stE (callE 2 f_law_draw (aCons (stE (getVar 0)) (aCons (stE (con (.int 5))) aNil)))) aNil))))
 (seqF (setF 3 (op1 (cmpE (rng1 (aCons (stE (op2 (op1 (getVar 2) lenP) (con (.int 1)) addP)) aNil)) (tgN 4) yesT (stE (callE 1 f_law_some_rows (aCons (stE (getVar 0)) aNil))) [4]) tupP))
 (retF (tupE (aCons (stE (con (.str "course"))) (aCons (stE (getVar 2)) (aCons (stE (getVar 3)) (aCons (stE (op1 (cmpE (seqE (getVar 2)) (tgN 5) yesT (stE (callE 1 f_law_some_rows (aCons (stE (getVar 0)) aNil))) [5]) tupP)) aNil))))))))
def sa2 : FS := (seqF (ownF 6 (lstE aNil))
 (seqF (forF (rng1 (aCons (stE (callE 2 f_law_draw (aCons (stE (getVar 0)) (aCons (stE (con (.int 5))) aNil)))) aNil)) (tgN 4)
 lb_law_some_answer_2)
 (retF (tupE (aCons (stE (con (.str "enclosure"))) (aCons (stE (op1 (getVar 6) tupP)) aNil))))))
def sa3 : FS := (retF (tupE (aCons (stE (con (.str "spoiled"))) (aCons (stE (callE 2 f_law_some_reason (aCons (stE (getVar 0)) (aCons (stE (con (.str "ban"))) aNil)))) aNil))))
theorem sa_is : b_law_some_answer = seqF (setF 1 (callE 2 f_law_draw (aCons (stE (getVar 0)) (aCons (stE (con (.int 3))) aNil)))) (seqF (ifF (tst (op2 (getVar 1) (con (.int 0)) (eqP false))) sa1 nxt) (seqF (ifF (tst (op2 (getVar 1) (con (.int 1)) (eqP false))) sa2 nxt) sa3)) := rfl
abbrev sl10 (k : Slot) : Sl := [.val (.ref 0), k, .none, .none, .none, .none, .none, .none, .none, .none]
theorem rng1_nat {fs : Sl → Mem → R (List RS.D)} {ρ : Sl} {M M' : Mem} {n : Nat} (hf : fs ρ M = .ok [.int ((n : Nat) : Int)] M') (h : n ≤ 16000000) : rng1 fs ρ M = .ok ((List.range n).map fun (k : Nat) => RS.D.int ((0 : Int) + (k : Int))) M' := by
  have c1 : ((n : Int) ≤ 16000000) := by omega
  have c2 : (-1099511627776 : Int) ≤ (n : Int) := by omega
  have e : (-(2 ^ 40) : Int) = -1099511627776 := by decide +kernel
  unfold rng1
  rw [hf, R.bind_ok]
  simp only
  rw [e, if_pos ⟨c2, c1⟩, Int.toNat_natCast]
theorem len_rng2 {ms : List W} {M : Mem} {k : Slot} (h : ms.length ≤ 100) : rng1 (aCons (stE (op2 (op1 (getVar 2) lenP) (con (.int 1)) addP)) aNil) [.val (.ref 0), k, .val (namesD ms), .none, .none, .none, .none, .none, .none, .none] M = .ok ((List.range (ms.length + 1)).map fun (k : Nat) => RS.D.int ((0 : Int) + (k : Int))) M := by
  refine rng1_nat ?_ (by omega)
  have e : (((tx ms).length : Nat) : Int) + 1 = ((ms.length + 1 : Nat) : Int) := by rw [List.length_map]; omega
  rw [aCons_ap, stE_ap, op2_ap, op1_ap, getVar_ap]
  simp only [List.getElem?_cons_succ, List.getElem?_cons_zero, R.bind_ok, namesD, lenP_tup, con_ap, addP_int, sto_val, aNil_ap, e]
theorem sa1_ok {k : Slot} {rest M1 : Mem} (hM1 : IsSrc rest M1) : ∃ a M3, IsSrc rest M3 ∧ AnsSm a ∧ sa1 (sl10 k) M1 = .ok (.ret (.val (answerD a))) M3 := by
  obtain ⟨ms, M2, hM2, hm, hml, e2⟩ := names_src0 5 (by decide) (by decide) (ρ := sl10 k) rfl hM1
  have hr := len_rng2 (ms := ms) (M := M2) (k := k) (by omega)
  obtain ⟨ss, M3, s1, s2, hM3, s4⟩ := rows_cmp (i := 4) (fi := rng1 (aCons (stE (op2 (op1 (getVar 2) lenP) (con (.int 1)) addP)) aNil)) (ρ := [.val (.ref 0), k, .val (namesD ms), .none, .none, .none, .none, .none, .none, .none]) (fun k : Nat => RS.D.int ((0 : Int) + (k : Int))) (List.range (ms.length + 1)) rfl (by decide) hM2 hr (by rw [List.length_range]; omega)
  obtain ⟨mm, M4, m1, m2, hM4, m4⟩ := rows_cmp (i := 5) (fi := seqE (getVar 2)) (ρ := [.val (.ref 0), k, .val (namesD ms), .val (.tup (ss.map treeD)), .none, .none, .none, .none, .none, .none]) (fun w : W => RS.D.str (mk w)) ms rfl (by decide) hM3 rfl (by omega)
  rw [List.length_range] at s1
  obtain ⟨w1, w2, w3⟩ := weave_st ss mm (by omega)
  refine ⟨.course ms (weave ss mm), M4, hM4, course_sm hm (by omega) s1 m1 s2 m2, ?_⟩
  have S2 : setF 2 (callE 2 f_law_some_names (aCons (stE (getVar 0)) (aCons (stE (callE 2 f_law_draw (aCons (stE (getVar 0)) (aCons (stE (con (.int 5))) aNil)))) aNil))) (sl10 k) M1 = .ok (.next [.val (.ref 0), k, .val (namesD ms), .none, .none, .none, .none, .none, .none, .none]) M2 := by
    rw [setF_ap, stE_ap, e2, R.bind_ok, sto_val, R.bind_ok]; rfl
  have S3 : setF 3 (op1 (cmpE (rng1 (aCons (stE (op2 (op1 (getVar 2) lenP) (con (.int 1)) addP)) aNil)) (tgN 4) yesT (stE (callE 1 f_law_some_rows (aCons (stE (getVar 0)) aNil))) [4]) tupP) [.val (.ref 0), k, .val (namesD ms), .none, .none, .none, .none, .none, .none, .none] M2 = .ok (.next [.val (.ref 0), k, .val (namesD ms), .val (.tup (ss.map treeD)), .none, .none, .none, .none, .none, .none]) M3 := by
    rw [setF_ap, stE_ap, op1_ap, s4, R.bind_ok, tupP_own, R.bind_ok, sto_val, R.bind_ok]; rfl
  have hD : answerD (.course ms (weave ss mm)) = .tup [.str "course", namesD ms, .tup (ss.map treeD), .tup (mm.map treeD)] := by
    show courseD ms (weave ss mm) = _
    unfold courseD
    rw [w1, w2]; rfl
  rw [hD]
  unfold sa1
  rw [seqF_ap, S2]
  simp only
  rw [seqF_ap, S3]
  simp only
  rw [retF_ap, tupE_ap, aCons_ap, stE_ap, con_ap]
  simp only [R.bind_ok, sto_val]
  rw [aCons_ap, stE_ap, getVar_ap]
  simp only [List.getElem?_cons_succ, List.getElem?_cons_zero, R.bind_ok, sto_val]
  rw [aCons_ap, stE_ap, getVar_ap]
  simp only [List.getElem?_cons_succ, List.getElem?_cons_zero, R.bind_ok, sto_val]
  rw [aCons_ap, stE_ap, op1_ap, m4]
  simp only [R.bind_ok, tupP_own, sto_val, aNil_ap, List.length_cons, List.length_nil, Nat.zero_add, Nat.reduceAdd]
  rw [if_pos (by unfold LIM; omega), R.bind_ok]
theorem draw_rng {L : Int} (l0 : 0 < L) (l1 : L < 1000) {ρ : Sl} {rest M : Mem} (h0 : ρ[0]? = some (.val (.ref 0))) (hM : IsSrc rest M) : ∃ (k : Nat) (M' : Mem), (k : Int) < L ∧ IsSrc rest M' ∧ rng1 (aCons (stE (callE 2 f_law_draw (aCons (stE (getVar 0)) (aCons (stE (con (.int L))) aNil)))) aNil) ρ M = .ok ((List.range k).map fun (k : Nat) => RS.D.int ((0 : Int) + (k : Int))) M' := by
  obtain ⟨r, M2, hM2, r0, r1, e2⟩ := draw_src0 L l0 (by omega) h0 hM
  refine ⟨r.toNat, M2, by omega, hM2, ?_⟩
  have c1 : r ≤ 16000000 := by omega
  have c2 : (-1099511627776 : Int) ≤ r := by omega
  unfold rng1
  rw [aCons_ap, stE_ap, e2]
  simp [c1, c2]
theorem sa2_ok {k : Slot} {rest M1 : Mem} (hM1 : IsSrc rest M1) : ∃ a M3, IsSrc rest M3 ∧ AnsSm a ∧ sa2 (sl10 k) M1 = .ok (.ret (.val (answerD a))) M3 := by
  obtain ⟨n, M2, hn, hM2, hr⟩ := draw_rng (L := 5) (by decide) (by decide) (ρ := asl k .none .none [] .none .none .none) rfl hM1
  have L := forGo_inv (t := tgN 4) (b := lb_law_some_answer_2) (fun j : Nat => RS.D.int ((0 : Int) + ((j : Nat) : Int)))
    (fun l ρ M' => IsSrc rest M' ∧ ∃ (bs : List Block) (d4 d7 d8 d9 : Slot), (∀ b ∈ bs, BlockSm b) ∧ bs.length + l.length = n ∧ ρ = asl k d4 .none bs d7 d8 d9)
    (fun j l ρ M' ⟨hm, bs, d4, d7, d8, d9, ha, hl, e⟩ => by
      subst e
      obtain ⟨b, e7, e8, e9, M2, h1, h2, h3⟩ := bl_one (k := k) (d4 := .val (.int ((0 : Int) + ((j : Nat) : Int)))) (d5 := .none) (d7 := d7) (d8 := d8) (d9 := d9) (bs := bs) hm (by simp only [List.length_cons] at hl; omega)
      refine ⟨_, _, M2, rfl, .inl h3, h2, bs ++ [b], _, _, _, _, ?_, ?_, rfl⟩
      · intro x hx
        rcases List.mem_append.mp hx with hx | hx
        · exact ha x hx
        · have : x = b := by simpa using hx
          subst this; exact h1
      · rw [List.length_append]; simp only [List.length_cons, List.length_nil] at hl ⊢; omega)
    (List.range n) (asl k .none .none [] .none .none .none) M2 ⟨hM2, [], _, _, _, _, (fun b hb => absurd hb List.not_mem_nil), (by rw [List.length_range]; exact Nat.zero_add n), rfl⟩
  obtain ⟨ρ', M', hg, hM', bs, d4, d7, d8, d9, ha, hl, e3⟩ := L
  subst e3
  simp only [List.length_nil, Nat.add_zero] at hl
  refine ⟨.enclosure bs, M', hM', encl_sm (by omega) ha, ?_⟩
  have S2 : ownF 6 (lstE aNil) (sl10 k) M1 = .ok (.next (asl k .none .none [] .none .none .none)) M1 := by
    rw [ownF_ap, lstE_ap, aNil_ap, R.bind_ok, if_pos (by simp), R.bind_ok]; rfl
  have hD : answerD (.enclosure bs) = .tup [.str "enclosure", .tup (bs.map blockD)] := rfl
  rw [hD]
  unfold sa2
  rw [seqF_ap, S2]
  simp only
  rw [seqF_ap, forF_ap, hr, R.bind_ok, hg]
  simp only
  rw [retF_ap, tupE_ap, aCons_ap, stE_ap, con_ap]
  simp only [R.bind_ok, sto_val]
  rw [aCons_ap, stE_ap, op1_ap, getVar_ap]
  simp only [List.getElem?_cons_succ, List.getElem?_cons_zero, R.bind_ok, tupP_bor, sto_val, aNil_ap, List.length_cons, List.length_nil, Nat.zero_add, Nat.reduceAdd]
  rw [if_pos (by unfold LIM; omega), R.bind_ok]
theorem sa3_ok {k : Slot} {rest M1 : Mem} (hM1 : IsSrc rest M1) : ∃ a M3, IsSrc rest M3 ∧ AnsSm a ∧ sa3 (sl10 k) M1 = .ok (.ret (.val (answerD a))) M3 := by
  obtain ⟨v, M2, hM2, ⟨q, rfl, hq, hb⟩, e2⟩ := g_ban.at hM1
  refine ⟨.spoiled q, M2, hM2, ⟨⟨hq.1, hb⟩, by simp [answerW], fun l hl => ?_⟩, ?_⟩
  · have : l = sl "spoiled" :: reasonW q := by simpa [answerW] using hl
    subst this
    have := hq.2
    rw [List.length_cons]; omega
  · have C : callE 2 f_law_some_reason (aCons (stE (getVar 0)) (aCons (stE (con (.str "ban"))) aNil)) (sl10 k) M1 = .ok (.val (reasonD q)) M2 := by simp [e2]
    have hD : answerD (.spoiled q) = .tup [.str "spoiled", reasonD q] := rfl
    rw [hD]
    unfold sa3
    rw [retF_ap, tupE_ap, aCons_ap, stE_ap, con_ap]
    simp only [R.bind_ok, sto_val]
    rw [aCons_ap, stE_ap, C]
    simp only [R.bind_ok, sto_val, aNil_ap, List.length_cons, List.length_nil, Nat.zero_add, Nat.reduceAdd]
    rw [if_pos (by unfold LIM; omega), R.bind_ok]
theorem g_answer : Gen (f_law_some_answer [.ref 0]) (fun v => ∃ a, v = .val (answerD a) ∧ AnsSm a) := fun t rest h => by
  obtain ⟨q, M1, hM1, q0, q1, e1⟩ := draw_src0 3 (by decide) (by decide) (ρ := sl10 .none) rfl (rest := rest) (M := some t.l :: rest) ⟨t, h, rfl⟩
  have S1 : setF 1 (callE 2 f_law_draw (aCons (stE (getVar 0)) (aCons (stE (con (.int 3))) aNil))) (sl10 .none) (some t.l :: rest) = .ok (.next (sl10 (.val (.int q)))) M1 := by
    rw [setF_ap, stE_ap, e1, R.bind_ok, sto_val, R.bind_ok]; rfl
  have T0 : ∀ n : Int, tst (op2 (getVar 1) (con (.int n)) (eqP false)) (sl10 (.val (.int q))) M1 = .ok (q == n) M1 := fun n => by simp
  have B : ∃ a M3, IsSrc rest M3 ∧ AnsSm a ∧ b_law_some_answer (sl10 .none) (some t.l :: rest) = .ok (.ret (.val (answerD a))) M3 := by
    rw [sa_is, seqF_ap, S1]
    simp only
    by_cases h0 : (q == 0) = true
    · obtain ⟨a, M3, h1, h2, h3⟩ := sa1_ok (k := .val (.int q)) hM1
      refine ⟨a, M3, h1, h2, ?_⟩
      rw [seqF_ap, ifF_ap, T0, R.bind_ok, if_pos h0, h3]
    · by_cases h5 : (q == 1) = true
      · obtain ⟨a, M3, h1, h2, h3⟩ := sa2_ok (k := .val (.int q)) hM1
        refine ⟨a, M3, h1, h2, ?_⟩
        rw [seqF_ap, ifF_ap, T0, R.bind_ok, if_neg h0, nxt_ap]
        simp only
        rw [seqF_ap, ifF_ap, T0, R.bind_ok, if_pos h5, h3]
      · obtain ⟨a, M3, h1, h2, h3⟩ := sa3_ok (k := .val (.int q)) hM1
        refine ⟨a, M3, h1, h2, ?_⟩
        rw [seqF_ap, ifF_ap, T0, R.bind_ok, if_neg h0, nxt_ap]
        simp only
        rw [seqF_ap, ifF_ap, T0, R.bind_ok, if_neg h5, nxt_ap]
        simp only
        exact h3
  obtain ⟨a, M3, ⟨t', k', rfl⟩, h2, h3⟩ := B
  refine ⟨t', _, k', ⟨a, rfl, h2⟩, ?_⟩
  unfold f_law_some_answer fnD
  show (match b_law_some_answer (sl10 .none) (some t.l :: rest) with | .ok (.ret x) M' => _ | .ok (.next _) M' => _ | .exn c d M' => _ | _ => _) = _
  rw [h3]
end K58
set_option Elab.async false
set_option linter.all false
set_option maxRecDepth 100000
set_option maxHeartbeats 4000000
/-! law_k58: _law_spoilt. -/
namespace K58
open PySem L2 RS
/-- an expression that makes a list of at most n texts of at most m signs each -/
def Piece (f : FE) (ρ : Sl) (M : Mem) (n m : Nat) : Prop := ∃ rs : List W, f ρ M = .ok (.own (tx rs)) M ∧ rs.length ≤ n ∧ ∀ r ∈ rs, r.length ≤ m
theorem Piece.app {f g : FE} {ρ : Sl} {M : Mem} {a b m : Nat} (h : Piece f ρ M a m) (h' : Piece g ρ M b m) (hl : a + b ≤ 16000001) : Piece (op2 f g addP) ρ M (a + b) m := by
  obtain ⟨r, e, l, k⟩ := h
  obtain ⟨r', e', l', k'⟩ := h'
  refine ⟨r ++ r', ?_, by rw [List.length_append]; omega, fun x hx => ?_⟩
  · rw [op2_own e e' (by rw [List.length_map, List.length_map]; omega)]
    unfold tx
    rw [List.map_append]
  · rcases List.mem_append.mp hx with hx | hx
    · exact k x hx
    · exact k' x hx
theorem cutL_mem {α : Type} {l : List α} {lo hi : Option Int} {x : α} (h : x ∈ cutL l lo hi) : x ∈ l := by
  unfold cutL at h
  exact List.mem_of_mem_drop (List.mem_of_mem_take h)
theorem piece_cut {i : Nat} {lo hi : Sl → Mem → R (Option Int)} {o1 o2 : Option Int} {ρ : Sl} {M : Mem} {rows : List W} {n m : Nat} (hi' : ρ[i]? = some (.own (tx rows))) (h1 : lo ρ M = .ok o1 M) (h2 : hi ρ M = .ok o2 M) (hn : rows.length ≤ n) (hm : ∀ r ∈ rows, r.length ≤ m) : Piece (slE (getVar i) lo hi) ρ M n m := by
  refine ⟨cutL rows o1 o2, ?_, Nat.le_trans (cutL_len _ _ _) hn, fun r hr => hm r (cutL_mem hr)⟩
  rw [slE_ap, getVar_ap, hi']
  simp only [R.bind_ok, h1, h2, slP_bor, cutL_map]
theorem piece_one {i : Nat} {ρ : Sl} {M : Mem} {w : W} {m : Nat} (hi : ρ[i]? = some (.val (.str (mk w)))) (hm : w.length ≤ m) : Piece (lstE (aCons (stE (getVar i)) aNil)) ρ M 1 m := by
  refine ⟨[w], ?_, by simp, fun r hr => by have : r = w := by simpa using hr
                                           subst this; exact hm⟩
  rw [lstE_ap, aCons_ap, stE_ap, getVar_ap, hi]
  simp only [R.bind_ok, sto_val, aNil_ap, List.length_cons, List.length_nil, Nat.zero_add]
  rw [if_pos (by unfold LIM; omega)]
  rfl
theorem piece_ret {f : FE} {ρ : Sl} {M : Mem} {n m : Nat} (h : Piece f ρ M n m) : ∃ rs : List W, rs.length ≤ n ∧ (∀ r ∈ rs, r.length ≤ m) ∧ retF f ρ M = .ok (.ret (.own (tx rs))) M := by
  obtain ⟨r, e, l, k⟩ := h
  exact ⟨r, l, k, by rw [retF_ap, e, R.bind_ok]⟩
section
variable {c : Sl → Mem → R Bool} {X rest : FS} {ρ ρ' : Sl} {M M' : Mem}
theorem seq_skip (T : c ρ M = .ok false M) : seqF (ifF c X nxt) rest ρ M = rest ρ M := by
  rw [seqF_ap, ifF_ap, T, R.bind_ok, if_neg Bool.false_ne_true, nxt_ap]
theorem seq_do (T : c ρ M = .ok true M) (h : X ρ M = .ok (.next ρ') M') : seqF (ifF c X nxt) rest ρ M = rest ρ' M' := by
  rw [seqF_ap, ifF_ap, T, R.bind_ok, if_pos rfl, h]
theorem seq_ret {x : Val} (T : c ρ M = .ok true M) (h : X ρ M = .ok (.ret x) M') : seqF (ifF c X nxt) rest ρ M = .ok (.ret x) M' := by
  rw [seqF_ap, ifF_ap, T, R.bind_ok, if_pos rfl, h]
end
/-! ### the words of a line -/
def tot (ws : List W) : Nat := joinSize [32] ws
theorem tot_nil : tot [] = 0 := rfl
theorem tot_cons (w : W) (ws : List W) : tot (w :: ws) = w.length + 1 + tot ws := by
  unfold tot joinSize
  simp only [List.map_cons, List.sum_cons, List.length_cons, List.length_nil]
  omega
theorem tot_app : ∀ a b : List W, tot (a ++ b) = tot a + tot b
  | [], b => by rw [List.nil_append, tot_nil, Nat.zero_add]
  | w :: a, b => by rw [List.cons_append, tot_cons, tot_cons, tot_app a b]; omega
theorem tot_take (n : Nat) (ws : List W) : tot (ws.take n) ≤ tot ws := by
  have := tot_app (ws.take n) (ws.drop n)
  rw [List.take_append_drop] at this
  omega
theorem tot_drop (n : Nat) (ws : List W) : tot (ws.drop n) ≤ tot ws := by
  have := tot_app (ws.take n) (ws.drop n)
  rw [List.take_append_drop] at this
  omega
theorem tot_cut (ws : List W) (lo hi : Option Int) : tot (cutL ws lo hi) ≤ tot ws := by
  unfold cutL
  exact Nat.le_trans (tot_take _ _) (tot_drop _ _)
theorem tot_set : ∀ (ws : List W) (j : Nat) (w : W), tot (ws.set j w) ≤ tot ws + w.length
  | [], j, w => by rw [List.set_nil, tot_nil]; omega
  | v :: ws, 0, w => by rw [List.set_cons_zero, tot_cons, tot_cons]; omega
  | v :: ws, j + 1, w => by
    have := tot_set ws j w
    rw [List.set_cons_succ, tot_cons, tot_cons]; omega
theorem tot_mem : ∀ {ws : List W} {w : W}, w ∈ ws → w.length ≤ tot ws
  | v :: ws, w, h => by
    rw [tot_cons]
    rcases List.mem_cons.mp h with rfl | h
    · omega
    · have := tot_mem h; omega
theorem tot_len : ∀ ws : List W, ws.length ≤ tot ws
  | [] => Nat.le_refl _
  | v :: ws => by have := tot_len ws; rw [tot_cons, List.length_cons]; omega
theorem tot_join (ws : List W) : (TL.joinL [32] ws).length ≤ tot ws := by
  cases ws with
  | nil => exact Nat.zero_le _
  | cons w ws =>
    have := join_len 32 (ps := w :: ws) (by simp)
    unfold tot
    omega
theorem tot_split (r : W) : tot (splitC 32 r) = r.length + 1 := by
  have := join_len 32 (ps := splitC 32 r) (splitC_ne 32 r)
  rw [join_split] at this
  exact this
theorem joinE_tot {f : FE} {ρ : Sl} {M : Mem} {ws : List W} (hf : f ρ M = .ok (.bor (tx ws)) M) (hl : tot ws ≤ SLIM) : joinE (con (.str " ")) f ρ M = .ok (.val (.str (mk (TL.joinL [32] ws)))) M := by
  unfold joinE
  rw [con_ap, R.bind_ok]
  simp only [view_str]
  rw [hf, R.bind_ok]
  simp only [view_bor]
  unfold joinR
  rw [txts_tx]
  simp only [sl_sp]
  rw [if_pos (show joinSize [32] ws ≤ SLIM from hl)]
/-- the spoiler's slots behind its draws -/
abbrev spl (L : Slot) (rows : List W) (a : Int) (ws : List W) (p : Int) (o : Slot) (w : W) (q : Int) : Sl := [.val (.ref 0), L, .own (tx rows), .val (.int a), .own (tx ws), .val (.int p), o, .val (.str (mk w)), .val (.int q)]
section
variable {L o : Slot} {rows ws : List W} {a p q : Int} {w : W} {rest M : Mem}
theorem sp_last (ha : 0 ≤ a ∧ a < rows.length) (ht : tot ws ≤ 100000) {n m : Nat} (hn : rows.length ≤ n) (hm : ∀ r ∈ rows, r.length ≤ m) (hm2 : tot ws ≤ m) :
    ∃ rs : List W, rs.length ≤ n ∧ (∀ r ∈ rs, r.length ≤ m) ∧ (seqF (putF 2 (getVar 3) (joinE (con (.str " ")) (getVar 4))) (retV 2)) (spl L rows a ws p o w q) M = .ok (.ret (.own (tx rs))) M := by
  have J := joinE_tot (f := getVar 4) (ρ := spl L rows a ws p o w q) (M := M) (ws := ws) rfl (by unfold SLIM; omega)
  obtain ⟨j, rfl⟩ : ∃ j : Nat, a = (j : Int) := ⟨a.toNat, by omega⟩
  have hix : ixN (tx rows).length ((j : Nat) : Int) = some j := by
    unfold ixN
    rw [List.length_map, if_pos (by omega), if_pos (by omega)]
    simp
  refine ⟨rows.set j (TL.joinL [32] ws), by rw [List.length_set]; exact hn, fun r hr => ?_, ?_⟩
  · rcases List.mem_or_eq_of_mem_set hr with hr | rfl
    · exact hm r hr
    · exact Nat.le_trans (tot_join ws) hm2
  · have hset : (tx rows).set j (.str (mk (TL.joinL [32] ws))) = tx (rows.set j (TL.joinL [32] ws)) := by unfold tx; rw [List.map_set]
    rw [seqF_ap, putF_ap, stE_ap, J, R.bind_ok, sto_val, R.bind_ok]
    simp only [List.getElem?_cons_succ, List.getElem?_cons_zero, getVar_ap, R.bind_ok, view_int, hix, hset, List.set_cons_succ, List.set_cons_zero, retV_ap]
theorem own4 {f : FE} {ws' : List W} (h : f (spl L rows a ws p o w q) M = .ok (.own (tx ws')) M) : ownF 4 f (spl L rows a ws p o w q) M = .ok (.next (spl L rows a ws' p o w q)) M := by
  rw [ownF_ap, h, R.bind_ok]; rfl
theorem cut4 {lo hi : Sl → Mem → R (Option Int)} {o1 o2 : Option Int} (h1 : lo (spl L rows a ws p o w q) M = .ok o1 M) (h2 : hi (spl L rows a ws p o w q) M = .ok o2 M) : slE (getVar 4) lo hi (spl L rows a ws p o w q) M = .ok (.own (tx (cutL ws o1 o2))) M := by
  rw [slE_ap, getVar_ap]
  simp only [List.getElem?_cons_succ, List.getElem?_cons_zero, R.bind_ok, h1, h2, slP_bor, cutL_map]
theorem app4 {f g : FE} {x y : List W} (h : f (spl L rows a ws p o w q) M = .ok (.own (tx x)) M) (h' : g (spl L rows a ws p o w q) M = .ok (.own (tx y)) M) (hl : x.length + y.length ≤ 16000001) : op2 f g addP (spl L rows a ws p o w q) M = .ok (.own (tx (x ++ y))) M := by
  rw [op2_own h h' (by rw [List.length_map, List.length_map]; exact hl)]
  unfold tx
  rw [List.map_append]
theorem one4 : lstE (aCons (stE (getVar 7)) aNil) (spl L rows a ws p o w q) M = .ok (.own (tx [w])) M := by
  rw [lstE_ap, aCons_ap, stE_ap, getVar_ap]
  simp only [List.getElem?_cons_succ, List.getElem?_cons_zero, R.bind_ok, sto_val, aNil_ap, List.length_cons, List.length_nil, Nat.zero_add]
  rw [if_pos (by unfold LIM; omega)]
  rfl
theorem put4 {f : FE} {v : W} {M' : Mem} (hp : 0 ≤ p ∧ p < ws.length) (h : f (spl L rows a ws p o w q) M = .ok (.val (.str (mk v))) M') : putF 4 (getVar 5) f (spl L rows a ws p o w q) M = .ok (.next (spl L rows a (ws.set p.toNat v) p o w q)) M' := by
  obtain ⟨j, rfl⟩ : ∃ j : Nat, p = (j : Int) := ⟨p.toNat, by omega⟩
  have hix : ixN (tx ws).length ((j : Nat) : Int) = some j := by
    unfold ixN
    rw [List.length_map, if_pos (by omega), if_pos (by omega)]
    simp
  have hset : (tx ws).set j (.str (mk v)) = tx (ws.set j v) := by unfold tx; rw [List.map_set]
  rw [putF_ap, stE_ap, h, R.bind_ok, sto_val, R.bind_ok]
  simp only [List.getElem?_cons_succ, List.getElem?_cons_zero, getVar_ap, R.bind_ok, view_int, hix, hset, List.set_cons_succ, List.set_cons_zero, Int.toNat_natCast]
def sp6 : FS := (seqF (ifF (tst (op2 (getVar 8) (con (.int 6)) (eqP false)))
 (ownF 4 (op2 (slE (getVar 4) (fun _ M => .ok none M) (ixO (getVar 5))) (slE (getVar 4) (ixO (op2 (getVar 5) (con (.int 1)) addP)) (fun _ M => .ok none M)) addP))
 nxt)
 (seqF (ifF (tst (op2 (getVar 8) (con (.int 7)) (eqP false)))
 (ownF 4 (op2 (op2 (slE (getVar 4) (fun _ M => .ok none M) (ixO (getVar 5))) (lstE (aCons (stE (getVar 7)) aNil)) addP) (slE (getVar 4) (ixO (getVar 5)) (fun _ M => .ok none M)) addP))
 nxt)
 (seqF (ifF (tst (op2 (getVar 8) (con (.int 8)) (eqP false)))
 (ownF 4 (op2 (getVar 4) (lstE (aCons (stE (getVar 7)) aNil)) addP))
 nxt)
 (seqF (ifF (tst (op2 (getVar 8) (con (.int 9)) (eqP false)))
 (putF 4 (getVar 5) (op2 (op2 (getVar 4) (getVar 5) idxP) (op2 (lstE (aCons (stE (con (.str "0"))) (aCons (stE (con (.str "a"))) (aCons (stE (con (.str " "))) (aCons (stE (con (.str "A"))) aNil))))) (callE 2 f_law_draw (aCons (stE (getVar 0)) (aCons (stE (con (.int 4))) aNil))) idxP) addP))
 nxt)
 (seqF (ifF (tst (op2 (getVar 8) (con (.int 9)) gtP))
 (putF 4 (getVar 5) (getVar 7))
 nxt)
 (seqF (putF 2 (getVar 3) (joinE (con (.str " ")) (getVar 4)))
 (retV 2)))))))
theorem four_at {r : Int} (h0 : 0 ≤ r) (h1 : r < 4) : ∃ c : Str, atI [RS.D.str "0", .str "a", .str " ", .str "A"] r = some (.str c) ∧ c.length = 1 := by
  have : r = 0 ∨ r = 1 ∨ r = 2 ∨ r = 3 := by omega
  rcases this with rfl | rfl | rfl | rfl
  · exact ⟨_, atI_zero _ _, by decide +kernel⟩
  · exact ⟨_, atI_one _ _ _, by decide +kernel⟩
  · exact ⟨_, atI_two _ _ _ _, by decide +kernel⟩
  · exact ⟨_, atI_three _ _ _ _ _, by decide +kernel⟩
theorem sp6_ok (hM : IsSrc rest M) (h6 : 6 ≤ q ∧ q < 12) (ha : 0 ≤ a ∧ a < rows.length) (hp : 0 ≤ p ∧ p < ws.length) (hw : w.length ≤ 11) {n m : Nat} (hn : rows.length ≤ n) (hm : ∀ r ∈ rows, r.length ≤ m) (ht : tot ws ≤ m + 1) (hm9 : m ≤ 10000) :
    ∃ (rs : List W) (M' : Mem), rs.length ≤ n ∧ (∀ r ∈ rs, r.length ≤ 2 * m + 20) ∧ IsSrc rest M' ∧ sp6 (spl L rows a ws p o w q) M = .ok (.ret (.own (tx rs))) M' := by
  have T0 : ∀ (n : Int) (ws : List W) (M : Mem), tst (op2 (getVar 8) (con (.int n)) (eqP false)) (spl L rows a ws p o w q) M = .ok (q == n) M := fun n ws M => by simp
  have T9 : ∀ (ws : List W) (M : Mem), tst (op2 (getVar 8) (con (.int 9)) gtP) (spl L rows a ws p o w q) M = .ok (decide (9 < q)) M := fun ws M => by simp
  have hm' : ∀ r ∈ rows, r.length ≤ 2 * m + 20 := fun r hr => by have := hm r hr; omega
  have hwl := tot_len ws
  have i0 : (fun (_ : Sl) M => R.ok (none : Option Int) M) (spl L rows a ws p o w q) M = .ok none M := rfl
  have i1 : ixO (getVar 5) (spl L rows a ws p o w q) M = .ok (some p) M := rfl
  have i2 : ixO (op2 (getVar 5) (con (.int 1)) addP) (spl L rows a ws p o w q) M = .ok (some (p + 1)) M := rfl
  have last := fun (ws' : List W) (M' : Mem) (h : tot ws' ≤ 2 * m + 20) => sp_last (L := L) (o := o) (rows := rows) (ws := ws') (a := a) (p := p) (q := q) (w := w) (M := M') ha (by omega) hn hm' h
  unfold sp6
  have : q = 6 ∨ q = 7 ∨ q = 8 ∨ q = 9 ∨ 9 < q := by omega
  rcases this with h | h | h | h | h
  · have b6 : (q == 6) = true := by rw [h]; rfl
    have b7 : (q == 7) = false := by rw [h]; rfl
    have b8 : (q == 8) = false := by rw [h]; rfl
    have b9 : (q == 9) = false := by rw [h]; rfl
    have b10 : decide (9 < q) = false := by rw [h]; rfl
    have c1 := cutL_len ws none (some p)
    have c2 := cutL_len ws (some (p + 1)) none
    have t1 := tot_cut ws none (some p)
    have t2 := tot_cut ws (some (p + 1)) none
    have E := own4 (app4 (L := L) (rows := rows) (ws := ws) (a := a) (p := p) (o := o) (w := w) (q := q) (M := M) (x := cutL ws none (some p)) (y := cutL ws (some (p + 1)) none) (cut4 (lo := fun _ M => .ok none M) rfl i1) (cut4 (hi := fun _ M => .ok none M) i2 rfl) (by omega))
    obtain ⟨rs, r1, r2, r3⟩ := last (cutL ws none (some p) ++ cutL ws (some (p + 1)) none) M (by rw [tot_app]; omega)
    refine ⟨rs, M, r1, r2, hM, ?_⟩
    rw [seq_do (by rw [T0, b6]) E, seq_skip (by rw [T0, b7]), seq_skip (by rw [T0, b8]), seq_skip (by rw [T0, b9]), seq_skip (by rw [T9, b10]), r3]
  · have b6 : (q == 6) = false := by rw [h]; rfl
    have b7 : (q == 7) = true := by rw [h]; rfl
    have b8 : (q == 8) = false := by rw [h]; rfl
    have b9 : (q == 9) = false := by rw [h]; rfl
    have b10 : decide (9 < q) = false := by rw [h]; rfl
    have c1 := cutL_len ws none (some p)
    have c2 := cutL_len ws (some p) none
    have t1 := tot_cut ws none (some p)
    have t2 := tot_cut ws (some p) none
    have A1 := app4 (L := L) (rows := rows) (ws := ws) (a := a) (p := p) (o := o) (w := w) (q := q) (M := M) (x := cutL ws none (some p)) (y := [w]) (cut4 (lo := fun _ M => .ok none M) rfl i1) one4 (by simp only [List.length_singleton]; omega)
    have E := own4 (app4 (y := cutL ws (some p) none) A1 (cut4 (hi := fun _ M => .ok none M) i1 rfl) (by rw [List.length_append]; simp only [List.length_singleton]; omega))
    obtain ⟨rs, r1, r2, r3⟩ := last (cutL ws none (some p) ++ [w] ++ cutL ws (some p) none) M (by rw [tot_app, tot_app, tot_cons, tot_nil]; omega)
    refine ⟨rs, M, r1, r2, hM, ?_⟩
    rw [seq_skip (by rw [T0, b6]), seq_do (by rw [T0, b7]) E, seq_skip (by rw [T0, b8]), seq_skip (by rw [T0, b9]), seq_skip (by rw [T9, b10]), r3]
  · have b6 : (q == 6) = false := by rw [h]; rfl
    have b7 : (q == 7) = false := by rw [h]; rfl
    have b8 : (q == 8) = true := by rw [h]; rfl
    have b9 : (q == 9) = false := by rw [h]; rfl
    have b10 : decide (9 < q) = false := by rw [h]; rfl
    have E : ownF 4 (op2 (getVar 4) (lstE (aCons (stE (getVar 7)) aNil)) addP) (spl L rows a ws p o w q) M = .ok (.next (spl L rows a (ws ++ [w]) p o w q)) M := by
      refine own4 ?_
      rw [op2_ap, getVar_ap]
      simp only [List.getElem?_cons_succ, List.getElem?_cons_zero, R.bind_ok, one4]
      unfold addP
      simp only [view_bor, view_own]
      rw [if_pos (by rw [List.length_map, List.length_map]; simp only [List.length_singleton]; unfold LIM; omega)]
      unfold tx
      rw [List.map_append]
    obtain ⟨rs, r1, r2, r3⟩ := last (ws ++ [w]) M (by rw [tot_app, tot_cons, tot_nil]; omega)
    refine ⟨rs, M, r1, r2, hM, ?_⟩
    rw [seq_skip (by rw [T0, b6]), seq_skip (by rw [T0, b7]), seq_do (by rw [T0, b8]) E, seq_skip (by rw [T0, b9]), seq_skip (by rw [T9, b10]), r3]
  · have b6 : (q == 6) = false := by rw [h]; rfl
    have b7 : (q == 7) = false := by rw [h]; rfl
    have b8 : (q == 8) = false := by rw [h]; rfl
    have b9 : (q == 9) = true := by rw [h]; rfl
    have b10 : decide (9 < q) = false := by rw [h]; rfl
    obtain ⟨j, hj⟩ : ∃ j : Nat, p = (j : Int) := ⟨p.toNat, by omega⟩
    have hjl : j < ws.length := by omega
    have hat : atI (tx ws) p = some (.str (mk ws[j])) := by rw [hj]; exact atI_nat (by rw [List.getElem?_map, List.getElem?_eq_getElem hjl]; rfl)
    have hvl := tot_mem (List.getElem_mem hjl)
    obtain ⟨r, M1, hM1, q0, q1, e1⟩ := draw_src0 4 (by decide) (by decide) (ρ := spl L rows a ws p o w q) rfl hM
    obtain ⟨c, hc, hcl⟩ := four_at q0 q1
    have F : op2 (op2 (getVar 4) (getVar 5) idxP) (op2 (lstE (aCons (stE (con (.str "0"))) (aCons (stE (con (.str "a"))) (aCons (stE (con (.str " "))) (aCons (stE (con (.str "A"))) aNil))))) (callE 2 f_law_draw (aCons (stE (getVar 0)) (aCons (stE (con (.int 4))) aNil))) idxP) addP (spl L rows a ws p o w q) M = .ok (.val (.str (mk (ws[j] ++ sl c)))) M1 := by
      rw [op2_ap, op2_ap, getVar_ap]
      simp only [List.getElem?_cons_succ, List.getElem?_cons_zero, R.bind_ok, getVar_ap, idxP_bor, hat]
      rw [op2_ap]
      have L0 : lstE (aCons (stE (con (.str "0"))) (aCons (stE (con (.str "a"))) (aCons (stE (con (.str " "))) (aCons (stE (con (.str "A"))) aNil)))) (spl L rows a ws p o w q) M = .ok (.own [.str "0", .str "a", .str " ", .str "A"]) M := by simp [LIM]
      rw [L0, R.bind_ok, e1, R.bind_ok, idxP_own, hc]
      simp only [R.bind_ok]
      unfold addP
      simp only [view_str]
      rw [if_pos (by rw [mk_len, hcl]; unfold SLIM; omega), mk_catS]
    have E := put4 hp F
    have hcl2 : (sl c).length = 1 := hcl
    obtain ⟨rs, r1, r2, r3⟩ := last (ws.set p.toNat (ws[j] ++ sl c)) M1 (by
      have := tot_set ws p.toNat (ws[j] ++ sl c)
      rw [List.length_append, hcl2] at this
      omega)
    refine ⟨rs, M1, r1, r2, hM1, ?_⟩
    rw [seq_skip (by rw [T0, b6]), seq_skip (by rw [T0, b7]), seq_skip (by rw [T0, b8]), seq_do (by rw [T0, b9]) E, seq_skip (by rw [T9, b10]), r3]
  · have b6 : (q == 6) = false := by simp; omega
    have b7 : (q == 7) = false := by simp; omega
    have b8 : (q == 8) = false := by simp; omega
    have b9 : (q == 9) = false := by simp; omega
    have b10 : decide (9 < q) = true := by simp; omega
    have E := put4 (f := getVar 7) (v := w) (L := L) (rows := rows) (ws := ws) (a := a) (p := p) (o := o) (w := w) (q := q) (M := M) hp rfl
    obtain ⟨rs, r1, r2, r3⟩ := last (ws.set p.toNat w) M (by
      have := tot_set ws p.toNat w
      omega)
    refine ⟨rs, M, r1, r2, hM, ?_⟩
    rw [seq_skip (by rw [T0, b6]), seq_skip (by rw [T0, b7]), seq_skip (by rw [T0, b8]), seq_skip (by rw [T0, b9]), seq_do (by rw [T9, b10]) E, r3]
end
end K58
set_option Elab.async false
set_option linter.all false
set_option maxRecDepth 100000
set_option maxHeartbeats 4000000
/-! law_k58: _law_spoilt, whole. -/
namespace K58
open PySem L2 RS
@[simp] theorem lstP_lst (l : List RS.D) (M : Mem) : lstP (.val (.lst l)) M = .ok (.own l) M := rfl
theorem draw_src1 {L : Int} (l0 : 0 < L) (l1 : L < 1000000000) {f : FE} {ρ : Sl} {rest M : Mem} (h0 : ρ[0]? = some (.val (.ref 0))) (hf : f ρ M = .ok (.val (.int L)) M) (hM : IsSrc rest M) : ∃ r M', IsSrc rest M' ∧ 0 ≤ r ∧ r < L ∧ callE 2 f_law_draw (aCons (stE (getVar 0)) (aCons (stE f) aNil)) ρ M = .ok (.val (.int r)) M' := by
  obtain ⟨v, M', h1, ⟨r, rfl, r0, r1⟩, h3⟩ := (g_draw l0 l1).at hM
  exact ⟨r, M', h1, r0, r1, by simp [h0, hf, h3]⟩
def oddA : List W := [sl "", sl "0", sl "00", sl "01", sl "-1", sl "A", sl "a_b", sl "abcdefghi", sl "12345678901", sl "9999999999", sl "on", sl "off", sl "not", sl "first"]
def oddB : List W := [sl "state", sl "void", sl "q", sl "1", sl "x1", sl "+1", sl "unarmed", sl "ban", sl "at", sl "goal", sl "agree", sl "days", sl "1a", sl "group"]
def oddC : List W := [sl "share", sl "feature", sl "shown", sl "split", sl "loss"]
def oddAll : List W := oddA ++ oddB ++ oddC
theorem oddAll_len : oddAll.length = 33 := by decide +kernel
theorem oddAll_sm : ∀ k < 33, (match oddAll[k]? with | some w => decide (w.length ≤ 11) | none => false) = true := by decide +kernel
theorem oddAll_at {r : Int} (h0 : 0 ≤ r) (h1 : r < 33) : ∃ w : W, atI (tx oddAll) r = some (.str (mk w)) ∧ w.length ≤ 11 := by
  obtain ⟨k, rfl⟩ : ∃ k : Nat, r = (k : Int) := ⟨r.toNat, by omega⟩
  have := oddAll_sm k (by omega)
  cases e : oddAll[k]? with
  | none => rw [e] at this; exact absurd this Bool.false_ne_true
  | some w => rw [e] at this; exact ⟨w, atI_nat (by rw [List.getElem?_map, e]; rfl), by simpa using this⟩
def sp0 : FS := (seqF (ifF (tst (op2 (getVar 8) (con (.int 0)) (eqP false)))
 (retF (op2 (slE (getVar 2) (fun _ M => .ok none M) (ixO (getVar 3))) (slE (getVar 2) (ixO (op2 (getVar 3) (con (.int 1)) addP)) (fun _ M => .ok none M)) addP))
 nxt)
 (seqF (ifF (tst (op2 (getVar 8) (con (.int 1)) (eqP false)))
 (retF (op2 (op2 (slE (getVar 2) (fun _ M => .ok none M) (ixO (getVar 3))) (slE (getVar 2) (ixO (getVar 3)) (ixO (op2 (getVar 3) (con (.int 1)) addP))) addP) (slE (getVar 2) (ixO (getVar 3)) (fun _ M => .ok none M)) addP))
 nxt)
 (seqF (ifF (tst (op2 (getVar 8) (con (.int 2)) (eqP false)))
 (retF (op2 (op2 (op2 (slE (getVar 2) (fun _ M => .ok none M) (ixO (getVar 3))) (slE (getVar 2) (ixO (op2 (getVar 3) (con (.int 1)) addP)) (ixO (op2 (getVar 3) (con (.int 2)) addP))) addP) (slE (getVar 2) (ixO (getVar 3)) (ixO (op2 (getVar 3) (con (.int 1)) addP))) addP) (slE (getVar 2) (ixO (op2 (getVar 3) (con (.int 2)) addP)) (fun _ M => .ok none M)) addP))
 nxt)
 (seqF (ifF (tst (op2 (getVar 8) (con (.int 3)) (eqP false)))
 (retF (slE (getVar 2) (fun _ M => .ok none M) (ixO (getVar 3))))
 nxt)
 (seqF (ifF (tst (op2 (getVar 8) (con (.int 4)) (eqP false)))
 (retF (op2 (op2 (slE (getVar 2) (fun _ M => .ok none M) (ixO (getVar 3))) (lstE (aCons (stE (getVar 7)) aNil)) addP) (slE (getVar 2) (ixO (getVar 3)) (fun _ M => .ok none M)) addP))
 nxt)
 (seqF (ifF (tst (op2 (getVar 8) (con (.int 5)) (eqP false)))
 (retF (op2 (getVar 2) (lstE (aCons (stE (getVar 7)) aNil)) addP))
 nxt)
 sp6))))))
section
variable {L o : Slot} {rows ws : List W} {a p q : Int} {w : W} {rest M : Mem}
theorem piece_bor {f : FE} {ρ : Sl} {n m : Nat} {i : Nat} (hi : ρ[i]? = some (.own (tx rows))) (hn : rows.length ≤ n) (hm : ∀ r ∈ rows, r.length ≤ m) (h : Piece f ρ M 1 m) (hl : n + 1 ≤ 16000001) : Piece (op2 (getVar i) f addP) ρ M (n + 1) m := by
  obtain ⟨r', e', l', k'⟩ := h
  refine ⟨rows ++ r', ?_, by rw [List.length_append]; omega, fun x hx => ?_⟩
  · rw [op2_ap, getVar_ap, hi]
    simp only [R.bind_ok, e']
    unfold addP
    simp only [view_bor, view_own]
    rw [if_pos (by rw [List.length_map, List.length_map]; unfold LIM; omega)]
    unfold tx
    rw [List.map_append]
  · rcases List.mem_append.mp hx with hx | hx
    · exact hm x hx
    · exact k' x hx
theorem sp0_ok (hM : IsSrc rest M) (h6 : 0 ≤ q ∧ q < 12) (ha : 0 ≤ a ∧ a < rows.length) (hp : 0 ≤ p ∧ p < ws.length) (hw : w.length ≤ 11) {n m : Nat} (hn : rows.length ≤ n) (hm : ∀ r ∈ rows, r.length ≤ m) (ht : tot ws ≤ m + 1) (hm9 : m ≤ 10000) (hn9 : n ≤ 100000) :
    ∃ (rs : List W) (M' : Mem), rs.length ≤ 4 * n + 1 ∧ (∀ r ∈ rs, r.length ≤ 2 * m + 20) ∧ IsSrc rest M' ∧ sp0 (spl L rows a ws p o w q) M = .ok (.ret (.own (tx rs))) M' := by
  have T0 : ∀ (n : Int), tst (op2 (getVar 8) (con (.int n)) (eqP false)) (spl L rows a ws p o w q) M = .ok (q == n) M := fun n => by simp
  have hm' : ∀ r ∈ rows, r.length ≤ 2 * m + 20 := fun r hr => by have := hm r hr; omega
  have i1 : ixO (getVar 3) (spl L rows a ws p o w q) M = .ok (some a) M := rfl
  have i2 : ixO (op2 (getVar 3) (con (.int 1)) addP) (spl L rows a ws p o w q) M = .ok (some (a + 1)) M := rfl
  have i3 : ixO (op2 (getVar 3) (con (.int 2)) addP) (spl L rows a ws p o w q) M = .ok (some (a + 2)) M := rfl
  have pc : ∀ {lo hi : Sl → Mem → R (Option Int)} {o1 o2 : Option Int}, lo (spl L rows a ws p o w q) M = .ok o1 M → hi (spl L rows a ws p o w q) M = .ok o2 M → Piece (slE (getVar 2) lo hi) (spl L rows a ws p o w q) M n (2 * m + 20) := fun h1 h2 => piece_cut rfl h1 h2 hn hm'
  have po : Piece (lstE (aCons (stE (getVar 7)) aNil)) (spl L rows a ws p o w q) M 1 (2 * m + 20) := piece_one (w := w) rfl (by omega)
  have out : ∀ {f : FE} {k : Nat}, k ≤ 4 * n + 1 → Piece f (spl L rows a ws p o w q) M k (2 * m + 20) → ∃ rs : List W, rs.length ≤ 4 * n + 1 ∧ (∀ r ∈ rs, r.length ≤ 2 * m + 20) ∧ retF f (spl L rows a ws p o w q) M = .ok (.ret (.own (tx rs))) M := fun hk h => by
    obtain ⟨rs, h1, h2, h3⟩ := piece_ret h
    exact ⟨rs, by omega, h2, h3⟩
  unfold sp0
  have : q = 0 ∨ q = 1 ∨ q = 2 ∨ q = 3 ∨ q = 4 ∨ q = 5 ∨ 6 ≤ q := by omega
  rcases this with h | h | h | h | h | h | h
  · have b0 : (q == 0) = true := by rw [h]; rfl
    obtain ⟨rs, r1, r2, r3⟩ := out (by omega) ((pc (lo := fun _ M => .ok none M) rfl i1).app (pc (hi := fun _ M => .ok none M) i2 rfl) (by omega))
    refine ⟨rs, M, r1, r2, hM, ?_⟩
    rw [seq_ret (by rw [T0, b0]) r3]
  · have b0 : (q == 0) = false := by rw [h]; rfl
    have b1 : (q == 1) = true := by rw [h]; rfl
    obtain ⟨rs, r1, r2, r3⟩ := out (by omega) (((pc (lo := fun _ M => .ok none M) rfl i1).app (pc i1 i2) (by omega)).app (pc (hi := fun _ M => .ok none M) i1 rfl) (by omega))
    refine ⟨rs, M, r1, r2, hM, ?_⟩
    rw [seq_skip (by rw [T0, b0]), seq_ret (by rw [T0, b1]) r3]
  · have b0 : (q == 0) = false := by rw [h]; rfl
    have b1 : (q == 1) = false := by rw [h]; rfl
    have b2 : (q == 2) = true := by rw [h]; rfl
    obtain ⟨rs, r1, r2, r3⟩ := out (by omega) ((((pc (lo := fun _ M => .ok none M) rfl i1).app (pc i2 i3) (by omega)).app (pc i1 i2) (by omega)).app (pc (hi := fun _ M => .ok none M) i3 rfl) (by omega))
    refine ⟨rs, M, r1, r2, hM, ?_⟩
    rw [seq_skip (by rw [T0, b0]), seq_skip (by rw [T0, b1]), seq_ret (by rw [T0, b2]) r3]
  · have b0 : (q == 0) = false := by rw [h]; rfl
    have b1 : (q == 1) = false := by rw [h]; rfl
    have b2 : (q == 2) = false := by rw [h]; rfl
    have b3 : (q == 3) = true := by rw [h]; rfl
    obtain ⟨rs, r1, r2, r3⟩ := out (by omega) (pc (lo := fun _ M => .ok none M) rfl i1)
    refine ⟨rs, M, r1, r2, hM, ?_⟩
    rw [seq_skip (by rw [T0, b0]), seq_skip (by rw [T0, b1]), seq_skip (by rw [T0, b2]), seq_ret (by rw [T0, b3]) r3]
  · have b0 : (q == 0) = false := by rw [h]; rfl
    have b1 : (q == 1) = false := by rw [h]; rfl
    have b2 : (q == 2) = false := by rw [h]; rfl
    have b3 : (q == 3) = false := by rw [h]; rfl
    have b4 : (q == 4) = true := by rw [h]; rfl
    obtain ⟨rs, r1, r2, r3⟩ := out (by omega) (((pc (lo := fun _ M => .ok none M) rfl i1).app po (by omega)).app (pc (hi := fun _ M => .ok none M) i1 rfl) (by omega))
    refine ⟨rs, M, r1, r2, hM, ?_⟩
    rw [seq_skip (by rw [T0, b0]), seq_skip (by rw [T0, b1]), seq_skip (by rw [T0, b2]), seq_skip (by rw [T0, b3]), seq_ret (by rw [T0, b4]) r3]
  · have b0 : (q == 0) = false := by rw [h]; rfl
    have b1 : (q == 1) = false := by rw [h]; rfl
    have b2 : (q == 2) = false := by rw [h]; rfl
    have b3 : (q == 3) = false := by rw [h]; rfl
    have b4 : (q == 4) = false := by rw [h]; rfl
    have b5 : (q == 5) = true := by rw [h]; rfl
    obtain ⟨rs, r1, r2, r3⟩ := out (k := n + 1) (by omega) (piece_bor (i := 2) rfl hn hm' po (by omega))
    refine ⟨rs, M, r1, r2, hM, ?_⟩
    rw [seq_skip (by rw [T0, b0]), seq_skip (by rw [T0, b1]), seq_skip (by rw [T0, b2]), seq_skip (by rw [T0, b3]), seq_skip (by rw [T0, b4]), seq_ret (by rw [T0, b5]) r3]
  · have b0 : (q == 0) = false := by simp; omega
    have b1 : (q == 1) = false := by simp; omega
    have b2 : (q == 2) = false := by simp; omega
    have b3 : (q == 3) = false := by simp; omega
    have b4 : (q == 4) = false := by simp; omega
    have b5 : (q == 5) = false := by simp; omega
    obtain ⟨rs, M', r1, r2, r4, r3⟩ := sp6_ok (L := L) (o := o) hM ⟨h, h6.2⟩ ha hp hw hn hm ht hm9
    refine ⟨rs, M', by omega, r2, r4, ?_⟩
    rw [seq_skip (by rw [T0, b0]), seq_skip (by rw [T0, b1]), seq_skip (by rw [T0, b2]), seq_skip (by rw [T0, b3]), seq_skip (by rw [T0, b4]), seq_skip (by rw [T0, b5]), r3]
end
theorem m_spoilt {rows : List W} {rest M : Mem} {n m : Nat} (hM : IsSrc rest M) (h0 : rows ≠ []) (hn : rows.length ≤ n) (hm : ∀ r ∈ rows, r.length ≤ m) (hm9 : m ≤ 10000) (hn9 : n ≤ 100000) :
    ∃ (rs : List W) (M' : Mem), rs.length ≤ 4 * n + 1 ∧ (∀ r ∈ rs, r.length ≤ 2 * m + 20) ∧ IsSrc rest M' ∧ f_law_spoilt [.ref 0, .lst (tx rows)] M = .ok (.own (tx rs)) M' := by
  have hpos : 0 < rows.length := List.length_pos_iff.mpr h0
  have S0 : ownF 2 (op1 (getVar 1) lstP) [.val (.ref 0), .val (.lst (tx rows)), .none, .none, .none, .none, .none, .none, .none] M = .ok (.next [.val (.ref 0), .val (.lst (tx rows)), .own (tx rows), .none, .none, .none, .none, .none, .none]) M := by
    rw [ownF_ap, op1_ap, getVar_ap]
    simp only [List.getElem?_cons_succ, List.getElem?_cons_zero, R.bind_ok, lstP_lst, List.set_cons_succ, List.set_cons_zero]
  obtain ⟨a, M1, hM1, a0, a1, e1⟩ := draw_src1 (L := (rows.length : Int)) (by omega) (by omega) (f := op1 (getVar 2) lenP) (ρ := [.val (.ref 0), .val (.lst (tx rows)), .own (tx rows), .none, .none, .none, .none, .none, .none]) rfl (by
    rw [op1_ap, getVar_ap]
    simp only [List.getElem?_cons_succ, List.getElem?_cons_zero, R.bind_ok, lenP_bor, List.length_map]) hM
  obtain ⟨j, hj⟩ : ∃ j : Nat, a = (j : Int) := ⟨a.toNat, by omega⟩
  have hjl : j < rows.length := by omega
  have hat : atI (tx rows) a = some (.str (mk rows[j])) := by rw [hj]; exact atI_nat (by rw [List.getElem?_map, List.getElem?_eq_getElem hjl]; rfl)
  have hrl := hm rows[j] (List.getElem_mem hjl)
  have sp := split_at (op2 (getVar 2) (getVar 3) idxP) [.val (.ref 0), .val (.lst (tx rows)), .own (tx rows), .val (.int a), .none, .none, .none, .none, .none] M1 rows[j] (by
    rw [op2_ap, getVar_ap]
    simp only [List.getElem?_cons_succ, List.getElem?_cons_zero, R.bind_ok, getVar_ap, idxP_bor, hat]) (by unfold SLIM; omega)
  have htot := tot_split rows[j]
  have hne := splitC_ne 32 rows[j]
  generalize splitC 32 rows[j] = ws at sp htot hne
  have hwpos : 0 < ws.length := List.length_pos_iff.mpr hne
  have hwl := tot_len ws
  obtain ⟨p, M2, hM2, p0, p1, e2⟩ := draw_src1 (L := (ws.length : Int)) (by omega) (by omega) (f := op1 (getVar 4) lenP) (ρ := [.val (.ref 0), .val (.lst (tx rows)), .own (tx rows), .val (.int a), .own (tx ws), .none, .none, .none, .none]) rfl (by
    rw [op1_ap, getVar_ap]
    simp only [List.getElem?_cons_succ, List.getElem?_cons_zero, R.bind_ok, lenP_bor, List.length_map]) hM1
  obtain ⟨x, M3, hM3, x0, x1, e3⟩ := draw_src1 (L := 33) (by decide) (by decide) (f := op1 (getVar 6) lenP) (ρ := [.val (.ref 0), .val (.lst (tx rows)), .own (tx rows), .val (.int a), .own (tx ws), .val (.int p), .val (.lst (tx oddAll)), .none, .none]) rfl (by
    rw [op1_ap, getVar_ap]
    simp only [List.getElem?_cons_succ, List.getElem?_cons_zero, R.bind_ok, lenP_lst, List.length_map, oddAll_len]
    rfl) hM2
  obtain ⟨w, hw1, hw2⟩ := oddAll_at x0 x1
  obtain ⟨q, M4, hM4, q0, q1, e4⟩ := draw_src0 12 (by decide) (by decide) (ρ := [.val (.ref 0), .val (.lst (tx rows)), .own (tx rows), .val (.int a), .own (tx ws), .val (.int p), .val (.lst (tx oddAll)), .val (.str (mk w)), .none]) rfl hM3
  obtain ⟨rs, M', r1, r2, r3, r4⟩ := sp0_ok (L := .val (.lst (tx rows))) (o := .val (.lst (tx oddAll))) (rows := rows) (ws := ws) (a := a) (p := p) (q := q) (w := w) hM4 ⟨q0, q1⟩ ⟨a0, a1⟩ ⟨p0, p1⟩ hw2 hn hm (by omega) hm9 hn9
  refine ⟨rs, M', r1, r2, r3, ?_⟩
  have S1 : setF 3 (callE 2 f_law_draw (aCons (stE (getVar 0)) (aCons (stE (op1 (getVar 2) lenP)) aNil))) [.val (.ref 0), .val (.lst (tx rows)), .own (tx rows), .none, .none, .none, .none, .none, .none] M = .ok (.next [.val (.ref 0), .val (.lst (tx rows)), .own (tx rows), .val (.int a), .none, .none, .none, .none, .none]) M1 := by
    rw [setF_ap, stE_ap, e1]; rfl
  have S2 : ownF 4 (splitE (op2 (getVar 2) (getVar 3) idxP) (con (.str " "))) [.val (.ref 0), .val (.lst (tx rows)), .own (tx rows), .val (.int a), .none, .none, .none, .none, .none] M1 = .ok (.next [.val (.ref 0), .val (.lst (tx rows)), .own (tx rows), .val (.int a), .own (tx ws), .none, .none, .none, .none]) M1 := by
    rw [ownF_ap, sp]; rfl
  have S3 : setF 5 (callE 2 f_law_draw (aCons (stE (getVar 0)) (aCons (stE (op1 (getVar 4) lenP)) aNil))) [.val (.ref 0), .val (.lst (tx rows)), .own (tx rows), .val (.int a), .own (tx ws), .none, .none, .none, .none] M1 = .ok (.next [.val (.ref 0), .val (.lst (tx rows)), .own (tx rows), .val (.int a), .own (tx ws), .val (.int p), .none, .none, .none]) M2 := by
    rw [setF_ap, stE_ap, e2]; rfl
  have S4 : ∀ (d6 : Slot), setF 6 (lstE (aCons (stE (con (.str ""))) (aCons (stE (con (.str "0"))) (aCons (stE (con (.str "00"))) (aCons (stE (con (.str "01"))) (aCons (stE (con (.str "-1"))) (aCons (stE (con (.str "A"))) (aCons (stE (con (.str "a_b"))) (aCons (stE (con (.str "abcdefghi"))) (aCons (stE (con (.str "12345678901"))) (aCons (stE (con (.str "9999999999"))) (aCons (stE (con (.str "on"))) (aCons (stE (con (.str "off"))) (aCons (stE (con (.str "not"))) (aCons (stE (con (.str "first"))) aNil))))))))))))))) [.val (.ref 0), .val (.lst (tx rows)), .own (tx rows), .val (.int a), .own (tx ws), .val (.int p), d6, .none, .none] M2 = .ok (.next [.val (.ref 0), .val (.lst (tx rows)), .own (tx rows), .val (.int a), .own (tx ws), .val (.int p), .val (.lst (tx oddA)), .none, .none]) M2 := fun d6 => by
    simp [LIM, oddA]
  have LB : ∀ (ρ : Sl), lstE (aCons (stE (con (.str "state"))) (aCons (stE (con (.str "void"))) (aCons (stE (con (.str "q"))) (aCons (stE (con (.str "1"))) (aCons (stE (con (.str "x1"))) (aCons (stE (con (.str "+1"))) (aCons (stE (con (.str "unarmed"))) (aCons (stE (con (.str "ban"))) (aCons (stE (con (.str "at"))) (aCons (stE (con (.str "goal"))) (aCons (stE (con (.str "agree"))) (aCons (stE (con (.str "days"))) (aCons (stE (con (.str "1a"))) (aCons (stE (con (.str "group"))) aNil)))))))))))))) ρ M2 = .ok (.own (tx oddB)) M2 := fun ρ => by
    simp [LIM, oddB]
  have LC : ∀ (ρ : Sl), lstE (aCons (stE (con (.str "share"))) (aCons (stE (con (.str "feature"))) (aCons (stE (con (.str "shown"))) (aCons (stE (con (.str "split"))) (aCons (stE (con (.str "loss"))) aNil))))) ρ M2 = .ok (.own (tx oddC)) M2 := fun ρ => by
    simp [LIM, oddC]
  have AD : ∀ (x y : List W), x.length + y.length ≤ 100 → addP (.val (.lst (tx x))) (.own (tx y)) M2 = .ok (.own (tx (x ++ y))) M2 := fun x y h => by
    unfold addP
    simp only [view_lst, view_own]
    rw [if_pos (by rw [List.length_map, List.length_map]; unfold LIM; omega)]
    unfold tx
    rw [List.map_append]
  have S5 : ∀ (f : FE) (x y : List W), (∀ ρ, f ρ M2 = .ok (.own (tx y)) M2) → x.length + y.length ≤ 100 → setF 6 (op2 (getVar 6) f addP) [.val (.ref 0), .val (.lst (tx rows)), .own (tx rows), .val (.int a), .own (tx ws), .val (.int p), .val (.lst (tx x)), .none, .none] M2 = .ok (.next [.val (.ref 0), .val (.lst (tx rows)), .own (tx rows), .val (.int a), .own (tx ws), .val (.int p), .val (.lst (tx (x ++ y))), .none, .none]) M2 := fun f x y hf h => by
    rw [setF_ap, stE_ap, op2_ap, getVar_ap]
    simp only [List.getElem?_cons_succ, List.getElem?_cons_zero, R.bind_ok, hf, AD x y h, sto_own, List.set_cons_succ, List.set_cons_zero]
  have S6 : setF 7 (op2 (getVar 6) (callE 2 f_law_draw (aCons (stE (getVar 0)) (aCons (stE (op1 (getVar 6) lenP)) aNil))) idxP) [.val (.ref 0), .val (.lst (tx rows)), .own (tx rows), .val (.int a), .own (tx ws), .val (.int p), .val (.lst (tx oddAll)), .none, .none] M2 = .ok (.next [.val (.ref 0), .val (.lst (tx rows)), .own (tx rows), .val (.int a), .own (tx ws), .val (.int p), .val (.lst (tx oddAll)), .val (.str (mk w)), .none]) M3 := by
    rw [setF_ap, stE_ap, op2_ap, getVar_ap]
    simp only [List.getElem?_cons_succ, List.getElem?_cons_zero, R.bind_ok, e3, idxP_lst, hw1, sto_val, List.set_cons_succ, List.set_cons_zero]
  have S7 : setF 8 (callE 2 f_law_draw (aCons (stE (getVar 0)) (aCons (stE (con (.int 12))) aNil))) [.val (.ref 0), .val (.lst (tx rows)), .own (tx rows), .val (.int a), .own (tx ws), .val (.int p), .val (.lst (tx oddAll)), .val (.str (mk w)), .none] M3 = .ok (.next (spl (.val (.lst (tx rows))) rows a ws p (.val (.lst (tx oddAll))) w q)) M4 := by
    rw [setF_ap, stE_ap, e4]; rfl
  have lA : oddA.length = 14 := by decide +kernel
  have lB : oddB.length = 14 := by decide +kernel
  have lC : oddC.length = 5 := by decide +kernel
  have B : b_law_spoilt [.val (.ref 0), .val (.lst (tx rows)), .none, .none, .none, .none, .none, .none, .none] M = .ok (.ret (.own (tx rs))) M' := by
    show seqF _ (seqF _ (seqF _ (seqF _ (seqF _ (seqF _ (seqF _ (seqF _ (seqF _ sp0)))))))) _ _ = _
    rw [seqF_ap, S0]
    simp only
    rw [seqF_ap, S1]
    simp only
    rw [seqF_ap, S2]
    simp only
    rw [seqF_ap, S3]
    simp only
    rw [seqF_ap, S4]
    simp only
    rw [seqF_ap, S5 _ oddA oddB LB (by omega)]
    simp only
    rw [seqF_ap, S5 _ (oddA ++ oddB) oddC LC (by rw [List.length_append]; omega)]
    simp only
    have hAll : oddA ++ oddB ++ oddC = oddAll := rfl
    rw [hAll, seqF_ap, S6]
    simp only
    rw [seqF_ap, S7]
    simp only
    exact r4
  unfold f_law_spoilt fnD
  show (match b_law_spoilt [.val (.ref 0), .val (.lst (tx rows)), .none, .none, .none, .none, .none, .none, .none] M with | .ok (.ret x) M' => _ | .ok (.next _) M' => _ | .exn c d M' => _ | _ => _) = _
  rw [B]
end K58
set_option Elab.async false
set_option linter.all false
set_option maxRecDepth 100000
set_option maxHeartbeats 4000000
/-! law_k58: the law's plain function answers true. -/
namespace K58
open PySem L2 RS
/-- a memory whose first cell is a source -/
def HasSrc (M : Mem) : Prop := ∃ rest, IsSrc rest M
theorem HasSrc.app {M : Mem} (h : HasSrc M) (X : Mem) : HasSrc (M ++ X) := by
  obtain ⟨rest, t, k, rfl⟩ := h
  exact ⟨rest ++ X, t, k, rfl⟩
theorem lines_small {ls : List (List W)} {n m : Nat} (hn : ls.length ≤ n) (hm : ∀ l ∈ ls, l.length ≤ m ∧ ∀ w ∈ l, w.length ≤ 10) : (ls.map lineW).length ≤ n ∧ (∀ r ∈ ls.map lineW, r.length ≤ m * 11) ∧ (textW ls).length ≤ n * (m * 11 + 1) := by
  have h2 : ∀ r ∈ ls.map lineW, r.length ≤ m * 11 := fun r hr => by
    obtain ⟨l, hl, rfl⟩ := List.mem_map.mp hr
    have h := join_le 32 10 (ps := l) (hm l hl).2
    have h3 : (lineW l).length ≤ l.length * (10 + 1) := h
    have := (hm l hl).1
    exact Nat.le_trans h3 (Nat.mul_le_mul_right 11 this)
  refine ⟨by rw [List.length_map]; exact hn, h2, ?_⟩
  have h := join_le 10 (m * 11) (ps := ls.map lineW) h2
  have h3 : (textW ls).length ≤ (ls.map lineW).length * (m * 11 + 1) := h
  rw [List.length_map] at h3
  exact Nat.le_trans h3 (Nat.mul_le_mul_right _ hn)
theorem rows_small {rows : List W} {n m : Nat} (hn : rows.length ≤ n) (hm : ∀ r ∈ rows, r.length ≤ m) : (TL.joinL [10] rows).length ≤ n * (m + 1) :=
  Nat.le_trans (join_le 10 m (ps := rows) hm) (Nat.mul_le_mul_right _ hn)
theorem agrees_call {f : FE} {ρ : Sl} {M M1 : Mem} {rows : List W} (hf : stE f ρ M = .ok (.lst (tx rows)) M1) (hl : (TL.joinL [10] rows).length + 2 ≤ SLIM) : ∃ X, callE 1 f_law_agrees (aCons (stE f) aNil) ρ M = .ok (.val (.bl true)) (M1 ++ X) := by
  obtain ⟨X, hX⟩ := m_agrees rows M1 hl
  refine ⟨X, ?_⟩
  rw [callE_ap, aCons_ap, hf, R.bind_ok, aNil_ap, R.bind_ok, R.bind_ok]
  simp only [List.length_cons, List.length_nil, Nat.zero_add, if_true]
  exact hX
theorem draw_at (i : Nat) (L : Int) (l0 : 0 < L) (l1 : L < 1000000000) {ρ : Sl} {M : Mem} (h0 : ρ[i]? = some (.val (.ref 0))) (hM : HasSrc M) : ∃ r M', HasSrc M' ∧ 0 ≤ r ∧ r < L ∧ callE 2 f_law_draw (aCons (stE (getVar i)) (aCons (stE (con (.int L))) aNil)) ρ M = .ok (.val (.int r)) M' := by
  obtain ⟨rest, hM⟩ := hM
  obtain ⟨v, M', h1, ⟨r, rfl, r0, r1⟩, h3⟩ := (g_draw l0 l1).at hM
  exact ⟨r, M', ⟨rest, h1⟩, r0, r1, by simp [h0, h3]⟩
theorem spoilt_at {i : Nat} {ρ : Sl} {M : Mem} {rows : List W} {n m : Nat} (h1 : ρ[1]? = some (.val (.ref 0))) (hi : ρ[i]? = some (.val (.lst (tx rows)))) (hM : HasSrc M) (h0 : rows ≠ []) (hn : rows.length ≤ n) (hm : ∀ r ∈ rows, r.length ≤ m) (hm9 : m ≤ 10000) (hn9 : n ≤ 100000) :
    ∃ (rs : List W) (M' : Mem), rs.length ≤ 4 * n + 1 ∧ (∀ r ∈ rs, r.length ≤ 2 * m + 20) ∧ HasSrc M' ∧ callE 2 f_law_spoilt (aCons (stE (getVar 1)) (aCons (stE (getVar i)) aNil)) ρ M = .ok (.own (tx rs)) M' := by
  obtain ⟨rest, hM⟩ := hM
  obtain ⟨rs, M', r1, r2, r3, r4⟩ := m_spoilt hM h0 hn hm hm9 hn9
  refine ⟨rs, M', r1, r2, ⟨rest, r3⟩, ?_⟩
  rw [callE_ap, aCons_ap, stE_ap, getVar_ap, h1]
  simp only [R.bind_ok, sto_val, aCons_ap, stE_ap, getVar_ap, hi, aNil_ap, List.length_cons, List.length_nil, Nat.zero_add, Nat.reduceAdd, if_true]
  exact r4
abbrev lwl (L A : Slot) (rows : List W) (k d5 : Slot) : Sl := [L, .val (.ref 0), A, .val (.lst (tx rows)), k, d5]
theorem law_turn {L A k d5 : Slot} {rows : List W} {M : Mem} (hM : HasSrc M) (h0 : rows ≠ []) (hn : rows.length ≤ 60) (hm : ∀ r ∈ rows, r.length ≤ 110) :
    ∃ e5 M', HasSrc M' ∧ lb_law_1 (lwl L A rows k d5) M = .ok (.next (lwl L A rows k e5)) M' := by
  obtain ⟨rs, M1, r1, r2, hM1, e1⟩ := spoilt_at (i := 3) (ρ := lwl L A rows k d5) rfl rfl hM h0 hn hm (by omega) (by omega)
  obtain ⟨q, M2, hM2, q0, q1, e2⟩ := draw_at 1 4 (by decide) (by decide) (ρ := lwl L A rows k (.val (.lst (tx rs)))) rfl hM1
  have S1 : setF 5 (callE 2 f_law_spoilt (aCons (stE (getVar 1)) (aCons (stE (getVar 3)) aNil))) (lwl L A rows k d5) M = .ok (.next (lwl L A rows k (.val (.lst (tx rs))))) M1 := by
    rw [setF_ap, stE_ap, e1]; rfl
  have S2 : ∃ (rs2 : List W) (M3 : Mem), rs2.length ≤ 965 ∧ (∀ r ∈ rs2, r.length ≤ 500) ∧ HasSrc M3 ∧ ifF (andT (tst (op2 (callE 2 f_law_draw (aCons (stE (getVar 1)) (aCons (stE (con (.int 4))) aNil))) (con (.int 0)) (eqP false))) (tst (op2 (op1 (getVar 5) lenP) (con (.int 0)) gtP))) (setF 5 (callE 2 f_law_spoilt (aCons (stE (getVar 1)) (aCons (stE (getVar 5)) aNil)))) nxt (lwl L A rows k (.val (.lst (tx rs)))) M1 = .ok (.next (lwl L A rows k (.val (.lst (tx rs2))))) M3 := by
    have C1 : tst (op2 (callE 2 f_law_draw (aCons (stE (getVar 1)) (aCons (stE (con (.int 4))) aNil))) (con (.int 0)) (eqP false)) (lwl L A rows k (.val (.lst (tx rs)))) M1 = .ok (q == 0) M2 := by
      rw [tst_ap, op2_ap, e2]
      simp only [R.bind_ok, con_ap, eqP_int, asBool_bl]
      rfl
    have C2 : tst (op2 (op1 (getVar 5) lenP) (con (.int 0)) gtP) (lwl L A rows k (.val (.lst (tx rs)))) M2 = .ok (decide ((0 : Int) < ((rs.length : Nat) : Int))) M2 := by
      rw [tst_ap, op2_ap, op1_ap, getVar_ap]
      simp only [List.getElem?_cons_succ, List.getElem?_cons_zero, R.bind_ok, lenP_lst, con_ap, gtP_int, asBool_bl, List.length_map]
    by_cases hq : (q == 0) = true
    · by_cases hr : (0 : Int) < ((rs.length : Nat) : Int)
      · have hne : rs ≠ [] := fun z => by rw [z] at hr; simp at hr
        obtain ⟨rs2, M3, s1, s2, hM3, e3⟩ := spoilt_at (i := 5) (ρ := lwl L A rows k (.val (.lst (tx rs)))) (rows := rs) (n := 241) (m := 240) rfl rfl hM2 hne (by omega) (fun r hr => by have := r2 r hr; omega) (by omega) (by omega)
        refine ⟨rs2, M3, by omega, fun r hr => by have := s2 r hr; omega, hM3, ?_⟩
        rw [ifF_ap, andT_ap, C1, R.bind_ok, if_pos hq, C2, R.bind_ok, if_pos (decide_eq_true hr), setF_ap, stE_ap, e3]
        rfl
      · refine ⟨rs, M2, by omega, fun r hr => by have := r2 r hr; omega, hM2, ?_⟩
        rw [ifF_ap, andT_ap, C1, R.bind_ok, if_pos hq, C2, R.bind_ok, if_neg (by rw [decide_eq_true_eq]; exact hr), nxt_ap]
    · refine ⟨rs, M2, by omega, fun r hr => by have := r2 r hr; omega, hM2, ?_⟩
      rw [ifF_ap, andT_ap, C1, R.bind_ok, if_neg hq, R.bind_ok, if_neg Bool.false_ne_true, nxt_ap]
  obtain ⟨rs2, M3, s1, s2, hM3, S2⟩ := S2
  have hsm := rows_small s1 s2
  obtain ⟨X, hX⟩ := agrees_call (f := getVar 5) (ρ := lwl L A rows k (.val (.lst (tx rs2)))) (M := M3) (M1 := M3) (rows := rs2) rfl (by unfold SLIM; omega)
  refine ⟨.val (.lst (tx rs2)), M3 ++ X, hM3.app X, ?_⟩
  unfold lb_law_1
  rw [seqF_ap, S1]
  simp only
  rw [seqF_ap, S2]
  simp only
  rw [ifF_ap, notT_ap, tst_ap, hX, R.bind_ok, asBool_bl, R.bind_ok, R.bind_ok, if_neg (by simp), nxt_ap]
theorem ans_words {a : Answer} (h : AnsSm a) : ∀ l ∈ answerW a, l.length ≤ 10 ∧ ∀ w ∈ l, w.length ≤ 10 := fun l hl =>
  ⟨h.2.2 l hl, fun w hw => ((answer_plain h.1).2 l hl).2 w hw |>.1⟩
/-- the great course -/
def great (n : Nat) : Answer := .course [] [List.replicate n .void]
theorem great_ok (n : Nat) : answerOk (great n) := ⟨⟨(show (0 : Nat) = 1 / 2 by decide), fun m hm => (absurd hm List.not_mem_nil), fun t ht r hr => by
  have : t = List.replicate n .void := by simpa using ht
  subst this
  have := (List.mem_replicate.mp hr).2
  subst this; trivial⟩, rfl⟩
theorem great_W (n : Nat) : answerW (great n) = [sl "course"] :: [sl "state"] :: List.replicate n [sl "void"] := by
  show [sl "course"] :: treesW 0 [] [List.replicate n .void] = _
  have : treesW 0 [] [List.replicate n Row.void] = [sl "state"] :: ((List.replicate n Row.void).map rowW ++ treesW 1 [] []) := by
    conv => lhs; unfold treesW
    rw [if_pos (by rfl)]
  rw [this, List.map_replicate]
  have e : treesW 1 [] ([] : List (List Row)) = [] := rfl
  rw [e, List.append_nil]
  rfl
theorem great_D (n : Nat) : answerD (great n) = .tup [.str "course", .tup [], .tup [.tup (List.replicate n (.tup [.str "void"]))], .tup []] := by
  show courseD [] [List.replicate n .void] = _
  unfold courseD
  rw [stD_one, trD_one]
  unfold treeD
  rw [List.map_replicate]
  rfl
theorem great_words (n : Nat) : ∀ l ∈ answerW (great n), l.length ≤ 1 ∧ ∀ w ∈ l, w.length ≤ 10 := fun l hl => by
  have hc : (sl "course").length ≤ 10 := by decide +kernel
  have hs : (sl "state").length ≤ 10 := by decide +kernel
  have hv : (sl "void").length ≤ 10 := by decide +kernel
  rw [great_W] at hl
  have one : ∀ w : W, w.length ≤ 10 → [w].length ≤ 1 ∧ ∀ x ∈ [w], x.length ≤ 10 := fun w h => ⟨Nat.le_refl _, fun x hx => by
    have : x = w := by simpa using hx
    subst this; exact h⟩
  rcases List.mem_cons.mp hl with rfl | hl
  · exact one _ hc
  · rcases List.mem_cons.mp hl with rfl | hl
    · exact one _ hs
    · have := (List.mem_replicate.mp hl).2
      subst this; exact one _ hv
theorem great_tup {x : RS.D} {k : Int} {M : Mem} (h : 2 ≤ k ∧ k ≤ 100000) : mulP (.val (.tup [x])) (.val (.int k)) M = .ok (.val (.tup (List.replicate k.toNat x))) M := by
  unfold mulP
  simp only [view_tup, view_int]
  rw [if_pos ⟨by simp, h.1, h.2, by simp⟩]
  have : (List.replicate k.toNat [x]).flatten = List.replicate k.toNat x := by simp
  rw [this]
def lw_great : FS := (seqF (setF 2 (tupE (aCons (stE (con (.str "course"))) (aCons (stE (tupE aNil)) (aCons (stE (tupE (aCons (stE (op2 (tupE (aCons (stE (tupE (aCons (stE (con (.str "void"))) aNil))) aNil)) (op2 (con (.int 19998)) (callE 2 f_law_draw (aCons (stE (getVar 1)) (aCons (stE (con (.int 2))) aNil))) addP) mulP)) aNil))) (aCons (stE (tupE aNil)) aNil))))))
 (retF (callE 1 f_law_agrees (aCons (stE (callE 1 f_law_written (aCons (stE (getVar 2)) aNil))) aNil))))
theorem great_turn {L A k d5 : Slot} {rows : List W} {M : Mem} (hM : HasSrc M) : ∃ M', lw_great (lwl L A rows k d5) M = .ok (.ret (.val (.bl true))) M' := by
  obtain ⟨r, M1, hM1, r0, r1, e1⟩ := draw_at 1 2 (by decide) (by decide) (ρ := lwl L A rows k d5) rfl hM
  generalize hn : (19998 + r).toNat = n
  have hn2 : n ≤ 19999 := by omega
  have C : op2 (con (.int 19998)) (callE 2 f_law_draw (aCons (stE (getVar 1)) (aCons (stE (con (.int 2))) aNil))) addP (lwl L A rows k d5) M = .ok (.val (.int (19998 + r))) M1 := by
    rw [op2_ap, con_ap, R.bind_ok, e1, R.bind_ok, addP_int]
  have T : op2 (tupE (aCons (stE (tupE (aCons (stE (con (.str "void"))) aNil))) aNil)) (op2 (con (.int 19998)) (callE 2 f_law_draw (aCons (stE (getVar 1)) (aCons (stE (con (.int 2))) aNil))) addP) mulP (lwl L A rows k d5) M = .ok (.val (.tup (List.replicate n (.tup [.str "void"])))) M1 := by
    have V : tupE (aCons (stE (tupE (aCons (stE (con (.str "void"))) aNil))) aNil) (lwl L A rows k d5) M = .ok (.val (.tup [.tup [.str "void"]])) M := by simp [LIM]
    rw [op2_ap, V, R.bind_ok, C, R.bind_ok, great_tup ⟨by omega, by omega⟩, hn]
  have S1 : setF 2 (tupE (aCons (stE (con (.str "course"))) (aCons (stE (tupE aNil)) (aCons (stE (tupE (aCons (stE (op2 (tupE (aCons (stE (tupE (aCons (stE (con (.str "void"))) aNil))) aNil)) (op2 (con (.int 19998)) (callE 2 f_law_draw (aCons (stE (getVar 1)) (aCons (stE (con (.int 2))) aNil))) addP) mulP)) aNil))) (aCons (stE (tupE aNil)) aNil))))) (lwl L A rows k d5) M = .ok (.next (lwl L (.val (answerD (great n))) rows k d5)) M1 := by
    have E0 : ∀ (M : Mem), tupE aNil (lwl L A rows k d5) M = .ok (.val (.tup [])) M := fun M => by simp
    rw [great_D, setF_ap, stE_ap, tupE_ap, aCons_ap, stE_ap, con_ap]
    simp only [R.bind_ok, sto_val]
    rw [aCons_ap, stE_ap, E0]
    simp only [R.bind_ok, sto_val]
    rw [aCons_ap, stE_ap, tupE_ap, aCons_ap, stE_ap, T]
    simp only [R.bind_ok, sto_val, aNil_ap, List.length_cons, List.length_nil, Nat.zero_add]
    rw [if_pos (by unfold LIM; omega)]
    simp only [R.bind_ok, sto_val]
    rw [aCons_ap, stE_ap, E0]
    simp only [R.bind_ok, sto_val, aNil_ap, List.length_cons, List.length_nil, Nat.zero_add, Nat.reduceAdd]
    rw [if_pos (by unfold LIM; omega)]
    simp only [R.bind_ok, sto_val, List.set_cons_succ, List.set_cons_zero]
  have hlen : (answerW (great n)).length = n + 2 := by rw [great_W]; simp
  obtain ⟨q1, q2, q3⟩ := lines_small (ls := answerW (great n)) (n := 20001) (m := 1) (by omega) (great_words n)
  have Wr := m_law_written (great n) M1 (great_ok n) (by omega) (fun l hl => by
    have := q2 _ (List.mem_map.mpr ⟨l, hl, rfl⟩)
    unfold LnOk SLIM; omega)
  have F : stE (callE 1 f_law_written (aCons (stE (getVar 2)) aNil)) (lwl L (.val (answerD (great n))) rows k d5) M1 = .ok (.lst (tx ((answerW (great n)).map lineW))) M1 := by
    rw [stE_ap, callE_ap, aCons_ap, stE_ap, getVar_ap]
    simp only [List.getElem?_cons_succ, List.getElem?_cons_zero, R.bind_ok, sto_val, aNil_ap, List.length_cons, List.length_nil, Nat.zero_add, if_true]
    rw [Wr, lnD_tx]; rfl
  obtain ⟨X, hX⟩ := agrees_call F (by have e : (TL.joinL [10] ((answerW (great n)).map lineW)).length = (textW (answerW (great n))).length := rfl
                                      rw [e]; unfold SLIM; omega)
  refine ⟨M1 ++ X, ?_⟩
  unfold lw_great
  rw [seqF_ap, S1]
  simp only
  rw [retF_ap, hX, R.bind_ok]
def lw_rest : FS := (seqF (ifF (orT (notT (tst (callE 2 (f_law_same 20) (aCons (stE (callE 1 f_law_call (aCons (stE (joinE (con (.str "\n")) (getVar 3))) aNil))) (aCons (stE (tupE (aCons (stE (con (.str "value"))) (aCons (stE (getVar 2)) aNil)))) aNil))))) (notT (tst (callE 1 f_law_agrees (aCons (stE (getVar 3)) aNil)))))
 (retF (con (.bl false)))
 nxt)
 (seqF (forF (rng1 (aCons (stE (con (.int 16))) aNil)) (tgN 4)
 lb_law_1)
 (retF (andV (callE 1 f_law_agrees (aCons (stE (lstE (aCons (stE (con (.str ""))) aNil))) aNil)) (callE 1 f_law_agrees (aCons (stE (op2 (getVar 3) (lstE (aCons (stE (con (.str ""))) aNil)) addP)) aNil))))))
theorem rest_turn {L k d5 : Slot} {a : Answer} {M : Mem} (ha : AnsSm a) (hM : HasSrc M) : ∃ M', lw_rest (lwl L (.val (answerD a)) ((answerW a).map lineW) k d5) M = .ok (.ret (.val (.bl true))) M' := by
  obtain ⟨q1, q2, q3⟩ := lines_small (ls := answerW a) (n := 60) (m := 10) ha.2.1 (ans_words ha)
  have h0 := (answer_plain ha.1).1
  have hr0 : (answerW a).map lineW ≠ [] := by simpa using h0
  have htl : (textW (answerW a)).length + 2 ≤ SLIM := by unfold SLIM; omega
  have hrd := read_text ha.1 (by have := ha.2.1; omega)
  have J := joinE_nl (ρ := lwl L (.val (answerD a)) ((answerW a).map lineW) k d5) (M := M) (f := getVar 3) (ls := answerW a) (by rw [lnD_tx]; rfl) h0 (by omega)
  obtain ⟨X, hX⟩ := m_law_call (textW (answerW a)) M htl
  have P := pl_due htl
  rw [hrd] at hX P
  have D1 : callE 1 f_law_call (aCons (stE (joinE (con (.str "\n")) (getVar 3))) aNil) (lwl L (.val (answerD a)) ((answerW a).map lineW) k d5) M = .ok (.val (valD (answerD a))) (M ++ X) := by
    rw [callE_ap, aCons_ap, stE_ap, J]
    simp only [R.bind_ok, sto_val, aNil_ap, List.length_cons, List.length_nil, Nat.zero_add, if_true]
    exact hX
  have D2 : tupE (aCons (stE (con (.str "value"))) (aCons (stE (getVar 2)) aNil)) (lwl L (.val (answerD a)) ((answerW a).map lineW) k d5) (M ++ X) = .ok (.val (valD (answerD a))) (M ++ X) := by
    rw [tupE_ap, aCons_ap, stE_ap, con_ap]
    simp only [R.bind_ok, sto_val]
    rw [aCons_ap, stE_ap, getVar_ap]
    simp only [List.getElem?_cons_succ, List.getElem?_cons_zero, R.bind_ok, sto_val, aNil_ap, List.length_cons, List.length_nil, Nat.zero_add, Nat.reduceAdd]
    rw [if_pos (by unfold LIM; omega)]
    rfl
  have S := same_true D1 D2 P
  have hsm : (TL.joinL [10] ((answerW a).map lineW)).length + 2 ≤ SLIM := htl
  obtain ⟨Y, hY⟩ := agrees_call (f := getVar 3) (ρ := lwl L (.val (answerD a)) ((answerW a).map lineW) k d5) (M := M ++ X) (M1 := M ++ X) (rows := (answerW a).map lineW) rfl hsm
  have I1 : ifF (orT (notT (tst (callE 2 (f_law_same 20) (aCons (stE (callE 1 f_law_call (aCons (stE (joinE (con (.str "\n")) (getVar 3))) aNil))) (aCons (stE (tupE (aCons (stE (con (.str "value"))) (aCons (stE (getVar 2)) aNil)))) aNil))))) (notT (tst (callE 1 f_law_agrees (aCons (stE (getVar 3)) aNil))))) (retF (con (.bl false))) nxt (lwl L (.val (answerD a)) ((answerW a).map lineW) k d5) M = .ok (.next (lwl L (.val (answerD a)) ((answerW a).map lineW) k d5)) (M ++ X ++ Y) := by
    have c1 : notT (tst (callE 2 (f_law_same 20) (aCons (stE (callE 1 f_law_call (aCons (stE (joinE (con (.str "\n")) (getVar 3))) aNil))) (aCons (stE (tupE (aCons (stE (con (.str "value"))) (aCons (stE (getVar 2)) aNil)))) aNil)))) (lwl L (.val (answerD a)) ((answerW a).map lineW) k d5) M = .ok false (M ++ X) := by
      rw [notT_ap, tst_ap, S]; rfl
    have c2 : notT (tst (callE 1 f_law_agrees (aCons (stE (getVar 3)) aNil))) (lwl L (.val (answerD a)) ((answerW a).map lineW) k d5) (M ++ X) = .ok false (M ++ X ++ Y) := by
      rw [notT_ap, tst_ap, hY]; rfl
    rw [ifF_ap, orT_ap, c1, R.bind_ok, if_neg Bool.false_ne_true, c2, R.bind_ok, if_neg Bool.false_ne_true, nxt_ap]
  have Lp := forGo_inv (t := tgN 4) (b := lb_law_1) (fun j : Nat => RS.D.int ((0 : Int) + ((j : Nat) : Int)))
    (fun l ρ M' => HasSrc M' ∧ ∃ d4 d5, ρ = lwl L (.val (answerD a)) ((answerW a).map lineW) d4 d5)
    (fun j l ρ M' ⟨hm, d4, d5, e⟩ => by
      subst e
      obtain ⟨e5, M2, h1, h2⟩ := law_turn (L := L) (A := .val (answerD a)) (k := .val (.int ((0 : Int) + ((j : Nat) : Int)))) (d5 := d5) hm hr0 q1 q2
      exact ⟨_, _, M2, rfl, .inl h2, h1, _, _, rfl⟩)
    (List.range 16) (lwl L (.val (answerD a)) ((answerW a).map lineW) k d5) (M ++ X ++ Y) ⟨(hM.app X).app Y, _, _, rfl⟩
  obtain ⟨ρ', M3, hg, hM3, d4, e5, e⟩ := Lp
  subst e
  have hr : rng1 (aCons (stE (con (.int 16))) aNil) (lwl L (.val (answerD a)) ((answerW a).map lineW) k d5) (M ++ X ++ Y) = .ok ((List.range 16).map fun (k : Nat) => RS.D.int ((0 : Int) + (k : Int))) (M ++ X ++ Y) := rng1_nat (n := 16) rfl (by decide)
  obtain ⟨Z, hZ⟩ := agrees_call (f := lstE (aCons (stE (con (.str ""))) aNil)) (ρ := lwl L (.val (answerD a)) ((answerW a).map lineW) d4 e5) (M := M3) (M1 := M3) (rows := [sl ""]) (by
    have e1 : tx [sl ""] = [.str ""] := by show [RS.D.str (mk (sl ""))] = _; rw [mk_sl]
    rw [e1, stE_ap, lstE_ap, aCons_ap, stE_ap, con_ap]
    simp only [R.bind_ok, sto_val, aNil_ap, List.length_cons, List.length_nil, Nat.zero_add]
    rw [if_pos (by unfold LIM; omega)]
    rfl) (by decide +kernel)
  have hlast : (TL.joinL [10] ((answerW a).map lineW ++ [sl ""])).length ≤ 61 * (110 + 1) := by
    refine rows_small (by rw [List.length_append]; simp only [List.length_singleton]; omega) fun r hr => ?_
    rcases List.mem_append.mp hr with hr | hr
    · exact q2 r hr
    · have : r = sl "" := by simpa using hr
      subst this
      have : (sl "").length = 0 := by decide +kernel
      omega
  obtain ⟨U, hU⟩ := agrees_call (f := op2 (getVar 3) (lstE (aCons (stE (con (.str ""))) aNil)) addP) (ρ := lwl L (.val (answerD a)) ((answerW a).map lineW) d4 e5) (M := M3 ++ Z) (M1 := M3 ++ Z) (rows := (answerW a).map lineW ++ [sl ""]) (by
    have V : lstE (aCons (stE (con (.str ""))) aNil) (lwl L (.val (answerD a)) ((answerW a).map lineW) d4 e5) (M3 ++ Z) = .ok (.own (tx [sl ""])) (M3 ++ Z) := by
      have e1 : tx [sl ""] = [.str ""] := by show [RS.D.str (mk (sl ""))] = _; rw [mk_sl]
      rw [e1, lstE_ap, aCons_ap, stE_ap, con_ap]
      simp only [R.bind_ok, sto_val, aNil_ap, List.length_cons, List.length_nil, Nat.zero_add]
      rw [if_pos (by unfold LIM; omega)]
    rw [stE_ap, op2_ap, getVar_ap]
    simp only [List.getElem?_cons_succ, List.getElem?_cons_zero, R.bind_ok, V]
    unfold addP
    simp only [view_lst, view_own]
    rw [if_pos (by
      show (tx ((answerW a).map lineW)).length + (tx [sl ""]).length ≤ LIM
      have l60 : (answerW a).length ≤ 60 := ha.2.1
      simp only [List.length_map, List.length_singleton]; unfold LIM; omega)]
    unfold tx
    rw [List.map_append]
    rfl) (by unfold SLIM; omega)
  refine ⟨M3 ++ Z ++ U, ?_⟩
  unfold lw_rest
  rw [seqF_ap, I1]
  simp only
  rw [seqF_ap, forF_ap, hr, R.bind_ok, hg]
  simp only
  rw [retF_ap, andV_ap, hZ, R.bind_ok]
  simp only [view_bl]
  rw [if_pos trivial, hU, R.bind_ok]
theorem law_true (ns : List Int) (h : ns.length ≤ 63) : ∃ M, f_law [.scr ns] [] = .ok (.val (.bl true)) M := by
  obtain ⟨t, kt, e1⟩ := m_law_source ns h
  obtain ⟨v, M2, hM2, ⟨a, rfl, ha⟩, e2⟩ := g_answer.at (rest := []) (M := [some t.l]) ⟨t, kt, rfl⟩
  obtain ⟨q1, q2, q3⟩ := lines_small (ls := answerW a) (n := 60) (m := 10) ha.2.1 (ans_words ha)
  have Wr := m_law_written a M2 ha.1 (by have := ha.2.1; omega) (fun l hl => by
    have := q2 _ (List.mem_map.mpr ⟨l, hl, rfl⟩)
    unfold LnOk SLIM; omega)
  rw [lnD_tx] at Wr
  have hM2' : HasSrc M2 := ⟨_, hM2⟩
  obtain ⟨r, M3, hM3, r0, r1, e3⟩ := draw_at 1 16 (by decide) (by decide) (ρ := lwl (.val (.scr ns)) (.val (answerD a)) ((answerW a).map lineW) .none .none) rfl hM2'
  have S1 : setF 1 (callE 1 f_law_source (aCons (stE (getVar 0)) aNil)) [.val (.scr ns), .none, .none, .none, .none, .none] [] = .ok (.next [.val (.scr ns), .val (.ref 0), .none, .none, .none, .none]) [some t.l] := by
    have C : callE 1 f_law_source (aCons (stE (getVar 0)) aNil) [.val (.scr ns), .none, .none, .none, .none, .none] [] = .ok (.val (.ref 0)) [some t.l] := by
      rw [callE_ap, aCons_ap, stE_ap, getVar_ap]
      simp only [List.getElem?_cons_zero, R.bind_ok, sto_val, aNil_ap, List.length_cons, List.length_nil, Nat.zero_add, if_true]
      exact e1
    rw [setF_ap, stE_ap, C]; rfl
  have S2 : setF 2 (callE 1 f_law_some_answer (aCons (stE (getVar 1)) aNil)) [.val (.scr ns), .val (.ref 0), .none, .none, .none, .none] [some t.l] = .ok (.next [.val (.scr ns), .val (.ref 0), .val (answerD a), .none, .none, .none]) M2 := by
    have C : callE 1 f_law_some_answer (aCons (stE (getVar 1)) aNil) [.val (.scr ns), .val (.ref 0), .none, .none, .none, .none] [some t.l] = .ok (.val (answerD a)) M2 := by
      rw [callE_ap, aCons_ap, stE_ap, getVar_ap]
      simp only [List.getElem?_cons_succ, List.getElem?_cons_zero, R.bind_ok, sto_val, aNil_ap, List.length_cons, List.length_nil, Nat.zero_add, if_true]
      exact e2
    rw [setF_ap, stE_ap, C]; rfl
  have S3 : setF 3 (callE 1 f_law_written (aCons (stE (getVar 2)) aNil)) [.val (.scr ns), .val (.ref 0), .val (answerD a), .none, .none, .none] M2 = .ok (.next (lwl (.val (.scr ns)) (.val (answerD a)) ((answerW a).map lineW) .none .none)) M2 := by
    have C : callE 1 f_law_written (aCons (stE (getVar 2)) aNil) [.val (.scr ns), .val (.ref 0), .val (answerD a), .none, .none, .none] M2 = .ok (.own (tx ((answerW a).map lineW))) M2 := by
      rw [callE_ap, aCons_ap, stE_ap, getVar_ap]
      simp only [List.getElem?_cons_succ, List.getElem?_cons_zero, R.bind_ok, sto_val, aNil_ap, List.length_cons, List.length_nil, Nat.zero_add, if_true]
      exact Wr
    rw [setF_ap, stE_ap, C]; rfl
  have T : tst (op2 (callE 2 f_law_draw (aCons (stE (getVar 1)) (aCons (stE (con (.int 16))) aNil))) (con (.int 0)) (eqP false)) (lwl (.val (.scr ns)) (.val (answerD a)) ((answerW a).map lineW) .none .none) M2 = .ok (r == 0) M3 := by
    rw [tst_ap, op2_ap, e3]
    simp only [R.bind_ok, con_ap, eqP_int, asBool_bl]
    rfl
  have B : ∃ M', b_law [.val (.scr ns), .none, .none, .none, .none, .none] [] = .ok (.ret (.val (.bl true))) M' := by
    have hb : b_law = seqF (setF 1 (callE 1 f_law_source (aCons (stE (getVar 0)) aNil))) (seqF (setF 2 (callE 1 f_law_some_answer (aCons (stE (getVar 1)) aNil))) (seqF (setF 3 (callE 1 f_law_written (aCons (stE (getVar 2)) aNil))) (seqF (ifF (tst (op2 (callE 2 f_law_draw (aCons (stE (getVar 1)) (aCons (stE (con (.int 16))) aNil))) (con (.int 0)) (eqP false))) lw_great nxt) lw_rest))) := rfl
    rw [hb, seqF_ap, S1]
    simp only
    rw [seqF_ap, S2]
    simp only
    rw [seqF_ap, S3]
    simp only
    by_cases hr : (r == 0) = true
    · obtain ⟨M', hG⟩ := great_turn (L := .val (.scr ns)) (A := .val (answerD a)) (k := .none) (d5 := .none) (rows := (answerW a).map lineW) hM3
      refine ⟨M', ?_⟩
      rw [seqF_ap, ifF_ap, T, R.bind_ok, if_pos hr, hG]
    · obtain ⟨M', hG⟩ := rest_turn (L := .val (.scr ns)) (k := .none) (d5 := .none) ha hM3
      refine ⟨M', ?_⟩
      rw [seqF_ap, ifF_ap, T, R.bind_ok, if_neg hr, nxt_ap]
      exact hG
  obtain ⟨M', B⟩ := B
  refine ⟨M', ?_⟩
  unfold f_law fnD
  show (match b_law [.val (.scr ns), .none, .none, .none, .none, .none] [] with | .ok (.ret x) M' => _ | .ok (.next _) M' => _ | .exn c d M' => _ | _ => _) = _
  rw [B]
end K58
set_option Elab.async false
set_option linter.all false
set_option maxRecDepth 100000
set_option maxHeartbeats 2000000
namespace K58
open PySem PySem.Spec PyProof.Rows L2 RS
def topS (i : Nat) : Stmt := PySem.Challenge.pw_rollstep_k58_answer_texts.main.body.getD i (.Pass ⟨0, 0, 0, 0⟩)

structure Txt (P : Program) (K : Frag) (mg : Str → Option Value) where
  is_name : FT K mg "is_name" (topS 18) ["name"]
  condition_words : FT K mg "condition_words" (topS 21) ["condition"]
  read_number : FT K mg "read_number" (topS 22) ["word"]
  are_names : FT K mg "are_names" (topS 23) ["words"]
  read_numbers : FT K mg "read_numbers" (topS 24) ["words"]
  read_positive : FT K mg "read_positive" (topS 25) ["words"]
  read_condition : FT K mg "read_condition" (topS 26) ["words"]
  read_ground_condition : FT K mg "read_ground_condition" (topS 27) ["words"]
  read_row : FT K mg "read_row" (topS 30) ["words"]
  read_visitor : FT K mg "read_visitor" (topS 31) ["words"]
  read_reason : FT K mg "read_reason" (topS 32) ["words"]
  read_course : FT K mg "read_course" (topS 33) ["lines"]
  read_enclosure : FT K mg "read_enclosure" (topS 34) ["lines"]
  read_spoiled : FT K mg "read_spoiled" (topS 35) ["lines"]
  read_answer : FT K mg "read_answer" (topS 36) ["text"]
  row_line : FT K mg "row_line" (topS 38) ["row"]
  visitor_words : FT K mg "visitor_words" (topS 39) ["visitor"]
  reason_words : FT K mg "reason_words" (topS 40) ["reason"]
  course_lines : FT K mg "course_lines" (topS 41) ["moves", "state_rows", "move_rows"]
  enclosure_lines : FT K mg "enclosure_lines" (topS 42) ["blocks"]
  write_answer : FT K mg "write_answer" (topS 43) ["answer"]
  law_source : FT K mg "_law_source" (topS 45) ["script"]
  law_draw : FT K mg "_law_draw" (topS 46) ["source", "limit"]
  law_names : FT K mg "_law_names" (topS 47) ["source", "number"]
  law_number : FT K mg "_law_number" (topS 48) ["word"]
  law_named : FT K mg "_law_named" (topS 49) ["words"]
  law_condition_of : FT K mg "_law_condition_of" (topS 50) ["words"]
  law_spoilt : FT K mg "_law_spoilt" (topS 51) ["source", "lines"]
  law_told : FT K mg "_law_told" (topS 52) ["e"]
  law_same : FT K mg "_law_same" (topS 53) ["told", "due"]
  law_some_names : FT K mg "_law_some_names" (topS 54) ["source", "number"]
  law_some_number : FT K mg "_law_some_number" (topS 55) ["source"]
  law_some_condition : FT K mg "_law_some_condition" (topS 56) ["source"]
  law_some_rows : FT K mg "_law_some_rows" (topS 57) ["source"]
  law_some_reason : FT K mg "_law_some_reason" (topS 58) ["source", "word"]
  law_some_answer : FT K mg "_law_some_answer" (topS 59) ["source"]
  law_row_line : FT K mg "_law_row_line" (topS 60) ["row"]
  law_reason_line : FT K mg "_law_reason_line" (topS 61) ["reason"]
  law_written : FT K mg "_law_written" (topS 62) ["answer"]
  law_row_of : FT K mg "_law_row_of" (topS 63) ["words"]
  law_reason_of : FT K mg "_law_reason_of" (topS 64) ["words"]
  law_read_course : FT K mg "_law_read_course" (topS 65) ["lines"]
  law_read_enclosure : FT K mg "_law_read_enclosure" (topS 66) ["lines"]
  law_read : FT K mg "_law_read" (topS 67) ["lines"]
  law_call : FT K mg "_law_call" (topS 68) ["text"]
  law_agrees : FT K mg "_law_agrees" (topS 69) ["lines"]
  law : FT K mg "law" (topS 70) ["script"]
  m_len : mg "len" = none
  m_int : mg "int" = none
  m_str : mg "str" = none
  m_tuple : mg "tuple" = none
  m_list : mg "list" = none
  m_all : mg "all" = none
  m_isinstance : mg "isinstance" = none
  m_range : mg "range" = none
  m_zip : mg "zip" = none
  m_bool : mg "bool" = none
  c_LETTERS : ∃ t, mg "LETTERS" = some (.str "abcdefghijklmnopqrstuvwxyz" t)
  c_DIGITS : ∃ t, mg "DIGITS" = some (.str "0123456789" t)
  c_MOST_SIGNS : ∃ t, mg "MOST_SIGNS" = some (.int 8 t)
  c_MOST_DIGITS : ∃ t, mg "MOST_DIGITS" = some (.int 10 t)
  c_MOST_LINES : ∃ t, mg "MOST_LINES" = some (.int 20000 t)
  xa_BadLine : Addr
  xi_BadLine : Addr
  x_BadLine : SupTxt P K mg "BadLine" "line" xa_BadLine xi_BadLine
  xa_TooMany : Addr
  xi_TooMany : Addr
  x_TooMany : SupTxt P K mg "TooMany" "limit" xa_TooMany xi_TooMany
  xa_BadName : Addr
  xa_UnknownName : Addr
  xa_DoubleName : Addr
  xa_BadNumber : Addr
  xa_BadGroups : Addr
  xa_OtherGround : Addr
  xa_NeedLoop : Addr
  xa_BadLog : Addr
  xa_Refused : Addr
  xa_NoDeed : Addr
  xa_RollstepError : Addr
  n_BadName : mg "BadName" = some (.ref xa_BadName)
  n_UnknownName : mg "UnknownName" = some (.ref xa_UnknownName)
  n_DoubleName : mg "DoubleName" = some (.ref xa_DoubleName)
  n_BadNumber : mg "BadNumber" = some (.ref xa_BadNumber)
  n_TooMany : mg "TooMany" = some (.ref xa_TooMany)
  n_BadGroups : mg "BadGroups" = some (.ref xa_BadGroups)
  n_OtherGround : mg "OtherGround" = some (.ref xa_OtherGround)
  n_NeedLoop : mg "NeedLoop" = some (.ref xa_NeedLoop)
  n_BadLine : mg "BadLine" = some (.ref xa_BadLine)
  n_BadLog : mg "BadLog" = some (.ref xa_BadLog)
  n_Refused : mg "Refused" = some (.ref xa_Refused)
  n_NoDeed : mg "NoDeed" = some (.ref xa_NoDeed)
  n_RollstepError : mg "RollstepError" = some (.ref xa_RollstepError)
  m_ValueError : mg "ValueError" = none
  k_BadLine : ExcK K xa_BadLine
  kit_BadLine_BadName : PySem.W.kitOne K (.ref xa_BadLine) (.ref xa_BadName) = some false
  kit_BadLine_UnknownName : PySem.W.kitOne K (.ref xa_BadLine) (.ref xa_UnknownName) = some false
  kit_BadLine_DoubleName : PySem.W.kitOne K (.ref xa_BadLine) (.ref xa_DoubleName) = some false
  kit_BadLine_BadNumber : PySem.W.kitOne K (.ref xa_BadLine) (.ref xa_BadNumber) = some false
  kit_BadLine_TooMany : PySem.W.kitOne K (.ref xa_BadLine) (.ref xa_TooMany) = some false
  kit_BadLine_BadGroups : PySem.W.kitOne K (.ref xa_BadLine) (.ref xa_BadGroups) = some false
  kit_BadLine_OtherGround : PySem.W.kitOne K (.ref xa_BadLine) (.ref xa_OtherGround) = some false
  kit_BadLine_NeedLoop : PySem.W.kitOne K (.ref xa_BadLine) (.ref xa_NeedLoop) = some false
  kit_BadLine_BadLine : PySem.W.kitOne K (.ref xa_BadLine) (.ref xa_BadLine) = some true
  kit_BadLine_BadLog : PySem.W.kitOne K (.ref xa_BadLine) (.ref xa_BadLog) = some false
  kit_BadLine_Refused : PySem.W.kitOne K (.ref xa_BadLine) (.ref xa_Refused) = some false
  kit_BadLine_NoDeed : PySem.W.kitOne K (.ref xa_BadLine) (.ref xa_NoDeed) = some false
  kit_BadLine_ValueError : PySem.W.kitOne K (.ref xa_BadLine) (.type "ValueError") = some true
  exm_BadLine : PySem.W.exmOne K (.ref xa_BadLine) (.ref xa_RollstepError) = some true
  k_TooMany : ExcK K xa_TooMany
  kit_TooMany_BadName : PySem.W.kitOne K (.ref xa_TooMany) (.ref xa_BadName) = some false
  kit_TooMany_UnknownName : PySem.W.kitOne K (.ref xa_TooMany) (.ref xa_UnknownName) = some false
  kit_TooMany_DoubleName : PySem.W.kitOne K (.ref xa_TooMany) (.ref xa_DoubleName) = some false
  kit_TooMany_BadNumber : PySem.W.kitOne K (.ref xa_TooMany) (.ref xa_BadNumber) = some false
  kit_TooMany_TooMany : PySem.W.kitOne K (.ref xa_TooMany) (.ref xa_TooMany) = some true
  kit_TooMany_BadGroups : PySem.W.kitOne K (.ref xa_TooMany) (.ref xa_BadGroups) = some false
  kit_TooMany_OtherGround : PySem.W.kitOne K (.ref xa_TooMany) (.ref xa_OtherGround) = some false
  kit_TooMany_NeedLoop : PySem.W.kitOne K (.ref xa_TooMany) (.ref xa_NeedLoop) = some false
  kit_TooMany_BadLine : PySem.W.kitOne K (.ref xa_TooMany) (.ref xa_BadLine) = some false
  kit_TooMany_BadLog : PySem.W.kitOne K (.ref xa_TooMany) (.ref xa_BadLog) = some false
  kit_TooMany_Refused : PySem.W.kitOne K (.ref xa_TooMany) (.ref xa_Refused) = some false
  kit_TooMany_NoDeed : PySem.W.kitOne K (.ref xa_TooMany) (.ref xa_NoDeed) = some false
  kit_TooMany_ValueError : PySem.W.kitOne K (.ref xa_TooMany) (.type "ValueError") = some true
  exm_TooMany : PySem.W.exmOne K (.ref xa_TooMany) (.ref xa_RollstepError) = some true


def Txt.cls {P : Program} {K : Frag} {mg : Str → Option Value} (T : Txt P K mg) : Cls
  | 0 => some (T.xa_BadLine, "line")
  | 1 => some (T.xa_TooMany, "limit")
  | _ => none
end K58
set_option Elab.async false
set_option linter.all false
set_option maxRecDepth 100000
set_option maxHeartbeats 2000000
namespace K58
open PySem PySem.Spec PyProof.Rows L2 RS
section
variable {P : Program} {w : World} {K : Frag} {mg : Str → Option Value} {base : Heap}

theorem sc_is_name : FnScope ["name", "sign"] ["name"] (defScope (topS 18)) := ⟨rfl, rfl, rfl, by decide +kernel, rfl, by decide +kernel, by decide +kernel⟩
theorem ok_is_name (T : Txt P K mg) : FnOk P w K mg base (L2N.CX P w) 1 T.is_name.a T.is_name.d ["name"] (spOf K T.cls 1 f_is_name) :=
 have sc := sc_is_name
 fn_rs (b := b_is_name) T.is_name.F sc rfl fun cdv A outer s H E hr tk hp hu => ⟨_,
 (b_cons (s_if (t_not (t_chain k_le k_le e_int (e_len (K := K) T.m_len (e_var 0)) (e_gint T.c_MOST_SIGNS)))
 (b_one (s_ret e_bl))
 b_nil)
 (b_cons (s_if (t_cmp (k_notIn (K := K)) (e_ix (K := K) (e_var 0) e_int) (e_gstr T.c_LETTERS))
 (b_one (s_ret e_bl))
 b_nil)
 (b_cons (s_for hp rfl (i_any (K := K) (e_var 0)) (g_name 1 sc.nd)
 (b_one (s_if (t_w (w_and (t_cmp (k_notIn (K := K)) (e_var 1) (e_gstr T.c_LETTERS)) (w_and1 (t_cmp (k_notIn (K := K)) (e_var 1) (e_gstr T.c_DIGITS)))))
 (b_one (s_ret e_bl))
 b_nil)))
 (b_one (s_ret e_bl)))))⟩

theorem sc_condition_words : FnScope ["condition", "words", "part"] ["condition"] (defScope (topS 21)) := ⟨rfl, rfl, rfl, by decide +kernel, rfl, by decide +kernel, by decide +kernel⟩
theorem ok_condition_words (T : Txt P K mg) : FnOk P w K mg base (L2N.CX P w) 1 T.condition_words.a T.condition_words.d ["condition"] (spOf K T.cls 1 f_condition_words) :=
 have sc := sc_condition_words
 fn_rs (b := b_condition_words) T.condition_words.F sc rfl fun cdv A outer s H E hr tk hp hu => ⟨_,
 (b_cons (s_setC 1 rfl sc.nd (x_comp [("part", 2)] (i_any (K := K) (e_slice (K := K) (e_var 0) o_none (o_some (e_neg e_int)))) (fun _ _ _ _ _ => (g_name 2 sc.nd)) (fun _ _ _ _ _ => ts_nil) (fun _ _ _ _ _ => (e_str1 T.m_str (e_var 2)))))
 (b_cons (s_if (t_not (t_val (e_ix (K := K) (e_var 0) (e_neg e_int))))
 (b_one (s_set 1 sc.nd (e_add (K := K) (e_lst (a_cons e_str a_nil)) (e_var 1))))
 b_nil)
 (b_one (s_ret (e_join (K := K) e_str (e_var 1))))))⟩

theorem sc_read_number : FnScope ["word", "sign"] ["word"] (defScope (topS 22)) := ⟨rfl, rfl, rfl, by decide +kernel, rfl, by decide +kernel, by decide +kernel⟩
theorem ok_read_number (T : Txt P K mg) : FnOk P w K mg base (L2N.CX P w) 1 T.read_number.a T.read_number.d ["word"] (spOf K T.cls 1 f_read_number) :=
 have sc := sc_read_number
 fn_rs (b := b_read_number) T.read_number.F sc rfl fun cdv A outer s H E hr tk hp hu => ⟨_,
 (b_cons (s_if (t_not (t_chain k_le k_le e_int (e_len (K := K) T.m_len (e_var 0)) (e_gint T.c_MOST_DIGITS)))
 (b_one (s_ret e_non))
 b_nil)
 (b_cons (s_for hp rfl (i_any (K := K) (e_var 0)) (g_name 1 sc.nd)
 (b_one (s_if (t_cmp (k_notIn (K := K)) (e_var 1) (e_gstr T.c_DIGITS))
 (b_one (s_ret e_non))
 b_nil)))
 (b_cons (s_if (t_w (w_and (t_cmp (k_eq (K := K) hu) (e_ix (K := K) (e_var 0) e_int) e_str) (w_and1 (t_cmp k_gt (e_len (K := K) T.m_len (e_var 0)) e_int))))
 (b_one (s_ret e_non))
 b_nil)
 (b_one (s_ret (e_int1 T.m_int (e_var 0)))))))⟩

theorem sc_are_names : FnScope ["words", "word"] ["words"] (defScope (topS 23)) := ⟨rfl, rfl, rfl, by decide +kernel, rfl, by decide +kernel, by decide +kernel⟩
theorem ok_are_names (T : Txt P K mg) : FnOk P w K mg base (L2N.CX P w) 2 T.are_names.a T.are_names.d ["words"] (spOf K T.cls 1 f_are_names) :=
 have sc := sc_are_names
 fn_rs (b := b_are_names) T.are_names.F sc rfl fun cdv A outer s H E hr tk hp hu => ⟨_,
 (b_one (s_ret (e_all (K := K) rfl T.m_all (e_comp rfl sc.nd (x_comp [("word", 1)] (i_any (K := K) (e_var 0)) (fun _ _ _ _ _ => (g_name 1 sc.nd)) (fun _ _ _ _ _ => ts_nil) (fun _ _ _ _ _ => (e_call (K := K) (ok_is_name T) (hr.mono (by decide)) T.is_name.g T.is_name.F.kp T.is_name.B pass_W0 (a_cons (e_var 1) a_nil))))))))⟩

theorem sc_read_numbers : FnScope ["words", "numbers", "word"] ["words"] (defScope (topS 24)) := ⟨rfl, rfl, rfl, by decide +kernel, rfl, by decide +kernel, by decide +kernel⟩
theorem ok_read_numbers (T : Txt P K mg) : FnOk P w K mg base (L2N.CX P w) 2 T.read_numbers.a T.read_numbers.d ["words"] (spOf K T.cls 1 f_read_numbers) :=
 have sc := sc_read_numbers
 fn_rs (b := b_read_numbers) T.read_numbers.F sc rfl fun cdv A outer s H E hr tk hp hu => ⟨_,
 (b_cons (s_setC 1 rfl sc.nd (x_comp [("word", 2)] (i_any (K := K) (e_var 0)) (fun _ _ _ _ _ => (g_name 2 sc.nd)) (fun _ _ _ _ _ => ts_nil) (fun _ _ _ _ _ => (e_call (K := K) (ok_read_number T) (hr.mono (by decide)) T.read_number.g T.read_number.F.kp T.read_number.B pass_W0 (a_cons (e_var 2) a_nil)))))
 (b_cons (s_if (t_cmp (k_in (K := K)) e_non (e_var 1))
 (b_one (s_ret e_non))
 b_nil)
 (b_one (s_ret (e_var 1)))))⟩

theorem sc_read_positive : FnScope ["words", "numbers"] ["words"] (defScope (topS 25)) := ⟨rfl, rfl, rfl, by decide +kernel, rfl, by decide +kernel, by decide +kernel⟩
theorem ok_read_positive (T : Txt P K mg) : FnOk P w K mg base (L2N.CX P w) 3 T.read_positive.a T.read_positive.d ["words"] (spOf K T.cls 1 f_read_positive) :=
 have sc := sc_read_positive
 fn_rs (b := b_read_positive) T.read_positive.F sc rfl fun cdv A outer s H E hr tk hp hu => ⟨_,
 (b_cons (s_if (t_w (w_and (t_cmp (k_eq (K := K) hu) (e_len (K := K) T.m_len (e_var 0)) e_int) (w_and (t_cmp (k_in (K := K)) (e_ix (K := K) (e_var 0) e_int) (e_tup (a_cons e_str (a_cons e_str a_nil)))) (w_and1 (t_val (e_call (K := K) (ok_is_name T) (hr.mono (by decide)) T.is_name.g T.is_name.F.kp T.is_name.B (L2N.passAt tk) (a_cons (e_ix (K := K) (e_var 0) e_int) a_nil)))))))
 (b_one (s_ret (e_tup (a_cons (e_ix (K := K) (e_var 0) e_int) (a_cons (e_ix (K := K) (e_var 0) e_int) a_nil)))))
 b_nil)
 (b_cons (s_if (t_w (w_and (t_cmp (k_eq (K := K) hu) (e_len (K := K) T.m_len (e_var 0)) e_int) (w_and (t_cmp (k_eq (K := K) hu) (e_ix (K := K) (e_var 0) e_int) e_str) (w_and1 (t_val (e_call (K := K) (ok_is_name T) (hr.mono (by decide)) T.is_name.g T.is_name.F.kp T.is_name.B (L2N.passAt tk) (a_cons (e_ix (K := K) (e_var 0) e_int) a_nil)))))))
 (b_cons (s_set 1 sc.nd (e_call (K := K) (ok_read_numbers T) (hr.mono (by decide)) T.read_numbers.g T.read_numbers.F.kp T.read_numbers.B (L2N.passAt tk) (a_cons (e_slice (K := K) (e_var 0) (o_some e_int) o_none) a_nil)))
 (b_one (s_if (t_cmp k_notN (e_var 1) e_non)
 (b_one (s_ret (e_tup (a_cons e_str (a_cons (e_ix (K := K) (e_var 0) e_int) (a_cons (e_ix (K := K) (e_var 1) e_int) (a_cons (e_ix (K := K) (e_var 1) e_int) a_nil)))))))
 b_nil)))
 b_nil)
 (b_cons (s_if (t_w (w_and (t_cmp (k_eq (K := K) hu) (e_len (K := K) T.m_len (e_var 0)) e_int) (w_and1 (t_cmp (k_eq (K := K) hu) (e_ix (K := K) (e_var 0) e_int) e_str))))
 (b_cons (s_set 1 sc.nd (e_call (K := K) (ok_read_numbers T) (hr.mono (by decide)) T.read_numbers.g T.read_numbers.F.kp T.read_numbers.B (L2N.passAt tk) (a_cons (e_slice (K := K) (e_var 0) (o_some e_int) o_none) a_nil)))
 (b_one (s_if (t_cmp k_notN (e_var 1) e_non)
 (b_one (s_ret (e_tup (a_cons e_str (a_cons (e_ix (K := K) (e_var 1) e_int) (a_cons (e_ix (K := K) (e_var 1) e_int) a_nil))))))
 b_nil)))
 b_nil)
 (b_one (s_ret e_non)))))⟩

theorem sc_read_condition : FnScope ["words", "yes", "parts"] ["words"] (defScope (topS 26)) := ⟨rfl, rfl, rfl, by decide +kernel, rfl, by decide +kernel, by decide +kernel⟩
theorem ok_read_condition (T : Txt P K mg) : FnOk P w K mg base (L2N.CX P w) 4 T.read_condition.a T.read_condition.d ["words"] (spOf K T.cls 1 f_read_condition) :=
 have sc := sc_read_condition
 fn_rs (b := b_read_condition) T.read_condition.F sc rfl fun cdv A outer s H E hr tk hp hu => ⟨_,
 (b_cons (s_set 1 sc.nd e_bl)
 (b_cons (s_if (t_w (w_and (t_cmp k_gt (e_len (K := K) T.m_len (e_var 0)) e_int) (w_and1 (t_cmp (k_eq (K := K) hu) (e_ix (K := K) (e_var 0) e_int) e_str))))
 (b_cons (s_set 1 sc.nd e_bl)
 (b_one (s_set 0 sc.nd (e_slice (K := K) (e_var 0) (o_some e_int) o_none))))
 b_nil)
 (b_cons (s_set 2 sc.nd (e_call (K := K) (ok_read_positive T) (hr.mono (by decide)) T.read_positive.g T.read_positive.F.kp T.read_positive.B (L2N.passAt tk) (a_cons (e_var 0) a_nil)))
 (b_cons (s_if (t_cmp k_isN (e_var 2) e_non)
 (b_one (s_ret e_non))
 b_nil)
 (b_one (s_ret (e_add (K := K) (e_var 2) (e_tup (a_cons (e_var 1) a_nil)))))))))⟩

theorem sc_read_ground_condition : FnScope ["words", "condition"] ["words"] (defScope (topS 27)) := ⟨rfl, rfl, rfl, by decide +kernel, rfl, by decide +kernel, by decide +kernel⟩
theorem ok_read_ground_condition (T : Txt P K mg) : FnOk P w K mg base (L2N.CX P w) 5 T.read_ground_condition.a T.read_ground_condition.d ["words"] (spOf K T.cls 1 f_read_ground_condition) :=
 have sc := sc_read_ground_condition
 fn_rs (b := b_read_ground_condition) T.read_ground_condition.F sc rfl fun cdv A outer s H E hr tk hp hu => ⟨_,
 (b_cons (s_set 1 sc.nd (e_call (K := K) (ok_read_condition T) (hr.mono (by decide)) T.read_condition.g T.read_condition.F.kp T.read_condition.B (L2N.passAt tk) (a_cons (e_var 0) a_nil)))
 (b_cons (s_if (t_w (w_or (t_cmp k_isN (e_var 1) e_non) (w_or1 (t_cmp (k_eq (K := K) hu) (e_ix (K := K) (e_var 1) e_int) e_str))))
 (b_one (s_ret e_non))
 b_nil)
 (b_one (s_ret (e_var 1)))))⟩

theorem sc_read_row : FnScope ["words", "picks", "condition"] ["words"] (defScope (topS 30)) := ⟨rfl, rfl, rfl, by decide +kernel, rfl, by decide +kernel, by decide +kernel⟩
theorem ok_read_row (T : Txt P K mg) : FnOk P w K mg base (L2N.CX P w) 6 T.read_row.a T.read_row.d ["words"] (spOf K T.cls 1 f_read_row) :=
 have sc := sc_read_row
 fn_rs (b := b_read_row) T.read_row.F sc rfl fun cdv A outer s H E hr tk hp hu => ⟨_,
 (b_cons (s_if (t_cmp (k_eq (K := K) hu) (e_var 0) (e_lst (a_cons e_str a_nil)))
 (b_one (s_ret (e_tup (a_cons e_str a_nil))))
 b_nil)
 (b_cons (s_if (t_cmp (k_eq (K := K) hu) (e_ix (K := K) (e_var 0) e_int) e_str)
 (b_cons (s_set 1 sc.nd (e_call (K := K) (ok_read_numbers T) (hr.mono (by decide)) T.read_numbers.g T.read_numbers.F.kp T.read_numbers.B (L2N.passAt tk) (a_cons (e_slice (K := K) (e_var 0) (o_some e_int) o_none) a_nil)))
 (b_one (s_if (t_cmp k_notN (e_var 1) e_non)
 (b_one (s_ret (e_tup (a_cons e_str (a_cons (e_tuple1 (K := K) T.m_tuple (e_var 1)) a_nil)))))
 b_nil)))
 b_nil)
 (b_cons (s_if (t_cmp (k_eq (K := K) hu) (e_ix (K := K) (e_var 0) e_int) e_str)
 (b_cons (s_set 2 sc.nd (e_call (K := K) (ok_read_ground_condition T) (hr.mono (by decide)) T.read_ground_condition.g T.read_ground_condition.F.kp T.read_ground_condition.B (L2N.passAt tk) (a_cons (e_slice (K := K) (e_var 0) (o_some e_int) o_none) a_nil)))
 (b_one (s_if (t_cmp k_notN (e_var 2) e_non)
 (b_one (s_ret (e_tup (a_cons e_str (a_cons (e_var 2) a_nil)))))
 b_nil)))
 b_nil)
 (b_one (s_ret e_non)))))⟩

theorem sc_read_visitor : FnScope ["words", "numbers"] ["words"] (defScope (topS 31)) := ⟨rfl, rfl, rfl, by decide +kernel, rfl, by decide +kernel, by decide +kernel⟩
theorem ok_read_visitor (T : Txt P K mg) : FnOk P w K mg base (L2N.CX P w) 3 T.read_visitor.a T.read_visitor.d ["words"] (spOf K T.cls 1 f_read_visitor) :=
 have sc := sc_read_visitor
 fn_rs (b := b_read_visitor) T.read_visitor.F sc rfl fun cdv A outer s H E hr tk hp hu => ⟨_,
 (b_cons (s_if (t_w (w_or (t_cmp k_lt (e_len (K := K) T.m_len (e_var 0)) e_int) (w_or1 (t_not (t_val (e_call (K := K) (ok_are_names T) (hr.mono (by decide)) T.are_names.g T.are_names.F.kp T.are_names.B (L2N.passAt tk) (a_cons (e_slice (K := K) (e_var 0) (o_some e_int) o_none) a_nil)))))))
 (b_one (s_ret e_non))
 b_nil)
 (b_cons (s_set 1 sc.nd (e_call (K := K) (ok_read_numbers T) (hr.mono (by decide)) T.read_numbers.g T.read_numbers.F.kp T.read_numbers.B (L2N.passAt tk) (a_cons (e_slice (K := K) (e_var 0) o_none (o_some e_int)) a_nil)))
 (b_cons (s_if (t_cmp k_isN (e_var 1) e_non)
 (b_one (s_ret e_non))
 b_nil)
 (b_one (s_ret (e_tup (a_cons (e_ix (K := K) (e_var 1) e_int) (a_cons (e_tuple1 (K := K) T.m_tuple (e_slice (K := K) (e_var 0) (o_some e_int) o_none)) (a_cons (e_ix (K := K) (e_var 1) e_int) a_nil)))))))))⟩

theorem sc_read_reason : FnScope ["words", "subject", "visitor"] ["words"] (defScope (topS 32)) := ⟨rfl, rfl, rfl, by decide +kernel, rfl, by decide +kernel, by decide +kernel⟩
theorem ok_read_reason (T : Txt P K mg) : FnOk P w K mg base (L2N.CX P w) 4 T.read_reason.a T.read_reason.d ["words"] (spOf K T.cls 1 f_read_reason) :=
 have sc := sc_read_reason
 fn_rs (b := b_read_reason) T.read_reason.F sc rfl fun cdv A outer s H E hr tk hp hu => ⟨_,
 (b_cons (s_if (t_w (w_or (t_cmp k_lt (e_len (K := K) T.m_len (e_var 0)) e_int) (w_or1 (t_cmp (k_notIn (K := K)) (e_ix (K := K) (e_var 0) e_int) (e_tup (a_cons e_str (a_cons e_str a_nil)))))))
 (b_one (s_ret e_non))
 b_nil)
 (b_cons (s_set 1 sc.nd (e_ix (K := K) (e_var 0) e_int))
 (b_cons (s_if (t_cmp (k_eq (K := K) hu) (e_ix (K := K) (e_var 0) e_int) e_str)
 (b_one (s_set 1 sc.nd (e_call (K := K) (ok_read_number T) (hr.mono (by decide)) T.read_number.g T.read_number.F.kp T.read_number.B (L2N.passAt tk) (a_cons (e_ix (K := K) (e_var 0) e_int) a_nil))))
 (b_one (s_if (t_not (t_val (e_call (K := K) (ok_is_name T) (hr.mono (by decide)) T.is_name.g T.is_name.F.kp T.is_name.B (L2N.passAt tk) (a_cons (e_ix (K := K) (e_var 0) e_int) a_nil))))
 (b_one (s_set 1 sc.nd e_non))
 b_nil)))
 (b_cons (s_set 2 sc.nd (e_call (K := K) (ok_read_visitor T) (hr.mono (by decide)) T.read_visitor.g T.read_visitor.F.kp T.read_visitor.B (L2N.passAt tk) (a_cons (e_slice (K := K) (e_var 0) (o_some e_int) o_none) a_nil)))
 (b_cons (s_if (t_w (w_or (t_cmp k_isN (e_var 1) e_non) (w_or1 (t_cmp k_isN (e_var 2) e_non))))
 (b_one (s_ret e_non))
 b_nil)
 (b_one (s_ret (e_tup (a_cons (e_ix (K := K) (e_var 0) e_int) (a_cons (e_var 1) (a_cons (e_var 2) a_nil)))))))))))⟩

theorem sc_read_course : FnScope ["lines", "moves", "state_rows", "move_rows", "current", "at", "words", "row", "states", "rows"] ["lines"] (defScope (topS 33)) := ⟨rfl, rfl, rfl, by decide +kernel, rfl, by decide +kernel, by decide +kernel⟩
theorem ok_read_course (T : Txt P K mg) : FnOk P w K mg base (L2N.CX P w) 7 T.read_course.a T.read_course.d ["lines"] (spOf K T.cls 1 f_read_course) :=
 have sc := sc_read_course
 fn_rs (b := b_read_course) T.read_course.F sc rfl fun cdv A outer s H E hr tk hp hu => ⟨_,
 (b_cons (s_own 1 sc.nd (e_lst a_nil))
 (b_cons (s_own 2 sc.nd (e_lst a_nil))
 (b_cons (s_own 3 sc.nd (e_lst a_nil))
 (b_cons (s_set 4 sc.nd e_non)
 (b_cons (s_for hp rfl (i_rng2 T.m_range (a_cons e_int (a_cons (e_len (K := K) T.m_len (e_var 0)) a_nil))) (g_name 5 sc.nd)
 (b_cons (s_set 6 sc.nd (e_split (e_ix (K := K) (e_var 0) (e_var 5)) e_str))
 (b_one (s_if (t_w (w_and (t_cmp (k_eq (K := K) hu) (e_var 6) (e_lst (a_cons e_str a_nil))) (w_and1 (t_cmp (k_eq (K := K) hu) (e_len (K := K) T.m_len (e_var 2)) (e_len (K := K) T.m_len (e_var 3))))))
 (b_cons (s_cell 4 sc.nd (e_lst a_nil))
 (b_one (s_app 2 (e_var 2) (e_var 4))))
 (b_one (s_if (t_w (w_and (t_cmp (k_eq (K := K) hu) (e_ix (K := K) (e_var 6) e_int) e_str) (w_and (t_cmp (k_eq (K := K) hu) (e_len (K := K) T.m_len (e_var 6)) e_int) (w_and1 (t_cmp k_gt (e_len (K := K) T.m_len (e_var 2)) (e_len (K := K) T.m_len (e_var 3)))))))
 (b_cons (s_if (t_not (t_val (e_call (K := K) (ok_is_name T) (hr.mono (by decide)) T.is_name.g T.is_name.F.kp T.is_name.B (L2N.passAt tk) (a_cons (e_ix (K := K) (e_var 6) e_int) a_nil))))
 (b_one (s_rse T.x_BadLine rfl name_line rfl tk hr (e_add (K := K) (e_var 5) e_int)))
 b_nil)
 (b_cons (s_cell 4 sc.nd (e_lst a_nil))
 (b_cons (s_app 1 (e_var 1) (e_ix (K := K) (e_var 6) e_int))
 (b_one (s_app 3 (e_var 3) (e_var 4))))))
 (b_cons (s_set 7 sc.nd (e_call (K := K) (ok_read_row T) (hr.mono (by decide)) T.read_row.g T.read_row.F.kp T.read_row.B (L2N.passAt tk) (a_cons (e_var 6) a_nil)))
 (b_cons (s_if (t_w (w_or (t_cmp k_isN (e_var 7) e_non) (w_or1 (t_cmp k_isN (e_var 4) e_non))))
 (b_one (s_rse T.x_BadLine rfl name_line rfl tk hr (e_add (K := K) (e_var 5) e_int)))
 b_nil)
 (b_one (s_appC (e_var 4) (e_var 7)))))))))))
 (b_cons (s_if (t_cmp (k_eq (K := K) hu) (e_len (K := K) T.m_len (e_var 2)) (e_len (K := K) T.m_len (e_var 3)))
 (b_one (s_rse T.x_BadLine rfl name_line rfl tk hr (e_add (K := K) (e_len (K := K) T.m_len (e_var 0)) e_int)))
 b_nil)
 (b_frz 3 (b_frz 2 (b_cons (s_set 8 sc.nd (e_tuple1 (K := K) T.m_tuple (e_comp rfl sc.nd (x_comp [("rows", 9)] (i_any (K := K) (e_var 2)) (fun _ _ _ _ _ => (g_name 9 sc.nd)) (fun _ _ _ _ _ => ts_nil) (fun _ _ _ _ _ => (e_tuple1 (K := K) T.m_tuple (e_var 9)))))))
 (b_one (s_ret (e_tup (a_cons e_str (a_cons (e_tuple1 (K := K) T.m_tuple (e_var 1)) (a_cons (e_var 8) (a_cons (e_tuple1 (K := K) T.m_tuple (e_comp rfl sc.nd (x_comp [("rows", 9)] (i_any (K := K) (e_var 3)) (fun _ _ _ _ _ => (g_name 9 sc.nd)) (fun _ _ _ _ _ => ts_nil) (fun _ _ _ _ _ => (e_tuple1 (K := K) T.m_tuple (e_var 9)))))) a_nil))))))))))))))))⟩

theorem sc_read_enclosure : FnScope ["lines", "states", "exits", "at", "words", "reason", "blocks", "state", "rows"] ["lines"] (defScope (topS 34)) := ⟨rfl, rfl, rfl, by decide +kernel, rfl, by decide +kernel, by decide +kernel⟩
theorem ok_read_enclosure (T : Txt P K mg) : FnOk P w K mg base (L2N.CX P w) 5 T.read_enclosure.a T.read_enclosure.d ["lines"] (spOf K T.cls 1 f_read_enclosure) :=
 have sc := sc_read_enclosure
 fn_rs (b := b_read_enclosure) T.read_enclosure.F sc rfl fun cdv A outer s H E hr tk hp hu => ⟨_,
 (b_cons (s_own 1 sc.nd (e_lst a_nil))
 (b_cons (s_own 2 sc.nd (e_lst a_nil))
 (b_cons (s_for hp rfl (i_rng2 T.m_range (a_cons e_int (a_cons (e_len (K := K) T.m_len (e_var 0)) a_nil))) (g_name 3 sc.nd)
 (b_cons (s_set 4 sc.nd (e_split (e_ix (K := K) (e_var 0) (e_var 3)) e_str))
 (b_cons (s_if (t_w (w_and (t_cmp (k_eq (K := K) hu) (e_ix (K := K) (e_var 4) e_int) e_str) (w_and1 (t_val (e_call (K := K) (ok_are_names T) (hr.mono (by decide)) T.are_names.g T.are_names.F.kp T.are_names.B (L2N.passAt tk) (a_cons (e_slice (K := K) (e_var 4) (o_some e_int) o_none) a_nil))))))
 (b_cons (s_app 1 (e_var 1) (e_tuple1 (K := K) T.m_tuple (e_slice (K := K) (e_var 4) (o_some e_int) o_none)))
 (b_cons (s_app 2 (e_var 2) (e_cell (e_lst a_nil)))
 (b_one s_cont)))
 b_nil)
 (b_cons (s_set 5 sc.nd (e_call (K := K) (ok_read_reason T) (hr.mono (by decide)) T.read_reason.g T.read_reason.F.kp T.read_reason.B (L2N.passAt tk) (a_cons (e_slice (K := K) (e_var 4) (o_some e_int) o_none) a_nil)))
 (b_cons (s_if (t_w (w_or (t_cmp (k_ne (K := K) hu) (e_ix (K := K) (e_var 4) e_int) e_str) (w_or (t_cmp (k_eq (K := K) hu) (e_len (K := K) T.m_len (e_var 1)) e_int) (w_or (t_cmp k_isN (e_var 5) e_non) (w_or1 (t_not (t_val (e_call (K := K) (ok_is_name T) (hr.mono (by decide)) T.is_name.g T.is_name.F.kp T.is_name.B (L2N.passAt tk) (a_cons (e_ix (K := K) (e_var 4) e_int) a_nil)))))))))
 (b_one (s_rse T.x_BadLine rfl name_line rfl tk hr (e_add (K := K) (e_var 3) e_int)))
 b_nil)
 (b_one (s_appC (e_ix (K := K) (e_var 2) (e_neg e_int)) (e_tup (a_cons (e_ix (K := K) (e_var 4) e_int) (a_cons (e_var 5) a_nil))))))))))
 (b_frz 2 (b_frz 1 (b_cons (s_setC 6 rfl sc.nd (x_comp [("state", 7), ("rows", 8)] (i_zip2 (K := K) T.m_zip (a_cons (e_var 1) (a_cons (e_var 2) a_nil))) (fun _ _ _ _ _ => (g_tup (K := K) rfl (gs_cons (g_name 7 sc.nd) (gs_cons (g_name 8 sc.nd) gs_nil)))) (fun _ _ _ _ _ => ts_nil) (fun _ _ _ _ _ => (e_tup (a_cons (e_var 7) (a_cons (e_tuple1 (K := K) T.m_tuple (e_var 8)) a_nil))))))
 (b_one (s_ret (e_tup (a_cons e_str (a_cons (e_tuple1 (K := K) T.m_tuple (e_var 6)) a_nil)))))))))))⟩

theorem sc_read_spoiled : FnScope ["lines", "words", "reason"] ["lines"] (defScope (topS 35)) := ⟨rfl, rfl, rfl, by decide +kernel, rfl, by decide +kernel, by decide +kernel⟩
theorem ok_read_spoiled (T : Txt P K mg) : FnOk P w K mg base (L2N.CX P w) 5 T.read_spoiled.a T.read_spoiled.d ["lines"] (spOf K T.cls 1 f_read_spoiled) :=
 have sc := sc_read_spoiled
 fn_rs (b := b_read_spoiled) T.read_spoiled.F sc rfl fun cdv A outer s H E hr tk hp hu => ⟨_,
 (b_cons (s_set 1 sc.nd (e_split (e_ix (K := K) (e_var 0) e_int) e_str))
 (b_cons (s_set 2 sc.nd (e_call (K := K) (ok_read_reason T) (hr.mono (by decide)) T.read_reason.g T.read_reason.F.kp T.read_reason.B (L2N.passAt tk) (a_cons (e_slice (K := K) (e_var 1) (o_some e_int) o_none) a_nil)))
 (b_cons (s_if (t_w (w_or (t_cmp (k_ne (K := K) hu) (e_ix (K := K) (e_var 1) e_int) e_str) (w_or (t_cmp k_isN (e_var 2) e_non) (w_or1 (t_cmp (k_ne (K := K) hu) (e_ix (K := K) (e_var 2) e_int) e_str)))))
 (b_one (s_rse T.x_BadLine rfl name_line rfl tk hr e_int))
 b_nil)
 (b_cons (s_if (t_cmp k_gt (e_len (K := K) T.m_len (e_var 0)) e_int)
 (b_one (s_rse T.x_BadLine rfl name_line rfl tk hr e_int))
 b_nil)
 (b_one (s_ret (e_tup (a_cons e_str (a_cons (e_var 2) a_nil)))))))))⟩

theorem sc_read_answer : FnScope ["text", "lines"] ["text"] (defScope (topS 36)) := ⟨rfl, rfl, rfl, by decide +kernel, rfl, by decide +kernel, by decide +kernel⟩
theorem ok_read_answer (T : Txt P K mg) : FnOk P w K mg base (L2N.CX P w) 8 T.read_answer.a T.read_answer.d ["text"] (spOf K T.cls 1 f_read_answer) :=
 have sc := sc_read_answer
 fn_rs (b := b_read_answer) T.read_answer.F sc rfl fun cdv A outer s H E hr tk hp hu => ⟨_,
 (b_cons (s_set 1 sc.nd (e_split (e_var 0) e_str))
 (b_cons (s_if (t_cmp k_gt (e_len (K := K) T.m_len (e_var 1)) (e_gint T.c_MOST_LINES))
 (b_one (s_rse T.x_TooMany rfl name_limit rfl tk hr (e_gint T.c_MOST_LINES)))
 b_nil)
 (b_cons (s_if (t_cmp (k_eq (K := K) hu) (e_ix (K := K) (e_var 1) e_int) e_str)
 (b_one (s_ret (e_call (K := K) (ok_read_course T) (hr.mono (by decide)) T.read_course.g T.read_course.F.kp T.read_course.B (L2N.passAt tk) (a_cons (e_var 1) a_nil))))
 b_nil)
 (b_cons (s_if (t_cmp (k_eq (K := K) hu) (e_ix (K := K) (e_var 1) e_int) e_str)
 (b_one (s_ret (e_call (K := K) (ok_read_enclosure T) (hr.mono (by decide)) T.read_enclosure.g T.read_enclosure.F.kp T.read_enclosure.B (L2N.passAt tk) (a_cons (e_var 1) a_nil))))
 b_nil)
 (b_one (s_ret (e_call (K := K) (ok_read_spoiled T) (hr.mono (by decide)) T.read_spoiled.g T.read_spoiled.F.kp T.read_spoiled.B (L2N.passAt tk) (a_cons (e_var 1) a_nil))))))))⟩

theorem sc_row_line : FnScope ["row", "pick"] ["row"] (defScope (topS 38)) := ⟨rfl, rfl, rfl, by decide +kernel, rfl, by decide +kernel, by decide +kernel⟩
theorem ok_row_line (T : Txt P K mg) : FnOk P w K mg base (L2N.CX P w) 2 T.row_line.a T.row_line.d ["row"] (spOf K T.cls 1 f_row_line) :=
 have sc := sc_row_line
 fn_rs (b := b_row_line) T.row_line.F sc rfl fun cdv A outer s H E hr tk hp hu => ⟨_,
 (b_cons (s_if (t_cmp (k_eq (K := K) hu) (e_ix (K := K) (e_var 0) e_int) e_str)
 (b_one (s_ret (e_add (K := K) e_str (e_call (K := K) (ok_condition_words T) (hr.mono (by decide)) T.condition_words.g T.condition_words.F.kp T.condition_words.B (L2N.passAt tk) (a_cons (e_ix (K := K) (e_var 0) e_int) a_nil)))))
 b_nil)
 (b_cons (s_if (t_cmp (k_eq (K := K) hu) (e_ix (K := K) (e_var 0) e_int) e_str)
 (b_one (s_ret (e_join (K := K) e_str (e_add (K := K) (e_lst (a_cons e_str a_nil)) (e_comp rfl sc.nd (x_comp [("pick", 1)] (i_any (K := K) (e_ix (K := K) (e_var 0) e_int)) (fun _ _ _ _ _ => (g_name 1 sc.nd)) (fun _ _ _ _ _ => ts_nil) (fun _ _ _ _ _ => (e_str1 T.m_str (e_var 1)))))))))
 b_nil)
 (b_one (s_ret e_str))))⟩

theorem sc_visitor_words : FnScope ["visitor"] ["visitor"] (defScope (topS 39)) := ⟨rfl, rfl, rfl, by decide +kernel, rfl, by decide +kernel, by decide +kernel⟩
theorem ok_visitor_words (T : Txt P K mg) : FnOk P w K mg base (L2N.CX P w) 1 T.visitor_words.a T.visitor_words.d ["visitor"] (spOf K T.cls 1 f_visitor_words) :=
 have sc := sc_visitor_words
 fn_rs (b := b_visitor_words) T.visitor_words.F sc rfl fun cdv A outer s H E hr tk hp hu => ⟨_,
 (b_one (s_ret (e_join (K := K) e_str (e_add (K := K) (e_lst (a_cons (e_str1 T.m_str (e_ix (K := K) (e_var 0) e_int)) (a_cons (e_str1 T.m_str (e_ix (K := K) (e_var 0) e_int)) a_nil))) (e_list1 (K := K) T.m_list (e_ix (K := K) (e_var 0) e_int))))))⟩

theorem sc_reason_words : FnScope ["reason"] ["reason"] (defScope (topS 40)) := ⟨rfl, rfl, rfl, by decide +kernel, rfl, by decide +kernel, by decide +kernel⟩
theorem ok_reason_words (T : Txt P K mg) : FnOk P w K mg base (L2N.CX P w) 2 T.reason_words.a T.reason_words.d ["reason"] (spOf K T.cls 1 f_reason_words) :=
 have sc := sc_reason_words
 fn_rs (b := b_reason_words) T.reason_words.F sc rfl fun cdv A outer s H E hr tk hp hu => ⟨_,
 (b_one (s_ret (e_add (K := K) (e_add (K := K) (e_add (K := K) (e_add (K := K) (e_ix (K := K) (e_var 0) e_int) e_str) (e_str1 T.m_str (e_ix (K := K) (e_var 0) e_int))) e_str) (e_call (K := K) (ok_visitor_words T) (hr.mono (by decide)) T.visitor_words.g T.visitor_words.F.kp T.visitor_words.B (L2N.passAt tk) (a_cons (e_ix (K := K) (e_var 0) e_int) a_nil)))))⟩

theorem sc_course_lines : FnScope ["moves", "state_rows", "move_rows", "lines", "row", "step", "rows", "after"] ["moves", "state_rows", "move_rows"] (defScope (topS 41)) := ⟨rfl, rfl, rfl, by decide +kernel, rfl, by decide +kernel, by decide +kernel⟩
theorem ok_course_lines (T : Txt P K mg) : FnOk P w K mg base (L2N.CX P w) 3 T.course_lines.a T.course_lines.d ["moves", "state_rows", "move_rows"] (spOf K T.cls 3 f_course_lines) :=
 have sc := sc_course_lines
 fn_rs (b := b_course_lines) T.course_lines.F sc rfl fun cdv A outer s H E hr tk hp hu => ⟨_,
 (b_cons (s_own 3 sc.nd (e_add (K := K) (e_lst (a_cons e_str (a_cons e_str a_nil))) (e_comp rfl sc.nd (x_comp [("row", 4)] (i_any (K := K) (e_ix (K := K) (e_var 1) e_int)) (fun _ _ _ _ _ => (g_name 4 sc.nd)) (fun _ _ _ _ _ => ts_nil) (fun _ _ _ _ _ => (e_call (K := K) (ok_row_line T) (hr.mono (by decide)) T.row_line.g T.row_line.F.kp T.row_line.B pass_W0 (a_cons (e_var 4) a_nil)))))))
 (b_cons (s_for hp rfl (i_zip3 (K := K) T.m_zip (a_cons (e_var 0) (a_cons (e_var 2) (a_cons (e_slice (K := K) (e_var 1) (o_some e_int) o_none) a_nil)))) (g_tup (K := K) rfl (gs_cons (g_name 5 sc.nd) (gs_cons (g_name 6 sc.nd) (gs_cons (g_name 7 sc.nd) gs_nil))))
 (b_cons (s_app 3 (e_var 3) (e_add (K := K) e_str (e_var 5)))
 (b_cons (s_ext 3 (e_var 3) (e_comp rfl sc.nd (x_comp [("row", 4)] (i_any (K := K) (e_var 6)) (fun _ _ _ _ _ => (g_name 4 sc.nd)) (fun _ _ _ _ _ => ts_nil) (fun _ _ _ _ _ => (e_call (K := K) (ok_row_line T) (hr.mono (by decide)) T.row_line.g T.row_line.F.kp T.row_line.B pass_W0 (a_cons (e_var 4) a_nil))))))
 (b_cons (s_app 3 (e_var 3) e_str)
 (b_one (s_ext 3 (e_var 3) (e_comp rfl sc.nd (x_comp [("row", 4)] (i_any (K := K) (e_var 7)) (fun _ _ _ _ _ => (g_name 4 sc.nd)) (fun _ _ _ _ _ => ts_nil) (fun _ _ _ _ _ => (e_call (K := K) (ok_row_line T) (hr.mono (by decide)) T.row_line.g T.row_line.F.kp T.row_line.B pass_W0 (a_cons (e_var 4) a_nil)))))))))))
 (b_one (s_retV 3 (e_var 3)))))⟩

theorem sc_enclosure_lines : FnScope ["blocks", "lines", "state", "exits", "step", "reason"] ["blocks"] (defScope (topS 42)) := ⟨rfl, rfl, rfl, by decide +kernel, rfl, by decide +kernel, by decide +kernel⟩
theorem ok_enclosure_lines (T : Txt P K mg) : FnOk P w K mg base (L2N.CX P w) 3 T.enclosure_lines.a T.enclosure_lines.d ["blocks"] (spOf K T.cls 1 f_enclosure_lines) :=
 have sc := sc_enclosure_lines
 fn_rs (b := b_enclosure_lines) T.enclosure_lines.F sc rfl fun cdv A outer s H E hr tk hp hu => ⟨_,
 (b_cons (s_own 1 sc.nd (e_lst (a_cons e_str a_nil)))
 (b_cons (s_for hp rfl (i_any (K := K) (e_var 0)) (g_tup (K := K) rfl (gs_cons (g_name 2 sc.nd) (gs_cons (g_name 3 sc.nd) gs_nil)))
 (b_cons (s_app 1 (e_var 1) (e_join (K := K) e_str (e_add (K := K) (e_lst (a_cons e_str a_nil)) (e_list1 (K := K) T.m_list (e_var 2)))))
 (b_one (s_for hp rfl (i_any (K := K) (e_var 3)) (g_tup (K := K) rfl (gs_cons (g_name 4 sc.nd) (gs_cons (g_name 5 sc.nd) gs_nil)))
 (b_one (s_app 1 (e_var 1) (e_add (K := K) (e_add (K := K) (e_add (K := K) e_str (e_var 4)) e_str) (e_call (K := K) (ok_reason_words T) (hr.mono (by decide)) T.reason_words.g T.reason_words.F.kp T.reason_words.B (L2N.passAt tk) (a_cons (e_var 5) a_nil)))))))))
 (b_one (s_retV 1 (e_var 1)))))⟩

theorem sc_write_answer : FnScope ["answer", "lines"] ["answer"] (defScope (topS 43)) := ⟨rfl, rfl, rfl, by decide +kernel, rfl, by decide +kernel, by decide +kernel⟩
theorem ok_write_answer (T : Txt P K mg) : FnOk P w K mg base (L2N.CX P w) 4 T.write_answer.a T.write_answer.d ["answer"] (spOf K T.cls 1 f_write_answer) :=
 have sc := sc_write_answer
 fn_rs (b := b_write_answer) T.write_answer.F sc rfl fun cdv A outer s H E hr tk hp hu => ⟨_,
 (b_cons (s_if (t_cmp (k_eq (K := K) hu) (e_ix (K := K) (e_var 0) e_int) e_str)
 (b_one (s_set 1 sc.nd (e_call (K := K) (ok_course_lines T) (hr.mono (by decide)) T.course_lines.g T.course_lines.F.kp T.course_lines.B (L2N.passAt tk) (a_cons (e_ix (K := K) (e_var 0) e_int) (a_cons (e_ix (K := K) (e_var 0) e_int) (a_cons (e_ix (K := K) (e_var 0) e_int) a_nil))))))
 (b_one (s_if (t_cmp (k_eq (K := K) hu) (e_ix (K := K) (e_var 0) e_int) e_str)
 (b_one (s_set 1 sc.nd (e_call (K := K) (ok_enclosure_lines T) (hr.mono (by decide)) T.enclosure_lines.g T.enclosure_lines.F.kp T.enclosure_lines.B (L2N.passAt tk) (a_cons (e_ix (K := K) (e_var 0) e_int) a_nil))))
 (b_one (s_set 1 sc.nd (e_lst (a_cons (e_add (K := K) e_str (e_call (K := K) (ok_reason_words T) (hr.mono (by decide)) T.reason_words.g T.reason_words.F.kp T.reason_words.B (L2N.passAt tk) (a_cons (e_ix (K := K) (e_var 0) e_int) a_nil))) a_nil)))))))
 (b_one (s_ret (e_join (K := K) e_str (e_var 1)))))⟩

theorem sc_law_draw : FnScope ["source", "limit", "cell", "found"] ["source", "limit"] (defScope (topS 46)) := ⟨rfl, rfl, rfl, by decide +kernel, rfl, by decide +kernel, by decide +kernel⟩
theorem ok_law_draw (T : Txt P K mg) : FnOk P w K mg base (L2N.CX P w) 1 T.law_draw.a T.law_draw.d ["source", "limit"] (spOf K T.cls 2 f_law_draw) :=
 have sc := sc_law_draw
 fn_rs (b := b_law_draw) T.law_draw.F sc rfl fun cdv A outer s H E hr tk hp hu => ⟨_,
 (b_cons (s_if (t_w (w_and (t_cmp (k_eq (K := K) hu) (e_ix (K := K) (e_var 0) e_int) e_int) (w_and1 (t_cmp k_lt (e_ix (K := K) (e_var 0) e_int) (e_len (K := K) T.m_len (e_ix (K := K) (e_var 0) e_int))))))
 (b_cons (s_set 2 sc.nd (e_ix (K := K) (e_ix (K := K) (e_var 0) e_int) (e_ix (K := K) (e_var 0) e_int)))
 (b_cons (s_putC (e_var 0) e_int (e_add (K := K) (e_ix (K := K) (e_var 0) e_int) e_int))
 (b_cons (s_putC (e_var 0) e_int (e_mod (e_int1 T.m_int (e_add (K := K) (e_mul (K := K) (e_ix (K := K) (e_var 0) e_int) e_int) (e_var 2))) e_int))
 (b_one (s_putC (e_var 0) e_int (e_mul (K := K) (e_var 2) (e_int1 T.m_int (e_cmp k_ge (e_var 2) (e_pow e_int e_int)))))))))
 b_nil)
 (b_cons (s_if (t_cmp k_gt (e_ix (K := K) (e_var 0) e_int) e_int)
 (b_cons (s_set 3 sc.nd (e_mod (e_int1 T.m_int (e_ix (K := K) (e_var 0) e_int)) (e_var 1)))
 (b_cons (s_putC (e_var 0) e_int (e_div (e_ix (K := K) (e_var 0) e_int) (e_var 1)))
 (b_one (s_ret (e_var 3)))))
 b_nil)
 (b_cons (s_putC (e_var 0) e_int (e_mod (e_int1 T.m_int (e_add (K := K) (e_mul (K := K) (e_ix (K := K) (e_var 0) e_int) e_int) e_int)) e_int))
 (b_one (s_ret (e_mod (e_int1 T.m_int (e_div (e_ix (K := K) (e_var 0) e_int) e_int)) (e_var 1)))))))⟩

theorem sc_law_source : FnScope ["script", "great", "source", "cell"] ["script"] (defScope (topS 45)) := ⟨rfl, rfl, rfl, by decide +kernel, rfl, by decide +kernel, by decide +kernel⟩
theorem ok_law_source (T : Txt P K mg) : FnOk P w K mg base (L2N.CX P w) 2 T.law_source.a T.law_source.d ["script"] (spOf K T.cls 1 f_law_source) :=
 have sc := sc_law_source
 fn_rs (b := b_law_source) T.law_source.F sc rfl fun cdv A outer s H E hr tk hp hu => ⟨_,
 (b_cons (s_set 1 sc.nd (e_mul (K := K) (e_mul (K := K) (e_mul (K := K) (e_mul (K := K) (e_pow e_int e_int) (e_pow e_int e_int)) (e_pow e_int e_int)) (e_pow e_int e_int)) (e_pow e_int e_int)))
 (b_cons (s_cell 2 sc.nd (e_lst (a_cons (e_comp rfl sc.nd (x_comp [("cell", 3)] (i_any (K := K) (e_slice (K := K) (e_var 0) o_none (o_some e_int))) (fun _ _ _ _ _ => (g_name 3 sc.nd)) (fun _ _ _ _ _ => ts_nil) (fun _ _ _ _ _ => (e_mod (e_int1 T.m_int (e_var 3)) (e_var 1))))) (a_cons e_int (a_cons e_int (a_cons e_int (a_cons e_int a_nil)))))))
 (b_cons (s_putC (e_var 2) e_int (e_call (K := K) (ok_law_draw T) (hr.mono (by decide)) T.law_draw.g T.law_draw.F.kp T.law_draw.B (L2N.passAt tk) (a_cons (e_var 2) (a_cons e_int a_nil))))
 (b_one (s_ret (e_var 2))))))⟩

theorem sc_law_names : FnScope ["source", "number", "signs", "found", "k", "at", "name", "j"] ["source", "number"] (defScope (topS 47)) := ⟨rfl, rfl, rfl, by decide +kernel, rfl, by decide +kernel, by decide +kernel⟩
theorem ok_law_names (T : Txt P K mg) : FnOk P w K mg base (L2N.CX P w) 2 T.law_names.a T.law_names.d ["source", "number"] (spOf K T.cls 2 f_law_names) :=
 have sc := sc_law_names
 fn_rs (b := b_law_names) T.law_names.F sc rfl fun cdv A outer s H E hr tk hp hu => ⟨_,
 (b_cons (s_set 2 sc.nd e_str)
 (b_cons (s_own 3 sc.nd (e_lst a_nil))
 (b_cons (s_for hp rfl (i_rng1 T.m_range (a_cons (e_var 1) a_nil)) (g_name 4 sc.nd)
 (b_cons (s_set 5 sc.nd (e_call (K := K) (ok_law_draw T) (hr.mono (by decide)) T.law_draw.g T.law_draw.F.kp T.law_draw.B (L2N.passAt tk) (a_cons (e_var 0) (a_cons e_int a_nil))))
 (b_cons (s_set 6 sc.nd (e_add (K := K) (e_add (K := K) (e_slice (K := K) e_str o_none (o_some (e_ix (K := K) (e_var 0) e_int))) (e_ix (K := K) (e_var 2) (e_var 5))) (e_slice (K := K) e_str (o_some (e_add (K := K) (e_ix (K := K) (e_var 0) e_int) e_int)) o_none)))
 (b_cons (s_if (t_cmp k_gt (e_ix (K := K) (e_var 0) e_int) e_int)
 (b_cons (s_set 6 sc.nd (e_ix (K := K) (e_var 2) (e_var 5)))
 (b_one (s_for hp rfl (i_rng1 T.m_range (a_cons (e_call (K := K) (ok_law_draw T) (hr.mono (by decide)) T.law_draw.g T.law_draw.F.kp T.law_draw.B (L2N.passAt tk) (a_cons (e_var 0) (a_cons e_int a_nil))) a_nil)) (g_name 7 sc.nd)
 (b_one (s_set 6 sc.nd (e_add (K := K) (e_var 6) (e_ix (K := K) (e_var 2) (e_call (K := K) (ok_law_draw T) (hr.mono (by decide)) T.law_draw.g T.law_draw.F.kp T.law_draw.B (L2N.passAt tk) (a_cons (e_var 0) (a_cons e_int a_nil))))))))))
 b_nil)
 (b_cons (s_for hp rfl (i_rng1 T.m_range (a_cons e_int a_nil)) (g_name 7 sc.nd)
 (b_one (s_if (t_cmp (k_in (K := K)) (e_var 6) (e_var 3))
 (b_one (s_set 6 sc.nd (e_add (K := K) (e_ix (K := K) (e_var 2) (e_mod (e_int1 T.m_int (e_add (K := K) (e_var 5) (e_var 7))) e_int)) (e_str1 T.m_str (e_var 7)))))
 b_nil)))
 (b_one (s_app 3 (e_var 3) (e_var 6))))))))
 (b_one (s_retV 3 (e_var 3))))))⟩

theorem sc_law_number : FnScope ["word", "sign"] ["word"] (defScope (topS 48)) := ⟨rfl, rfl, rfl, by decide +kernel, rfl, by decide +kernel, by decide +kernel⟩
theorem ok_law_number (T : Txt P K mg) : FnOk P w K mg base (L2N.CX P w) 1 T.law_number.a T.law_number.d ["word"] (spOf K T.cls 1 f_law_number) :=
 have sc := sc_law_number
 fn_rs (b := b_law_number) T.law_number.F sc rfl fun cdv A outer s H E hr tk hp hu => ⟨_,
 (b_cons (s_if (t_w (w_or (t_cmp k_lt (e_len (K := K) T.m_len (e_var 0)) e_int) (w_or (t_cmp k_gt (e_len (K := K) T.m_len (e_var 0)) e_int) (w_or1 (t_cmp k_gt (e_len (K := K) T.m_len (e_comp rfl sc.nd (x_comp [("sign", 1)] (i_any (K := K) (e_var 0)) (fun _ _ _ _ _ => (g_name 1 sc.nd)) (fun _ _ _ _ _ => (ts_one (t_cmp (k_notIn (K := K)) (e_var 1) e_str))) (fun _ _ _ _ _ => (e_var 1))))) e_int)))))
 (b_one (s_ret (e_neg e_int)))
 b_nil)
 (b_cons (s_if (t_w (w_and (t_cmp (k_eq (K := K) hu) (e_ix (K := K) (e_var 0) e_int) e_str) (w_and1 (t_cmp k_gt (e_len (K := K) T.m_len (e_var 0)) e_int))))
 (b_one (s_ret (e_neg e_int)))
 b_nil)
 (b_one (s_ret (e_int1 T.m_int (e_var 0))))))⟩

theorem sc_law_named : FnScope ["words", "letters", "word", "sign"] ["words"] (defScope (topS 49)) := ⟨rfl, rfl, rfl, by decide +kernel, rfl, by decide +kernel, by decide +kernel⟩
theorem ok_law_named (T : Txt P K mg) : FnOk P w K mg base (L2N.CX P w) 1 T.law_named.a T.law_named.d ["words"] (spOf K T.cls 1 f_law_named) :=
 have sc := sc_law_named
 fn_rs (b := b_law_named) T.law_named.F sc rfl fun cdv A outer s H E hr tk hp hu => ⟨_,
 (b_cons (s_set 1 sc.nd e_str)
 (b_cons (s_for hp rfl (i_any (K := K) (e_var 0)) (g_name 2 sc.nd)
 (b_cons (s_if (t_w (w_or (t_cmp k_lt (e_len (K := K) T.m_len (e_var 2)) e_int) (w_or (t_cmp k_gt (e_len (K := K) T.m_len (e_var 2)) e_int) (w_or1 (t_cmp (k_notIn (K := K)) (e_ix (K := K) (e_var 2) e_int) (e_var 1))))))
 (b_one (s_ret e_bl))
 b_nil)
 (b_one (s_if (t_cmp k_gt (e_len (K := K) T.m_len (e_comp rfl sc.nd (x_comp [("sign", 3)] (i_any (K := K) (e_var 2)) (fun _ _ _ _ _ => (g_name 3 sc.nd)) (fun _ _ _ _ _ => (ts_one (t_cmp (k_notIn (K := K)) (e_var 3) (e_add (K := K) (e_var 1) e_str)))) (fun _ _ _ _ _ => (e_var 3))))) e_int)
 (b_one (s_ret e_bl))
 b_nil))))
 (b_one (s_ret e_bl))))⟩

theorem sc_law_condition_of : FnScope ["words", "yes", "rest", "numbers", "word"] ["words"] (defScope (topS 50)) := ⟨rfl, rfl, rfl, by decide +kernel, rfl, by decide +kernel, by decide +kernel⟩
theorem ok_law_condition_of (T : Txt P K mg) : FnOk P w K mg base (L2N.CX P w) 2 T.law_condition_of.a T.law_condition_of.d ["words"] (spOf K T.cls 1 f_law_condition_of) :=
 have sc := sc_law_condition_of
 fn_rs (b := b_law_condition_of) T.law_condition_of.F sc rfl fun cdv A outer s H E hr tk hp hu => ⟨_,
 (b_cons (s_set 1 sc.nd (e_cmp (k_ne (K := K) hu) (e_slice (K := K) (e_var 0) o_none (o_some e_int)) (e_lst (a_cons e_str a_nil))))
 (b_cons (s_set 2 sc.nd (e_slice (K := K) (e_var 0) (o_some (e_sub e_int (e_int1 T.m_int (e_var 1)))) o_none))
 (b_cons (s_setC 3 rfl sc.nd (x_comp [("word", 4)] (i_any (K := K) (e_slice (K := K) (e_var 2) (o_some (e_neg e_int)) o_none)) (fun _ _ _ _ _ => (g_name 4 sc.nd)) (fun _ _ _ _ _ => ts_nil) (fun _ _ _ _ _ => (e_call (K := K) (ok_law_number T) (hr.mono (by decide)) T.law_number.g T.law_number.F.kp T.law_number.B pass_W0 (a_cons (e_var 4) a_nil)))))
 (b_cons (s_if (t_w (w_and (t_cmp (k_eq (K := K) hu) (e_len (K := K) T.m_len (e_var 2)) e_int) (w_and (t_cmp (k_in (K := K)) (e_ix (K := K) (e_var 2) e_int) (e_tup (a_cons e_str (a_cons e_str a_nil)))) (w_and1 (t_val (e_call (K := K) (ok_law_named T) (hr.mono (by decide)) T.law_named.g T.law_named.F.kp T.law_named.B (L2N.passAt tk) (a_cons (e_slice (K := K) (e_var 2) (o_some e_int) o_none) a_nil)))))))
 (b_one (s_ret (e_tup (a_cons (e_ix (K := K) (e_var 2) e_int) (a_cons (e_ix (K := K) (e_var 2) e_int) (a_cons (e_var 1) a_nil))))))
 b_nil)
 (b_cons (s_if (t_w (w_and (t_cmp (k_eq (K := K) hu) (e_len (K := K) T.m_len (e_var 2)) e_int) (w_and (t_cmp (k_eq (K := K) hu) (e_ix (K := K) (e_var 2) e_int) e_str) (w_and (t_val (e_call (K := K) (ok_law_named T) (hr.mono (by decide)) T.law_named.g T.law_named.F.kp T.law_named.B (L2N.passAt tk) (a_cons (e_slice (K := K) (e_var 2) (o_some e_int) (o_some e_int)) a_nil))) (w_and1 (t_cmp (k_notIn (K := K)) (e_neg e_int) (e_var 3)))))))
 (b_one (s_ret (e_tup (a_cons e_str (a_cons (e_ix (K := K) (e_var 2) e_int) (a_cons (e_ix (K := K) (e_var 3) e_int) (a_cons (e_ix (K := K) (e_var 3) e_int) (a_cons (e_var 1) a_nil))))))))
 b_nil)
 (b_cons (s_if (t_w (w_and (t_cmp (k_eq (K := K) hu) (e_len (K := K) T.m_len (e_var 2)) e_int) (w_and (t_cmp (k_eq (K := K) hu) (e_ix (K := K) (e_var 2) e_int) e_str) (w_and1 (t_cmp (k_notIn (K := K)) (e_neg e_int) (e_var 3))))))
 (b_one (s_ret (e_tup (a_cons e_str (a_cons (e_ix (K := K) (e_var 3) e_int) (a_cons (e_ix (K := K) (e_var 3) e_int) (a_cons (e_var 1) a_nil)))))))
 b_nil)
 (b_one (s_ret e_non))))))))⟩

theorem sc_law_spoilt : FnScope ["source", "lines", "rows", "at", "words", "place", "odd", "word", "kind"] ["source", "lines"] (defScope (topS 51)) := ⟨rfl, rfl, rfl, by decide +kernel, rfl, by decide +kernel, by decide +kernel⟩
theorem ok_law_spoilt (T : Txt P K mg) : FnOk P w K mg base (L2N.CX P w) 2 T.law_spoilt.a T.law_spoilt.d ["source", "lines"] (spOf K T.cls 2 f_law_spoilt) :=
 have sc := sc_law_spoilt
 fn_rs (b := b_law_spoilt) T.law_spoilt.F sc rfl fun cdv A outer s H E hr tk hp hu => ⟨_,
 (b_cons (s_own 2 sc.nd (e_list1 (K := K) T.m_list (e_var 1)))
 (b_cons (s_set 3 sc.nd (e_call (K := K) (ok_law_draw T) (hr.mono (by decide)) T.law_draw.g T.law_draw.F.kp T.law_draw.B (L2N.passAt tk) (a_cons (e_var 0) (a_cons (e_len (K := K) T.m_len (e_var 2)) a_nil))))
 (b_cons (s_own 4 sc.nd (e_split (e_ix (K := K) (e_var 2) (e_var 3)) e_str))
 (b_cons (s_set 5 sc.nd (e_call (K := K) (ok_law_draw T) (hr.mono (by decide)) T.law_draw.g T.law_draw.F.kp T.law_draw.B (L2N.passAt tk) (a_cons (e_var 0) (a_cons (e_len (K := K) T.m_len (e_var 4)) a_nil))))
 (b_cons (s_set 6 sc.nd (e_lst (a_cons e_str (a_cons e_str (a_cons e_str (a_cons e_str (a_cons e_str (a_cons e_str (a_cons e_str (a_cons e_str (a_cons e_str (a_cons e_str (a_cons e_str (a_cons e_str (a_cons e_str (a_cons e_str a_nil))))))))))))))))
 (b_cons (s_set 6 sc.nd (e_add (K := K) (e_var 6) (e_lst (a_cons e_str (a_cons e_str (a_cons e_str (a_cons e_str (a_cons e_str (a_cons e_str (a_cons e_str (a_cons e_str (a_cons e_str (a_cons e_str (a_cons e_str (a_cons e_str (a_cons e_str (a_cons e_str a_nil)))))))))))))))))
 (b_cons (s_set 6 sc.nd (e_add (K := K) (e_var 6) (e_lst (a_cons e_str (a_cons e_str (a_cons e_str (a_cons e_str (a_cons e_str a_nil))))))))
 (b_cons (s_set 7 sc.nd (e_ix (K := K) (e_var 6) (e_call (K := K) (ok_law_draw T) (hr.mono (by decide)) T.law_draw.g T.law_draw.F.kp T.law_draw.B (L2N.passAt tk) (a_cons (e_var 0) (a_cons (e_len (K := K) T.m_len (e_var 6)) a_nil)))))
 (b_cons (s_set 8 sc.nd (e_call (K := K) (ok_law_draw T) (hr.mono (by decide)) T.law_draw.g T.law_draw.F.kp T.law_draw.B (L2N.passAt tk) (a_cons (e_var 0) (a_cons e_int a_nil))))
 (b_cons (s_if (t_cmp (k_eq (K := K) hu) (e_var 8) e_int)
 (b_one (s_ret (e_add (K := K) (e_slice (K := K) (e_var 2) o_none (o_some (e_var 3))) (e_slice (K := K) (e_var 2) (o_some (e_add (K := K) (e_var 3) e_int)) o_none))))
 b_nil)
 (b_cons (s_if (t_cmp (k_eq (K := K) hu) (e_var 8) e_int)
 (b_one (s_ret (e_add (K := K) (e_add (K := K) (e_slice (K := K) (e_var 2) o_none (o_some (e_var 3))) (e_slice (K := K) (e_var 2) (o_some (e_var 3)) (o_some (e_add (K := K) (e_var 3) e_int)))) (e_slice (K := K) (e_var 2) (o_some (e_var 3)) o_none))))
 b_nil)
 (b_cons (s_if (t_cmp (k_eq (K := K) hu) (e_var 8) e_int)
 (b_one (s_ret (e_add (K := K) (e_add (K := K) (e_add (K := K) (e_slice (K := K) (e_var 2) o_none (o_some (e_var 3))) (e_slice (K := K) (e_var 2) (o_some (e_add (K := K) (e_var 3) e_int)) (o_some (e_add (K := K) (e_var 3) e_int)))) (e_slice (K := K) (e_var 2) (o_some (e_var 3)) (o_some (e_add (K := K) (e_var 3) e_int)))) (e_slice (K := K) (e_var 2) (o_some (e_add (K := K) (e_var 3) e_int)) o_none))))
 b_nil)
 (b_cons (s_if (t_cmp (k_eq (K := K) hu) (e_var 8) e_int)
 (b_one (s_ret (e_slice (K := K) (e_var 2) o_none (o_some (e_var 3)))))
 b_nil)
 (b_cons (s_if (t_cmp (k_eq (K := K) hu) (e_var 8) e_int)
 (b_one (s_ret (e_add (K := K) (e_add (K := K) (e_slice (K := K) (e_var 2) o_none (o_some (e_var 3))) (e_lst (a_cons (e_var 7) a_nil))) (e_slice (K := K) (e_var 2) (o_some (e_var 3)) o_none))))
 b_nil)
 (b_cons (s_if (t_cmp (k_eq (K := K) hu) (e_var 8) e_int)
 (b_one (s_ret (e_add (K := K) (e_var 2) (e_lst (a_cons (e_var 7) a_nil)))))
 b_nil)
 (b_cons (s_if (t_cmp (k_eq (K := K) hu) (e_var 8) e_int)
 (b_one (s_own 4 sc.nd (e_add (K := K) (e_slice (K := K) (e_var 4) o_none (o_some (e_var 5))) (e_slice (K := K) (e_var 4) (o_some (e_add (K := K) (e_var 5) e_int)) o_none))))
 b_nil)
 (b_cons (s_if (t_cmp (k_eq (K := K) hu) (e_var 8) e_int)
 (b_one (s_own 4 sc.nd (e_add (K := K) (e_add (K := K) (e_slice (K := K) (e_var 4) o_none (o_some (e_var 5))) (e_lst (a_cons (e_var 7) a_nil))) (e_slice (K := K) (e_var 4) (o_some (e_var 5)) o_none))))
 b_nil)
 (b_cons (s_if (t_cmp (k_eq (K := K) hu) (e_var 8) e_int)
 (b_one (s_own 4 sc.nd (e_add (K := K) (e_var 4) (e_lst (a_cons (e_var 7) a_nil)))))
 b_nil)
 (b_cons (s_if (t_cmp (k_eq (K := K) hu) (e_var 8) e_int)
 (b_one (s_put 4 (e_var 4) (e_var 5) (e_add (K := K) (e_ix (K := K) (e_var 4) (e_var 5)) (e_ix (K := K) (e_lst (a_cons e_str (a_cons e_str (a_cons e_str (a_cons e_str a_nil))))) (e_call (K := K) (ok_law_draw T) (hr.mono (by decide)) T.law_draw.g T.law_draw.F.kp T.law_draw.B (L2N.passAt tk) (a_cons (e_var 0) (a_cons e_int a_nil)))))))
 b_nil)
 (b_cons (s_if (t_cmp k_gt (e_var 8) e_int)
 (b_one (s_put 4 (e_var 4) (e_var 5) (e_var 7)))
 b_nil)
 (b_cons (s_put 2 (e_var 2) (e_var 3) (e_join (K := K) e_str (e_var 4)))
 (b_one (s_retV 2 (e_var 2))))))))))))))))))))))))⟩

theorem sc_law_same : FnScope ["told", "due", "k"] ["told", "due"] (defScope (topS 53)) := ⟨rfl, rfl, rfl, by decide +kernel, rfl, by decide +kernel, by decide +kernel⟩
theorem ok_law_same (T : Txt P K mg) : ∀ k : Nat, FnOk P w K mg base (L2N.CX P w) (1 + k) T.law_same.a T.law_same.d ["told", "due"] (spOf K T.cls 2 (f_law_same k))
 | 0 => fn_bad
 | k + 1 => by
   have sc := sc_law_same
   have ih : FnOk P w K mg base (L2N.CX P w) (1 + k) T.law_same.a T.law_same.d ["told", "due"] (spOf K T.cls 2 (f_law_same k)) := ok_law_same T k
   exact fn_rs (k := 1 + k) (b := b_law_same (f_law_same k)) T.law_same.F sc rfl fun cdv A outer s H E hr tk hp hu => ⟨_,
 (b_cons (s_if (t_val (e_isi (K := K) T.m_isinstance T.m_tuple (by decide +kernel) (e_var 1)))
 (b_cons (s_if (t_w (w_or (t_not (t_val (e_isi (K := K) T.m_isinstance T.m_tuple (by decide +kernel) (e_var 0)))) (w_or1 (t_cmp (k_ne (K := K) hu) (e_len (K := K) T.m_len (e_var 0)) (e_len (K := K) T.m_len (e_var 1))))))
 (b_one (s_ret e_bl))
 b_nil)
 (b_one (s_ret (e_cmp (k_eq (K := K) hu) (e_len (K := K) T.m_len (e_comp rfl sc.nd (x_comp [("k", 2)] (i_rng1 T.m_range (a_cons (e_len (K := K) T.m_len (e_var 1)) a_nil)) (fun _ _ _ _ _ => (g_name 2 sc.nd)) (fun _ _ _ _ _ => (ts_one (t_not (t_val (e_call (K := K) ih hr T.law_same.g T.law_same.F.kp T.law_same.B pass_W0 (a_cons (e_ix (K := K) (e_var 0) (e_var 2)) (a_cons (e_ix (K := K) (e_var 1) (e_var 2)) a_nil))))))) (fun _ _ _ _ _ => (e_var 2))))) e_int))))
 b_nil)
 (b_cons (s_if (t_cmp k_isN (e_var 1) e_non)
 (b_one (s_ret (e_cmp k_isN (e_var 0) e_non)))
 b_nil)
 (b_cons (s_if (t_val (e_isi (K := K) T.m_isinstance T.m_bool (by decide +kernel) (e_var 1)))
 (b_one (s_ret (e_and (e_isi (K := K) T.m_isinstance T.m_bool (by decide +kernel) (e_var 0)) (e_one (e_cmp (k_eq (K := K) hu) (e_var 0) (e_var 1))))))
 b_nil)
 (b_cons (s_if (t_val (e_isi (K := K) T.m_isinstance T.m_int (by decide +kernel) (e_var 1)))
 (b_one (s_ret (e_and (e_isi (K := K) T.m_isinstance T.m_int (by decide +kernel) (e_var 0)) (e_and (e_not (e_isi (K := K) T.m_isinstance T.m_bool (by decide +kernel) (e_var 0))) (e_one (e_cmp (k_eq (K := K) hu) (e_var 0) (e_var 1)))))))
 b_nil)
 (b_one (s_ret (e_and (e_isi (K := K) T.m_isinstance T.m_str (by decide +kernel) (e_var 0)) (e_one (e_cmp (k_eq (K := K) hu) (e_var 0) (e_var 1))))))))))⟩

theorem sc_law_some_names : FnScope ["source", "number", "names", "k", "words"] ["source", "number"] (defScope (topS 54)) := ⟨rfl, rfl, rfl, by decide +kernel, rfl, by decide +kernel, by decide +kernel⟩
theorem ok_law_some_names (T : Txt P K mg) : FnOk P w K mg base (L2N.CX P w) 3 T.law_some_names.a T.law_some_names.d ["source", "number"] (spOf K T.cls 2 f_law_some_names) :=
 have sc := sc_law_some_names
 fn_rs (b := b_law_some_names) T.law_some_names.F sc rfl fun cdv A outer s H E hr tk hp hu => ⟨_,
 (b_cons (s_own 2 sc.nd (e_call (K := K) (ok_law_names T) (hr.mono (by decide)) T.law_names.g T.law_names.F.kp T.law_names.B (L2N.passAt tk) (a_cons (e_var 0) (a_cons (e_var 1) a_nil))))
 (b_cons (s_for hp rfl (i_rng1 T.m_range (a_cons (e_var 1) a_nil)) (g_name 3 sc.nd)
 (b_one (s_if (t_cmp (k_in (K := K)) (e_ix (K := K) (e_var 0) e_int) (e_tup (a_cons e_int (a_cons e_int (a_cons e_int (a_cons e_int a_nil))))))
 (b_cons (s_set 4 sc.nd (e_lst (a_cons e_str (a_cons e_str (a_cons e_str (a_cons e_str (a_cons e_str (a_cons e_str (a_cons e_str (a_cons e_str (a_cons e_str (a_cons e_str (a_cons e_str (a_cons e_str a_nil))))))))))))))
 (b_one (s_put 2 (e_var 2) (e_var 3) (e_ix (K := K) (e_var 4) (e_call (K := K) (ok_law_draw T) (hr.mono (by decide)) T.law_draw.g T.law_draw.F.kp T.law_draw.B (L2N.passAt tk) (a_cons (e_var 0) (a_cons e_int a_nil)))))))
 b_nil)))
 (b_one (s_ret (e_tuple1 (K := K) T.m_tuple (e_var 2))))))⟩

theorem sc_law_some_number : FnScope ["source", "digits", "number", "k"] ["source"] (defScope (topS 55)) := ⟨rfl, rfl, rfl, by decide +kernel, rfl, by decide +kernel, by decide +kernel⟩
theorem ok_law_some_number (T : Txt P K mg) : FnOk P w K mg base (L2N.CX P w) 2 T.law_some_number.a T.law_some_number.d ["source"] (spOf K T.cls 1 f_law_some_number) :=
 have sc := sc_law_some_number
 fn_rs (b := b_law_some_number) T.law_some_number.F sc rfl fun cdv A outer s H E hr tk hp hu => ⟨_,
 (b_cons (s_set 1 sc.nd (e_add (K := K) e_int (e_call (K := K) (ok_law_draw T) (hr.mono (by decide)) T.law_draw.g T.law_draw.F.kp T.law_draw.B (L2N.passAt tk) (a_cons (e_var 0) (a_cons e_int a_nil)))))
 (b_cons (s_set 2 sc.nd e_int)
 (b_cons (s_for hp rfl (i_rng1 T.m_range (a_cons (e_var 1) a_nil)) (g_name 3 sc.nd)
 (b_one (s_set 2 sc.nd (e_add (K := K) (e_mul (K := K) (e_var 2) e_int) (e_call (K := K) (ok_law_draw T) (hr.mono (by decide)) T.law_draw.g T.law_draw.F.kp T.law_draw.B (L2N.passAt tk) (a_cons (e_var 0) (a_cons e_int a_nil)))))))
 (b_one (s_ret (e_ix (K := K) (e_lst (a_cons (e_var 2) (a_cons e_int (a_cons e_int (a_cons (e_var 2) a_nil))))) (e_call (K := K) (ok_law_draw T) (hr.mono (by decide)) T.law_draw.g T.law_draw.F.kp T.law_draw.B (L2N.passAt tk) (a_cons (e_var 0) (a_cons e_int a_nil)))))))))⟩

theorem sc_law_some_condition : FnScope ["source", "yes", "kind"] ["source"] (defScope (topS 56)) := ⟨rfl, rfl, rfl, by decide +kernel, rfl, by decide +kernel, by decide +kernel⟩
theorem ok_law_some_condition (T : Txt P K mg) : FnOk P w K mg base (L2N.CX P w) 4 T.law_some_condition.a T.law_some_condition.d ["source"] (spOf K T.cls 1 f_law_some_condition) :=
 have sc := sc_law_some_condition
 fn_rs (b := b_law_some_condition) T.law_some_condition.F sc rfl fun cdv A outer s H E hr tk hp hu => ⟨_,
 (b_cons (s_set 1 sc.nd (e_cmp (k_eq (K := K) hu) (e_call (K := K) (ok_law_draw T) (hr.mono (by decide)) T.law_draw.g T.law_draw.F.kp T.law_draw.B (L2N.passAt tk) (a_cons (e_var 0) (a_cons e_int a_nil))) e_int))
 (b_cons (s_set 2 sc.nd (e_call (K := K) (ok_law_draw T) (hr.mono (by decide)) T.law_draw.g T.law_draw.F.kp T.law_draw.B (L2N.passAt tk) (a_cons (e_var 0) (a_cons e_int a_nil))))
 (b_cons (s_if (t_cmp (k_eq (K := K) hu) (e_var 2) e_int)
 (b_one (s_ret (e_tup (a_cons e_str (a_cons (e_ix (K := K) (e_call (K := K) (ok_law_some_names T) (hr.mono (by decide)) T.law_some_names.g T.law_some_names.F.kp T.law_some_names.B (L2N.passAt tk) (a_cons (e_var 0) (a_cons e_int a_nil))) e_int) (a_cons (e_var 1) a_nil))))))
 b_nil)
 (b_cons (s_if (t_cmp (k_eq (K := K) hu) (e_var 2) e_int)
 (b_one (s_ret (e_tup (a_cons e_str (a_cons (e_ix (K := K) (e_call (K := K) (ok_law_some_names T) (hr.mono (by decide)) T.law_some_names.g T.law_some_names.F.kp T.law_some_names.B (L2N.passAt tk) (a_cons (e_var 0) (a_cons e_int a_nil))) e_int) (a_cons (e_call (K := K) (ok_law_some_number T) (hr.mono (by decide)) T.law_some_number.g T.law_some_number.F.kp T.law_some_number.B (L2N.passAt tk) (a_cons (e_var 0) a_nil)) (a_cons (e_call (K := K) (ok_law_some_number T) (hr.mono (by decide)) T.law_some_number.g T.law_some_number.F.kp T.law_some_number.B (L2N.passAt tk) (a_cons (e_var 0) a_nil)) (a_cons (e_var 1) a_nil))))))))
 b_nil)
 (b_one (s_ret (e_tup (a_cons e_str (a_cons (e_call (K := K) (ok_law_some_number T) (hr.mono (by decide)) T.law_some_number.g T.law_some_number.F.kp T.law_some_number.B (L2N.passAt tk) (a_cons (e_var 0) a_nil)) (a_cons (e_call (K := K) (ok_law_some_number T) (hr.mono (by decide)) T.law_some_number.g T.law_some_number.F.kp T.law_some_number.B (L2N.passAt tk) (a_cons (e_var 0) a_nil)) (a_cons (e_var 1) a_nil)))))))))))⟩

theorem sc_law_some_rows : FnScope ["source", "rows", "k", "kind", "j"] ["source"] (defScope (topS 57)) := ⟨rfl, rfl, rfl, by decide +kernel, rfl, by decide +kernel, by decide +kernel⟩
theorem ok_law_some_rows (T : Txt P K mg) : FnOk P w K mg base (L2N.CX P w) 5 T.law_some_rows.a T.law_some_rows.d ["source"] (spOf K T.cls 1 f_law_some_rows) :=
 have sc := sc_law_some_rows
 fn_rs (b := b_law_some_rows) T.law_some_rows.F sc rfl fun cdv A outer s H E hr tk hp hu => ⟨_,
 (b_cons (s_own 1 sc.nd (e_lst a_nil))
 (b_cons (s_for hp rfl (i_rng1 T.m_range (a_cons (e_call (K := K) (ok_law_draw T) (hr.mono (by decide)) T.law_draw.g T.law_draw.F.kp T.law_draw.B (L2N.passAt tk) (a_cons (e_var 0) (a_cons e_int a_nil))) a_nil)) (g_name 2 sc.nd)
 (b_cons (s_set 3 sc.nd (e_call (K := K) (ok_law_draw T) (hr.mono (by decide)) T.law_draw.g T.law_draw.F.kp T.law_draw.B (L2N.passAt tk) (a_cons (e_var 0) (a_cons e_int a_nil))))
 (b_one (s_if (t_cmp (k_eq (K := K) hu) (e_var 3) e_int)
 (b_one (s_app 1 (e_var 1) (e_tup (a_cons e_str a_nil))))
 (b_one (s_if (t_cmp (k_eq (K := K) hu) (e_var 3) e_int)
 (b_one (s_app 1 (e_var 1) (e_tup (a_cons e_str (a_cons (e_tuple1 (K := K) T.m_tuple (e_comp rfl sc.nd (x_comp [("j", 4)] (i_rng1 T.m_range (a_cons (e_call (K := K) (ok_law_draw T) (hr.mono (by decide)) T.law_draw.g T.law_draw.F.kp T.law_draw.B (L2N.passAt tk) (a_cons (e_var 0) (a_cons e_int a_nil))) a_nil)) (fun _ _ _ _ _ => (g_name 4 sc.nd)) (fun _ _ _ _ _ => ts_nil) (fun _ _ _ _ _ => (e_call (K := K) (ok_law_some_number T) (hr.mono (by decide)) T.law_some_number.g T.law_some_number.F.kp T.law_some_number.B pass_W0 (a_cons (e_var 0) a_nil)))))) a_nil)))))
 (b_one (s_app 1 (e_var 1) (e_tup (a_cons e_str (a_cons (e_call (K := K) (ok_law_some_condition T) (hr.mono (by decide)) T.law_some_condition.g T.law_some_condition.F.kp T.law_some_condition.B (L2N.passAt tk) (a_cons (e_var 0) a_nil)) a_nil)))))))))))
 (b_one (s_ret (e_tuple1 (K := K) T.m_tuple (e_var 1))))))⟩

theorem sc_law_some_reason : FnScope ["source", "word", "subject", "groups"] ["source", "word"] (defScope (topS 58)) := ⟨rfl, rfl, rfl, by decide +kernel, rfl, by decide +kernel, by decide +kernel⟩
theorem ok_law_some_reason (T : Txt P K mg) : FnOk P w K mg base (L2N.CX P w) 4 T.law_some_reason.a T.law_some_reason.d ["source", "word"] (spOf K T.cls 2 f_law_some_reason) :=
 have sc := sc_law_some_reason
 fn_rs (b := b_law_some_reason) T.law_some_reason.F sc rfl fun cdv A outer s H E hr tk hp hu => ⟨_,
 (b_cons (s_set 2 sc.nd (e_call (K := K) (ok_law_some_number T) (hr.mono (by decide)) T.law_some_number.g T.law_some_number.F.kp T.law_some_number.B (L2N.passAt tk) (a_cons (e_var 0) a_nil)))
 (b_cons (s_if (t_cmp (k_eq (K := K) hu) (e_var 1) e_str)
 (b_one (s_set 2 sc.nd (e_ix (K := K) (e_call (K := K) (ok_law_some_names T) (hr.mono (by decide)) T.law_some_names.g T.law_some_names.F.kp T.law_some_names.B (L2N.passAt tk) (a_cons (e_var 0) (a_cons e_int a_nil))) e_int)))
 b_nil)
 (b_cons (s_set 3 sc.nd (e_call (K := K) (ok_law_some_names T) (hr.mono (by decide)) T.law_some_names.g T.law_some_names.F.kp T.law_some_names.B (L2N.passAt tk) (a_cons (e_var 0) (a_cons (e_call (K := K) (ok_law_draw T) (hr.mono (by decide)) T.law_draw.g T.law_draw.F.kp T.law_draw.B (L2N.passAt tk) (a_cons (e_var 0) (a_cons e_int a_nil))) a_nil))))
 (b_one (s_ret (e_tup (a_cons (e_var 1) (a_cons (e_var 2) (a_cons (e_tup (a_cons (e_call (K := K) (ok_law_some_number T) (hr.mono (by decide)) T.law_some_number.g T.law_some_number.F.kp T.law_some_number.B (L2N.passAt tk) (a_cons (e_var 0) a_nil)) (a_cons (e_var 3) (a_cons (e_call (K := K) (ok_law_some_number T) (hr.mono (by decide)) T.law_some_number.g T.law_some_number.F.kp T.law_some_number.B (L2N.passAt tk) (a_cons (e_var 0) a_nil)) a_nil)))) a_nil)))))))))⟩

theorem sc_law_some_answer : FnScope ["source", "kind", "moves", "state_rows", "k", "move", "blocks", "state", "exits", "name"] ["source"] (defScope (topS 59)) := ⟨rfl, rfl, rfl, by decide +kernel, rfl, by decide +kernel, by decide +kernel⟩
theorem ok_law_some_answer (T : Txt P K mg) : FnOk P w K mg base (L2N.CX P w) 6 T.law_some_answer.a T.law_some_answer.d ["source"] (spOf K T.cls 1 f_law_some_answer) :=
 have sc := sc_law_some_answer
 fn_rs (b := b_law_some_answer) T.law_some_answer.F sc rfl fun cdv A outer s H E hr tk hp hu => ⟨_,
 (b_cons (s_set 1 sc.nd (e_call (K := K) (ok_law_draw T) (hr.mono (by decide)) T.law_draw.g T.law_draw.F.kp T.law_draw.B (L2N.passAt tk) (a_cons (e_var 0) (a_cons e_int a_nil))))
 (b_cons (s_if (t_cmp (k_eq (K := K) hu) (e_var 1) e_int)
 (b_cons (s_set 2 sc.nd (e_call (K := K) (ok_law_some_names T) (hr.mono (by decide)) T.law_some_names.g T.law_some_names.F.kp T.law_some_names.B (L2N.passAt tk) (a_cons (e_var 0) (a_cons (e_call (K := K) (ok_law_draw T) (hr.mono (by decide)) T.law_draw.g T.law_draw.F.kp T.law_draw.B (L2N.passAt tk) (a_cons (e_var 0) (a_cons e_int a_nil))) a_nil))))
 (b_cons (s_set 3 sc.nd (e_tuple1 (K := K) T.m_tuple (e_comp rfl sc.nd (x_comp [("k", 4)] (i_rng1 T.m_range (a_cons (e_add (K := K) (e_len (K := K) T.m_len (e_var 2)) e_int) a_nil)) (fun _ _ _ _ _ => (g_name 4 sc.nd)) (fun _ _ _ _ _ => ts_nil) (fun _ _ _ _ _ => (e_call (K := K) (ok_law_some_rows T) (hr.mono (by decide)) T.law_some_rows.g T.law_some_rows.F.kp T.law_some_rows.B pass_W0 (a_cons (e_var 0) a_nil)))))))
 (b_one (s_ret (e_tup (a_cons e_str (a_cons (e_var 2) (a_cons (e_var 3) (a_cons (e_tuple1 (K := K) T.m_tuple (e_comp rfl sc.nd (x_comp [("move", 5)] (i_any (K := K) (e_var 2)) (fun _ _ _ _ _ => (g_name 5 sc.nd)) (fun _ _ _ _ _ => ts_nil) (fun _ _ _ _ _ => (e_call (K := K) (ok_law_some_rows T) (hr.mono (by decide)) T.law_some_rows.g T.law_some_rows.F.kp T.law_some_rows.B pass_W0 (a_cons (e_var 0) a_nil)))))) a_nil)))))))))
 b_nil)
 (b_cons (s_if (t_cmp (k_eq (K := K) hu) (e_var 1) e_int)
 (b_cons (s_own 6 sc.nd (e_lst a_nil))
 (b_cons (s_for hp rfl (i_rng1 T.m_range (a_cons (e_call (K := K) (ok_law_draw T) (hr.mono (by decide)) T.law_draw.g T.law_draw.F.kp T.law_draw.B (L2N.passAt tk) (a_cons (e_var 0) (a_cons e_int a_nil))) a_nil)) (g_name 4 sc.nd)
 (b_cons (s_set 7 sc.nd (e_call (K := K) (ok_law_some_names T) (hr.mono (by decide)) T.law_some_names.g T.law_some_names.F.kp T.law_some_names.B (L2N.passAt tk) (a_cons (e_var 0) (a_cons (e_call (K := K) (ok_law_draw T) (hr.mono (by decide)) T.law_draw.g T.law_draw.F.kp T.law_draw.B (L2N.passAt tk) (a_cons (e_var 0) (a_cons e_int a_nil))) a_nil))))
 (b_cons (s_own 8 sc.nd (e_lst a_nil))
 (b_cons (s_for hp rfl (i_any (K := K) (e_call (K := K) (ok_law_some_names T) (hr.mono (by decide)) T.law_some_names.g T.law_some_names.F.kp T.law_some_names.B (L2N.passAt tk) (a_cons (e_var 0) (a_cons (e_call (K := K) (ok_law_draw T) (hr.mono (by decide)) T.law_draw.g T.law_draw.F.kp T.law_draw.B (L2N.passAt tk) (a_cons (e_var 0) (a_cons e_int a_nil))) a_nil)))) (g_name 9 sc.nd)
 (b_one (s_app 8 (e_var 8) (e_tup (a_cons (e_var 9) (a_cons (e_call (K := K) (ok_law_some_reason T) (hr.mono (by decide)) T.law_some_reason.g T.law_some_reason.F.kp T.law_some_reason.B (L2N.passAt tk) (a_cons (e_var 0) (a_cons (e_ix (K := K) (e_lst (a_cons e_str (a_cons e_str a_nil))) (e_call (K := K) (ok_law_draw T) (hr.mono (by decide)) T.law_draw.g T.law_draw.F.kp T.law_draw.B (L2N.passAt tk) (a_cons (e_var 0) (a_cons e_int a_nil)))) a_nil))) a_nil))))))
 (b_one (s_app 6 (e_var 6) (e_tup (a_cons (e_var 7) (a_cons (e_tuple1 (K := K) T.m_tuple (e_var 8)) a_nil)))))))))
 (b_one (s_ret (e_tup (a_cons e_str (a_cons (e_tuple1 (K := K) T.m_tuple (e_var 6)) a_nil)))))))
 b_nil)
 (b_one (s_ret (e_tup (a_cons e_str (a_cons (e_call (K := K) (ok_law_some_reason T) (hr.mono (by decide)) T.law_some_reason.g T.law_some_reason.F.kp T.law_some_reason.B (L2N.passAt tk) (a_cons (e_var 0) (a_cons e_str a_nil))) a_nil))))))))⟩

theorem sc_law_row_line : FnScope ["row", "pick", "part"] ["row"] (defScope (topS 60)) := ⟨rfl, rfl, rfl, by decide +kernel, rfl, by decide +kernel, by decide +kernel⟩
theorem ok_law_row_line (T : Txt P K mg) : FnOk P w K mg base (L2N.CX P w) 1 T.law_row_line.a T.law_row_line.d ["row"] (spOf K T.cls 1 f_law_row_line) :=
 have sc := sc_law_row_line
 fn_rs (b := b_law_row_line) T.law_row_line.F sc rfl fun cdv A outer s H E hr tk hp hu => ⟨_,
 (b_cons (s_if (t_cmp (k_eq (K := K) hu) (e_ix (K := K) (e_var 0) e_int) e_str)
 (b_one (s_ret (e_join (K := K) e_str (e_add (K := K) (e_lst (a_cons e_str a_nil)) (e_comp rfl sc.nd (x_comp [("pick", 1)] (i_any (K := K) (e_ix (K := K) (e_var 0) e_int)) (fun _ _ _ _ _ => (g_name 1 sc.nd)) (fun _ _ _ _ _ => ts_nil) (fun _ _ _ _ _ => (e_str1 T.m_str (e_var 1)))))))))
 b_nil)
 (b_cons (s_if (t_cmp (k_eq (K := K) hu) (e_ix (K := K) (e_var 0) e_int) e_str)
 (b_one (s_ret (e_join (K := K) e_str (e_add (K := K) (e_add (K := K) (e_lst (a_cons e_str a_nil)) (e_ix (K := K) (e_lst (a_cons (e_lst (a_cons e_str a_nil)) (a_cons (e_lst a_nil) a_nil))) (e_int1 T.m_int (e_ix (K := K) (e_ix (K := K) (e_var 0) e_int) (e_neg e_int))))) (e_comp rfl sc.nd (x_comp [("part", 2)] (i_any (K := K) (e_slice (K := K) (e_ix (K := K) (e_var 0) e_int) o_none (o_some (e_neg e_int)))) (fun _ _ _ _ _ => (g_name 2 sc.nd)) (fun _ _ _ _ _ => ts_nil) (fun _ _ _ _ _ => (e_str1 T.m_str (e_var 2)))))))))
 b_nil)
 (b_one (s_ret e_str))))⟩

theorem sc_law_reason_line : FnScope ["reason", "number", "groups", "day"] ["reason"] (defScope (topS 61)) := ⟨rfl, rfl, rfl, by decide +kernel, rfl, by decide +kernel, by decide +kernel⟩
theorem ok_law_reason_line (T : Txt P K mg) : FnOk P w K mg base (L2N.CX P w) 1 T.law_reason_line.a T.law_reason_line.d ["reason"] (spOf K T.cls 1 f_law_reason_line) :=
 have sc := sc_law_reason_line
 fn_rs (b := b_law_reason_line) T.law_reason_line.F sc rfl fun cdv A outer s H E hr tk hp hu => ⟨_,
 (b_cons (s_asg (e_ix (K := K) (e_var 0) e_int) (g_tup (K := K) rfl (gs_cons (g_name 1 sc.nd) (gs_cons (g_name 2 sc.nd) (gs_cons (g_name 3 sc.nd) gs_nil)))))
 (b_one (s_ret (e_join (K := K) e_str (e_add (K := K) (e_lst (a_cons (e_ix (K := K) (e_var 0) e_int) (a_cons (e_str1 T.m_str (e_ix (K := K) (e_var 0) e_int)) (a_cons (e_str1 T.m_str (e_var 1)) (a_cons (e_str1 T.m_str (e_var 3)) a_nil))))) (e_list1 (K := K) T.m_list (e_var 2)))))))⟩

theorem sc_law_written : FnScope ["answer", "lines", "state", "exits", "row", "k"] ["answer"] (defScope (topS 62)) := ⟨rfl, rfl, rfl, by decide +kernel, rfl, by decide +kernel, by decide +kernel⟩
theorem ok_law_written (T : Txt P K mg) : FnOk P w K mg base (L2N.CX P w) 2 T.law_written.a T.law_written.d ["answer"] (spOf K T.cls 1 f_law_written) :=
 have sc := sc_law_written
 fn_rs (b := b_law_written) T.law_written.F sc rfl fun cdv A outer s H E hr tk hp hu => ⟨_,
 (b_cons (s_if (t_cmp (k_eq (K := K) hu) (e_ix (K := K) (e_var 0) e_int) e_str)
 (b_one (s_ret (e_lst (a_cons (e_add (K := K) e_str (e_call (K := K) (ok_law_reason_line T) (hr.mono (by decide)) T.law_reason_line.g T.law_reason_line.F.kp T.law_reason_line.B (L2N.passAt tk) (a_cons (e_ix (K := K) (e_var 0) e_int) a_nil))) a_nil))))
 b_nil)
 (b_cons (s_own 1 sc.nd (e_lst (a_cons (e_ix (K := K) (e_var 0) e_int) a_nil)))
 (b_cons (s_if (t_cmp (k_eq (K := K) hu) (e_ix (K := K) (e_var 0) e_int) e_str)
 (b_cons (s_for hp rfl (i_any (K := K) (e_ix (K := K) (e_var 0) e_int)) (g_tup (K := K) rfl (gs_cons (g_name 2 sc.nd) (gs_cons (g_name 3 sc.nd) gs_nil)))
 (b_cons (s_app 1 (e_var 1) (e_join (K := K) e_str (e_add (K := K) (e_lst (a_cons e_str a_nil)) (e_list1 (K := K) T.m_list (e_var 2)))))
 (b_one (s_ext 1 (e_var 1) (e_comp rfl sc.nd (x_comp [("row", 4)] (i_any (K := K) (e_var 3)) (fun _ _ _ _ _ => (g_name 4 sc.nd)) (fun _ _ _ _ _ => ts_nil) (fun _ _ _ _ _ => (e_add (K := K) (e_add (K := K) (e_add (K := K) e_str (e_ix (K := K) (e_var 4) e_int)) e_str) (e_call (K := K) (ok_law_reason_line T) (hr.mono (by decide)) T.law_reason_line.g T.law_reason_line.F.kp T.law_reason_line.B pass_W0 (a_cons (e_ix (K := K) (e_var 4) e_int) a_nil))))))))))
 (b_one (s_retV 1 (e_var 1))))
 b_nil)
 (b_cons (s_for hp rfl (i_rng1 T.m_range (a_cons (e_len (K := K) T.m_len (e_ix (K := K) (e_var 0) e_int)) a_nil)) (g_name 5 sc.nd)
 (b_cons (s_if (t_cmp k_gt (e_var 5) e_int)
 (b_cons (s_app 1 (e_var 1) (e_add (K := K) e_str (e_ix (K := K) (e_ix (K := K) (e_var 0) e_int) (e_sub (e_var 5) e_int))))
 (b_one (s_ext 1 (e_var 1) (e_comp rfl sc.nd (x_comp [("row", 4)] (i_any (K := K) (e_ix (K := K) (e_ix (K := K) (e_var 0) e_int) (e_sub (e_var 5) e_int))) (fun _ _ _ _ _ => (g_name 4 sc.nd)) (fun _ _ _ _ _ => ts_nil) (fun _ _ _ _ _ => (e_call (K := K) (ok_law_row_line T) (hr.mono (by decide)) T.law_row_line.g T.law_row_line.F.kp T.law_row_line.B pass_W0 (a_cons (e_var 4) a_nil))))))))
 b_nil)
 (b_cons (s_app 1 (e_var 1) e_str)
 (b_one (s_ext 1 (e_var 1) (e_comp rfl sc.nd (x_comp [("row", 4)] (i_any (K := K) (e_ix (K := K) (e_ix (K := K) (e_var 0) e_int) (e_var 5))) (fun _ _ _ _ _ => (g_name 4 sc.nd)) (fun _ _ _ _ _ => ts_nil) (fun _ _ _ _ _ => (e_call (K := K) (ok_law_row_line T) (hr.mono (by decide)) T.law_row_line.g T.law_row_line.F.kp T.law_row_line.B pass_W0 (a_cons (e_var 4) a_nil))))))))))
 (b_one (s_retV 1 (e_var 1)))))))⟩

theorem sc_law_row_of : FnScope ["words", "numbers", "word", "condition"] ["words"] (defScope (topS 63)) := ⟨rfl, rfl, rfl, by decide +kernel, rfl, by decide +kernel, by decide +kernel⟩
theorem ok_law_row_of (T : Txt P K mg) : FnOk P w K mg base (L2N.CX P w) 3 T.law_row_of.a T.law_row_of.d ["words"] (spOf K T.cls 1 f_law_row_of) :=
 have sc := sc_law_row_of
 fn_rs (b := b_law_row_of) T.law_row_of.F sc rfl fun cdv A outer s H E hr tk hp hu => ⟨_,
 (b_cons (s_if (t_cmp (k_eq (K := K) hu) (e_var 0) (e_lst (a_cons e_str a_nil)))
 (b_one (s_ret (e_tup (a_cons e_str a_nil))))
 b_nil)
 (b_cons (s_setC 1 rfl sc.nd (x_comp [("word", 2)] (i_any (K := K) (e_slice (K := K) (e_var 0) (o_some e_int) o_none)) (fun _ _ _ _ _ => (g_name 2 sc.nd)) (fun _ _ _ _ _ => ts_nil) (fun _ _ _ _ _ => (e_call (K := K) (ok_law_number T) (hr.mono (by decide)) T.law_number.g T.law_number.F.kp T.law_number.B pass_W0 (a_cons (e_var 2) a_nil)))))
 (b_cons (s_if (t_w (w_and (t_cmp (k_eq (K := K) hu) (e_ix (K := K) (e_var 0) e_int) e_str) (w_and1 (t_cmp (k_notIn (K := K)) (e_neg e_int) (e_var 1)))))
 (b_one (s_ret (e_tup (a_cons e_str (a_cons (e_tuple1 (K := K) T.m_tuple (e_var 1)) a_nil)))))
 b_nil)
 (b_cons (s_set 3 sc.nd (e_call (K := K) (ok_law_condition_of T) (hr.mono (by decide)) T.law_condition_of.g T.law_condition_of.F.kp T.law_condition_of.B (L2N.passAt tk) (a_cons (e_slice (K := K) (e_var 0) (o_some e_int) o_none) a_nil)))
 (b_cons (s_if (t_w (w_or (t_cmp (k_ne (K := K) hu) (e_ix (K := K) (e_var 0) e_int) e_str) (w_or (t_cmp k_isN (e_var 3) e_non) (w_or1 (t_cmp (k_eq (K := K) hu) (e_ix (K := K) (e_var 3) e_int) e_str)))))
 (b_one (s_ret e_non))
 b_nil)
 (b_one (s_ret (e_tup (a_cons e_str (a_cons (e_var 3) a_nil))))))))))⟩

theorem sc_law_reason_of : FnScope ["words", "numbers", "visitor"] ["words"] (defScope (topS 64)) := ⟨rfl, rfl, rfl, by decide +kernel, rfl, by decide +kernel, by decide +kernel⟩
theorem ok_law_reason_of (T : Txt P K mg) : FnOk P w K mg base (L2N.CX P w) 2 T.law_reason_of.a T.law_reason_of.d ["words"] (spOf K T.cls 1 f_law_reason_of) :=
 have sc := sc_law_reason_of
 fn_rs (b := b_law_reason_of) T.law_reason_of.F sc rfl fun cdv A outer s H E hr tk hp hu => ⟨_,
 (b_cons (s_if (t_w (w_or (t_cmp k_lt (e_len (K := K) T.m_len (e_var 0)) e_int) (w_or1 (t_not (t_val (e_call (K := K) (ok_law_named T) (hr.mono (by decide)) T.law_named.g T.law_named.F.kp T.law_named.B (L2N.passAt tk) (a_cons (e_slice (K := K) (e_var 0) (o_some e_int) o_none) a_nil)))))))
 (b_one (s_ret e_non))
 b_nil)
 (b_cons (s_set 1 sc.nd (e_lst (a_cons (e_call (K := K) (ok_law_number T) (hr.mono (by decide)) T.law_number.g T.law_number.F.kp T.law_number.B (L2N.passAt tk) (a_cons (e_ix (K := K) (e_var 0) e_int) a_nil)) (a_cons (e_call (K := K) (ok_law_number T) (hr.mono (by decide)) T.law_number.g T.law_number.F.kp T.law_number.B (L2N.passAt tk) (a_cons (e_ix (K := K) (e_var 0) e_int) a_nil)) a_nil))))
 (b_cons (s_set 2 sc.nd (e_tup (a_cons (e_ix (K := K) (e_var 1) e_int) (a_cons (e_tuple1 (K := K) T.m_tuple (e_slice (K := K) (e_var 0) (o_some e_int) o_none)) (a_cons (e_ix (K := K) (e_var 1) e_int) a_nil)))))
 (b_cons (s_if (t_w (w_and (t_cmp (k_eq (K := K) hu) (e_ix (K := K) (e_var 0) e_int) e_str) (w_and (t_cmp (k_notIn (K := K)) (e_neg e_int) (e_var 1)) (w_and1 (t_cmp k_ge (e_call (K := K) (ok_law_number T) (hr.mono (by decide)) T.law_number.g T.law_number.F.kp T.law_number.B (L2N.passAt tk) (a_cons (e_ix (K := K) (e_var 0) e_int) a_nil)) e_int)))))
 (b_one (s_ret (e_tup (a_cons e_str (a_cons (e_call (K := K) (ok_law_number T) (hr.mono (by decide)) T.law_number.g T.law_number.F.kp T.law_number.B (L2N.passAt tk) (a_cons (e_ix (K := K) (e_var 0) e_int) a_nil)) (a_cons (e_var 2) a_nil))))))
 b_nil)
 (b_cons (s_if (t_w (w_and (t_cmp (k_eq (K := K) hu) (e_ix (K := K) (e_var 0) e_int) e_str) (w_and (t_cmp (k_notIn (K := K)) (e_neg e_int) (e_var 1)) (w_and1 (t_val (e_call (K := K) (ok_law_named T) (hr.mono (by decide)) T.law_named.g T.law_named.F.kp T.law_named.B (L2N.passAt tk) (a_cons (e_slice (K := K) (e_var 0) (o_some e_int) (o_some e_int)) a_nil)))))))
 (b_one (s_ret (e_tup (a_cons e_str (a_cons (e_ix (K := K) (e_var 0) e_int) (a_cons (e_var 2) a_nil))))))
 b_nil)
 (b_one (s_ret e_non)))))))⟩

theorem sc_law_read_course : FnScope ["lines", "trees", "moves", "stage", "at", "words", "row", "tree", "own"] ["lines"] (defScope (topS 65)) := ⟨rfl, rfl, rfl, by decide +kernel, rfl, by decide +kernel, by decide +kernel⟩
theorem ok_law_read_course (T : Txt P K mg) : FnOk P w K mg base (L2N.CX P w) 4 T.law_read_course.a T.law_read_course.d ["lines"] (spOf K T.cls 1 f_law_read_course) :=
 have sc := sc_law_read_course
 fn_rs (b := b_law_read_course) T.law_read_course.F sc rfl fun cdv A outer s H E hr tk hp hu => ⟨_,
 (b_cons (s_own 1 sc.nd (e_lst a_nil))
 (b_cons (s_own 2 sc.nd (e_lst a_nil))
 (b_cons (s_set 3 sc.nd e_int)
 (b_cons (s_for hp rfl (i_rng2 T.m_range (a_cons e_int (a_cons (e_len (K := K) T.m_len (e_var 0)) a_nil))) (g_name 4 sc.nd)
 (b_cons (s_set 5 sc.nd (e_split (e_ix (K := K) (e_var 0) (e_var 4)) e_str))
 (b_cons (s_set 6 sc.nd (e_call (K := K) (ok_law_row_of T) (hr.mono (by decide)) T.law_row_of.g T.law_row_of.F.kp T.law_row_of.B (L2N.passAt tk) (a_cons (e_var 5) a_nil)))
 (b_one (s_if (t_w (w_and (t_cmp (k_eq (K := K) hu) (e_var 5) (e_lst (a_cons e_str a_nil))) (w_and1 (t_cmp (k_ne (K := K) hu) (e_var 3) e_int))))
 (b_cons (s_set 3 sc.nd e_int)
 (b_one (s_app 1 (e_var 1) (e_cell (e_lst a_nil)))))
 (b_one (s_if (t_w (w_and (t_cmp (k_eq (K := K) hu) (e_ix (K := K) (e_var 5) e_int) e_str) (w_and (t_cmp (k_eq (K := K) hu) (e_len (K := K) T.m_len (e_var 5)) e_int) (w_and (t_val (e_call (K := K) (ok_law_named T) (hr.mono (by decide)) T.law_named.g T.law_named.F.kp T.law_named.B (L2N.passAt tk) (a_cons (e_slice (K := K) (e_var 5) (o_some e_int) o_none) a_nil))) (w_and1 (t_cmp (k_eq (K := K) hu) (e_var 3) e_int))))))
 (b_cons (s_set 3 sc.nd e_int)
 (b_cons (s_app 2 (e_var 2) (e_ix (K := K) (e_var 5) e_int))
 (b_one (s_app 1 (e_var 1) (e_cell (e_lst a_nil))))))
 (b_one (s_if (t_w (w_and (t_cmp k_notN (e_var 6) e_non) (w_and1 (t_cmp k_gt (e_var 3) e_int))))
 (b_cons (s_set 7 sc.nd (e_ix (K := K) (e_var 1) (e_neg e_int)))
 (b_one (s_appC (e_var 7) (e_var 6))))
 (b_one (s_ret (e_tup (a_cons e_str (a_cons (e_tup (a_cons e_str (a_cons (e_add (K := K) (e_var 4) e_int) a_nil))) a_nil))))))))))))))
 (b_cons (s_if (t_cmp (k_ne (K := K) hu) (e_var 3) e_int)
 (b_one (s_ret (e_tup (a_cons e_str (a_cons (e_tup (a_cons e_str (a_cons (e_add (K := K) (e_len (K := K) T.m_len (e_var 0)) e_int) a_nil))) a_nil)))))
 b_nil)
 (b_frz 1 (b_cons (s_setC 8 rfl sc.nd (x_comp [("tree", 7)] (i_any (K := K) (e_var 1)) (fun _ _ _ _ _ => (g_name 7 sc.nd)) (fun _ _ _ _ _ => ts_nil) (fun _ _ _ _ _ => (e_tuple1 (K := K) T.m_tuple (e_var 7)))))
 (b_one (s_ret (e_tup (a_cons e_str (a_cons (e_tup (a_cons e_str (a_cons (e_tuple1 (K := K) T.m_tuple (e_var 2)) (a_cons (e_tuple1 (K := K) T.m_tuple (e_step0 (K := K) (e_var 8))) (a_cons (e_tuple1 (K := K) T.m_tuple (e_step1 (K := K) (e_var 8))) a_nil))))) a_nil))))))))))))⟩

theorem sc_law_read_enclosure : FnScope ["lines", "states", "exits", "at", "words", "reason", "rows", "k"] ["lines"] (defScope (topS 66)) := ⟨rfl, rfl, rfl, by decide +kernel, rfl, by decide +kernel, by decide +kernel⟩
theorem ok_law_read_enclosure (T : Txt P K mg) : FnOk P w K mg base (L2N.CX P w) 3 T.law_read_enclosure.a T.law_read_enclosure.d ["lines"] (spOf K T.cls 1 f_law_read_enclosure) :=
 have sc := sc_law_read_enclosure
 fn_rs (b := b_law_read_enclosure) T.law_read_enclosure.F sc rfl fun cdv A outer s H E hr tk hp hu => ⟨_,
 (b_cons (s_own 1 sc.nd (e_lst a_nil))
 (b_cons (s_own 2 sc.nd (e_lst a_nil))
 (b_cons (s_for hp rfl (i_rng2 T.m_range (a_cons e_int (a_cons (e_len (K := K) T.m_len (e_var 0)) a_nil))) (g_name 3 sc.nd)
 (b_cons (s_set 4 sc.nd (e_split (e_ix (K := K) (e_var 0) (e_var 3)) e_str))
 (b_cons (s_set 5 sc.nd (e_call (K := K) (ok_law_reason_of T) (hr.mono (by decide)) T.law_reason_of.g T.law_reason_of.F.kp T.law_reason_of.B (L2N.passAt tk) (a_cons (e_slice (K := K) (e_var 4) (o_some e_int) o_none) a_nil)))
 (b_one (s_if (t_w (w_and (t_cmp (k_eq (K := K) hu) (e_ix (K := K) (e_var 4) e_int) e_str) (w_and1 (t_val (e_call (K := K) (ok_law_named T) (hr.mono (by decide)) T.law_named.g T.law_named.F.kp T.law_named.B (L2N.passAt tk) (a_cons (e_slice (K := K) (e_var 4) (o_some e_int) o_none) a_nil))))))
 (b_cons (s_app 1 (e_var 1) (e_tuple1 (K := K) T.m_tuple (e_slice (K := K) (e_var 4) (o_some e_int) o_none)))
 (b_one (s_app 2 (e_var 2) (e_cell (e_lst a_nil)))))
 (b_one (s_if (t_w (w_and (t_cmp (k_eq (K := K) hu) (e_ix (K := K) (e_var 4) e_int) e_str) (w_and (t_cmp k_gt (e_len (K := K) T.m_len (e_var 1)) e_int) (w_and (t_val (e_call (K := K) (ok_law_named T) (hr.mono (by decide)) T.law_named.g T.law_named.F.kp T.law_named.B (L2N.passAt tk) (a_cons (e_slice (K := K) (e_var 4) (o_some e_int) (o_some e_int)) a_nil))) (w_and1 (t_cmp k_notN (e_var 5) e_non))))))
 (b_cons (s_set 6 sc.nd (e_ix (K := K) (e_var 2) (e_neg e_int)))
 (b_one (s_appC (e_var 6) (e_tup (a_cons (e_ix (K := K) (e_var 4) e_int) (a_cons (e_var 5) a_nil))))))
 (b_one (s_ret (e_tup (a_cons e_str (a_cons (e_tup (a_cons e_str (a_cons (e_add (K := K) (e_var 3) e_int) a_nil))) a_nil))))))))))))
 (b_one (s_ret (e_tup (a_cons e_str (a_cons (e_tup (a_cons e_str (a_cons (e_tuple1 (K := K) T.m_tuple (e_comp rfl sc.nd (x_comp [("k", 7)] (i_rng1 T.m_range (a_cons (e_len (K := K) T.m_len (e_var 1)) a_nil)) (fun _ _ _ _ _ => (g_name 7 sc.nd)) (fun _ _ _ _ _ => ts_nil) (fun _ _ _ _ _ => (e_tup (a_cons (e_ix (K := K) (e_var 1) (e_var 7)) (a_cons (e_tuple1 (K := K) T.m_tuple (e_ix (K := K) (e_var 2) (e_var 7))) a_nil))))))) a_nil))) a_nil))))))))⟩

theorem sc_law_read : FnScope ["lines", "words", "reason"] ["lines"] (defScope (topS 67)) := ⟨rfl, rfl, rfl, by decide +kernel, rfl, by decide +kernel, by decide +kernel⟩
theorem ok_law_read (T : Txt P K mg) : FnOk P w K mg base (L2N.CX P w) 5 T.law_read.a T.law_read.d ["lines"] (spOf K T.cls 1 f_law_read) :=
 have sc := sc_law_read
 fn_rs (b := b_law_read) T.law_read.F sc rfl fun cdv A outer s H E hr tk hp hu => ⟨_,
 (b_cons (s_if (t_cmp k_gt (e_len (K := K) T.m_len (e_var 0)) e_int)
 (b_one (s_ret (e_tup (a_cons e_str (a_cons (e_tup (a_cons e_str (a_cons e_int a_nil))) a_nil)))))
 b_nil)
 (b_cons (s_if (t_cmp (k_eq (K := K) hu) (e_ix (K := K) (e_var 0) e_int) e_str)
 (b_one (s_ret (e_call (K := K) (ok_law_read_course T) (hr.mono (by decide)) T.law_read_course.g T.law_read_course.F.kp T.law_read_course.B (L2N.passAt tk) (a_cons (e_var 0) a_nil))))
 b_nil)
 (b_cons (s_if (t_cmp (k_eq (K := K) hu) (e_ix (K := K) (e_var 0) e_int) e_str)
 (b_one (s_ret (e_call (K := K) (ok_law_read_enclosure T) (hr.mono (by decide)) T.law_read_enclosure.g T.law_read_enclosure.F.kp T.law_read_enclosure.B (L2N.passAt tk) (a_cons (e_var 0) a_nil))))
 b_nil)
 (b_cons (s_set 1 sc.nd (e_split (e_ix (K := K) (e_var 0) e_int) e_str))
 (b_cons (s_set 2 sc.nd (e_call (K := K) (ok_law_reason_of T) (hr.mono (by decide)) T.law_reason_of.g T.law_reason_of.F.kp T.law_reason_of.B (L2N.passAt tk) (a_cons (e_slice (K := K) (e_var 1) (o_some e_int) o_none) a_nil)))
 (b_cons (s_if (t_w (w_or (t_cmp (k_ne (K := K) hu) (e_ix (K := K) (e_var 1) e_int) e_str) (w_or (t_cmp (k_ne (K := K) hu) (e_slice (K := K) (e_var 1) (o_some e_int) (o_some e_int)) (e_lst (a_cons e_str a_nil))) (w_or1 (t_cmp k_isN (e_var 2) e_non)))))
 (b_one (s_ret (e_tup (a_cons e_str (a_cons (e_tup (a_cons e_str (a_cons e_int a_nil))) a_nil)))))
 b_nil)
 (b_cons (s_if (t_cmp k_gt (e_len (K := K) T.m_len (e_var 0)) e_int)
 (b_one (s_ret (e_tup (a_cons e_str (a_cons (e_tup (a_cons e_str (a_cons e_int a_nil))) a_nil)))))
 b_nil)
 (b_one (s_ret (e_tup (a_cons e_str (a_cons (e_tup (a_cons e_str (a_cons (e_var 2) a_nil))) a_nil))))))))))))⟩

end
end K58
set_option Elab.async false
set_option linter.all false
set_option maxRecDepth 100000
set_option maxHeartbeats 2000000
namespace K58
open PySem PySem.Spec PyProof.Rows L2 RS
section
variable {P : Program} {w : World} {K : Frag} {mg : Str → Option Value} {base : Heap}

def b_law_told_BadLine (a dd : Addr) : FS :=
 (seqF (setF 1 (lstE (aCons (stE (con (.str "BadName"))) (aCons (stE (con (.str "UnknownName"))) (aCons (stE (con (.str "DoubleName"))) (aCons (stE (con (.str "BadNumber"))) (aCons (stE (con (.str "TooMany"))) (aCons (stE (con (.str "BadGroups"))) (aCons (stE (con (.str "OtherGround"))) (aCons (stE (con (.str "NeedLoop"))) aNil))))))))))
 (seqF (setF 1 (op2 (getVar 1) (lstE (aCons (stE (con (.str "BadLine"))) (aCons (stE (con (.str "BadLog"))) (aCons (stE (con (.str "Refused"))) (aCons (stE (con (.str "NoDeed"))) aNil))))) addP))
 (seqF (setF 2 (lstE (aCons (stE (op1 (getVar 0) (isEP a dd false))) (aCons (stE (op1 (getVar 0) (isEP a dd false))) (aCons (stE (op1 (getVar 0) (isEP a dd false))) (aCons (stE (op1 (getVar 0) (isEP a dd false))) aNil))))))
 (seqF (setF 2 (op2 (getVar 2) (lstE (aCons (stE (op1 (getVar 0) (isEP a dd false))) (aCons (stE (op1 (getVar 0) (isEP a dd false))) (aCons (stE (op1 (getVar 0) (isEP a dd false))) aNil)))) addP))
 (seqF (setF 2 (op2 (getVar 2) (lstE (aCons (stE (op1 (getVar 0) (isEP a dd false))) (aCons (stE (op1 (getVar 0) (isEP a dd true))) (aCons (stE (op1 (getVar 0) (isEP a dd false))) (aCons (stE (op1 (getVar 0) (isEP a dd false))) aNil))))) addP))
 (seqF (setF 2 (op2 (getVar 2) (lstE (aCons (stE (op1 (getVar 0) (isEP a dd false))) aNil)) addP))
 (seqF (ownF 3 (cmpE (rng1 (aCons (stE (con (.int 12))) aNil)) (tgN 4) (tst (op2 (getVar 2) (getVar 4) idxP)) (stE (op2 (getVar 1) (getVar 4) idxP)) [4]))
 (seqF (ifF (tst (op1 (getVar 0) (isEP a dd false)))
 (fun _ _ => .bad)
 nxt)
 (seqF (ifF (tst (op1 (getVar 0) (isEP a dd false)))
 (fun _ _ => .bad)
 nxt)
 (seqF (ifF (tst (op1 (getVar 0) (isEP a dd false)))
 (fun _ _ => .bad)
 nxt)
 (seqF (ifF (tst (op1 (getVar 0) (isEP a dd false)))
 (fun _ _ => .bad)
 nxt)
 (seqF (ifF (tst (op1 (getVar 0) (isEP a dd false)))
 (fun _ _ => .bad)
 nxt)
 (seqF (ifF (tst (op1 (getVar 0) (isEP a dd true)))
 (appF 3 (op1 (getVar 0) (fldP a dd "line")))
 (fun _ _ => .bad))
 (seqF (ifF (tst (op1 (getVar 0) (isEP a dd false)))
 (fun _ _ => .bad)
 nxt)
 (seqF (ifF (notT (tst (op1 (getVar 0) (isEP a dd true))))
 (fun _ _ => .bad)
 nxt)
 (retF (op1 (getVar 3) tupP)))))))))))))))))

def b_law_told_TooMany (a dd : Addr) : FS :=
 (seqF (setF 1 (lstE (aCons (stE (con (.str "BadName"))) (aCons (stE (con (.str "UnknownName"))) (aCons (stE (con (.str "DoubleName"))) (aCons (stE (con (.str "BadNumber"))) (aCons (stE (con (.str "TooMany"))) (aCons (stE (con (.str "BadGroups"))) (aCons (stE (con (.str "OtherGround"))) (aCons (stE (con (.str "NeedLoop"))) aNil))))))))))
 (seqF (setF 1 (op2 (getVar 1) (lstE (aCons (stE (con (.str "BadLine"))) (aCons (stE (con (.str "BadLog"))) (aCons (stE (con (.str "Refused"))) (aCons (stE (con (.str "NoDeed"))) aNil))))) addP))
 (seqF (setF 2 (lstE (aCons (stE (op1 (getVar 0) (isEP a dd false))) (aCons (stE (op1 (getVar 0) (isEP a dd false))) (aCons (stE (op1 (getVar 0) (isEP a dd false))) (aCons (stE (op1 (getVar 0) (isEP a dd false))) aNil))))))
 (seqF (setF 2 (op2 (getVar 2) (lstE (aCons (stE (op1 (getVar 0) (isEP a dd true))) (aCons (stE (op1 (getVar 0) (isEP a dd false))) (aCons (stE (op1 (getVar 0) (isEP a dd false))) aNil)))) addP))
 (seqF (setF 2 (op2 (getVar 2) (lstE (aCons (stE (op1 (getVar 0) (isEP a dd false))) (aCons (stE (op1 (getVar 0) (isEP a dd false))) (aCons (stE (op1 (getVar 0) (isEP a dd false))) (aCons (stE (op1 (getVar 0) (isEP a dd false))) aNil))))) addP))
 (seqF (setF 2 (op2 (getVar 2) (lstE (aCons (stE (op1 (getVar 0) (isEP a dd false))) aNil)) addP))
 (seqF (ownF 3 (cmpE (rng1 (aCons (stE (con (.int 12))) aNil)) (tgN 4) (tst (op2 (getVar 2) (getVar 4) idxP)) (stE (op2 (getVar 1) (getVar 4) idxP)) [4]))
 (seqF (ifF (tst (op1 (getVar 0) (isEP a dd false)))
 (fun _ _ => .bad)
 nxt)
 (seqF (ifF (tst (op1 (getVar 0) (isEP a dd false)))
 (fun _ _ => .bad)
 nxt)
 (seqF (ifF (tst (op1 (getVar 0) (isEP a dd true)))
 (appF 3 (op1 (getVar 0) (fldP a dd "limit")))
 (fun _ _ => .bad))
 (seqF (ifF (tst (op1 (getVar 0) (isEP a dd false)))
 (fun _ _ => .bad)
 nxt)
 (seqF (ifF (tst (op1 (getVar 0) (isEP a dd false)))
 (fun _ _ => .bad)
 nxt)
 (seqF (ifF (tst (op1 (getVar 0) (isEP a dd false)))
 (fun _ _ => .bad)
 nxt)
 (seqF (ifF (tst (op1 (getVar 0) (isEP a dd false)))
 (fun _ _ => .bad)
 nxt)
 (seqF (ifF (notT (tst (op1 (getVar 0) (isEP a dd true))))
 (fun _ _ => .bad)
 nxt)
 (retF (op1 (getVar 3) tupP)))))))))))))))))

theorem sc_law_told_BadLine : FnScope ["e", "words", "kinds", "found", "k"] ["e"] (defScope (topS 52)) := ⟨rfl, rfl, rfl, by decide +kernel, rfl, by decide +kernel, by decide +kernel⟩
theorem ok_law_told_BadLine (T : Txt P K mg) (dd : Addr) : FnP P w K mg base (L2N.CX P w) 3 T.law_told.a T.law_told.d ["e"] (fun p => Zc (.ref T.xa_BadLine) (some dd) p.2) (fun p => spOf K T.cls 1 (fnD 5 (b_law_told_BadLine p.1 dd))) :=
 have sc := sc_law_told_BadLine
 fn_rsP (b := fun p => b_law_told_BadLine p.1 dd) T.law_told.F sc rfl fun p hz cdv A outer s H E hot hu => ⟨_,
 (b_cons (s_set 1 sc.nd (e_lst (a_cons e_str (a_cons e_str (a_cons e_str (a_cons e_str (a_cons e_str (a_cons e_str (a_cons e_str (a_cons e_str a_nil))))))))))
 (b_cons (s_set 1 sc.nd (e_add (K := K) (e_var 1) (e_lst (a_cons e_str (a_cons e_str (a_cons e_str (a_cons e_str a_nil)))))))
 (b_cons (s_set 2 sc.nd (e_lst (a_cons (e_isE (b := false) (Caught.mk (List.mem_singleton.mpr rfl) hot hz T.k_BadLine) T.m_isinstance (pe_glob (v := .ref T.xa_BadName) rfl T.n_BadName rfl) (.own _) T.kit_BadLine_BadName (e_var 0)) (a_cons (e_isE (b := false) (Caught.mk (List.mem_singleton.mpr rfl) hot hz T.k_BadLine) T.m_isinstance (pe_glob (v := .ref T.xa_UnknownName) rfl T.n_UnknownName rfl) (.own _) T.kit_BadLine_UnknownName (e_var 0)) (a_cons (e_isE (b := false) (Caught.mk (List.mem_singleton.mpr rfl) hot hz T.k_BadLine) T.m_isinstance (pe_glob (v := .ref T.xa_DoubleName) rfl T.n_DoubleName rfl) (.own _) T.kit_BadLine_DoubleName (e_var 0)) (a_cons (e_isE (b := false) (Caught.mk (List.mem_singleton.mpr rfl) hot hz T.k_BadLine) T.m_isinstance (pe_glob (v := .ref T.xa_BadNumber) rfl T.n_BadNumber rfl) (.own _) T.kit_BadLine_BadNumber (e_var 0)) a_nil))))))
 (b_cons (s_set 2 sc.nd (e_add (K := K) (e_var 2) (e_lst (a_cons (e_isE (b := false) (Caught.mk (List.mem_singleton.mpr rfl) hot hz T.k_BadLine) T.m_isinstance (pe_glob (v := .ref T.xa_TooMany) rfl T.n_TooMany rfl) (.own _) T.kit_BadLine_TooMany (e_var 0)) (a_cons (e_isE (b := false) (Caught.mk (List.mem_singleton.mpr rfl) hot hz T.k_BadLine) T.m_isinstance (pe_glob (v := .ref T.xa_BadGroups) rfl T.n_BadGroups rfl) (.own _) T.kit_BadLine_BadGroups (e_var 0)) (a_cons (e_isE (b := false) (Caught.mk (List.mem_singleton.mpr rfl) hot hz T.k_BadLine) T.m_isinstance (pe_glob (v := .ref T.xa_OtherGround) rfl T.n_OtherGround rfl) (.own _) T.kit_BadLine_OtherGround (e_var 0)) a_nil))))))
 (b_cons (s_set 2 sc.nd (e_add (K := K) (e_var 2) (e_lst (a_cons (e_isE (b := false) (Caught.mk (List.mem_singleton.mpr rfl) hot hz T.k_BadLine) T.m_isinstance (pe_glob (v := .ref T.xa_NeedLoop) rfl T.n_NeedLoop rfl) (.own _) T.kit_BadLine_NeedLoop (e_var 0)) (a_cons (e_isE (b := true) (Caught.mk (List.mem_singleton.mpr rfl) hot hz T.k_BadLine) T.m_isinstance (pe_glob (v := .ref T.xa_BadLine) rfl T.n_BadLine rfl) (.own _) T.kit_BadLine_BadLine (e_var 0)) (a_cons (e_isE (b := false) (Caught.mk (List.mem_singleton.mpr rfl) hot hz T.k_BadLine) T.m_isinstance (pe_glob (v := .ref T.xa_BadLog) rfl T.n_BadLog rfl) (.own _) T.kit_BadLine_BadLog (e_var 0)) (a_cons (e_isE (b := false) (Caught.mk (List.mem_singleton.mpr rfl) hot hz T.k_BadLine) T.m_isinstance (pe_glob (v := .ref T.xa_Refused) rfl T.n_Refused rfl) (.own _) T.kit_BadLine_Refused (e_var 0)) a_nil)))))))
 (b_cons (s_set 2 sc.nd (e_add (K := K) (e_var 2) (e_lst (a_cons (e_isE (b := false) (Caught.mk (List.mem_singleton.mpr rfl) hot hz T.k_BadLine) T.m_isinstance (pe_glob (v := .ref T.xa_NoDeed) rfl T.n_NoDeed rfl) (.own _) T.kit_BadLine_NoDeed (e_var 0)) a_nil))))
 (b_cons (s_ownH (i := 3) [("k", 4)] hot (List.mem_singleton.mpr rfl) sc.nd (i_rng1H T.m_range (a_cons e_int a_nil)) (fun _ _ _ _ _ => (g_name 4 sc.nd)) (fun _ _ _ _ _ => (ts_one (t_val (e_ix (K := K) (e_var 2) (e_var 4))))) (fun _ _ _ _ _ => (e_ix (K := K) (e_var 1) (e_var 4))))
 (b_cons (s_if (t_val (e_isET (b := false) (Caught.mk (List.mem_singleton.mpr rfl) hot hz T.k_BadLine) T.m_isinstance (pa_cons (pe_glob (v := .ref T.xa_BadName) rfl T.n_BadName rfl) (pa_cons (pe_glob (v := .ref T.xa_UnknownName) rfl T.n_UnknownName rfl) (pa_cons (pe_glob (v := .ref T.xa_DoubleName) rfl T.n_DoubleName rfl) pa_nil))) (fun _ _ _ h => h) (by show 3 ≤ PySem.sizeLine; decide) (.cons (.own _) (.cons (.own _) (.cons (.own _) .nil))) (by show PySem.W.kitAny K _ _ = _; simp only [PySem.W.kitAny, T.kit_BadLine_BadName, T.kit_BadLine_UnknownName, T.kit_BadLine_DoubleName]) (e_var 0) (pe_tup (pa_cons (pe_glob (v := .ref T.xa_BadName) rfl T.n_BadName rfl) (pa_cons (pe_glob (v := .ref T.xa_UnknownName) rfl T.n_UnknownName rfl) (pa_cons (pe_glob (v := .ref T.xa_DoubleName) rfl T.n_DoubleName rfl) pa_nil))))))
 b_dead
 b_nil)
 (b_cons (s_if (t_val (e_isET (b := false) (Caught.mk (List.mem_singleton.mpr rfl) hot hz T.k_BadLine) T.m_isinstance (pa_cons (pe_glob (v := .ref T.xa_BadNumber) rfl T.n_BadNumber rfl) (pa_cons (pe_glob (v := .ref T.xa_OtherGround) rfl T.n_OtherGround rfl) (pa_cons (pe_glob (v := .ref T.xa_BadLog) rfl T.n_BadLog rfl) pa_nil))) (fun _ _ _ h => h) (by show 3 ≤ PySem.sizeLine; decide) (.cons (.own _) (.cons (.own _) (.cons (.own _) .nil))) (by show PySem.W.kitAny K _ _ = _; simp only [PySem.W.kitAny, T.kit_BadLine_BadNumber, T.kit_BadLine_OtherGround, T.kit_BadLine_BadLog]) (e_var 0) (pe_tup (pa_cons (pe_glob (v := .ref T.xa_BadNumber) rfl T.n_BadNumber rfl) (pa_cons (pe_glob (v := .ref T.xa_OtherGround) rfl T.n_OtherGround rfl) (pa_cons (pe_glob (v := .ref T.xa_BadLog) rfl T.n_BadLog rfl) pa_nil))))))
 b_dead
 b_nil)
 (b_cons (s_if (t_val (e_isE (b := false) (Caught.mk (List.mem_singleton.mpr rfl) hot hz T.k_BadLine) T.m_isinstance (pe_glob (v := .ref T.xa_TooMany) rfl T.n_TooMany rfl) (.own _) T.kit_BadLine_TooMany (e_var 0)))
 b_dead
 b_nil)
 (b_cons (s_if (t_val (e_isE (b := false) (Caught.mk (List.mem_singleton.mpr rfl) hot hz T.k_BadLine) T.m_isinstance (pe_glob (v := .ref T.xa_BadGroups) rfl T.n_BadGroups rfl) (.own _) T.kit_BadLine_BadGroups (e_var 0)))
 b_dead
 b_nil)
 (b_cons (s_if (t_val (e_isE (b := false) (Caught.mk (List.mem_singleton.mpr rfl) hot hz T.k_BadLine) T.m_isinstance (pe_glob (v := .ref T.xa_NeedLoop) rfl T.n_NeedLoop rfl) (.own _) T.kit_BadLine_NeedLoop (e_var 0)))
 b_dead
 b_nil)
 (b_cons (s_if (t_val (e_isE (b := true) (Caught.mk (List.mem_singleton.mpr rfl) hot hz T.k_BadLine) T.m_isinstance (pe_glob (v := .ref T.xa_BadLine) rfl T.n_BadLine rfl) (.own _) T.kit_BadLine_BadLine (e_var 0)))
 (b_one (s_app 3 (e_var 3) (e_fldE (Caught.mk (List.mem_singleton.mpr rfl) hot hz T.k_BadLine) T.x_BadLine.noN (e_var 0))))
 b_dead)
 (b_cons (s_if (t_val (e_isE (b := false) (Caught.mk (List.mem_singleton.mpr rfl) hot hz T.k_BadLine) T.m_isinstance (pe_glob (v := .ref T.xa_Refused) rfl T.n_Refused rfl) (.own _) T.kit_BadLine_Refused (e_var 0)))
 b_dead
 b_nil)
 (b_cons (s_if (t_not (t_val (e_isE (b := true) (Caught.mk (List.mem_singleton.mpr rfl) hot hz T.k_BadLine) T.m_isinstance (pe_bltn (v := .ty "ValueError") rfl T.m_ValueError (by decide +kernel) rfl) (.ty _) T.kit_BadLine_ValueError (e_var 0))))
 b_dead
 b_nil)
 (b_one (s_ret (e_tuple1 (K := K) T.m_tuple (e_var 3)))))))))))))))))))⟩

theorem sc_law_told_TooMany : FnScope ["e", "words", "kinds", "found", "k"] ["e"] (defScope (topS 52)) := ⟨rfl, rfl, rfl, by decide +kernel, rfl, by decide +kernel, by decide +kernel⟩
theorem ok_law_told_TooMany (T : Txt P K mg) (dd : Addr) : FnP P w K mg base (L2N.CX P w) 3 T.law_told.a T.law_told.d ["e"] (fun p => Zc (.ref T.xa_TooMany) (some dd) p.2) (fun p => spOf K T.cls 1 (fnD 5 (b_law_told_TooMany p.1 dd))) :=
 have sc := sc_law_told_TooMany
 fn_rsP (b := fun p => b_law_told_TooMany p.1 dd) T.law_told.F sc rfl fun p hz cdv A outer s H E hot hu => ⟨_,
 (b_cons (s_set 1 sc.nd (e_lst (a_cons e_str (a_cons e_str (a_cons e_str (a_cons e_str (a_cons e_str (a_cons e_str (a_cons e_str (a_cons e_str a_nil))))))))))
 (b_cons (s_set 1 sc.nd (e_add (K := K) (e_var 1) (e_lst (a_cons e_str (a_cons e_str (a_cons e_str (a_cons e_str a_nil)))))))
 (b_cons (s_set 2 sc.nd (e_lst (a_cons (e_isE (b := false) (Caught.mk (List.mem_singleton.mpr rfl) hot hz T.k_TooMany) T.m_isinstance (pe_glob (v := .ref T.xa_BadName) rfl T.n_BadName rfl) (.own _) T.kit_TooMany_BadName (e_var 0)) (a_cons (e_isE (b := false) (Caught.mk (List.mem_singleton.mpr rfl) hot hz T.k_TooMany) T.m_isinstance (pe_glob (v := .ref T.xa_UnknownName) rfl T.n_UnknownName rfl) (.own _) T.kit_TooMany_UnknownName (e_var 0)) (a_cons (e_isE (b := false) (Caught.mk (List.mem_singleton.mpr rfl) hot hz T.k_TooMany) T.m_isinstance (pe_glob (v := .ref T.xa_DoubleName) rfl T.n_DoubleName rfl) (.own _) T.kit_TooMany_DoubleName (e_var 0)) (a_cons (e_isE (b := false) (Caught.mk (List.mem_singleton.mpr rfl) hot hz T.k_TooMany) T.m_isinstance (pe_glob (v := .ref T.xa_BadNumber) rfl T.n_BadNumber rfl) (.own _) T.kit_TooMany_BadNumber (e_var 0)) a_nil))))))
 (b_cons (s_set 2 sc.nd (e_add (K := K) (e_var 2) (e_lst (a_cons (e_isE (b := true) (Caught.mk (List.mem_singleton.mpr rfl) hot hz T.k_TooMany) T.m_isinstance (pe_glob (v := .ref T.xa_TooMany) rfl T.n_TooMany rfl) (.own _) T.kit_TooMany_TooMany (e_var 0)) (a_cons (e_isE (b := false) (Caught.mk (List.mem_singleton.mpr rfl) hot hz T.k_TooMany) T.m_isinstance (pe_glob (v := .ref T.xa_BadGroups) rfl T.n_BadGroups rfl) (.own _) T.kit_TooMany_BadGroups (e_var 0)) (a_cons (e_isE (b := false) (Caught.mk (List.mem_singleton.mpr rfl) hot hz T.k_TooMany) T.m_isinstance (pe_glob (v := .ref T.xa_OtherGround) rfl T.n_OtherGround rfl) (.own _) T.kit_TooMany_OtherGround (e_var 0)) a_nil))))))
 (b_cons (s_set 2 sc.nd (e_add (K := K) (e_var 2) (e_lst (a_cons (e_isE (b := false) (Caught.mk (List.mem_singleton.mpr rfl) hot hz T.k_TooMany) T.m_isinstance (pe_glob (v := .ref T.xa_NeedLoop) rfl T.n_NeedLoop rfl) (.own _) T.kit_TooMany_NeedLoop (e_var 0)) (a_cons (e_isE (b := false) (Caught.mk (List.mem_singleton.mpr rfl) hot hz T.k_TooMany) T.m_isinstance (pe_glob (v := .ref T.xa_BadLine) rfl T.n_BadLine rfl) (.own _) T.kit_TooMany_BadLine (e_var 0)) (a_cons (e_isE (b := false) (Caught.mk (List.mem_singleton.mpr rfl) hot hz T.k_TooMany) T.m_isinstance (pe_glob (v := .ref T.xa_BadLog) rfl T.n_BadLog rfl) (.own _) T.kit_TooMany_BadLog (e_var 0)) (a_cons (e_isE (b := false) (Caught.mk (List.mem_singleton.mpr rfl) hot hz T.k_TooMany) T.m_isinstance (pe_glob (v := .ref T.xa_Refused) rfl T.n_Refused rfl) (.own _) T.kit_TooMany_Refused (e_var 0)) a_nil)))))))
 (b_cons (s_set 2 sc.nd (e_add (K := K) (e_var 2) (e_lst (a_cons (e_isE (b := false) (Caught.mk (List.mem_singleton.mpr rfl) hot hz T.k_TooMany) T.m_isinstance (pe_glob (v := .ref T.xa_NoDeed) rfl T.n_NoDeed rfl) (.own _) T.kit_TooMany_NoDeed (e_var 0)) a_nil))))
 (b_cons (s_ownH (i := 3) [("k", 4)] hot (List.mem_singleton.mpr rfl) sc.nd (i_rng1H T.m_range (a_cons e_int a_nil)) (fun _ _ _ _ _ => (g_name 4 sc.nd)) (fun _ _ _ _ _ => (ts_one (t_val (e_ix (K := K) (e_var 2) (e_var 4))))) (fun _ _ _ _ _ => (e_ix (K := K) (e_var 1) (e_var 4))))
 (b_cons (s_if (t_val (e_isET (b := false) (Caught.mk (List.mem_singleton.mpr rfl) hot hz T.k_TooMany) T.m_isinstance (pa_cons (pe_glob (v := .ref T.xa_BadName) rfl T.n_BadName rfl) (pa_cons (pe_glob (v := .ref T.xa_UnknownName) rfl T.n_UnknownName rfl) (pa_cons (pe_glob (v := .ref T.xa_DoubleName) rfl T.n_DoubleName rfl) pa_nil))) (fun _ _ _ h => h) (by show 3 ≤ PySem.sizeLine; decide) (.cons (.own _) (.cons (.own _) (.cons (.own _) .nil))) (by show PySem.W.kitAny K _ _ = _; simp only [PySem.W.kitAny, T.kit_TooMany_BadName, T.kit_TooMany_UnknownName, T.kit_TooMany_DoubleName]) (e_var 0) (pe_tup (pa_cons (pe_glob (v := .ref T.xa_BadName) rfl T.n_BadName rfl) (pa_cons (pe_glob (v := .ref T.xa_UnknownName) rfl T.n_UnknownName rfl) (pa_cons (pe_glob (v := .ref T.xa_DoubleName) rfl T.n_DoubleName rfl) pa_nil))))))
 b_dead
 b_nil)
 (b_cons (s_if (t_val (e_isET (b := false) (Caught.mk (List.mem_singleton.mpr rfl) hot hz T.k_TooMany) T.m_isinstance (pa_cons (pe_glob (v := .ref T.xa_BadNumber) rfl T.n_BadNumber rfl) (pa_cons (pe_glob (v := .ref T.xa_OtherGround) rfl T.n_OtherGround rfl) (pa_cons (pe_glob (v := .ref T.xa_BadLog) rfl T.n_BadLog rfl) pa_nil))) (fun _ _ _ h => h) (by show 3 ≤ PySem.sizeLine; decide) (.cons (.own _) (.cons (.own _) (.cons (.own _) .nil))) (by show PySem.W.kitAny K _ _ = _; simp only [PySem.W.kitAny, T.kit_TooMany_BadNumber, T.kit_TooMany_OtherGround, T.kit_TooMany_BadLog]) (e_var 0) (pe_tup (pa_cons (pe_glob (v := .ref T.xa_BadNumber) rfl T.n_BadNumber rfl) (pa_cons (pe_glob (v := .ref T.xa_OtherGround) rfl T.n_OtherGround rfl) (pa_cons (pe_glob (v := .ref T.xa_BadLog) rfl T.n_BadLog rfl) pa_nil))))))
 b_dead
 b_nil)
 (b_cons (s_if (t_val (e_isE (b := true) (Caught.mk (List.mem_singleton.mpr rfl) hot hz T.k_TooMany) T.m_isinstance (pe_glob (v := .ref T.xa_TooMany) rfl T.n_TooMany rfl) (.own _) T.kit_TooMany_TooMany (e_var 0)))
 (b_one (s_app 3 (e_var 3) (e_fldE (Caught.mk (List.mem_singleton.mpr rfl) hot hz T.k_TooMany) T.x_TooMany.noN (e_var 0))))
 b_dead)
 (b_cons (s_if (t_val (e_isE (b := false) (Caught.mk (List.mem_singleton.mpr rfl) hot hz T.k_TooMany) T.m_isinstance (pe_glob (v := .ref T.xa_BadGroups) rfl T.n_BadGroups rfl) (.own _) T.kit_TooMany_BadGroups (e_var 0)))
 b_dead
 b_nil)
 (b_cons (s_if (t_val (e_isE (b := false) (Caught.mk (List.mem_singleton.mpr rfl) hot hz T.k_TooMany) T.m_isinstance (pe_glob (v := .ref T.xa_NeedLoop) rfl T.n_NeedLoop rfl) (.own _) T.kit_TooMany_NeedLoop (e_var 0)))
 b_dead
 b_nil)
 (b_cons (s_if (t_val (e_isE (b := false) (Caught.mk (List.mem_singleton.mpr rfl) hot hz T.k_TooMany) T.m_isinstance (pe_glob (v := .ref T.xa_BadLine) rfl T.n_BadLine rfl) (.own _) T.kit_TooMany_BadLine (e_var 0)))
 b_dead
 b_nil)
 (b_cons (s_if (t_val (e_isE (b := false) (Caught.mk (List.mem_singleton.mpr rfl) hot hz T.k_TooMany) T.m_isinstance (pe_glob (v := .ref T.xa_Refused) rfl T.n_Refused rfl) (.own _) T.kit_TooMany_Refused (e_var 0)))
 b_dead
 b_nil)
 (b_cons (s_if (t_not (t_val (e_isE (b := true) (Caught.mk (List.mem_singleton.mpr rfl) hot hz T.k_TooMany) T.m_isinstance (pe_bltn (v := .ty "ValueError") rfl T.m_ValueError (by decide +kernel) rfl) (.ty _) T.kit_TooMany_ValueError (e_var 0))))
 b_dead
 b_nil)
 (b_one (s_ret (e_tuple1 (K := K) T.m_tuple (e_var 3)))))))))))))))))))⟩

end
end K58
set_option Elab.async false
set_option linter.all false
set_option maxRecDepth 100000
set_option maxHeartbeats 2000000
namespace K58
open PySem PySem.Spec PyProof.Rows L2 RS
abbrev toldNames : List RS.D := [.str "BadName", .str "UnknownName", .str "DoubleName", .str "BadNumber", .str "TooMany", .str "BadGroups", .str "OtherGround", .str "NeedLoop", .str "BadLine", .str "BadLog", .str "Refused", .str "NoDeed"]
abbrev toldF (ks : List RS.D) (s0 : Slot) (M : Mem) : R Val := cmpE (rng1 (aCons (stE (con (.int 12))) aNil)) (tgN 4) (tst (op2 (getVar 2) (getVar 4) idxP)) (stE (op2 (getVar 1) (getVar 4) idxP)) [4]
    [s0, .val (.lst toldNames), .val (.lst ks), .none, .none] M
theorem told_c8 (s0 : Slot) (M : Mem) : toldF [.bl false, .bl false, .bl false, .bl false, .bl false, .bl false, .bl false, .bl false, .bl true, .bl false, .bl false, .bl false] s0 M = .ok (.own [.str "BadLine"]) M := by rfl
theorem told_c4 (s0 : Slot) (M : Mem) : toldF [.bl false, .bl false, .bl false, .bl false, .bl true, .bl false, .bl false, .bl false, .bl false, .bl false, .bl false, .bl false] s0 M = .ok (.own [.str "TooMany"]) M := by rfl
theorem told_BadLine (a dd : Addr) (d : RS.D) (M : Mem) : fnD 5 (b_law_told_BadLine a dd) [.exc a dd "line" d] M = .ok (.val (.tup [.str "BadLine", d])) M := by
  simp [b_law_told_BadLine, fnD, seqF, setF, asgF, tgN, lstE, aCons, aNil, stE, con, op1, op2, getVar, addP, isEP, ownF, tst, asBool, ifF, nxt, appF, fldP, retF, tupP, notT, LIM, told_c8]
theorem told_TooMany (a dd : Addr) (d : RS.D) (M : Mem) : fnD 5 (b_law_told_TooMany a dd) [.exc a dd "limit" d] M = .ok (.val (.tup [.str "TooMany", d])) M := by
  simp [b_law_told_TooMany, fnD, seqF, setF, asgF, tgN, lstE, aCons, aNil, stE, con, op1, op2, getVar, addP, isEP, ownF, tst, asBool, ifF, nxt, appF, fldP, retF, tupP, notT, LIM, told_c4]
section
variable {P : Program} {w : World} {K : Frag} {mg : Str → Option Value} {base : Heap}
def b_law_callS (c a dd : Nat) : FS := retF (tupE (aCons (stE (con (.str "error"))) (aCons (stE (callE 1 (fnD 5 (if c = 0 then b_law_told_BadLine a dd else b_law_told_TooMany a dd)) (aCons (stE (getVar 1)) aNil))) aNil)))
theorem exm_ok (T : Txt P K mg) (c : Nat) (C : Addr) (f : Str) (h : T.cls c = some (C, f)) : PySem.W.exmOne K (.ref C) (.ref T.xa_RollstepError) = some true := by
  match c, h with
  | 0, h => cases h; exact T.exm_BadLine
  | 1, h => cases h; exact T.exm_TooMany
  | c + 2, h => cases h
theorem call_val (T : Txt P K mg) (c : Nat) (C : Addr) (f : Str) (a dd : Addr) (d : RS.D) (M : Mem) (h : T.cls c = some (C, f)) :
    b_law_callS c a dd ((List.replicate 2 Slot.none).set 1 (.val (.exc a dd f d))) M = .ok (.ret (.val (.tup [.str "error", f_told c d]))) M := by
  match c, h with
  | 0, h =>
    cases h
    simp [b_law_callS, retF, tupE, aCons, aNil, stE, con, callE, getVar, told_BadLine, f_told, LIM, List.replicate]
  | 1, h =>
    cases h
    simp [b_law_callS, retF, tupE, aCons, aNil, stE, con, callE, getVar, told_TooMany, f_told, LIM, List.replicate]
  | c + 2, h => cases h
theorem sc_law_call : FnScope ["text", "e"] ["text"] (defScope (topS 68)) := ⟨rfl, rfl, rfl, by decide +kernel, rfl, by decide +kernel, by decide +kernel⟩
theorem ok_law_call (T : Txt P K mg) : FnOk P w K mg base (L2N.CX P w) 30 T.law_call.a T.law_call.d ["text"] (spOf K T.cls 1 f_law_call) :=
 have sc := sc_law_call
 fn_rs (b := b_law_call) T.law_call.F sc rfl fun cdv A outer s H E hr tk hp hu => ⟨_,
 (b_one (x_try (cx := T.cls) (cex := .ref T.xa_RollstepError) (i := 1) (nm := "e")
   (tb := fun W => tRet (tTup (tCons (tC (.str "value")) (tCons (tCallS (spOf K T.cls 1 f_read_answer) (WE (lenW 2 W)) (tCons (tVar 0) tNil)) tNil))))
   (tsx := fun c a dd => tRet (tTup (tCons (tC (.str "error")) (tCons (tCallS (spOf K T.cls 1 (fnD 5 (if c = 0 then b_law_told_BadLine a dd else b_law_told_TooMany a dd))) (WE W0) (tCons (tVar 1) tNil)) tNil))))
   (g := b_law_callS) (bf := b_law_call0) (sf := fun c d => .tup [.str "error", f_told c d])
   rfl rfl sc.nd rfl rfl ⟨rfl, by decide, .inl T.n_RollstepError⟩ tk
   (fun W' pn xe tk' po => (b_one (s_ret (e_tup (a_cons e_str (a_cons (e_call (K := K) (ok_read_answer T) (hr.mono (by decide)) T.read_answer.g T.read_answer.F.kp T.read_answer.B (L2N.passAt (takes_len tk')) (a_cons (e_var 0) a_nil)) a_nil))))).p)
   (fun c C f hc a oe dd pn hz hfl => match c, hc with
     | 0, hc => by
       cases hc
       obtain ⟨vs, hv⟩ := hfl
       exact (b_one (s_ret (W := W0) (cx := T.cls) (e_tup (a_cons e_str (a_cons (e_callP (K := K) (p := (a, oe)) (F := fun p => fnD 5 (b_law_told_BadLine p.1 dd)) (ok_law_told_BadLine T dd) hz.zc ⟨rfl, vs, hv, hz.2.2 vs hv⟩ List.mem_cons_self ⟨(L2H.roomH_of (hr.mono (show 3 ≤ 29 by decide))).dp, (L2H.roomH_of (hr.mono (show 3 ≤ 29 by decide))).un⟩ T.law_told.g T.law_told.F.kp T.law_told.B pass_W0 (a_cons (e_var 1) a_nil)) a_nil))))).p
     | 1, hc => by
       cases hc
       obtain ⟨vs, hv⟩ := hfl
       exact (b_one (s_ret (W := W0) (cx := T.cls) (e_tup (a_cons e_str (a_cons (e_callP (K := K) (p := (a, oe)) (F := fun p => fnD 5 (b_law_told_TooMany p.1 dd)) (ok_law_told_TooMany T dd) hz.zc ⟨rfl, vs, hv, hz.2.2 vs hv⟩ List.mem_cons_self ⟨(L2H.roomH_of (hr.mono (show 3 ≤ 29 by decide))).dp, (L2H.roomH_of (hr.mono (show 3 ≤ 29 by decide))).un⟩ T.law_told.g T.law_told.F.kp T.law_told.B pass_W0 (a_cons (e_var 1) a_nil)) a_nil))))).p
     | c + 2, hc => by cases hc)
   (ss_try (n := 2) (fun W' => ss_ret (se_tup (sa_cons (se_str (by decide +kernel)) (sa_cons (se_call (sa_cons (se_var 0) sa_nil)) sa_nil)))) (exm_ok T) (fun c a dd => ss_ret (se_tup (sa_cons (se_str (by decide +kernel)) (sa_cons (se_call (sa_cons (se_var 1) sa_nil)) sa_nil)))) (call_val T))))⟩
end
end K58
set_option Elab.async false
set_option linter.all false
set_option maxRecDepth 100000
set_option maxHeartbeats 2000000
namespace K58
open PySem PySem.Spec PyProof.Rows L2 RS
section
variable {P : Program} {w : World} {K : Frag} {mg : Str → Option Value} {base : Heap}

theorem sc_law_agrees : FnScope ["lines", "text", "due"] ["lines"] (defScope (topS 69)) := ⟨rfl, rfl, rfl, by decide +kernel, rfl, by decide +kernel, by decide +kernel⟩
theorem ok_law_agrees (T : Txt P K mg) : FnOk P w K mg base (L2N.CX P w) 31 T.law_agrees.a T.law_agrees.d ["lines"] (spOf K T.cls 1 f_law_agrees) :=
 have sc := sc_law_agrees
 fn_rs (b := b_law_agrees) T.law_agrees.F sc rfl fun cdv A outer s H E hr tk hp hu => ⟨_,
 (b_cons (s_set 1 sc.nd (e_join (K := K) e_str (e_var 0)))
 (b_cons (s_set 2 sc.nd (e_call (K := K) (ok_law_read T) (hr.mono (by decide)) T.law_read.g T.law_read.F.kp T.law_read.B (L2N.passAt tk) (a_cons (e_split (e_var 1) e_str) a_nil)))
 (b_cons (s_if (t_not (t_val (e_call (K := K) (ok_law_same T 20) (hr.mono (by decide)) T.law_same.g T.law_same.F.kp T.law_same.B (L2N.passAt tk) (a_cons (e_call (K := K) (ok_law_call T) (hr.mono (by decide)) T.law_call.g T.law_call.F.kp T.law_call.B (L2N.passAt tk) (a_cons (e_var 1) a_nil)) (a_cons (e_var 2) a_nil)))))
 (b_one (s_ret e_bl))
 b_nil)
 (b_one (s_ret (e_or (e_cmp (k_eq (K := K) hu) (e_ix (K := K) (e_var 2) e_int) e_str) (e_one (e_call (K := K) (ok_law_same T 20) (hr.mono (by decide)) T.law_same.g T.law_same.F.kp T.law_same.B (L2N.passAt tk) (a_cons (e_call (K := K) (ok_write_answer T) (hr.mono (by decide)) T.write_answer.g T.write_answer.F.kp T.write_answer.B (L2N.passAt tk) (a_cons (e_ix (K := K) (e_var 2) e_int) a_nil)) (a_cons (e_var 1) a_nil))))))))))⟩

theorem sc_law : FnScope ["script", "source", "answer", "lines", "k", "rows"] ["script"] (defScope (topS 70)) := ⟨rfl, rfl, rfl, by decide +kernel, rfl, by decide +kernel, by decide +kernel⟩
theorem ok_law (T : Txt P K mg) : FnOk P w K mg base (L2N.CX P w) 32 T.law.a T.law.d ["script"] (spOf K T.cls 1 f_law) :=
 have sc := sc_law
 fn_rs (b := b_law) T.law.F sc rfl fun cdv A outer s H E hr tk hp hu => ⟨_,
 (b_cons (s_set 1 sc.nd (e_call (K := K) (ok_law_source T) (hr.mono (by decide)) T.law_source.g T.law_source.F.kp T.law_source.B (L2N.passAt tk) (a_cons (e_var 0) a_nil)))
 (b_cons (s_set 2 sc.nd (e_call (K := K) (ok_law_some_answer T) (hr.mono (by decide)) T.law_some_answer.g T.law_some_answer.F.kp T.law_some_answer.B (L2N.passAt tk) (a_cons (e_var 1) a_nil)))
 (b_cons (s_set 3 sc.nd (e_call (K := K) (ok_law_written T) (hr.mono (by decide)) T.law_written.g T.law_written.F.kp T.law_written.B (L2N.passAt tk) (a_cons (e_var 2) a_nil)))
 (b_cons (s_if (t_cmp (k_eq (K := K) hu) (e_call (K := K) (ok_law_draw T) (hr.mono (by decide)) T.law_draw.g T.law_draw.F.kp T.law_draw.B (L2N.passAt tk) (a_cons (e_var 1) (a_cons e_int a_nil))) e_int)
 (b_cons (s_set 2 sc.nd (e_tup (a_cons e_str (a_cons (e_tup a_nil) (a_cons (e_tup (a_cons (e_mul (K := K) (e_tup (a_cons (e_tup (a_cons e_str a_nil)) a_nil)) (e_add (K := K) e_int (e_call (K := K) (ok_law_draw T) (hr.mono (by decide)) T.law_draw.g T.law_draw.F.kp T.law_draw.B (L2N.passAt tk) (a_cons (e_var 1) (a_cons e_int a_nil))))) a_nil)) (a_cons (e_tup a_nil) a_nil))))))
 (b_one (s_ret (e_call (K := K) (ok_law_agrees T) (hr.mono (by decide)) T.law_agrees.g T.law_agrees.F.kp T.law_agrees.B (L2N.passAt tk) (a_cons (e_call (K := K) (ok_law_written T) (hr.mono (by decide)) T.law_written.g T.law_written.F.kp T.law_written.B (L2N.passAt tk) (a_cons (e_var 2) a_nil)) a_nil)))))
 b_nil)
 (b_cons (s_if (t_w (w_or (t_not (t_val (e_call (K := K) (ok_law_same T 20) (hr.mono (by decide)) T.law_same.g T.law_same.F.kp T.law_same.B (L2N.passAt tk) (a_cons (e_call (K := K) (ok_law_call T) (hr.mono (by decide)) T.law_call.g T.law_call.F.kp T.law_call.B (L2N.passAt tk) (a_cons (e_join (K := K) e_str (e_var 3)) a_nil)) (a_cons (e_tup (a_cons e_str (a_cons (e_var 2) a_nil))) a_nil))))) (w_or1 (t_not (t_val (e_call (K := K) (ok_law_agrees T) (hr.mono (by decide)) T.law_agrees.g T.law_agrees.F.kp T.law_agrees.B (L2N.passAt tk) (a_cons (e_var 3) a_nil)))))))
 (b_one (s_ret e_bl))
 b_nil)
 (b_cons (s_for hp rfl (i_rng1 T.m_range (a_cons e_int a_nil)) (g_name 4 sc.nd)
 (b_cons (s_set 5 sc.nd (e_call (K := K) (ok_law_spoilt T) (hr.mono (by decide)) T.law_spoilt.g T.law_spoilt.F.kp T.law_spoilt.B (L2N.passAt tk) (a_cons (e_var 1) (a_cons (e_var 3) a_nil))))
 (b_cons (s_if (t_w (w_and (t_cmp (k_eq (K := K) hu) (e_call (K := K) (ok_law_draw T) (hr.mono (by decide)) T.law_draw.g T.law_draw.F.kp T.law_draw.B (L2N.passAt tk) (a_cons (e_var 1) (a_cons e_int a_nil))) e_int) (w_and1 (t_cmp k_gt (e_len (K := K) T.m_len (e_var 5)) e_int))))
 (b_one (s_set 5 sc.nd (e_call (K := K) (ok_law_spoilt T) (hr.mono (by decide)) T.law_spoilt.g T.law_spoilt.F.kp T.law_spoilt.B (L2N.passAt tk) (a_cons (e_var 1) (a_cons (e_var 5) a_nil)))))
 b_nil)
 (b_one (s_if (t_not (t_val (e_call (K := K) (ok_law_agrees T) (hr.mono (by decide)) T.law_agrees.g T.law_agrees.F.kp T.law_agrees.B (L2N.passAt tk) (a_cons (e_var 5) a_nil))))
 (b_one (s_ret e_bl))
 b_nil)))))
 (b_one (s_ret (e_and (e_call (K := K) (ok_law_agrees T) (hr.mono (by decide)) T.law_agrees.g T.law_agrees.F.kp T.law_agrees.B (L2N.passAt tk) (a_cons (e_lst (a_cons e_str a_nil)) a_nil)) (e_one (e_call (K := K) (ok_law_agrees T) (hr.mono (by decide)) T.law_agrees.g T.law_agrees.F.kp T.law_agrees.B (L2N.passAt tk) (a_cons (e_add (K := K) (e_var 3) (e_lst (a_cons e_str a_nil))) a_nil))))))))))))⟩

end
end K58
set_option Elab.async false
set_option linter.all false
set_option maxRecDepth 100000
set_option maxHeartbeats 4000000
namespace K58
open PySem PySem.Spec PyProof.Rows L2 RS
def ft_mk {K : Frag} {h : Heap} {mg : Str → Option Value} {x : Str} {st : Stmt} {ps : List Str} {f : Addr} {oc : Value} {od an : Option Addr} {osl : Array (Option Value)} {kV doc pm cdv ct : Value} (X : K.In h) (G : h.Ns mainGlobals mg)
    (a : PySem.W.nsIn K mainGlobals x = some (some (.ref f))) (l : K.lookup f = some ⟨oc, od, .func (PySem.W.fnOf x x (defArgs st) (defBody st) (defScope st) .none kV doc pm an cdv ct), osl⟩) (c : PySem.W.codeIn K cdv x = true) (k : PySem.W.keepIn K (.ref f) = true)
    (hb : ∀ (kV doc pm : Value) (an : Option Addr) (cdv ct : Value) (us : List Value), us.length = ps.length → bindArgs (PySem.W.fnOf x x (defArgs st) (defBody st) (defScope st) .none kV doc pm an cdv ct) ⟨us, []⟩ = pure (ps.zip us)) : FT K mg x st ps :=
  ⟨f, _, fun_mk l c k, (fun_mk l c k).binds hb, PySem.W.mg_of X G a⟩
theorem c_ex {y : Option Value} {f : Tok → Value} {t : Tok} (h : y = some (f t)) : ∃ t, y = some (f t) := ⟨t, h⟩
theorem sup_cls {K : Frag} {C : Addr} {nm q : Str} {N : Addr} {bs bm : List Value} {sn : List Str} {sub : List Value} {ab : Bool} {col : Option Bool} {dd : Option Addr} {k0 k1 k2 k3 k5 : Option Value}
    (h : K.lookup C = some (excClassObj nm q C N bs bm true sn sub ab col dd k0 k1 k2 k3 k5 "ValueError.__new__")) (hb : PySem.HandSPX.refsVE bm = true) :
    ∃ nm q N bs bm sn sub ab col dd k0 k1 k2 k3 k5, K.lookup C = some (excClassObj nm q C N bs bm true sn sub ab col dd k0 k1 k2 k3 k5 "ValueError.__new__") ∧ PySem.HandSPX.refsVE bm = true := ⟨_, _, _, _, _, _, _, _, _, _, _, _, _, _, _, h, hb⟩
theorem sup_fn {P : Program} {K : Frag} {C fI : Addr} {f qn m : Str} {oc : Value} {od : Option Addr} {doc pm : Value} {an : Option Addr} {ct : Value} {osl : Array (Option Value)} {p : P11} {cc cda : Addr} {cl ccl : Value} {cld cdd : Option Addr} {csl ccs : Array (Option Value)} {vs : Array Value} {file : Str} {tf : Tok}
    (h1 : K.lookup fI = some ⟨oc, od, .func (PySem.W.ksFn "__init__" qn (suA f p) (suB f m p) (suS f) .none .none doc pm an (.ref cda) ct cc), osl⟩) (h2 : PySem.W.codeIn K (.ref cda) qn = true)
    (h3 : K.lookup cc = some ⟨cl, cld, .cell (some (.ref C)), csl⟩) (h4 : K.lookup cda = some ⟨ccl, cdd, .fields vs, ccs⟩) (h5 : vs[2]? = some (.str file tf)) (h6 : ((P.main.file : Str) == file) = true) (h7 : SuEval m p) :
    ∃ (qn m : Str) (oc : Value) (od : Option Addr) (doc pm : Value) (an : Option Addr) (ct : Value) (osl : Array (Option Value)) (p : P11) (cc cda : Addr) (cl ccl : Value) (cld cdd : Option Addr) (csl ccs : Array (Option Value)) (vs : Array Value) (file : Str) (tf : Tok),
      K.lookup fI = some ⟨oc, od, .func (PySem.W.ksFn "__init__" qn (suA f p) (suB f m p) (suS f) .none .none doc pm an (.ref cda) ct cc), osl⟩ ∧ PySem.W.codeIn K (.ref cda) qn = true ∧
      K.lookup cc = some ⟨cl, cld, .cell (some (.ref C)), csl⟩ ∧ K.lookup cda = some ⟨ccl, cdd, .fields vs, ccs⟩ ∧ vs[2]? = some (.str file tf) ∧ ((P.main.file : Str) == file) = true ∧ SuEval m p :=
  ⟨_, _, _, _, _, _, _, _, _, _, _, _, _, _, _, _, _, _, _, _, _, h1, h2, h3, h4, h5, h6, h7⟩
def mkTxt {P : Program} {K : Frag} {mg : Str → Option Value} {xa_BadLine : Addr} {xi_BadLine : Addr} {xa_TooMany : Addr} {xi_TooMany : Addr} {xa_BadName : Addr} {xa_UnknownName : Addr} {xa_DoubleName : Addr} {xa_BadNumber : Addr} {xa_BadGroups : Addr} {xa_OtherGround : Addr} {xa_NeedLoop : Addr} {xa_BadLog : Addr} {xa_Refused : Addr} {xa_NoDeed : Addr} {xa_RollstepError : Addr}
  (is_name : FT K mg "is_name" (topS 18) ["name"])
  (condition_words : FT K mg "condition_words" (topS 21) ["condition"])
  (read_number : FT K mg "read_number" (topS 22) ["word"])
  (are_names : FT K mg "are_names" (topS 23) ["words"])
  (read_numbers : FT K mg "read_numbers" (topS 24) ["words"])
  (read_positive : FT K mg "read_positive" (topS 25) ["words"])
  (read_condition : FT K mg "read_condition" (topS 26) ["words"])
  (read_ground_condition : FT K mg "read_ground_condition" (topS 27) ["words"])
  (read_row : FT K mg "read_row" (topS 30) ["words"])
  (read_visitor : FT K mg "read_visitor" (topS 31) ["words"])
  (read_reason : FT K mg "read_reason" (topS 32) ["words"])
  (read_course : FT K mg "read_course" (topS 33) ["lines"])
  (read_enclosure : FT K mg "read_enclosure" (topS 34) ["lines"])
  (read_spoiled : FT K mg "read_spoiled" (topS 35) ["lines"])
  (read_answer : FT K mg "read_answer" (topS 36) ["text"])
  (row_line : FT K mg "row_line" (topS 38) ["row"])
  (visitor_words : FT K mg "visitor_words" (topS 39) ["visitor"])
  (reason_words : FT K mg "reason_words" (topS 40) ["reason"])
  (course_lines : FT K mg "course_lines" (topS 41) ["moves", "state_rows", "move_rows"])
  (enclosure_lines : FT K mg "enclosure_lines" (topS 42) ["blocks"])
  (write_answer : FT K mg "write_answer" (topS 43) ["answer"])
  (law_source : FT K mg "_law_source" (topS 45) ["script"])
  (law_draw : FT K mg "_law_draw" (topS 46) ["source", "limit"])
  (law_names : FT K mg "_law_names" (topS 47) ["source", "number"])
  (law_number : FT K mg "_law_number" (topS 48) ["word"])
  (law_named : FT K mg "_law_named" (topS 49) ["words"])
  (law_condition_of : FT K mg "_law_condition_of" (topS 50) ["words"])
  (law_spoilt : FT K mg "_law_spoilt" (topS 51) ["source", "lines"])
  (law_told : FT K mg "_law_told" (topS 52) ["e"])
  (law_same : FT K mg "_law_same" (topS 53) ["told", "due"])
  (law_some_names : FT K mg "_law_some_names" (topS 54) ["source", "number"])
  (law_some_number : FT K mg "_law_some_number" (topS 55) ["source"])
  (law_some_condition : FT K mg "_law_some_condition" (topS 56) ["source"])
  (law_some_rows : FT K mg "_law_some_rows" (topS 57) ["source"])
  (law_some_reason : FT K mg "_law_some_reason" (topS 58) ["source", "word"])
  (law_some_answer : FT K mg "_law_some_answer" (topS 59) ["source"])
  (law_row_line : FT K mg "_law_row_line" (topS 60) ["row"])
  (law_reason_line : FT K mg "_law_reason_line" (topS 61) ["reason"])
  (law_written : FT K mg "_law_written" (topS 62) ["answer"])
  (law_row_of : FT K mg "_law_row_of" (topS 63) ["words"])
  (law_reason_of : FT K mg "_law_reason_of" (topS 64) ["words"])
  (law_read_course : FT K mg "_law_read_course" (topS 65) ["lines"])
  (law_read_enclosure : FT K mg "_law_read_enclosure" (topS 66) ["lines"])
  (law_read : FT K mg "_law_read" (topS 67) ["lines"])
  (law_call : FT K mg "_law_call" (topS 68) ["text"])
  (law_agrees : FT K mg "_law_agrees" (topS 69) ["lines"])
  (law : FT K mg "law" (topS 70) ["script"])
  (m_len : mg "len" = none)
  (m_int : mg "int" = none)
  (m_str : mg "str" = none)
  (m_tuple : mg "tuple" = none)
  (m_list : mg "list" = none)
  (m_all : mg "all" = none)
  (m_isinstance : mg "isinstance" = none)
  (m_range : mg "range" = none)
  (m_zip : mg "zip" = none)
  (m_bool : mg "bool" = none)
  (c_LETTERS : ∃ t, mg "LETTERS" = some (.str "abcdefghijklmnopqrstuvwxyz" t))
  (c_DIGITS : ∃ t, mg "DIGITS" = some (.str "0123456789" t))
  (c_MOST_SIGNS : ∃ t, mg "MOST_SIGNS" = some (.int 8 t))
  (c_MOST_DIGITS : ∃ t, mg "MOST_DIGITS" = some (.int 10 t))
  (c_MOST_LINES : ∃ t, mg "MOST_LINES" = some (.int 20000 t))
  (x_BadLine : SupTxt P K mg "BadLine" "line" xa_BadLine xi_BadLine)
  (x_TooMany : SupTxt P K mg "TooMany" "limit" xa_TooMany xi_TooMany)
  (n_BadName : mg "BadName" = some (.ref xa_BadName))
  (n_UnknownName : mg "UnknownName" = some (.ref xa_UnknownName))
  (n_DoubleName : mg "DoubleName" = some (.ref xa_DoubleName))
  (n_BadNumber : mg "BadNumber" = some (.ref xa_BadNumber))
  (n_TooMany : mg "TooMany" = some (.ref xa_TooMany))
  (n_BadGroups : mg "BadGroups" = some (.ref xa_BadGroups))
  (n_OtherGround : mg "OtherGround" = some (.ref xa_OtherGround))
  (n_NeedLoop : mg "NeedLoop" = some (.ref xa_NeedLoop))
  (n_BadLine : mg "BadLine" = some (.ref xa_BadLine))
  (n_BadLog : mg "BadLog" = some (.ref xa_BadLog))
  (n_Refused : mg "Refused" = some (.ref xa_Refused))
  (n_NoDeed : mg "NoDeed" = some (.ref xa_NoDeed))
  (n_RollstepError : mg "RollstepError" = some (.ref xa_RollstepError))
  (m_ValueError : mg "ValueError" = none)
  (k_BadLine : ExcK K xa_BadLine)
  (kit_BadLine_BadName : PySem.W.kitOne K (.ref xa_BadLine) (.ref xa_BadName) = some false)
  (kit_BadLine_UnknownName : PySem.W.kitOne K (.ref xa_BadLine) (.ref xa_UnknownName) = some false)
  (kit_BadLine_DoubleName : PySem.W.kitOne K (.ref xa_BadLine) (.ref xa_DoubleName) = some false)
  (kit_BadLine_BadNumber : PySem.W.kitOne K (.ref xa_BadLine) (.ref xa_BadNumber) = some false)
  (kit_BadLine_TooMany : PySem.W.kitOne K (.ref xa_BadLine) (.ref xa_TooMany) = some false)
  (kit_BadLine_BadGroups : PySem.W.kitOne K (.ref xa_BadLine) (.ref xa_BadGroups) = some false)
  (kit_BadLine_OtherGround : PySem.W.kitOne K (.ref xa_BadLine) (.ref xa_OtherGround) = some false)
  (kit_BadLine_NeedLoop : PySem.W.kitOne K (.ref xa_BadLine) (.ref xa_NeedLoop) = some false)
  (kit_BadLine_BadLine : PySem.W.kitOne K (.ref xa_BadLine) (.ref xa_BadLine) = some true)
  (kit_BadLine_BadLog : PySem.W.kitOne K (.ref xa_BadLine) (.ref xa_BadLog) = some false)
  (kit_BadLine_Refused : PySem.W.kitOne K (.ref xa_BadLine) (.ref xa_Refused) = some false)
  (kit_BadLine_NoDeed : PySem.W.kitOne K (.ref xa_BadLine) (.ref xa_NoDeed) = some false)
  (kit_BadLine_ValueError : PySem.W.kitOne K (.ref xa_BadLine) (.type "ValueError") = some true)
  (exm_BadLine : PySem.W.exmOne K (.ref xa_BadLine) (.ref xa_RollstepError) = some true)
  (k_TooMany : ExcK K xa_TooMany)
  (kit_TooMany_BadName : PySem.W.kitOne K (.ref xa_TooMany) (.ref xa_BadName) = some false)
  (kit_TooMany_UnknownName : PySem.W.kitOne K (.ref xa_TooMany) (.ref xa_UnknownName) = some false)
  (kit_TooMany_DoubleName : PySem.W.kitOne K (.ref xa_TooMany) (.ref xa_DoubleName) = some false)
  (kit_TooMany_BadNumber : PySem.W.kitOne K (.ref xa_TooMany) (.ref xa_BadNumber) = some false)
  (kit_TooMany_TooMany : PySem.W.kitOne K (.ref xa_TooMany) (.ref xa_TooMany) = some true)
  (kit_TooMany_BadGroups : PySem.W.kitOne K (.ref xa_TooMany) (.ref xa_BadGroups) = some false)
  (kit_TooMany_OtherGround : PySem.W.kitOne K (.ref xa_TooMany) (.ref xa_OtherGround) = some false)
  (kit_TooMany_NeedLoop : PySem.W.kitOne K (.ref xa_TooMany) (.ref xa_NeedLoop) = some false)
  (kit_TooMany_BadLine : PySem.W.kitOne K (.ref xa_TooMany) (.ref xa_BadLine) = some false)
  (kit_TooMany_BadLog : PySem.W.kitOne K (.ref xa_TooMany) (.ref xa_BadLog) = some false)
  (kit_TooMany_Refused : PySem.W.kitOne K (.ref xa_TooMany) (.ref xa_Refused) = some false)
  (kit_TooMany_NoDeed : PySem.W.kitOne K (.ref xa_TooMany) (.ref xa_NoDeed) = some false)
  (kit_TooMany_ValueError : PySem.W.kitOne K (.ref xa_TooMany) (.type "ValueError") = some true)
  (exm_TooMany : PySem.W.exmOne K (.ref xa_TooMany) (.ref xa_RollstepError) = some true) : Txt P K mg :=
  ⟨is_name, condition_words, read_number, are_names, read_numbers, read_positive, read_condition, read_ground_condition, read_row, read_visitor, read_reason, read_course, read_enclosure, read_spoiled, read_answer, row_line, visitor_words, reason_words, course_lines, enclosure_lines, write_answer, law_source, law_draw, law_names, law_number, law_named, law_condition_of, law_spoilt, law_told, law_same, law_some_names, law_some_number, law_some_condition, law_some_rows, law_some_reason, law_some_answer, law_row_line, law_reason_line, law_written, law_row_of, law_reason_of, law_read_course, law_read_enclosure, law_read, law_call, law_agrees, law, m_len, m_int, m_str, m_tuple, m_list, m_all, m_isinstance, m_range, m_zip, m_bool, c_LETTERS, c_DIGITS, c_MOST_SIGNS, c_MOST_DIGITS, c_MOST_LINES, xa_BadLine, xi_BadLine, x_BadLine, xa_TooMany, xi_TooMany, x_TooMany, xa_BadName, xa_UnknownName, xa_DoubleName, xa_BadNumber, xa_BadGroups, xa_OtherGround, xa_NeedLoop, xa_BadLog, xa_Refused, xa_NoDeed, xa_RollstepError, n_BadName, n_UnknownName, n_DoubleName, n_BadNumber, n_TooMany, n_BadGroups, n_OtherGround, n_NeedLoop, n_BadLine, n_BadLog, n_Refused, n_NoDeed, n_RollstepError, m_ValueError, k_BadLine, kit_BadLine_BadName, kit_BadLine_UnknownName, kit_BadLine_DoubleName, kit_BadLine_BadNumber, kit_BadLine_TooMany, kit_BadLine_BadGroups, kit_BadLine_OtherGround, kit_BadLine_NeedLoop, kit_BadLine_BadLine, kit_BadLine_BadLog, kit_BadLine_Refused, kit_BadLine_NoDeed, kit_BadLine_ValueError, exm_BadLine, k_TooMany, kit_TooMany_BadName, kit_TooMany_UnknownName, kit_TooMany_DoubleName, kit_TooMany_BadNumber, kit_TooMany_TooMany, kit_TooMany_BadGroups, kit_TooMany_OtherGround, kit_TooMany_NeedLoop, kit_TooMany_BadLine, kit_TooMany_BadLog, kit_TooMany_Refused, kit_TooMany_NoDeed, kit_TooMany_ValueError, exm_TooMany⟩
/-- the law's own promise -/
def spLaw (K : Frag) : Sp := fun vs H Q _ => ∃ (a : Addr) (ns : List Int), vs = [.ref a] ∧ ns.length ≤ 63 ∧ Only H ∧ SqL K H a (ns.map V.int) ∧ ∀ H', Q (.bl true) H'
theorem law_fn {l : PySem.W.OpenLaw} {w : World} {K : Frag} {h : Heap} {mg : Str → Option Value} {fa : Addr} (X : K.In h) (G : h.Ns mainGlobals mg) (hfa : mg "law" = some (.ref fa)) (T : Txt l.prog K mg) :
    ∃ fd : FuncData, (∀ (s : Shared) (v : Value), BindsTo s fd ⟨[v], []⟩ [("script", v)]) ∧ ∀ base : Heap, K.In base → base.Ns mainGlobals mg → FnOk l.prog w K mg base (L2N.CX l.prog w) 32 fa fd ["script"] (spLaw K) := by
  have e := hfa.symm.trans T.law.g
  cases e
  obtain ⟨oc, od, kV, doc, pm, an, cdv, ct, osl, e, lk, hcd⟩ := T.law.F.ex
  refine ⟨T.law.d, fun s v => by rw [e]; exact .of_eq rfl, fun base _ _ => ?_⟩
  have G := ok_law (P := l.prog) (w := w) (base := base) T
  refine ⟨fun vs H Q E hs => by obtain ⟨a, ns, rfl, _⟩ := hs; rfl, fun A outer s H args us vs Q E hr he hb hv hs => G.run A outer s H args us vs Q E hr he hb hv ?_⟩
  obtain ⟨a, ns, rfl, hl, hO, hS, hQ⟩ := hs
  obtain ⟨M, hM⟩ := law_true ns hl
  refine ⟨rfl, ⟨H, [], [], H⟩, [.scr ns], rfl, ⟨Evl.Ex.refl _, rfl, List.nodup_nil, fun k l q => by simp at q, fun a m => by simp at m⟩, .cons (.scr hS (by unfold LIM; omega)) .nil, ?_⟩
  rw [hM]
  intro S' _ _ _ v hv
  cases hv.1
  exact hQ _
end K58
open PySem PySem.W PyProof.Rows
set_option maxHeartbeats 0 in
theorem PySem.Challenge.cw_rollstep_k58_answer_texts_holds : PySem.Challenge.rw_rollstep_k58_answer_texts.Holds := by
  w_on; o_law; k_head; (case hw => w_witness2)
  k_fill
  refine L2.walk_of (l := PySem.Challenge.rw_rollstep_k58_answer_texts) (n := 63) (k := 32) (x := "script") (CX := fun w => L2N.CX PySem.Challenge.rw_rollstep_k58_answer_texts.prog w) (sp := fun w => K58.spLaw _) rfl (by decide) rfl ⟨rfl, by decide, by decide⟩ (fun w h Y => PySem.W.kIn_of Y) ?F (fun _ _ a ns hl hO hS => ⟨a, ns, rfl, hl, hO, hS, fun _ => rfl⟩) (fun _ _ _ _ _ h => by
    obtain ⟨_, _, _, _, _, _, _, _, _, _, _, _, z⟩ := h
    exact z)
  case F =>
    intro w mg fa h KX G hmg0
    have hmg : mg "law" = some (.ref fa) := hmg0
    clear hmg0
    refine' K58.law_fn (l := PySem.Challenge.rw_rollstep_k58_answer_texts) KX G hmg (K58.mkTxt (n_BadName := (PySem.W.mg_of KX G ?h1))
      (n_UnknownName := (PySem.W.mg_of KX G ?h2))
      (n_DoubleName := (PySem.W.mg_of KX G ?h3))
      (n_BadNumber := (PySem.W.mg_of KX G ?h4))
      (n_TooMany := (PySem.W.mg_of KX G ?h5))
      (n_BadGroups := (PySem.W.mg_of KX G ?h6))
      (n_OtherGround := (PySem.W.mg_of KX G ?h7))
      (n_NeedLoop := (PySem.W.mg_of KX G ?h8))
      (n_BadLine := (PySem.W.mg_of KX G ?h9))
      (n_BadLog := (PySem.W.mg_of KX G ?h10))
      (n_Refused := (PySem.W.mg_of KX G ?h11))
      (n_NoDeed := (PySem.W.mg_of KX G ?h12))
      (n_RollstepError := (PySem.W.mg_of KX G ?h13))
      (is_name := (K58.ft_mk KX G ?h14 ?h15 ?h16 ?h17 (fun _ _ _ _ _ _ us hl => match us, hl with | [_], _ => rfl)))
      (condition_words := (K58.ft_mk KX G ?h18 ?h19 ?h20 ?h21 (fun _ _ _ _ _ _ us hl => match us, hl with | [_], _ => rfl)))
      (read_number := (K58.ft_mk KX G ?h22 ?h23 ?h24 ?h25 (fun _ _ _ _ _ _ us hl => match us, hl with | [_], _ => rfl)))
      (are_names := (K58.ft_mk KX G ?h26 ?h27 ?h28 ?h29 (fun _ _ _ _ _ _ us hl => match us, hl with | [_], _ => rfl)))
      (read_numbers := (K58.ft_mk KX G ?h30 ?h31 ?h32 ?h33 (fun _ _ _ _ _ _ us hl => match us, hl with | [_], _ => rfl)))
      (read_positive := (K58.ft_mk KX G ?h34 ?h35 ?h36 ?h37 (fun _ _ _ _ _ _ us hl => match us, hl with | [_], _ => rfl)))
      (read_condition := (K58.ft_mk KX G ?h38 ?h39 ?h40 ?h41 (fun _ _ _ _ _ _ us hl => match us, hl with | [_], _ => rfl)))
      (read_ground_condition := (K58.ft_mk KX G ?h42 ?h43 ?h44 ?h45 (fun _ _ _ _ _ _ us hl => match us, hl with | [_], _ => rfl)))
      (read_row := (K58.ft_mk KX G ?h46 ?h47 ?h48 ?h49 (fun _ _ _ _ _ _ us hl => match us, hl with | [_], _ => rfl)))
      (read_visitor := (K58.ft_mk KX G ?h50 ?h51 ?h52 ?h53 (fun _ _ _ _ _ _ us hl => match us, hl with | [_], _ => rfl)))
      (read_reason := (K58.ft_mk KX G ?h54 ?h55 ?h56 ?h57 (fun _ _ _ _ _ _ us hl => match us, hl with | [_], _ => rfl)))
      (read_course := (K58.ft_mk KX G ?h58 ?h59 ?h60 ?h61 (fun _ _ _ _ _ _ us hl => match us, hl with | [_], _ => rfl)))
      (read_enclosure := (K58.ft_mk KX G ?h62 ?h63 ?h64 ?h65 (fun _ _ _ _ _ _ us hl => match us, hl with | [_], _ => rfl)))
      (read_spoiled := (K58.ft_mk KX G ?h66 ?h67 ?h68 ?h69 (fun _ _ _ _ _ _ us hl => match us, hl with | [_], _ => rfl)))
      (read_answer := (K58.ft_mk KX G ?h70 ?h71 ?h72 ?h73 (fun _ _ _ _ _ _ us hl => match us, hl with | [_], _ => rfl)))
      (row_line := (K58.ft_mk KX G ?h74 ?h75 ?h76 ?h77 (fun _ _ _ _ _ _ us hl => match us, hl with | [_], _ => rfl)))
      (visitor_words := (K58.ft_mk KX G ?h78 ?h79 ?h80 ?h81 (fun _ _ _ _ _ _ us hl => match us, hl with | [_], _ => rfl)))
      (reason_words := (K58.ft_mk KX G ?h82 ?h83 ?h84 ?h85 (fun _ _ _ _ _ _ us hl => match us, hl with | [_], _ => rfl)))
      (course_lines := (K58.ft_mk KX G ?h86 ?h87 ?h88 ?h89 (fun _ _ _ _ _ _ us hl => match us, hl with | [_, _, _], _ => rfl)))
      (enclosure_lines := (K58.ft_mk KX G ?h90 ?h91 ?h92 ?h93 (fun _ _ _ _ _ _ us hl => match us, hl with | [_], _ => rfl)))
      (write_answer := (K58.ft_mk KX G ?h94 ?h95 ?h96 ?h97 (fun _ _ _ _ _ _ us hl => match us, hl with | [_], _ => rfl)))
      (law_source := (K58.ft_mk KX G ?h98 ?h99 ?h100 ?h101 (fun _ _ _ _ _ _ us hl => match us, hl with | [_], _ => rfl)))
      (law_draw := (K58.ft_mk KX G ?h102 ?h103 ?h104 ?h105 (fun _ _ _ _ _ _ us hl => match us, hl with | [_, _], _ => rfl)))
      (law_names := (K58.ft_mk KX G ?h106 ?h107 ?h108 ?h109 (fun _ _ _ _ _ _ us hl => match us, hl with | [_, _], _ => rfl)))
      (law_number := (K58.ft_mk KX G ?h110 ?h111 ?h112 ?h113 (fun _ _ _ _ _ _ us hl => match us, hl with | [_], _ => rfl)))
      (law_named := (K58.ft_mk KX G ?h114 ?h115 ?h116 ?h117 (fun _ _ _ _ _ _ us hl => match us, hl with | [_], _ => rfl)))
      (law_condition_of := (K58.ft_mk KX G ?h118 ?h119 ?h120 ?h121 (fun _ _ _ _ _ _ us hl => match us, hl with | [_], _ => rfl)))
      (law_spoilt := (K58.ft_mk KX G ?h122 ?h123 ?h124 ?h125 (fun _ _ _ _ _ _ us hl => match us, hl with | [_, _], _ => rfl)))
      (law_told := (K58.ft_mk KX G ?h126 ?h127 ?h128 ?h129 (fun _ _ _ _ _ _ us hl => match us, hl with | [_], _ => rfl)))
      (law_same := (K58.ft_mk KX G ?h130 ?h131 ?h132 ?h133 (fun _ _ _ _ _ _ us hl => match us, hl with | [_, _], _ => rfl)))
      (law_some_names := (K58.ft_mk KX G ?h134 ?h135 ?h136 ?h137 (fun _ _ _ _ _ _ us hl => match us, hl with | [_, _], _ => rfl)))
      (law_some_number := (K58.ft_mk KX G ?h138 ?h139 ?h140 ?h141 (fun _ _ _ _ _ _ us hl => match us, hl with | [_], _ => rfl)))
      (law_some_condition := (K58.ft_mk KX G ?h142 ?h143 ?h144 ?h145 (fun _ _ _ _ _ _ us hl => match us, hl with | [_], _ => rfl)))
      (law_some_rows := (K58.ft_mk KX G ?h146 ?h147 ?h148 ?h149 (fun _ _ _ _ _ _ us hl => match us, hl with | [_], _ => rfl)))
      (law_some_reason := (K58.ft_mk KX G ?h150 ?h151 ?h152 ?h153 (fun _ _ _ _ _ _ us hl => match us, hl with | [_, _], _ => rfl)))
      (law_some_answer := (K58.ft_mk KX G ?h154 ?h155 ?h156 ?h157 (fun _ _ _ _ _ _ us hl => match us, hl with | [_], _ => rfl)))
      (law_row_line := (K58.ft_mk KX G ?h158 ?h159 ?h160 ?h161 (fun _ _ _ _ _ _ us hl => match us, hl with | [_], _ => rfl)))
      (law_reason_line := (K58.ft_mk KX G ?h162 ?h163 ?h164 ?h165 (fun _ _ _ _ _ _ us hl => match us, hl with | [_], _ => rfl)))
      (law_written := (K58.ft_mk KX G ?h166 ?h167 ?h168 ?h169 (fun _ _ _ _ _ _ us hl => match us, hl with | [_], _ => rfl)))
      (law_row_of := (K58.ft_mk KX G ?h170 ?h171 ?h172 ?h173 (fun _ _ _ _ _ _ us hl => match us, hl with | [_], _ => rfl)))
      (law_reason_of := (K58.ft_mk KX G ?h174 ?h175 ?h176 ?h177 (fun _ _ _ _ _ _ us hl => match us, hl with | [_], _ => rfl)))
      (law_read_course := (K58.ft_mk KX G ?h178 ?h179 ?h180 ?h181 (fun _ _ _ _ _ _ us hl => match us, hl with | [_], _ => rfl)))
      (law_read_enclosure := (K58.ft_mk KX G ?h182 ?h183 ?h184 ?h185 (fun _ _ _ _ _ _ us hl => match us, hl with | [_], _ => rfl)))
      (law_read := (K58.ft_mk KX G ?h186 ?h187 ?h188 ?h189 (fun _ _ _ _ _ _ us hl => match us, hl with | [_], _ => rfl)))
      (law_call := (K58.ft_mk KX G ?h190 ?h191 ?h192 ?h193 (fun _ _ _ _ _ _ us hl => match us, hl with | [_], _ => rfl)))
      (law_agrees := (K58.ft_mk KX G ?h194 ?h195 ?h196 ?h197 (fun _ _ _ _ _ _ us hl => match us, hl with | [_], _ => rfl)))
      (law := (K58.ft_mk KX G ?h198 ?h199 ?h200 ?h201 (fun _ _ _ _ _ _ us hl => match us, hl with | [_], _ => rfl)))
      (m_len := (PySem.W.mg_none_of KX G ?h202))
      (m_int := (PySem.W.mg_none_of KX G ?h203))
      (m_str := (PySem.W.mg_none_of KX G ?h204))
      (m_tuple := (PySem.W.mg_none_of KX G ?h205))
      (m_list := (PySem.W.mg_none_of KX G ?h206))
      (m_all := (PySem.W.mg_none_of KX G ?h207))
      (m_isinstance := (PySem.W.mg_none_of KX G ?h208))
      (m_range := (PySem.W.mg_none_of KX G ?h209))
      (m_zip := (PySem.W.mg_none_of KX G ?h210))
      (m_bool := (PySem.W.mg_none_of KX G ?h211))
      (m_ValueError := (PySem.W.mg_none_of KX G ?h212))
      (c_LETTERS := (K58.c_ex (PySem.W.mg_of KX G ?h213)))
      (c_DIGITS := (K58.c_ex (PySem.W.mg_of KX G ?h214)))
      (c_MOST_SIGNS := (K58.c_ex (PySem.W.mg_of KX G ?h215)))
      (c_MOST_DIGITS := (K58.c_ex (PySem.W.mg_of KX G ?h216)))
      (c_MOST_LINES := (K58.c_ex (PySem.W.mg_of KX G ?h217)))
      (x_BadLine := { gC := (PySem.W.mg_of KX G ?h219), cls := (K58.sup_cls ?h220 ?h221), sa := ?h222, ga := ?h223, gg := ?h224, noN := ?h225, iC := ?h218, tC := ?h226, kC := ?h227, exC := ?h228, veC := ?h229, tyC := ?h230, hdC := ?h231, sup := ?h232, seC := ?h233, opq := ?h234, noS := (PySem.W.mg_none_of KX G ?h235), top := ?h236, fn := (K58.sup_fn (p := ⟨⟨46, 17, 46, 21⟩, ⟨46, 23, 46, 27⟩, ⟨47, 8, 47, 13⟩, ⟨47, 8, 47, 15⟩, ⟨47, 8, 47, 24⟩, ⟨47, 25, 47, 48⟩, ⟨47, 8, 47, 49⟩, ⟨47, 8, 47, 49⟩, ⟨48, 8, 48, 12⟩, ⟨48, 8, 48, 17⟩, ⟨48, 20, 48, 24⟩, ⟨48, 8, 48, 24⟩⟩) (m := "a line cannot be read") ?h237 ?h238 ?h239 ?h240 ?h241 ?h242 ⟨_, fun _ => rfl⟩) })
      (k_BadLine := ⟨?h243, ?h244, ?h245, ?h246, ?h247, ?h248, ?h249, ?h250, ?h251⟩)
      (kit_BadLine_BadName := ?h252)
      (kit_BadLine_UnknownName := ?h253)
      (kit_BadLine_DoubleName := ?h254)
      (kit_BadLine_BadNumber := ?h255)
      (kit_BadLine_TooMany := ?h256)
      (kit_BadLine_BadGroups := ?h257)
      (kit_BadLine_OtherGround := ?h258)
      (kit_BadLine_NeedLoop := ?h259)
      (kit_BadLine_BadLine := ?h260)
      (kit_BadLine_BadLog := ?h261)
      (kit_BadLine_Refused := ?h262)
      (kit_BadLine_NoDeed := ?h263)
      (kit_BadLine_ValueError := ?h264)
      (exm_BadLine := (PySem.W.exm_ref ?h265 ?h266 ?h267 ?h268))
      (x_TooMany := { gC := (PySem.W.mg_of KX G ?h270), cls := (K58.sup_cls ?h271 ?h272), sa := ?h273, ga := ?h274, gg := ?h275, noN := ?h276, iC := ?h269, tC := ?h277, kC := ?h278, exC := ?h279, veC := ?h280, tyC := ?h281, hdC := ?h282, sup := ?h283, seC := ?h284, opq := ?h285, noS := (PySem.W.mg_none_of KX G ?h286), top := ?h287, fn := (K58.sup_fn (p := ⟨⟨26, 17, 26, 21⟩, ⟨26, 23, 26, 28⟩, ⟨27, 8, 27, 13⟩, ⟨27, 8, 27, 15⟩, ⟨27, 8, 27, 24⟩, ⟨27, 25, 27, 63⟩, ⟨27, 8, 27, 64⟩, ⟨27, 8, 27, 64⟩, ⟨28, 8, 28, 12⟩, ⟨28, 8, 28, 18⟩, ⟨28, 21, 28, 26⟩, ⟨28, 8, 28, 26⟩⟩) (m := "there are more things than the limit") ?h288 ?h289 ?h290 ?h291 ?h292 ?h293 ⟨_, fun _ => rfl⟩) })
      (k_TooMany := ⟨?h294, ?h295, ?h296, ?h297, ?h298, ?h299, ?h300, ?h301, ?h302⟩)
      (kit_TooMany_BadName := ?h303)
      (kit_TooMany_UnknownName := ?h304)
      (kit_TooMany_DoubleName := ?h305)
      (kit_TooMany_BadNumber := ?h306)
      (kit_TooMany_TooMany := ?h307)
      (kit_TooMany_BadGroups := ?h308)
      (kit_TooMany_OtherGround := ?h309)
      (kit_TooMany_NeedLoop := ?h310)
      (kit_TooMany_BadLine := ?h311)
      (kit_TooMany_BadLog := ?h312)
      (kit_TooMany_Refused := ?h313)
      (kit_TooMany_NoDeed := ?h314)
      (kit_TooMany_ValueError := ?h315)
      (exm_TooMany := (PySem.W.exm_ref ?h316 ?h317 ?h318 ?h319)))
    (case h1 => (k_is))
    (case h2 => (k_is))
    (case h3 => (k_is))
    (case h4 => (k_is))
    (case h5 => (k_is))
    (case h6 => (k_is))
    (case h7 => (k_is))
    (case h8 => (k_is))
    (case h9 => (k_is))
    (case h10 => (k_is))
    (case h11 => (k_is))
    (case h12 => (k_is))
    (case h13 => (k_is))
    (case h14 => (k_is))
    (case h15 => (k_is))
    (case h16 => (k_is))
    (case h17 => (k_is))
    (case h18 => (k_is))
    (case h19 => (k_is))
    (case h20 => (k_is))
    (case h21 => (k_is))
    (case h22 => (k_is))
    (case h23 => (k_is))
    (case h24 => (k_is))
    (case h25 => (k_is))
    (case h26 => (k_is))
    (case h27 => (k_is))
    (case h28 => (k_is))
    (case h29 => (k_is))
    (case h30 => (k_is))
    (case h31 => (k_is))
    (case h32 => (k_is))
    (case h33 => (k_is))
    (case h34 => (k_is))
    (case h35 => (k_is))
    (case h36 => (k_is))
    (case h37 => (k_is))
    (case h38 => (k_is))
    (case h39 => (k_is))
    (case h40 => (k_is))
    (case h41 => (k_is))
    (case h42 => (k_is))
    (case h43 => (k_is))
    (case h44 => (k_is))
    (case h45 => (k_is))
    (case h46 => (k_is))
    (case h47 => (k_is))
    (case h48 => (k_is))
    (case h49 => (k_is))
    (case h50 => (k_is))
    (case h51 => (k_is))
    (case h52 => (k_is))
    (case h53 => (k_is))
    (case h54 => (k_is))
    (case h55 => (k_is))
    (case h56 => (k_is))
    (case h57 => (k_is))
    (case h58 => (k_is))
    (case h59 => (k_is))
    (case h60 => (k_is))
    (case h61 => (k_is))
    (case h62 => (k_is))
    (case h63 => (k_is))
    (case h64 => (k_is))
    (case h65 => (k_is))
    (case h66 => (k_is))
    (case h67 => (k_is))
    (case h68 => (k_is))
    (case h69 => (k_is))
    (case h70 => (k_is))
    (case h71 => (k_is))
    (case h72 => (k_is))
    (case h73 => (k_is))
    (case h74 => (k_is))
    (case h75 => (k_is))
    (case h76 => (k_is))
    (case h77 => (k_is))
    (case h78 => (k_is))
    (case h79 => (k_is))
    (case h80 => (k_is))
    (case h81 => (k_is))
    (case h82 => (k_is))
    (case h83 => (k_is))
    (case h84 => (k_is))
    (case h85 => (k_is))
    (case h86 => (k_is))
    (case h87 => (k_is))
    (case h88 => (k_is))
    (case h89 => (k_is))
    (case h90 => (k_is))
    (case h91 => (k_is))
    (case h92 => (k_is))
    (case h93 => (k_is))
    (case h94 => (k_is))
    (case h95 => (k_is))
    (case h96 => (k_is))
    (case h97 => (k_is))
    (case h98 => (k_is))
    (case h99 => (k_is))
    (case h100 => (k_is))
    (case h101 => (k_is))
    (case h102 => (k_is))
    (case h103 => (k_is))
    (case h104 => (k_is))
    (case h105 => (k_is))
    (case h106 => (k_is))
    (case h107 => (k_is))
    (case h108 => (k_is))
    (case h109 => (k_is))
    (case h110 => (k_is))
    (case h111 => (k_is))
    (case h112 => (k_is))
    (case h113 => (k_is))
    (case h114 => (k_is))
    (case h115 => (k_is))
    (case h116 => (k_is))
    (case h117 => (k_is))
    (case h118 => (k_is))
    (case h119 => (k_is))
    (case h120 => (k_is))
    (case h121 => (k_is))
    (case h122 => (k_is))
    (case h123 => (k_is))
    (case h124 => (k_is))
    (case h125 => (k_is))
    (case h126 => (k_is))
    (case h127 => (k_is))
    (case h128 => (k_is))
    (case h129 => (k_is))
    (case h130 => (k_is))
    (case h131 => (k_is))
    (case h132 => (k_is))
    (case h133 => (k_is))
    (case h134 => (k_is))
    (case h135 => (k_is))
    (case h136 => (k_is))
    (case h137 => (k_is))
    (case h138 => (k_is))
    (case h139 => (k_is))
    (case h140 => (k_is))
    (case h141 => (k_is))
    (case h142 => (k_is))
    (case h143 => (k_is))
    (case h144 => (k_is))
    (case h145 => (k_is))
    (case h146 => (k_is))
    (case h147 => (k_is))
    (case h148 => (k_is))
    (case h149 => (k_is))
    (case h150 => (k_is))
    (case h151 => (k_is))
    (case h152 => (k_is))
    (case h153 => (k_is))
    (case h154 => (k_is))
    (case h155 => (k_is))
    (case h156 => (k_is))
    (case h157 => (k_is))
    (case h158 => (k_is))
    (case h159 => (k_is))
    (case h160 => (k_is))
    (case h161 => (k_is))
    (case h162 => (k_is))
    (case h163 => (k_is))
    (case h164 => (k_is))
    (case h165 => (k_is))
    (case h166 => (k_is))
    (case h167 => (k_is))
    (case h168 => (k_is))
    (case h169 => (k_is))
    (case h170 => (k_is))
    (case h171 => (k_is))
    (case h172 => (k_is))
    (case h173 => (k_is))
    (case h174 => (k_is))
    (case h175 => (k_is))
    (case h176 => (k_is))
    (case h177 => (k_is))
    (case h178 => (k_is))
    (case h179 => (k_is))
    (case h180 => (k_is))
    (case h181 => (k_is))
    (case h182 => (k_is))
    (case h183 => (k_is))
    (case h184 => (k_is))
    (case h185 => (k_is))
    (case h186 => (k_is))
    (case h187 => (k_is))
    (case h188 => (k_is))
    (case h189 => (k_is))
    (case h190 => (k_is))
    (case h191 => (k_is))
    (case h192 => (k_is))
    (case h193 => (k_is))
    (case h194 => (k_is))
    (case h195 => (k_is))
    (case h196 => (k_is))
    (case h197 => (k_is))
    (case h198 => (k_is))
    (case h199 => (k_is))
    (case h200 => (k_is))
    (case h201 => (k_is))
    (case h202 => (k_is))
    (case h203 => (k_is))
    (case h204 => (k_is))
    (case h205 => (k_is))
    (case h206 => (k_is))
    (case h207 => (k_is))
    (case h208 => (k_is))
    (case h209 => (k_is))
    (case h210 => (k_is))
    (case h211 => (k_is))
    (case h212 => (k_is))
    (case h213 => (k_is))
    (case h214 => (k_is))
    (case h215 => (k_is))
    (case h216 => (k_is))
    (case h217 => (k_is))
    (case h218 => (k_is))
    (case h219 => (k_is))
    (case h220 => (k_is))
    (case h221 => (decide +kernel))
    (case h222 => (k_is))
    (case h223 => (k_is))
    (case h224 => (k_is))
    (case h225 => (k_is))
    (case h226 => (k_is))
    (case h227 => (k_is))
    (case h228 => (k_is))
    (case h229 => (k_is))
    (case h230 => (k_is))
    (case h231 => (k_is))
    (case h232 => (ks_is))
    (case h233 => (k_is))
    (case h234 => (k_is))
    (case h235 => (k_is))
    (case h236 => (first | rfl | decide +kernel))
    (case h237 => (k_is))
    (case h238 => (k_is))
    (case h239 => (k_is))
    (case h240 => (k_is))
    (case h241 => (rfl))
    (case h242 => (first | rfl | decide +kernel))
    (case h243 => ((show PySem.W.isClsIn _ _ = true); k_is))
    (case h244 => (k_is))
    (case h245 => (k_is))
    (case h246 => (k_is))
    (case h247 => (k_is))
    (case h248 => (k_is))
    (case h249 => (k_is))
    (case h250 => (k_is))
    (case h251 => (k_is))
    (case h252 => (kit_is))
    (case h253 => (kit_is))
    (case h254 => (kit_is))
    (case h255 => (kit_is))
    (case h256 => (kit_is))
    (case h257 => (kit_is))
    (case h258 => (kit_is))
    (case h259 => (kit_is))
    (case h260 => (kit_is))
    (case h261 => (kit_is))
    (case h262 => (kit_is))
    (case h263 => (kit_is))
    (case h264 => (kit_is))
    (case h265 => (k_is))
    (case h266 => (k_is))
    (case h267 => (k_is))
    (case h268 => (k_is))
    (case h269 => (k_is))
    (case h270 => (k_is))
    (case h271 => (k_is))
    (case h272 => (decide +kernel))
    (case h273 => (k_is))
    (case h274 => (k_is))
    (case h275 => (k_is))
    (case h276 => (k_is))
    (case h277 => (k_is))
    (case h278 => (k_is))
    (case h279 => (k_is))
    (case h280 => (k_is))
    (case h281 => (k_is))
    (case h282 => (k_is))
    (case h283 => (ks_is))
    (case h284 => (k_is))
    (case h285 => (k_is))
    (case h286 => (k_is))
    (case h287 => (first | rfl | decide +kernel))
    (case h288 => (k_is))
    (case h289 => (k_is))
    (case h290 => (k_is))
    (case h291 => (k_is))
    (case h292 => (rfl))
    (case h293 => (first | rfl | decide +kernel))
    (case h294 => ((show PySem.W.isClsIn _ _ = true); k_is))
    (case h295 => (k_is))
    (case h296 => (k_is))
    (case h297 => (k_is))
    (case h298 => (k_is))
    (case h299 => (k_is))
    (case h300 => (k_is))
    (case h301 => (k_is))
    (case h302 => (k_is))
    (case h303 => (kit_is))
    (case h304 => (kit_is))
    (case h305 => (kit_is))
    (case h306 => (kit_is))
    (case h307 => (kit_is))
    (case h308 => (kit_is))
    (case h309 => (kit_is))
    (case h310 => (kit_is))
    (case h311 => (kit_is))
    (case h312 => (kit_is))
    (case h313 => (kit_is))
    (case h314 => (kit_is))
    (case h315 => (kit_is))
    (case h316 => (k_is))
    (case h317 => (k_is))
    (case h318 => (k_is))
    (case h319 => (k_is))
