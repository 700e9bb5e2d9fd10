import PyProof.Rows.All
import PySem.Challenge.RW_formsforall_k81_rules_that_hold
import Wide.All
import OpenK.AllK
import Wide.FinOn
import HandS.ForMost
import HandS.ForExc
import HandS.Style
import HandS.Iter
import HandS.Wide
import HandS.Deep
import HandS.IsInst
import HandS.SortInts
import HandS.ReplaceLit
import HandS.ReplaceList
import HandS.SortOrd
import HandS.Sort
import KE.SortData
import HandS.WordsExc
set_option Elab.async false
set_option linter.all false
set_option maxRecDepth 100000
set_option maxHeartbeats 4000000
/-! the value layer: data without addresses, its place in the heap, the state of a def -/
namespace Vl
open PySem PySem.Spec PyProof.Rows L2

/-! ### data -/
inductive D where
  | non | bl (b : Bool) | int (i : Int) | str (s : List Nat)
  | lst (xs : List D) | tup (xs : List D)
  | dic (ks : List (Key × D)) | dit (ks : List (List Key × D))
  | obj (c : Str) (fs : List (Str × D))
  | fn (n : Str)
  /-- the law's script -/
  | scr (ns : List Int)
  /-- a built-in class -/
  | ty (n : String)

structure Exn where
  cls : Str
  arg : Option (Str × D)
inductive Res (α : Type) where
  | ok (a : α) | exc (x : Exn) | no
namespace Res
def bind {α β : Type} (r : Res α) (f : α → Res β) : Res β := match r with
  | .ok a => f a
  | .exc x => .exc x
  | .no => .no
theorem bind_ok {α β : Type} (a : α) (f : α → Res β) : (Res.ok a).bind f = f a := rfl
end Res

/-- a text of the program: its signs are code points, its length is within the line -/
def okS (s : List Nat) : Bool := s.all (fun c => decide (c < 1114112)) && decide (s.length ≤ sizeLine)
def toS (s : List Nat) : Str := ⟨s.toArray⟩

structure Wd where
  K : PySem.W.Frag
  mg : Str → Option Value

/-! ### where data stands -/
mutual
inductive Rep (W : Wd) (I : Hp) : V → D → Prop
  | non : Rep W I .non .non
  | bl (b : Bool) : Rep W I (.bl b) (.bl b)
  | int (i : Int) : Rep W I (.int i) (.int i)
  | str (s : List Nat) : okS s = true → Rep W I (.str (toS s)) (.str s)
  | lst {a : Addr} {xs : List V} {ds : List D} : I a = some (.lst xs) → ds.length ≤ sizeLine → Reps W I xs ds → Rep W I (.ref a) (.lst ds)
  | tup {a : Addr} {xs : List V} {ds : List D} : SqT W.K I a xs → ds.length ≤ sizeLine → Reps W I xs ds → Rep W I (.ref a) (.tup ds)
  | dic {a : Addr} {xs : List (Key × V)} {ds : List (Key × D)} : I a = some (.dK xs) → xs.map (·.1) = ds.map (·.1) → Reps W I (xs.map (·.2)) (ds.map (·.2)) → Rep W I (.ref a) (.dic ds)
  | dit {a : Addr} {xs : List (List Key × V)} {ds : List (List Key × D)} : I a = some (.dT xs) → xs.map (·.1) = ds.map (·.1) → Reps W I (xs.map (·.2)) (ds.map (·.2)) → Rep W I (.ref a) (.dit ds)
  | obj {c : Str} {a C dx : Addr} {xs : List (Str × V)} {ds : List (Str × D)} : W.mg c = some (.ref C) → I a = some (.ins C dx xs) → xs.map (·.1) = ds.map (·.1) → Reps W I (xs.map (·.2)) (ds.map (·.2)) → Rep W I (.ref a) (.obj c ds)
  | fn {n : Str} {f : Addr} : W.mg n = some (.ref f) → Rep W I (.ref f) (.fn n)
  | scr {a : Addr} {ns : List Int} : SqL W.K I a (ns.map V.int) → Rep W I (.ref a) (.scr ns)
  | ty (n : String) : Rep W I (.ty n) (.ty n)
inductive Reps (W : Wd) (I : Hp) : List V → List D → Prop
  | nil : Reps W I [] []
  | cons {v : V} {vs : List V} {d : D} {ds : List D} : Rep W I v d → Reps W I vs ds → Reps W I (v :: vs) (d :: ds)
end

theorem sqL_mono {K : PySem.W.Frag} {I I' : Hp} (h : Same I I') {a : Addr} {xs : List V} (q : SqL K I a xs) : SqL K I' a xs := h.seq q
theorem sqT_mono {K : PySem.W.Frag} {I I' : Hp} (h : Same I I') {a : Addr} {xs : List V} (q : SqT K I a xs) : SqT K I' a xs := by
  rcases q with (q | ⟨o, q⟩) | q
  · exact .inl (.inl (h _ _ q))
  · exact .inl (.inr ⟨o, h _ _ q⟩)
  · exact .inr q
mutual
theorem Rep.mono {W : Wd} {I I' : Hp} (h : Same I I') : ∀ {v : V} {d : D}, Rep W I v d → Rep W I' v d
  | _, _, .non => .non
  | _, _, .bl b => .bl b
  | _, _, .int i => .int i
  | _, _, .str s o => .str s o
  | _, _, .lst q l r => .lst (h _ _ q) l (Reps.mono h r)
  | _, _, .tup q l r => .tup (sqT_mono h q) l (Reps.mono h r)
  | _, _, .dic q l r => .dic (h _ _ q) l (Reps.mono h r)
  | _, _, .dit q l r => .dit (h _ _ q) l (Reps.mono h r)
  | _, _, .obj m q l r => .obj m (h _ _ q) l (Reps.mono h r)
  | _, _, .fn m => .fn m
  | _, _, .scr q => .scr (sqL_mono h q)
  | _, _, .ty n => .ty n
theorem Reps.mono {W : Wd} {I I' : Hp} (h : Same I I') : ∀ {vs : List V} {ds : List D}, Reps W I vs ds → Reps W I' vs ds
  | _, _, .nil => .nil
  | _, _, .cons a b => .cons (Rep.mono h a) (Reps.mono h b)
end
section
variable {W : Wd} {I I' H H' : Hp} {v : V} {d : D} {vs ws : List V} {ds es : List D}
theorem Reps.length : ∀ {vs : List V} {ds : List D}, Reps W I vs ds → vs.length = ds.length
  | _, _, .nil => rfl
  | _, _, .cons _ b => congrArg (· + 1) b.length
theorem Reps.get : ∀ {vs : List V} {ds : List D}, Reps W I vs ds → ∀ {i : Nat} {d : D}, ds[i]? = some d → ∃ v, vs[i]? = some v ∧ Rep W I v d
  | _, _, .nil, i, d, e => by simp at e
  | _, _, .cons a b, 0, d, e => by
    simp at e
    subst e
    exact ⟨_, rfl, a⟩
  | _, _, .cons a b, i + 1, d, e => by
    simp at e
    obtain ⟨v, h1, h2⟩ := b.get e
    exact ⟨v, by simpa using h1, h2⟩
theorem Reps.append : ∀ {vs ws : List V} {ds es : List D}, Reps W I vs ds → Reps W I ws es → Reps W I (vs ++ ws) (ds ++ es)
  | _, _, _, _, .nil, q => q
  | _, _, _, _, .cons a b, q => .cons a (b.append q)
theorem Reps.take : ∀ {vs : List V} {ds : List D} (n : Nat), Reps W I vs ds → Reps W I (vs.take n) (ds.take n)
  | _, _, 0, _ => .nil
  | _, _, _ + 1, .nil => .nil
  | _, _, n + 1, .cons a b => .cons a (b.take n)
theorem Reps.drop : ∀ {vs : List V} {ds : List D} (n : Nat), Reps W I vs ds → Reps W I (vs.drop n) (ds.drop n)
  | _, _, 0, r => r
  | _, _, _ + 1, .nil => .nil
  | _, _, n + 1, .cons _ b => b.drop n
theorem Reps.set : ∀ {vs : List V} {ds : List D} {v : V} {d : D} (i : Nat), Reps W I vs ds → Rep W I v d → Reps W I (vs.set i v) (ds.set i d)
  | _, _, _, _, _, .nil, _ => .nil
  | _, _, _, _, 0, .cons _ b, r => .cons r b
  | _, _, _, _, i + 1, .cons a b, r => .cons a (b.set i r)
theorem Reps.one (r : Rep W I v d) : Reps W I [v] [d] := .cons r .nil
theorem Reps.reverse : ∀ {vs : List V} {ds : List D}, Reps W I vs ds → Reps W I vs.reverse ds.reverse
  | _, _, .nil => .nil
  | _, _, .cons a b => by
    rw [List.reverse_cons, List.reverse_cons]
    exact b.reverse.append (.one a)
end

/-! ### the ghost heap -/
/-- from the frozen part I0 of a heap B to the frozen part I of a later heap H: nothing that stood is changed, what is new in I is new -/
structure Ext (I0 B I H : Hp) : Prop where
  i : Same I0 I
  b : Same B H
  s : Same I H
  n : ∀ a, B a ≠ none → I a = I0 a
theorem Ext.refl {I H : Hp} (h : Same I H) : Ext I H I H := ⟨Same.refl _, Same.refl _, h, fun _ _ => rfl⟩
theorem Ext.trans {I0 B I1 H1 I2 H2 : Hp} (x : Ext I0 B I1 H1) (y : Ext I1 H1 I2 H2) : Ext I0 B I2 H2 where
  i := x.i.trans y.i
  b := x.b.trans y.b
  s := y.s
  n := fun a h => by
    cases e : B a with
    | none => exact absurd e h
    | some o => exact (y.n a (by rw [x.b a o e]; simp)).trans (x.n a h)
theorem same_upd_new {H : Hp} {a : Addr} {o : HO} (n : H a = none) : Same H (upd H a o) := fun b u h => by
  rw [upd_ne (ne_of_none h n)]
  exact h
theorem Same.none {H H' : Hp} (h : Same H H') {a : Addr} (n : H' a = none) : H a = none := h.free n
/-- a new frozen object -/
theorem Ext.new {I H : Hp} (s : Same I H) {a : Addr} {o : HO} (n : H a = none) : Ext I H (upd I a o) (upd H a o) where
  i := same_upd_new (Same.none s n)
  b := same_upd_new n
  s := fun b u h => by
    by_cases e : b = a
    · subst e
      rw [upd_same] at h ⊢
      exact h
    · rw [upd_ne e] at h ⊢
      exact s _ _ h
  n := fun b h => by
    have e : b ≠ a := fun z => by
      subst z
      exact h n
    rw [upd_ne e]
/-- a new object that is not frozen -/
theorem Ext.fresh {I H : Hp} (s : Same I H) {a : Addr} {o : HO} (n : H a = Option.none) : Ext I H I (upd H a o) where
  i := Same.refl _
  b := same_upd_new n
  s := s.trans (same_upd_new n)
  n := fun _ _ => rfl

/-! ### slots -/
inductive Fl where
  | un | frz | own | bor
  deriving DecidableEq, Repr
abbrev Env := List (Option D)

/-- the object at a, not frozen itself, holds frozen parts -/
def Top (W : Wd) (I : Hp) (o : HO) : D → Prop
  | .lst ds => ∃ xs, o = .lst xs ∧ ds.length ≤ sizeLine ∧ Reps W I xs ds
  | .dic ds => ∃ xs, o = .dK xs ∧ xs.map (·.1) = ds.map (·.1) ∧ Reps W I (xs.map (·.2)) (ds.map (·.2))
  | .dit ds => ∃ xs, o = .dT xs ∧ xs.map (·.1) = ds.map (·.1) ∧ Reps W I (xs.map (·.2)) (ds.map (·.2))
  | _ => False
theorem Top.mono {W : Wd} {I I' : Hp} (h : Same I I') {o : HO} {d : D} (t : Top W I o d) : Top W I' o d := by
  cases d <;> first | exact t.elim | skip
  · obtain ⟨xs, e, l, r⟩ := t
    exact ⟨xs, e, l, r.mono h⟩
  · obtain ⟨xs, e, l, r⟩ := t
    exact ⟨xs, e, l, r.mono h⟩
  · obtain ⟨xs, e, l, r⟩ := t
    exact ⟨xs, e, l, r.mono h⟩
/-- it is frozen -/
theorem Top.freeze {W : Wd} {I : Hp} {a : Addr} {o : HO} {d : D} (n : I a = none) (t : Top W I o d) : Rep W (upd I a o) (.ref a) d := by
  have m := same_upd_new (o := o) n
  cases d <;> first | exact t.elim | skip
  · obtain ⟨xs, rfl, l, r⟩ := t
    exact .lst upd_same l (r.mono m)
  · obtain ⟨xs, rfl, l, r⟩ := t
    exact .dic upd_same l (r.mono m)
  · obtain ⟨xs, rfl, l, r⟩ := t
    exact .dit upd_same l (r.mono m)
/-- data that is read: frozen, or its top is not -/
def RepB (W : Wd) (I H : Hp) (v : V) (d : D) : Prop := Rep W I v d ∨ ∃ a o, v = .ref a ∧ H a = some o ∧ Top W I o d
theorem RepB.mono {W : Wd} {I I' H H' : Hp} (h : Same I I') (k : Same H H') {v : V} {d : D} (r : RepB W I H v d) : RepB W I' H' v d := by
  rcases r with r | ⟨a, o, e, q, t⟩
  · exact .inl (r.mono h)
  · exact .inr ⟨a, o, e, k _ _ q, t.mono h⟩
/-- frozen; read only; or new since H0 and nobody else's -/
inductive Md where
  | frz | bor | own
  deriving DecidableEq
def RepM (m : Md) (W : Wd) (H0 I H : Hp) (v : V) (d : D) : Prop := match m with
  | .frz => Rep W I v d
  | .bor => RepB W I H v d
  | .own => ∃ a o, v = .ref a ∧ H0 a = none ∧ I a = none ∧ H a = some o ∧ Top W I o d
theorem RepM.b {m : Md} {W : Wd} {H0 I H : Hp} {v : V} {d : D} (r : RepM m W H0 I H v d) : RepB W I H v d := by
  cases m with
  | frz => exact .inl r
  | bor => exact r
  | own =>
    obtain ⟨a, o, e, _, _, h, t⟩ := r
    exact .inr ⟨a, o, e, h, t⟩
theorem RepM.mono {m : Md} {W : Wd} {H0 I I' H H' : Hp} (x : Ext I H I' H') {v : V} {d : D} (r : RepM m W H0 I H v d) : RepM m W H0 I' H' v d := by
  cases m with
  | frz => exact Rep.mono x.i r
  | bor => exact RepB.mono x.i x.b r
  | own =>
    obtain ⟨a, o, e, h0, i, h, t⟩ := r
    exact ⟨a, o, e, h0, (x.n a (by rw [h]; simp)).trans i, x.b _ _ h, t.mono x.i⟩
theorem RepM.anti {m : Md} {W : Wd} {H0 H1 I H : Hp} (x : Same H0 H1) {v : V} {d : D} (r : RepM m W H1 I H v d) : RepM m W H0 I H v d := by
  cases m with
  | frz => exact r
  | bor => exact r
  | own =>
    obtain ⟨a, o, e, h0, i, h, t⟩ := r
    exact ⟨a, o, e, Same.none x h0, i, h, t⟩

theorem RepM.any {m : Md} (hm : m ≠ .own) {W : Wd} {H0 H1 I H : Hp} {v : V} {d : D} (r : RepM m W H0 I H v d) : RepM m W H1 I H v d := by
  cases m with
  | frz => exact r
  | bor => exact r
  | own => exact absurd rfl hm
/-- what a slot holds -/
def SlotOk (W : Wd) (B I H : Hp) (f : Fl) (x : Option (Option V)) (y : Option (Option D)) : Prop := match f with
  | .un => True
  | .frz => ∃ v d, x = some (some v) ∧ y = some (some d) ∧ Rep W I v d
  | .own => ∃ a o d, x = some (some (.ref a)) ∧ y = some (some d) ∧ B a = none ∧ I a = none ∧ H a = some o ∧ Top W I o d
  | .bor => ∃ v d, x = some (some v) ∧ y = some (some d) ∧ RepB W I B v d
def fl (F : List Fl) (i : Nat) : Fl := F.getD i .un
structure SOk (W : Wd) (I0 B : Hp) (F : List Fl) (I H : Hp) (σ : L2.St) (ρ : Env) : Prop where
  x : Ext I0 B I H
  len : σ.length = ρ.length
  lenF : F.length ≤ σ.length
  at_ : ∀ i, SlotOk W B I H (fl F i) σ[i]? ρ[i]?
  dis : ∀ i j a, i ≠ j → fl F i = .own → fl F j = .own → σ[i]? = some (some (V.ref a)) → σ[j]? ≠ some (some (V.ref a))
section
variable {W : Wd} {I0 B I I' H H' : Hp} {F F' : List Fl} {σ : L2.St} {ρ : Env}
theorem SOk.s (S : SOk W I0 B F I H σ ρ) : Same I H := S.x.s
/-- later, nothing of this def's changed -/
theorem SOk.ext (S : SOk W I0 B F I H σ ρ) (x : Ext I H I' H') : SOk W I0 B F I' H' σ ρ := by
  refine ⟨S.x.trans x, S.len, S.lenF, fun i => ?_, S.dis⟩
  have q := S.at_ i
  cases e : fl F i with
  | un => trivial
  | frz =>
    rw [e] at q
    obtain ⟨v, d, h1, h2, r⟩ := q
    exact ⟨v, d, h1, h2, r.mono x.i⟩
  | own =>
    rw [e] at q
    obtain ⟨a, o, d, h1, h2, b1, b2, b3, t⟩ := q
    exact ⟨a, o, d, h1, h2, b1, (x.n a (by rw [b3]; simp)).trans b2, x.b _ _ b3, t.mono x.i⟩
  | bor =>
    rw [e] at q
    obtain ⟨v, d, h1, h2, r⟩ := q
    exact ⟨v, d, h1, h2, r.mono x.i (Same.refl _)⟩
/-- what a slot's word may become -/
def wk : Fl → Fl → Bool
  | _, .un => true
  | .frz, .frz => true
  | .own, .own => true
  | .own, .frz => true
  | .bor, .bor => true
  | .frz, .bor => true
  | _, _ => false
def Wk (F F' : List Fl) : Bool := decide (F'.length ≤ F.length) && (List.range F'.length).all fun i => wk (fl F i) (fl F' i)
theorem Wk.at_ {F F' : List Fl} (h : Wk F F' = true) (i : Nat) : wk (fl F i) (fl F' i) = true := by
  by_cases hi : i < F'.length
  · exact List.all_eq_true.mp (Bool.and_eq_true_iff.mp h).2 i (List.mem_range.mpr hi)
  · have e : fl F' i = .un := by
      unfold fl
      rw [List.getD_eq_getElem?_getD, List.getElem?_eq_none (by omega)]
      rfl
    rw [e]
    cases fl F i <;> rfl
open Classical in
theorem SOk.weak (S : SOk W I0 B F I H σ ρ) (h : Wk F F' = true) : ∃ I', Same I I' ∧ SOk W I0 B F' I' H σ ρ := by
  let P : Addr → Prop := fun b => ∃ i, fl F i = .own ∧ fl F' i = .frz ∧ σ[i]? = some (some (V.ref b))
  have own_at : ∀ i a, fl F i = .own → σ[i]? = some (some (V.ref a)) → ∃ o d, ρ[i]? = some (some d) ∧ B a = none ∧ I a = none ∧ H a = some o ∧ Top W I o d := fun i a e hs => by
    have q := S.at_ i
    rw [e] at q
    obtain ⟨a', o, d, h1, h2, b1, b2, b3, t⟩ := q
    rw [hs] at h1
    have e1 : a = a' := by
      injection h1 with h1
      injection h1 with h1
      injection h1
    subst e1
    exact ⟨o, d, h2, b1, b2, b3, t⟩
  let I' : Hp := fun b => if P b then H b else I b
  have hp : ∀ b, P b → I' b = H b := fun b p => if_pos p
  have hn : ∀ b, ¬ P b → I' b = I b := fun b p => if_neg p
  have m : Same I I' := fun b o e => by
    have np : ¬ P b := fun ⟨i, e1, _, e3⟩ => by
      obtain ⟨_, _, _, _, z, _⟩ := own_at i b e1 e3
      rw [e] at z
      cases z
    rw [hn b np]
    exact e
  refine ⟨I', m, ⟨S.x.i.trans m, S.x.b, fun b o e => ?_, fun b e => ?_⟩, S.len, Nat.le_trans (of_decide_eq_true (Bool.and_eq_true_iff.mp h).1) S.lenF, fun i => ?_, fun i j a hij hi hj => ?_⟩
  · by_cases p : P b
    · rw [hp b p] at e
      exact e
    · rw [hn b p] at e
      exact S.x.s _ _ e
  · have np : ¬ P b := fun ⟨i, e1, _, e3⟩ => by
      obtain ⟨_, _, _, z, _⟩ := own_at i b e1 e3
      exact e z
    rw [hn b np]
    exact S.x.n b e
  · have q := S.at_ i
    have w := Wk.at_ h i
    cases e' : fl F' i with
    | un => trivial
    | frz =>
      rw [e'] at w
      cases e : fl F i with
      | un => rw [e] at w; cases w
      | bor => rw [e] at w; cases w
      | frz =>
        rw [e] at q
        obtain ⟨v, d, h1, h2, r⟩ := q
        exact ⟨v, d, h1, h2, r.mono m⟩
      | own =>
        rw [e] at q
        obtain ⟨a, o, d, h1, h2, b1, b2, b3, t⟩ := q
        have p : P a := ⟨i, e, e', h1⟩
        have ea : I' a = some o := (hp a p).trans b3
        have t' := t.mono m
        refine ⟨_, d, h1, h2, ?_⟩
        cases d <;> first | exact t.elim | skip
        · obtain ⟨xs, rfl, l, r⟩ := t'
          exact .lst ea l r
        · obtain ⟨xs, rfl, l, r⟩ := t'
          exact .dic ea l r
        · obtain ⟨xs, rfl, l, r⟩ := t'
          exact .dit ea l r
    | own =>
      rw [e'] at w
      cases e : fl F i with
      | un => rw [e] at w; cases w
      | bor => rw [e] at w; cases w
      | frz => rw [e] at w; cases w
      | own =>
        rw [e] at q
        obtain ⟨a, o, d, h1, h2, b1, b2, b3, t⟩ := q
        have np : ¬ P a := fun ⟨j, e1, e2, e3⟩ => by
          by_cases hij : i = j
          · subst hij
            rw [e'] at e2
            cases e2
          · exact S.dis i j a hij e e1 h1 e3
        exact ⟨a, o, d, h1, h2, b1, (hn a np).trans b2, b3, t.mono m⟩
    | bor =>
      rw [e'] at w
      cases e : fl F i with
      | un => rw [e] at w; cases w
      | own => rw [e] at w; cases w
      | bor =>
        rw [e] at q
        obtain ⟨v, d, h1, h2, r⟩ := q
        exact ⟨v, d, h1, h2, r.mono m (Same.refl _)⟩
      | frz =>
        rw [e] at q
        obtain ⟨v, d, h1, h2, r⟩ := q
        exact ⟨v, d, h1, h2, .inl (r.mono m)⟩
  · have go : ∀ k, fl F' k = .own → fl F k = .own := fun k e => by
      have w := Wk.at_ h k
      rw [e] at w
      cases z : fl F k <;> rw [z] at w <;> first | rfl | cases w
    exact S.dis i j a hij (go i hi) (go j hj)
end
end Vl
/-! the judgements once more, for states in which some token is out: every rule may use it, every rule keeps it -/
namespace Vl
open PySem PySem.Spec PyProof.Rows L2

theorem nxt {α : Type} {t : Sem α} {Q R : α → Shared → Prop} {M : Model} {A : Around} {E : Value → Shared → Prop} {s : Shared} (h0 : 0 < s.toks) (h : wpAny M A t Q E s) (k : ∀ a s', 0 < s'.toks → Q a s' → R a s') : wpAny M A t R E s :=
  wpAny_mono (wpAny_toks h) (fun a s' q => k a s' (Nat.lt_of_lt_of_le h0 q.1) q.2) fun _ _ z => z.2
theorem nxtF {α : Type} {t : Sem α} {Q R : α → Shared → Prop} {M : Model} {A : Around} {E : Value → Shared → Prop} {s : Shared} (h0 : 0 < s.toks) (h : wpAny M A t Q (fun _ _ => False) s) (k : ∀ a s', 0 < s'.toks → Q a s' → R a s') : wpAny M A t R E s :=
  wpAny_mono (wpAny_toks h) (fun a s' q => k a s' (Nat.lt_of_lt_of_le h0 q.1) q.2) fun _ _ z => z.2.elim
abbrev Pin := List (Addr × Obj)

structure PE (X : Cx) (e : Expr) (t : TE) : Prop where
  run : ∀ (pins : Pin) (s : Shared) (σ : L2.St) (H : Hp) (Q : VK), 0 < s.toks → Inv X pins σ H s → t σ H Q → wpAny (model X.prog X.w) X.A (eval e X.env) (EP X pins σ Q) X.xe s
structure PT (X : Cx) (e : Expr) (t : TT) : Prop where
  run : ∀ (pins : Pin) (s : Shared) (σ : L2.St) (H : Hp) (Q : Bool → Hp → Prop), 0 < s.toks → Inv X pins σ H s → t σ H Q → wpAny (model X.prog X.w) X.A (isTrue e X.env (eval e X.env)) (TP X pins σ Q) X.xe s
structure PW (X : Cx) (e : Expr) (t : TT) : Prop where
  run : ∀ (wh : Sem Value) (pins : Pin) (s : Shared) (σ : L2.St) (H : Hp) (Q : Bool → Hp → Prop), 0 < s.toks → Inv X pins σ H s → t σ H Q → wpAny (model X.prog X.w) X.A (isTrue e X.env wh) (TP X pins σ Q) X.xe s
structure PA (X : Cx) (es : List Expr) (t : TA) : Prop where
  run : ∀ (pos : Pos) (pins : Pin) (s : Shared) (σ : L2.St) (H : Hp) (Q : List V → Hp → Prop), 0 < s.toks → Inv X pins σ H s → t σ H Q → wpAny (model X.prog X.w) X.A (spliced (backTo pos (starEach es X.env))) (AP X pins σ Q) X.xe s
structure PS (X : Cx) (st : Stmt) (t : TS) : Prop where
  run : ∀ (pins : Pin) (s : Shared) (σ : L2.St) (H : Hp) (D : Ends), 0 < s.toks → Inv X pins σ H s → t D σ H → wpAny (model X.prog X.w) X.A (exec st X.env) (SP X pins D) X.xe s
structure PSs (X : Cx) (st : List Stmt) (t : TS) : Prop where
  run : ∀ (pins : Pin) (s : Shared) (σ : L2.St) (H : Hp) (D : Ends), 0 < s.toks → Inv X pins σ H s → t D σ H → wpAny (model X.prog X.w) X.A (execs st X.env) (SP X pins D) X.xe s
structure PG (X : Cx) (tg : Expr) (t : TG) : Prop where
  run : ∀ (pins : Pin) (s : Shared) (σ : L2.St) (H : Hp) (v : V) (u : Value) (Q : L2.St → Hp → Prop), 0 < s.toks → Inv X pins σ H s → RelV v u → t v σ H Q →
    wpAny (model X.prog X.w) X.A (assign tg X.env u) (fun _ s' => ∃ σ' H', Inv X pins σ' H' s' ∧ Q σ' H') X.xe s
structure PGs (X : Cx) (ts : List Expr) (t : TGs) : Prop where
  run : ∀ (pins : Pin) (s : Shared) (σ : L2.St) (H : Hp) (vs : List V) (us : List Value) (Q : L2.St → Hp → Prop), 0 < s.toks → Inv X pins σ H s → Vals vs us → t vs σ H Q →
    wpAny (model X.prog X.w) X.A (assignInOrder ((assignEach ts X.env).map (·.2)) us) (fun _ s' => ∃ σ' H', Inv X pins σ' H' s' ∧ Q σ' H') X.xe s
structure PI (X : Cx) (tg iter : Expr) (wi : TI) : Prop where
  run : ∀ (pins : Pin) (s : Shared) (σ : L2.St) (H : Hp) (R : It → Hp → Prop), 0 < s.toks → Inv X pins σ H s → wi σ H R →
    wpAny (model X.prog X.w) X.A (eval iter X.env) (fun v s1 => wpAny (model X.prog X.w) X.A (pyIter v) (PIE X pins σ tg R) X.xe s1) X.xe s
structure PO (X : Cx) (e : Option Expr) (t : TO) : Prop where
  run : ∀ (pins : Pin) (s : Shared) (σ : L2.St) (H : Hp) (Q : Option Int → Hp → Prop), 0 < s.toks → Inv X pins σ H s → t σ H Q →
    wpAny (model X.prog X.w) X.A (evalPart e X.env) (fun u s' => ∃ o H', Inv X pins σ H' s' ∧ IsPart u o ∧ Q o H') X.xe s
structure PTs (X : Cx) (ifs : List Expr) (t : TT) : Prop where
  run : ∀ (pins : Pin) (s : Shared) (σ : L2.St) (H : Hp) (Q : Bool → Hp → Prop), 0 < s.toks → Inv X pins σ H s → t σ H Q →
    wpAny (model X.prog X.w) X.A (forIn ifs true fun c r => if r = true then do let ok ← isTrue c X.env (eval c X.env); pure (ForInStep.yield ok) else pure (ForInStep.yield r)) (TP X pins σ Q) X.xe s

section
variable {X : Cx} {a b c e o : Expr} {es rest : List Expr} {ta tb tc te to : TE} {tA tB' : TT} {t : TA} {pos p p1 p2 : Pos} {st : Stmt} {sts s1 s2 : List Stmt} {u1 u2 : TS}
theorem PE.of (h : L2.PE X e te) : PE X e te := ⟨fun pins s σ H Q _ I q => h.run pins s σ H Q I q⟩
theorem PT.of (h : L2.PT X e tA) : PT X e tA := ⟨fun pins s σ H Q _ I q => h.run pins s σ H Q I q⟩
theorem PS.of (h : L2.PS X st u1) : PS X st u1 := ⟨fun pins s σ H Q _ I q => h.run pins s σ H Q I q⟩
theorem PSs.of (h : L2.PSs X sts u1) : PSs X sts u1 := ⟨fun pins s σ H Q _ I q => h.run pins s σ H Q I q⟩
theorem PG.of {g : TG} (h : L2.PG X e g) : PG X e g := ⟨fun pins s σ H v u Q _ I r q => h.run pins s σ H v u Q I r q⟩
theorem pe_var {i : Nat} {x : Str} (hN : X.N[i]? = some x) (hv : Vis X.env.scope x) (hd : (x == ("__debug__" : Str)) = false) (hcd : (x == ("__classdict__" : Str)) = false) : PE X (.Name x pos) (tVar i) := .of (L2.pe_var hN hv hd hcd)
theorem pe_int {i : Int} {j : Nat} : PE X (.Constant (.int i) j pos) (tC (.int i)) := .of L2.pe_int
theorem pe_bl {i : Bool} {j : Nat} : PE X (.Constant (.bool i) j pos) (tC (.bl i)) := .of L2.pe_bl
theorem pe_non {j : Nat} : PE X (.Constant .none j pos) (tC .non) := .of L2.pe_non
theorem pe_str {x : Str} {j : Nat} : PE X (.Constant (.str x) j pos) (tC (.str x)) := .of L2.pe_str
theorem pe_glob {x : Str} {v : V} {u : Value} (hg : Gl X x) (hm : X.mg x = some u) (r : RelV v u) (hd : (x == ("__debug__" : Str)) = false) : PE X (.Name x pos) (tC v) := .of (L2.pe_glob hg hm r hd)
theorem pe_bltn {x : Str} {v : V} {u : Value} (hg : Gl X x) (hm : X.mg x = none) (hv : bootBuiltins x = some u) (r : RelV v u) (hn : x ≠ "__name__") (hd : (x == ("__debug__" : Str)) = false) : PE X (.Name x pos) (tC v) := .of (L2.pe_bltn hg hm hv r hn hd)

/-- two in a row -/
theorem two (ha : PE X a ta) (hb : PE X b tb) {pins : Pin} {s : Shared} {σ : L2.St} {H : Hp} {R : V → V → Hp → Prop} (h0 : 0 < s.toks) (I : Inv X pins σ H s) (h : ta σ H fun x H1 => tb σ H1 fun y H2 => R x y H2) {Q : Value → Shared → Prop} {f : Value → Value → Sem Value}
    (hf : ∀ v u s2 x y H2, 0 < s2.toks → Inv X pins σ H2 s2 → RelV x v → RelV y u → R x y H2 → wpAny (model X.prog X.w) X.A (f v u) Q X.xe s2) :
    wpAny (model X.prog X.w) X.A (eval a X.env) (fun v s₁ => wpAny (model X.prog X.w) X.A (eval b X.env) (fun u s₂ => wpAny (model X.prog X.w) X.A (f v u) Q X.xe s₂) X.xe s₁) X.xe s :=
  nxt h0 (ha.run _ _ _ _ _ h0 I h) fun v s1 k1 q => by
    obtain ⟨x, H1, I1, r1, q1⟩ := q
    exact nxt k1 (hb.run _ _ _ _ _ k1 I1 q1) fun u s2 k2 q => by
      obtain ⟨y, H2, I2, r2, q2⟩ := q
      exact hf v u s2 x y H2 k2 I2 r1 r2 q2
theorem pe_op {op : Operator} {r : R2} (ho : OpR X (binaryOp op) r) (ha : PE X a ta) (hb : PE X b tb) : PE X (.BinOp a op b pos) (tOp r ta tb) :=
  ⟨fun pins s σ H Q h0 I h => wpAny_BinOp (two ha hb h0 I h fun v u s2 x y H2 _ I2 rx ry q => ho _ _ _ _ x y v u Q I2 rx ry q)⟩
theorem pe_un {op : UnaryOp} {r : V → Hp → VK → Prop} (ho : UnR X (unaryOp op) r) (ha : PE X a ta) : PE X (.UnaryOp op a pos) (tUn r ta) :=
  ⟨fun pins s σ H Q h0 I h => UnaryOp_ (nxt h0 (ha.run _ _ _ _ _ h0 I h) fun v s1 _ q => by
    obtain ⟨x, H1, I1, r1, q1⟩ := q
    exact ho _ _ _ _ x v Q I1 r1 q1)⟩
theorem pe_cmpR {op : CmpOp} {r : R2} (ho : OpR X (compareOp op) r) (ha : PE X a ta) (hb : PE X b tb) (hm : behindInMarks op b = false) : PE X (.Compare a [op] [b] pos) (tOp r ta tb) :=
  ⟨fun pins s σ H Q h0 I h => wpAny_Compare1 (two ha hb h0 I h fun v u s2 x y H2 _ I2 rx ry q => ho _ _ _ _ x y v u Q I2 rx ry q) hm⟩
theorem pt_cmpR {op : CmpOp} {r : R2} (ho : OpR X (compareOp op) r) (ha : PE X a ta) (hb : PE X b tb) (hm : behindInMarks op b = false) : PT X (.Compare a [op] [b] pos) (tTest (tOp r ta tb)) :=
  ⟨fun pins s σ H Q h0 I h => wpAny_isTrue_Compare1 (two ha hb h0 I h fun v u s2 x y H2 _ I2 rx ry q => thn (ho _ _ _ _ x y v u _ I2 rx ry q) fun d s3 q3 => by
    obtain ⟨z, H3, I3, r3, k, e, q3⟩ := q3
    subst e
    cases r3
    exact wpAny_truthy_bool ⟨H3, I3, q3⟩) hm⟩
theorem pe_chain {op op' : CmpOp} {r r' : R2} (ho : OpR X (compareOp op) r) (ho' : OpR X (compareOp op') r') (ha : PE X a ta) (hb : PE X b tb) (hc : PE X c tc) (hm : lastMarks [op, op'] [b, c] = false) : PE X (.Compare a [op, op'] [b, c] pos) (tChain r r' ta tb tc) :=
  ⟨fun pins s σ H Q h0 I h => Compare_chain (nxt h0 (ha.run _ _ _ _ _ h0 I h) fun v s1 k1 q => by
    obtain ⟨x, H1, I1, rx, q1⟩ := q
    refine chain_link (nxt k1 (hb.run _ _ _ _ _ k1 I1 q1) fun u s2 k2 q => ?_)
    obtain ⟨y, H2, I2, ry, q2⟩ := q
    refine nxt k2 (ho _ _ _ _ x y v u _ I2 rx ry q2) fun d s3 k3 q => ?_
    obtain ⟨z, H3, I3, rz, k, e, q3⟩ := q
    subst e
    cases rz
    refine wpAny_truthy_bool ?_
    cases k with
    | false => exact ite_ff ⟨.bl false, H3, I3, rfl, q3⟩
    | true =>
      refine ite_tt (chain_last (nxt k3 (hc.run _ _ _ _ _ k3 I3 q3) fun w' s4 _ q => ?_))
      obtain ⟨z', H4, I4, r4, q4⟩ := q
      exact ho' _ _ _ _ y z' u w' Q I4 ry r4 q4) hm⟩
theorem pt_chain {op op' : CmpOp} {r r' : R2} (ho : OpR X (compareOp op) r) (ho' : OpR X (compareOp op') r') (ha : PE X a ta) (hb : PE X b tb) (hc : PE X c tc) (hm : lastMarks [op, op'] [b, c] = false) : PT X (.Compare a [op, op'] [b, c] pos) (tTest (tChain r r' ta tb tc)) :=
  ⟨fun pins s σ H Q h0 I h => isTrue_chain (nxt h0 (ha.run _ _ _ _ _ h0 I h) fun v s1 k1 q => by
    obtain ⟨x, H1, I1, rx, q1⟩ := q
    refine test_link (nxt k1 (hb.run _ _ _ _ _ k1 I1 q1) fun u s2 k2 q => ?_)
    obtain ⟨y, H2, I2, ry, q2⟩ := q
    refine nxt k2 (ho _ _ _ _ x y v u _ I2 rx ry q2) fun d s3 k3 q => ?_
    obtain ⟨z, H3, I3, rz, k, e, q3⟩ := q
    subst e
    cases rz
    refine wpAny_truthy_bool ?_
    cases k with
    | false =>
      obtain ⟨k', e', q'⟩ := q3
      cases e'
      exact ite_ff ⟨H3, I3, q'⟩
    | true =>
      refine ite_tt (test_last (nxt k3 (hc.run _ _ _ _ _ k3 I3 q3) fun w' s4 _ q => ?_))
      obtain ⟨z', H4, I4, r4, q4⟩ := q
      refine thn (ho' _ _ _ _ y z' u w' _ I4 ry r4 q4) fun d' s5 q => ?_
      obtain ⟨z2, H5, I5, r5, k2', e2, q5⟩ := q
      subst e2
      cases r5
      exact wpAny_truthy_bool ⟨H5, I5, q5⟩) hm⟩
theorem pt_val (h : PE X e te) (he : ∀ whole, isTrue e X.env whole = (do let v ← whole; standAt e.pos; holding [v] (truthy v))) : PT X e (tB te) :=
  ⟨fun pins s σ H Q h0 I hw => isTrue_plain (thn (h.run _ _ _ _ _ h0 I hw) fun v s1 q => by
    obtain ⟨x, H1, I1, r1, d, e1, q1⟩ := q
    subst e1
    cases r1
    exact wpAny_truthy_bool ⟨H1, I1, q1⟩) (he _)⟩
theorem pt_truth (ha : PE X a ta) (he : ∀ whole, isTrue a X.env whole = (do let v ← whole; standAt a.pos; holding [v] (truthy v))) : PT X a (fun σ H Q => ta σ H fun x H' => ∃ k, TruV X.K x H' k ∧ Q k H') :=
  ⟨fun pins s σ H Q h0 I h => isTrue_plain (thn (ha.run _ _ _ _ _ h0 I h) fun v s1 q => by
    obtain ⟨x, H1, I1, r1, q1⟩ := q
    exact tru_ok _ _ _ _ x v Q I1 r1 q1) (he _)⟩
theorem PW.pt (h : PW X e tA) : PT X e tA := ⟨h.run _⟩
theorem pw_and1 (ha : PT X a tA) : PW X (.BoolOp .And [a] pos) tA := ⟨fun _ pins s σ H Q h0 I h => isTrue_and (thn (ha.run _ _ _ _ _ h0 I h) fun k s1 q => by
  cases k with
  | true => exact isTrue_and_nil q
  | false => exact q)⟩
theorem pw_or1 (ha : PT X a tA) : PW X (.BoolOp .Or [a] pos) tA := ⟨fun _ pins s σ H Q h0 I h => isTrue_or (thn (ha.run _ _ _ _ _ h0 I h) fun k s1 q => by
  cases k with
  | false => exact isTrue_or_nil q
  | true => exact q)⟩
theorem pw_and (ha : PT X a tA) (hb : PW X (.BoolOp .And (b :: rest) pos) tB') : PW X (.BoolOp .And (a :: b :: rest) pos) (tAnd tA tB') := ⟨fun wh pins s σ H Q h0 I h => isTrue_and (nxt h0 (ha.run _ _ _ _ _ h0 I h) fun k s1 k1 q => by
  obtain ⟨H1, I1, q1⟩ := q
  cases k with
  | true => exact hb.run wh _ _ _ _ _ k1 I1 q1
  | false => exact ⟨H1, I1, q1⟩)⟩
theorem pw_or (ha : PT X a tA) (hb : PW X (.BoolOp .Or (b :: rest) pos) tB') : PW X (.BoolOp .Or (a :: b :: rest) pos) (tOr tA tB') := ⟨fun wh pins s σ H Q h0 I h => isTrue_or (nxt h0 (ha.run _ _ _ _ _ h0 I h) fun k s1 k1 q => by
  obtain ⟨H1, I1, q1⟩ := q
  cases k with
  | true => exact ⟨H1, I1, q1⟩
  | false => exact hb.run wh _ _ _ _ _ k1 I1 q1)⟩
theorem pt_not (ha : PT X a tA) : PT X (.UnaryOp .Not a pos) (tNot tA) := ⟨fun pins s σ H Q h0 I h => isTrue_not (ha.run _ _ _ _ (fun k H1 => Q (!k) H1) h0 I h)⟩
theorem pe_one {op} (h : PE X a te) : PE X (.BoolOp op [a] pos) te := ⟨fun pins s σ H Q h0 I hw => BoolOp_one (h.run _ _ _ _ _ h0 I hw)⟩
theorem pe_and (ha : PE X a ta) (hb : PE X (.BoolOp .And (b :: rest) pos) tb) : PE X (.BoolOp .And (a :: b :: rest) pos) (tAndV ta tb) := ⟨fun pins s σ H Q h0 I h => BoolOp_and (nxt h0 (ha.run _ _ _ _ _ h0 I h) fun v s1 k1 q => by
  obtain ⟨x, H1, I1, r1, k, e1, q1⟩ := q
  subst e1
  cases r1
  refine wpAny_truthy_bool ?_
  cases k with
  | true => exact hb.run _ _ _ _ _ k1 I1 q1
  | false => exact ⟨.bl false, H1, I1, rfl, q1⟩)⟩
theorem pe_or (ha : PE X a ta) (hb : PE X (.BoolOp .Or (b :: rest) pos) tb) : PE X (.BoolOp .Or (a :: b :: rest) pos) (tOrV ta tb) := ⟨fun pins s σ H Q h0 I h => BoolOp_or (nxt h0 (ha.run _ _ _ _ _ h0 I h) fun v s1 k1 q => by
  obtain ⟨x, H1, I1, r1, k, e1, q1⟩ := q
  subst e1
  cases r1
  refine wpAny_truthy_bool ?_
  cases k with
  | true => exact ⟨.bl true, H1, I1, rfl, q1⟩
  | false => exact hb.run _ _ _ _ _ k1 I1 q1)⟩
theorem pe_not (ha : PE X a ta) : PE X (.UnaryOp .Not a pos) (tNotV ta) := ⟨fun pins s σ H Q h0 I h => UnaryOp_ (thn (ha.run _ _ _ _ _ h0 I h) fun v s1 q => by
  obtain ⟨x, H1, I1, r1, k, e1, q1⟩ := q
  subst e1
  cases r1
  exact not_of (wpAny_truthy_bool ⟨.bl (!k), H1, I1, rfl, q1⟩))⟩
theorem pe_ifExp (hc : PT X c tA) (ha : PE X a ta) (hb : PE X b tb) : PE X (.IfExp c a b pos) (tIf tA ta tb) := ⟨fun pins s σ H Q h0 I h => wpAny_IfExp (nxt h0 (hc.run _ _ _ _ _ h0 I h) fun k s1 k1 q => by
  obtain ⟨H1, I1, q1⟩ := q
  cases k with
  | true => exact ha.run _ _ _ _ _ k1 I1 q1
  | false => exact hb.run _ _ _ _ _ k1 I1 q1)⟩
theorem pa_nil : PA X [] tNil := ⟨fun pos pins s σ H Q _ I q => L2.pa_nil.run pos pins s σ H Q I q⟩
theorem pa_cons (ha : PE X e te) (hr : PA X es t) (hs : starEach (e :: es) X.env = (false, eval e X.env) :: starEach es X.env) : PA X (e :: es) (tCons te t) := ⟨fun pos pins s σ H Q h0 I h => by
  rw [hs]
  refine Calls.spliced_cons (nxt h0 (ha.run _ _ _ _ _ h0 I h) fun u s1 k1 q => ?_)
  obtain ⟨x, H1, I1, r1, q1⟩ := q
  refine thn (hr.run pos _ _ _ _ _ k1 I1 q1) fun us s2 q => ?_
  obtain ⟨xs, H2, I2, r2, q2⟩ := q
  exact ⟨x :: xs, H2, I2, .cons r1 r2, q2⟩⟩
/-- a rule of the layer that asks one list of arguments, with states where a token is out -/
theorem pe_tup {k} (h : PA X es t) : PE X (.Tuple es k pos) (tTup t) := ⟨fun pins s σ H Q h0 I hq => by
  refine wpAny_Tuple_spliced (thn (h.run pos _ _ _ _ _ h0 I hq) fun us s1 q => ?_)
  obtain ⟨xs, H1, I1, r, z, q⟩ := q
  refine ⟨Nat.le_trans (Nat.le_of_eq r.length.symm) z, .ref s1.heap.objs.size, _, I1.laid (t' := s1.toks) (o := .tup xs) (fun b u e => Heap.get?_push_of_some _ e) (Nat.le_refl _) ?_, rfl, q _ (I1.hok.fresh (Nat.le_refl _))⟩
  exact ⟨z, us, r, _, Heap.get?_push_size _ rfl, rfl, _, rfl⟩⟩
theorem pe_lst (h : PA X es t) : PE X (.List es pos) (tLst t) := ⟨fun pins s σ H Q h0 I hq => by
  refine wpAny_List_spliced (thn (h.run pos _ _ _ _ _ h0 I hq) fun us s1 q => ?_)
  obtain ⟨xs, H1, I1, r, z, q⟩ := q
  exact ⟨Nat.le_trans (Nat.le_of_eq r.length.symm) z, .ref s1.heap.objs.size, _, I1.laid (t' := s1.toks) (o := .lst xs) (fun b u e => Heap.get?_push_of_some _ e) (Nat.le_refl _) ⟨z, us, 0, r, Heap.get?_push_size _ rfl⟩, rfl, q _ (I1.hok.fresh (Nat.le_refl _))⟩⟩
theorem pe_callB {x : Str} {id : String} {r : List V → Hp → VK → Prop} (hc : CallR X (.builtin id) r) (hg : Gl X x) (hm : X.mg x = none) (hv : bootBuiltins x = some (.builtin id)) (ha : PA X (e :: es) t) (hn : x ≠ "__name__") (hdb : (x == ("__debug__" : Str)) = false)
    (he : starEach (e :: es) X.env = (false, eval e X.env) :: starEach es X.env) (hpl : (backTo pos (starEach es X.env)).any (·.1) = false) : PE X (.Call (.Name x p) (e :: es) [] pos) (tCB r t) :=
  ⟨fun pins s σ H Q h0 I h => wpAny_Call_Name_kw (ld_blt I hg hm hv (PyProof.Rows.callWith_builtin1 (thn (ha.run pos _ _ _ _ _ h0 I h) fun us s1 q => by
    obtain ⟨vs, H1, I1, r1, q1⟩ := q
    exact hc _ _ _ _ vs us Q I1 r1 q1) he hpl) hn hdb)⟩
theorem pe_callTy {x : Str} {T : String} {r : List V → Hp → VK → Prop} (hc : CallR X (.type T) r) (hg : Gl X x) (hm : X.mg x = none) (hv : bootBuiltins x = some (.type T)) (ha : PA X (e :: es) t) (hn : x ≠ "__name__") (hdb : (x == ("__debug__" : Str)) = false)
    (he : starEach (e :: es) X.env = (false, eval e X.env) :: starEach es X.env) (hpl : (backTo pos (starEach es X.env)).any (·.1) = false) : PE X (.Call (.Name x p) (e :: es) [] pos) (tCB r t) :=
  ⟨fun pins s σ H Q h0 I h => wpAny_Call_Name_kw (ld_blt I hg hm hv (PyProof.Rows.callWith_type1 (thn (ha.run pos _ _ _ _ _ h0 I h) fun us s1 q => by
    obtain ⟨vs, H1, I1, r1, q1⟩ := q
    exact hc _ _ _ _ vs us Q I1 r1 q1) he hpl) hn hdb)⟩
theorem pe_ix {r : R2} (hr : IxR X r) (ha : PE X a ta) (hb : PE X b tb) (hs : PlainIx b) : PE X (.Subscript a b pos) (tOp r ta tb) :=
  ⟨fun pins s σ H Q h0 I h => Subscript_ (two ha hb h0 I h fun v u s2 x y H2 _ I2 rx ry q => hr a b _ _ _ _ x y v u Q I2 rx ry q (hs _ _))⟩
theorem po_none : PO X none tNoPart := ⟨fun pins s σ H Q _ I q => L2.po_none.run pins s σ H Q I q⟩
theorem po_some (h : PE X e te) : PO X (some e) (tPart te) := ⟨fun pins s σ H Q h0 I hw => by
  rw [evalPart_some]
  refine thn (h.run _ _ _ _ _ h0 I hw) fun u s1 q => ?_
  obtain ⟨x, H1, I1, r1, i, ex, q1⟩ := q
  subst ex
  obtain ⟨tk, rfl⟩ := r1
  exact ⟨some i, H1, I1, .int i tk, q1⟩⟩
theorem pe_slice {lo hi : Option Expr} {tl th : TO} {r : V → Option Int → Option Int → Hp → VK → Prop} (hr : SlR X r) (he : PE X e te) (hl : PO X lo tl) (hu : PO X hi th) : PE X (.Subscript e (.Slice lo hi none p2) pos) (tSl r te tl th) := ⟨fun pins s σ H Q h0 I h => by
  refine Subscript_ (nxt h0 (he.run _ _ _ _ _ h0 I h) fun v s1 k1 q => ?_)
  obtain ⟨x, H1, I1, r1, q1⟩ := q
  refine wpAny_Slice (nxt k1 (hl.run _ _ _ _ _ k1 I1 q1) fun vl s2 k2 q => ?_)
  obtain ⟨l, H2, I2, pl, q2⟩ := q
  refine thn (hu.run _ _ _ _ _ k2 I2 q2) fun vu s3 q => ?_
  obtain ⟨u, H3, I3, pu, q3⟩ := q
  rw [evalPart_none]
  refine wpAny_pure ?_
  have I4 : Inv X pins σ H3 { s3 with heap := s3.heap.push { cls := .type "slice", data := .fields #[vl, vu, .none] } } := I3.kept (t' := s3.toks) fun _ _ q => Heap.get?_push_of_some _ q
  obtain ⟨T, id, hT, ht, hg⟩ := hr pins _ σ H3 x v vl vu l u s3.heap.objs.size Q I4 r1 (Heap.IsSliceOf.new ..) pl pu q3
  exact tail_any (ops := [.ref s3.heap.objs.size, v]) ht hT hg (by with_unfolding_all rfl)⟩
theorem pe_bm {T id : String} {name : Str} {apos : Pos} {r : V → List V → Hp → VK → Prop} (pa : PlainAttrs T) (slot : Slot T name id) (hty : typeOf (.builtin id) = pure (.type "method_descriptor")) (hm : MtR X id r) (ho : PE X o to) (ha : PA X (e :: es) t)
    (hbase : attributeBase o name X.env (eval o X.env) = eval o X.env)
    (hfew : ((backTo pos (starEach (e :: es) X.env)).all (fun x => !x.1) && (backToKw pos (keywordEach [] X.env)).all (fun x => x.1.isSome) && decide ((e :: es).length + ([] : List Keyword).length + (if ([] : List Keyword).isEmpty then 0 else 1) < 30)) = true)
    (hline : (apos.endLine == pos.line) = true) (hs : starEach (e :: es) X.env = (false, eval e X.env) :: starEach es X.env) (hpl : (backTo pos (starEach es X.env)).any (·.1) = false) :
    PE X (.Call (.Attribute o name apos) (e :: es) [] pos) (tBM X.K T r to t) := ⟨fun pins s σ H Q h0 I h => by
  refine wpAny_Call_method_late hbase hfew hline rfl (nxt h0 (ho.run _ _ _ _ _ h0 I h) fun v s1 k1 q => ?_)
  obtain ⟨x, H1, I1, r1, ty, q1⟩ := q
  obtain ⟨h1, h2⟩ := tyV_is I1 r1 ty
  refine ⟨T, id, pa, slot, hty, h1, h2, ?_⟩
  have hA := ha.run pos _ _ _ _ _ k1 I1 q1
  rw [hs] at hA ⊢
  refine Calls.callWith_builtin (show (false || (backTo pos (starEach es X.env)).any (·.1)) = false by rw [hpl]; rfl) (Calls.evalArgs_plain (thn hA fun us s2 q => ?_))
  obtain ⟨vs, H2, I2, r2, q2⟩ := q
  exact hm _ _ _ _ x vs v us Q I2 r1 r2 q2⟩
theorem pe_callS {CX : CXT} {k : Nat} {f : Addr} {fd : FuncData} {ps : List Str} {x : Str} {sp : Sp} {E : L2.St → XK}
    (run : ∀ (A : Around) (outer : List PySem.Env) (s : Shared) (H : Hp) (us : List Value) (vs : List V) (Q : VK) (E : XK), 0 < s.toks → Room k A → Env0 X.prog X.w X.K X.mg X.base A outer s H → BindsTo s fd ⟨us, []⟩ (ps.zip us) → Vals vs us → sp vs H Q E →
      codeAny (model X.prog X.w) A (.call (.ref f) ⟨us, []⟩) (CR CX outer X.prog X.w H s Q E) s)
    (len : ∀ vs H Q E, sp vs H Q E → vs.length = ps.length) (hr : Room k X.A) (hg : Gl X x) (hm : X.mg x = some (.ref f)) (hk : PySem.W.keepIn X.K (.ref f) = true) (hb : Binds X.K fd ps []) (hx : ∀ σ, PassesAt CX X σ (E σ))
    (ha : PA X (e :: es) t) (hdb : (x == ("__debug__" : Str)) = false) (he : starEach (e :: es) X.env = (false, eval e X.env) :: starEach es X.env) (hpl : (backTo pos (starEach es X.env)).any (·.1) = false) :
    PE X (.Call (.Name x p) (e :: es) [] pos) (tCallS sp E t) := ⟨fun pins s σ H Q h0 I h => by
  refine wpAny_Call_Name_kw (ld_glob I hg hm ?_ hdb)
  refine PySem.W.callWith_K (h₀ := X.base) I.ok.mod.kin hk (nxt h0 (ha.run pos _ _ _ _ _ h0 I h) fun us s1 k1 q => ?_) he hpl
  obtain ⟨vs, H1, I1, r, q⟩ := q
  refine ⟨I1.kIn, ?_⟩
  have hl : us.length = ps.length := r.length.symm.trans (len _ _ _ _ q)
  have bd := hb s1 us I1.kIn ((congrArg List.length (List.append_nil us)).trans hl)
  rw [List.append_nil] at bd
  refine wpAny_call (codeAny_mono (run X.A X.stack s1 H1 us vs Q (E σ) k1 hr I1.env0 bd r q) fun rr s' hq => ?_)
  match rr, hq with
  | .error ev, hq => exact hx σ pins H1 s1 ev s' I1 hq
  | .ok (.ret _), hq => exact I1.after hq
  | .ok .next, hq => exact hq.elim
  | .ok .brk, hq => exact hq.elim
  | .ok .cont, hq => exact hq.elim⟩

/-! ### statements -/
theorem pss_nil : PSs X [] tNext := .of L2.pss_nil
theorem pss_cons (h1 : PS X st u1) (h2 : PSs X sts u2) : PSs X (st :: sts) (tSeq u1 u2) := ⟨fun pins s σ H D h0 I h => wpAny_execs_cons (nxt h0 (h1.run _ _ _ _ { D with nx := u2 D } h0 I h) fun f s1 k1 q => by
  match f, q with
  | .next, ⟨σ', H', I', q⟩ => exact h2.run _ _ _ _ D k1 I' q
  | .ret _, q => exact q
  | .brk, q => exact q
  | .cont, q => exact q)⟩
theorem ps_pass : PS X (.Pass pos) tNext := .of L2.ps_pass
theorem ps_break : PS X (.Break pos) tBreak := .of L2.ps_break
theorem ps_continue : PS X (.Continue pos) tCont := .of L2.ps_continue
theorem ps_retN : PS X (.Return none pos) tRetN := .of L2.ps_retN
theorem ps_expr (he : PE X e te) (hs : swapsWith e none pos.line X.env = pure false) : PS X (.Expr e pos) (tDrop te) := ⟨fun pins s σ H D h0 I h => wpAny_Expr_any (thn (he.run _ _ _ _ _ h0 I h) fun v s1 q => by
  obtain ⟨x, H1, I1, _, q1⟩ := q
  exact ⟨σ, H1, I1, q1⟩) I.quiet hs⟩
theorem ps_ret (he : PE X e te) : PS X (.Return (some e) pos) (tRet te) := ⟨fun pins s σ H D h0 I h => wpAny_Return_some (thn (he.run _ _ _ _ _ h0 I h) fun v s1 q => by
  obtain ⟨x, H1, I1, r1, q1⟩ := q
  exact ⟨x, σ, H1, I1, r1, q1⟩)⟩
theorem ps_if (hc : PT X c tA) (ha : PSs X s1 u1) (hb : PSs X s2 u2) : PS X (.If c s1 s2 pos) (tIfS tA u1 u2) := ⟨fun pins s σ H D h0 I h => wpAny_If (nxt h0 (hc.run _ _ _ _ _ h0 I h) fun k s' k1 q => by
  obtain ⟨H1, I1, q1⟩ := q
  cases k with
  | true => exact ha.run _ _ _ _ D k1 I1 q1
  | false => exact hb.run _ _ _ _ D k1 I1 q1)⟩
theorem ps_set {i : Nat} {x : Str} {pos' : Pos} (hN : X.N.Nodup) (hi : X.N[i]? = some x) (hx : Loc X.env.scope x) (he : PE X e te) (hs : swapsWith e (some (.Name x pos')) pos.line X.env = pure false) (hf : X.fn x = true ∨ X.env.scope.names.lookup x = some .local) :
    PS X (.Assign [.Name x pos'] e pos) (tAsg te (gName i)) := ⟨fun pins s σ H D h0 I h => wpAny_Assign_Name (thn (he.run _ _ _ _ _ h0 I h) fun v s1 q => by
  obtain ⟨y, H1, I1, r1, q1⟩ := q
  exact store_ok I1 hN hi hx r1 (fun s2 I2 => ⟨_, H1, I2, q1⟩) hf) hs⟩
theorem pg_name {i : Nat} {x : Str} (hN : X.N.Nodup) (hi : X.N[i]? = some x) (hx : Loc X.env.scope x) (hf : X.fn x = true ∨ X.env.scope.names.lookup x = some .local) : PG X (.Name x pos) (gName i) := .of (L2.pg_name hN hi hx hf)
theorem pgs_nil : PGs X [] gNil := ⟨fun pins s σ H vs us Q _ I r q => L2.pgs_nil.run pins s σ H vs us Q I r q⟩
theorem pgs_cons {g : TG} {gs : TGs} (h1 : PG X e g) (h2 : PGs X es gs) (hs : (assignEach (e :: es) X.env).map (·.2) = assign e X.env :: (assignEach es X.env).map (·.2)) : PGs X (e :: es) (gCons g gs) := ⟨fun pins s σ H vs us Q h0 I r h => by
  obtain ⟨v, vr, e1, h⟩ := h
  subst e1
  cases r with
  | cons r rr =>
    rw [hs]
    refine assignInOrder_cons (nxt h0 (h1.run _ _ _ _ _ _ _ h0 I r h) fun _ s1 k1 q => ?_)
    obtain ⟨σ1, H1, I1, q1⟩ := q
    exact h2.run _ _ _ _ _ _ Q k1 I1 rr q1⟩
theorem pg_tup {k n : Nat} {gs : TGs} (hc : X.calm = true) (h : PGs X es gs) (hn : (assignEach es X.env).length = n) (hst : (assignEach es X.env).findIdx? (·.1) = none) : PG X (.Tuple es k pos) (gTup X.K n gs) := ⟨fun pins s σ H v u Q h0 I r hw => by
  obtain ⟨l, xs, e1, hq, hl, hw⟩ := hw
  subst e1
  cases r
  obtain ⟨its, rv, ht, _⟩ := I.tuple hq
  refine assign_Tuple_tuple (I.ok.hd hc) ht (by rw [hn, ← hl, rv.length]; simp) hst fun h' hx => ?_
  exact h.run _ { s with heap := h' } _ _ xs _ Q h0 (I.kept (t' := s.toks) fun b ob q => hx b ob (Nat.ne_of_lt (Heap.lt_size q)) q) (by simpa using rv) hw⟩
theorem pg_sub {i : Expr} {ti : TE} {tset : TSet} (ho : PE X o to) (hi : PE X i ti) (hs : PSet X tset)
    (ha : ∀ v, assign (.Subscript o i pos) X.env v = (do
      let ov ← holding [v] (eval o X.env)
      let iv ← holding [v, ov] (eval i X.env)
      standAt pos
      holding [v, ov, iv] (setItem ov iv v)
      release [v, ov, iv] [])) : PG X (.Subscript o i pos) (gSub to ti tset) := ⟨fun pins s σ H v u Q h0 I r h => by
  rw [ha]
  refine wpAny_bind (wpAny_holding (nxt h0 (ho.run _ _ _ _ _ h0 I h) fun ov s1 k1 q => ?_))
  obtain ⟨x, H1, I1, r1, q1⟩ := q
  refine wpAny_bind (wpAny_holding (thn (hi.run _ _ _ _ _ k1 I1 q1) fun iv s2 q => ?_))
  obtain ⟨y, H2, I2, r2, q2⟩ := q
  refine wpAny_bind (wpAny_standAt (wpAny_bind (wpAny_holding (thn (hs _ _ _ _ x y v ov iv u _ I2 r1 r2 r q2) fun _ s3 q => ?_))))
  obtain ⟨H3, I3, q3⟩ := q
  exact wpAny_release ⟨σ, H3, I3, q3⟩⟩
theorem ps_asg {tg : Expr} {g : TG} (he : PE X e te) (hg : PG X tg g) (hs : swapsWithSole [tg] e pos.line X.env = pure false) (hw : swappedStores [tg] e X.env = pure none) (h1 : (assignEach [tg] X.env).map (·.2) = [assign tg X.env]) :
    PS X (.Assign [tg] e pos) (tAsg te g) := ⟨fun pins s σ H D h0 I h => by
  refine wpAny_Assign_stores (nxt h0 (he.run _ _ _ _ _ h0 I h) fun v s1 k1 q => ?_) hs hw
  obtain ⟨x, H1, I1, r1, q1⟩ := q
  rw [h1]
  exact thn (hg.run _ _ _ _ x v _ k1 I1 r1 q1) fun _ _ q => q⟩
theorem ps_aug {i : Nat} {x : Str} {op : Operator} {ti : TIp} {pos' : Pos} (hN : X.N.Nodup) (hi : X.N[i]? = some x) (hx : Loc X.env.scope x) (he : PE X e te) (ho : PIp X op ti) (hf : X.fn x = true ∨ X.env.scope.names.lookup x = some .local) :
    PS X (.AugAssign (.Name x pos') op e pos) (tAug i te ti) := ⟨fun pins s σ H D h0 I h => by
  obtain ⟨v, e1, h⟩ := h
  obtain ⟨mm, hn, hl⟩ := I.loc
  have vis : Vis X.env.scope x := hx.elim .inl fun k => .inr (.inl k)
  obtain ⟨u, r, l⟩ := hl i x v hi e1 vis
  have rest : wpAny (model X.prog X.w) X.A (eval e X.env) (fun y s₂ => wpAny (model X.prog X.w) X.A (inplaceOp op u y) (fun z s₃ => wpAny (model X.prog X.w) X.A (storeName X.env x z) (fun _ => SP X pins D .next) X.xe s₃) X.xe s₂) X.xe s :=
    thn (he.run _ _ _ _ _ h0 I h) fun y s1 q => by
      obtain ⟨yv, H1, I1, r1, q1⟩ := q
      refine thn (ho _ _ _ _ v yv u y _ I1 r r1 q1) fun z s2 q => ?_
      obtain ⟨zv, H2, I2, r2, q2⟩ := q
      exact store_ok I2 hN hi hx r2 (fun s3 I3 => ⟨_, H2, I3, q2⟩) hf
  refine wpAny_AugAssign_Name ?_
  rcases l with ⟨hk, hm⟩ | ⟨hk, c, hc, hcell⟩
  · exact wpAny_loadName_local I.ok.kind hk hn hm rest
  · rcases hk with hk | hk
    · exact wpAny_loadName_cell I.ok.kind hk hc hcell rest
    · have hk' : X.env.scope.names.lookup x = some .free := hk
      rcases hx with k | k <;> (rw [k] at hk'; cases hk')⟩
theorem ps_augS {i : Expr} {ti : TE} {tget : V → V → Hp → VK → Prop} {tip : TIp} {tset : TSet} {op : Operator} {tpos : Pos} (ho : PE X o to) (hi : PE X i ti) (hg : PGet X tget) (he : PE X e te) (hp : PIp X op tip) (hs : PSet X tset)
    (ha : ∀ ov iv new, augStore i ov iv new = (do holding [new, ov, iv] (setItem ov iv new); release [new, ov, iv] []; pure .next)) : PS X (.AugAssign (.Subscript o i tpos) op e pos) (tAugS to ti te tget tip tset) := ⟨fun pins s σ H D h0 I h => by
  refine wpAny_AugAssign_SubscriptAny (nxt h0 (ho.run _ _ _ _ _ h0 I h) fun ov s1 k1 q => ?_) ha
  obtain ⟨x1, H1, I1, r1, q1⟩ := q
  refine nxt k1 (hi.run _ _ _ _ _ k1 I1 q1) fun iv s2 k2 q => ?_
  obtain ⟨x2, H2, I2, r2, q2⟩ := q
  refine nxt k2 (hg _ _ _ _ x1 x2 ov iv _ I2 r1 r2 q2) fun old s3 k3 q => ?_
  obtain ⟨x3, H3, I3, r3, q3⟩ := q
  refine thn (he.run _ _ _ _ _ k3 I3 q3) fun y s4 q => ?_
  obtain ⟨x4, H4, I4, r4, q4⟩ := q
  refine thn (hp _ _ _ _ x3 x4 old y _ I4 r3 r4 q4) fun new s5 q => ?_
  obtain ⟨x5, H5, I5, r5, q5⟩ := q
  refine thn (hs _ _ _ _ x1 x2 x5 ov iv new _ I5 r1 r2 r5 q5) fun _ s6 q => ?_
  obtain ⟨H6, I6, q6⟩ := q
  exact ⟨σ, H6, I6, q6⟩⟩
/-- a rule that asks its parts for every state gives one that asks them where a token is out, if it runs its parts first of all: the two pairs -/
theorem ps_par {i j : Nat} {x y : Str} {px py pt : Pos} {kt k2 pt2} (hc : X.calm = true) (hN : X.N.Nodup) (hi : X.N[i]? = some x) (hj : X.N[j]? = some y) (hij : i ≠ j) (hx : X.env.scope.names.lookup x = some .local) (hy : X.env.scope.names.lookup y = some .local) (ha : PA X [a, b] t)
    (hw : swappedStores [.Tuple [.Name x px, .Name y py] kt pt] (.Tuple [a, b] k2 pt2) X.env = pure (some [x, y])) (hs : swapsWithSole [.Tuple [.Name x px, .Name y py] kt pt] (.Tuple [a, b] k2 pt2) pos.line X.env = pure false) :
    PS X (.Assign [.Tuple [.Name x px, .Name y py] kt pt] (.Tuple [a, b] k2 pt2) pos) (tPar i j t) := ⟨fun pins s σ H D h0 I h => by
  rw [exec_Assign_arm]
  refine wpAny_bind (wpAny_standAt ?_)
  rw [hs]
  refine wpAny_bind (wpAny_pure ?_)
  rw [if_neg (by decide)]
  refine wpAny_bind (Tuple_ (thn (ha.run _ _ _ _ _ _ h0 I h) fun us s1 q => ?_))
  obtain ⟨vs, H1, I1, r1, v, w, e1, q1⟩ := q
  subst e1
  obtain ⟨y1, y2, rfl, rv, rw'⟩ := vals2 r1
  refine wpAny_newObj_type ?_ (show 2 ≤ sizeLine by decide)
  have I2 : Inv X pins σ H1 { s1 with heap := s1.heap.push { cls := .type "tuple", data := .seq [y1, y2].toArray } } := I1.kept (t' := s1.toks) fun _ _ e => Heap.get?_push_of_some _ e
  rw [hw]
  refine wpAny_bind (wpAny_pure ?_)
  show wpAny _ X.A (do rule "assign.swapped-stores"; let its ← unpackItems (.ref s1.heap.objs.size) 2 none; assignInOrder [fun v => bindName X.env y v, fun v => bindName X.env x v] its.reverse; pure Flow.next) _ _ _
  refine wpAny_bind (wpAny_rule (wpAny_bind (unpackItems_tuple (items := #[y1, y2]) (I.ok.hd hc) (IsTup.new s1.heap _) fun h' hx' => ?_)))
  have I3 := I2.kept (h' := h') (t' := s1.toks) fun b o e => hx' b o (Nat.ne_of_lt (Heap.lt_size e)) e
  show wpAny _ _ (assignInOrder [fun v => bindName X.env y v, fun v => bindName X.env x v] [y2, y1] >>= fun _ => pure Flow.next) _ _ _
  refine wpAny_bind (assignInOrder_cons (wpAny_bindName (store_ok I3 hN hj (.inl hy) rw' (fun s2 I4 => ?_) (.inr hy))))
  refine assignInOrder_cons (wpAny_bindName (store_ok I4 hN hi (.inl hx) rv (fun s3 I5 => assignInOrder_nil (wpAny_pure ?_)) (.inr hx)))
  rw [List.set_comm _ _ (Ne.symm hij)] at I5
  exact ⟨_, H1, I5, q1⟩⟩
theorem ps_par3 {i j l : Nat} {x y z : Str} {px py pz pt : Pos} {kt k2 pt2} (hc : X.calm = true) (hN : X.N.Nodup) (hi : X.N[i]? = some x) (hj : X.N[j]? = some y) (hk : X.N[l]? = some z) (hij : i ≠ j) (hil : i ≠ l) (hjl : j ≠ l)
    (hx : X.env.scope.names.lookup x = some .local) (hy : X.env.scope.names.lookup y = some .local) (hz : X.env.scope.names.lookup z = some .local) (ha : PA X [a, b, c] t)
    (hw : swappedStores [.Tuple [.Name x px, .Name y py, .Name z pz] kt pt] (.Tuple [a, b, c] k2 pt2) X.env = pure (some [x, y, z])) (hs : swapsWithSole [.Tuple [.Name x px, .Name y py, .Name z pz] kt pt] (.Tuple [a, b, c] k2 pt2) pos.line X.env = pure false) :
    PS X (.Assign [.Tuple [.Name x px, .Name y py, .Name z pz] kt pt] (.Tuple [a, b, c] k2 pt2) pos) (tPar3 i j l t) := ⟨fun pins s σ H D h0 I h => by
  rw [exec_Assign_arm]
  refine wpAny_bind (wpAny_standAt ?_)
  rw [hs]
  refine wpAny_bind (wpAny_pure ?_)
  rw [if_neg (by decide)]
  refine wpAny_bind (Tuple_ (thn (ha.run _ _ _ _ _ _ h0 I h) fun us s1 q => ?_))
  obtain ⟨vs, H1, I1, r1, v1, v2, v3, e1, q1⟩ := q
  subst e1
  obtain ⟨y1, y2, y3, rfl, rv, rw', rz⟩ : ∃ y1 y2 y3, us = [y1, y2, y3] ∧ RelV v1 y1 ∧ RelV v2 y2 ∧ RelV v3 y3 := by
    cases r1 with
    | cons q r =>
      obtain ⟨y2, y3, rfl, q2, q3⟩ := vals2 r
      exact ⟨_, y2, y3, rfl, q, q2, q3⟩
  refine wpAny_newObj_type ?_ (show 3 ≤ sizeLine by decide)
  have I2 : Inv X pins σ H1 { s1 with heap := s1.heap.push { cls := .type "tuple", data := .seq [y1, y2, y3].toArray } } := I1.kept (t' := s1.toks) fun _ _ e => Heap.get?_push_of_some _ e
  rw [hw]
  refine wpAny_bind (wpAny_pure ?_)
  show wpAny _ X.A (do rule "assign.swapped-stores"; let its ← unpackItems (.ref s1.heap.objs.size) 3 none; assignInOrder [fun v => bindName X.env z v, fun v => bindName X.env y v, fun v => bindName X.env x v] its.reverse; pure Flow.next) _ _ _
  refine wpAny_bind (wpAny_rule (wpAny_bind (unpackItems_tuple (items := #[y1, y2, y3]) (I.ok.hd hc) (IsTup.new s1.heap _) fun h' hx' => ?_)))
  have I3 := I2.kept (h' := h') (t' := s1.toks) fun b o e => hx' b o (Nat.ne_of_lt (Heap.lt_size e)) e
  show wpAny _ _ (assignInOrder [fun v => bindName X.env z v, fun v => bindName X.env y v, fun v => bindName X.env x v] [y3, y2, y1] >>= fun _ => pure Flow.next) _ _ _
  refine wpAny_bind (assignInOrder_cons (wpAny_bindName (store_ok I3 hN hk (.inl hz) rz (fun s2 I4 => ?_) (.inr hz))))
  refine assignInOrder_cons (wpAny_bindName (store_ok I4 hN hj (.inl hy) rw' (fun s3 I5 => ?_) (.inr hy)))
  refine assignInOrder_cons (wpAny_bindName (store_ok I5 hN hi (.inl hx) rv (fun s4 I6 => assignInOrder_nil (wpAny_pure ?_)) (.inr hx)))
  rw [List.set_comm _ _ (Ne.symm hjl), List.set_comm _ _ (Ne.symm hil), List.set_comm _ _ (Ne.symm hij)] at I6
  first
    | exact ⟨_, H1, I6, q1⟩
    | (rw [List.set_comm _ _ (Ne.symm hij)] at I6; exact ⟨_, H1, I6, q1⟩)
    | (rw [List.set_comm _ _ hij] at I6; exact ⟨_, H1, I6, q1⟩)⟩
/-! ### loops -/
theorem ps_while {c : Expr} {tc : TT} {tb : TS} (hp : PassesOwn (model X.prog X.w) X.A X.env X.xe) (hc : PT X c tc) (hb : PSs X s1 tb) : PS X (.While c s1 [] pos) (tWhile tc tb) := ⟨fun pins s σ H D h0 I h => by
  obtain ⟨W, ⟨m0, w0⟩, turn⟩ := h
  refine wpAny_While (codeAny_whileLoop (fun n s' => 0 < s'.toks ∧ ∃ σ' H', Inv X pins σ' H' s' ∧ W n σ' H') ?_ m0 ⟨h0, σ, H, I, w0⟩)
  rintro n s' ⟨k1, σ1, H1, I1, w1⟩
  refine wpAny_passesOwn hp (nxt k1 (hc.run _ _ _ _ _ k1 I1 (turn n σ1 H1 w1)) fun d s2 k2 q => ?_)
  obtain ⟨H2, I2, q2⟩ := q
  cases d with
  | false =>
    rw [if_neg Bool.false_ne_true]
    exact wpAny_execs_nil ⟨σ1, H2, I2, q2⟩
  | true =>
    obtain ⟨N, hN, q2⟩ := q2
    rw [if_pos rfl]
    refine wpAny_passesOwn hp (nxt k2 (hb.run _ _ _ _ _ k2 I2 q2) fun f s3 k3 q3 => ?_)
    match f, q3 with
    | .next, ⟨σ3, H3, I3, n3⟩ =>
      obtain ⟨m', hm, w3⟩ := hN σ3 H3 n3
      exact ⟨m', hm, k3, σ3, H3, I3, w3⟩
    | .cont, ⟨σ3, H3, I3, n3⟩ =>
      obtain ⟨m', hm, w3⟩ := hN σ3 H3 n3
      exact ⟨m', hm, k3, σ3, H3, I3, w3⟩
    | .brk, q3 => exact q3
    | .ret _, q3 => exact q3⟩
theorem ps_for {tg iter : Expr} {wi : TI} {g : TG} {tb : TS} (hp : PassesOwn (model X.prog X.w) X.A X.env X.xe) (hc : X.calm = true) (hi : PI X tg iter wi) (hg : PG X tg g) (hb : PSs X s1 tb) (hs : ∀ x, foldedSetIterable iter X.env x = pure x) :
    PS X (.For tg iter s1 [] pos) (tFor wi g tb) := ⟨fun pins s σ H D h0 I h => by
  refine wpAny_For (nxt h0 (hi.run _ _ _ _ _ h0 I h) fun v s' k' q => nxt k' q fun itv s2 k2 q2 => ?_) hs
  obtain ⟨it, fp, tn, J, H2, e, I2, T, st2, f2, W, ⟨m0, w0⟩, turn⟩ := q2
  subst e
  have stays : ∀ {H' : Hp}, (∀ b ∈ fp, H' b = none) → ∀ b ∈ fp, FpOk X pins H' b := fun hn b hb => ⟨hn b hb, (f2 b hb).2⟩
  refine codeAny_forLoop_any (fun n s' => 0 < s'.toks ∧ ∃ i σ' H', Inv X pins σ' H' s' ∧ tn i s'.heap ∧ (∀ b ∈ fp, H' b = none) ∧ W i n σ' H') ?_ m0 ⟨k2, 0, σ, H2, I2, st2, fun b hb => (f2 b hb).1, w0⟩
  rintro n s3 ⟨k3, i, σ3, H3, I3, st3, fr3, w3⟩
  rcases turn i n σ3 H3 w3 with ⟨stop, qn⟩ | ⟨go, N, hN, step⟩
  · refine wpAny_passesOwn hp (thn (T.done X rfl rfl rfl hc i _ _ _ _ X.xe I3 (stays fr3) st3 stop) fun r s4 q => ?_)
    obtain ⟨hr, I4⟩ := q
    subst hr
    exact wpAny_execs_nil ⟨σ3, H3, I4, qn⟩
  · refine wpAny_passesOwn hp (nxt k3 (T.item X rfl rfl rfl hc i _ _ _ _ X.xe I3 (stays fr3) st3 go) fun r s4 k4 q => ?_)
    obtain ⟨u, hr, h4⟩ := q
    subst hr
    refine wpAny_passesOwn hp (nxt k4 h4 fun _ s5 k5 q => ?_)
    obtain ⟨x, H5, I5, r5, y5, st5, fr5⟩ := q
    have I5' := I5.pinned (stays fr5) (T.obj _ _ st5)
    refine wpAny_passesOwn hp (nxt k5 (hg.run _ _ _ _ x u _ k5 I5' r5 (step x H5 y5)) fun _ s6 k6 q => ?_)
    obtain ⟨σ6, H6, I6, q6⟩ := q
    refine wpAny_passesOwn hp (nxt k6 (hb.run _ _ _ _ _ k6 I6 q6) fun f s7 k7 q7 => ?_)
    have pinAt : ∀ {σ7 : L2.St} {H7 : Hp}, Inv X (pins ++ pinsAt fp s5.heap) σ7 H7 s7 → ∀ b ∈ fp, ∀ ob, s5.heap.get? b = some ob → s7.heap.get? b = some ob ∧ H7 b = none := fun I7 b hb ob eo =>
      have z := I7.pin (b, ob) (List.mem_append_right _ (List.mem_append_right _ (mem_pinsAt hb eo)))
      ⟨z.1, z.2.1⟩
    have again : ∀ {σ7 : L2.St} {H7 : Hp}, Inv X (pins ++ pinsAt fp s5.heap) σ7 H7 s7 → N σ7 H7 → ∃ m, m < n ∧ 0 < s7.toks ∧ ∃ i σ' H', Inv X pins σ' H' s7 ∧ tn i s7.heap ∧ (∀ b ∈ fp, H' b = none) ∧ W i m σ' H' := fun {σ7 H7} I7 n7 => by
      obtain ⟨m', hm, w7⟩ := hN σ7 H7 n7
      refine ⟨m', hm, k7, i + 1, σ7, H7, I7.unpinned, T.keep _ _ _ st5 fun b hb ob eo => (pinAt I7 b hb ob eo).1, fun b hb => ?_, w7⟩
      obtain ⟨ob, eo, _⟩ := T.obj _ _ st5 b hb
      exact (pinAt I7 b hb ob eo).2
    match f, q7 with
    | .next, ⟨_, _, I7, n7⟩ => exact again I7 n7
    | .cont, ⟨_, _, I7, n7⟩ => exact again I7 n7
    | .brk, ⟨σ7, H7, I7, q7⟩ => exact ⟨σ7, H7, I7.unpinned, q7⟩
    | .ret _, ⟨x7, σ7, H7, I7, r7, q7⟩ => exact ⟨x7, σ7, H7, I7.unpinned, r7, q7⟩⟩
/-! ### what is walked: the value first, then the layer's own rule for it -/
theorem pi_list {tg : Expr} (hl : PE X e te) : PI X tg e (iList X.K te) := ⟨fun pins s σ H R h0 I h => thn (hl.run _ _ _ _ _ h0 I h) fun v s1 q => by
  obtain ⟨x, H1, I1, r1, l, e1, ⟨xs, hq⟩, q⟩ := q
  subst e1
  cases r1
  obtain ⟨its, rv, pl, _⟩ := I1.list hq
  refine wpAny_pyIter_list pl.isList ⟨s1.heap.objs.size, [s1.heap.objs.size], _, _, H1, rfl, I1.kept (t' := s1.toks) fun _ _ q => Heap.get?_push_of_some _ q, turn_list l _, ⟨_, Heap.get?_push_size _ rfl, rfl, rfl⟩, fun b hb => ?_, q⟩
  obtain rfl := List.mem_singleton.mp hb
  exact I1.fpOk (Nat.le_refl _) (I1.hok.fresh (Nat.le_refl _))⟩
theorem pi_tup {tg : Expr} (hl : PE X e te) : PI X tg e (iTup X.K te) := ⟨fun pins s σ H R h0 I h => thn (hl.run _ _ _ _ _ h0 I h) fun v s1 q => by
  obtain ⟨x, H1, I1, r1, l, e1, ⟨xs, hq⟩, q⟩ := q
  subst e1
  cases r1
  obtain ⟨its, rv, pl, _⟩ := I1.tuple hq
  refine wpAny_pyIter_tuple (show s1.heap.IsTuple l its.toArray from pl) ⟨s1.heap.objs.size, [s1.heap.objs.size], _, _, H1, rfl, I1.kept (t' := s1.toks) fun _ _ q => Heap.get?_push_of_some _ q, turn_tuple l _, ⟨_, Heap.get?_push_size _ rfl, rfl, rfl⟩, fun b hb => ?_, q⟩
  obtain rfl := List.mem_singleton.mp hb
  exact I1.fpOk (Nat.le_refl _) (I1.hok.fresh (Nat.le_refl _))⟩
theorem pi_str {tg : Expr} (he : PE X e te) : PI X tg e (iStr te) := ⟨fun pins s σ H R h0 I h => thn (he.run _ _ _ _ _ h0 I h) fun v s1 q => by
  obtain ⟨y, H1, I1, r1, x, ex, q⟩ := q
  subst ex
  obtain ⟨tk, rfl⟩ := r1
  by_cases hx : x.cps.all (· < 128) = true
  · exact wpAny_pyIter_ascii hx (pi_one (tk := s1.toks) I1 _ (turn_str _ x tk _ (.inl rfl)) ⟨_, Heap.get?_push_size _ rfl, rfl, rfl⟩ q)
  · exact wpAny_pyIter_wide (by simpa using hx) (pi_one (tk := s1.toks) I1 _ (turn_str _ x tk _ (.inr rfl)) ⟨_, Heap.get?_push_size _ rfl, rfl, rfl⟩ q)⟩
theorem pi_range1 {tg : Expr} (hg : Gl X "range") (hm : X.mg "range" = none) (ha : PA X [a] t) (hs : starEach [a] X.env = [(false, eval a X.env)]) : PI X tg (.Call (.Name "range" p) [a] [] pos) (iRng1 t) := ⟨fun pins s σ H R h0 I h =>
  Call_ (ld_blt I hg hm boot_range (PyProof.Rows.callWith_type1 (thn (ha.run pos _ _ _ _ _ h0 I h) fun us s1 q => by
    obtain ⟨vs, H1, I1, r1, j, ev, q1, q2, q⟩ := q
    subst ev
    obtain ⟨u, rfl, tk, rfl⟩ := vals1 r1
    exact call_range_1 (range_it I1 (by omega) (by omega) q1 q2 (by simpa using q))) hs rfl))⟩
theorem pi_range2 {tg : Expr} (hg : Gl X "range") (hm : X.mg "range" = none) (ha : PA X [a, b] t) (hs : starEach [a, b] X.env = [(false, eval a X.env), (false, eval b X.env)]) (hs2 : starEach [b] X.env = [(false, eval b X.env)]) :
    PI X tg (.Call (.Name "range" p) [a, b] [] pos) (iRng2 t) := ⟨fun pins s σ H R h0 I h =>
  Call_ (ld_blt I hg hm boot_range (PyProof.Rows.callWith_type1 (thn (ha.run pos _ _ _ _ _ h0 I h) fun us s1 q => by
    obtain ⟨vs, H1, I1, r1, i, j, ev, hb, q⟩ := q
    subst ev
    obtain ⟨u, u', rfl, ⟨tk, rfl⟩, ⟨tk', rfl⟩⟩ := vals2 r1
    exact call_range_2 (range_it I1 hb.1 hb.2.1 hb.2.2.1 hb.2.2.2 q)) (by rw [hs, hs2]) (by rw [hs2]; rfl)))⟩
theorem pi_reversed {tg : Expr} (hg : Gl X "reversed") (hm : X.mg "reversed" = none) (ha : PA X [e] t) (hs : starEach [e] X.env = [(false, eval e X.env)]) : PI X tg (.Call (.Name "reversed" p) [e] [] pos) (iRev X.K t) := ⟨fun pins s σ H R h0 I h =>
  Call_ (ld_blt I hg hm PyProof.Rows.boot_reversed (PyProof.Rows.callWith_type1 (thn (ha.run pos _ _ _ _ _ h0 I h) fun us s1 q => by
    obtain ⟨vs, H1, I1, r1, l, xs, ev, hq, q⟩ := q
    subst ev
    obtain ⟨u, rfl, ru⟩ := vals1 r1
    cases ru
    obtain ⟨its, rv, pl, _⟩ := I1.list hq
    have hl := rv.length
    have e1 : ((its.toArray.size : Nat) : Int) - 1 = (xs.length : Int) - 1 - ((0 : Nat) : Int) := by rw [List.size_toArray]; omega
    refine call_reversed_list pl.isList (wpAny_pyIter_revIter (l := l) (i := ((its.toArray.size : Nat) : Int) - 1) ⟨_, Heap.get?_push_size _ rfl, rfl, rfl⟩ (pi_one (tk := s1.toks) I1 _ (turn_rev l _ xs.length) ⟨Nat.zero_le _, ?_⟩ q))
    rw [← e1]
    exact ⟨_, Heap.get?_push_size _ rfl, rfl, rfl⟩) hs rfl))⟩
theorem pi_enum {elts : List Expr} {kk : Nat} {tpos : Pos} (hg : Gl X "enumerate") (hm : X.mg "enumerate" = none) (ha : PA X [e] t) (hs : starEach [e] X.env = [(false, eval e X.env)]) :
    PI X (.Tuple elts kk tpos) (.Call (.Name "enumerate" p) [e] [] pos) (iEnum X.K t) := ⟨fun pins s σ H R h0 I h =>
  Call_ (ld_blt I hg hm boot_enumerate (PyProof.Rows.callWith_type1 (thn (ha.run pos _ _ _ _ _ h0 I h) fun us s1 q => by
    obtain ⟨vs, H1, I1, r1, l, xs, ev, hq, q⟩ := q
    subst ev
    obtain ⟨u, rfl, ru⟩ := vals1 r1
    cases ru
    obtain ⟨its, rv, pl, _⟩ := I1.list hq
    refine call_enumerate_list pl.isList fun h' he hit hsz hk => wpAny_pyIter_enum he ⟨s1.heap.objs.size + 1, [s1.heap.objs.size + 1, s1.heap.objs.size], _, _, H1, rfl, I1.kept (t' := s1.toks) hk, turn_enum l _ _, ⟨⟨.none, he⟩, hit, Nat.succ_ne_self _⟩, fun b hb => ?_, q⟩
    have hle : s1.heap.objs.size ≤ b := by
      simp only [List.mem_cons, List.not_mem_nil, or_false] at hb
      rcases hb with z | z <;> rw [z] <;> first | exact Nat.le_refl _ | exact Nat.le_add_right _ _
    exact I1.fpOk hle (I1.hok.fresh hle)) hs rfl))⟩
theorem pi_zip {elts : List Expr} {kk : Nat} {tpos : Pos} (hg : Gl X "zip") (hm : X.mg "zip" = none) (ha : PA X [a, b] t) (hs : starEach [a, b] X.env = (false, eval a X.env) :: starEach [b] X.env) (hpl : (backTo pos (starEach [b] X.env)).any (·.1) = false) :
    PI X (.Tuple elts kk tpos) (.Call (.Name "zip" p) [a, b] [] pos) (iZip X.K t) := ⟨fun pins s σ H R h0 I h =>
  Call_ (ld_blt I hg hm PyProof.Rows.boot_zip (PyProof.Rows.callWith_type1 (thn (ha.run pos _ _ _ _ _ h0 I h) fun us s1 q => by
    obtain ⟨vs, H1, I1, r1, l, l', xs, ys, ev, hqx, hqy, q⟩ := q
    subst ev
    obtain ⟨u, u', rfl, ru, ru'⟩ := vals2 r1
    cases ru
    cases ru'
    obtain ⟨its, _, pl1, _⟩ := I1.list hqx
    obtain ⟨its2, _, pl2, _⟩ := I1.list hqy
    refine call_zip_2 pl1.isList pl2.isList fun h' hz hTI hTO z1 z2 hsz hk => wpAny_pyIter_zip hz ⟨s1.heap.objs.size + 4, [s1.heap.objs.size + 4, s1.heap.objs.size + 2, s1.heap.objs.size + 3, s1.heap.objs.size, s1.heap.objs.size + 1], _, _, H1, rfl, I1.kept (t' := s1.toks) hk,
      turn_zip (PySem.W.ktu_apart s1.heap.objs.size l l' pl1.lt pl2.lt), ⟨hz, hTI, ⟨_, _, hTO⟩, z1, z2⟩, fun b hb => ?_, q⟩
    have hle : s1.heap.objs.size ≤ b := by
      simp only [List.mem_cons, List.not_mem_nil, or_false] at hb
      rcases hb with z | z | z | z | z <;> rw [z] <;> first | exact Nat.le_refl _ | exact Nat.le_add_right _ _
    exact I1.fpOk hle (I1.hok.fresh hle)) hs hpl))⟩
/-! ### comprehensions of one clause -/
theorem pts_nil : PTs X [] tYes := ⟨fun pins s σ H Q _ I q => L2.pts_nil.run pins s σ H Q I q⟩
theorem pts_one {c : Expr} {tt : TT} (h : PT X c tt) : PTs X [c] tt := ⟨fun pins s σ H Q h0 I q => wpAny_tests_one (h.run _ _ _ _ _ h0 I q)⟩
abbrev blkX (X : Cx) (scope : Scope) (s : Shared) (H : Hp) (C : Addr) (cl : List (Str × Addr)) (fp : List Addr) : Cx := X.blk s H scope (compEnvC scope cl C X.env) fp
theorem lc_loop {elt tg iter : Expr} {ifs : List Expr} {scope : Scope} {vs : List Nat} {g : TG} {tt : TT} {pins : Pin} {s3 s4 : Shared} {σ : L2.St} {H3 : Hp} {Q : VK} {use : Option (Value → Sem Unit)} {Qf : Value → Shared → Prop}
    {ce : PySem.Env} {fp : List Addr} {it Dd : Addr} {tn : Nat → Heap → Prop} {J : It} {W : Nat → Nat → Hp → Prop} {m0 : Nat}
    (calm : X.calm = true) (I3 : Inv X pins σ H3 s3) (f3 : ∀ b ∈ fp, FpOk X pins H3 b ∧ b < s3.heap.objs.size) (I4 : Inv (X.blk s3 H3 scope ce fp) [] (wipe σ vs) H3 s4) (k4 : 0 < s4.toks)
    (T : Turn X.prog X.w X.K tg J fp it tn) (st4 : tn 0 s4.heap) (cL : ce.locals = s3.heap.objs.size) (qg : PG (X.blk s3 H3 scope ce fp) tg g) (qt : PTs (X.blk s3 H3 scope ce fp) ifs tt) (qe : PE (X.blk s3 H3 scope ce fp) elt te) (w0 : W 0 m0 H3)
    (turn : ∀ i m H, W i m H → (J.stop i H ∧ Q (.ref Dd) H) ∨ (J.go i H ∧ ∃ Nx : Hp → Prop, (∀ H', Nx H' → ∃ m', m' < m ∧ W (i + 1) m' H') ∧ ∀ x H', J.yld i H x H' → g x (wipe σ vs) H' fun σ2 H2 => wipe σ2 vs = wipe σ vs ∧ tt σ2 H2 fun b H3 =>
      if b = true then te σ2 H3 fun y H4 => ∃ acc, H4 Dd = some (.lst acc) ∧ acc.length < sizeLine ∧ Nx (upd H4 Dd (.lst (acc ++ [y]))) else Nx H3))
    (done : ∀ C s' m H', Inv X pins σ H' s' → Q (.ref Dd) H' → s'.heap.Ns C m → FpOk X pins H' C → compPost (model X.prog X.w) X.A X.xe use Qf (.ref Dd) C (.ok .next) s') :
    codeAny (model X.prog X.w) X.A (.compLoop (.ListComp elt [⟨tg, iter, ifs, 0⟩] scope pos) 0 (.ref it) (.ref Dd) ce) (compPost (model X.prog X.w) X.A X.xe use Qf (.ref Dd) s3.heap.objs.size) s4 := by
  have stays : ∀ {σ' : L2.St} {H' : Hp} {s' : Shared}, Inv (X.blk s3 H3 scope ce fp) [] σ' H' s' → (∀ b ∈ fp, H' b = none) → ∀ b ∈ fp, FpOk (X.blk s3 H3 scope ce fp) [] H' b := fun I' hn b hb =>
    have z := I'.ok.exf b hb
    ⟨hn b hb, z.1, I'.ok.exfs b hb, .inl hb, fun x c e => z.2 x c e, fun p hp => nomatch hp⟩
  refine compLoop_any (fun n s' => 0 < s'.toks ∧ ∃ i H', Inv (X.blk s3 H3 scope ce fp) [] (wipe σ vs) H' s' ∧ tn i s'.heap ∧ (∀ b ∈ fp, H' b = none) ∧ W i n H') ?_ m0 ⟨k4, 0, H3, I4, st4, fun b hb => (f3 b hb).1.1, w0⟩
  rintro n s5 ⟨k5, i, H5, I5, st5, n5, w5⟩
  rcases turn i n H5 w5 with ⟨stop, qq⟩ | ⟨go, Nx, hNx, step⟩
  · refine nxtF k5 (T.done (X.blk s3 H3 scope ce fp) rfl rfl rfl calm i [] s5 _ H5 (fun _ _ => False) I5 (stays I5 n5) st5 stop) fun r s6 k6 q => ?_
    obtain ⟨hr, I6⟩ := q
    subst hr
    have I7 : Inv X pins σ H5 s6 := I3.call' (ch := fp) I6.os I6.base I6.hok I6.bare fun b hb =>
      have z := (f3 b hb).1.2.2.2
      ⟨z.1, (f3 b hb).1.2.1, z.2.1, z.2.2⟩
    have nC : H5 s3.heap.objs.size = none := by
      rw [← cL]
      exact I6.free
    obtain ⟨mm, hn, _⟩ := I6.loc
    have hn : s6.heap.Ns s3.heap.objs.size mm := by
      rw [← cL]
      exact hn
    exact done _ s6 mm H5 I7 qq hn (I3.fpOk (Nat.le_refl _) nC)
  · refine nxtF k5 (T.item (X.blk s3 H3 scope ce fp) rfl rfl rfl calm i [] s5 _ H5 (fun _ _ => False) I5 (stays I5 n5) st5 go) fun r s6 k6 q => ?_
    obtain ⟨u, hr, h6⟩ := q
    subst hr
    refine nxtF k6 h6 fun _ s7 k7 q => ?_
    obtain ⟨x, H7, I7, r7, y7, st7, n7⟩ := q
    refine nxtF k7 (qg.run _ s7 _ H7 x u _ k7 (I7.pinned (stays I7 n7) (T.obj _ _ st7)) r7 (step x H7 y7)) fun _ s8 k8 q => ?_
    obtain ⟨σ8, H8, I8, hw8, q8⟩ := q
    refine nxtF k8 (qt.run _ s8 σ8 H8 _ k8 I8 q8) fun d s9 k9 q => ?_
    obtain ⟨H9, I9, q9⟩ := q
    have fin : ∀ {s' : Shared} {H' : Hp}, 0 < s'.toks → Inv (X.blk s3 H3 scope ce fp) ([] ++ pinsAt fp s7.heap) σ8 H' s' → Nx H' → ∃ m, m < n ∧ 0 < s'.toks ∧ ∃ i H', Inv (X.blk s3 H3 scope ce fp) [] (wipe σ vs) H' s' ∧ tn i s'.heap ∧ (∀ b ∈ fp, H' b = none) ∧ W i m H' := fun {s' H'} k' I' nx => by
      obtain ⟨m', hm, w'⟩ := hNx H' nx
      have stood : ∀ b ∈ fp, ∀ ob, s7.heap.get? b = some ob → s'.heap.get? b = some ob ∧ H' b = none := fun b hb ob eo =>
        have z := I'.pin (b, ob) (List.mem_append_right _ (List.mem_append_right _ (mem_pinsAt hb eo)))
        ⟨z.1, z.2.1⟩
      refine ⟨m', hm, k', i + 1, H', (I'.unpinned (pins := [])).weak ((congrArg List.length hw8).symm.trans (wipe_length _ _)) (fun j v e => (wipe_some (vs := vs) (hw8 ▸ e)).1), T.keep _ _ _ st7 fun b hb ob eo => (stood b hb ob eo).1, fun b hb => ?_, w'⟩
      obtain ⟨ob, eo, _⟩ := T.obj _ _ st7 b hb
      exact (stood b hb ob eo).2
    cases d with
    | false =>
      rw [if_neg Bool.false_ne_true] at q9
      rw [if_neg Bool.false_ne_true]
      exact fin k9 I9 q9
    | true =>
      rw [if_pos rfl] at q9
      rw [if_pos rfl]
      refine nxtF k9 (qe.run _ s9 σ8 H9 _ k9 I9 q9) fun z s10 k10 q => ?_
      obtain ⟨yv, H10, I10, r10, acc, hD10, hz10, nx⟩ := q
      exact nxt k10 (app_ok (E := fun _ _ => False) (Q := fun _ s' => Inv (X.blk s3 H3 scope ce fp) ([] ++ pinsAt fp s7.heap) σ8 (upd H10 Dd (.lst (acc ++ [yv]))) s') (X := X.blk s3 H3 scope ce fp) I10 hD10 hz10 r10 fun s11 I11 => I11) (fun _ s11 k11 I11 => fin k11 I11 nx) |> fun h => wpAny_mono h (fun _ _ q => q) fun _ _ z => z.elim
theorem lc_run {elt tg iter : Expr} {ifs : List Expr} {scope : Scope} {own : List (Str × Nat)} {pos' : Pos} {wi : TI} {g : TG} {tt : TT} {pins : Pin} {s : Shared} {σ : L2.St} {H : Hp} {Q : VK} {use : Option (Value → Sem Unit)} {Qf : Value → Shared → Prop}
    (calm : X.calm = true) (nd : X.N.Nodup) (h0 : 0 < s.toks) (I : Inv X pins σ H s) (hi : PI X tg iter wi) (ok : BlkOk X.N X.env.scope scope own)
    (hg : ∀ s H C cl fp, PG (blkX X scope s H C cl fp) tg g) (ht : ∀ s H C cl fp, PTs (blkX X scope s H C cl fp) ifs tt) (he : ∀ s H C cl fp, PE (blkX X scope s H C cl fp) elt te)
    (hs : ∀ x, foldedSetIterable iter X.env x = pure x) (h : tLc wi g tt te (own.map (·.2)) σ H Q)
    (done : ∀ Dd C s' m H', Inv X pins σ H' s' → Q (.ref Dd) H' → s'.heap.Ns C m → FpOk X pins H' C → compPost (model X.prog X.w) X.A X.xe use Qf (.ref Dd) C (.ok .next) s') :
    wpAny (model X.prog X.w) X.A (comprehension (.ListComp elt [⟨tg, iter, ifs, 0⟩] scope pos) scope X.env pos' (newList []) false (eval iter X.env) use) Qf X.xe s := by
  have caps : ∀ y ∈ scope.names, y.2 = .free → ∃ c, X.env.cells.lookup y.1 = some c := fun y hy e => I.ok.has _ (ok.free y hy e)
  refine wpAny_comprehension_free (use := use) rfl hs (closure_ok caps) ok.kind (fun y hy e => (ok.uniq y hy).trans (congrArg some e)) (nxt h0 (hi.run _ _ _ _ _ h0 I h) fun _ s1 k1 hx => nxt k1 hx fun itv s2 k2 q2 => ?_)
  obtain ⟨it, fp, tn, J, H2, e, I2, T, st2, f2, q⟩ := q2
  subst e
  refine wpAny_newObj_type (newEnv_comp ?_) (Nat.zero_le _)
  have hDn : H2 s2.heap.objs.size = none := I2.hok.fresh (Nat.le_refl _)
  obtain ⟨W, ⟨m0, w0⟩, turn⟩ := q _ hDn
  have grow3 : ∀ b ob, s2.heap.get? b = some ob → (s2.heap.push { cls := .type "list", data := .seq ([] : List Value).toArray }).get? b = some ob := fun b ob eo => Heap.get?_push_of_some _ eo
  have I3 : Inv X pins σ (upd H2 s2.heap.objs.size (.lst [])) { s2 with heap := s2.heap.push { cls := .type "list", data := .seq ([] : List Value).toArray } } :=
    I2.laid (t' := s2.toks) grow3 (Nat.le_refl _) ⟨Nat.zero_le _, [], 0, .nil, Heap.get?_push_size _ rfl⟩
  have f3 : ∀ b ∈ fp, FpOk X pins (upd H2 s2.heap.objs.size (.lst [])) b ∧ b < (s2.heap.push { cls := .type "list", data := .seq ([] : List Value).toArray }).objs.size := fun b hb => by
    obtain ⟨ob, eo, _⟩ := T.obj _ _ st2 b hb
    refine ⟨⟨?_, (f2 b hb).2⟩, Heap.lt_size (grow3 b ob eo)⟩
    rw [upd_ne (Nat.ne_of_lt (Heap.lt_size eo))]
    exact (f2 b hb).1
  have I4 := block_start I3 ok nd f3
  have st4 := T.keep _ _ _ st2 fun b _ ob eo => pushCells_keeps scope.names (Heap.push (s2.heap.push { cls := .type "list", data := .seq ([] : List Value).toArray }) { cls := .type "dict", data := .dict #[] }) _ _ (Heap.get?_push_of_some _ (grow3 b ob eo))
  have loop := lc_loop (pos := pos) (iter := iter) (use := use) (Qf := Qf) (Q := Q) calm I3 f3 I4 k2 T st4 rfl (hg _ _ _ _ _) (ht _ _ _ _ _) (he _ _ _ _ _) w0 turn fun C s' m H' => done _ C s' m H'
  exact codeAny_compStart_list loop (T.self X.A 0 _ _ _ st4 loop)
theorem pe_lc {elt tg iter : Expr} {ifs : List Expr} {scope : Scope} {own : List (Str × Nat)} {wi : TI} {g : TG} {tt : TT} (calm : X.calm = true) (nd : X.N.Nodup) (hi : PI X tg iter wi) (ok : BlkOk X.N X.env.scope scope own)
    (hg : ∀ s H C cl fp, PG (blkX X scope s H C cl fp) tg g) (ht : ∀ s H C cl fp, PTs (blkX X scope s H C cl fp) ifs tt) (he : ∀ s H C cl fp, PE (blkX X scope s H C cl fp) elt te) (hs : ∀ x, foldedSetIterable iter X.env x = pure x) :
    PE X (.ListComp elt [⟨tg, iter, ifs, 0⟩] scope pos) (tLc wi g tt te (own.map (·.2))) := ⟨fun pins s σ H Q h0 I h => by
  rw [eval_ListComp]
  refine lc_run calm nd h0 I hi ok hg ht he hs h fun Dd C s' m H' I' q hn f => ⟨m, hn, fun h'' sb => ?_⟩
  obtain ⟨z0, z1, _, z3, z4, z5⟩ := f
  exact ⟨.ref Dd, H', I'.turned (t' := s'.toks) (fun b ob hb eo => (sb.2 b hb).trans eo) z0 z1 z3 z4 z5, rfl, q⟩⟩
theorem ps_setLc {i : Nat} {y : Str} {py spos : Pos} {elt tg iter : Expr} {ifs : List Expr} {scope : Scope} {own : List (Str × Nat)} {wi : TI} {g : TG} {tt : TT} (calm : X.calm = true) (nd : X.N.Nodup) (hy : X.N[i]? = some y) (hyl : X.env.scope.names.lookup y = some .local)
    (hsw : swapsWith (.ListComp elt [⟨tg, iter, ifs, 0⟩] scope pos) (some (.Name y py)) spos.line X.env = pure true) (hi : PI X tg iter wi) (ok : BlkOk X.N X.env.scope scope own)
    (hg : ∀ s H C cl fp, PG (blkX X scope s H C cl fp) tg g) (ht : ∀ s H C cl fp, PTs (blkX X scope s H C cl fp) ifs tt) (he : ∀ s H C cl fp, PE (blkX X scope s H C cl fp) elt te) (hs : ∀ x, foldedSetIterable iter X.env x = pure x) :
    PS X (.Assign [.Name y py] (.ListComp elt [⟨tg, iter, ifs, 0⟩] scope pos) spos) (tAsg (tLc wi g tt te (own.map (·.2))) (gName i)) := ⟨fun pins s σ H D h0 I h => by
  rw [exec_Assign_Name_used _ _ _ _ hsw]
  refine wpAny_bind (wpAny_standAt (wpAny_bind ?_))
  have h : tLc wi g tt te (own.map (·.2)) σ H (fun x H1 => gName i x σ H1 D.nx) := h
  refine wpAny_bind (thn (lc_run (Qf := fun _ s' => SP X pins D .next s') (use := some (assign (.Name y py) X.env)) calm nd h0 I hi ok hg ht he hs h fun Dd C s' m H' I' q hn f => ?_) fun _ s' hq => wpAny_pure (wpAny_pure hq))
  refine wpAny_assign_Name (store_ok2 (v := V.ref Dd) I' nd hy (.inl hyl) rfl (fun s2 I2 hx => ?_) (.inr hyl))
  obtain ⟨l, sb, hl⟩ := hx
  obtain ⟨z0, z1, _, z3, z4, z5⟩ := f
  have hne : C ≠ l := hl.elim (fun z => z ▸ z1) fun z e => z4 y l z e.symm
  exact ⟨m, hn.sameBut sb hne, fun h3 sb3 => ⟨_, H', I2.turned (t' := s2.toks) (fun b ob hb eo => (sb3.2 b hb).trans eo) z0 z1 z3 z4 z5, q⟩⟩⟩
end
end Vl
/-! judgements of the value layer -/
namespace Vl
open PySem PySem.Spec PyProof.Rows L2

/-- the ghost of a def's run: the written part and the globals, the frozen heap and the heap at the entry, what is wished of exceptions -/
structure Gx where
  W : Wd
  I0 : Hp
  B : Hp
  Wx : WX
abbrev Gx.Sk (g : Gx) (F : List Fl) (I H : Hp) (σ : L2.St) (ρ : Env) : Prop := SOk g.W g.I0 g.B F I H σ ρ
structure FnFs where
  f : Str
  d : D
def RepX (W : Wd) (I H : Hp) (cl : Value) (ad : Option Addr) (x : Exn) : Prop :=
  ∃ C, W.mg x.cls = some (.ref C) ∧ cl = .ref C ∧ match x.arg with
    | none => ad = none
    | some (f, d) => ∃ a v, ad = some a ∧ H a = some (.xd [(f, v)]) ∧ Rep W I v d

/-- what must follow a computation whose answer is r -/
def Post (g : Gx) {α β : Type} (rep : Hp → Hp → Hp → α → β → Prop) (r : Res β) (I H : Hp) (σ : L2.St) (Q : α → Hp → Prop) : Prop := match r with
  | .ok d => ∀ v I' H', Ext I H I' H' → rep H I' H' v d → Q v H'
  | .exc x => ∀ cl ad I' H', Ext I H I' H' → RepX g.W I' H' cl ad x → g.Wx cl ad σ H'
  | .no => False
section
variable {g : Gx} {α β α' β' : Type} {rep : Hp → Hp → Hp → α → β → Prop} {rep' : Hp → Hp → Hp → α' → β' → Prop} {I H I' H' : Hp} {σ : L2.St} {Q : α → Hp → Prop} {Q' : α' → Hp → Prop}
class Anti {α β : Type} (rep : Hp → Hp → Hp → α → β → Prop) : Prop where
  anti : ∀ H0 H1 I H v d, Same H0 H1 → rep H1 I H v d → rep H0 I H v d
instance {m : Md} {W : Wd} : Anti (RepM m W) := ⟨fun _ _ _ _ _ _ x r => RepM.anti x r⟩
instance {α β : Type} {r : α → β → Prop} : Anti (fun _ _ _ b c => r b c) := ⟨fun _ _ _ _ _ _ _ r => r⟩
theorem Post.later [Anti rep] {r : Res β} (p : Post g rep r I H σ Q) (x : Ext I H I' H') : Post g rep r I' H' σ Q := by
  cases r with
  | ok d => exact fun v I2 H2 y q => p v I2 H2 (x.trans y) (Anti.anti _ _ _ _ _ _ x.b q)
  | exc e => exact fun cl ad I2 H2 y => p cl ad I2 H2 (x.trans y)
  | no => exact p
theorem Post.bind [Anti rep] {r : Res β'} {k : β' → Res β} (p : Post g rep (r.bind k) I H σ Q)
    (h : ∀ v d I1 H1, Ext I H I1 H1 → rep' H I1 H1 v d → Post g rep (k d) I1 H1 σ Q → Q' v H1) : Post g rep' r I H σ Q' := by
  cases r with
  | ok d => exact fun v I1 H1 x q => h v d I1 H1 x q (Post.later p x)
  | exc e => exact p
  | no => exact p
theorem Post.imp {r : Res β} {Q2 : α → Hp → Prop} (p : Post g rep r I H σ Q) (h : ∀ v H', Q v H' → Q2 v H') : Post g rep r I H σ Q2 := by
  cases r with
  | ok d => exact fun v I2 H2 y q => h _ _ (p v I2 H2 y q)
  | exc e => exact p
  | no => exact p
end
def ofO {α : Type} : Option α → Res α
  | some a => .ok a
  | none => .no
def asB : D → Res Bool
  | .bl b => .ok b
  | _ => .no
def asL : D → Res (List D)
  | .lst ds => .ok ds
  | _ => .no

/-! ### judgements -/
def tE (g : Gx) (m : Md) (F : List Fl) (A : Env → Res D) : TE := fun σ H Q => ∃ I ρ, g.Sk F I H σ ρ ∧ Post g (RepM m g.W) (A ρ) I H σ Q
def tT (g : Gx) (F : List Fl) (A : Env → Res Bool) : TT := fun σ H Q => ∃ I ρ, g.Sk F I H σ ρ ∧ Post g (fun _ _ _ b c => b = c) (A ρ) I H σ Q
def RepMs (W : Wd) (I H : Hp) : List Md → List V → List D → Prop
  | [], [], [] => True
  | m :: ms, v :: vs, d :: ds => RepM m W H I H v d ∧ RepMs W I H ms vs ds
  | _, _, _ => False
def tAs (g : Gx) (ms : List Md) (F : List Fl) (A : Env → Res (List D)) : TA := fun σ H Q => ∃ I ρ, g.Sk F I H σ ρ ∧ Post g (fun _ I H vs ds => RepMs g.W I H ms vs ds) (A ρ) I H σ Q
structure DE (X : Cx) (g : Gx) (m : Md) (F : List Fl) (e : PySem.Expr) (A : Env → Res D) : Prop where
  pe : PE X e (tE g m F A)
structure DT (X : Cx) (g : Gx) (F : List Fl) (e : PySem.Expr) (A : Env → Res Bool) : Prop where
  pt : PT X e (tT g F A)
structure DW (X : Cx) (g : Gx) (F : List Fl) (e : PySem.Expr) (A : Env → Res Bool) : Prop where
  pw : PW X e (tT g F A)
structure DA (X : Cx) (g : Gx) (ms : List Md) (F : List Fl) (es : List PySem.Expr) (A : Env → Res (List D)) : Prop where
  pa : PA X es (tAs g ms F A)
theorem pe_imp {X : Cx} {e : PySem.Expr} {t t' : TE} (h : PE X e t) (i : ∀ σ H Q, t' σ H Q → t σ H Q) : PE X e t' := ⟨fun pins s σ H Q h0 I q => h.run pins s σ H Q h0 I (i _ _ _ q)⟩
theorem pt_imp {X : Cx} {e : PySem.Expr} {t t' : TT} (h : PT X e t) (i : ∀ σ H Q, t' σ H Q → t σ H Q) : PT X e t' := ⟨fun pins s σ H Q h0 I q => h.run pins s σ H Q h0 I (i _ _ _ q)⟩
theorem pw_imp {X : Cx} {e : PySem.Expr} {t t' : TT} (h : PW X e t) (i : ∀ σ H Q, t' σ H Q → t σ H Q) : PW X e t' := ⟨fun wh pins s σ H Q h0 I q => h.run wh pins s σ H Q h0 I (i _ _ _ q)⟩
theorem pa_imp {X : Cx} {e : List PySem.Expr} {t t' : TA} (h : PA X e t) (i : ∀ σ H Q, t' σ H Q → t σ H Q) : PA X e t' := ⟨fun pos pins s σ H Q h0 I q => h.run pos pins s σ H Q h0 I (i _ _ _ q)⟩

section
variable {X : Cx} {g : Gx} {m m1 m2 : Md} {F : List Fl} {a b c e : PySem.Expr} {es : List PySem.Expr} {A B C : Env → Res D} {AB : Env → Res Bool} {pos p1 p2 : Pos}

/-! ### names, constants -/
def eVar (i : Nat) : Env → Res D := fun ρ => match ρ[i]? with
  | some (some d) => .ok d
  | _ => .no
def eK (d : D) : Env → Res D := fun _ => .ok d
theorem post_val {I H : Hp} {σ : L2.St} {Q : VK} {v : V} {d : D} {m : Md} (S : Same I H) (p : Post g (RepM m g.W) (.ok d) I H σ Q) (r : RepM m g.W H I H v d) : Q v H := p v I H (Ext.refl S) r
theorem de_var (i : Nat) {x : Str} (hN : X.N[i]? = some x) (hv : Vis X.env.scope x) (hf : fl F i = .frz) (hd : (x == ("__debug__" : Str)) = false := by decide) (hcd : (x == ("__classdict__" : Str)) = false := by decide) :
    DE X g .frz F (.Name x pos) (eVar i) := ⟨pe_imp (pe_var hN hv hd hcd) fun σ H Q ⟨I, ρ, S, p⟩ => by
  have q := S.at_ i
  rw [hf] at q
  obtain ⟨v, d, h1, h2, r⟩ := q
  have e : eVar i ρ = .ok d := by unfold eVar; rw [h2]
  rw [e] at p
  exact ⟨v, h1, post_val S.s p r⟩⟩
/-- a variable that is only read here -/
theorem db_var (i : Nat) {x : Str} (hN : X.N[i]? = some x) (hv : Vis X.env.scope x) (hf : fl F i ≠ .un) (hd : (x == ("__debug__" : Str)) = false := by decide) (hcd : (x == ("__classdict__" : Str)) = false := by decide) :
    DE X g .bor F (.Name x pos) (eVar i) := ⟨pe_imp (pe_var hN hv hd hcd) fun σ H Q ⟨I, ρ, S, p⟩ => by
  have q := S.at_ i
  have go : ∀ v d, σ[i]? = some (some v) → ρ[i]? = some (some d) → RepB g.W I H v d → ∃ v, σ[i]? = some (some v) ∧ Q v H := fun v d h1 h2 r => by
    have e : eVar i ρ = .ok d := by unfold eVar; rw [h2]
    rw [e] at p
    exact ⟨v, h1, post_val S.s p r⟩
  cases ef : fl F i with
  | un => exact absurd ef hf
  | frz =>
    rw [ef] at q
    obtain ⟨v, d, h1, h2, r⟩ := q
    exact go v d h1 h2 (.inl r)
  | own =>
    rw [ef] at q
    obtain ⟨l, o, d, h1, h2, b1, b2, b3, t⟩ := q
    exact go _ d h1 h2 (.inr ⟨l, o, rfl, b3, t⟩)
  | bor =>
    rw [ef] at q
    obtain ⟨v, d, h1, h2, r⟩ := q
    exact go v d h1 h2 (r.mono (Same.refl _) S.x.b)⟩
theorem de_const {v : V} {d : D} (h : PE X e (tC v)) (r : ∀ I, Rep g.W I v d) : DE X g .frz F e (eK d) := ⟨pe_imp h fun σ H Q ⟨I, ρ, S, p⟩ => post_val S.s p (r I)⟩
theorem de_int {i : Int} {j : Nat} : DE X g .frz F (.Constant (.int i) j pos) (eK (.int i)) := de_const pe_int fun _ => .int i
theorem de_bl {i : Bool} {j : Nat} : DE X g .frz F (.Constant (.bool i) j pos) (eK (.bl i)) := de_const pe_bl fun _ => .bl i
theorem de_non {j : Nat} : DE X g .frz F (.Constant .none j pos) (eK .non) := de_const pe_non fun _ => .non
theorem de_str {x : Str} {s : List Nat} {j : Nat} (hx : x = toS s := by rfl) (ho : okS s = true := by decide +kernel) : DE X g .frz F (.Constant (.str x) j pos) (eK (.str s)) := de_const pe_str fun _ => by
  rw [hx]
  exact .str s ho
/-- a constant of the module -/
theorem de_glob {x : Str} {u : Value} {v : V} {d : D} (hg : Gl X x) (hm : X.mg x = some u) (hr : RelV v u) (r : ∀ I, Rep g.W I v d) (hd : (x == ("__debug__" : Str)) = false := by decide) : DE X g .frz F (.Name x pos) (eK d) :=
  de_const (pe_glob hg hm hr hd) r
theorem DE.mono_b (h : DE X g .frz F e A) : DE X g .bor F e A := ⟨pe_imp h.pe fun σ H Q ⟨I, ρ, S, p⟩ => ⟨I, ρ, S, by
  cases q : A ρ with
  | ok d =>
    rw [q] at p
    exact fun v I' H' x r => p v I' H' x (.inl r)
  | exc x => rw [q] at p; exact p
  | no => rw [q] at p; exact p⟩⟩

/-! ### operators -/
def OpD (X : Cx) (g : Gx) (m : Md) (f : Value → Value → Sem Value) (k : D → D → Option D) : Prop := ∃ r : R2, OpR X f r ∧ ∀ I H x y d e z Q, Same I H → RepB g.W I H x d → RepB g.W I H y e → k d e = some z →
  (∀ v I' H', Ext I H I' H' → RepM m g.W H I' H' v z → Q v H') → r x y H Q
def UnD (X : Cx) (g : Gx) (f : Value → Sem Value) (k : D → Option D) : Prop := ∃ r : V → Hp → VK → Prop, UnR X f r ∧ ∀ I H x d z Q, Same I H → RepB g.W I H x d → k d = some z →
  (∀ v I' H', Ext I H I' H' → Rep g.W I' v z → Q v H') → r x H Q
def eBin (k : D → D → Option D) (A B : Env → Res D) : Env → Res D := fun ρ => (A ρ).bind fun d => (B ρ).bind fun e => ofO (k d e)
def eUn (k : D → Option D) (A : Env → Res D) : Env → Res D := fun ρ => (A ρ).bind fun d => ofO (k d)
theorem post_opt {I H : Hp} {σ : L2.St} {Q : VK} {o : Option D} {m : Md} (p : Post g (RepM m g.W) (ofO o) I H σ Q) : ∃ z, o = some z ∧ ∀ v I' H', Ext I H I' H' → RepM m g.W H I' H' v z → Q v H' := by
  cases o with
  | none => exact p.elim
  | some z => exact ⟨z, rfl, p⟩
theorem tE_bin {k : D → D → Option D} {r : R2} {m : Md}
    (hr : ∀ I H x y d e z Q, Same I H → RepB g.W I H x d → RepB g.W I H y e → k d e = some z → (∀ v I' H', Ext I H I' H' → RepM m g.W H I' H' v z → Q v H') → r x y H Q)
    {σ : L2.St} {H : Hp} {Q : VK} (h : tE g m F (eBin k A B) σ H Q) : tOp r (tE g m1 F A) (tE g m2 F B) σ H Q := by
  obtain ⟨I, ρ, S, p⟩ := h
  refine ⟨I, ρ, S, Post.bind p fun v d I1 H1 x1 r1 p1 => ?_⟩
  refine ⟨I1, ρ, S.ext x1, Post.bind p1 fun u e' I2 H2 x2 r2 p2 => ?_⟩
  obtain ⟨z, ez, fin⟩ := post_opt p2
  exact hr I2 H2 v u d e' z Q x2.s (RepB.mono x2.i x2.b r1.b) r2.b ez fin
theorem de_bin {op : Operator} {k : D → D → Option D} {m : Md} (ho : OpD X g m (binaryOp op) k) (ha : DE X g m1 F a A) (hb : DE X g m2 F b B) : DE X g m F (.BinOp a op b pos) (eBin k A B) := by
  obtain ⟨r, h1, h2⟩ := ho
  exact ⟨pe_imp (pe_op h1 ha.pe hb.pe) fun σ H Q h => tE_bin h2 h⟩
theorem de_un {op : UnaryOp} {k : D → Option D} (ho : UnD X g (unaryOp op) k) (ha : DE X g m1 F a A) : DE X g .frz F (.UnaryOp op a pos) (eUn k A) := by
  obtain ⟨r, h1, h2⟩ := ho
  exact ⟨pe_imp (pe_un h1 ha.pe) fun σ H Q ⟨I, ρ, S, p⟩ => ⟨I, ρ, S, Post.bind p fun v d I1 H1 x1 r1 p1 => by
    obtain ⟨z, ez, fin⟩ := post_opt p1
    exact h2 I1 H1 v d z Q x1.s r1.b ez fin⟩⟩
/-- what is new is frozen -/
theorem DE.fz (h : DE X g .own F e A) : DE X g .frz F e A := ⟨pe_imp h.pe fun σ H Q ⟨I, ρ, S, p⟩ => ⟨I, ρ, S, by
  cases q : A ρ with
  | ok d =>
    rw [q] at p
    rintro v I' H' x ⟨l, o, rfl, h0, hi, hh, t⟩
    refine p (.ref l) (upd I' l o) H' ⟨x.i.trans (same_upd_new hi), x.b, fun b u hb => ?_, fun b hb => ?_⟩ (t.freeze hi)
    · by_cases z : b = l
      · subst z
        rw [upd_same] at hb
        rw [hh]
        exact hb
      · rw [upd_ne z] at hb
        exact x.s _ _ hb
    · have z : b ≠ l := fun z => by
        subst z
        exact hb h0
      rw [upd_ne z]
      exact x.n b hb
  | exc x => rw [q] at p; exact p
  | no => rw [q] at p; exact p⟩⟩

/-! ### comparisons -/
def cB (m : D → D → Option Bool) : D → D → Option D := fun d e => (m d e).map D.bl
def bCmp (m : D → D → Option Bool) (A B : Env → Res D) : Env → Res Bool := fun ρ => (A ρ).bind fun d => (B ρ).bind fun e => ofO (m d e)
def eB (A : Env → Res Bool) : Env → Res D := fun ρ => (A ρ).bind fun b => .ok (.bl b)
theorem de_cmp {op : CmpOp} {m : D → D → Option Bool} (ho : OpD X g .frz (compareOp op) (cB m)) (ha : DE X g m1 F a A) (hb : DE X g m2 F b B) (hm : behindInMarks op b = false) : DE X g .frz F (.Compare a [op] [b] pos) (eBin (cB m) A B) := by
  obtain ⟨r, h1, h2⟩ := ho
  exact ⟨pe_imp (pe_cmpR h1 ha.pe hb.pe hm) fun σ H Q h => tE_bin h2 h⟩
theorem dt_cmp {op : CmpOp} {m : D → D → Option Bool} (ho : OpD X g .frz (compareOp op) (cB m)) (ha : DE X g m1 F a A) (hb : DE X g m2 F b B) (hm : behindInMarks op b = false) : DT X g F (.Compare a [op] [b] pos) (bCmp m A B) := by
  obtain ⟨r, h1, h2⟩ := ho
  refine ⟨pt_imp (pt_cmpR h1 ha.pe hb.pe hm) fun σ H Q ⟨I, ρ, S, p⟩ => ?_⟩
  refine ⟨I, ρ, S, Post.bind p fun v d I1 H1 x1 r1 p1 => ?_⟩
  refine ⟨I1, ρ, S.ext x1, Post.bind p1 fun u e' I2 H2 x2 r2 p2 => ?_⟩
  cases em : m d e' with
  | none => rw [em] at p2; exact p2.elim
  | some z =>
    rw [em] at p2
    refine h2 I2 H2 v u d e' (.bl z) _ x2.s (RepB.mono x2.i x2.b r1.b) r2.b (by unfold cB; rw [em]; rfl) fun w I3 H3 x3 r3 => ?_
    cases r3
    exact ⟨z, rfl, p2 z I3 H3 x3 rfl⟩
/-- an expression that gives True or False, as a test -/
def bVal (A : Env → Res D) : Env → Res Bool := fun ρ => (A ρ).bind asB
theorem dt_val (h : DE X g m F e A) (he : ∀ whole, isTrue e X.env whole = (do let v ← whole; standAt e.pos; holding [v] (truthy v))) : DT X g F e (bVal A) := by
  refine ⟨pt_imp (pt_val h.pe he) fun σ H Q ⟨I, ρ, S, p⟩ => ?_⟩
  refine ⟨I, ρ, S, Post.bind p fun v d I1 H1 x1 r1 p1 => ?_⟩
  cases d <;> first | exact p1.elim | skip
  have r1 := r1.b
  rcases r1 with r1 | ⟨_, _, _, _, t⟩
  · cases r1
    exact ⟨_, rfl, p1 _ I1 H1 (Ext.refl x1.s) rfl⟩
  · exact t.elim
/-! ### and, or, not; if -/
def bAnd (A B : Env → Res Bool) : Env → Res Bool := fun ρ => (A ρ).bind fun c => if c = true then B ρ else .ok false
def bOr (A B : Env → Res Bool) : Env → Res Bool := fun ρ => (A ρ).bind fun c => if c = true then .ok true else B ρ
def bNot (A : Env → Res Bool) : Env → Res Bool := fun ρ => (A ρ).bind fun c => .ok (!c)
variable {tA tB : Env → Res Bool} {rest : List PySem.Expr}
theorem dw_and1 (ha : DT X g F a tA) : DW X g F (.BoolOp .And [a] pos) tA := ⟨pw_and1 ha.pt⟩
theorem dw_or1 (ha : DT X g F a tA) : DW X g F (.BoolOp .Or [a] pos) tA := ⟨pw_or1 ha.pt⟩
theorem dw_and (ha : DT X g F a tA) (hb : DW X g F (.BoolOp .And (b :: rest) pos) tB) : DW X g F (.BoolOp .And (a :: b :: rest) pos) (bAnd tA tB) := ⟨pw_imp (pw_and ha.pt hb.pw) fun σ H Q ⟨I, ρ, S, p⟩ => by
  refine ⟨I, ρ, S, Post.bind p fun v d I1 H1 x1 r1 p1 => ?_⟩
  subst r1
  cases v with
  | true => exact iteT ⟨I1, ρ, S.ext x1, p1⟩
  | false => exact iteF (p1 false I1 H1 (Ext.refl x1.s) rfl)⟩
theorem dw_or (ha : DT X g F a tA) (hb : DW X g F (.BoolOp .Or (b :: rest) pos) tB) : DW X g F (.BoolOp .Or (a :: b :: rest) pos) (bOr tA tB) := ⟨pw_imp (pw_or ha.pt hb.pw) fun σ H Q ⟨I, ρ, S, p⟩ => by
  refine ⟨I, ρ, S, Post.bind p fun v d I1 H1 x1 r1 p1 => ?_⟩
  subst r1
  cases v with
  | true => exact iteT (p1 true I1 H1 (Ext.refl x1.s) rfl)
  | false => exact iteF ⟨I1, ρ, S.ext x1, p1⟩⟩
theorem dt_bool (h : DW X g F e tA) : DT X g F e tA := ⟨h.pw.pt⟩
theorem dt_not (ha : DT X g F a tA) : DT X g F (.UnaryOp .Not a pos) (bNot tA) := ⟨pt_imp (pt_not ha.pt) fun σ H Q ⟨I, ρ, S, p⟩ => by
  refine ⟨I, ρ, S, Post.bind p fun v d I1 H1 x1 r1 p1 => ?_⟩
  subst r1
  exact p1 _ I1 H1 (Ext.refl x1.s) rfl⟩
def eAnd (A B : Env → Res D) : Env → Res D := fun ρ => (A ρ).bind fun d => (asB d).bind fun c => if c = true then B ρ else .ok (.bl false)
def eOr (A B : Env → Res D) : Env → Res D := fun ρ => (A ρ).bind fun d => (asB d).bind fun c => if c = true then .ok (.bl true) else B ρ
def eNot (A : Env → Res D) : Env → Res D := fun ρ => (A ρ).bind fun d => (asB d).bind fun c => .ok (.bl (!c))
theorem de_one {op} (h : DE X g m F a A) : DE X g m F (.BoolOp op [a] pos) A := ⟨pe_one h.pe⟩
theorem repB_bl {W : Wd} {I H : Hp} {v : V} {b : Bool} (r : RepB W I H v (.bl b)) : v = .bl b := by
  rcases r with r | ⟨_, _, _, _, t⟩
  · cases r
    rfl
  · exact t.elim
theorem de_and (ha : DE X g m1 F a A) (hb : DE X g .frz F (.BoolOp .And (b :: rest) pos) B) : DE X g .frz F (.BoolOp .And (a :: b :: rest) pos) (eAnd A B) := ⟨pe_imp (pe_and ha.pe hb.pe) fun σ H Q ⟨I, ρ, S, p⟩ => by
  refine ⟨I, ρ, S, Post.bind p fun v d I1 H1 x1 r1 p1 => ?_⟩
  cases d <;> first | exact p1.elim | skip
  rename_i c
  refine ⟨c, repB_bl r1.b, ?_⟩
  cases c with
  | true => exact iteT ⟨I1, ρ, S.ext x1, p1⟩
  | false => exact iteF (p1 _ I1 H1 (Ext.refl x1.s) (.bl false))⟩
theorem de_or (ha : DE X g m1 F a A) (hb : DE X g .frz F (.BoolOp .Or (b :: rest) pos) B) : DE X g .frz F (.BoolOp .Or (a :: b :: rest) pos) (eOr A B) := ⟨pe_imp (pe_or ha.pe hb.pe) fun σ H Q ⟨I, ρ, S, p⟩ => by
  refine ⟨I, ρ, S, Post.bind p fun v d I1 H1 x1 r1 p1 => ?_⟩
  cases d <;> first | exact p1.elim | skip
  rename_i c
  refine ⟨c, repB_bl r1.b, ?_⟩
  cases c with
  | true => exact iteT (p1 _ I1 H1 (Ext.refl x1.s) (.bl true))
  | false => exact iteF ⟨I1, ρ, S.ext x1, p1⟩⟩
theorem de_not (ha : DE X g m1 F a A) : DE X g .frz F (.UnaryOp .Not a pos) (eNot A) := ⟨pe_imp (pe_not ha.pe) fun σ H Q ⟨I, ρ, S, p⟩ => by
  refine ⟨I, ρ, S, Post.bind p fun v d I1 H1 x1 r1 p1 => ?_⟩
  cases d <;> first | exact p1.elim | skip
  rename_i c
  exact ⟨c, repB_bl r1.b, p1 _ I1 H1 (Ext.refl x1.s) (.bl _)⟩⟩
def eIf (T : Env → Res Bool) (A B : Env → Res D) : Env → Res D := fun ρ => (T ρ).bind fun c => if c = true then A ρ else B ρ
theorem de_ifExp (hc : DT X g F c tA) (ha : DE X g m F a A) (hb : DE X g m F b B) : DE X g m F (.IfExp c a b pos) (eIf tA A B) := ⟨pe_imp (pe_ifExp hc.pt ha.pe hb.pe) fun σ H Q ⟨I, ρ, S, p⟩ => by
  refine ⟨I, ρ, S, Post.bind p fun v d I1 H1 x1 r1 p1 => ?_⟩
  subst r1
  cases v with
  | true => exact iteT ⟨I1, ρ, S.ext x1, p1⟩
  | false => exact iteF ⟨I1, ρ, S.ext x1, p1⟩⟩

/-! ### argument lists, displays -/
def aNil : Env → Res (List D) := fun _ => .ok []
def aCons (A : Env → Res D) (L : Env → Res (List D)) : Env → Res (List D) := fun ρ => (A ρ).bind fun d => (L ρ).bind fun ds => .ok (d :: ds)
variable {L : Env → Res (List D)} {ms : List Md}
theorem da_nil : DA X g [] F [] aNil := ⟨pa_imp pa_nil fun σ H Q ⟨I, ρ, S, p⟩ => p [] I H (Ext.refl S.s) trivial⟩
instance {ms : List Md} {W : Wd} : Anti (fun _ I H vs ds => RepMs W I H ms vs ds) := ⟨fun _ _ _ _ _ _ _ r => r⟩
theorem da_cons (ha : DE X g m F a A) (hr : DA X g ms F es L) (hn : m ≠ .own := by decide) (hs : starEach (a :: es) X.env = (false, eval a X.env) :: starEach es X.env := by rfl) : DA X g (m :: ms) F (a :: es) (aCons A L) := ⟨pa_imp (pa_cons ha.pe hr.pa hs) fun σ H Q ⟨I, ρ, S, p⟩ => by
  refine ⟨I, ρ, S, Post.bind p fun v d I1 H1 x1 r1 p1 => ?_⟩
  refine ⟨I1, ρ, S.ext x1, Post.bind p1 fun vs ds I2 H2 x2 r2 p2 => ?_⟩
  exact p2 (v :: vs) I2 H2 (Ext.refl x2.s) ⟨(r1.mono x2).any hn, r2⟩⟩
theorem RepMs.frozen {W : Wd} {I H : Hp} : ∀ {ms : List Md} {vs : List V} {ds : List D}, (∀ m ∈ ms, m = .frz) → RepMs W I H ms vs ds → Reps W I vs ds
  | [], [], [], _, _ => .nil
  | m :: ms, _ :: _, _ :: _, h, ⟨a, b⟩ => by
    obtain rfl := h m (by simp)
    exact .cons a (RepMs.frozen (fun m hm => h m (by simp [hm])) b)
  | [], [], _ :: _, _, r => r.elim
  | [], _ :: _, _, _, r => r.elim
  | _ :: _, [], _, _, r => r.elim
  | _ :: _, _ :: _, [], _, r => r.elim
def RepBs (W : Wd) (I H : Hp) : List V → List D → Prop
  | [], [] => True
  | v :: vs, d :: ds => RepB W I H v d ∧ RepBs W I H vs ds
  | _, _ => False
theorem RepMs.bor {W : Wd} {I H : Hp} : ∀ {ms : List Md} {vs : List V} {ds : List D}, RepMs W I H ms vs ds → RepBs W I H vs ds
  | [], [], [], _ => trivial
  | _ :: _, _ :: _, _ :: _, ⟨a, b⟩ => ⟨a.b, RepMs.bor b⟩
  | [], [], _ :: _, r => r.elim
  | [], _ :: _, _, r => r.elim
  | _ :: _, [], _, r => r.elim
  | _ :: _, _ :: _, [], r => r.elim
def fit {α : Type} (ds : List D) (x : α) : Res α := if ds.length ≤ sizeLine then .ok x else .no
def eLst (L : Env → Res (List D)) : Env → Res D := fun ρ => (L ρ).bind fun ds => fit ds (.lst ds)
def eTup (L : Env → Res (List D)) : Env → Res D := fun ρ => (L ρ).bind fun ds => fit ds (.tup ds)
theorem post_fit {I H : Hp} {σ : L2.St} {Q : VK} {ds : List D} {d : D} {m : Md} (p : Post g (RepM m g.W) (fit ds d) I H σ Q) : ds.length ≤ sizeLine ∧ ∀ v I' H', Ext I H I' H' → RepM m g.W H I' H' v d → Q v H' := by
  unfold fit at p
  split at p
  · exact ⟨by assumption, p⟩
  · exact p.elim
theorem new_lst {W : Wd} {I H : Hp} {q : Addr} {vs : List V} {ds : List D} (s : Same I H) (nq : H q = none) (hl : ds.length ≤ sizeLine) (rs : Reps W I vs ds) : Ext I H I (upd H q (.lst vs)) ∧ RepM .own W H I (upd H q (.lst vs)) (.ref q) (.lst ds) :=
  ⟨Ext.fresh s nq, q, _, rfl, nq, Same.none s nq, upd_same, vs, rfl, hl, rs⟩
theorem de_lst (h : DA X g ms F es L) (hm : ∀ m ∈ ms, m = .frz := by decide) : DE X g .own F (.List es pos) (eLst L) := ⟨pe_imp (pe_lst h.pa) fun σ H Q ⟨I, ρ, S, p⟩ => by
  refine ⟨I, ρ, S, Post.bind p fun vs ds I1 H1 x1 r1 p1 => ?_⟩
  obtain ⟨hl, fin⟩ := post_fit p1
  have rs := r1.frozen hm
  refine ⟨by rw [rs.length]; exact hl, fun q nq => ?_⟩
  obtain ⟨x, r⟩ := new_lst x1.s nq hl rs
  exact fin _ _ _ x r⟩
theorem de_tup {k} (h : DA X g ms F es L) (hm : ∀ m ∈ ms, m = .frz := by decide) : DE X g .frz F (.Tuple es k pos) (eTup L) := ⟨pe_imp (pe_tup h.pa) fun σ H Q ⟨I, ρ, S, p⟩ => by
  refine ⟨I, ρ, S, Post.bind p fun vs ds I1 H1 x1 r1 p1 => ?_⟩
  obtain ⟨hl, fin⟩ := post_fit p1
  have rs := r1.frozen hm
  refine ⟨by rw [rs.length]; exact hl, fun q nq => ?_⟩
  have x := Ext.new (o := .tup vs) x1.s nq
  exact fin _ _ _ x (.tup (.inl (.inl upd_same)) hl (rs.mono x.i))⟩

/-! ### calls of built-ins by name -/
def CallD (X : Cx) (g : Gx) (m : Md) (f : Value) (k : List D → Option D) : Prop := ∃ r : List V → Hp → VK → Prop, CallR X f r ∧ ∀ I H xs ds z Q, Same I H → RepBs g.W I H xs ds → k ds = some z →
  (∀ v I' H', Ext I H I' H' → RepM m g.W H I' H' v z → Q v H') → r xs H Q
def eCall (m : List D → Option D) (L : Env → Res (List D)) : Env → Res D := fun ρ => (L ρ).bind fun ds => ofO (m ds)
theorem de_blt {x : Str} {id : String} {f : List D → Option D} (hc : CallD X g m (.builtin id) f) (hg : Gl X x) (hm : X.mg x = none) (hv : bootBuiltins x = some (.builtin id)) (ha : DA X g ms F (e :: es) L)
    (hn : x ≠ "__name__" := by decide) (hdb : (x == ("__debug__" : Str)) = false := by decide) (he : starEach (e :: es) X.env = (false, eval e X.env) :: starEach es X.env := by rfl) (hpl : (backTo pos (starEach es X.env)).any (·.1) = false := by rfl) :
    DE X g m F (.Call (.Name x p1) (e :: es) [] pos) (eCall f L) := by
  obtain ⟨r, h1, h2⟩ := hc
  exact ⟨pe_imp (pe_callB h1 hg hm hv ha.pa hn hdb he hpl) fun σ H Q ⟨I, ρ, S, p⟩ => ⟨I, ρ, S, Post.bind p fun vs ds I1 H1 x1 r1 p1 => by
    obtain ⟨z, ez, fin⟩ := post_opt p1
    exact h2 I1 H1 vs ds z Q x1.s r1.bor ez fin⟩⟩
theorem de_ty {x : Str} {T : String} {f : List D → Option D} (hc : CallD X g m (.type T) f) (hg : Gl X x) (hm : X.mg x = none) (hv : bootBuiltins x = some (.type T)) (ha : DA X g ms F (e :: es) L)
    (hn : x ≠ "__name__" := by decide) (hdb : (x == ("__debug__" : Str)) = false := by decide) (he : starEach (e :: es) X.env = (false, eval e X.env) :: starEach es X.env := by rfl) (hpl : (backTo pos (starEach es X.env)).any (·.1) = false := by rfl) :
    DE X g m F (.Call (.Name x p1) (e :: es) [] pos) (eCall f L) := by
  obtain ⟨r, h1, h2⟩ := hc
  exact ⟨pe_imp (pe_callTy h1 hg hm hv ha.pa hn hdb he hpl) fun σ H Q ⟨I, ρ, S, p⟩ => ⟨I, ρ, S, Post.bind p fun vs ds I1 H1 x1 r1 p1 => by
    obtain ⟨z, ez, fin⟩ := post_opt p1
    exact h2 I1 H1 vs ds z Q x1.s r1.bor ez fin⟩⟩
end
end Vl
/-! statements, calls of own defs, what a def promises -/
namespace Vl
open PySem PySem.Spec PyProof.Rows L2

/-! ### slots set -/
section
variable {W : Wd} {I0 B I I' H H' : Hp} {F F' : List Fl} {σ : L2.St} {ρ : Env}
theorem fl_set_self {F : List Fl} {i : Nat} {f : Fl} (h : i < F.length) : fl (F.set i f) i = f := by
  unfold fl
  rw [List.getD_eq_getElem?_getD, List.getElem?_set_self h]
  rfl
theorem fl_set_ne {F : List Fl} {i j : Nat} {f : Fl} (h : i ≠ j) : fl (F.set i f) j = fl F j := by
  unfold fl
  rw [List.getD_eq_getElem?_getD, List.getD_eq_getElem?_getD, List.getElem?_set_ne h]
theorem SOk.set (S : SOk W I0 B F I H σ ρ) {i : Nat} (hi : i < F.length) {v : V} {d : D} (r : Rep W I v d) : SOk W I0 B (F.set i .frz) I H (σ.set i (some v)) (ρ.set i (some d)) := by
  have h1 : i < σ.length := Nat.lt_of_lt_of_le hi S.lenF
  have h2 : i < ρ.length := by rw [← S.len]; exact h1
  refine ⟨S.x, by rw [List.length_set, List.length_set]; exact S.len, by rw [List.length_set, List.length_set]; exact S.lenF, fun j => ?_, fun j k a hjk hj hk e => ?_⟩
  · by_cases hij : i = j
    · subst hij
      rw [fl_set_self hi, List.getElem?_set_self h1, List.getElem?_set_self h2]
      exact ⟨v, d, rfl, rfl, r⟩
    · rw [fl_set_ne hij, List.getElem?_set_ne hij, List.getElem?_set_ne hij]
      exact S.at_ j
  · have n1 : i ≠ j := fun z => by
      subst z
      rw [fl_set_self hi] at hj
      cases hj
    have n2 : i ≠ k := fun z => by
      subst z
      rw [fl_set_self hi] at hk
      cases hk
    rw [fl_set_ne n1] at hj
    rw [fl_set_ne n2] at hk
    rw [List.getElem?_set_ne n1] at e
    rw [List.getElem?_set_ne n2]
    exact S.dis j k a hjk hj hk e
/-- a new object becomes this def's -/
theorem SOk.setOwn (S : SOk W I0 B F I H σ ρ) (x : Ext I H I' H') {i : Nat} (hi : i < F.length) {v : V} {d : D} (r : RepM .own W H I' H' v d) : SOk W I0 B (F.set i .own) I' H' (σ.set i (some v)) (ρ.set i (some d)) := by
  obtain ⟨a, o, rfl, h0, b2, b3, t⟩ := r
  have h1 : i < σ.length := Nat.lt_of_lt_of_le hi S.lenF
  have h2 : i < ρ.length := by rw [← S.len]; exact h1
  have S' := S.ext x
  have old : ∀ j b, fl F j = .own → σ[j]? = some (some (V.ref b)) → b ≠ a := fun j b e hs z => by
    have q := S.at_ j
    rw [e] at q
    obtain ⟨b', o', d', e1, _, _, _, e3, _⟩ := q
    rw [hs] at e1
    injection e1 with e1
    injection e1 with e1
    injection e1 with e1
    subst e1
    subst z
    rw [h0] at e3
    cases e3
  refine ⟨S'.x, by rw [List.length_set, List.length_set]; exact S.len, by rw [List.length_set, List.length_set]; exact S.lenF, fun j => ?_, fun j k b hjk hj hk e => ?_⟩
  · by_cases hij : i = j
    · subst hij
      rw [fl_set_self hi, List.getElem?_set_self h1, List.getElem?_set_self h2]
      exact ⟨a, o, d, rfl, rfl, Same.none S.x.b h0, b2, b3, t⟩
    · rw [fl_set_ne hij, List.getElem?_set_ne hij, List.getElem?_set_ne hij]
      exact S'.at_ j
  · by_cases n1 : i = j
    · subst n1
      have n2 : i ≠ k := hjk
      rw [List.getElem?_set_self h1] at e
      injection e with e
      injection e with e
      injection e with e
      subst e
      rw [List.getElem?_set_ne n2]
      rw [fl_set_ne n2] at hk
      exact fun z => old k a hk z rfl
    · rw [fl_set_ne n1] at hj
      rw [List.getElem?_set_ne n1] at e
      by_cases n2 : i = k
      · subst n2
        rw [List.getElem?_set_self h1]
        intro z
        injection z with z
        injection z with z
        injection z with z
        exact old j b hj e z.symm
      · rw [fl_set_ne n2] at hk
        rw [List.getElem?_set_ne n2]
        exact S.dis j k b hjk hj hk e
/-- an object of this def's is changed -/
theorem SOk.upd (S : SOk W I0 B F I H σ ρ) {i : Nat} {a : Addr} {o : HO} {d : D} (hf : fl F i = .own) (hs : σ[i]? = some (some (.ref a))) (t : Top W I o d) : SOk W I0 B F I (upd H a o) σ (ρ.set i (some d)) := by
  have q := S.at_ i
  rw [hf] at q
  obtain ⟨a', o0, d0, e1, e2, b1, b2, b3, t0⟩ := q
  rw [hs] at e1
  injection e1 with e1
  injection e1 with e1
  injection e1 with e1
  subst e1
  have h2 : i < ρ.length := (List.getElem?_eq_some_iff.mp e2).1
  refine ⟨⟨S.x.i, fun b u h => ?_, fun b u h => ?_, S.x.n⟩, by rw [List.length_set]; exact S.len, S.lenF, fun j => ?_, S.dis⟩
  · rw [upd_ne (ne_of_none h b1)]
    exact S.x.b _ _ h
  · rw [upd_ne (ne_of_none h b2)]
    exact S.x.s _ _ h
  · by_cases hij : i = j
    · subst hij
      rw [hf, List.getElem?_set_self h2]
      exact ⟨a, o, d, hs, rfl, b1, b2, upd_same, t⟩
    · rw [List.getElem?_set_ne hij]
      have q := S.at_ j
      cases ef : fl F j with
      | un => trivial
      | frz => rw [ef] at q; exact q
      | own =>
        rw [ef] at q
        obtain ⟨a', o', d', h1', h2', b1', b2', b3', t'⟩ := q
        have z : a' ≠ a := fun z => by
          subst z
          exact S.dis i j a' hij hf ef hs h1'
        exact ⟨a', o', d', h1', h2', b1', b2', by rw [upd_ne z]; exact b3', t'⟩
      | bor => rw [ef] at q; exact q
end

/-! ### what a statement leads to -/
inductive Flw where
  | nx (ρ : Env) | ret (d : D) | bk (ρ : Env) | ct (ρ : Env) | exc (x : Exn) (ρ : Env) | no
/-- the words of the slots at a break, a continue, an exception -/
structure Lp where
  b : List Fl
  c : List Fl
  x : List Fl
def PostS (g : Gx) (rm : Md) (lp : Lp) (F' : List Fl) (I0 : Hp) (r : Flw) (D : Ends) : Prop := match r with
  | .nx ρ => ∀ σ I H, Same I0 I → g.Sk F' I H σ ρ → D.nx σ H
  | .ret d => ∀ v I H, Ext g.I0 g.B I H → RepM rm g.W g.B I H v d → D.rt v H
  | .bk ρ => ∀ σ I H, Same I0 I → g.Sk lp.b I H σ ρ → D.bk σ H
  | .ct ρ => ∀ σ I H, Same I0 I → g.Sk lp.c I H σ ρ → D.ct σ H
  | .exc x ρ => ∀ cl ad σ I H, Same I0 I → g.Sk lp.x I H σ ρ → RepX g.W I H cl ad x → g.Wx cl ad σ H
  | .no => False
def Res.fl {α : Type} (r : Res α) (ρ : Env) (k : α → Flw) : Flw := match r with
  | .ok a => k a
  | .exc x => .exc x ρ
  | .no => .no
def tS (g : Gx) (rm : Md) (lp : Lp) (F F' : List Fl) (A : Env → Flw) : TS := fun D σ H => ∃ I ρ, g.Sk F I H σ ρ ∧ PostS g rm lp F' I (A ρ) D
theorem PostS.later {g : Gx} {rm : Md} {lp : Lp} {F' : List Fl} {I I' : Hp} {r : Flw} {D : Ends} (m : Same I I') (p : PostS g rm lp F' I r D) : PostS g rm lp F' I' r D := by
  cases r with
  | nx ρ => exact fun σ I2 H h => p σ I2 H (m.trans h)
  | ret d => exact p
  | bk ρ => exact fun σ I2 H h => p σ I2 H (m.trans h)
  | ct ρ => exact fun σ I2 H h => p σ I2 H (m.trans h)
  | exc x ρ => exact fun cl ad σ I2 H h => p cl ad σ I2 H (m.trans h)
  | no => exact p
structure DS (X : Cx) (g : Gx) (rm : Md) (lp : Lp) (F F' : List Fl) (s : Stmt) (A : Env → Flw) : Prop where
  ps : PS X s (tS g rm lp F F' A)
structure DSs (X : Cx) (g : Gx) (rm : Md) (lp : Lp) (F F' : List Fl) (s : List Stmt) (A : Env → Flw) : Prop where
  pss : PSs X s (tS g rm lp F F' A)
theorem ps_imp {X : Cx} {s : Stmt} {t t' : TS} (h : PS X s t) (i : ∀ D σ H, t' D σ H → t D σ H) : PS X s t' := ⟨fun pins s σ H D h0 I q => h.run pins s σ H D h0 I (i _ _ _ q)⟩
theorem pss_imp {X : Cx} {s : List Stmt} {t t' : TS} (h : PSs X s t) (i : ∀ D σ H, t' D σ H → t D σ H) : PSs X s t' := ⟨fun pins s σ H D h0 I q => h.run pins s σ H D h0 I (i _ _ _ q)⟩
theorem RepX.mono {W : Wd} {I I' H : Hp} (m : Same I I') {cl : Value} {ad : Option Addr} {x : Exn} (r : RepX W I H cl ad x) : RepX W I' H cl ad x := by
  obtain ⟨C, h1, h2, h3⟩ := r
  refine ⟨C, h1, h2, ?_⟩
  cases e : x.arg with
  | none => rw [e] at h3; exact h3
  | some p =>
    rw [e] at h3
    obtain ⟨a, v, h4, h5, h6⟩ := h3
    exact ⟨a, v, h4, h5, h6.mono m⟩

section
variable {X : Cx} {g : Gx} {m m1 m2 rm : Md} {lp : Lp} {F F1 F2 F' : List Fl} {a b c e : PySem.Expr} {es : List PySem.Expr} {A B : Env → Res D} {T : Env → Res Bool} {SA SB : Env → Flw} {L : Env → Res (List D)} {ms : List Md}
  {pos p1 p2 : Pos} {st : Stmt} {rest s1 s2 : List Stmt}

/-- an expression of a statement, then the statement's own work -/
theorem post_of {α β : Type} {rep : Hp → Hp → Hp → α → β → Prop} {r : Res β} {k : β → Flw} {I H : Hp} {σ : L2.St} {ρ : Env} {D : Ends} {Q : α → Hp → Prop} (S : g.Sk F I H σ ρ) (hx : Wk F lp.x = true) (p : PostS g rm lp F' I (r.fl ρ k) D)
    (h : ∀ v d I1 H1, Ext I H I1 H1 → rep H I1 H1 v d → g.Sk F I1 H1 σ ρ → PostS g rm lp F' I1 (k d) D → Q v H1) : Post g rep r I H σ Q := by
  cases r with
  | ok d => exact fun v I1 H1 x q => h v d I1 H1 x q (S.ext x) (PostS.later x.i p)
  | exc e =>
    intro cl ad I1 H1 x rx
    obtain ⟨I2, m, S2⟩ := (S.ext x).weak hx
    exact p cl ad σ I2 H1 (x.i.trans m) S2 (rx.mono m)
  | no => exact p
/-- forgetting, freezing ahead of a statement -/
theorem DS.pre (w : Wk F F1 = true) (h : DS X g rm lp F1 F' st SA) : DS X g rm lp F F' st SA := ⟨ps_imp h.ps fun D σ H ⟨I, ρ, S, p⟩ => by
  obtain ⟨I', m, S'⟩ := SOk.weak S w
  exact ⟨I', ρ, S', PostS.later m p⟩⟩
theorem DSs.pre (w : Wk F F1 = true) (h : DSs X g rm lp F1 F' rest SA) : DSs X g rm lp F F' rest SA := ⟨pss_imp h.pss fun D σ H ⟨I, ρ, S, p⟩ => by
  obtain ⟨I', m, S'⟩ := SOk.weak S w
  exact ⟨I', ρ, S', PostS.later m p⟩⟩
def sNil : Env → Flw := .nx
def sSeq (A B : Env → Flw) : Env → Flw := fun ρ => match A ρ with
  | .nx ρ' => B ρ'
  | r => r
theorem dss_nil (w : Wk F F' = true) : DSs X g rm lp F F' [] sNil := ⟨pss_imp pss_nil fun D σ H ⟨I, ρ, S, p⟩ => by
  obtain ⟨I', m, S'⟩ := SOk.weak S w
  exact p σ I' H m S'⟩
theorem dss_cons (h1 : DS X g rm lp F F1 st SA) (h2 : DSs X g rm lp F1 F' rest SB) : DSs X g rm lp F F' (st :: rest) (sSeq SA SB) := ⟨pss_imp (pss_cons h1.ps h2.pss) fun D σ H ⟨I, ρ, S, p⟩ => by
  refine ⟨I, ρ, S, ?_⟩
  unfold sSeq at p
  cases q : SA ρ with
  | nx ρ' => rw [q] at p; exact fun σ' I' H' m S' => ⟨I', ρ', S', PostS.later m p⟩
  | ret d => rw [q] at p; exact p
  | bk ρ' => rw [q] at p; exact p
  | ct ρ' => rw [q] at p; exact p
  | exc x ρ' => rw [q] at p; exact p
  | no => rw [q] at p; exact p⟩
def sSet (i : Nat) (A : Env → Res D) : Env → Flw := fun ρ => (A ρ).fl ρ fun d => .nx (ρ.set i (some d))
/-- name = e -/
theorem ds_set {i : Nat} {x : Str} {pos' : Pos} (hN : X.N.Nodup) (hi : X.N[i]? = some x) (hx : Loc X.env.scope x) (hf : X.fn x = true ∨ X.env.scope.names.lookup x = some .local) (he : DE X g .frz F e A) (hl : i < F.length) (hw : Wk F lp.x = true)
    (hs : swapsWith e (some (.Name x pos')) pos.line X.env = pure false) : DS X g rm lp F (F.set i .frz) (.Assign [.Name x pos'] e pos) (sSet i A) :=
  ⟨ps_imp (Vl.ps_set hN hi hx he.pe hs hf) fun D σ H ⟨I, ρ, S, p⟩ => ⟨I, ρ, S, post_of S hw p fun v d I1 H1 x1 r S1 p1 => p1 _ I1 H1 (Same.refl _) (S1.set hl r)⟩⟩
theorem ds_setOwn {i : Nat} {x : Str} {pos' : Pos} (hN : X.N.Nodup) (hi : X.N[i]? = some x) (hx : Loc X.env.scope x) (hf : X.fn x = true ∨ X.env.scope.names.lookup x = some .local) (he : DE X g .own F e A) (hl : i < F.length) (hw : Wk F lp.x = true)
    (hs : swapsWith e (some (.Name x pos')) pos.line X.env = pure false) : DS X g rm lp F (F.set i .own) (.Assign [.Name x pos'] e pos) (sSet i A) :=
  ⟨ps_imp (Vl.ps_set hN hi hx he.pe hs hf) fun D σ H ⟨I, ρ, S, p⟩ => ⟨I, ρ, S, post_of S hw p fun v d I1 H1 x1 r S1 p1 => p1 _ I1 H1 (Same.refl _) (S.setOwn x1 hl r)⟩⟩
def sRet (A : Env → Res D) : Env → Flw := fun ρ => (A ρ).fl ρ .ret
theorem ds_ret (he : DE X g rm F e A) (hw : Wk F lp.x = true) : DS X g rm lp F F' (.Return (some e) pos) (sRet A) :=
  ⟨ps_imp (ps_ret he.pe) fun D σ H ⟨I, ρ, S, p⟩ => ⟨I, ρ, S, post_of S hw p fun v d I1 H1 x1 r S1 p1 => p1 v I1 H1 S1.x (RepM.anti S.x.b r)⟩⟩
/-- return of a list of this def's own -/
theorem ds_retOwn {i : Nat} {x : Str} {p0 : Pos} (hN : X.N[i]? = some x) (hv : Vis X.env.scope x) (hf : fl F i = .own) (hd : (x == ("__debug__" : Str)) = false := by decide) (hcd : (x == ("__classdict__" : Str)) = false := by decide) :
    DS X g .own lp F F' (.Return (some (.Name x p0)) pos) (sRet (eVar i)) := ⟨ps_imp (ps_ret (pe_var hN hv hd hcd)) fun D σ H ⟨I, ρ, S, p⟩ => by
  have q := S.at_ i
  rw [hf] at q
  obtain ⟨l, o, d, h1, h2, b1, b2, b3, t⟩ := q
  have e : sRet (eVar i) ρ = .ret d := by unfold sRet eVar Res.fl; rw [h2]
  rw [e] at p
  exact ⟨_, h1, p _ I H S.x ⟨l, o, rfl, b1, b2, b3, t⟩⟩⟩
def sRetN : Env → Flw := fun _ => .ret .non
theorem ds_retN : DS X g .frz lp F F' (.Return none pos) sRetN := ⟨ps_imp ps_retN fun D σ H ⟨I, ρ, S, p⟩ => p .non I H S.x .non⟩
def sIf (T : Env → Res Bool) (A B : Env → Flw) : Env → Flw := fun ρ => (T ρ).fl ρ fun c => if c = true then A ρ else B ρ
theorem ds_if (hc : DT X g F c T) (ha : DSs X g rm lp F F' s1 SA) (hb : DSs X g rm lp F F' s2 SB) (hw : Wk F lp.x = true) : DS X g rm lp F F' (.If c s1 s2 pos) (sIf T SA SB) :=
  ⟨ps_imp (ps_if hc.pt ha.pss hb.pss) fun D σ H ⟨I, ρ, S, p⟩ => ⟨I, ρ, S, post_of S hw p fun v d I1 H1 x1 r S1 p1 => by
    subst r
    cases v with
    | true => exact iteT ⟨I1, ρ, S1, p1⟩
    | false => exact iteF ⟨I1, ρ, S1, p1⟩⟩⟩
theorem ds_pass (w : Wk F F' = true) : DS X g rm lp F F' (.Pass pos) sNil := ⟨ps_imp ps_pass fun D σ H ⟨I, ρ, S, p⟩ => by
  obtain ⟨I', m, S'⟩ := SOk.weak S w
  exact p σ I' H m S'⟩
theorem ds_break (w : Wk F lp.b = true) : DS X g rm lp F F' (.Break pos) .bk := ⟨ps_imp ps_break fun D σ H ⟨I, ρ, S, p⟩ => by
  obtain ⟨I', m, S'⟩ := SOk.weak S w
  exact p σ I' H m S'⟩
theorem ds_continue (w : Wk F lp.c = true) : DS X g rm lp F F' (.Continue pos) .ct := ⟨ps_imp ps_continue fun D σ H ⟨I, ρ, S, p⟩ => by
  obtain ⟨I', m, S'⟩ := SOk.weak S w
  exact p σ I' H m S'⟩
def sExpr (A : Env → Res D) : Env → Flw := fun ρ => (A ρ).fl ρ fun _ => .nx ρ
theorem ds_expr (he : DE X g m F e A) (hw : Wk F lp.x = true) (hs : swapsWith e none pos.line X.env = pure false) : DS X g rm lp F F (.Expr e pos) (sExpr A) :=
  ⟨ps_imp (Vl.ps_expr he.pe hs) fun D σ H ⟨I, ρ, S, p⟩ => ⟨I, ρ, S, post_of S hw p fun v d I1 H1 x1 r S1 p1 => p1 _ I1 H1 (Same.refl _) S1⟩⟩

/-! ### lists of one's own changed -/
def sApp (i : Nat) (A : Env → Res D) : Env → Flw := fun ρ => match ρ[i]? with
  | some (some (.lst ds)) => (A ρ).fl ρ fun d => if ds.length < sizeLine then .nx (ρ.set i (some (.lst (ds ++ [d])))) else .no
  | _ => .no
theorem ds_app {i : Nat} {x : Str} {p0 apos cpos : Pos} (hN : X.N[i]? = some x) (hv : Vis X.env.scope x) (hf : fl F i = .own) (he : DE X g .frz F e A) (hw : Wk F lp.x = true) (hk : X.K = g.W.K)
    (hline : (apos.endLine == cpos.line) = true) (hs : starEach [e] X.env = [(false, eval e X.env)])
    (hsw : swapsWith (.Call (.Attribute (.Name x p0) "append" apos) [e] [] cpos) none pos.line X.env = pure false) (hd : (x == ("__debug__" : Str)) = false := by decide) (hcd : (x == ("__classdict__" : Str)) = false := by decide) :
    DS X g rm lp F F (.Expr (.Call (.Attribute (.Name x p0) "append" apos) [e] [] cpos) pos) (sApp i A) := by
  refine ⟨ps_imp (Vl.ps_expr (pe_bm PySem.F.plainAttrs_list PySem.F.slot_list_append PySem.F.type_list_append mt_append (pe_var hN hv hd hcd) (pa_cons he.pe pa_nil hs) rfl (by rw [hs]; rfl) hline hs rfl) hsw) fun D σ H ⟨I, ρ, S, p⟩ => ?_⟩
  have q := S.at_ i
  rw [hf] at q
  obtain ⟨l, o, d, h1, h2, b1, b2, b3, t⟩ := q
  unfold sApp at p
  rw [h2] at p
  cases d <;> first | exact p.elim | skip
  rename_i ds
  dsimp only at p
  obtain ⟨ys, rfl, hz, rs⟩ := t
  refine ⟨_, h1, .inl ⟨rfl, ys, .inl (.inl b3)⟩, I, ρ, S, post_of S hw p fun v dd I1 H1 x1 r S1 p1 => ?_⟩
  split at p1
  · rename_i hlt
    refine ⟨l, ys, v, rfl, rfl, x1.b _ _ b3, by rw [rs.length]; exact hlt, p1 σ I1 _ (Same.refl _) (SOk.upd S1 hf h1 ⟨_, rfl, ?_, (rs.mono x1.i).append (.one r)⟩)⟩
    rw [List.length_append]
    exact hlt
  · exact p1.elim
end
end Vl
/-! calls, defs, walks, comprehensions -/
namespace Vl
open PySem PySem.Spec PyProof.Rows L2

/-! ### what a def promises: it hands back what the function k says -/
def psp (W : Wd) (ms : List Md) (rm : Md) (k : List D → Res D) : Sp := fun vs B Q E => ∃ I0 ds, Same I0 B ∧ RepMs W I0 B ms vs ds ∧ match k ds with
  | .ok d => ∀ v I H, Ext I0 B I H → RepM rm W B I H v d → Q v H
  | .exc x => ∀ cl ad I H, Ext I0 B I H → RepX W I H cl ad x → E cl ad H
  | .no => False
theorem RepMs.length {W : Wd} {I H : Hp} : ∀ {ms : List Md} {vs : List V} {ds : List D}, RepMs W I H ms vs ds → vs.length = ms.length ∧ ds.length = ms.length
  | [], [], [], _ => ⟨rfl, rfl⟩
  | m :: ms, _ :: _, _ :: _, ⟨a, b⟩ => by
    obtain ⟨h1, h2⟩ := RepMs.length b
    exact ⟨congrArg (· + 1) h1, congrArg (· + 1) h2⟩
  | [], [], _ :: _, r => r.elim
  | [], _ :: _, _, r => r.elim
  | _ :: _, [], _, r => r.elim
  | _ :: _, _ :: _, [], r => r.elim
theorem psp_len {W : Wd} {ms : List Md} {rm : Md} {k : List D → Res D} {vs : List V} {H : Hp} {Q : VK} {E : XK} (h : psp W ms rm k vs H Q E) : vs.length = ms.length := by
  obtain ⟨_, _, _, r, _⟩ := h
  exact r.length.1
/-- what is new may be taken as frozen -/
theorem psp_fz {W : Wd} {ms : List Md} {k : List D → Res D} {vs : List V} {H : Hp} {Q : VK} {E : XK} (h : psp W ms .frz k vs H Q E) : psp W ms .own k vs H Q E := by
  obtain ⟨I0, ds, s, r, p⟩ := h
  refine ⟨I0, ds, s, r, ?_⟩
  cases q : k ds with
  | ok d =>
    rw [q] at p
    rintro v I' H' x ⟨l, o, rfl, h0, hi, hh, t⟩
    refine p (.ref l) (upd I' l o) H' ⟨x.i.trans (same_upd_new hi), x.b, fun b u hb => ?_, fun b hb => ?_⟩ (t.freeze hi)
    · by_cases z : b = l
      · subst z
        rw [upd_same] at hb
        rw [hh]
        exact hb
      · rw [upd_ne z] at hb
        exact x.s _ _ hb
    · have z : b ≠ l := fun z => by
        subst z
        exact hb h0
      rw [upd_ne z]
      exact x.n b hb
  | exc x => rw [q] at p; exact p
  | no => rw [q] at p; exact p
def startD (n : Nat) (ds : List D) : Env := ds.map some ++ List.replicate (n - ds.length) none
def startF (n : Nat) (ms : List Md) : List Fl := ms.map (fun m => match m with | .frz => Fl.frz | .bor => Fl.bor | .own => Fl.un) ++ List.replicate (n - ms.length) Fl.un
def runB (rm : Md) (n : Nat) (A : Env → Flw) : List D → Res D := fun ds => match A (startD n ds) with
  | .nx _ => (match rm with | .frz => .ok .non | _ => .no)
  | .ret d => .ok d
  | .exc x _ => .exc x
  | _ => .no
theorem RepMs.get {W : Wd} {I H : Hp} : ∀ {ms : List Md} {vs : List V} {ds : List D}, RepMs W I H ms vs ds → ∀ (i : Nat) (m : Md), ms[i]? = some m → ∃ v d, vs[i]? = some v ∧ ds[i]? = some d ∧ RepM m W H I H v d
  | m :: ms, v :: _, d :: _, ⟨a, b⟩, 0, m', e => by
    simp at e
    subst e
    exact ⟨v, d, rfl, rfl, a⟩
  | m :: ms, _ :: _, _ :: _, ⟨a, b⟩, i + 1, m', e => by
    simp at e
    obtain ⟨v, d, h1, h2, h3⟩ := RepMs.get b i m' e
    exact ⟨v, d, by simpa using h1, by simpa using h2, h3⟩
  | [], [], [], _, i, m, e => by simp at e
  | [], [], _ :: _, r, _, _, _ => r.elim
  | [], _ :: _, _, r, _, _, _ => r.elim
  | _ :: _, [], _, r, _, _, _ => r.elim
  | _ :: _, _ :: _, [], r, _, _, _ => r.elim
theorem sok_start {W : Wd} {I0 B : Hp} {N : List Str} {ms : List Md} {vs : List V} {ds : List D} (s : Same I0 B) (r : RepMs W I0 B ms vs ds) (hn : ms.length ≤ N.length) : SOk W I0 B (startF N.length ms) I0 B (L2.start N vs) (startD N.length ds) := by
  obtain ⟨l1, l2⟩ := r.length
  refine ⟨Ext.refl s, ?_, ?_, fun i => ?_, fun i j a _ hi => ?_⟩
  · unfold L2.start startD
    simp only [List.length_append, List.length_map, List.length_replicate]
    omega
  · unfold L2.start startF
    simp only [List.length_append, List.length_map, List.length_replicate]
    omega
  · unfold fl startF
    rw [List.getD_eq_getElem?_getD]
    by_cases hi : i < ms.length
    · rw [List.getElem?_append_left (by simpa using hi), List.getElem?_map]
      obtain ⟨v, d, h1, h2, h3⟩ := r.get i ms[i] (List.getElem?_eq_getElem hi)
      have e1 : (L2.start N vs)[i]? = some (some v) := by
        unfold L2.start
        rw [List.getElem?_append_left (by simpa [l1] using hi), List.getElem?_map, h1]
        rfl
      have e2 : (startD N.length ds)[i]? = some (some d) := by
        unfold startD
        rw [List.getElem?_append_left (by simpa [l2] using hi), List.getElem?_map, h2]
        rfl
      rw [e1, e2, List.getElem?_eq_getElem hi]
      cases em : ms[i] with
      | frz => rw [em] at h3; exact ⟨v, d, rfl, rfl, h3⟩
      | bor => rw [em] at h3; exact ⟨v, d, rfl, rfl, h3⟩
      | own => exact trivial
    · have e : (List.map (fun m => match m with | Md.frz => Fl.frz | Md.bor => Fl.bor | Md.own => Fl.un) ms ++ List.replicate (N.length - ms.length) Fl.un)[i]?.getD Fl.un = Fl.un := by
        rw [List.getElem?_append_right (by simpa using hi)]
        cases q : (List.replicate (N.length - ms.length) Fl.un)[i - (List.map (fun m => match m with | Md.frz => Fl.frz | Md.bor => Fl.bor | Md.own => Fl.un) ms).length]? with
        | none => rfl
        | some z =>
          have := List.getElem?_eq_some_iff.mp q
          obtain ⟨h, e⟩ := this
          rw [List.getElem_replicate] at e
          rw [← e]
          rfl
      rw [e]
      trivial
  · exfalso
    unfold fl startF at hi
    rw [List.getD_eq_getElem?_getD] at hi
    by_cases hm : i < ms.length
    · rw [List.getElem?_append_left (by simpa using hm), List.getElem?_map, List.getElem?_eq_getElem hm] at hi
      simp only [Option.map_some, Option.getD_some] at hi
      cases em : ms[i] <;> rw [em] at hi <;> cases hi
    · rw [List.getElem?_append_right (by simpa using hm)] at hi
      cases q : (List.replicate (N.length - ms.length) Fl.un)[i - (List.map (fun m => match m with | Md.frz => Fl.frz | Md.bor => Fl.bor | Md.own => Fl.un) ms).length]? with
      | none => rw [q] at hi; cases hi
      | some z =>
        obtain ⟨h, e⟩ := List.getElem?_eq_some_iff.mp q
        rw [List.getElem_replicate] at e
        rw [q, ← e] at hi
        cases hi

/-- a def keeps its promise, in states where a token is out -/
structure FnT (P : Program) (w : World) (K : PySem.W.Frag) (mg : Str → Option Value) (base : Heap) (k : Nat) (f : Addr) (fd : FuncData) (ps : List Str) (sp : Sp) : Prop where
  len : ∀ vs H Q E, sp vs H Q E → vs.length = ps.length
  run : ∀ (A : Around) (outer : List PySem.Env) (s : Shared) (H : Hp) (us : List Value) (vs : List V) (Q : VK) (E : XK), 0 < s.toks → Room k A → Env0 P w K mg base A outer s H → BindsTo s fd ⟨us, []⟩ (ps.zip us) → Vals vs us → sp vs H Q E →
    codeAny (model P w) A (.call (.ref f) ⟨us, []⟩) (CR (L2.CX P w) outer P w H s Q E) s
theorem FnT.mono {P : Program} {w : World} {K : PySem.W.Frag} {mg : Str → Option Value} {base : Heap} {j k : Nat} {f : Addr} {fd : FuncData} {ps : List Str} {sp : Sp} (F : FnT P w K mg base j f fd ps sp) (h : j ≤ k) : FnT P w K mg base k f fd ps sp :=
  ⟨F.len, fun A outer s H us vs Q E k0 hr => F.run A outer s H us vs Q E k0 (hr.mono h)⟩
theorem fnT_of {P : Program} {w : World} {K : PySem.W.Frag} {mg : Str → Option Value} {base : Heap} {x qual : Str} {st : Stmt} {f : Addr} {fd : FuncData} {N ps : List Str} {k : Nat} {sp : Sp} (F : L2.Fun K x qual st f fd) (S : FnScope N ps (defScope st)) (len : ∀ vs H Q E, sp vs H Q E → vs.length = ps.length)
    (body : ∀ (cdv : Value) (A : Around) (outer : List PySem.Env) (s : Shared) (H : Hp) (vs : List V) (Q : VK) (E : XK), Room k (A.deeper (envOfC qual (defScope st) s.heap.objs.size f cdv)) → sp vs H Q E →
      ∃ t, PSs (cxOf (L2.CX P w) P w K mg base N qual (defScope st) f cdv A outer s H E) (defBody st) t ∧ t { nx := fun _ H' => Q .non H', rt := Q } (L2.start N vs) H) : FnT P w K mg base (k + 1) f fd ps sp := by
  obtain ⟨oc, od, kV, doc, pm, an, cdv, ct, osl, rfl, lk, hcd⟩ := F.ex
  refine ⟨len, fun A outer s H us vs Q E k0 hr e0 hb r hsp => ?_⟩
  have KX : K.In s.heap := e0.mod.kin.keeps fun b o e => (e0.bs b o e).1
  have lim : s.heap.NoLimit := e0.mod.nolimit.keeps fun b o e => (e0.bs b o e).1
  have kinds : ∀ y ∈ ps.zip us, (defScope st).names.lookup y.1 = some .local ∨ ((defScope st).names.lookup y.1 = some .cell ∧ ((cellsFrom (s.heap.objs.size + 1) (defScope st).names []).lookup y.1).isSome = true) := fun y hy =>
    (S.par y.1 (List.of_mem_zip (show (y.1, y.2) ∈ ps.zip us from hy)).1).elim .inl fun q => .inr ⟨q, PySem.W.cellsFrom_some _ _ _ (.inl q)⟩
  refine codeAny_call_function hr.depth (KX _ _ lk) rfl S.co S.gen rfl (PySem.W.codeRec_of KX hcd) (hb _ _ _ _ (nxt k0 (wpAny_newFunctionEnv_cells (Q := fun env s1 => env = envOfC qual (defScope st) s.heap.objs.size f cdv ∧ InCallC s s.heap.objs.size (bindL (envOfC qual (defScope st) s.heap.objs.size f cdv).kindOf (ps.zip us) fun _ => none) (cellsFrom (s.heap.objs.size + 1) (defScope st).names []) (bindC (envOfC qual (defScope st) s.heap.objs.size f cdv).kindOf (ps.zip us) fun _ => none) s1) S.kind kinds fun env he s1 x => ?_) fun env s1 k1 q => ?_))
  · subst he
    exact ⟨rfl, x⟩
  · obtain ⟨he, x⟩ := q
    subst he
    refine ⟨lim.keeps x.toInCall.keep, codeAny_func ?_⟩
    obtain ⟨t, ht, hq⟩ := body cdv A outer s H vs Q E (hr.deeper _) hsp
    have I : Inv (cxOf (L2.CX P w) P w K mg base N qual (defScope st) f cdv A outer s H E) [] (L2.start N vs) H s1 := inv_start S hr.hd e0 (len _ _ _ _ hsp) r x
    refine wpAny_mono (ht.run [] s1 _ H _ k1 I hq) (fun fl s' hs => ?_) fun _ _ hs => hs
    match fl, hs with
    | .ret _, ⟨v, _, H', J, rv, q⟩ => exact ⟨v, H', J.os, J.bare, J.base, J.hok, rv, q⟩
    | .next, ⟨_, H', J, q⟩ => exact ⟨.non, H', J.os, J.bare, J.base, J.hok, rfl, q⟩
    | .brk, ⟨_, _, _, q⟩ => exact q.elim
    | .cont, ⟨_, _, _, q⟩ => exact q.elim

/-- what a body's rules know of where they stand -/
structure Bd (X : Cx) (g : Gx) (k : Nat) : Prop where
  K : X.K = g.W.K
  mg : X.mg = g.W.mg
  calm : X.calm = true
  nd : X.N.Nodup
  tk : Takes X g.Wx
  hr : Room k X.A
  po : PassesOwn (model X.prog X.w) X.A X.env X.xe

section
variable {P : Program} {w : World} {K : PySem.W.Frag} {mg : Str → Option Value} {base : Heap}
abbrev bodyX (P : Program) (w : World) (K : PySem.W.Frag) (mg : Str → Option Value) (base : Heap) (N : List Str) (qual : Str) (st : Stmt) (f : Addr) (cdv : Value) (A : Around) (outer : List PySem.Env) (s : Shared) (H : Hp) (E : XK) : Cx :=
  cxOf (L2.CX P w) P w K mg base N qual (defScope st) f cdv A outer s H E
theorem fn_ok {x qual : Str} {st : Stmt} {f : Addr} {fd : FuncData} {N ps : List Str} {k : Nat} {ms : List Md} {rm : Md} {A : Env → Flw} {F' : List Fl} (F : L2.Fun K x qual st f fd) (S : FnScope N ps (defScope st)) (hl : ms.length = ps.length) (hn : ms.length ≤ N.length)
    (body : ∀ (cdv : Value) (Ar : Around) (outer : List PySem.Env) (s : Shared) (H : Hp) (E : XK) (I0 : Hp), Bd (bodyX P w K mg base N qual st f cdv Ar outer s H E) ⟨⟨K, mg⟩, I0, H, fun cls d _ H => E cls d H⟩ k →
      DSs (bodyX P w K mg base N qual st f cdv Ar outer s H E) ⟨⟨K, mg⟩, I0, H, fun cls d _ H => E cls d H⟩ rm ⟨[], [], []⟩ (startF N.length ms) F' (defBody st) A) :
    FnT P w K mg base (k + 1) f fd ps (psp ⟨K, mg⟩ ms rm (runB rm N.length A)) := by
  refine fnT_of F S (fun vs H Q E h => (psp_len h).trans hl) fun cdv Ar outer s H vs Q E hr h => ?_
  obtain ⟨I0, ds, sm, r, p⟩ := h
  have b : Bd (bodyX P w K mg base N qual st f cdv Ar outer s H E) ⟨⟨K, mg⟩, I0, H, fun cls d _ H => E cls d H⟩ k := ⟨rfl, rfl, rfl, S.nd, takes_of rfl rfl rfl rfl, hr, passes_of rfl⟩
  refine ⟨_, (body cdv Ar outer s H E I0 b).pss, I0, startD N.length ds, sok_start sm r hn, ?_⟩
  unfold runB at p
  cases q : A (startD N.length ds) with
  | nx ρ =>
    rw [q] at p
    cases rm with
    | frz => exact fun σ I H1 _ S1 => p .non I H1 S1.x .non
    | bor => exact p.elim
    | own => exact p.elim
  | ret d => rw [q] at p; exact p
  | bk ρ => rw [q] at p; exact p.elim
  | ct ρ => rw [q] at p; exact p.elim
  | exc x ρ => rw [q] at p; exact fun cl ad σ I H1 _ S1 rx => p cl ad I H1 S1.x rx
  | no => rw [q] at p; exact p.elim
end

section
variable {X : Cx} {g : Gx} {m m1 m2 rm : Md} {lp : Lp} {F F1 F2 F' : List Fl} {a b c e : PySem.Expr} {es : List PySem.Expr} {A B : Env → Res D} {T : Env → Res Bool} {SA SB : Env → Flw} {L : Env → Res (List D)} {ms : List Md}
  {pos p1 p2 : Pos} {st : Stmt} {rest s1 s2 : List Stmt}

/-! ### a call of a def of the text -/
def eFn (k : List D → Res D) (L : Env → Res (List D)) : Env → Res D := fun ρ => (L ρ).bind k
theorem de_call {j k : Nat} {f : Addr} {fd : FuncData} {ps : List Str} {x : Str} {fk : List D → Res D} (Bx : Bd X g k) (Fo : FnT X.prog X.w X.K X.mg X.base j f fd ps (psp g.W ms rm fk)) (hj : j ≤ k) (hg : Gl X x) (hm : X.mg x = some (.ref f)) (hk : PySem.W.keepIn X.K (.ref f) = true)
    (hb : Binds X.K fd ps []) (ha : DA X g ms F (e :: es) L) (hdb : (x == ("__debug__" : Str)) = false := by decide) (he : starEach (e :: es) X.env = (false, eval e X.env) :: starEach es X.env := by rfl) (hpl : (backTo pos (starEach es X.env)).any (·.1) = false := by rfl) :
    DE X g rm F (.Call (.Name x p1) (e :: es) [] pos) (eFn fk L) := ⟨pe_imp (pe_callS Fo.run Fo.len (Bx.hr.mono hj) hg hm hk hb (fun σ => passAt Bx.tk σ) ha.pa hdb he hpl) fun σ H Q ⟨I, ρ, S, p⟩ => by
  refine ⟨I, ρ, S, Post.bind p fun vs ds I1 H1 x1 r1 p1 => ?_⟩
  refine ⟨I1, ds, x1.s, r1, ?_⟩
  cases q : fk ds with
  | ok d => rw [q] at p1; exact p1
  | exc x => rw [q] at p1; exact p1
  | no => rw [q] at p1; exact p1⟩

/-! ### what is walked -/
def itOk (W : Wd) (J : It) (I0 : Hp) (ds : List D) : Prop := ∀ I H, Same I0 I → Same I H →
  (∀ i d, ds[i]? = some d → J.go i H ∧ ∀ x H', J.yld i H x H' → ∃ I', Ext I H I' H' ∧ Rep W I' x d) ∧ ∀ i, ds.length ≤ i → J.stop i H
def tI (g : Gx) (F : List Fl) (A : Env → Res (List D)) : TI := fun σ H R => ∃ I ρ, g.Sk F I H σ ρ ∧ Post g (fun _ I _ J ds => itOk g.W J I ds) (A ρ) I H σ R
structure DI (X : Cx) (g : Gx) (F : List Fl) (tg iter : PySem.Expr) (A : Env → Res (List D)) : Prop where
  pi : PI X tg iter (tI g F A)
theorem pi_imp {tg iter : PySem.Expr} {t t' : TI} (h : PI X tg iter t) (i : ∀ σ H Q, t' σ H Q → t σ H Q) : PI X tg iter t' := ⟨fun pins s σ H R h0 I q => h.run pins s σ H R h0 I (i _ _ _ q)⟩
instance {W : Wd} : Anti (fun _ I _ J ds => itOk W J I ds) := ⟨fun _ _ _ _ _ _ _ r => r⟩
theorem itOk_list {W : Wd} {l : Addr} {xs : List V} {ds : List D} {I0 : Hp} (h : SqL W.K I0 l xs) (r : Reps W I0 xs ds) : itOk W (Itl W.K l) I0 ds := fun I H s1 s2 => by
  have h1 : SqL W.K H l xs := sqL_mono (s1.trans s2) h
  refine ⟨fun i d e => ?_, fun i e => ⟨xs, h1, by rw [r.length]; exact e⟩⟩
  obtain ⟨v, e1, r1⟩ := r.get e
  refine ⟨⟨xs, v, h1, e1⟩, fun x H' ⟨eH, hx⟩ => ?_⟩
  subst eH
  have e2 := hx xs h1
  rw [e1] at e2
  cases e2
  exact ⟨I, Ext.refl s2, r1.mono s1⟩
theorem itOk_tup {W : Wd} {l : Addr} {xs : List V} {ds : List D} {I0 : Hp} (h : SqT W.K I0 l xs) (r : Reps W I0 xs ds) : itOk W (Itt W.K l) I0 ds := fun I H s1 s2 => by
  have h1 : SqT W.K H l xs := sqT_mono (s1.trans s2) h
  refine ⟨fun i d e => ?_, fun i e => ⟨xs, h1, by rw [r.length]; exact e⟩⟩
  obtain ⟨v, e1, r1⟩ := r.get e
  refine ⟨⟨xs, v, h1, e1⟩, fun x H' ⟨eH, hx⟩ => ?_⟩
  subst eH
  have e2 := hx xs h1
  rw [e1] at e2
  cases e2
  exact ⟨I, Ext.refl s2, r1.mono s1⟩
def iLst (A : Env → Res D) : Env → Res (List D) := fun ρ => (A ρ).bind asL
def asT : D → Res (List D)
  | .tup ds => .ok ds
  | _ => .no
def iTupl (A : Env → Res D) : Env → Res (List D) := fun ρ => (A ρ).bind asT
theorem di_list {tg : PySem.Expr} (hK : X.K = g.W.K) (h : DE X g .frz F e A) : DI X g F tg e (iLst A) := ⟨pi_imp (pi_list h.pe) fun σ H Q ⟨I, ρ, S, p⟩ => by
  refine ⟨I, ρ, S, Post.bind p fun v d I1 H1 x1 r1 p1 => ?_⟩
  cases d <;> first | exact p1.elim | skip
  cases r1 with
  | lst q _ r =>
    rw [hK]
    exact ⟨_, rfl, ⟨_, .inl (.inl (x1.s _ _ q))⟩, p1 _ I1 H1 (Ext.refl x1.s) (itOk_list (.inl (.inl q)) r)⟩⟩
theorem di_tup {tg : PySem.Expr} (hK : X.K = g.W.K) (h : DE X g .frz F e A) : DI X g F tg e (iTupl A) := ⟨pi_imp (pi_tup h.pe) fun σ H Q ⟨I, ρ, S, p⟩ => by
  refine ⟨I, ρ, S, Post.bind p fun v d I1 H1 x1 r1 p1 => ?_⟩
  cases d <;> first | exact p1.elim | skip
  cases r1 with
  | tup q _ r =>
    rw [hK]
    exact ⟨_, rfl, ⟨_, sqT_mono x1.s q⟩, p1 _ I1 H1 (Ext.refl x1.s) (itOk_tup q r)⟩⟩
def rangeD (lo : Int) (n : Nat) : List D := (List.range n).map fun i : Nat => D.int (lo + (i : Int))
theorem rangeD_get {lo : Int} {n i : Nat} : (rangeD lo n)[i]? = if i < n then some (D.int (lo + (i : Int))) else none := by
  unfold rangeD
  rw [List.getElem?_map]
  split
  · rename_i h
    rw [List.getElem?_range h]
    rfl
  · rename_i h
    rw [List.getElem?_eq_none (by simpa using h)]
    rfl
theorem itOk_range {W : Wd} {lo : Int} {n : Nat} {I0 : Hp} : itOk W (Itr lo n) I0 (rangeD lo n) := fun I H s1 s2 => by
  refine ⟨fun i d e => ?_, fun i e => ?_⟩
  · rw [rangeD_get] at e
    split at e
    · rename_i hi
      cases e
      refine ⟨hi, fun x H' ⟨eH, ex⟩ => ?_⟩
      subst eH
      subst ex
      exact ⟨I, Ext.refl s2, .int _⟩
    · cases e
  · unfold rangeD at e
    rw [List.length_map, List.length_range] at e
    exact e
def small62 (j : Int) : Bool := decide (-(2 ^ 62) ≤ j) && decide (j < 2 ^ 62)
theorem small62_of {j : Int} (h : small62 j = true) : -(2 ^ 62) ≤ j ∧ j < 2 ^ 62 := ⟨of_decide_eq_true (Bool.and_eq_true_iff.mp h).1, of_decide_eq_true (Bool.and_eq_true_iff.mp h).2⟩
def rng1 : List D → Res (List D)
  | [.int j] => if small62 j = true then .ok (rangeD 0 j.toNat) else .no
  | _ => .no
def rng2 : List D → Res (List D)
  | [.int i, .int j] => if (small62 i && small62 j) = true then .ok (rangeD i (j - i).toNat) else .no
  | _ => .no
def iRng (k : List D → Res (List D)) (L : Env → Res (List D)) : Env → Res (List D) := fun ρ => (L ρ).bind k
theorem repMs_1 {W : Wd} {I H : Hp} {ms : List Md} {vs : List V} {j : Int} (r : RepMs W I H ms vs [.int j]) : vs = [.int j] := by
  obtain ⟨l1, l2⟩ := r.length
  cases ms with
  | nil => simp at l2
  | cons m ms =>
    cases ms with
    | cons _ _ => simp at l2
    | nil =>
      cases vs with
      | nil => simp at l1
      | cons v vs =>
        cases vs with
        | cons _ _ => simp at l1
        | nil =>
          obtain ⟨r1, _⟩ := r
          rcases r1.b with z | ⟨_, _, _, _, t⟩
          · cases z
            rfl
          · exact t.elim
theorem repMs_2 {W : Wd} {I H : Hp} {ms : List Md} {vs : List V} {i j : Int} (r : RepMs W I H ms vs [.int i, .int j]) : vs = [.int i, .int j] := by
  obtain ⟨l1, l2⟩ := r.length
  cases ms with
  | nil => simp at l2
  | cons m ms =>
    cases vs with
    | nil => simp at l1
    | cons v vs =>
      obtain ⟨r1, r2⟩ := r
      rw [repMs_1 r2]
      rcases r1.b with z | ⟨_, _, _, _, t⟩
      · cases z
        rfl
      · exact t.elim
theorem di_range1 {tg : PySem.Expr} (hg : Gl X "range") (hm : X.mg "range" = none) (ha : DA X g ms F [a] L) (hs : starEach [a] X.env = [(false, eval a X.env)]) : DI X g F tg (.Call (.Name "range" p1) [a] [] pos) (iRng rng1 L) :=
  ⟨pi_imp (pi_range1 hg hm ha.pa hs) fun σ H Q ⟨I, ρ, S, p⟩ => by
    refine ⟨I, ρ, S, Post.bind p fun vs ds I1 H1 x1 r1 p1 => ?_⟩
    unfold rng1 at p1
    split at p1
    · rename_i j
      split at p1
      · rename_i hj
        obtain ⟨h1, h2⟩ := small62_of hj
        exact ⟨j, repMs_1 r1, h1, h2, p1 _ I1 H1 (Ext.refl x1.s) itOk_range⟩
      · exact p1.elim
    · exact p1.elim⟩
theorem di_range2 {tg : PySem.Expr} (hg : Gl X "range") (hm : X.mg "range" = none) (ha : DA X g ms F [a, b] L) (hs : starEach [a, b] X.env = [(false, eval a X.env), (false, eval b X.env)]) (hs2 : starEach [b] X.env = [(false, eval b X.env)]) :
    DI X g F tg (.Call (.Name "range" p1) [a, b] [] pos) (iRng rng2 L) :=
  ⟨pi_imp (pi_range2 hg hm ha.pa hs hs2) fun σ H Q ⟨I, ρ, S, p⟩ => by
    refine ⟨I, ρ, S, Post.bind p fun vs ds I1 H1 x1 r1 p1 => ?_⟩
    unfold rng2 at p1
    split at p1
    · rename_i i j
      split at p1
      · rename_i hj
        obtain ⟨h1, h2⟩ := small62_of (Bool.and_eq_true_iff.mp hj).1
        obtain ⟨h3, h4⟩ := small62_of (Bool.and_eq_true_iff.mp hj).2
        exact ⟨i, j, repMs_2 r1, ⟨h1, h2, h3, h4⟩, p1 _ I1 H1 (Ext.refl x1.s) itOk_range⟩
      · exact p1.elim
    · exact p1.elim⟩

/-! ### targets -/
def OutOf (S : List Nat) (σ σ' : L2.St) : Prop := σ'.length = σ.length ∧ ∀ j, j ∉ S → σ'[j]? = σ[j]?
structure DG (X : Cx) (g : Gx) (F F' : List Fl) (S : List Nat) (tg : PySem.Expr) (G : D → Env → Option Env) : Prop where
  pg : PG X tg (fun (v : V) (σ : L2.St) (H : Hp) (Q : L2.St → Hp → Prop) => ∃ I ρ d, g.Sk F I H σ ρ ∧ Rep g.W I v d ∧ match G d ρ with | some ρ' => ∀ σ', OutOf S σ σ' → g.Sk F' I H σ' ρ' → Q σ' H | none => False)
structure DGs (X : Cx) (g : Gx) (F F' : List Fl) (S : List Nat) (tg : List PySem.Expr) (G : List D → Env → Option Env) : Prop where
  pgs : PGs X tg (fun (vs : List V) (σ : L2.St) (H : Hp) (Q : L2.St → Hp → Prop) => ∃ I ρ ds, g.Sk F I H σ ρ ∧ Reps g.W I vs ds ∧ match G ds ρ with | some ρ' => ∀ σ', OutOf S σ σ' → g.Sk F' I H σ' ρ' → Q σ' H | none => False)
theorem pg_imp {tg : PySem.Expr} {t t' : TG} (h : PG X tg t) (i : ∀ v σ H Q, t' v σ H Q → t v σ H Q) : PG X tg t' := ⟨fun pins s σ H v u Q h0 I r q => h.run pins s σ H v u Q h0 I r (i _ _ _ _ q)⟩
theorem pgs_imp {tg : List PySem.Expr} {t t' : TGs} (h : PGs X tg t) (i : ∀ v σ H Q, t' v σ H Q → t v σ H Q) : PGs X tg t' := ⟨fun pins s σ H v u Q h0 I r q => h.run pins s σ H v u Q h0 I r (i _ _ _ _ q)⟩
def gN (i : Nat) : D → Env → Option Env := fun d ρ => some (ρ.set i (some d))
theorem dg_name {i : Nat} {x : Str} (hN : X.N.Nodup) (hi : X.N[i]? = some x) (hx : Loc X.env.scope x) (hf : X.fn x = true ∨ X.env.scope.names.lookup x = some .local) (hl : i < F.length) : DG X g F (F.set i .frz) [i] (.Name x pos) (gN i) :=
  ⟨pg_imp (pg_name hN hi hx hf) fun v σ H Q ⟨I, ρ, d, S, r, p⟩ => p _ ⟨List.length_set, fun j hj => by rw [List.getElem?_set_ne (by intro z; exact hj (by simp [z]))]⟩ (S.set hl r)⟩
def gsNil : List D → Env → Option Env := fun ds ρ => match ds with
  | [] => some ρ
  | _ => none
def gsCons (G : D → Env → Option Env) (Gs : List D → Env → Option Env) : List D → Env → Option Env := fun ds ρ => match ds with
  | d :: ds => (G d ρ).bind fun ρ' => Gs ds ρ'
  | [] => none
theorem dgs_nil : DGs X g F F [] [] gsNil := ⟨pgs_imp pgs_nil fun vs σ H Q ⟨I, ρ, ds, S, r, p⟩ => by
  cases r with
  | nil => exact ⟨rfl, p σ ⟨rfl, fun _ _ => rfl⟩ S⟩
  | cons _ _ => exact p.elim⟩
theorem dgs_cons {S1 S2 : List Nat} {tgs : List PySem.Expr} {G : D → Env → Option Env} {Gs : List D → Env → Option Env} (h1 : DG X g F F1 S1 e G) (h2 : DGs X g F1 F' S2 tgs Gs)
    (hs : (assignEach (e :: tgs) X.env).map (·.2) = assign e X.env :: (assignEach tgs X.env).map (·.2) := by rfl) : DGs X g F F' (S1 ++ S2) (e :: tgs) (gsCons G Gs) := ⟨pgs_imp (pgs_cons h1.pg h2.pgs hs) fun vs σ H Q ⟨I, ρ, ds, S, r, p⟩ => by
  cases r with
  | nil => exact p.elim
  | cons r rr =>
    rename_i v vs d ds _
    refine ⟨v, vs, rfl, I, ρ, d, S, r, ?_⟩
    unfold gsCons at p
    cases q : G d ρ with
    | none => simp only [q, Option.bind_none] at p
    | some ρ1 =>
      simp only [q, Option.bind_some] at p
      intro σ1 o1 S1'
      refine ⟨I, ρ1, ds, S1', rr, ?_⟩
      cases q2 : Gs ds ρ1 with
      | none => rw [q2] at p; exact p
      | some ρ2 =>
        rw [q2] at p
        intro σ2 o2 S2'
        exact p σ2 ⟨o2.1.trans o1.1, fun j hj => (o2.2 j fun z => hj (List.mem_append_right _ z)).trans (o1.2 j fun z => hj (List.mem_append_left _ z))⟩ S2'⟩
def gT (Gs : List D → Env → Option Env) : D → Env → Option Env := fun d ρ => match d with
  | .tup ds => Gs ds ρ
  | _ => none
theorem dg_tup {S : List Nat} {tgs : List PySem.Expr} {Gs : List D → Env → Option Env} {k n : Nat} (Bx : X.calm = true) (hK : X.K = g.W.K) (h : DGs X g F F' S tgs Gs) (hlen : ∀ ds ρ ρ', Gs ds ρ = some ρ' → ds.length = n)
    (hn : (assignEach tgs X.env).length = n := by rfl) (hst : (assignEach tgs X.env).findIdx? (·.1) = none := by rfl) : DG X g F F' S (.Tuple tgs k pos) (gT Gs) := ⟨pg_imp (pg_tup Bx h.pgs hn hst) fun v σ H Q ⟨I, ρ, d, S, r, p⟩ => by
  unfold gT at p
  cases d <;> first | exact p.elim | skip
  cases r with
  | tup q hl r =>
    refine ⟨_, _, rfl, by rw [hK]; exact sqT_mono S.s q, ?_, I, ρ, _, S, r, p⟩
    rw [r.length]
    dsimp only at p
    split at p
    · rename_i e
      exact hlen _ _ _ e
    · exact p.elim⟩
theorem gsNil_len {ds : List D} {ρ ρ' : Env} (h : gsNil ds ρ = some ρ') : ds.length = 0 := by
  unfold gsNil at h
  split at h
  · rfl
  · cases h
theorem gsCons_len {G : D → Env → Option Env} {Gs : List D → Env → Option Env} {n : Nat} (hG : ∀ ds ρ ρ', Gs ds ρ = some ρ' → ds.length = n) : ∀ ds ρ ρ', gsCons G Gs ds ρ = some ρ' → ds.length = n + 1 := fun ds ρ ρ' h => by
  cases ds with
  | nil => cases h
  | cons d ds =>
    unfold gsCons at h
    dsimp only at h
    cases q : G d ρ with
    | none => rw [q] at h; cases h
    | some ρ1 =>
      rw [q] at h
      exact congrArg (· + 1) (hG ds ρ1 ρ' h)
/-- target = e, any target -/
def sAsg (G : D → Env → Option Env) (A : Env → Res D) : Env → Flw := fun ρ => (A ρ).fl ρ fun d => match G d ρ with
  | some ρ' => .nx ρ'
  | none => .no
theorem ds_asg {S : List Nat} {tg : PySem.Expr} {G : D → Env → Option Env} (he : DE X g .frz F e A) (hg : DG X g F F' S tg G) (hw : Wk F lp.x = true) (hs : swapsWithSole [tg] e pos.line X.env = pure false) (hsw : swappedStores [tg] e X.env = pure none)
    (h1 : (assignEach [tg] X.env).map (·.2) = [assign tg X.env]) : DS X g rm lp F F' (.Assign [tg] e pos) (sAsg G A) := ⟨ps_imp (ps_asg he.pe hg.pg hs hsw h1) fun D σ H ⟨I, ρ, S, p⟩ => by
  refine ⟨I, ρ, S, post_of S hw p fun v d I1 H1 x1 r S1 p1 => ⟨I1, ρ, d, S1, r, ?_⟩⟩
  cases q : G d ρ with
  | none => rw [q] at p1; exact p1.elim
  | some ρ' => rw [q] at p1; exact fun σ' _ S' => p1 σ' I1 H1 (Same.refl _) S'⟩

/-! ### for -/
def loopF (G : D → Env → Option Env) (S : Env → Flw) : List D → Env → Flw
  | [], ρ => .nx ρ
  | d :: ds, ρ => match G d ρ with
    | none => .no
    | some ρ1 => match S ρ1 with
      | .nx ρ2 => loopF G S ds ρ2
      | .ct ρ2 => loopF G S ds ρ2
      | .bk ρ2 => .nx ρ2
      | r => r
def sFor (A : Env → Res (List D)) (G : D → Env → Option Env) (S : Env → Flw) : Env → Flw := fun ρ => (A ρ).fl ρ fun ds => loopF G S ds ρ
theorem ds_for {k : Nat} {S : List Nat} {tg iter : PySem.Expr} {body : List Stmt} {G : D → Env → Option Env} {AI : Env → Res (List D)} {Fh Ft Fe : List Fl} (Bx : Bd X g k) (hi : DI X g F tg iter AI) (hg : DG X g Fh Ft S tg G) (hb : DSs X g rm ⟨Fe, Fh, lp.x⟩ Ft Fh body SB)
    (w1 : Wk F Fh = true) (w2 : Wk Fh Fe = true) (hw : Wk F lp.x = true) (hs : ∀ x, foldedSetIterable iter X.env x = pure x) : DS X g rm lp F Fe (.For tg iter body [] pos) (sFor AI G SB) := ⟨ps_imp (ps_for Bx.po Bx.calm hi.pi hg.pg hb.pss hs) fun D σ H ⟨I, ρ, S, p⟩ => by
  refine ⟨I, ρ, S, post_of S hw p fun J ds I1 H1 x1 io S1 p1 => ?_⟩
  obtain ⟨I2, m2, S2⟩ := S1.weak w1
  refine ⟨fun i m σ H => m = ds.length - i ∧ i ≤ ds.length ∧ ∃ I ρ, Same I2 I ∧ g.Sk Fh I H σ ρ ∧ PostS g rm lp Fe I (loopF G SB (ds.drop i) ρ) D, ⟨ds.length, by simp, Nat.zero_le _, I2, ρ, Same.refl _, S2, PostS.later m2 p1⟩, ?_⟩
  rintro i m σ3 H3 ⟨rfl, hi3, I3, ρ3, m3, S3, p3⟩
  obtain ⟨go, stop⟩ := io I3 H3 (m2.trans m3) S3.s
  by_cases hlt : i < ds.length
  · have ed : ds.drop i = ds[i] :: ds.drop (i + 1) := List.drop_eq_getElem_cons hlt
    obtain ⟨g1, y1⟩ := go i ds[i] (List.getElem?_eq_getElem hlt)
    refine .inr ⟨g1, fun σ' H' => ∃ I ρ, Same I2 I ∧ g.Sk Fh I H' σ' ρ ∧ PostS g rm lp Fe I (loopF G SB (ds.drop (i + 1)) ρ) D, fun σ' H' ⟨I', ρ', q1, q2, q3⟩ => ⟨ds.length - (i + 1), by omega, rfl, hlt, I', ρ', q1, q2, q3⟩, fun x H' hy => ?_⟩
    obtain ⟨I4, x4, r4⟩ := y1 x H' hy
    rw [ed] at p3
    unfold loopF at p3
    refine ⟨I4, ρ3, ds[i], S3.ext x4, r4, ?_⟩
    cases q : G ds[i] ρ3 with
    | none => rw [q] at p3; exact p3
    | some ρ5 =>
      rw [q] at p3
      dsimp only at p3 ⊢
      intro σ5 _ S5
      refine ⟨I4, ρ5, S5, ?_⟩
      have m4 : Same I2 I4 := m3.trans x4.i
      cases q6 : SB ρ5 with
      | nx ρ6 => rw [q6] at p3; exact fun σ6 I6 H6 m6 S6 => ⟨I6, ρ6, m4.trans m6, S6, PostS.later (x4.i.trans m6) p3⟩
      | ct ρ6 => rw [q6] at p3; exact fun σ6 I6 H6 m6 S6 => ⟨I6, ρ6, m4.trans m6, S6, PostS.later (x4.i.trans m6) p3⟩
      | bk ρ6 => rw [q6] at p3; exact fun σ6 I6 H6 m6 S6 => p3 σ6 I6 H6 (x4.i.trans m6) S6
      | ret d => rw [q6] at p3; exact p3
      | exc x ρ6 => rw [q6] at p3; exact PostS.later (r := .exc x ρ6) (lp := lp) (F' := Fe) x4.i p3
      | no => rw [q6] at p3; exact p3
  · have e : ds.drop i = [] := List.drop_eq_nil_of_le (by omega)
    rw [e] at p3
    obtain ⟨I5, m5, S5⟩ := S3.weak w2
    exact .inl ⟨stop i (by omega), p3 σ3 I5 H3 m5 S5⟩⟩
end
end Vl
/-! comprehensions -/
namespace Vl
open PySem PySem.Spec PyProof.Rows L2

/-- within a comprehension what was this def's own is read only; its own names are new -/
def blkFl (vs : List Nat) (i : Nat) (f : Fl) : Fl := if vs.contains i = true then .un else match f with
  | .own => .bor
  | f => f
def blkF (F : List Fl) (vs : List Nat) : List Fl := F.mapIdx fun i f => blkFl vs i f
def wipeD (ρ : Env) : List Nat → Env
  | [] => ρ
  | v :: vs => (wipeD ρ vs).set v none
theorem wipeD_length (ρ : Env) : ∀ vs : List Nat, (wipeD ρ vs).length = ρ.length
  | [] => rfl
  | v :: vs => by unfold wipeD; rw [List.length_set, wipeD_length ρ vs]
theorem wipeD_out {ρ : Env} {i : Nat} : ∀ {vs : List Nat}, i ∉ vs → (wipeD ρ vs)[i]? = ρ[i]?
  | [], _ => rfl
  | v :: vs, h => by
    unfold wipeD
    rw [List.getElem?_set_ne (by intro z; exact h (by simp [z])), wipeD_out (fun z => h (by simp [z]))]
theorem fl_blk (F : List Fl) (vs : List Nat) (i : Nat) : fl (blkF F vs) i = if i < F.length then blkFl vs i (fl F i) else .un := by
  unfold fl blkF
  rw [List.getD_eq_getElem?_getD, List.getD_eq_getElem?_getD, List.getElem?_mapIdx]
  split
  · rename_i h
    rw [List.getElem?_eq_getElem h]
    rfl
  · rename_i h
    rw [List.getElem?_eq_none (by omega)]
    rfl
theorem wipe_in {σ : L2.St} {i : Nat} : ∀ {vs : List Nat}, i ∉ vs → (L2.wipe σ vs)[i]? = σ[i]? := fun h => L2.wipe_out h
theorem SOk.blk {W : Wd} {I0 B I H I' H' : Hp} {F : List Fl} {σ : L2.St} {ρ : Env} (S : SOk W I0 B F I H σ ρ) (x : Ext I H I' H') (vs : List Nat) : SOk W I' H' (blkF F vs) I' H' (L2.wipe σ vs) (wipeD ρ vs) := by
  have S' := S.ext x
  refine ⟨Ext.refl x.s, by rw [L2.wipe_length, wipeD_length]; exact S.len, by unfold blkF; rw [List.length_mapIdx, L2.wipe_length]; exact S.lenF, fun i => ?_, fun i j a _ hi => ?_⟩
  · rw [fl_blk]
    split
    · unfold blkFl
      split
      · trivial
      · rename_i hv
        have hv' : i ∉ vs := fun z => hv (by simpa using z)
        rw [wipe_in hv', wipeD_out hv']
        have q := S'.at_ i
        cases e : fl F i with
        | un => trivial
        | frz => rw [e] at q; exact q
        | own =>
          rw [e] at q
          obtain ⟨a, o, d, h1, h2, _, _, b3, t⟩ := q
          exact ⟨_, d, h1, h2, .inr ⟨a, o, rfl, b3, t⟩⟩
        | bor =>
          rw [e] at q
          obtain ⟨v, d, h1, h2, r⟩ := q
          exact ⟨v, d, h1, h2, r.mono (Same.refl _) S'.x.b⟩
    · trivial
  · exfalso
    rw [fl_blk] at hi
    split at hi
    · unfold blkFl at hi
      split at hi
      · cases hi
      · split at hi
        · cases hi
        · rename_i h
          exact h hi
    · cases hi
theorem wipe_eq {σ σ' : L2.St} {vs : List Nat} (o : OutOf vs σ σ') : L2.wipe σ' vs = L2.wipe σ vs := by
  apply List.ext_getElem?
  intro j
  by_cases hj : j ∈ vs
  · have go : ∀ (σ : L2.St) (vs : List Nat), j ∈ vs → (L2.wipe σ vs)[j]? = if j < σ.length then some none else none := by
      intro σ vs
      induction vs with
      | nil => intro h; cases h
      | cons v vs ih =>
        intro h
        unfold L2.wipe
        by_cases e : v = j
        · subst e
          by_cases hl : v < σ.length
          · rw [if_pos hl, List.getElem?_set_self (by rw [L2.wipe_length]; exact hl)]
          · rw [if_neg hl, List.getElem?_eq_none (by rw [List.length_set, L2.wipe_length]; omega)]
        · rw [List.getElem?_set_ne e]
          exact ih (by simpa [Ne.symm e] using h)
    rw [go σ' vs hj, go σ vs hj, o.1]
  · rw [L2.wipe_out hj, L2.wipe_out hj, o.2 j hj]

def noX {α : Type} : Res α → Res α
  | .exc _ => .no
  | r => r
def lcF (G : D → Env → Option Env) (T : Env → Res Bool) (E : Env → Res D) : List D → Env → Res (List D)
  | [], _ => .ok []
  | d :: ds, ρ => match G d ρ with
    | none => .no
    | some ρ1 => (noX (T ρ1)).bind fun c => if c = true then (noX (E ρ1)).bind fun r => (lcF G T E ds ρ).bind fun rs => .ok (r :: rs) else lcF G T E ds ρ
def eLc (vs : List Nat) (A : Env → Res (List D)) (G : D → Env → Option Env) (T : Env → Res Bool) (E : Env → Res D) : Env → Res D := fun ρ => (A ρ).bind fun ds => (lcF G T E ds (wipeD ρ vs)).bind fun rs => fit rs (.lst rs)
def bYes : Env → Res Bool := fun _ => .ok true
structure DTs (X : Cx) (g : Gx) (F : List Fl) (es : List PySem.Expr) (T : Env → Res Bool) : Prop where
  pts : PTs X es (tT g F T)
theorem pts_imp {X : Cx} {es : List PySem.Expr} {t t' : TT} (h : PTs X es t) (i : ∀ σ H Q, t' σ H Q → t σ H Q) : PTs X es t' := ⟨fun pins s σ H Q h0 I q => h.run pins s σ H Q h0 I (i _ _ _ q)⟩
theorem dts_nil {X : Cx} {g : Gx} {F : List Fl} : DTs X g F [] bYes := ⟨pts_imp pts_nil fun σ H Q ⟨I, ρ, S, p⟩ => p true I H (Ext.refl S.s) rfl⟩
theorem dts_one {X : Cx} {g : Gx} {F : List Fl} {c : PySem.Expr} {T : Env → Res Bool} (h : DT X g F c T) : DTs X g F [c] T := ⟨pts_one h.pt⟩

/-- the ghost of a comprehension's turn -/
abbrev Gx.blk (g : Gx) (I B : Hp) : Gx := ⟨g.W, I, B, fun _ _ _ _ => False⟩
theorem post_nox {g : Gx} {α β : Type} {rep : Hp → Hp → Hp → α → β → Prop} {r : Res β} {I0 B I H : Hp} {σ : L2.St} {Q : α → Hp → Prop} {b : β} (e : noX r = .ok b) (h : ∀ v I' H', Ext I H I' H' → rep H I' H' v b → Q v H') : Post (g.blk I0 B) rep r I H σ Q := by
  cases r with
  | ok d =>
    have : d = b := by
      unfold noX at e
      injection e
    subst this
    exact h
  | exc x => cases e
  | no => cases e
theorem bind_ok_inv {α β : Type} {r : Res α} {f : α → Res β} {b : β} (h : r.bind f = .ok b) : ∃ a, r = .ok a ∧ f a = .ok b := by
  cases r with
  | ok a => exact ⟨a, rfl, h⟩
  | exc x => cases h
  | no => cases h
theorem lcF_ok_inv {G : D → Env → Option Env} {T : Env → Res Bool} {E : Env → Res D} : ∀ {ds : List D} {ρ : Env} (x : Exn), lcF G T E ds ρ ≠ .exc x
  | [], _, x, h => nomatch h
  | d :: ds, ρ, x, h => by
    unfold lcF at h
    split at h
    · cases h
    · rename_i ρ1 _
      cases e : noX (T ρ1) with
      | no => rw [e] at h; cases h
      | exc y =>
        cases e2 : T ρ1 <;> rw [e2] at e <;> cases e
      | ok c =>
        rw [e] at h
        simp only [Res.bind] at h
        split at h
        · cases e3 : noX (E ρ1) with
          | no => rw [e3] at h; cases h
          | exc y => cases e2 : E ρ1 <;> rw [e2] at e3 <;> cases e3
          | ok r =>
            rw [e3] at h
            simp only at h
            cases e4 : lcF G T E ds ρ with
            | no => rw [e4] at h; cases h
            | exc y => exact lcF_ok_inv y e4
            | ok rs => rw [e4] at h; cases h
        · exact lcF_ok_inv x h

section
variable {X : Cx} {g : Gx} {m : Md} {F Ft : List Fl} {S : List Nat} {elt tg iter : PySem.Expr} {ifs : List PySem.Expr} {scope : Scope} {own : List (Str × Nat)} {pos : Pos} {AI : Env → Res (List D)} {G : D → Env → Option Env} {T : Env → Res Bool} {E : Env → Res D}
theorem lc_turns {wi : TI} {σ : L2.St} {H : Hp} {Q : VK} (vs : List Nat) (hS : ∀ j ∈ S, j ∈ vs)
    (h : ∃ I ρ, g.Sk F I H σ ρ ∧ Post g (RepM .own g.W) (eLc vs AI G T E ρ) I H σ Q) :
    tI g F AI σ H fun J H1 => ∀ Dd, H1 Dd = none → ∃ W : Nat → Nat → Hp → Prop, (∃ m, W 0 m (upd H1 Dd (.lst []))) ∧ ∀ i m H, W i m H → (J.stop i H ∧ Q (.ref Dd) H) ∨ (J.go i H ∧ ∃ Nx : Hp → Prop, (∀ H', Nx H' → ∃ m', m' < m ∧ W (i + 1) m' H') ∧ ∀ x H', J.yld i H x H' →
      (fun (v : V) (σ : L2.St) (H : Hp) (Q : L2.St → Hp → Prop) => ∃ I0 B I ρ d, (g.blk I0 B).Sk (blkF F vs) I H σ ρ ∧ Rep g.W I v d ∧ I0 = I ∧ B = H ∧ match G d ρ with | some ρ' => ∀ σ', OutOf S σ σ' → (g.blk I0 B).Sk Ft I H σ' ρ' → Q σ' H | none => False) x (L2.wipe σ vs) H' fun σ2 H2 => L2.wipe σ2 vs = L2.wipe σ vs ∧
        (fun (σ : L2.St) (H : Hp) (Q : Bool → Hp → Prop) => ∃ I0 B, tT (g.blk I0 B) Ft T σ H Q) σ2 H2 fun b H3 =>
          if b = true then (fun (σ : L2.St) (H : Hp) (Q : VK) => ∃ I0 B, tE (g.blk I0 B) .frz Ft E σ H Q) σ2 H3 fun y H4 => ∃ acc, H4 Dd = some (.lst acc) ∧ acc.length < sizeLine ∧ Nx (upd H4 Dd (.lst (acc ++ [y]))) else Nx H3) := by
  obtain ⟨I, ρ, Sk, p⟩ := h
  refine ⟨I, ρ, Sk, Post.bind p fun J ds I1 H1 x1 io p1 => ?_⟩
  intro Dd nD
  cases el : lcF G T E ds (wipeD ρ vs) with
  | no => rw [el] at p1; exact p1.elim
  | exc x => exact absurd el (lcF_ok_inv x)
  | ok rs =>
    rw [el] at p1
    obtain ⟨hl, fin⟩ := post_fit p1
    have iD : I1 Dd = none := Same.none x1.s nD
    refine ⟨fun i m H => m = ds.length - i ∧ i ≤ ds.length ∧ ∃ I acc r0 r1, Ext I1 H1 I H ∧ I Dd = none ∧ H Dd = some (.lst acc) ∧ Reps g.W I acc r0 ∧ lcF G T E (ds.drop i) (wipeD ρ vs) = .ok r1 ∧ r0 ++ r1 = rs,
      ⟨ds.length, by simp, Nat.zero_le _, I1, [], [], rs, Ext.fresh x1.s nD, iD, upd_same, .nil, el, rfl⟩, ?_⟩
    rintro i m H3 ⟨rfl, hi, I3, acc, r0, r1, x3, n3, d3, rr, e3, er⟩
    obtain ⟨go, stop⟩ := io I3 H3 x3.i x3.s
    by_cases hlt : i < ds.length
    · have ed : ds.drop i = ds[i] :: ds.drop (i + 1) := List.drop_eq_getElem_cons hlt
      obtain ⟨g1, y1⟩ := go i ds[i] (List.getElem?_eq_getElem hlt)
      refine .inr ⟨g1, fun H => ∃ I acc r0 r1, Ext I1 H1 I H ∧ I Dd = none ∧ H Dd = some (.lst acc) ∧ Reps g.W I acc r0 ∧ lcF G T E (ds.drop (i + 1)) (wipeD ρ vs) = .ok r1 ∧ r0 ++ r1 = rs, fun H' ⟨I', a', b', c', q⟩ => ⟨ds.length - (i + 1), by omega, rfl, hlt, I', a', b', c', q⟩, fun x H' hy => ?_⟩
      obtain ⟨I4, x4, r4⟩ := y1 x H' hy
      rw [ed] at e3
      unfold lcF at e3
      have x14 : Ext I1 H1 I4 H' := x3.trans x4
      have d4 : H' Dd = some (.lst acc) := x4.b _ _ d3
      have n4 : I4 Dd = none := (x4.n Dd (by rw [d3]; simp)).trans n3
      refine ⟨I4, H', I4, wipeD ρ vs, ds[i], Sk.blk (x1.trans x14) vs, r4, rfl, rfl, ?_⟩
      cases q : G ds[i] (wipeD ρ vs) with
      | none => rw [q] at e3; cases e3
      | some ρ5 =>
        rw [q] at e3
        dsimp only at e3 ⊢
        intro σ5 o5 S5
        obtain ⟨c, ec, e3⟩ := bind_ok_inv e3
        refine ⟨(wipe_eq ⟨o5.1, fun j hj => o5.2 j fun z => hj (hS j z)⟩).trans ?_, ⟨I4, H', I4, ρ5, S5, post_nox ec fun b I6 H6 x6 eb => ?_⟩⟩
        · have : ∀ (vs : List Nat) (σ : L2.St), L2.wipe (L2.wipe σ vs) vs = L2.wipe σ vs := fun vs σ => wipe_eq ⟨L2.wipe_length _ _, fun j hj => L2.wipe_out hj⟩
          exact this vs σ
        · subst eb
          have x16 := x14.trans x6
          have d6 : H6 Dd = some (.lst acc) := x6.b _ _ d4
          have n6 : I6 Dd = none := (x6.n Dd (by rw [d4]; simp)).trans n4
          cases b with
          | false => 
            refine iteF ?_
            rw [if_neg Bool.false_ne_true] at e3
            exact ⟨I6, acc, r0, r1, x16, n6, d6, rr.mono (x4.i.trans x6.i), e3, er⟩
          | true =>
            refine iteT ?_
            rw [if_pos rfl] at e3
            obtain ⟨r, er', e3⟩ := bind_ok_inv e3
            obtain ⟨rs', ers, e3⟩ := bind_ok_inv e3
            injection e3 with e3
            refine ⟨I4, H', I6, ρ5, S5.ext x6, post_nox er' fun y I7 H7 x7 ry => ?_⟩
            have x17 := x16.trans x7
            have d7 : H7 Dd = some (.lst acc) := x7.b _ _ d6
            have n7 : I7 Dd = none := (x7.n Dd (by rw [d6]; simp)).trans n6
            have hacc : acc.length < sizeLine := by
              have h0 := rr.length
              have h1 : r0.length + r1.length = rs.length := by rw [← er, List.length_append]
              have h2 : r1.length = rs'.length + 1 := by rw [← e3]; rfl
              omega
            refine ⟨acc, d7, hacc, I7, acc ++ [y], r0 ++ [r], rs', ⟨x17.i, fun b o hb => ?_, fun b o hb => ?_, x17.n⟩, n7, upd_same, (rr.mono (x4.i.trans (x6.i.trans x7.i))).append (.one ry), ers, by rw [List.append_assoc, ← er, ← e3]; rfl⟩
            · rw [upd_ne (ne_of_none hb nD)]
              exact x17.b _ _ hb
            · rw [upd_ne (ne_of_none hb n7)]
              exact x17.s _ _ hb
    · have e : ds.drop i = [] := List.drop_eq_nil_of_le (by omega)
      rw [e] at e3
      injection e3 with e3
      subst e3
      rw [List.append_nil] at er
      subst er
      exact .inl ⟨stop i (by omega), fin _ I3 H3 x3 ⟨Dd, _, rfl, nD, n3, d3, acc, rfl, hl, rr⟩⟩
theorem de_lc (calm : X.calm = true) (hN : X.N.Nodup) (hi : DI X g F tg iter AI) (ok : BlkOk X.N X.env.scope scope own) (hS : ∀ j ∈ S, j ∈ own.map (·.2))
    (hg : ∀ (s : Shared) (H : Hp) (C : Addr) (cl : List (Str × Addr)) (fp : List Addr) (I0 B : Hp), DG (X.blk s H scope (compEnvC scope cl C X.env) fp) (g.blk I0 B) (blkF F (own.map (·.2))) Ft S tg G)
    (ht : ∀ (s : Shared) (H : Hp) (C : Addr) (cl : List (Str × Addr)) (fp : List Addr) (I0 B : Hp), DTs (X.blk s H scope (compEnvC scope cl C X.env) fp) (g.blk I0 B) Ft ifs T)
    (he : ∀ (s : Shared) (H : Hp) (C : Addr) (cl : List (Str × Addr)) (fp : List Addr) (I0 B : Hp), DE (X.blk s H scope (compEnvC scope cl C X.env) fp) (g.blk I0 B) .frz Ft elt E)
    (hs : ∀ x, foldedSetIterable iter X.env x = pure x) : DE X g .own F (.ListComp elt [⟨tg, iter, ifs, 0⟩] scope pos) (eLc (own.map (·.2)) AI G T E) := by
  refine ⟨pe_imp (pe_lc (g := fun v σ H Q => ∃ I0 B I ρ d, (g.blk I0 B).Sk (blkF F (own.map (·.2))) I H σ ρ ∧ Rep g.W I v d ∧ I0 = I ∧ B = H ∧ match G d ρ with | some ρ' => ∀ σ', OutOf S σ σ' → (g.blk I0 B).Sk Ft I H σ' ρ' → Q σ' H | none => False)
    (tt := fun σ H Q => ∃ I0 B, tT (g.blk I0 B) Ft T σ H Q) (te := fun σ H Q => ∃ I0 B, tE (g.blk I0 B) .frz Ft E σ H Q) calm hN hi.pi ok
    (fun s H C cl fp => ⟨fun pins s' σ H' v u Q h0 I r ⟨I0, B, I1, ρ, d, q1, q2, q3, q4, q5⟩ => (hg s H C cl fp I0 B).pg.run pins s' σ H' v u Q h0 I r ⟨I1, ρ, d, q1, q2, q5⟩⟩)
    (fun s H C cl fp => ⟨fun pins s' σ H' Q h0 I ⟨I0, B, q⟩ => (ht s H C cl fp I0 B).pts.run pins s' σ H' Q h0 I q⟩)
    (fun s H C cl fp => ⟨fun pins s' σ H' Q h0 I ⟨I0, B, q⟩ => (he s H C cl fp I0 B).pe.run pins s' σ H' Q h0 I q⟩) hs) fun σ H Q h => ?_⟩
  exact lc_turns (wi := tI g F AI) _ hS h
/-- name = [..] on one line -/
theorem ds_setLc {i : Nat} {y : Str} {py : Pos} {spos : Pos} {rm : Md} {lp : Lp} (calm : X.calm = true) (hN : X.N.Nodup) (hy : X.N[i]? = some y) (hyl : X.env.scope.names.lookup y = some .local)
    (hsw : swapsWith (.ListComp elt [⟨tg, iter, ifs, 0⟩] scope pos) (some (.Name y py)) spos.line X.env = pure true) (hi : DI X g F tg iter AI) (ok : BlkOk X.N X.env.scope scope own) (hS : ∀ j ∈ S, j ∈ own.map (·.2))
    (hg : ∀ (s : Shared) (H : Hp) (C : Addr) (cl : List (Str × Addr)) (fp : List Addr) (I0 B : Hp), DG (X.blk s H scope (compEnvC scope cl C X.env) fp) (g.blk I0 B) (blkF F (own.map (·.2))) Ft S tg G)
    (ht : ∀ (s : Shared) (H : Hp) (C : Addr) (cl : List (Str × Addr)) (fp : List Addr) (I0 B : Hp), DTs (X.blk s H scope (compEnvC scope cl C X.env) fp) (g.blk I0 B) Ft ifs T)
    (he : ∀ (s : Shared) (H : Hp) (C : Addr) (cl : List (Str × Addr)) (fp : List Addr) (I0 B : Hp), DE (X.blk s H scope (compEnvC scope cl C X.env) fp) (g.blk I0 B) .frz Ft elt E)
    (hl : i < F.length) (hw : Wk F lp.x = true) (hs : ∀ x, foldedSetIterable iter X.env x = pure x) : DS X g rm lp F (F.set i .own) (.Assign [.Name y py] (.ListComp elt [⟨tg, iter, ifs, 0⟩] scope pos) spos) (sSet i (eLc (own.map (·.2)) AI G T E)) := by
  refine ⟨ps_imp (ps_setLc (g := fun v σ H Q => ∃ I0 B I ρ d, (g.blk I0 B).Sk (blkF F (own.map (·.2))) I H σ ρ ∧ Rep g.W I v d ∧ I0 = I ∧ B = H ∧ match G d ρ with | some ρ' => ∀ σ', OutOf S σ σ' → (g.blk I0 B).Sk Ft I H σ' ρ' → Q σ' H | none => False)
    (tt := fun σ H Q => ∃ I0 B, tT (g.blk I0 B) Ft T σ H Q) (te := fun σ H Q => ∃ I0 B, tE (g.blk I0 B) .frz Ft E σ H Q) calm hN hy hyl hsw hi.pi ok
    (fun s H C cl fp => ⟨fun pins s' σ H' v u Q h0 I r ⟨I0, B, I1, ρ, d, q1, q2, q3, q4, q5⟩ => (hg s H C cl fp I0 B).pg.run pins s' σ H' v u Q h0 I r ⟨I1, ρ, d, q1, q2, q5⟩⟩)
    (fun s H C cl fp => ⟨fun pins s' σ H' Q h0 I ⟨I0, B, q⟩ => (ht s H C cl fp I0 B).pts.run pins s' σ H' Q h0 I q⟩)
    (fun s H C cl fp => ⟨fun pins s' σ H' Q h0 I ⟨I0, B, q⟩ => (he s H C cl fp I0 B).pe.run pins s' σ H' Q h0 I q⟩) hs) fun D σ H ⟨I, ρ, Sk, p⟩ => ?_⟩
  refine lc_turns (Q := fun v H1 => D.nx (σ.set i (some v)) H1) (wi := tI g F AI) _ hS ⟨I, ρ, Sk, ?_⟩
  exact post_of Sk hw p fun v d I1 H1 x1 r S1 p1 => p1 _ I1 H1 (Same.refl _) (Sk.setOwn x1 hl r)
end
end Vl
/-! operators and built-ins on data -/
namespace Vl
open PySem PySem.Spec PyProof.Rows L2

/-! ### what a value must be -/
section
variable {W : Wd} {I H : Hp} {v : V}
theorem rb_int {i : Int} (r : RepB W I H v (.int i)) : v = .int i := by
  rcases r with r | ⟨_, _, _, _, t⟩
  · cases r
    rfl
  · exact t.elim
theorem rb_non (r : RepB W I H v .non) : v = .non := by
  rcases r with r | ⟨_, _, _, _, t⟩
  · cases r
    rfl
  · exact t.elim
theorem rb_str {s : List Nat} (r : RepB W I H v (.str s)) : v = .str (toS s) ∧ okS s = true := by
  rcases r with r | ⟨_, _, _, _, t⟩
  · cases r
    exact ⟨rfl, by assumption⟩
  · exact t.elim
theorem rb_lst {ds : List D} (s : Same I H) (r : RepB W I H v (.lst ds)) : ∃ a xs, v = .ref a ∧ H a = some (.lst xs) ∧ ds.length ≤ sizeLine ∧ Reps W I xs ds := by
  rcases r with r | ⟨a, o, e, h, t⟩
  · cases r with
    | lst q l r => exact ⟨_, _, rfl, s _ _ q, l, r⟩
  · obtain ⟨xs, rfl, l, r⟩ := t
    exact ⟨a, xs, e, h, l, r⟩
theorem rb_tup {ds : List D} (s : Same I H) (r : RepB W I H v (.tup ds)) : ∃ a xs, v = .ref a ∧ SqT W.K H a xs ∧ ds.length ≤ sizeLine ∧ Reps W I xs ds := by
  rcases r with r | ⟨_, _, _, _, t⟩
  · cases r with
    | tup q l r => exact ⟨_, _, rfl, sqT_mono s q, l, r⟩
  · exact t.elim
theorem rb_scr {ns : List Int} (s : Same I H) (r : RepB W I H v (.scr ns)) : ∃ a, v = .ref a ∧ SqL W.K H a (ns.map V.int) := by
  rcases r with r | ⟨_, _, _, _, t⟩
  · cases r with
    | scr q => exact ⟨_, rfl, sqL_mono s q⟩
  · exact t.elim
theorem okS_len {s : List Nat} (h : okS s = true) : s.length ≤ sizeLine := of_decide_eq_true (Bool.and_eq_true_iff.mp h).2
theorem okS_all {s : List Nat} (h : okS s = true) : ∀ c ∈ s, c < 1114112 := fun c hc => of_decide_eq_true (List.all_eq_true.mp (Bool.and_eq_true_iff.mp h).1 c hc)
theorem okS_of {s : List Nat} (h1 : ∀ c ∈ s, c < 1114112) (h2 : s.length ≤ sizeLine) : okS s = true := Bool.and_eq_true_iff.mpr ⟨List.all_eq_true.mpr fun c hc => decide_eq_true (h1 c hc), decide_eq_true h2⟩
theorem okS_sub {s t : List Nat} (h : okS s = true) (hm : ∀ c ∈ t, c ∈ s) (hl : t.length ≤ s.length) : okS t = true := okS_of (fun c hc => okS_all h c (hm c hc)) (Nat.le_trans hl (okS_len h))
theorem toS_append (a b : List Nat) : toS a ++ toS b = toS (a ++ b) := by
  show Str.append _ _ = _
  unfold Str.append toS
  simp
theorem toS_length (a : List Nat) : (toS a).length = a.length := by simp [toS, Str.length]
theorem toS_cps (a : List Nat) : (toS a).cps.toList = a := by simp [toS]
theorem toS_inj {a b : List Nat} (h : toS a = toS b) : a = b := by
  have := congrArg (fun z : Str => z.cps.toList) h
  rwa [toS_cps, toS_cps] at this
theorem new_lstF {q : Addr} {vs : List V} {ds : List D} (s : Same I H) (nq : H q = none) (hl : ds.length ≤ sizeLine) (rs : Reps W I vs ds) : Ext I H (upd I q (.lst vs)) (upd H q (.lst vs)) ∧ Rep W (upd I q (.lst vs)) (.ref q) (.lst ds) := by
  have x := Ext.new (o := .lst vs) s nq
  exact ⟨x, .lst upd_same hl (rs.mono x.i)⟩
theorem new_tup {q : Addr} {vs : List V} {ds : List D} (s : Same I H) (nq : H q = none) (hl : ds.length ≤ sizeLine) (rs : Reps W I vs ds) : Ext I H (upd I q (.tup vs)) (upd H q (.tup vs)) ∧ Rep W (upd I q (.tup vs)) (.ref q) (.tup ds) := by
  have x := Ext.new (o := .tup vs) s nq
  exact ⟨x, .tup (.inl (.inl upd_same)) hl (rs.mono x.i)⟩
end

section
variable {X : Cx} {g : Gx}
/-! ### + - * // % ** -/
def addD : D → D → Option D
  | .int i, .int j => some (.int (i + j))
  | .str a, .str b => if a.length + b.length ≤ sizeLine then some (.str (a ++ b)) else none
  | .lst a, .lst b => if a.length + b.length ≤ sizeLine then some (.lst (a ++ b)) else none
  | _, _ => none
theorem opd_add : OpD X g .frz (binaryOp .Add) addD := ⟨_, op_add.or (op_add_str.or op_cat), fun I H x y d e z Q s rx ry h fin => by
  unfold addD at h
  split at h
  · cases h
    exact .inl ⟨_, _, rb_int rx, rb_int ry, fin _ _ _ (Ext.refl s) (.int _)⟩
  · split at h
    · rename_i hl
      cases h
      obtain ⟨e1, o1⟩ := rb_str rx
      obtain ⟨e2, o2⟩ := rb_str ry
      refine .inr (.inl ⟨_, _, e1, e2, by rw [toS_length, toS_length]; exact hl, ?_⟩)
      rw [toS_append]
      exact fin _ _ _ (Ext.refl s) (.str _ (okS_of (fun c hc => (List.mem_append.mp hc).elim (okS_all o1 c) (okS_all o2 c)) (by rw [List.length_append]; exact hl)))
    · cases h
  · split at h
    · rename_i hl
      cases h
      obtain ⟨a, xs, rfl, h1, l1, r1⟩ := rb_lst s rx
      obtain ⟨b, ys, rfl, h2, l2, r2⟩ := rb_lst s ry
      refine .inr (.inr ⟨a, b, xs, ys, rfl, rfl, h1, h2, by rw [r1.length, r2.length]; exact hl, fun q nq => ?_⟩)
      obtain ⟨x, r⟩ := new_lstF s nq (by rw [List.length_append]; exact hl) (r1.append r2)
      exact fin _ _ _ x r
    · cases h
  · cases h⟩
def catD : D → D → Option D
  | .lst a, .lst b => if a.length + b.length ≤ sizeLine then some (.lst (a ++ b)) else none
  | _, _ => none
theorem opd_cat : OpD X g .own (binaryOp .Add) catD := ⟨_, op_cat, fun I H x y d e z Q s rx ry h fin => by
  unfold catD at h
  split at h
  · split at h
    · rename_i hl
      cases h
      obtain ⟨a, xs, rfl, h1, l1, r1⟩ := rb_lst s rx
      obtain ⟨b, ys, rfl, h2, l2, r2⟩ := rb_lst s ry
      refine ⟨a, b, xs, ys, rfl, rfl, h1, h2, by rw [r1.length, r2.length]; exact hl, fun q nq => ?_⟩
      obtain ⟨x, r⟩ := new_lst s nq (by rw [List.length_append]; exact hl) (r1.append r2)
      exact fin _ _ _ x r
    · cases h
  · cases h⟩
def subD : D → D → Option D
  | .int i, .int j => some (.int (i - j))
  | _, _ => none
theorem opd_sub : OpD X g .frz (binaryOp .Sub) subD := ⟨_, op_sub, fun I H x y d e z Q s rx ry h fin => by
  unfold subD at h
  split at h
  · cases h
    exact ⟨_, _, rb_int rx, rb_int ry, fin _ _ _ (Ext.refl s) (.int _)⟩
  · cases h⟩
def small64 (i : Int) : Bool := decide (-(2 ^ 64) < i) && decide (i < 2 ^ 64)
def mulOk (i j : Int) : Bool := small64 i || small64 j || decide (i.natAbs.log2 + j.natAbs.log2 < 1000000)
def mulD : D → D → Option D
  | .int i, .int j => if mulOk i j = true then some (.int (i * j)) else none
  | _, _ => none
theorem opd_mul : OpD X g .frz (binaryOp .Mult) mulD := ⟨_, op_mul.or op_mulW, fun I H x y d e z Q s rx ry h fin => by
  unfold mulD at h
  split at h
  · rename_i i j
    split at h
    · rename_i hm
      cases h
      unfold mulOk small64 at hm
      simp only [Bool.or_eq_true, Bool.and_eq_true, decide_eq_true_eq] at hm
      rcases hm with (hm | hm) | hm
      · exact .inl ⟨_, _, rb_int rx, rb_int ry, .inl hm, fin _ _ _ (Ext.refl s) (.int _)⟩
      · exact .inl ⟨_, _, rb_int rx, rb_int ry, .inr hm, fin _ _ _ (Ext.refl s) (.int _)⟩
      · exact .inr ⟨_, _, rb_int rx, rb_int ry, hm, fin _ _ _ (Ext.refl s) (.int _)⟩
    · cases h
  · cases h⟩
/-- a list times an int -/
def repD : D → D → Option D
  | .lst a, .int k => if (decide (-(2 ^ 63) ≤ k) && decide (k < 2 ^ 63) && decide (a.length * k.toNat ≤ sizeLine)) = true then some (.lst (List.replicate k.toNat a).flatten) else none
  | _, _ => none
theorem Reps.rep {W : Wd} {I : Hp} {vs : List V} {ds : List D} (r : Reps W I vs ds) : ∀ k : Nat, Reps W I (List.replicate k vs).flatten (List.replicate k ds).flatten
  | 0 => .nil
  | k + 1 => by
    rw [List.replicate_succ, List.replicate_succ, List.flatten_cons, List.flatten_cons]
    exact r.append (Reps.rep r k)
theorem rep_len {α : Type} (xs : List α) : ∀ k : Nat, (List.replicate k xs).flatten.length = xs.length * k
  | 0 => rfl
  | k + 1 => by rw [List.replicate_succ, List.flatten_cons, List.length_append, rep_len xs k, Nat.mul_succ, Nat.add_comm]
theorem opd_rep : OpD X g .own (binaryOp .Mult) repD := ⟨_, op_rep, fun I H x y d e z Q s rx ry h fin => by
  unfold repD at h
  split at h
  · split at h
    · rename_i hl
      cases h
      simp only [Bool.and_eq_true, decide_eq_true_eq] at hl
      obtain ⟨⟨h1, h2⟩, h3⟩ := hl
      obtain ⟨a, xs, rfl, h4, l1, r1⟩ := rb_lst s rx
      refine ⟨a, _, xs, rfl, rb_int ry, h4, h1, h2, by rw [r1.length]; exact h3, fun q nq => ?_⟩
      obtain ⟨x, r⟩ := new_lst s nq (by rw [rep_len]; exact h3) (r1.rep _)
      exact fin _ _ _ x r
    · cases h
  · cases h⟩
def divD : D → D → Option D
  | .int i, .int j => if (decide (0 < j) && decide (j.natAbs.log2 < 9000)) = true then some (.int (i / j)) else none
  | _, _ => none
theorem opd_div : OpD X g .frz (binaryOp .FloorDiv) divD := ⟨_, op_fdivW, fun I H x y d e z Q s rx ry h fin => by
  unfold divD at h
  split at h
  · split at h
    · rename_i hm
      cases h
      simp only [Bool.and_eq_true, decide_eq_true_eq] at hm
      exact ⟨_, _, rb_int rx, rb_int ry, hm, fin _ _ _ (Ext.refl s) (.int _)⟩
    · cases h
  · cases h⟩
def modD : D → D → Option D
  | .int i, .int j => if 0 < j then some (.int (i % j)) else none
  | _, _ => none
theorem opd_mod : OpD X g .frz (binaryOp .Mod) modD := ⟨_, op_mod, fun I H x y d e z Q s rx ry h fin => by
  unfold modD at h
  split at h
  · split at h
    · rename_i hm
      cases h
      exact ⟨_, _, rb_int rx, rb_int ry, hm, fin _ _ _ (Ext.refl s) (.int _)⟩
    · cases h
  · cases h⟩
def powD : D → D → Option D
  | .int i, .int j => if (decide (0 ≤ j) && decide (j ≤ 1000000) && decide (i.natAbs < 2 ^ 64)) = true then some (.int (i ^ j.toNat)) else none
  | _, _ => none
theorem opd_pow : OpD X g .frz (binaryOp .Pow) powD := ⟨_, op_pow, fun I H x y d e z Q s rx ry h fin => by
  unfold powD at h
  split at h
  · split at h
    · rename_i hm
      cases h
      simp only [Bool.and_eq_true, decide_eq_true_eq] at hm
      exact ⟨_, _, rb_int rx, rb_int ry, ⟨hm.1.1, hm.1.2, hm.2⟩, fin _ _ _ (Ext.refl s) (.int _)⟩
    · cases h
  · cases h⟩
def negD : D → Option D
  | .int i => some (.int (-i))
  | _ => none
theorem und_neg : UnD X g (unaryOp .USub) negD := ⟨_, un_neg, fun I H x d z Q s rx h fin => by
  unfold negD at h
  split at h
  · cases h
    exact ⟨_, rb_int rx, fin _ _ _ (Ext.refl s) (.int _)⟩
  · cases h⟩

/-! ### order -/
def cmpD (p : Int → Int → Bool) (q : List Nat → List Nat → Bool) : D → D → Option Bool
  | .int i, .int j => some (p i j)
  | .str a, .str b => some (q a b)
  | _, _ => none
theorem opd_cmp {op : CmpOp} {p : Int → Int → Bool} {q : List Nat → List Nat → Bool} (h1 : OpR X (compareOp op) (rI0 fun i j => .bl (p i j)))
    (h2 : OpR X (compareOp op) (fun x y H Q => ∃ i j, x = .str i ∧ y = .str j ∧ Q (.bl (q i.cps.toList j.cps.toList)) H)) : OpD X g .frz (compareOp op) (cB (cmpD p q)) := ⟨_, h1.or h2, fun I H x y d e z Q s rx ry h fin => by
  unfold cB at h
  cases em : cmpD p q d e with
  | none => rw [em] at h; cases h
  | some b =>
    rw [em] at h
    cases h
    unfold cmpD at em
    split at em
    · cases em
      exact .inl ⟨_, _, rb_int rx, rb_int ry, fin _ _ _ (Ext.refl s) (.bl _)⟩
    · cases em
      obtain ⟨e1, o1⟩ := rb_str rx
      obtain ⟨e2, o2⟩ := rb_str ry
      refine .inr ⟨_, _, e1, e2, ?_⟩
      rw [toS_cps, toS_cps]
      exact fin _ _ _ (Ext.refl s) (.bl _)
    · cases em⟩
abbrev ltD := cmpD (fun i j => decide (i < j)) (fun a b => decide (a < b))
abbrev leD := cmpD (fun i j => decide (i ≤ j)) (fun a b => decide (a ≤ b))
abbrev gtD := cmpD (fun i j => decide (j < i)) (fun a b => decide (b < a))
abbrev geD := cmpD (fun i j => decide (j ≤ i)) (fun a b => decide (b ≤ a))
end
end Vl
/-! equality, membership, built-ins -/
namespace Vl
open PySem PySem.Spec PyProof.Rows L2

/-! ### data as the library's -/
mutual
def toPy : D → PyData
  | .non => .none
  | .bl b => .bool b
  | .int i => .int i
  | .str s => .str (toS s)
  | .lst xs => .list (toPys xs)
  | .tup xs => .tuple (toPys xs)
  | .dic _ => .dict []
  | .dit _ => .dict []
  | .obj _ _ => .dict []
  | .fn _ => .dict []
  | .scr _ => .dict []
  | .ty _ => .dict []
def toPys : List D → List PyData
  | [] => []
  | d :: ds => toPy d :: toPys ds
end
def pyOk : Nat → D → Bool
  | _, .non => true
  | _, .bl _ => true
  | _, .int _ => true
  | _, .str _ => true
  | n + 1, .lst xs => xs.all (pyOk n)
  | n + 1, .tup xs => xs.all (pyOk n)
  | _, _ => false
def deq (a b : D) : Bool := PyData.eqv (toPy a) (toPy b)
theorem strOk_of {s : List Nat} (h : okS s = true) : PyData.strOk (toS s) = true := by
  unfold PyData.strOk toS
  simp only [List.all_toArray, List.all_eq_true, decide_eq_true_eq]
  intro c hc
  exact okS_all h c hc
theorem toPys_map : ∀ xs : List D, toPys xs = xs.map toPy
  | [] => rfl
  | x :: xs => by rw [toPys, toPys_map xs]; rfl
mutual
theorem dp_of {W : Wd} {I H : Hp} (s : Same I H) : ∀ (n : Nat) (d : D) (v : V), pyOk n d = true → Rep W I v d → Dp W.K H v (toPy d) ∧ PyData.canLay0 (toPy d) = true ∧ PyData.depth (toPy d) ≤ n
  | n, .non, _, _, .non => ⟨by rw [toPy]; exact .non, by rw [toPy]; rfl, by rw [toPy]; exact Nat.zero_le _⟩
  | n, .bl b, _, _, .bl _ => ⟨by rw [toPy]; exact .bl _, by rw [toPy]; rfl, by rw [toPy]; exact Nat.zero_le _⟩
  | n, .int b, _, _, .int _ => ⟨by rw [toPy]; exact .int _, by rw [toPy]; rfl, by rw [toPy]; exact Nat.zero_le _⟩
  | n, .str b, _, _, .str _ o => ⟨by rw [toPy]; exact .str _, by rw [toPy]; exact strOk_of o, by rw [toPy]; exact Nat.zero_le _⟩
  | n + 1, .lst ds, _, h, .lst q l r => by
    have h' : ds.all (pyOk n) = true := h
    obtain ⟨h1, h2, h3⟩ := dps_of s n ds _ h' r
    rw [toPy]
    exact ⟨.lst (.inl (.inl (s _ _ q))) h1, by rw [PyData.canLay0]; exact h2, by rw [PyData.depth]; exact Nat.succ_le_succ h3⟩
  | n + 1, .tup ds, _, h, .tup q l r => by
    have h' : ds.all (pyOk n) = true := h
    obtain ⟨h1, h2, h3⟩ := dps_of s n ds _ h' r
    rw [toPy]
    exact ⟨.tup (sqT_mono s q) h1, by rw [PyData.canLay0]; exact h2, by rw [PyData.depth]; exact Nat.succ_le_succ h3⟩
  | 0, .lst _, _, h, _ => by cases h
  | 0, .tup _, _, h, _ => by cases h
  | 0, .dic _, _, h, _ => by cases h
  | 0, .dit _, _, h, _ => by cases h
  | 0, .obj _ _, _, h, _ => by cases h
  | 0, .fn _, _, h, _ => by cases h
  | 0, .scr _, _, h, _ => by cases h
  | 0, .ty _, _, h, _ => by cases h
  | n + 1, .dic _, _, h, _ => by cases h
  | n + 1, .dit _, _, h, _ => by cases h
  | n + 1, .obj _ _, _, h, _ => by cases h
  | n + 1, .fn _, _, h, _ => by cases h
  | n + 1, .scr _, _, h, _ => by cases h
  | n + 1, .ty _, _, h, _ => by cases h
theorem dps_of {W : Wd} {I H : Hp} (s : Same I H) : ∀ (n : Nat) (ds : List D) (vs : List V), ds.all (pyOk n) = true → Reps W I vs ds → DpAll W.K H vs (toPys ds) ∧ PyData.canLayAll0 (toPys ds) = true ∧ PyData.depthAll (toPys ds) ≤ n
  | n, [], _, _, .nil => by rw [toPys]; exact ⟨.nil, rfl, Nat.zero_le _⟩
  | n, d :: ds, _, h, .cons r rr => by
    have h1 := List.all_eq_true.mp h
    have hd : pyOk n d = true := h1 d (by simp)
    have hds : ds.all (pyOk n) = true := List.all_eq_true.mpr fun x hx => h1 x (by simp [hx])
    obtain ⟨a1, a2, a3⟩ := dp_of s n d _ hd r
    obtain ⟨b1, b2, b3⟩ := dps_of s n ds _ hds rr
    rw [toPys]
    refine ⟨.cons a1 b1, ?_, ?_⟩
    · rw [PyData.canLayAll0, a2, b2]
      rfl
    · rw [PyData.depthAll]
      exact Nat.max_le.mpr ⟨a3, b3⟩
end
theorem dpb_of {W : Wd} {I H : Hp} (s : Same I H) {d : D} {v : V} (h : pyOk 64 d = true) (r : RepB W I H v d) : Dp W.K H v (toPy d) ∧ SeqAt.shaped (toPy d) = true := by
  have go : Dp W.K H v (toPy d) ∧ PyData.canLay0 (toPy d) = true ∧ PyData.depth (toPy d) ≤ 64 := by
    rcases r with r | ⟨a, o, rfl, q, t⟩
    · exact dp_of s 64 d v h r
    · cases d <;> first | exact t.elim | skip
      · obtain ⟨xs, rfl, l, r⟩ := t
        rename_i ds
        have h' : ds.all (pyOk 63) = true := h
        obtain ⟨h1, h2, h3⟩ := dps_of s 63 _ _ h' r
        rw [toPy]
        exact ⟨.lst (.inl (.inl q)) h1, by rw [PyData.canLay0]; exact h2, by rw [PyData.depth]; exact Nat.succ_le_succ h3⟩
      · cases h
      · cases h
  exact ⟨go.1, Bool.and_eq_true_iff.mpr ⟨go.2.1, decide_eq_true go.2.2⟩⟩

section
variable {X : Cx} {g : Gx}
/-! ### ==, !=, in, not in -/
def eqD (a b : D) : Option Bool := if (pyOk 64 a && pyOk 64 b) = true then some (deq a b) else none
def neD (a b : D) : Option Bool := (eqD a b).map not
theorem cB_some {k : D → D → Option Bool} {d e z : D} (h : cB k d e = some z) : ∃ b, k d e = some b ∧ z = .bl b := by
  unfold cB at h
  cases q : k d e with
  | none => rw [q] at h; cases h
  | some b => rw [q] at h; cases h; exact ⟨b, rfl, rfl⟩
theorem opd_eq (hu : X.A.units + 64 < cLine) (hK : X.K = g.W.K) : OpD X g .frz (compareOp .Eq) (cB eqD) := ⟨_, op_eqD hu, fun I H x y d e z Q s rx ry h fin => by
  obtain ⟨b, hb, rfl⟩ := cB_some h
  unfold eqD at hb
  split at hb
  · rename_i ho
    cases hb
    obtain ⟨d1, s1⟩ := dpb_of s (Bool.and_eq_true_iff.mp ho).1 rx
    obtain ⟨d2, s2⟩ := dpb_of s (Bool.and_eq_true_iff.mp ho).2 ry
    exact ⟨_, _, by rw [hK]; exact d1, by rw [hK]; exact d2, s1, s2, fin _ _ _ (Ext.refl s) (.bl _)⟩
  · cases hb⟩
theorem opd_ne (hu : X.A.units + 64 < cLine) (hK : X.K = g.W.K) : OpD X g .frz (compareOp .NotEq) (cB neD) := ⟨_, op_neD hu, fun I H x y d e z Q s rx ry h fin => by
  obtain ⟨b, hb, rfl⟩ := cB_some h
  unfold neD eqD at hb
  split at hb
  · rename_i ho
    cases hb
    obtain ⟨d1, s1⟩ := dpb_of s (Bool.and_eq_true_iff.mp ho).1 rx
    obtain ⟨d2, s2⟩ := dpb_of s (Bool.and_eq_true_iff.mp ho).2 ry
    exact ⟨_, _, by rw [hK]; exact d1, by rw [hK]; exact d2, s1, s2, fin _ _ _ (Ext.refl s) (.bl _)⟩
  · cases hb⟩
/-- x in ys -/
def inD : D → D → Option Bool
  | x, .lst ys => if (pyOk 63 x && pyOk 64 (.lst ys)) = true then some (ys.any fun z => deq z x) else none
  | .str [c], .str z => some (decide (c ∈ z))
  | x, .tup ys => if (pyOk 0 x && ys.all (pyOk 0)) = true then some (ys.any fun z => deq z x) else none
  | _, _ => none
def ninD (a b : D) : Option Bool := (inD a b).map not
theorem pyOk_mono : ∀ (n : Nat) (d : D), pyOk n d = true → pyOk (n + 1) d = true
  | n, .non, _ => by unfold pyOk; rfl
  | n, .bl _, _ => by unfold pyOk; rfl
  | n, .int _, _ => by unfold pyOk; rfl
  | n, .str _, _ => by unfold pyOk; rfl
  | n + 1, .lst xs, h => by
    have h' : xs.all (pyOk n) = true := h
    show xs.all (pyOk (n + 1)) = true
    rw [List.all_eq_true] at h' ⊢
    exact fun x hx => pyOk_mono n x (h' x hx)
  | n + 1, .tup xs, h => by
    have h' : xs.all (pyOk n) = true := h
    show xs.all (pyOk (n + 1)) = true
    rw [List.all_eq_true] at h' ⊢
    exact fun x hx => pyOk_mono n x (h' x hx)
  | 0, .lst _, h => by cases h
  | 0, .tup _, h => by cases h
  | 0, .dic _, h => by cases h
  | 0, .dit _, h => by cases h
  | 0, .obj _ _, h => by cases h
  | 0, .fn _, h => by cases h
  | 0, .scr _, h => by cases h
  | 0, .ty _, h => by cases h
  | n + 1, .dic _, h => by cases h
  | n + 1, .dit _, h => by cases h
  | n + 1, .obj _ _, h => by cases h
  | n + 1, .fn _, h => by cases h
  | n + 1, .scr _, h => by cases h
  | n + 1, .ty _, h => by cases h
theorem pyOk_le {m n : Nat} (h : m ≤ n) {d : D} (o : pyOk m d = true) : pyOk n d = true := by
  induction h with
  | refl => exact o
  | step _ ih => exact pyOk_mono _ _ ih
theorem flat_of {W : Wd} {I H : Hp} {v : V} {d : D} (h : pyOk 0 d = true) (r : RepB W I H v d) : flatV v = true ∧ ∀ v' d', pyOk 0 d' = true → RepB W I H v' d' → eqV v' v = deq d' d := by
  cases d <;> first | cases h | skip
  · obtain rfl := rb_non r
    refine ⟨rfl, fun v' d' h' r' => ?_⟩
    cases d' <;> first | cases h' | skip
    · obtain rfl := rb_non r'; rfl
    · obtain rfl := repB_bl r'; rfl
    · obtain rfl := rb_int r'; rfl
    · obtain ⟨rfl, _⟩ := rb_str r'; rfl
  · obtain rfl := repB_bl r
    refine ⟨rfl, fun v' d' h' r' => ?_⟩
    cases d' <;> first | cases h' | skip
    · obtain rfl := rb_non r'; rfl
    · obtain rfl := repB_bl r'; rfl
    · obtain rfl := rb_int r'; rfl
    · obtain ⟨rfl, _⟩ := rb_str r'; rfl
  · obtain rfl := rb_int r
    refine ⟨rfl, fun v' d' h' r' => ?_⟩
    cases d' <;> first | cases h' | skip
    · obtain rfl := rb_non r'; rfl
    · obtain rfl := repB_bl r'; rfl
    · obtain rfl := rb_int r'; rfl
    · obtain ⟨rfl, _⟩ := rb_str r'; rfl
  · obtain ⟨rfl, _⟩ := rb_str r
    refine ⟨rfl, fun v' d' h' r' => ?_⟩
    cases d' <;> first | cases h' | skip
    · obtain rfl := rb_non r'; rfl
    · obtain rfl := repB_bl r'; rfl
    · obtain rfl := rb_int r'; rfl
    · obtain ⟨rfl, _⟩ := rb_str r'; rfl
theorem any_flat {W : Wd} {I H : Hp} {v : V} {d : D} (h : pyOk 0 d = true) (r : RepB W I H v d) : ∀ (vs : List V) (ds : List D), ds.all (pyOk 0) = true → Reps W I vs ds → vs.all flatV = true ∧ inV v vs = ds.any fun z => deq z d
  | [], [], _, _ => ⟨rfl, rfl⟩
  | v' :: vs, d' :: ds, ho, .cons r1 r2 => by
    have h1 := List.all_eq_true.mp ho
    have hd : pyOk 0 d' = true := h1 d' (by simp)
    have hds : ds.all (pyOk 0) = true := List.all_eq_true.mpr fun x hx => h1 x (by simp [hx])
    obtain ⟨a1, a2⟩ := any_flat h r _ _ hds r2
    refine ⟨?_, ?_⟩
    · rw [List.all_cons, (flat_of hd (.inl r1 : RepB W I H v' d')).1, a1]
      rfl
    · unfold inV at a2 ⊢
      rw [List.any_cons, List.any_cons, a2, (flat_of h r).2 v' d' hd (.inl r1)]
theorem any_deq (x : D) : ∀ ys : List D, ((toPys ys).any fun z => PyData.eqv z (toPy x)) = ys.any fun z => deq z x
  | [] => rfl
  | y :: ys => by rw [toPys, List.any_cons, List.any_cons, any_deq x ys]; rfl
theorem toS_one (c : Nat) : toS [c] = ⟨#[c]⟩ := rfl
theorem opd_in (hu : X.A.units + 65 < cLine) (hK : X.K = g.W.K) : OpD X g .frz (compareOp .In) (cB inD) := ⟨_, (op_inD hu).or (op_in_sign.or op_in_seq), fun I H x y d e z Q s rx ry h fin => by
  obtain ⟨b, hb, rfl⟩ := cB_some h
  unfold inD at hb
  split at hb
  · split at hb
    · rename_i ho
      cases hb
      obtain ⟨d1, s1⟩ := dpb_of s (pyOk_le (by decide : 63 ≤ 64) (Bool.and_eq_true_iff.mp ho).1) rx
      obtain ⟨d2, s2⟩ := dpb_of s (Bool.and_eq_true_iff.mp ho).2 ry
      rw [toPy] at d2 s2
      refine .inl ⟨_, _, by rw [hK]; exact d1, by rw [hK]; exact d2, s1, s2, ?_⟩
      rw [any_deq]
      exact fin _ _ _ (Ext.refl s) (.bl _)
    · cases hb
  · cases hb
    obtain ⟨e1, o1⟩ := rb_str rx
    obtain ⟨e2, o2⟩ := rb_str ry
    refine .inr (.inl ⟨_, _, e1, e2, ?_⟩)
    rw [toS_cps]
    exact fin _ _ _ (Ext.refl s) (.bl _)
  · split at hb
    · rename_i ho
      cases hb
      obtain ⟨h1, h2⟩ := Bool.and_eq_true_iff.mp ho
      obtain ⟨a, ys, rfl, q, l, r⟩ := rb_tup s ry
      obtain ⟨f1, f2⟩ := any_flat h1 rx _ _ h2 r
      refine .inr (.inr ⟨a, ys, rfl, .inr (by rw [hK]; exact q), (flat_of h1 rx).1, f1, ?_⟩)
      rw [if_neg Bool.false_ne_true, f2]
      exact fin _ _ _ (Ext.refl s) (.bl _)
    · cases hb
  · cases hb⟩
theorem opd_nin (hu : X.A.units + 65 < cLine) (hK : X.K = g.W.K) : OpD X g .frz (compareOp .NotIn) (cB ninD) := ⟨_, (op_notInD hu).or (op_notIn_sign.or op_notIn_seq), fun I H x y d e z Q s rx ry h fin => by
  obtain ⟨b, hb, rfl⟩ := cB_some h
  unfold ninD inD at hb
  split at hb
  · split at hb
    · rename_i ho
      cases hb
      obtain ⟨d1, s1⟩ := dpb_of s (pyOk_le (by decide : 63 ≤ 64) (Bool.and_eq_true_iff.mp ho).1) rx
      obtain ⟨d2, s2⟩ := dpb_of s (Bool.and_eq_true_iff.mp ho).2 ry
      rw [toPy] at d2 s2
      refine .inl ⟨_, _, by rw [hK]; exact d1, by rw [hK]; exact d2, s1, s2, ?_⟩
      rw [any_deq]
      exact fin _ _ _ (Ext.refl s) (.bl _)
    · cases hb
  · cases hb
    obtain ⟨e1, o1⟩ := rb_str rx
    obtain ⟨e2, o2⟩ := rb_str ry
    refine .inr (.inl ⟨_, _, e1, e2, ?_⟩)
    rw [toS_cps]
    exact fin _ _ _ (Ext.refl s) (.bl _)
  · split at hb
    · rename_i ho
      cases hb
      obtain ⟨h1, h2⟩ := Bool.and_eq_true_iff.mp ho
      obtain ⟨a, ys, rfl, q, l, r⟩ := rb_tup s ry
      obtain ⟨f1, f2⟩ := any_flat h1 rx _ _ h2 r
      refine .inr (.inr ⟨a, ys, rfl, .inr (by rw [hK]; exact q), (flat_of h1 rx).1, f1, ?_⟩)
      rw [if_pos rfl, f2]
      exact fin _ _ _ (Ext.refl s) (.bl _)
    · cases hb
  · cases hb⟩
/-- is None -/
def isNonD : D → D → Option Bool
  | .non, .non => some true
  | .bl _, .non => some false
  | .int _, .non => some false
  | .str _, .non => some false
  | .lst _, .non => some false
  | .tup _, .non => some false
  | .dic _, .non => some false
  | .dit _, .non => some false
  | .obj _ _, .non => some false
  | _, _ => none
def isntNonD (a b : D) : Option Bool := (isNonD a b).map not
theorem isNon_dec {W : Wd} {I H : Hp} {v y : V} {d e : D} {b : Bool} (h : isNonD d e = some b) (r : RepB W I H v d) (ry : RepB W I H y e) : y = .non ∧ decide (v = .non) = b := by
  unfold isNonD at h
  split at h <;> first | cases h | skip
  · exact ⟨rb_non ry, by rw [rb_non r]; rfl⟩
  · exact ⟨rb_non ry, by rw [repB_bl r]; rfl⟩
  · exact ⟨rb_non ry, by rw [rb_int r]; rfl⟩
  · exact ⟨rb_non ry, by rw [(rb_str r).1]; rfl⟩
  all_goals
    refine ⟨rb_non ry, ?_⟩
    rcases r with r | ⟨a, o, rfl, _, _⟩
    · cases r; rfl
    · rfl
theorem opd_is : OpD X g .frz (compareOp .Is) (cB isNonD) := ⟨_, op_isN, fun I H x y d e z Q s rx ry h fin => by
  obtain ⟨b, hb, rfl⟩ := cB_some h
  obtain ⟨h1, h2⟩ := isNon_dec hb rx ry
  refine ⟨h1, ?_⟩
  rw [h2]
  exact fin _ _ _ (Ext.refl s) (.bl _)⟩
theorem opd_isnt : OpD X g .frz (compareOp .IsNot) (cB isntNonD) := ⟨_, op_notN, fun I H x y d e z Q s rx ry h fin => by
  obtain ⟨b, hb, rfl⟩ := cB_some h
  unfold isntNonD at hb
  cases q : isNonD d e with
  | none => rw [q] at hb; cases hb
  | some c =>
    rw [q] at hb
    cases hb
    obtain ⟨h1, h2⟩ := isNon_dec q rx ry
    refine ⟨h1, ?_⟩
    rw [h2]
    exact fin _ _ _ (Ext.refl s) (.bl _)⟩
theorem opd_lt : OpD X g .frz (compareOp .Lt) (cB ltD) := opd_cmp op_lt op_lt_str
theorem opd_gt : OpD X g .frz (compareOp .Gt) (cB gtD) := opd_cmp op_gt op_gt_str
abbrev leD' := cmpD (fun i j => decide (i ≤ j)) (fun a b => !decide (b < a))
abbrev geD' := cmpD (fun i j => decide (j ≤ i)) (fun a b => !decide (a < b))
theorem opd_le : OpD X g .frz (compareOp .LtE) (cB leD') := opd_cmp op_le op_le_str
theorem opd_ge : OpD X g .frz (compareOp .GtE) (cB geD') := opd_cmp op_ge op_ge_str
end
end Vl
/-! lengths, places, slices, built-ins -/
namespace Vl
open PySem PySem.Spec PyProof.Rows L2

section
variable {X : Cx} {g : Gx} {m m1 m2 rm : Md} {lp : Lp} {F F' : List Fl} {a b c e : PySem.Expr} {A B : Env → Res D} {pos p2 : Pos}
theorem rbs_1 {W : Wd} {I H : Hp} {xs : List V} {d : D} (r : RepBs W I H xs [d]) : ∃ v, xs = [v] ∧ RepB W I H v d := by
  cases xs with
  | nil => exact r.elim
  | cons v vs =>
    cases vs with
    | nil => exact ⟨v, rfl, r.1⟩
    | cons _ _ => exact r.2.elim
theorem rbs_2 {W : Wd} {I H : Hp} {xs : List V} {d e : D} (r : RepBs W I H xs [d, e]) : ∃ v u, xs = [v, u] ∧ RepB W I H v d ∧ RepB W I H u e := by
  cases xs with
  | nil => exact r.elim
  | cons v vs =>
    obtain ⟨r1, r2⟩ := r
    obtain ⟨u, rfl, r3⟩ := rbs_1 r2
    exact ⟨v, u, rfl, r1, r3⟩
/-! ### len -/
def lenD : List D → Option D
  | [.str s] => some (.int s.length)
  | [.lst s] => some (.int s.length)
  | [.tup s] => some (.int s.length)
  | [.scr s] => some (.int s.length)
  | _ => none
theorem cd_len (hK : X.K = g.W.K) : CallD X g .frz (.builtin "len") lenD := ⟨_, call_len, fun I H xs ds z Q s r h fin => by
  unfold lenD at h
  split at h <;> first | cases h | skip
  · obtain ⟨v, rfl, r1⟩ := rbs_1 r
    obtain ⟨rfl, o⟩ := rb_str r1
    exact ⟨_, _, rfl, ⟨by rw [toS_length]; exact okS_len o, rfl⟩, by rw [toS_length]; exact fin _ _ _ (Ext.refl s) (.int _)⟩
  · obtain ⟨v, rfl, r1⟩ := rbs_1 r
    obtain ⟨a, xs, rfl, h, l, r2⟩ := rb_lst s r1
    exact ⟨_, _, rfl, .inl ⟨xs, .inl (.inl h), rfl⟩, by rw [r2.length]; exact fin _ _ _ (Ext.refl s) (.int _)⟩
  · obtain ⟨v, rfl, r1⟩ := rbs_1 r
    obtain ⟨a, xs, rfl, h, l, r2⟩ := rb_tup s r1
    exact ⟨_, _, rfl, .inr ⟨xs, by rw [hK]; exact h, rfl⟩, by rw [r2.length]; exact fin _ _ _ (Ext.refl s) (.int _)⟩
  · obtain ⟨v, rfl, r1⟩ := rbs_1 r
    obtain ⟨a, rfl, h⟩ := rb_scr s r1
    exact ⟨_, _, rfl, .inl ⟨_, by rw [hK]; exact h, rfl⟩, by rw [List.length_map]; exact fin _ _ _ (Ext.refl s) (.int _)⟩⟩
/-! ### a[i] -/
def ixD : D → D → Option D
  | .lst ds, .int i => atI ds i
  | .tup ds, .int i => atI ds i
  | .str s, .int i => (atI s i).map fun c => .str [c]
  | .scr s, .int i => (atI s i).map .int
  | _, _ => none
theorem atI_reps {W : Wd} {I : Hp} {vs : List V} {ds : List D} {i : Int} {d : D} (r : Reps W I vs ds) (h : atI ds i = some d) : ∃ v, atI vs i = some v ∧ Rep W I v d := by
  unfold atI at h ⊢
  rw [r.length]
  cases q : ixN ds.length i with
  | none => rw [q] at h; cases h
  | some j =>
    rw [q] at h
    exact r.get h
theorem atI_mem {α : Type} {xs : List α} {i : Int} {x : α} (h : atI xs i = some x) : x ∈ xs := by
  unfold atI at h
  cases q : ixN xs.length i with
  | none => rw [q] at h; cases h
  | some j =>
    rw [q] at h
    exact List.mem_of_getElem? h
theorem atI_map {α β : Type} {xs : List α} {i : Int} {x : α} {f : α → β} (h : atI xs i = some x) : atI (xs.map f) i = some (f x) := by
  unfold atI at h ⊢
  rw [List.length_map]
  cases q : ixN xs.length i with
  | none => rw [q] at h; cases h
  | some j =>
    rw [q] at h
    show (xs.map f)[j]? = some (f x)
    rw [List.getElem?_map]
    have h' : xs[j]? = some x := h
    rw [h']
    rfl
theorem one_le_line : 1 ≤ sizeLine := by decide
theorem de_ix (hK : X.K = g.W.K) (ha : DE X g m1 F a A) (hb : DE X g m2 F b B) (hs : PlainIx b) : DE X g .frz F (.Subscript a b pos) (eBin ixD A B) := ⟨pe_imp (pe_ix ix_seq ha.pe hb.pe hs) fun σ H Q h => tE_bin (fun I H x y d e z Q s rx ry h fin => by
  unfold ixD at h
  split at h
  · obtain ⟨l, xs, rfl, h1, _, r⟩ := rb_lst s rx
    obtain ⟨v, h2, r2⟩ := atI_reps r h
    exact .inl ⟨l, xs, _, v, rfl, rb_int ry, .inl (.inl h1), h2, fin _ _ _ (Ext.refl s) r2⟩
  · obtain ⟨l, xs, rfl, h1, _, r⟩ := rb_tup s rx
    obtain ⟨v, h2, r2⟩ := atI_reps r h
    exact .inr (.inl ⟨l, xs, _, v, rfl, rb_int ry, by rw [hK]; exact h1, h2, fin _ _ _ (Ext.refl s) r2⟩)
  · rename_i st i
    cases q : atI st i with
    | none => rw [q] at h; cases h
    | some c =>
      rw [q] at h
      cases h
      obtain ⟨rfl, o⟩ := rb_str rx
      refine .inr (.inr ⟨_, i, c, rfl, rb_int ry, by rw [toS_length]; exact okS_len o, by rw [toS_cps]; exact q, fin _ _ _ (Ext.refl s) (.str [c] (okS_of (fun c' hc' => ?_) one_le_line))⟩)
      have : c' = c := by simpa using hc'
      subst this
      exact okS_all o _ (atI_mem q)
  · rename_i st i
    cases q : atI st i with
    | none => rw [q] at h; cases h
    | some c =>
      rw [q] at h
      cases h
      obtain ⟨l, rfl, h1⟩ := rb_scr s rx
      exact .inl ⟨l, _, i, _, rfl, rb_int ry, by rw [hK]; exact h1, atI_map q, fin _ _ _ (Ext.refl s) (.int c)⟩
  · cases h) h⟩
/-! ### a[i:j] -/
def cutG {α : Type} (xs : List α) (lo hi : Option Int) : List α := (xs.drop (HT.sIx xs.length 0 lo)).take (HT.sIx xs.length xs.length hi - HT.sIx xs.length 0 lo)
theorem cutG_len {α : Type} (xs : List α) (lo hi : Option Int) : (cutG xs lo hi).length ≤ xs.length := by
  unfold cutG
  rw [List.length_take, List.length_drop]
  omega
theorem cutG_mem {α : Type} {xs : List α} {lo hi : Option Int} {x : α} (h : x ∈ cutG xs lo hi) : x ∈ xs := List.mem_of_mem_drop (List.mem_of_mem_take h)
theorem Reps.cut {W : Wd} {I : Hp} {vs : List V} {ds : List D} (r : Reps W I vs ds) (lo hi : Option Int) : Reps W I (cutV vs lo hi) (cutG ds lo hi) := by
  unfold cutV cutG
  rw [r.length]
  exact (r.drop _).take _
def slL (x : D) (lo hi : Option Int) : Option D := match x with
  | .lst ds => some (.lst (cutG ds lo hi))
  | _ => none
def slD (x : D) (lo hi : Option Int) : Option D := match x with
  | .lst ds => some (.lst (cutG ds lo hi))
  | .str s => some (.str (cutG s lo hi))
  | _ => none
/-- a part of a slice -/
structure DP (X : Cx) (g : Gx) (F : List Fl) (e : Option PySem.Expr) (A : Env → Res (Option Int)) : Prop where
  po : PO X e (fun σ H Q => ∃ I ρ, g.Sk F I H σ ρ ∧ Post g (fun _ _ _ a b => a = b) (A ρ) I H σ Q)
def pNone : Env → Res (Option Int) := fun _ => .ok none
def pSome (A : Env → Res D) : Env → Res (Option Int) := fun ρ => (A ρ).bind fun d => match d with
  | .int i => .ok (some i)
  | _ => .no
theorem po_imp {e : Option PySem.Expr} {t t' : TO} (h : PO X e t) (i : ∀ σ H Q, t' σ H Q → t σ H Q) : PO X e t' := ⟨fun pins s σ H Q h0 I q => h.run pins s σ H Q h0 I (i _ _ _ q)⟩
theorem dp_none : DP X g F none pNone := ⟨po_imp po_none fun σ H Q ⟨I, ρ, S, p⟩ => p none I H (Ext.refl S.s) rfl⟩
theorem dp_some (h : DE X g m F e A) : DP X g F (some e) (pSome A) := ⟨po_imp (po_some h.pe) fun σ H Q ⟨I, ρ, S, p⟩ => ⟨I, ρ, S, Post.bind p fun v d I1 H1 x1 r1 p1 => by
  cases d <;> first | exact p1.elim | skip
  exact ⟨_, rb_int r1.b, p1 _ I1 H1 (Ext.refl x1.s) rfl⟩⟩⟩
def eSl (k : D → Option Int → Option Int → Option D) (A : Env → Res D) (P Q : Env → Res (Option Int)) : Env → Res D := fun ρ => (A ρ).bind fun d => (P ρ).bind fun lo => (Q ρ).bind fun hi => ofO (k d lo hi)
theorem tE_sl {k : D → Option Int → Option Int → Option D} {r : V → Option Int → Option Int → Hp → VK → Prop} {m : Md} {P Pq : Env → Res (Option Int)}
    (hr : ∀ I H x d lo hi z Q, Same I H → RepB g.W I H x d → k d lo hi = some z → (∀ v I' H', Ext I H I' H' → RepM m g.W H I' H' v z → Q v H') → r x lo hi H Q)
    {σ : L2.St} {H : Hp} {Q : VK} (h : tE g m F (eSl k A P Pq) σ H Q) : tSl r (tE g m1 F A) (fun σ H Q => ∃ I ρ, g.Sk F I H σ ρ ∧ Post g (fun _ _ _ a b => a = b) (P ρ) I H σ Q) (fun σ H Q => ∃ I ρ, g.Sk F I H σ ρ ∧ Post g (fun _ _ _ a b => a = b) (Pq ρ) I H σ Q) σ H Q := by
  obtain ⟨I, ρ, S, p⟩ := h
  refine ⟨I, ρ, S, Post.bind p fun v d I1 H1 x1 r1 p1 => ?_⟩
  refine ⟨I1, ρ, S.ext x1, Post.bind p1 fun lo lo' I2 H2 x2 r2 p2 => ?_⟩
  subst r2
  refine ⟨I2, ρ, (S.ext x1).ext x2, Post.bind p2 fun hi hi' I3 H3 x3 r3 p3 => ?_⟩
  subst r3
  obtain ⟨z, ez, fin⟩ := post_opt p3
  have x13 := x2.trans x3
  exact hr I3 H3 v d lo hi z Q x3.s (RepB.mono x13.i x13.b r1.b) ez fin
theorem de_slL {lo hi : Option PySem.Expr} {P Pq : Env → Res (Option Int)} (hK : X.K = g.W.K) (ha : DE X g m1 F a A) (hl : DP X g F lo P) (hh : DP X g F hi Pq) : DE X g .own F (.Subscript a (.Slice lo hi none p2) pos) (eSl slL A P Pq) :=
  ⟨pe_imp (pe_slice sl_list ha.pe hl.po hh.po) fun σ H Q h => tE_sl (fun I H x d lo hi z Q s rx h fin => by
    unfold slL at h
    split at h
    · cases h
      obtain ⟨l, xs, rfl, h1, hl, r⟩ := rb_lst s rx
      refine ⟨l, xs, rfl, .inl (.inl h1), fun q nq => ?_⟩
      obtain ⟨x, r⟩ := new_lst s nq (Nat.le_trans (cutG_len _ _ _) hl) (r.cut lo hi)
      exact fin _ _ _ x r
    · cases h) h⟩
theorem cutS_toS (s : List Nat) (lo hi : Option Int) : cutS (toS s) lo hi = toS (cutG s lo hi) := by
  unfold cutS cutG
  rw [toS_cps, toS_length]
  rfl
theorem de_sl {lo hi : Option PySem.Expr} {P Pq : Env → Res (Option Int)} (hK : X.K = g.W.K) (ha : DE X g m1 F a A) (hl : DP X g F lo P) (hh : DP X g F hi Pq) : DE X g .frz F (.Subscript a (.Slice lo hi none p2) pos) (eSl slD A P Pq) :=
  ⟨pe_imp (pe_slice (sl_list.or sl_str) ha.pe hl.po hh.po) fun σ H Q h => tE_sl (fun I H x d lo hi z Q s rx h fin => by
    unfold slD at h
    split at h
    · cases h
      obtain ⟨l, xs, rfl, h1, hl, r⟩ := rb_lst s rx
      refine .inl ⟨l, xs, rfl, .inl (.inl h1), fun q nq => ?_⟩
      obtain ⟨x, r⟩ := new_lstF s nq (Nat.le_trans (cutG_len _ _ _) hl) (r.cut lo hi)
      exact fin _ _ _ x r
    · cases h
      obtain ⟨rfl, o⟩ := rb_str rx
      refine .inr ⟨_, rfl, by rw [toS_length]; exact okS_len o, ?_⟩
      rw [cutS_toS]
      exact fin _ _ _ (Ext.refl s) (.str _ (okS_sub o (fun c hc => cutG_mem hc) (cutG_len _ _ _)))
    · cases h) h⟩

/-! ### sums, sorts, all, any -/
def intsOf : List D → Option (List Int)
  | [] => some []
  | .int i :: r => (intsOf r).map (i :: ·)
  | _ :: _ => none
def blsOf : List D → Option (List Bool)
  | [] => some []
  | .bl i :: r => (blsOf r).map (i :: ·)
  | _ :: _ => none
def strsOf : List D → Option (List (List Nat))
  | [] => some []
  | .str i :: r => (strsOf r).map (i :: ·)
  | _ :: _ => none
theorem ints_reps {W : Wd} {I : Hp} : ∀ {vs : List V} {ds : List D} {ns : List Int}, Reps W I vs ds → intsOf ds = some ns → vs = ns.map V.int
  | _, _, _, .nil, h => by cases h; rfl
  | _, d :: ds, ns, .cons r rr, h => by
    unfold intsOf at h
    split at h
    · rename_i z
      cases z
    · rename_i i r' e
      injection e with e1 e2
      subst e1
      subst e2
      cases q : intsOf ds with
      | none => rw [q] at h; cases h
      | some ms =>
        rw [q] at h
        cases h
        rw [ints_reps rr q, rb_int (H := I) (.inl r : RepB W I I _ _)]
        rfl
    · cases h
theorem bls_reps {W : Wd} {I : Hp} : ∀ {vs : List V} {ds : List D} {ns : List Bool}, Reps W I vs ds → blsOf ds = some ns → vs = ns.map V.bl
  | _, _, _, .nil, h => by cases h; rfl
  | _, d :: ds, ns, .cons r rr, h => by
    unfold blsOf at h
    split at h
    · rename_i z
      cases z
    · rename_i i r' e
      injection e with e1 e2
      subst e1
      subst e2
      cases q : blsOf ds with
      | none => rw [q] at h; cases h
      | some ms =>
        rw [q] at h
        cases h
        rw [bls_reps rr q, repB_bl (H := I) (.inl r : RepB W I I _ _)]
        rfl
    · cases h
theorem strs_reps {W : Wd} {I : Hp} : ∀ {vs : List V} {ds : List D} {ns : List (List Nat)}, Reps W I vs ds → strsOf ds = some ns → vs = (ns.map toS).map V.str ∧ ∀ s ∈ ns, okS s = true
  | _, _, _, .nil, h => by cases h; exact ⟨rfl, fun _ h => nomatch h⟩
  | _, d :: ds, ns, .cons r rr, h => by
    unfold strsOf at h
    split at h
    · rename_i z
      cases z
    · rename_i i r' e
      injection e with e1 e2
      subst e1
      subst e2
      cases q : strsOf ds with
      | none => rw [q] at h; cases h
      | some ms =>
        rw [q] at h
        cases h
        obtain ⟨h1, h2⟩ := strs_reps rr q
        obtain ⟨e3, o⟩ := rb_str (H := I) (.inl r : RepB W I I _ _)
        refine ⟨by rw [h1, e3]; rfl, fun s hs => ?_⟩
        rcases List.mem_cons.mp hs with z | z
        · rw [z]; exact o
        · exact h2 s z
    · cases h
theorem intsOf_map (ns : List Int) : intsOf (ns.map D.int) = some ns := by
  induction ns with
  | nil => rfl
  | cons n ns ih => rw [List.map_cons, intsOf, ih]; rfl
theorem strsOf_map (ns : List (List Nat)) : strsOf (ns.map D.str) = some ns := by
  induction ns with
  | nil => rfl
  | cons n ns ih => rw [List.map_cons, strsOf, ih]; rfl
theorem blsOf_map (ns : List Bool) : blsOf (ns.map D.bl) = some ns := by
  induction ns with
  | nil => rfl
  | cons n ns ih => rw [List.map_cons, blsOf, ih]; rfl
theorem reps_ints {W : Wd} {I : Hp} : ∀ ns : List Int, Reps W I (ns.map V.int) (ns.map D.int)
  | [] => .nil
  | n :: ns => .cons (.int n) (reps_ints ns)
theorem reps_strs {W : Wd} {I : Hp} : ∀ ns : List (List Nat), (∀ s ∈ ns, okS s = true) → Reps W I ((ns.map toS).map V.str) (ns.map D.str)
  | [], _ => .nil
  | n :: ns, h => .cons (.str n (h n (by simp))) (reps_strs ns fun s hs => h s (by simp [hs]))
def lst1 {α : Type} (k : List D → Option α) : List D → Option α
  | [.lst ds] => k ds
  | _ => none
theorem rbs_lst1 {α : Type} {k : List D → Option α} {W : Wd} {I H : Hp} {xs : List V} {ds : List D} {z : α} (s : Same I H) (r : RepBs W I H xs ds) (h : lst1 k ds = some z) : ∃ es l vs, k es = some z ∧ xs = [.ref l] ∧ H l = some (.lst vs) ∧ es.length ≤ sizeLine ∧ Reps W I vs es := by
  unfold lst1 at h
  split at h
  · obtain ⟨v, rfl, r1⟩ := rbs_1 r
    obtain ⟨a, ys, rfl, h1, h2, h3⟩ := rb_lst s r1
    exact ⟨_, a, ys, h, rfl, h1, h2, h3⟩
  · cases h
def sumD : List D → Option D := lst1 fun ds => (intsOf ds).map fun ns => .int ns.sum
theorem map_some {α β : Type} {o : Option α} {f : α → β} {b : β} (h : o.map f = some b) : ∃ a, o = some a ∧ f a = b := Option.map_eq_some_iff.mp h
theorem cd_sum (hc : X.calm = true) : CallD X g .frz (.builtin "sum") sumD := ⟨_, cr_sum hc, fun I H xs ds z Q s r h fin => by
  obtain ⟨es, l, vs, h1, rfl, h2, h3, r⟩ := rbs_lst1 s r h
  obtain ⟨ns, e, rfl⟩ := map_some h1
  have ev := ints_reps r e
  subst ev
  exact ⟨l, ns, rfl, .inl (.inl h2), fin _ _ _ (Ext.refl s) (.int _)⟩⟩
def allD : List D → Option D := lst1 fun ds => (blsOf ds).map fun ns => .bl (ns.all id)
def anyD : List D → Option D := lst1 fun ds => (blsOf ds).map fun ns => .bl (ns.any id)
theorem cd_all (hc : X.calm = true) : CallD X g .frz (.builtin "all") allD := ⟨_, cr_all hc, fun I H xs ds z Q s r h fin => by
  obtain ⟨es, l, vs, h1, rfl, h2, h3, r⟩ := rbs_lst1 s r h
  obtain ⟨ns, e, rfl⟩ := map_some h1
  have ev := bls_reps r e
  subst ev
  exact ⟨l, ns, rfl, .inl (.inl h2), fin _ _ _ (Ext.refl s) (.bl _)⟩⟩
theorem cd_any (hc : X.calm = true) : CallD X g .frz (.builtin "any") anyD := ⟨_, cr_any hc, fun I H xs ds z Q s r h fin => by
  obtain ⟨es, l, vs, h1, rfl, h2, h3, r⟩ := rbs_lst1 s r h
  obtain ⟨ns, e, rfl⟩ := map_some h1
  have ev := bls_reps r e
  subst ev
  exact ⟨l, ns, rfl, .inl (.inl h2), fin _ _ _ (Ext.refl s) (.bl _)⟩⟩
def sortI (ns : List Int) : List Int := ns.mergeSort fun a b => decide (a ≤ b)
def sortS (ns : List (List Nat)) : List (List Nat) := ns.mergeSort fun a b => decide (a ≤ b)
theorem sortI_perm (ns : List Int) : (sortI ns).Perm ns := List.mergeSort_perm _ _
theorem sortS_perm (ns : List (List Nat)) : (sortS ns).Perm ns := List.mergeSort_perm _ _
theorem sortI_sorted (ns : List Int) : (sortI ns).Pairwise (· ≤ ·) := by
  have h := List.pairwise_mergeSort (le := fun a b : Int => decide (a ≤ b)) (fun a b c h1 h2 => decide_eq_true (Int.le_trans (of_decide_eq_true h1) (of_decide_eq_true h2)))
    (fun a b => by
      rcases Int.le_total a b with h | h
      · simp [h]
      · simp [h]) ns
  exact h.imp of_decide_eq_true
theorem leS_trans {a b c : List Nat} (h1 : a ≤ b) (h2 : b ≤ c) : a ≤ c := List.le_trans h1 h2
theorem leS_total (a b : List Nat) : a ≤ b ∨ b ≤ a := List.le_total a b
theorem sortS_sorted (ns : List (List Nat)) : (sortS ns).Pairwise (· ≤ ·) := by
  have h := List.pairwise_mergeSort (le := fun a b : List Nat => decide (a ≤ b)) (fun a b c h1 h2 => decide_eq_true (leS_trans (of_decide_eq_true h1) (of_decide_eq_true h2)))
    (fun a b => by
      rcases leS_total a b with h | h
      · simp [h]
      · simp [h]) ns
  exact h.imp of_decide_eq_true
theorem sortI_uniq {ns ms : List Int} (p : ms.Perm ns) (s : ms.Pairwise (· ≤ ·)) : ms = sortI ns :=
  List.Perm.eq_of_pairwise (fun a b _ _ h1 h2 => Int.le_antisymm h1 h2) s (sortI_sorted ns) (p.trans (sortI_perm ns).symm)
theorem sortS_uniq {ns ms : List (List Nat)} (p : ms.Perm ns) (s : ms.Pairwise (· ≤ ·)) : ms = sortS ns :=
  List.Perm.eq_of_pairwise (fun a b _ _ h1 h2 => List.le_antisymm h1 h2) s (sortS_sorted ns) (p.trans (sortS_perm ns).symm)
def sortD : List D → Option D := lst1 fun ds => match intsOf ds with
  | some ns => some (.lst ((sortI ns).map .int))
  | none => match strsOf ds with
    | some ss => if ss.length < 64 then some (.lst ((sortS ss).map .str)) else none
    | none => none
theorem risingS_pair : ∀ (p : Str) (xs : List Str), risingS p xs = true → (p :: xs).Pairwise fun a b => a.cps.toList ≤ b.cps.toList
  | p, [], _ => List.pairwise_singleton _ _
  | p, x :: r, h => by
    unfold risingS at h
    obtain ⟨h1, h2⟩ := Bool.and_eq_true_iff.mp h
    have ih := risingS_pair x r h2
    have hpx : p.cps.toList ≤ x.cps.toList := by
      rw [ltCps_eq] at h1
      have h3 : ¬ x.cps.toList < p.cps.toList := by simpa using h1
      exact h3
    refine List.pairwise_cons.mpr ⟨fun y hy => ?_, ih⟩
    rcases List.mem_cons.mp hy with z | z
    · rw [z]; exact hpx
    · exact leS_trans hpx ((List.pairwise_cons.mp ih).1 y z)
theorem sortedS_pair (xs : List Str) (h : sortedS xs = true) : xs.Pairwise fun a b => a.cps.toList ≤ b.cps.toList := by
  cases xs with
  | nil => exact .nil
  | cons x r => exact risingS_pair x r h
theorem sortedS_is {ns : List (List Nat)} {ys : List Str} (p : ys.Perm (ns.map toS)) (h : sortedS ys = true) : ys = (sortS ns).map toS := by
  have e : ys = (ys.map fun y => y.cps.toList).map toS := by
    rw [List.map_map]
    have : ∀ y : Str, (toS ∘ fun y => y.cps.toList) y = y := fun y => by
      show toS y.cps.toList = y
      unfold toS
      simp
    rw [List.map_congr_left (fun y _ => this y), List.map_id']
  have p2 : (ys.map fun y : Str => y.cps.toList).Perm ns := by
    have := p.map fun y : Str => y.cps.toList
    rw [List.map_map] at this
    have e2 : (ns.map ((fun y : Str => y.cps.toList) ∘ toS)) = ns := by
      rw [List.map_congr_left (fun y _ => show ((fun y : Str => y.cps.toList) ∘ toS) y = y from toS_cps y), List.map_id']
    rw [e2] at this
    exact this
  have s2 : (ys.map fun y : Str => y.cps.toList).Pairwise (· ≤ ·) := List.pairwise_map.mpr (sortedS_pair ys h)
  rw [e, sortS_uniq p2 s2]
theorem cd_sorted (hK : X.K = g.W.K) : CallD X g .own (.builtin "sorted") sortD := ⟨_, fun pins s σ H xs us Q I r h => (Or.elim h (fun h => cr_sortedI pins s σ H xs us Q I r h) (fun h => cr_sortedS pins s σ H xs us Q I r h) : wpAny _ _ _ _ _ _), fun I H xs ds z Q s r h fin => by
  obtain ⟨es, l, vs, h1, rfl, h2, h3, r⟩ := rbs_lst1 s r h
  split at h1
  · rename_i ns e
    cases h1
    have ev := ints_reps r e
    subst ev
    refine .inl ⟨l, ns, rfl, .inl (.inl h2), fun ns' q p so nq => ?_⟩
    rw [sortI_uniq p so]
    obtain ⟨x, r⟩ := new_lst (ds := (sortI ns).map D.int) s nq (by rw [List.length_map, (sortI_perm ns).length_eq, ← List.length_map (f := V.int), r.length]; exact h3) (reps_ints _)
    exact fin _ _ _ x r
  · rename_i e0
    split at h1
    · rename_i ss e
      split at h1
      · rename_i h64
        cases h1
        obtain ⟨ev, ok⟩ := strs_reps r e
        subst ev
        refine .inr ⟨l, ss.map toS, rfl, .inl (.inl h2), by rw [List.length_map]; exact h64, fun ys q p so nq => ?_⟩
        rw [sortedS_is p so]
        obtain ⟨x, r⟩ := new_lst (ds := (sortS ss).map D.str) s nq (by rw [List.length_map, (sortS_perm ss).length_eq]; exact Nat.le_of_lt (Nat.lt_trans h64 (by decide))) (reps_strs _ fun s hs => ok s ((sortS_perm ss).mem_iff.mp hs))
        exact fin _ _ _ x r
      · cases h1
    · cases h1⟩
/-! ### classes, conversions -/
def tyName : D → Option String
  | .non => some "NoneType"
  | .bl _ => some "bool"
  | .int _ => some "int"
  | .str _ => some "str"
  | .lst _ => some "list"
  | .tup _ => some "tuple"
  | .dic _ => some "dict"
  | .dit _ => some "dict"
  | _ => none
def isiD : List D → Option D
  | [d, .ty n] => match tyName d with
    | some t => (kitB t n).map .bl
    | none => none
  | _ => none
theorem rb_ty {W : Wd} {I H : Hp} {v : V} {n : String} (r : RepB W I H v (.ty n)) : v = .ty n := by
  rcases r with r | ⟨_, _, _, _, t⟩
  · cases r
    rfl
  · exact t.elim
theorem tyX_of {W : Wd} {I H : Hp} (s : Same I H) {v : V} {d : D} {t : String} (h : tyName d = some t) (r : RepB W I H v d) : TyX W.K H v (.type t) := by
  unfold tyName at h
  split at h <;> first | cases h | skip
  · rw [rb_non r]; exact .base .non
  · rw [repB_bl r]; exact .base (.bl _)
  · rw [rb_int r]; exact .base (.int _)
  · rw [(rb_str r).1]; exact .base (.str _)
  · obtain ⟨a, xs, rfl, h1, _⟩ := rb_lst s r
    exact .base (.lst h1)
  · obtain ⟨a, xs, rfl, h1, _⟩ := rb_tup s r
    rcases h1 with (h1 | ⟨o, h1⟩) | ⟨o, its, n, h1, h2, _⟩
    · exact .base (.tup h1)
    · exact .fTuple h1
    · exact .kTuple h1 h2
  · rcases r with r | ⟨a, o, rfl, q, t⟩
    · cases r with
      | dic q _ _ => exact .base (.dK (s _ _ q))
    · obtain ⟨xs, rfl, _⟩ := t
      exact .base (.dK q)
  · rcases r with r | ⟨a, o, rfl, q, t⟩
    · cases r with
      | dit q _ _ => exact .base (.dT (s _ _ q))
    · obtain ⟨xs, rfl, _⟩ := t
      exact .base (.dT q)
theorem cd_isi (hK : X.K = g.W.K) : CallD X g .frz (.builtin "isinstance") isiD := ⟨_, call_isi, fun I H xs ds z Q s r h fin => by
  unfold isiD at h
  split at h
  · rename_i d n
    split at h
    · rename_i t et
      obtain ⟨b, e, rfl⟩ := map_some h
      obtain ⟨v, u, rfl, r1, r2⟩ := rbs_2 r
      rw [rb_ty r2]
      exact ⟨v, _, .type t, .type n, b, rfl, .ty n, by rw [hK]; exact tyX_of s et r1, kit_ty e, fin _ _ _ (Ext.refl s) (.bl b)⟩
    · cases h
  · cases h⟩
def intD : List D → Option D
  | [.int i] => some (.int i)
  | _ => none
theorem cd_int : CallD X g .frz (.type "int") intD := ⟨_, call_int1, fun I H xs ds z Q s r h fin => by
  unfold intD at h
  split at h
  · cases h
    obtain ⟨v, rfl, r1⟩ := rbs_1 r
    rw [rb_int r1]
    exact .inl ⟨_, rfl, fin _ _ _ (Ext.refl s) (.int _)⟩
  · cases h⟩
def strI (i : Int) : List Nat := (toString i).toList.map Char.toNat
def strD : List D → Option D
  | [.int i] => if (decide (i.natAbs.log2 < 1920) && okS (strI i)) = true then some (.str (strI i)) else none
  | _ => none
theorem cd_str : CallD X g .frz (.type "str") strD := ⟨_, call_str_int, fun I H xs ds z Q s r h fin => by
  unfold strD at h
  split at h
  · rename_i i
    split at h
    · rename_i ho
      cases h
      obtain ⟨h1, h2⟩ := Bool.and_eq_true_iff.mp ho
      obtain ⟨v, rfl, r1⟩ := rbs_1 r
      rw [rb_int r1]
      refine ⟨i, rfl, of_decide_eq_true h1, ?_⟩
      have e : (Str.ofString (toString i)) = toS (strI i) := by rw [Str.ofString_eq_toList]; rfl
      show Q (.str (Str.ofString (toString i))) H
      rw [e]
      exact fin _ _ _ (Ext.refl s) (.str _ h2)
    · cases h
  · cases h⟩
def listD : List D → Option D
  | [.lst ds] => some (.lst ds)
  | [.tup ds] => some (.lst ds)
  | _ => none
theorem cd_list (hK : X.K = g.W.K) : CallD X g .own (.type "list") listD := ⟨_, call_list_of, fun I H xs ds z Q s r h fin => by
  unfold listD at h
  split at h
  · cases h
    obtain ⟨v, rfl, r1⟩ := rbs_1 r
    obtain ⟨a, ys, rfl, h1, h2, h3⟩ := rb_lst s r1
    refine ⟨a, ys, rfl, .inl (.inl (.inl h1)), fun q nq => ?_⟩
    obtain ⟨x, r⟩ := new_lst s nq h2 h3
    exact fin _ _ _ x r
  · cases h
    obtain ⟨v, rfl, r1⟩ := rbs_1 r
    obtain ⟨a, ys, rfl, h1, h2, h3⟩ := rb_tup s r1
    refine ⟨a, ys, rfl, .inr (by rw [hK]; exact h1), fun q nq => ?_⟩
    obtain ⟨x, r⟩ := new_lst s nq h2 h3
    exact fin _ _ _ x r
  · cases h⟩
def max2D : List D → Option D
  | [.int i, .int j] => some (.int (if j > i then j else i))
  | _ => none
def min2D : List D → Option D
  | [.int i, .int j] => some (.int (if j < i then j else i))
  | _ => none
theorem cd_max2 (hc : X.calm = true) : CallD X g .frz (.builtin "max") max2D := ⟨_, call_max2 hc, fun I H xs ds z Q s r h fin => by
  unfold max2D at h
  split at h
  · cases h
    obtain ⟨v, u, rfl, r1, r2⟩ := rbs_2 r
    rw [rb_int r1, rb_int r2]
    exact ⟨_, _, rfl, fin _ _ _ (Ext.refl s) (.int _)⟩
  · cases h⟩
theorem cd_min2 (hc : X.calm = true) : CallD X g .frz (.builtin "min") min2D := ⟨_, call_min2 hc, fun I H xs ds z Q s r h fin => by
  unfold min2D at h
  split at h
  · cases h
    obtain ⟨v, u, rfl, r1, r2⟩ := rbs_2 r
    rw [rb_int r1, rb_int r2]
    exact ⟨_, _, rfl, fin _ _ _ (Ext.refl s) (.int _)⟩
  · cases h⟩
/-- the name of a built-in class -/
theorem de_ty0 {x : Str} {n : String} (hg : Gl X x) (hm : X.mg x = none) (hv : bootBuiltins x = some (.type n)) (hn : x ≠ "__name__" := by decide) (hd : (x == ("__debug__" : Str)) = false := by decide) : DE X g .frz F (.Name x pos) (eK (.ty n)) :=
  de_const (pe_bltn hg hm hv (v := .ty n) rfl hn hd) fun _ => .ty n
end
end Vl
/-! stores by operators, by place; pairs stored; more walks; methods of texts -/
namespace Vl
open PySem PySem.Spec PyProof.Rows L2

section
variable {X : Cx} {g : Gx} {m m1 m2 rm : Md} {lp : Lp} {F F' : List Fl} {a b c e : PySem.Expr} {es : List PySem.Expr} {A B : Env → Res D} {L : Env → Res (List D)} {ms : List Md} {pos p1 p2 pos' : Pos}
/-! ### name op= e -/
def sAug (i : Nat) (k : D → D → Option D) (A : Env → Res D) : Env → Flw := fun ρ => match ρ[i]? with
  | some (some d0) => (A ρ).fl ρ fun d => match k d0 d with
    | some z => .nx (ρ.set i (some z))
    | none => .no
  | _ => .no
theorem ds_aug {i : Nat} {x : Str} {op : Operator} {k : D → D → Option D} (hN : X.N.Nodup) (hi : X.N[i]? = some x) (hx : Loc X.env.scope x) (hf : X.fn x = true ∨ X.env.scope.names.lookup x = some .local) (he : DE X g m F e A) (ho : OpD X g .frz (inplaceOp op) k)
    (hl : fl F i = .frz) (hw : Wk F lp.x = true) : DS X g rm lp F F (.AugAssign (.Name x pos') op e pos) (sAug i k A) := by
  obtain ⟨r, h1, h2⟩ := ho
  refine ⟨ps_imp (ps_aug hN hi hx he.pe (show PIp X op r from h1) hf) fun D σ H ⟨I, ρ, S, p⟩ => ?_⟩
  have q := S.at_ i
  rw [hl] at q
  obtain ⟨v, d, e1, e2, r0⟩ := q
  unfold sAug at p
  rw [e2] at p
  refine ⟨v, e1, I, ρ, S, post_of S hw p fun u du I1 H1 x1 ru S1 p1 => ?_⟩
  cases q : k d du with
  | none => rw [q] at p1; exact p1.elim
  | some z =>
    rw [q] at p1
    have hi' : i < F.length := by
      unfold fl at hl
      rw [List.getD_eq_getElem?_getD] at hl
      cases z : F[i]? with
      | none => rw [z] at hl; cases hl
      | some _ => exact (List.getElem?_eq_some_iff.mp z).1
    refine h2 I1 H1 v u d du z _ x1.s (.inl (r0.mono x1.i)) ru.b q fun w I2 H2 x2 rw => p1 _ I2 H2 x2.i ?_
    have := (S1.ext x2).set hi' rw
    have ef : F.set i .frz = F := by
      apply List.ext_getElem?
      intro j
      by_cases hj : i = j
      · subst hj
        rw [List.getElem?_set_self hi']
        unfold fl at hl
        rw [List.getD_eq_getElem?_getD] at hl
        cases z : F[i]? with
        | none => rw [z] at hl; cases hl
        | some f => rw [z] at hl; exact congrArg some hl.symm
      · rw [List.getElem?_set_ne hj]
    rw [ef] at this
    exact this
def iaddD : D → D → Option D
  | .int i, .int j => some (.int (i + j))
  | .str a, .str b => if a.length + b.length ≤ sizeLine then some (.str (a ++ b)) else none
  | _, _ => none
theorem opi_add : OpD X g .frz (inplaceOp .Add) iaddD := ⟨_, iop_add.or iop_add_str, fun I H x y d e z Q s rx ry h fin => by
  unfold iaddD at h
  split at h
  · cases h
    exact .inl ⟨_, _, rb_int rx, rb_int ry, fin _ _ _ (Ext.refl s) (.int _)⟩
  · split at h
    · rename_i hl
      cases h
      obtain ⟨e1, o1⟩ := rb_str rx
      obtain ⟨e2, o2⟩ := rb_str ry
      refine .inr ⟨_, _, e1, e2, by rw [toS_length, toS_length]; exact hl, ?_⟩
      rw [toS_append]
      exact fin _ _ _ (Ext.refl s) (.str _ (okS_of (fun c hc => (List.mem_append.mp hc).elim (okS_all o1 c) (okS_all o2 c)) (by rw [List.length_append]; exact hl)))
    · cases h
  · cases h⟩
theorem opi_sub : OpD X g .frz (inplaceOp .Sub) subD := ⟨_, iop_sub, fun I H x y d e z Q s rx ry h fin => by
  unfold subD at h
  split at h
  · cases h
    exact ⟨_, _, rb_int rx, rb_int ry, fin _ _ _ (Ext.refl s) (.int _)⟩
  · cases h⟩
/-! ### x[i] = e, x[i] op= e, x a list of one's own -/
def sPut (i : Nat) (J : Env → Res D) (A : Env → Res D) : Env → Flw := fun ρ => match ρ[i]? with
  | some (some (.lst ds)) => (A ρ).fl ρ fun d => (J ρ).fl ρ fun j => match j with
    | .int j => (match ixN ds.length j with
      | some n => .nx (ρ.set i (some (.lst (ds.set n d))))
      | none => .no)
    | _ => .no
  | _ => .no
theorem ds_put {i : Nat} {x : Str} {p0 : Pos} {J : Env → Res D} (hN : X.N[i]? = some x) (hv : Vis X.env.scope x) (hf : fl F i = .own) (he : DE X g .frz F e A) (hj : DE X g m1 F b J) (hw : Wk F lp.x = true)
    (ha : ∀ v, assign (.Subscript (.Name x p0) b p1) X.env v = (do
      let ov ← holding [v] (eval (.Name x p0) X.env)
      let iv ← holding [v, ov] (eval b X.env)
      standAt p1
      holding [v, ov, iv] (setItem ov iv v)
      release [v, ov, iv] []))
    (hs : swapsWithSole [.Subscript (.Name x p0) b p1] e pos.line X.env = pure false) (hsw : swappedStores [.Subscript (.Name x p0) b p1] e X.env = pure none)
    (h1 : (assignEach [.Subscript (.Name x p0) b p1] X.env).map (·.2) = [assign (.Subscript (.Name x p0) b p1) X.env]) (hd : (x == ("__debug__" : Str)) = false := by decide) (hcd : (x == ("__classdict__" : Str)) = false := by decide) :
    DS X g rm lp F F (.Assign [.Subscript (.Name x p0) b p1] e pos) (sPut i J A) := by
  refine ⟨ps_imp (ps_asg he.pe (pg_sub (pe_var hN hv hd hcd) hj.pe set_list ha) hs hsw h1) fun D σ H ⟨I, ρ, S, p⟩ => ?_⟩
  have q := S.at_ i
  rw [hf] at q
  obtain ⟨l, o, d, h1, h2, b1, b2, b3, t⟩ := q
  unfold sPut at p
  rw [h2] at p
  cases d <;> first | exact p.elim | skip
  rename_i ds
  dsimp only at p
  obtain ⟨ys, rfl, hz, rs⟩ := t
  refine ⟨I, ρ, S, post_of S hw p fun v dd I1 H1 x1 r S1 p1 => ?_⟩
  refine ⟨_, h1, I1, ρ, S1, post_of S1 hw p1 fun w dj I2 H2 x2 rj S2 p2 => ?_⟩
  cases dj <;> first | exact p2.elim | skip
  rename_i j
  cases ej : ixN ds.length j with
  | none => simp only [ej] at p2; exact p2.elim
  | some n =>
    simp only [ej] at p2
    have x12 := x1.trans x2
    refine ⟨l, ys, j, n, rfl, rb_int rj.b, x12.b _ _ b3, by rw [rs.length]; exact ej, p2 σ I2 _ (Same.refl _) (SOk.upd S2 hf h1 ⟨_, rfl, by rw [List.length_set]; exact hz, (rs.mono x12.i).set n (Rep.mono x2.i r)⟩)⟩
theorem get_list : PGet X (fun o i H Q => ∃ p xs k v, o = .ref p ∧ i = .int k ∧ H p = some (.lst xs) ∧ atI xs k = some v ∧ Q v H) := by
  intro pins s σ H o i ov iv Q I ro ri h
  obtain ⟨p, xs, i, z, rfl, rfl, hq, he, q⟩ := h
  cases ro
  obtain ⟨t, rfl⟩ := ri
  obtain ⟨its, r, pl, hz⟩ := I.list (.inl (.inl hq))
  obtain ⟨j, h1, h2, h3, h4, h5⟩ := atI_get he
  obtain ⟨w, ew, rw'⟩ := r.get h2
  have hl := r.length
  have hn := line63
  have fin : EP X pins σ Q w s := ⟨z, H, I, rw', q⟩
  by_cases h0 : 0 ≤ i
  · have hj : i.toNat = j := by
      rw [seqIndex_of h0 h5] at h1
      exact Option.some.inj h1
    exact wpAny_getItem_list pl.isList h0 (by omega) (by rw [hj]; simpa using ew) fin
  · have hj : (i + (its.toArray.size : Int)).toNat = j := by
      rw [seqIndex_neg (by omega) h4] at h1
      rw [List.size_toArray, ← hl]
      exact Option.some.inj h1
    exact wpAny_getItem_list_neg pl.isList (by omega) (by rw [List.size_toArray] <;> omega) (by omega) (by rw [hj]; simpa using ew) fin
def sAugIx (i : Nat) (k : D → D → Option D) (J : Env → Res D) (A : Env → Res D) : Env → Flw := fun ρ => match ρ[i]? with
  | some (some (.lst ds)) => (J ρ).fl ρ fun j => match j with
    | .int j => (match atI ds j, ixN ds.length j with
      | some d0, some n => (A ρ).fl ρ fun d => match k d0 d with
        | some z => .nx (ρ.set i (some (.lst (ds.set n z))))
        | none => .no
      | _, _ => .no)
    | _ => .no
  | _ => .no
theorem ds_augIx {i : Nat} {x : Str} {p0 : Pos} {J : Env → Res D} {op : Operator} {k : D → D → Option D} (hN : X.N[i]? = some x) (hv : Vis X.env.scope x) (hf : fl F i = .own) (he : DE X g m F e A) (hj : DE X g m1 F b J) (ho : OpD X g .frz (inplaceOp op) k) (hw : Wk F lp.x = true)
    (ha : ∀ ov iv new, augStore b ov iv new = (do holding [new, ov, iv] (setItem ov iv new); release [new, ov, iv] []; pure .next)) (hd : (x == ("__debug__" : Str)) = false := by decide) (hcd : (x == ("__classdict__" : Str)) = false := by decide) :
    DS X g rm lp F F (.AugAssign (.Subscript (.Name x p0) b p1) op e pos) (sAugIx i k J A) := by
  obtain ⟨r, o1, o2⟩ := ho
  refine ⟨ps_imp (ps_augS (pe_var hN hv hd hcd) hj.pe get_list he.pe (show PIp X op r from o1) set_list ha) fun D σ H ⟨I, ρ, S, p⟩ => ?_⟩
  have q := S.at_ i
  rw [hf] at q
  obtain ⟨l, o, d, h1, h2, b1, b2, b3, t⟩ := q
  unfold sAugIx at p
  rw [h2] at p
  cases d <;> first | exact p.elim | skip
  rename_i ds
  dsimp only at p
  obtain ⟨ys, rfl, hz, rs⟩ := t
  refine ⟨_, h1, I, ρ, S, post_of S hw p fun w dj I1 H1 x1 rj S1 p1 => ?_⟩
  cases dj <;> first | exact p1.elim | skip
  rename_i j
  cases ea : atI ds j with
  | none => simp only [ea] at p1; exact p1.elim
  | some d0 =>
    cases en : ixN ds.length j with
    | none => simp only [ea, en] at p1; exact p1.elim
    | some n =>
      simp only [ea, en] at p1
      obtain ⟨v0, e0, r0⟩ := atI_reps rs ea
      refine ⟨l, ys, j, v0, rfl, rb_int rj.b, x1.b _ _ b3, e0, I1, ρ, S1, post_of S1 hw p1 fun u du I2 H2 x2 ru S2 p2 => ?_⟩
      cases ez : k d0 du with
      | none => simp only [ez] at p2; exact p2.elim
      | some z =>
        simp only [ez] at p2
        have x12 := x1.trans x2
        refine o2 I2 H2 v0 u d0 du z _ x2.s (.inl (r0.mono x12.i)) ru.b ez fun w3 I3 H3 x3 r3 => ?_
        have x13 := x12.trans x3
        have S3 := S2.ext x3
        exact ⟨l, ys, j, n, rfl, rb_int rj.b, x13.b _ _ b3, by rw [rs.length]; exact en, p2 σ I3 _ x3.i (SOk.upd S3 hf h1 ⟨_, rfl, by rw [List.length_set]; exact hz, (rs.mono x13.i).set n r3⟩)⟩
/-! ### a, b = x, y; a, b, c = x, y, z -/
def sPar (is : List Nat) (L : Env → Res (List D)) : Env → Flw := fun ρ => (L ρ).fl ρ fun ds => if ds.length = is.length then .nx ((is.zip ds).foldl (fun ρ p => ρ.set p.1 (some p.2)) ρ) else .no
theorem ds_par {i j : Nat} {x y : Str} {px py pt : Pos} {kt k2 pt2} (hc : X.calm = true) (hN : X.N.Nodup) (hi : X.N[i]? = some x) (hj : X.N[j]? = some y) (hij : i ≠ j) (hx : X.env.scope.names.lookup x = some .local) (hy : X.env.scope.names.lookup y = some .local)
    (ha : DA X g ms F [a, b] L) (hm : ∀ m ∈ ms, m = .frz) (hl1 : i < F.length) (hl2 : j < F.length) (hw : Wk F lp.x = true)
    (hsw : swappedStores [.Tuple [.Name x px, .Name y py] kt pt] (.Tuple [a, b] k2 pt2) X.env = pure (some [x, y]))
    (hs : swapsWithSole [.Tuple [.Name x px, .Name y py] kt pt] (.Tuple [a, b] k2 pt2) pos.line X.env = pure false) :
    DS X g rm lp F ((F.set i .frz).set j .frz) (.Assign [.Tuple [.Name x px, .Name y py] kt pt] (.Tuple [a, b] k2 pt2) pos) (sPar [i, j] L) :=
  ⟨ps_imp (ps_par hc hN hi hj hij hx hy ha.pa hsw hs) fun D σ H ⟨I, ρ, S, p⟩ => by
    refine ⟨I, ρ, S, post_of S hw p fun vs ds I1 H1 x1 r S1 p1 => ?_⟩
    split at p1
    · rename_i hl
      have rs := r.frozen hm
      cases rs with
      | nil => cases hl
      | cons r1 rs =>
        cases rs with
        | nil => cases hl
        | cons r2 rs =>
          cases rs with
          | cons _ _ => cases hl
          | nil => exact ⟨_, _, rfl, p1 _ I1 H1 (Same.refl _) ((S1.set hl1 r1).set (by rw [List.length_set]; exact hl2) r2)⟩
    · exact p1.elim⟩
theorem ds_par3 {i j l : Nat} {x y z : Str} {px py pz pt : Pos} {kt k2 pt2} (hc : X.calm = true) (hN : X.N.Nodup) (hi : X.N[i]? = some x) (hj : X.N[j]? = some y) (hk : X.N[l]? = some z) (hij : i ≠ j) (hil : i ≠ l) (hjl : j ≠ l)
    (hx : X.env.scope.names.lookup x = some .local) (hy : X.env.scope.names.lookup y = some .local) (hz : X.env.scope.names.lookup z = some .local)
    (ha : DA X g ms F [a, b, c] L) (hm : ∀ m ∈ ms, m = .frz) (hl1 : i < F.length) (hl2 : j < F.length) (hl3 : l < F.length) (hw : Wk F lp.x = true)
    (hsw : swappedStores [.Tuple [.Name x px, .Name y py, .Name z pz] kt pt] (.Tuple [a, b, c] k2 pt2) X.env = pure (some [x, y, z]))
    (hs : swapsWithSole [.Tuple [.Name x px, .Name y py, .Name z pz] kt pt] (.Tuple [a, b, c] k2 pt2) pos.line X.env = pure false) :
    DS X g rm lp F (((F.set i .frz).set j .frz).set l .frz) (.Assign [.Tuple [.Name x px, .Name y py, .Name z pz] kt pt] (.Tuple [a, b, c] k2 pt2) pos) (sPar [i, j, l] L) :=
  ⟨ps_imp (ps_par3 hc hN hi hj hk hij hil hjl hx hy hz ha.pa hsw hs) fun D σ H ⟨I, ρ, S, p⟩ => by
    refine ⟨I, ρ, S, post_of S hw p fun vs ds I1 H1 x1 r S1 p1 => ?_⟩
    split at p1
    · rename_i hl
      have rs := r.frozen hm
      cases rs with
      | nil => cases hl
      | cons r1 rs =>
        cases rs with
        | nil => cases hl
        | cons r2 rs =>
          cases rs with
          | nil => cases hl
          | cons r3 rs =>
            cases rs with
            | cons _ _ => cases hl
            | nil => exact ⟨_, _, _, rfl, p1 _ I1 H1 (Same.refl _) (((S1.set hl1 r1).set (by rw [List.length_set]; exact hl2) r2).set (by rw [List.length_set, List.length_set]; exact hl3) r3)⟩
    · exact p1.elim⟩
/-! ### more walks -/
def zipD : List D → Res (List D)
  | [.lst a, .lst b] => .ok ((a.zip b).map fun p => .tup [p.1, p.2])
  | _ => .no
theorem di_zip {elts : List PySem.Expr} {kk : Nat} {tpos : Pos} (hK : X.K = g.W.K) (hg : Gl X "zip") (hm : X.mg "zip" = none) (ha : DA X g ms F [a, b] L) (hf : ∀ m ∈ ms, m = .frz) (hs : starEach [a, b] X.env = (false, eval a X.env) :: starEach [b] X.env)
    (hpl : (backTo pos (starEach [b] X.env)).any (·.1) = false) : DI X g F (.Tuple elts kk tpos) (.Call (.Name "zip" p1) [a, b] [] pos) (iRng zipD L) := ⟨pi_imp (pi_zip hg hm ha.pa hs hpl) fun σ H Q ⟨I, ρ, S, p⟩ => by
  refine ⟨I, ρ, S, Post.bind p fun vs ds I1 H1 x1 r p1 => ?_⟩
  unfold zipD at p1
  split at p1
  · rename_i da db
    have rs := r.frozen hf
    cases rs with
    | cons r1 rs =>
      cases rs with
      | cons r2 rs =>
        cases rs
        cases r1 with
        | lst q1 l1 t1 =>
          cases r2 with
          | lst q2 l2 t2 =>
            rename_i aa xs bb ys
            rw [hK]
            refine ⟨aa, bb, xs, ys, rfl, .inl (.inl (x1.s _ _ q1)), .inl (.inl (x1.s _ _ q2)), p1 _ I1 H1 (Ext.refl x1.s) fun I3 H3 s1 s2 => ?_⟩
            have hA : SqL g.W.K H3 aa xs := .inl (.inl ((s1.trans s2) _ _ q1))
            have hB : SqL g.W.K H3 bb ys := .inl (.inl ((s1.trans s2) _ _ q2))
            refine ⟨fun i d hd => ?_, fun i hi => ⟨xs, ys, hA, hB, ?_⟩⟩
            · rw [List.getElem?_map] at hd
              obtain ⟨⟨d1, d2⟩, hz, rfl⟩ := map_some hd
              obtain ⟨z1, z2⟩ := List.getElem?_zip_eq_some.mp hz
              obtain ⟨v1, e1, r1⟩ := t1.get z1
              obtain ⟨v2, e2, r2⟩ := t2.get z2
              refine ⟨⟨xs, ys, v1, v2, hA, hB, e1, e2⟩, fun x H' ⟨T, y1, y2, ex, nT, eH, f1, f2⟩ => ?_⟩
              subst ex
              subst eH
              have g1 := f1 xs hA
              have g2 := f2 ys hB
              rw [e1] at g1
              rw [e2] at g2
              cases g1
              cases g2
              obtain ⟨x, r⟩ := new_tup (ds := [d1, d2]) s2 nT (by show 2 ≤ sizeLine; decide) (.cons (r1.mono s1) (.one (r2.mono s1)))
              exact ⟨_, x, r⟩
            · rw [List.length_map, List.length_zip, ← t1.length, ← t2.length] at hi
              omega
  · exact p1.elim⟩
def enumD : List D → Res (List D)
  | [.lst a] => .ok (a.mapIdx fun i d => .tup [.int (i : Int), d])
  | _ => .no
theorem di_enum {elts : List PySem.Expr} {kk : Nat} {tpos : Pos} (hK : X.K = g.W.K) (hg : Gl X "enumerate") (hm : X.mg "enumerate" = none) (ha : DA X g ms F [a] L) (hf : ∀ m ∈ ms, m = .frz) (hs : starEach [a] X.env = [(false, eval a X.env)]) :
    DI X g F (.Tuple elts kk tpos) (.Call (.Name "enumerate" p1) [a] [] pos) (iRng enumD L) := ⟨pi_imp (pi_enum hg hm ha.pa hs) fun σ H Q ⟨I, ρ, S, p⟩ => by
  refine ⟨I, ρ, S, Post.bind p fun vs ds I1 H1 x1 r p1 => ?_⟩
  unfold enumD at p1
  split at p1
  · rename_i da
    have rs := r.frozen hf
    cases rs with
    | cons r1 rs =>
      cases rs
      cases r1 with
      | lst q1 l1 t1 =>
        rename_i aa xs
        rw [hK]
        refine ⟨aa, xs, rfl, .inl (.inl (x1.s _ _ q1)), p1 _ I1 H1 (Ext.refl x1.s) fun I3 H3 s1 s2 => ?_⟩
        have hA : SqL g.W.K H3 aa xs := .inl (.inl ((s1.trans s2) _ _ q1))
        refine ⟨fun i d hd => ?_, fun i hi => ⟨xs, hA, ?_⟩⟩
        · rw [List.getElem?_mapIdx] at hd
          obtain ⟨d1, hz, rfl⟩ := map_some hd
          obtain ⟨v1, e1, r1⟩ := t1.get hz
          refine ⟨⟨xs, v1, hA, e1⟩, fun x H' ⟨T, y1, ex, nT, eH, f1⟩ => ?_⟩
          subst ex
          subst eH
          have g1 := f1 xs hA
          rw [e1] at g1
          cases g1
          obtain ⟨x, r⟩ := new_tup (ds := [.int (i : Int), d1]) s2 nT (by show 2 ≤ sizeLine; decide) (.cons (.int _) (.one (r1.mono s1)))
          exact ⟨_, x, r⟩
        · rw [List.length_mapIdx] at hi
          rw [t1.length]
          exact hi
  · exact p1.elim⟩
def iStrD (A : Env → Res D) : Env → Res (List D) := fun ρ => (A ρ).bind fun d => match d with
  | .str s => .ok (s.map fun c => .str [c])
  | _ => .no
theorem di_str {tg : PySem.Expr} (h : DE X g m F e A) : DI X g F tg e (iStrD A) := ⟨pi_imp (pi_str h.pe) fun σ H Q ⟨I, ρ, S, p⟩ => by
  refine ⟨I, ρ, S, Post.bind p fun v d I1 H1 x1 r1 p1 => ?_⟩
  cases d <;> first | exact p1.elim | skip
  rename_i s
  obtain ⟨rfl, o⟩ := rb_str r1.b
  refine ⟨_, rfl, p1 _ I1 H1 (Ext.refl x1.s) fun I3 H3 s1 s2 => ⟨fun i d hd => ?_, fun i hi => ?_⟩⟩
  · rw [List.getElem?_map] at hd
    obtain ⟨c, hc, rfl⟩ := map_some hd
    obtain ⟨hlt, ec⟩ := List.getElem?_eq_some_iff.mp hc
    have e1 : (toS s).cps[i]? = some c := by
      unfold toS
      simp [hc]
    refine ⟨by show i < (toS s).cps.size; unfold toS; simpa using hlt, fun x H' ⟨eH, c', hc', ex⟩ => ?_⟩
    subst eH
    rw [e1] at hc'
    cases hc'
    subst ex
    exact ⟨I3, Ext.refl s2, .str [c] (okS_of (fun c' hc' => by
      have : c' = c := by simpa using hc'
      subst this
      exact okS_all o _ (List.mem_of_getElem? hc)) one_le_line)⟩
  · rw [List.length_map] at hi
    show (toS s).cps.size ≤ i
    unfold toS
    simpa using hi⟩
def revD : List D → Res (List D)
  | [.lst a] => .ok a.reverse
  | _ => .no
theorem di_rev {tg : PySem.Expr} (hK : X.K = g.W.K) (hg : Gl X "reversed") (hm : X.mg "reversed" = none) (ha : DA X g ms F [a] L) (hf : ∀ m ∈ ms, m = .frz) (hs : starEach [a] X.env = [(false, eval a X.env)]) :
    DI X g F tg (.Call (.Name "reversed" p1) [a] [] pos) (iRng revD L) := ⟨pi_imp (pi_reversed hg hm ha.pa hs) fun σ H Q ⟨I, ρ, S, p⟩ => by
  refine ⟨I, ρ, S, Post.bind p fun vs ds I1 H1 x1 r p1 => ?_⟩
  unfold revD at p1
  split at p1
  · rename_i da
    have rs := r.frozen hf
    cases rs with
    | cons r1 rs =>
      cases rs
      cases r1 with
      | lst q1 l1 t1 =>
        rename_i aa xs
        rw [hK]
        refine ⟨aa, xs, rfl, .inl (.inl (x1.s _ _ q1)), p1 _ I1 H1 (Ext.refl x1.s) fun I3 H3 s1 s2 => ?_⟩
        have hA : SqL g.W.K H3 aa xs := .inl (.inl ((s1.trans s2) _ _ q1))
        refine ⟨fun i d hd => ?_, fun i hi => ?_⟩
        · have hlt : i < da.length := by
            have := (List.getElem?_eq_some_iff.mp hd).1
            rwa [List.length_reverse] at this
          rw [List.getElem?_reverse hlt] at hd
          obtain ⟨v1, e1, r1⟩ := t1.get hd
          rw [← t1.length] at e1
          refine ⟨⟨by rw [t1.length]; exact hlt, xs, v1, hA, e1⟩, fun x H' ⟨eH, f1⟩ => ?_⟩
          subst eH
          have g1 := f1 xs hA
          rw [e1] at g1
          cases g1
          exact ⟨_, Ext.refl s2, r1.mono s1⟩
        · rw [List.length_reverse] at hi
          show xs.length ≤ i
          rw [t1.length]
          exact hi
  · exact p1.elim⟩
end
end Vl
/-! texts replaced, truth, chains of comparisons, sorted tuples -/
namespace Vl
open PySem PySem.Spec PyProof.Rows L2

section
variable {X : Cx} {g : Gx} {m m1 m2 m3 rm : Md} {lp : Lp} {F F' : List Fl} {a b c e : PySem.Expr} {A B C : Env → Res D} {pos p1 p2 : Pos}
/-! ### e.replace(y, z) -/
def replD (y z : List Nat) : D → Option D
  | .str s => if s.length + (s.length + 1) * z.length ≤ 16777216 then some (.str (StrLaws.replL y z s)) else none
  | _ => none
theorem replS_mem {y z : List Nat} : ∀ (l : List Nat) (k : Nat) (c : Nat), c ∈ StrLaws.replS y z k l → c ∈ z ∨ c ∈ l
  | [], _, c, h => by
    rw [StrLaws.replS] at h
    cases h
  | d :: l, 0, c, h => by
    rw [StrLaws.replS] at h
    split at h
    · rcases List.mem_append.mp h with h | h
      · exact .inl h
      · exact (replS_mem l _ c h).imp id (List.mem_cons_of_mem _)
    · rcases List.mem_cons.mp h with h | h
      · exact .inr (by rw [h]; exact List.mem_cons_self)
      · exact (replS_mem l _ c h).imp id (List.mem_cons_of_mem _)
  | d :: l, k + 1, c, h => by
    rw [StrLaws.replS] at h
    exact (replS_mem l _ c h).imp id (List.mem_cons_of_mem _)
theorem okS_repl {y z s : List Nat} (hy : 1 ≤ y.length) (hz : okS z = true) (hs : okS s = true) (hl : s.length + (s.length + 1) * z.length ≤ 16777216) : okS (StrLaws.replL y z s) = true ∧ Txt.replace (toS s) (toS y) (toS z) = toS (StrLaws.replL y z s) := by
  have e : (Txt.replace (toS s) (toS y) (toS z)).cps.toList = StrLaws.replL y z s := by
    rw [StrLaws.replace_list (by rw [toS_length]; exact hy), toS_cps, toS_cps, toS_cps]
  have hlen := TK.replace_len (toS s) (toS y) (toS z)
  have e2 : Txt.replace (toS s) (toS y) (toS z) = toS (StrLaws.replL y z s) := by
    rw [← e]
    unfold toS
    rw [Array.toArray_toList]
  refine ⟨okS_of (fun c hc => (replS_mem s 0 c hc).elim (okS_all hz c) (okS_all hs c)) ?_, e2⟩
  rw [e2, toS_length, toS_length, toS_length] at hlen
  have := sizeLine_eq
  omega
theorem de_repl2 {y z : List Nat} {ys zs : Str} {j k : Nat} {c0 c1 apos : Pos} (ha : DE X g m1 F a A) (hY : ys = toS y := by rfl) (hZ : zs = toS z := by rfl) (hy : 1 ≤ y.length := by decide) (hz : okS z = true := by decide +kernel) (hyz : (ys == zs) = false := by decide +kernel)
    (hst : starEach [.Constant (.str ys) j c0, .Constant (.str zs) k c1] X.env = [(false, eval (.Constant (.str ys) j c0) X.env), (false, eval (.Constant (.str zs) k c1) X.env)] := by rfl)
    (hbase : attributeBase a "replace" X.env (eval a X.env) = eval a X.env := by rfl) (hline : (apos.endLine == pos.line) = true := by rfl) :
    DE X g .frz F (.Call (.Attribute a "replace" apos) [.Constant (.str ys) j c0, .Constant (.str zs) k c1] [] pos) (eUn (replD y z) A) := by
  refine ⟨pe_imp (t := CwR.tReplC (tE g m1 F A) ys zs) ⟨fun pins s σ H Q k0 I h => CwR.pet_replT (fun pins s σ H Q k I q => ha.pe.run pins s σ H Q k I q) hyz hst hbase hline pins s σ H Q k0 I h⟩ fun σ H Q ⟨I, ρ, S, p⟩ => ?_⟩
  refine ⟨I, ρ, S, Post.bind p fun v d I1 H1 x1 r1 p1 => ?_⟩
  obtain ⟨w, ez, fin⟩ := post_opt p1
  unfold replD at ez
  split at ez
  · rename_i s
    split at ez
    · rename_i hl
      cases ez
      obtain ⟨rfl, o⟩ := rb_str r1.b
      subst hY
      subst hZ
      obtain ⟨o2, e2⟩ := okS_repl hy hz o hl
      refine ⟨toS s, rfl, by rw [toS_length, toS_length]; exact hl, ?_⟩
      rw [e2]
      exact fin _ _ _ (Ext.refl x1.s) (.str _ o2)
    · cases ez
  · cases ez

/-! ### truth -/
def truD : D → Option Bool
  | .non => some false
  | .bl b => some b
  | .int i => some (i != 0)
  | .str s => some (!s.isEmpty)
  | .lst s => some (!s.isEmpty)
  | .tup s => some (!s.isEmpty)
  | .dic s => some (!s.isEmpty)
  | .scr s => some (!s.isEmpty)
  | _ => none
def bTru (A : Env → Res D) : Env → Res Bool := fun ρ => (A ρ).bind fun d => ofO (truD d)
theorem isEmpty_len {α β : Type} {xs : List α} {ys : List β} (h : xs.length = ys.length) : xs.isEmpty = ys.isEmpty := by
  cases xs <;> cases ys <;> first | rfl | (simp at h)
theorem dt_truth (hK : X.K = g.W.K) (ha : DE X g m F a A) (he : ∀ whole, isTrue a X.env whole = (do let v ← whole; standAt a.pos; holding [v] (truthy v))) : DT X g F a (bTru A) := by
  refine ⟨pt_imp (pt_truth ha.pe he) fun σ H Q ⟨I, ρ, S, p⟩ => ?_⟩
  refine ⟨I, ρ, S, Post.bind p fun v d I1 H1 x1 r1 p1 => ?_⟩
  cases et : truD d with
  | none => rw [et] at p1; exact p1.elim
  | some b =>
    rw [et] at p1
    have fin : ∀ k, k = b → Q k H1 := fun k e => e ▸ p1 b I1 H1 (Ext.refl x1.s) rfl
    have r := r1.b
    unfold truD at et
    split at et <;> first | (cases et; done) | skip
    · cases et; rw [rb_non r]; exact ⟨_, rfl, fin _ rfl⟩
    · cases et; rw [repB_bl r]; exact ⟨_, rfl, fin _ rfl⟩
    · cases et; rw [rb_int r]; exact ⟨_, rfl, fin _ rfl⟩
    · rename_i s
      cases et
      obtain ⟨rfl, o⟩ := rb_str r
      refine ⟨_, ⟨by rw [toS_length]; exact okS_len o, rfl⟩, fin _ ?_⟩
      rw [toS_length]
      cases s with
      | nil => rfl
      | cons c s =>
        show (((s.length + 1 : Nat) : Int) != 0) = true
        simp only [bne_iff_ne, ne_eq]
        omega
    · cases et
      obtain ⟨l, xs, rfl, h1, _, rr⟩ := rb_lst x1.s r
      exact ⟨_, .inl ⟨xs, .inl (.inl h1), rfl⟩, fin _ (by rw [isEmpty_len rr.length])⟩
    · cases et
      obtain ⟨l, xs, rfl, h1, _, rr⟩ := rb_tup x1.s r
      exact ⟨_, .inr (.inl ⟨xs, hK ▸ h1, rfl⟩), fin _ (by rw [isEmpty_len rr.length])⟩
    · cases et
      rename_i ks
      rcases r with r | ⟨l, o, rfl, q, t⟩
      · cases r with
        | dic q hk rr => exact ⟨_, .inr (.inr ⟨_, x1.s _ _ q, rfl⟩), fin _ (by
            have h := congrArg List.length hk
            rw [List.length_map, List.length_map] at h
            rw [isEmpty_len h])⟩
      · obtain ⟨xs, rfl, hk, rr⟩ := t
        exact ⟨_, .inr (.inr ⟨xs, q, rfl⟩), fin _ (by
            have h := congrArg List.length hk
            rw [List.length_map, List.length_map] at h
            rw [isEmpty_len h])⟩
    · cases et
      rename_i ns
      obtain ⟨l, rfl, h1⟩ := rb_scr x1.s r
      exact ⟨_, .inl ⟨_, hK ▸ h1, rfl⟩, fin _ (by rw [isEmpty_len (List.length_map (f := V.int) (as := ns))])⟩

/-! ### a < b < c -/
def eChain (m1 m2 : D → D → Option Bool) (A B C : Env → Res D) : Env → Res D := fun ρ => (A ρ).bind fun d => (B ρ).bind fun e => (ofO (m1 d e)).bind fun k => if k = true then (C ρ).bind fun f => ofO (cB m2 e f) else .ok (.bl false)
def bChain (m1 m2 : D → D → Option Bool) (A B C : Env → Res D) : Env → Res Bool := fun ρ => (A ρ).bind fun d => (B ρ).bind fun e => (ofO (m1 d e)).bind fun k => if k = true then (C ρ).bind fun f => ofO (m2 e f) else .ok false
theorem de_chain {op op' : CmpOp} {k1 k2 : D → D → Option Bool} (ho : OpD X g .frz (compareOp op) (cB k1)) (ho' : OpD X g .frz (compareOp op') (cB k2)) (ha : DE X g m1 F a A) (hb : DE X g m2 F b B) (hc : DE X g m3 F c C) (hm : lastMarks [op, op'] [b, c] = false) :
    DE X g .frz F (.Compare a [op, op'] [b, c] pos) (eChain k1 k2 A B C) := by
  obtain ⟨r, h1, h2⟩ := ho
  obtain ⟨r', h1', h2'⟩ := ho'
  refine ⟨pe_imp (pe_chain h1 h1' ha.pe hb.pe hc.pe hm) fun σ H Q ⟨I, ρ, S, p⟩ => ?_⟩
  refine ⟨I, ρ, S, Post.bind p fun v d I1 H1 x1 r1 p1 => ?_⟩
  refine ⟨I1, ρ, S.ext x1, Post.bind p1 fun u e' I2 H2 x2 r2 p2 => ?_⟩
  cases em : k1 d e' with
  | none => rw [em] at p2; exact p2.elim
  | some z =>
    rw [em] at p2
    refine h2 I2 H2 v u d e' (.bl z) _ x2.s (RepB.mono x2.i x2.b r1.b) r2.b (by unfold cB; rw [em]; rfl) fun w I3 H3 x3 r3 => ?_
    cases r3
    refine ⟨z, rfl, ?_⟩
    cases z with
    | false => exact iteF (p2 _ I3 H3 x3 (.bl false))
    | true =>
      refine iteT ⟨I3, ρ, ((S.ext x1).ext x2).ext x3, Post.bind (Post.later p2 x3) fun w' f I4 H4 x4 r4 p4 => ?_⟩
      obtain ⟨z2, ez, fin⟩ := post_opt p4
      exact h2' I4 H4 u w' e' f z2 Q x4.s (RepB.mono (x3.i.trans x4.i) (x3.b.trans x4.b) r2.b) r4.b ez fin
theorem dt_chain {op op' : CmpOp} {k1 k2 : D → D → Option Bool} (ho : OpD X g .frz (compareOp op) (cB k1)) (ho' : OpD X g .frz (compareOp op') (cB k2)) (ha : DE X g m1 F a A) (hb : DE X g m2 F b B) (hc : DE X g m3 F c C) (hm : lastMarks [op, op'] [b, c] = false) :
    DT X g F (.Compare a [op, op'] [b, c] pos) (bChain k1 k2 A B C) := by
  obtain ⟨r, h1, h2⟩ := ho
  obtain ⟨r', h1', h2'⟩ := ho'
  refine ⟨pt_imp (pt_chain h1 h1' ha.pe hb.pe hc.pe hm) fun σ H Q ⟨I, ρ, S, p⟩ => ?_⟩
  refine ⟨I, ρ, S, Post.bind p fun v d I1 H1 x1 r1 p1 => ?_⟩
  refine ⟨I1, ρ, S.ext x1, Post.bind p1 fun u e' I2 H2 x2 r2 p2 => ?_⟩
  cases em : k1 d e' with
  | none => rw [em] at p2; exact p2.elim
  | some z =>
    rw [em] at p2
    refine h2 I2 H2 v u d e' (.bl z) _ x2.s (RepB.mono x2.i x2.b r1.b) r2.b (by unfold cB; rw [em]; rfl) fun w I3 H3 x3 r3 => ?_
    cases r3
    refine ⟨z, rfl, ?_⟩
    cases z with
    | false => exact iteF ⟨false, rfl, p2 false I3 H3 x3 rfl⟩
    | true =>
      refine iteT ⟨I3, ρ, ((S.ext x1).ext x2).ext x3, Post.bind (Post.later p2 x3) fun w' f I4 H4 x4 r4 p4 => ?_⟩
      cases em2 : k2 e' f with
      | none => rw [em2] at p4; exact p4.elim
      | some z2 =>
        rw [em2] at p4
        refine h2' I4 H4 u w' e' f (.bl z2) _ x4.s (RepB.mono (x3.i.trans x4.i) (x3.b.trans x4.b) r2.b) r4.b (by unfold cB; rw [em2]; rfl) fun w5 I5 H5 x5 r5 => ?_
        cases r5
        exact ⟨z2, rfl, p4 z2 I5 H5 x5 rfl⟩
end
end Vl
/-! sorted of data that can be compared, any number of them -/
namespace Vl
open PySem PySem.Spec PyProof.Rows L2

def tup1 : D → Bool
  | .tup (_ :: _) => true
  | _ => false
def noTup : D → Bool
  | .tup _ => false
  | .non => false
  | d => (match toPy d with | .none => false | .tuple _ => false | _ => true)
def sortOk (ds : List D) : Bool := (ds.all fun d => ds.all fun e => PySem.W.alike (toPy d) (toPy e)) && (ds.all tup1 || ds.all noTup) && ds.all (pyOk 64)
def leG : D → D → Bool := PySem.W.dataLe false toPy
def sortG (ds : List D) : List D := ds.mergeSort leG
def sortedD : List D → Option D := lst1 fun ds => if sortOk ds = true then some (.lst (sortG ds)) else none
/-- sorted(xs), xs a list of data -/
def rSortG (W : Wd) : List V → Hp → VK → Prop := fun vs H Q => ∃ (a : Addr) (xs : List V) (ds : List D) (I : Hp), vs = [V.ref a] ∧ H a = some (.lst xs) ∧ Same I H ∧ Reps W I xs ds ∧ sortOk ds = true ∧
  ∀ (ys : List V) (p : Addr), Reps W I ys (sortG ds) → H p = none → Q (.ref p) (upd H p (.lst ys))
section
variable {X : Cx} {g : Gx}
theorem each_in {W : Wd} {I : Hp} : ∀ {xs : List V} {us : List Value} {ds : List D}, Vals xs us → Reps W I xs ds → PySem.W.EachIs (fun u d => ∃ v, RelV v u ∧ Rep W I v d) us ds
  | _, _, _, .nil, .nil => .nil
  | _, _, _, .cons r rs, .cons a as => .cons ⟨_, r, a⟩ (each_in rs as)
theorem each_out {W : Wd} {I : Hp} : ∀ {us : List Value} {ds : List D}, PySem.W.EachIs (fun u d => ∃ v, RelV v u ∧ Rep W I v d) us ds → ∃ xs, Vals xs us ∧ Reps W I xs ds
  | _, _, .nil => ⟨[], .nil, .nil⟩
  | _, _, .cons ⟨v, r, a⟩ t => by
    obtain ⟨xs, h1, h2⟩ := each_out t
    exact ⟨v :: xs, .cons r h1, .cons a h2⟩
theorem each_imp {α β : Type} {R S : α → β → Prop} : ∀ {us : List α} {ds : List β}, PySem.W.EachIs R us ds → (∀ u d, d ∈ ds → R u d → S u d) → PySem.W.EachIs S us ds
  | _, _, .nil, _ => .nil
  | _, _, .cons r t, h => .cons (h _ _ List.mem_cons_self r) (each_imp t fun u d m => h u d (List.mem_cons_of_mem _ m))
theorem cr_sortG (hK : X.K = g.W.K) (hu : X.A.units + 70 < cLine) : CallR X (.builtin "sorted") (rSortG g.W) := by
  intro pins s σ H vs us Q I r h
  obtain ⟨a, xs, ds, Ig, rfl, hs, sm, rs, ok, q⟩ := h
  obtain ⟨its, rv, hl, hz⟩ := I.list (.inl (.inl hs))
  rw [Vals.ref1 r]
  unfold sortOk at ok
  obtain ⟨ok, k3⟩ := Bool.and_eq_true_iff.mp ok
  obtain ⟨k1, k2⟩ := Bool.and_eq_true_iff.mp ok
  have e := each_in rv rs
  have py : ∀ u d, d ∈ ds → (∃ v, RelV v u ∧ Rep g.W Ig v d) → ∃ as, Reads s.heap u (toPy d) as := fun u d m ⟨v, r1, r2⟩ => by
    obtain ⟨d1, _, _⟩ := dp_of sm 64 d v (List.all_eq_true.mp k3 d m) r2
    exact Dp.reads I _ _ _ (hK ▸ d1) r1
  have dep : ∀ d, d ∈ ds → (toPy d).depth ≤ 64 := fun d m => by
    obtain ⟨v, hv⟩ : ∃ v, Rep g.W Ig v d := by
      obtain ⟨i, hi⟩ := List.getElem?_of_mem m
      obtain ⟨v, _, hv⟩ := rs.get hi
      exact ⟨v, hv⟩
    exact (dp_of sm 64 d v (List.all_eq_true.mp k3 d m) hv).2.2
  have hal : PySem.W.AllAlike (ds.map toPy) := by
    intro d hd d' hd'
    obtain ⟨b, m, rfl⟩ := List.mem_map.mp hd
    obtain ⟨b', m', rfl⟩ := List.mem_map.mp hd'
    exact List.all_eq_true.mp (List.all_eq_true.mp k1 b m) b' m'
  have hk : PySem.W.Sortable (ds.map toPy) := by
    rcases Bool.or_eq_true_iff.mp k2 with k | k
    · refine .inl fun d hd => ?_
      obtain ⟨b, m, rfl⟩ := List.mem_map.mp hd
      have := List.all_eq_true.mp k b m
      unfold tup1 at this
      split at this
      · exact ⟨_, _, rfl⟩
      · cases this
    · refine .inr fun d hd => ?_
      obtain ⟨b, m, rfl⟩ := List.mem_map.mp hd
      have := List.all_eq_true.mp k b m
      unfold noTup at this
      split at this
      · cases this
      · cases this
      · split at this
        · cases this
        · cases this
        · rename_i h1 h2
          exact ⟨h1, h2⟩
  refine PySem.W.sorted_data hl.isList e (each_imp e py) hal hk (by rw [← rs.length]; exact hz) (fun d m => ?_) fun out hlen ho => ?_
  · have := dep d m
    omega
  · obtain ⟨ys, h1, h2⟩ := each_out ho
    obtain ⟨ep, he'⟩ := PyProof.Rows.sortedAll_at s.heap its out.toArray
    have hl2 : ys.length ≤ sizeLine := by
      rw [h2.length, List.length_mergeSort, ← rs.length]
      exact hz
    exact ⟨.ref _, upd H (s.heap.objs.size + 1) (.lst ys), I.laid (t' := s.toks) (fun _ _ => PyProof.Rows.sortedAll_old) (Nat.le_succ _) ⟨hl2, out, ep, h1, he'⟩, rfl, q ys _ h2 (I.hok.fresh (Nat.le_succ _))⟩
theorem cd_sort (hK : X.K = g.W.K) (hu : X.A.units + 70 < cLine) : CallD X g .own (.builtin "sorted") sortedD := ⟨_, cr_sortG hK hu, fun I H xs ds z Q s r h fin => by
  obtain ⟨es, l, vs, h1, rfl, h2, h3, r⟩ := rbs_lst1 s r h
  split at h1
  · rename_i ok
    cases h1
    refine ⟨l, vs, es, I, rfl, h2, s, r, ok, fun ys p rr np => ?_⟩
    obtain ⟨x, r⟩ := new_lst s np (by unfold sortG; rw [List.length_mergeSort]; exact h3) rr
    exact fin _ _ _ x r
  · cases h1⟩
end
/-! ### the order in plain words -/
theorem sortG_len (ds : List D) : (sortG ds).length = ds.length := List.length_mergeSort _
theorem sortG_perm (ds : List D) : (sortG ds).Perm ds := List.mergeSort_perm _ _
theorem leG_int (a b : Int) : leG (.int a) (.int b) = decide (a ≤ b) := by
  have := congrFun (congrFun (PySem.W.dataLe_int (β := Int) id) a) b
  exact this
theorem leG_str (a b : List Nat) : leG (.str a) (.str b) = decide (a ≤ b) := by
  have h := congrFun (congrFun (PySem.W.dataLe_str (β := List Nat) toS) a) b
  simp only [toS_cps] at h
  exact h
theorem sortG_int (ns : List Int) : sortG (ns.map .int) = (sortI ns).map .int := by
  unfold sortG sortI
  rw [List.map_mergeSort (r := fun a b => decide (a ≤ b)) (s := leG)]
  intro a _ b _
  exact (leG_int a b).symm
theorem sortG_str (ns : List (List Nat)) : sortG (ns.map .str) = (sortS ns).map .str := by
  unfold sortG sortS
  rw [List.map_mergeSort (r := fun a b => decide (a ≤ b)) (s := leG)]
  intro a _ b _
  exact (leG_str a b).symm
end Vl
/-! the law's own def: its first statement gives the first token -/
namespace Vl
open PySem PySem.Spec PyProof.Rows L2

/-- arguments that give a token -/
structure PAz (X : Cx) (es : List Expr) (t : TA) : Prop where
  run : ∀ (pos : Pos) (pins : Pin) (s : Shared) (σ : L2.St) (H : Hp) (Q : List V → Hp → Prop), Inv X pins σ H s → t σ H Q → wpAny (model X.prog X.w) X.A (spliced (backTo pos (starEach es X.env))) (fun us s' => 0 < s'.toks ∧ AP X pins σ Q us s') X.xe s
section
variable {X : Cx} {g : Gx} {m rm : Md} {lp : Lp} {F F1 F' : List Fl} {a b c e : PySem.Expr} {es : List PySem.Expr} {A : Env → Res D} {L : Env → Res (List D)} {ms : List Md} {pos p1 p2 : Pos} {t : TA} {te : TE}
theorem int_tok {i : Int} {k : Nat} {Q : Value → Shared → Prop} {E : Value → Shared → Prop} {M : Model} {Ar : Around} {env : PySem.Env} {s : Shared} (h : Q (.int i s.toks) { s with toks := s.toks + 1 }) : wpAny M Ar (eval (.Constant (.int i) k pos) env) Q E s :=
  fun _ _ _ => h
theorem paz_int {i : Int} {j : Nat} (hr : PA X es t) (hs : starEach (.Constant (.int i) j p1 :: es) X.env = (false, eval (.Constant (.int i) j p1) X.env) :: starEach es X.env := by rfl) : PAz X (.Constant (.int i) j p1 :: es) (tCons (tC (.int i)) t) := ⟨fun pos pins s σ H Q I h => by
  rw [hs]
  show wpAny _ _ (spliced ((false, eval (.Constant (.int i) j p1) X.env) :: backTo pos (starEach es X.env))) _ _ s
  refine Calls.spliced_cons (int_tok ?_)
  have k0 : 0 < ({ s with toks := s.toks + 1 } : Shared).toks := Nat.succ_pos _
  exact nxt k0 (hr.run pos pins _ σ H _ k0 (I.tok _) h) fun us s2 k2 ⟨xs, H2, I2, r2, q2⟩ => ⟨k2, .int i :: xs, H2, I2, .cons ⟨_, rfl⟩ r2, q2⟩⟩
theorem paz_cons (ha : L2.PE X e te) (hr : PAz X es t) (hs : starEach (e :: es) X.env = (false, eval e X.env) :: starEach es X.env := by rfl) : PAz X (e :: es) (tCons te t) := ⟨fun pos pins s σ H Q I h => by
  rw [hs]
  show wpAny _ _ (spliced ((false, eval e X.env) :: backTo pos (starEach es X.env))) _ _ s
  refine Calls.spliced_cons (thn (ha.run pins s σ H _ I h) fun v s1 q => ?_)
  obtain ⟨x, H1, I1, r1, q1⟩ := q
  exact thn (hr.run pos pins s1 σ H1 _ I1 q1) fun us s2 ⟨k2, xs, H2, I2, r2, q2⟩ => ⟨k2, x :: xs, H2, I2, .cons r1 r2, q2⟩⟩
theorem root_set {CX : CXT} {k : Nat} {f : Addr} {fd : FuncData} {ps : List Str} {x y : Str} {sp : Sp} {E : L2.St → XK} {i : Nat} {pos' : Pos} {rest : List Stmt} {u : TS}
    (run : ∀ (A : Around) (outer : List PySem.Env) (s : Shared) (H : Hp) (us : List Value) (vs : List V) (Q : VK) (E : XK), 0 < s.toks → Room k A → Env0 X.prog X.w X.K X.mg X.base A outer s H → BindsTo s fd ⟨us, []⟩ (ps.zip us) → Vals vs us → sp vs H Q E →
      codeAny (model X.prog X.w) A (.call (.ref f) ⟨us, []⟩) (CR CX outer X.prog X.w H s Q E) s)
    (len : ∀ vs H Q E, sp vs H Q E → vs.length = ps.length) (hr : Room k X.A) (hg : Gl X x) (hm : X.mg x = some (.ref f)) (hk : PySem.W.keepIn X.K (.ref f) = true) (hb : Binds X.K fd ps []) (hx : ∀ σ, PassesAt CX X σ (E σ))
    (ha : PAz X (e :: es) t) (hN : X.N.Nodup) (hi : X.N[i]? = some y) (hxl : Loc X.env.scope y) (hf : X.fn y = true ∨ X.env.scope.names.lookup y = some .local) (h2 : PSs X rest u)
    (hs : swapsWith (.Call (.Name x p1) (e :: es) [] p2) (some (.Name y pos')) pos.line X.env = pure false)
    (hdb : (x == ("__debug__" : Str)) = false) (he : starEach (e :: es) X.env = (false, eval e X.env) :: starEach es X.env) (hpl : (backTo p2 (starEach es X.env)).any (·.1) = false) :
    L2.PSs X (.Assign [.Name y pos'] (.Call (.Name x p1) (e :: es) [] p2) pos :: rest) (tSeq (tAsg (tCallS sp E t) (gName i)) u) := ⟨fun pins s σ H D I h => by
  refine wpAny_execs_cons (wpAny_Assign_Name ?_ hs)
  refine wpAny_Call_Name_kw (ld_glob I hg hm ?_ hdb)
  refine PySem.W.callWith_K (h₀ := X.base) I.ok.mod.kin hk (thn (ha.run p2 _ _ _ _ _ I h) fun us s1 q => ?_) he hpl
  obtain ⟨k1, vs, H1, I1, r, q⟩ := q
  refine ⟨I1.kIn, ?_⟩
  have hl : us.length = ps.length := r.length.symm.trans (len _ _ _ _ q)
  have bd := hb s1 us I1.kIn ((congrArg List.length (List.append_nil us)).trans hl)
  rw [List.append_nil] at bd
  have key : wpAny (model X.prog X.w) X.A (call (.ref f) us) (EP X pins σ (fun w H2 => u D (σ.set i (some w)) H2)) X.xe s1 := wpAny_call (codeAny_mono (run X.A X.stack s1 H1 us vs _ (E σ) k1 hr I1.env0 bd r q) fun rr s' hq => by
    match rr, hq with
    | .error ev, hq => exact hx σ pins H1 s1 ev s' I1 hq
    | .ok (.ret _), hq => exact I1.after hq
    | .ok .next, hq => exact hq.elim
    | .ok .brk, hq => exact hq.elim
    | .ok .cont, hq => exact hq.elim)
  refine nxt k1 key fun v s2 k2 q2 => ?_
  obtain ⟨w, H2, I2, rv, q3⟩ := q2
  refine nxt k2 (store_ok (Q := fun _ s3 => Inv X pins (σ.set i (some w)) H2 s3) I2 hN hi hxl rv (fun s3 I3 => I3) hf) fun _ s3 k3 I3 => ?_
  exact h2.run pins s3 _ H2 D k3 I3 q3⟩
/-- a law's body from a state of which nothing is known -/
structure DZs (X : Cx) (g : Gx) (rm : Md) (lp : Lp) (F F' : List Fl) (s : List Stmt) (A : Env → Flw) : Prop where
  pss : L2.PSs X s (tS g rm lp F F' A)
structure DAz (X : Cx) (g : Gx) (ms : List Md) (F : List Fl) (es : List PySem.Expr) (A : Env → Res (List D)) : Prop where
  pa : PAz X es (tAs g ms F A)
theorem paz_imp {X : Cx} {e : List PySem.Expr} {t t' : TA} (h : PAz X e t) (i : ∀ σ H Q, t' σ H Q → t σ H Q) : PAz X e t' := ⟨fun pos pins s σ H Q I q => h.run pos pins s σ H Q I (i _ _ _ q)⟩
theorem daz_int {i : Int} {j : Nat} (hr : DA X g ms F es L) (hs : starEach (.Constant (.int i) j p1 :: es) X.env = (false, eval (.Constant (.int i) j p1) X.env) :: starEach es X.env := by rfl) : DAz X g (.frz :: ms) F (.Constant (.int i) j p1 :: es) (aCons (eK (.int i)) L) := ⟨paz_imp (paz_int hr.pa hs) fun σ H Q ⟨I, ρ, S, p⟩ =>
  ⟨I, ρ, S, Post.bind (show Post g _ ((L ρ).bind fun ds => .ok (.int i :: ds)) I H σ Q from p) fun vs ds I2 H2 x2 r2 p2 => p2 (.int i :: vs) I2 H2 (Ext.refl x2.s) ⟨.int i, r2⟩⟩⟩
/-- a name ahead -/
theorem daz_var {i : Nat} {x : Str} (hN : X.N[i]? = some x) (hv : Vis X.env.scope x) (hf : fl F i = .frz) (hr : DAz X g ms F es L) (hd : (x == ("__debug__" : Str)) = false := by decide) (hcd : (x == ("__classdict__" : Str)) = false := by decide)
    (hs : starEach (.Name x p1 :: es) X.env = (false, eval (.Name x p1) X.env) :: starEach es X.env := by rfl) : DAz X g (.frz :: ms) F (.Name x p1 :: es) (aCons (eVar i) L) := ⟨paz_imp (paz_cons (L2.pe_var hN hv hd hcd) hr.pa hs) fun σ H Q ⟨I, ρ, S, p⟩ => by
  have q := S.at_ i
  rw [hf] at q
  obtain ⟨v, d, h1, h2, r⟩ := q
  have e : eVar i ρ = .ok d := by unfold eVar; rw [h2]
  unfold aCons at p
  rw [e] at p
  refine ⟨v, h1, I, ρ, S, Post.bind (show Post g _ ((L ρ).bind fun ds => .ok (d :: ds)) I H σ Q from p) fun vs ds I2 H2 x2 r2 p2 => p2 (v :: vs) I2 H2 (Ext.refl x2.s) ⟨r.mono x2.i, r2⟩⟩⟩
theorem dz_set {i j k : Nat} {f : Addr} {fd : FuncData} {ps : List Str} {x y : Str} {fk : List D → Res D} {pos' : Pos} {rest : List Stmt} {SB : Env → Flw} (Bx : Bd X g k) (Fo : FnT X.prog X.w X.K X.mg X.base j f fd ps (psp g.W ms .frz fk)) (hj : j ≤ k) (hg : Gl X x) (hm : X.mg x = some (.ref f))
    (hk : PySem.W.keepIn X.K (.ref f) = true) (hb : Binds X.K fd ps []) (ha : DAz X g ms F (e :: es) L) (hi : X.N[i]? = some y) (hxl : Loc X.env.scope y) (hf : X.fn y = true ∨ X.env.scope.names.lookup y = some .local) (hl : i < F.length) (hw : Wk F lp.x = true)
    (h2 : DSs X g rm lp (F.set i .frz) F' rest SB) (hs : swapsWith (.Call (.Name x p1) (e :: es) [] p2) (some (.Name y pos')) pos.line X.env = pure false)
    (hdb : (x == ("__debug__" : Str)) = false := by decide) (he : starEach (e :: es) X.env = (false, eval e X.env) :: starEach es X.env := by rfl) (hpl : (backTo p2 (starEach es X.env)).any (·.1) = false := by rfl) :
    DZs X g rm lp F F' (.Assign [.Name y pos'] (.Call (.Name x p1) (e :: es) [] p2) pos :: rest) (sSeq (sSet i (eFn fk L)) SB) := ⟨by
  have main := root_set (u := tS g rm lp (F.set i .frz) F' SB) Fo.run Fo.len (Bx.hr.mono hj) hg hm hk hb (fun σ => passAt Bx.tk σ) ha.pa Bx.nd hi hxl hf h2.pss hs hdb he hpl
  refine ⟨fun pins s σ H D I0 ⟨I, ρ, S, p⟩ => main.run pins s σ H D I0 ?_⟩
  have p' : PostS g rm lp F' I ((eFn fk L ρ).fl ρ fun d => SB (ρ.set i (some d))) D := by
    unfold sSeq sSet at p
    cases q : eFn fk L ρ with
    | ok d => rw [q] at p; exact p
    | exc x => rw [q] at p; exact p
    | no => rw [q] at p; exact p
  have p2 := post_of (rep := RepM .frz g.W) (Q := fun v H1 => tS g rm lp (F.set i .frz) F' SB D (σ.set i (some v)) H1) S hw p' fun v d I1 H1 x1 r S1 p1 => ⟨I1, ρ.set i (some d), S1.set hl r, p1⟩
  refine ⟨I, ρ, S, Post.bind p2 fun vs ds I1 H1 x1 r1 p1 => ?_⟩
  refine ⟨I1, ds, x1.s, r1, ?_⟩
  cases q : fk ds with
  | ok d => rw [q] at p1; exact p1
  | exc x => rw [q] at p1; exact p1
  | no => rw [q] at p1; exact p1⟩
end
/-- the law's def keeps its promise from any state -/
theorem root_ok {P : Program} {w : World} {K : PySem.W.Frag} {mg : Str → Option Value} {base : Heap} {x qual : Str} {st : Stmt} {f : Addr} {fd : FuncData} {N ps : List Str} {k : Nat} {ms : List Md} {rm : Md} {A : Env → Flw} {F' : List Fl} (F : L2.Fun K x qual st f fd) (S : FnScope N ps (defScope st)) (hl : ms.length = ps.length) (hn : ms.length ≤ N.length)
    (body : ∀ (cdv : Value) (Ar : Around) (outer : List PySem.Env) (s : Shared) (H : Hp) (E : XK) (I0 : Hp), Bd (bodyX P w K mg base N qual st f cdv Ar outer s H E) ⟨⟨K, mg⟩, I0, H, fun cls d _ H => E cls d H⟩ k →
      DZs (bodyX P w K mg base N qual st f cdv Ar outer s H E) ⟨⟨K, mg⟩, I0, H, fun cls d _ H => E cls d H⟩ rm ⟨[], [], []⟩ (startF N.length ms) F' (defBody st) A) :
    FnOk P w K mg base (L2.CX P w) (k + 1) f fd ps (psp ⟨K, mg⟩ ms rm (runB rm N.length A)) := by
  refine F.okX S (fun vs H Q E h => (psp_len h).trans hl) fun cdv Ar outer s H vs Q E hr h => ?_
  obtain ⟨I0, ds, sm, r, p⟩ := h
  have b : Bd (bodyX P w K mg base N qual st f cdv Ar outer s H E) ⟨⟨K, mg⟩, I0, H, fun cls d _ H => E cls d H⟩ k := ⟨rfl, rfl, rfl, S.nd, takes_of rfl rfl rfl rfl, hr, passes_of rfl⟩
  refine ⟨_, (body cdv Ar outer s H E I0 b).pss, I0, startD N.length ds, sok_start sm r hn, ?_⟩
  unfold runB at p
  cases q : A (startD N.length ds) with
  | nx ρ =>
    rw [q] at p
    cases rm with
    | frz => exact fun σ I H1 _ S1 => p .non I H1 S1.x .non
    | bor => exact p.elim
    | own => exact p.elim
  | ret d => rw [q] at p; exact p
  | bk ρ => rw [q] at p; exact p.elim
  | ct ρ => rw [q] at p; exact p.elim
  | exc x ρ => rw [q] at p; exact fun cl ad σ I H1 _ S1 rx => p cl ad I H1 S1.x rx
  | no => rw [q] at p; exact p.elim
/-- the end: the law's function says True for every script -/
theorem root_sp {W : Wd} {k : List D → Res D} {H : Hp} {a : Addr} {ns : List Int} (hS : SqL W.K H a (ns.map V.int)) (h : k [.scr ns] = .ok (.bl true)) : psp W [.frz] .frz k [.ref a] H (fun v _ => v = .bl true) fun _ _ _ => False := by
  refine ⟨H, [.scr ns], Same.refl _, ⟨.scr hS, trivial⟩, ?_⟩
  rw [h]
  intro v I H' x r
  cases r
  rfl
end Vl
/-! calls by name, within comprehensions too -/
namespace Vl
open PySem PySem.Spec PyProof.Rows L2

theorem Bd.blk {X : Cx} {g : Gx} {k : Nat} (Bx : Bd X g k) (s : Shared) (H : Hp) (scope : Scope) (cenv : PySem.Env) (fp : List Addr) (I0 B : Hp) : Bd (X.blk s H scope cenv fp) (g.blk I0 B) k :=
  ⟨Bx.K, Bx.mg, Bx.calm, Bx.nd, fun u s' ⟨_, _, _, _, _, _, _, _, _, _, _, _, _, _, _, _, z⟩ => z, Bx.hr, PassesOwn.never⟩
/-- a def of the text, found by its name -/
structure Cal (P : Program) (w : World) (K : PySem.W.Frag) (mg : Str → Option Value) (base : Heap) (W : Wd) (x : Str) (k : Nat) (ps : List Str) (ms : List Md) (rm : Md) (fk : List D → Res D) : Prop where
  ex : ∃ f fd, FnT P w K mg base k f fd ps (psp W ms rm fk) ∧ mg x = some (.ref f) ∧ PySem.W.keepIn K (.ref f) = true ∧ Binds K fd ps []
theorem cal_mk {P : Program} {w : World} {K : PySem.W.Frag} {mg : Str → Option Value} {base : Heap} {W : Wd} {x : Str} {k : Nat} {ps : List Str} {ms : List Md} {rm : Md} {fk : List D → Res D} {f : Addr} {fd : FuncData} {st : Stmt} (F : L2.Fun K x x st f fd) (g : mg x = some (.ref f)) (b : Binds K fd ps []) (T : FnT P w K mg base k f fd ps (psp W ms rm fk)) : Cal P w K mg base W x k ps ms rm fk :=
  ⟨f, fd, T, g, F.kp, b⟩
section
variable {X : Cx} {g : Gx} {m m1 m2 rm : Md} {lp : Lp} {F F1 F2 F' : List Fl} {a b c e : PySem.Expr} {es : List PySem.Expr} {A B : Env → Res D} {T : Env → Res Bool} {SA SB : Env → Flw} {L : Env → Res (List D)} {ms : List Md}
  {pos p1 p2 pos' : Pos} {st : Stmt} {rest s1 s2 : List Stmt} {j k : Nat} {x y : Str} {ps : List Str} {fk : List D → Res D} {i : Nat}
theorem de_callC (Bx : Bd X g k) (C : Cal X.prog X.w X.K X.mg X.base g.W x j ps ms rm fk) (hj : j ≤ k) (ha : DA X g ms F (e :: es) L) (hg : Gl X x := by rfl) (hdb : (x == ("__debug__" : Str)) = false := by decide) (he : starEach (e :: es) X.env = (false, eval e X.env) :: starEach es X.env := by rfl) (hpl : (backTo pos (starEach es X.env)).any (·.1) = false := by rfl) :
    DE X g rm F (.Call (.Name x p1) (e :: es) [] pos) (eFn fk L) := by
  obtain ⟨f, fd, T, gm, kp, b⟩ := C.ex
  exact de_call Bx T hj hg gm kp b ha hdb he hpl
theorem dz_setC (Bx : Bd X g k) (C : Cal X.prog X.w X.K X.mg X.base g.W x j ps ms .frz fk) (hj : j ≤ k) (ha : DAz X g ms F (e :: es) L) (hi : X.N[i]? = some y) (hxl : Loc X.env.scope y) (hf : X.fn y = true ∨ X.env.scope.names.lookup y = some .local) (hl : i < F.length) (hw : Wk F lp.x = true)
    (h2 : DSs X g rm lp (F.set i .frz) F' rest SB) (hs : swapsWith (.Call (.Name x p1) (e :: es) [] p2) (some (.Name y pos')) pos.line X.env = pure false) (hg : Gl X x := by rfl)
    (hdb : (x == ("__debug__" : Str)) = false := by decide) (he : starEach (e :: es) X.env = (false, eval e X.env) :: starEach es X.env := by rfl) (hpl : (backTo p2 (starEach es X.env)).any (·.1) = false := by rfl) :
    DZs X g rm lp F F' (.Assign [.Name y pos'] (.Call (.Name x p1) (e :: es) [] p2) pos :: rest) (sSeq (sSet i (eFn fk L)) SB) := by
  obtain ⟨f, fd, T, gm, kp, b⟩ := C.ex
  exact dz_set Bx T hj hg gm kp b ha hi hxl hf hl hw h2 hs hdb he hpl
/-- own → frozen for a def's promise -/
theorem Cal.fz {P : Program} {w : World} {K : PySem.W.Frag} {mg : Str → Option Value} {base : Heap} {W : Wd} (C : Cal P w K mg base W x k ps ms .own fk) : Cal P w K mg base W x k ps ms .frz fk := by
  obtain ⟨f, fd, T, r⟩ := C.ex
  exact ⟨f, fd, ⟨fun vs H Q E h => T.len vs H Q E (psp_fz h), fun A o s H us vs Q E h0 hr e0 hb r h => T.run A o s H us vs Q E h0 hr e0 hb r (psp_fz h)⟩, r⟩
end
end Vl
/-! while; built-ins' names; a statement's words weakened behind it -/
namespace Vl
open PySem PySem.Spec PyProof.Rows L2

theorem bt_len : bootBuiltins "len" = some (.builtin "len") := by decide +kernel
theorem bt_sorted : bootBuiltins "sorted" = some (.builtin "sorted") := by decide +kernel
theorem bt_all : bootBuiltins "all" = some (.builtin "all") := by decide +kernel
theorem bt_any : bootBuiltins "any" = some (.builtin "any") := by decide +kernel
theorem bt_sum : bootBuiltins "sum" = some (.builtin "sum") := by decide +kernel
theorem bt_isinstance : bootBuiltins "isinstance" = some (.builtin "isinstance") := by decide +kernel
theorem bt_max : bootBuiltins "max" = some (.builtin "max") := by decide +kernel
theorem bt_min : bootBuiltins "min" = some (.builtin "min") := by decide +kernel
theorem bt_int : bootBuiltins "int" = some (.type "int") := by decide +kernel
theorem bt_str : bootBuiltins "str" = some (.type "str") := by decide +kernel
theorem bt_list : bootBuiltins "list" = some (.type "list") := by decide +kernel
theorem bt_bool : bootBuiltins "bool" = some (.type "bool") := by decide +kernel
theorem bt_tuple : bootBuiltins "tuple" = some (.type "tuple") := by decide +kernel
theorem bt_dict : bootBuiltins "dict" = some (.type "dict") := by decide +kernel
section
variable {X : Cx} {g : Gx} {m m1 m2 rm : Md} {lp : Lp} {F F1 F2 F' Fh Fe Ft : List Fl} {a b c e : PySem.Expr} {es : List PySem.Expr} {A B : Env → Res D} {T : Env → Res Bool} {SA SB : Env → Flw} {L : Env → Res (List D)} {ms : List Md}
  {pos p1 p2 pos' : Pos} {st : Stmt} {rest s1 s2 body : List Stmt} {j k : Nat}
theorem un64 (Bx : Bd X g k) : X.A.units + 64 < cLine := Bx.hr.units
theorem un65 (Bx : Bd X g k) : X.A.units + 65 < cLine := by have := Bx.hr.un; omega
theorem un70 (Bx : Bd X g k) : X.A.units + 70 < cLine := by have := Bx.hr.un; omega
theorem DS.post (h : DS X g rm lp F F1 st SA) (w : Wk F1 F2 = true) : DS X g rm lp F F2 st SA := ⟨ps_imp h.ps fun D σ H ⟨I, ρ, S, p⟩ => ⟨I, ρ, S, by
  cases q : SA ρ with
  | nx ρ' =>
    rw [q] at p
    exact fun σ' I' H' m S' => by
      obtain ⟨I2, m2, S2⟩ := SOk.weak S' w
      exact p σ' I2 H' (m.trans m2) S2
  | ret d => rw [q] at p; exact p
  | bk ρ' => rw [q] at p; exact p
  | ct ρ' => rw [q] at p; exact p
  | exc x ρ' => rw [q] at p; exact p
  | no => rw [q] at p; exact p⟩⟩
theorem ds_setLcF {S : List Nat} {elt tg iter : PySem.Expr} {ifs : List PySem.Expr} {scope : Scope} {own : List (Str × Nat)} {AI : Env → Res (List D)} {G : D → Env → Option Env} {E : Env → Res D} {i : Nat} {y : Str} {py : Pos} {spos : Pos} (calm : X.calm = true) (hN : X.N.Nodup) (hy : X.N[i]? = some y) (hyl : X.env.scope.names.lookup y = some .local)
    (hsw : swapsWith (.ListComp elt [⟨tg, iter, ifs, 0⟩] scope pos) (some (.Name y py)) spos.line X.env = pure true) (hi : DI X g F tg iter AI) (ok : BlkOk X.N X.env.scope scope own) (hS : ∀ j ∈ S, j ∈ own.map (·.2))
    (hg : ∀ (s : Shared) (H : Hp) (C : Addr) (cl : List (Str × Addr)) (fp : List Addr) (I0 B : Hp), DG (X.blk s H scope (compEnvC scope cl C X.env) fp) (g.blk I0 B) (blkF F (own.map (·.2))) Ft S tg G)
    (ht : ∀ (s : Shared) (H : Hp) (C : Addr) (cl : List (Str × Addr)) (fp : List Addr) (I0 B : Hp), DTs (X.blk s H scope (compEnvC scope cl C X.env) fp) (g.blk I0 B) Ft ifs T)
    (he : ∀ (s : Shared) (H : Hp) (C : Addr) (cl : List (Str × Addr)) (fp : List Addr) (I0 B : Hp), DE (X.blk s H scope (compEnvC scope cl C X.env) fp) (g.blk I0 B) .frz Ft elt E)
    (hl : i < F.length) (hw : Wk F lp.x = true) (hs : ∀ x, foldedSetIterable iter X.env x = pure x) (hp : Wk (F.set i .own) (F.set i .frz) = true := by rfl) : DS X g rm lp F (F.set i .frz) (.Assign [.Name y py] (.ListComp elt [⟨tg, iter, ifs, 0⟩] scope pos) spos) (sSet i (eLc (own.map (·.2)) AI G T E)) :=
  DS.post (ds_setLc calm hN hy hyl hsw hi ok hS hg ht he hl hw hs) hp
def LawTrue (k : List D → Res D) : Prop := ∀ ns : List Int, ns.length ≤ 63 → k [.scr ns] = .ok (.bl true)
/-- what the law is asked -/
def spTop (K : PySem.W.Frag) : Sp := fun vs H Q _ => ∃ (a : Addr) (ns : List Int), vs = [.ref a] ∧ SqL K H a (ns.map V.int) ∧ ns.length ≤ 63 ∧ ∀ H', Q (.bl true) H'
theorem top_imp {W : Wd} {k : List D → Res D} (h : LawTrue k) : ∀ vs H Q E, spTop W.K vs H Q E → psp W [.frz] .frz k vs H Q E := by
  rintro vs H Q E ⟨a, ns, rfl, hS, hl, q⟩
  refine ⟨H, [.scr ns], Same.refl _, ⟨.scr hS, trivial⟩, ?_⟩
  rw [h ns hl]
  intro v I H' x r
  cases r
  exact q H'
theorem root_top {P : Program} {w : World} {K : PySem.W.Frag} {mg : Str → Option Value} {base : Heap} {CX : CXT} {k : Nat} {f : Addr} {fd : FuncData} {ps : List Str} {m : List D → Res D} (F : FnOk P w K mg base CX k f fd ps (psp ⟨K, mg⟩ [.frz] .frz m)) (h : LawTrue m) : FnOk P w K mg base CX k f fd ps (spTop K) :=
  F.imp (top_imp (W := ⟨K, mg⟩) h)
theorem cx_end {P : Program} {w : World} {H : Hp} {s : Shared} {e : Value} {s' : Shared} (h : L2.CX P w [] H s (fun _ _ _ => False) e s') : False := by
  obtain ⟨_, _, _, _, _, _, _, _, _, _, _, _, z⟩ := h
  exact z
def whileF (T : Env → Res Bool) (S : Env → Flw) : Nat → Env → Flw
  | 0, _ => .no
  | n + 1, ρ => (T ρ).fl ρ fun c => if c = true then (match S ρ with
    | .nx ρ' => whileF T S n ρ'
    | .ct ρ' => whileF T S n ρ'
    | .bk ρ' => .nx ρ'
    | r => r) else .nx ρ
def sWhile (fuel : Env → Nat) (T : Env → Res Bool) (S : Env → Flw) : Env → Flw := fun ρ => whileF T S (fuel ρ) ρ
theorem ds_while {fuel : Env → Nat} (Bx : Bd X g k) (hc : DT X g Fh c T) (hb : DSs X g rm ⟨Fe, Fh, lp.x⟩ Fh Fh body SB) (w1 : Wk F Fh = true) (w2 : Wk Fh Fe = true) (hw : Wk Fh lp.x = true) : DS X g rm lp F Fe (.While c body [] pos) (sWhile fuel T SB) := ⟨ps_imp (ps_while Bx.po hc.pt hb.pss) fun D σ H ⟨I, ρ, S, p⟩ => by
  obtain ⟨I2, m2, S2⟩ := S.weak w1
  refine ⟨fun m σ H => ∃ I ρ, Same I2 I ∧ g.Sk Fh I H σ ρ ∧ PostS g rm lp Fe I (whileF T SB m ρ) D, ⟨fuel ρ, I2, ρ, Same.refl _, S2, PostS.later m2 p⟩, ?_⟩
  rintro m σ3 H3 ⟨I3, ρ3, m3, S3, p3⟩
  cases m with
  | zero => exact p3.elim
  | succ n =>
    unfold whileF at p3
    refine ⟨I3, ρ3, S3, post_of S3 hw p3 fun v d I1 H1 x1 r S1 p1 => ?_⟩
    subst r
    cases v with
    | false =>
      obtain ⟨I5, m5, S5⟩ := S1.weak w2
      exact iteF (p1 σ3 I5 H1 m5 S5)
    | true =>
      refine iteT ⟨fun σ' H' => ∃ I ρ, Same I2 I ∧ g.Sk Fh I H' σ' ρ ∧ PostS g rm lp Fe I (whileF T SB n ρ) D, fun σ' H' q => ⟨n, Nat.lt_succ_self n, q⟩, I1, ρ3, S1, ?_⟩
      have m1 : Same I2 I1 := m3.trans x1.i
      rw [if_pos rfl] at p1
      cases q6 : SB ρ3 with
      | nx ρ6 => rw [q6] at p1; exact fun σ6 I6 H6 m6 S6 => ⟨I6, ρ6, m1.trans m6, S6, PostS.later m6 p1⟩
      | ct ρ6 => rw [q6] at p1; exact fun σ6 I6 H6 m6 S6 => ⟨I6, ρ6, m1.trans m6, S6, PostS.later m6 p1⟩
      | bk ρ6 => rw [q6] at p1; exact fun σ6 I6 H6 m6 S6 => p1 σ6 I6 H6 m6 S6
      | ret d => rw [q6] at p1; exact p1
      | exc x ρ6 => rw [q6] at p1; exact p1
      | no => rw [q6] at p1; exact p1⟩
end
end Vl
/-! plain laws over mirrors: loops, data -/
namespace Vl
open PySem PySem.Spec PyProof.Rows L2

theorem loop_inv {G : D → Env → Option Env} {S : Env → Flw} (P : Nat → Env → Prop) : ∀ (ds : List D) (i : Nat) (ρ : Env), P i ρ →
    (∀ j d ρ, ds[j]? = some d → P (i + j) ρ → ∃ ρ1, G d ρ = some ρ1 ∧ ∃ ρ2, (S ρ1 = .nx ρ2 ∨ S ρ1 = .ct ρ2) ∧ P (i + j + 1) ρ2) → ∃ ρ', loopF G S ds ρ = .nx ρ' ∧ P (i + ds.length) ρ'
  | [], i, ρ, h, _ => ⟨ρ, rfl, h⟩
  | d :: ds, i, ρ, h, st => by
    obtain ⟨ρ1, h1, ρ2, h2, h3⟩ := st 0 d ρ rfl h
    obtain ⟨ρ', e, p⟩ := loop_inv P ds (i + 1) ρ2 h3 fun j d' ρ0 hj hp => by
      have := st (j + 1) d' ρ0 (by simpa using hj) (by rw [show i + (j + 1) = i + 1 + j by omega]; exact hp)
      rw [show i + (j + 1) + 1 = i + 1 + j + 1 by omega] at this
      exact this
    refine ⟨ρ', ?_, by rw [List.length_cons, show i + (ds.length + 1) = i + 1 + ds.length by omega]; exact p⟩
    unfold loopF
    rw [h1]
    dsimp only
    rcases h2 with h2 | h2 <;> rw [h2] <;> exact e
theorem for_inv {G : D → Env → Option Env} {S : Env → Flw} {A : Env → Res (List D)} {ρ : Env} {ds : List D} (P : Nat → Env → Prop) (hA : A ρ = .ok ds) (h0 : P 0 ρ)
    (st : ∀ j d ρ, ds[j]? = some d → P j ρ → ∃ ρ1, G d ρ = some ρ1 ∧ ∃ ρ2, (S ρ1 = .nx ρ2 ∨ S ρ1 = .ct ρ2) ∧ P (j + 1) ρ2) : ∃ ρ', sFor A G S ρ = .nx ρ' ∧ P ds.length ρ' := by
  have := loop_inv (G := G) (S := S) P ds 0 ρ h0 fun j d ρ hd hp => by
    rw [Nat.zero_add] at hp ⊢
    exact st j d ρ hd hp
  rw [Nat.zero_add] at this
  unfold sFor Res.fl
  rw [hA]
  exact this
theorem for_range {G : D → Env → Option Env} {S : Env → Flw} {A : Env → Res (List D)} {ρ : Env} {n : Nat} (P : Nat → Env → Prop) (hA : A ρ = .ok (rangeD 0 n)) (h0 : P 0 ρ)
    (st : ∀ j ρ, j < n → P j ρ → ∃ ρ1, G (.int j) ρ = some ρ1 ∧ ∃ ρ2, (S ρ1 = .nx ρ2 ∨ S ρ1 = .ct ρ2) ∧ P (j + 1) ρ2) : ∃ ρ', sFor A G S ρ = .nx ρ' ∧ P n ρ' := by
  have := for_inv (G := G) (S := S) P hA h0 fun j d ρ hd hp => by
    rw [rangeD_get] at hd
    split at hd
    · rename_i hj
      cases hd
      rw [Int.zero_add]
      exact st j ρ hj hp
    · cases hd
  unfold rangeD at this
  rw [List.length_map, List.length_range] at this
  exact this
theorem rng1_nat {n : Nat} (h : n < 2 ^ 62) : rng1 [.int n] = .ok (rangeD 0 n) := by
  unfold rng1
  have : small62 (n : Int) = true := by
    unfold small62
    rw [Bool.and_eq_true]
    exact ⟨decide_eq_true (by omega), decide_eq_true (by omega)⟩
  simp only [this, if_pos, Int.toNat_natCast]
theorem mulD_l {i j : Int} (h : small64 i = true) : mulD (.int i) (.int j) = some (.int (i * j)) := by
  unfold mulD mulOk
  simp only [h, Bool.true_or, if_pos]
theorem mulD_r {i j : Int} (h : small64 j = true) : mulD (.int i) (.int j) = some (.int (i * j)) := by
  unfold mulD mulOk
  simp only [h, Bool.true_or, Bool.or_true, if_pos]
theorem small64_of {i : Int} (h1 : -(2 ^ 64) < i) (h2 : i < 2 ^ 64) : small64 i = true := by
  unfold small64
  rw [Bool.and_eq_true]
  exact ⟨decide_eq_true h1, decide_eq_true h2⟩
theorem modD_pos {i j : Int} (h : 0 < j) : modD (.int i) (.int j) = some (.int (i % j)) := by
  unfold modD
  simp only [h, if_pos]
theorem divD_pos {i j : Int} (h : (decide (0 < j) && decide (j.natAbs.log2 < 9000)) = true) : divD (.int i) (.int j) = some (.int (i / j)) := by
  unfold divD
  simp only [h, if_pos]
end Vl
/-! what a mirror comes to, rule by rule -/
namespace Vl
open PySem PySem.Spec PyProof.Rows L2

@[irreducible] def Ok {α : Type} (r : Res α) (Q : α → Prop) : Prop := match r with
  | .ok a => Q a
  | _ => False
@[irreducible] def OkO {α : Type} (o : Option α) (Q : α → Prop) : Prop := match o with
  | some a => Q a
  | none => False
@[irreducible] def FW (f : Flw) (N : Env → Prop) (R : D → Prop) (B C : Env → Prop) : Prop := match f with
  | .nx ρ => N ρ
  | .ret d => R d
  | .bk ρ => B ρ
  | .ct ρ => C ρ
  | _ => False
@[irreducible] def OkV (o : Option (Option D)) (Q : D → Prop) : Prop := match o with
  | some (some d) => Q d
  | _ => False
@[irreducible] def OkL (d : D) (Q : List D → Prop) : Prop := match d with
  | .lst ds => Q ds
  | _ => False
@[irreducible] def OkT (d : D) (Q : List D → Prop) : Prop := match d with
  | .tup ds => Q ds
  | _ => False
@[irreducible] def OkS (d : D) (Q : List Nat → Prop) : Prop := match d with
  | .str ds => Q ds
  | _ => False
@[irreducible] def OkI (d : D) (Q : Int → Prop) : Prop := match d with
  | .int i => Q i
  | _ => False
@[irreducible] def OkB (d : D) (Q : Bool → Prop) : Prop := match d with
  | .bl i => Q i
  | _ => False
section
variable {α β : Type} {A B E : Env → Res D} {T T2 : Env → Res Bool} {SA SB : Env → Flw} {L : Env → Res (List D)} {ρ : Env} {N Bk C : Env → Prop} {R Q : D → Prop} {QB : Bool → Prop} {QL : List D → Prop} {QE : Env → Prop} {i j : Nat} {k : D → D → Option D} {d e : D} {ds : List D}
theorem Ok.imp {r : Res α} {P P' : α → Prop} (h : Ok r P) (i : ∀ a, P a → P' a) : Ok r P' := by
  cases r with
  | ok a => with_unfolding_all exact i a h
  | exc x => with_unfolding_all exact h
  | no => with_unfolding_all exact h
theorem OkO.imp {r : Option α} {P P' : α → Prop} (h : OkO r P) (i : ∀ a, P a → P' a) : OkO r P' := by
  cases r with
  | some a => with_unfolding_all exact i a h
  | none => with_unfolding_all exact h
theorem ok_eq {r : Res α} {a : α} (h : Ok r fun b => b = a) : r = .ok a := by
  cases r with
  | ok b => with_unfolding_all exact congrArg Res.ok h
  | exc x => with_unfolding_all exact h.elim
  | no => with_unfolding_all exact h.elim
theorem ok_of {r : Res α} {a : α} {P : α → Prop} (h : r = .ok a) (p : P a) : Ok r P := by rw [h]; with_unfolding_all exact p
theorem oko_of {r : Option α} {a : α} {P : α → Prop} (h : r = some a) (p : P a) : OkO r P := by rw [h]; with_unfolding_all exact p
theorem ok_ex {r : Res α} {P : α → Prop} (h : Ok r P) : ∃ a, r = .ok a ∧ P a := by
  cases r with
  | ok a => with_unfolding_all exact ⟨a, rfl, h⟩
  | exc x => with_unfolding_all exact h.elim
  | no => with_unfolding_all exact h.elim
theorem ok_ok {a : α} {P : α → Prop} : Ok (.ok a) P = P a := by with_unfolding_all rfl
theorem oko_some {a : α} {P : α → Prop} : OkO (some a) P = P a := by with_unfolding_all rfl
theorem okv_some {Q : D → Prop} : OkV (some (some d)) Q = Q d := by with_unfolding_all rfl
theorem okl_lst : OkL (.lst ds) QL = QL ds := by with_unfolding_all rfl
theorem okt_tup : OkT (.tup ds) QL = QL ds := by with_unfolding_all rfl
theorem oks_str {s : List Nat} {Q : List Nat → Prop} : OkS (.str s) Q = Q s := by with_unfolding_all rfl
theorem oki_int {i : Int} {Q : Int → Prop} : OkI (.int i) Q = Q i := by with_unfolding_all rfl
theorem okb_bl {b : Bool} : OkB (.bl b) QB = QB b := by with_unfolding_all rfl
theorem ok_bind {r : Res α} {f : α → Res β} {P : β → Prop} : Ok (r.bind f) P = Ok r fun a => Ok (f a) P := by cases r <;> with_unfolding_all rfl
theorem ok_ofO {o : Option α} {P : α → Prop} : Ok (ofO o) P = OkO o P := by cases o <;> with_unfolding_all rfl
theorem ok_asL {Q : List D → Prop} : Ok (asL d) Q = OkL d Q := by cases d <;> with_unfolding_all rfl
theorem ok_asT {Q : List D → Prop} : Ok (asT d) Q = OkT d Q := by cases d <;> with_unfolding_all rfl
theorem ok_asB {Q : Bool → Prop} : Ok (asB d) Q = OkB d Q := by cases d <;> with_unfolding_all rfl
theorem ok_fit {x : α} {P : α → Prop} : Ok (fit ds x) P = (ds.length ≤ sizeLine ∧ P x) := by
  unfold fit
  split
  · rename_i h
    with_unfolding_all exact propext ⟨fun q => ⟨h, q⟩, fun q => q.2⟩
  · rename_i h
    with_unfolding_all exact propext ⟨fun q => q.elim, fun q => absurd q.1 h⟩
/-! ### expressions -/
theorem ok_var : Ok (eVar i ρ) Q = OkV ρ[i]? Q := by
  unfold eVar
  cases ρ[i]? with
  | none => with_unfolding_all rfl
  | some o => cases o <;> with_unfolding_all rfl
theorem ok_K : Ok (eK d ρ) Q = Q d := by with_unfolding_all rfl
theorem ok_bin : Ok (eBin k A B ρ) Q = Ok (A ρ) fun d => Ok (B ρ) fun e => OkO (k d e) Q := by
  unfold eBin
  simp only [ok_bind, ok_ofO]
theorem ok_un {k : D → Option D} : Ok (eUn k A ρ) Q = Ok (A ρ) fun d => OkO (k d) Q := by
  unfold eUn
  simp only [ok_bind, ok_ofO]
theorem ok_cmp {m : D → D → Option Bool} : Ok (bCmp m A B ρ) QB = Ok (A ρ) fun d => Ok (B ρ) fun e => OkO (m d e) QB := by
  unfold bCmp
  simp only [ok_bind, ok_ofO]
theorem ok_val : Ok (bVal A ρ) QB = Ok (A ρ) fun d => OkB d QB := by
  unfold bVal
  simp only [ok_bind, ok_asB]
theorem ok_tru : Ok (bTru A ρ) QB = Ok (A ρ) fun d => OkO (truD d) QB := by
  unfold bTru
  simp only [ok_bind, ok_ofO]
theorem ok_ite {c : Bool} {r s : Res α} {P : α → Prop} : Ok (if c = true then r else s) P = if c = true then Ok r P else Ok s P := by cases c <;> with_unfolding_all rfl
theorem ok_and : Ok (bAnd T T2 ρ) QB = Ok (T ρ) fun c => if c = true then Ok (T2 ρ) QB else QB false := by
  unfold bAnd
  simp only [ok_bind, ok_ite, ok_ok]
theorem ok_or : Ok (bOr T T2 ρ) QB = Ok (T ρ) fun c => if c = true then QB true else Ok (T2 ρ) QB := by
  unfold bOr
  simp only [ok_bind, ok_ite, ok_ok]
theorem ok_not : Ok (bNot T ρ) QB = Ok (T ρ) fun c => QB (!c) := by
  unfold bNot
  simp only [ok_bind, ok_ok]
theorem ok_eAnd : Ok (eAnd A B ρ) Q = Ok (A ρ) fun d => OkB d fun c => if c = true then Ok (B ρ) Q else Q (.bl false) := by
  unfold eAnd
  simp only [ok_bind, ok_ite, ok_ok, ok_asB]
theorem ok_eOr : Ok (eOr A B ρ) Q = Ok (A ρ) fun d => OkB d fun c => if c = true then Q (.bl true) else Ok (B ρ) Q := by
  unfold eOr
  simp only [ok_bind, ok_ite, ok_ok, ok_asB]
theorem ok_eNot : Ok (eNot A ρ) Q = Ok (A ρ) fun d => OkB d fun c => Q (.bl (!c)) := by
  unfold eNot
  simp only [ok_bind, ok_ok, ok_asB]
theorem ok_if : Ok (eIf T A B ρ) Q = Ok (T ρ) fun c => if c = true then Ok (A ρ) Q else Ok (B ρ) Q := by
  unfold eIf
  simp only [ok_bind, ok_ite]
theorem ok_nil : Ok (aNil ρ) QL = QL [] := by with_unfolding_all rfl
theorem ok_cons : Ok (aCons A L ρ) QL = Ok (A ρ) fun d => Ok (L ρ) fun ds => QL (d :: ds) := by
  unfold aCons
  simp only [ok_bind, ok_ok]
theorem ok_lst : Ok (eLst L ρ) Q = Ok (L ρ) fun ds => ds.length ≤ sizeLine ∧ Q (.lst ds) := by
  unfold eLst
  simp only [ok_bind, ok_fit]
theorem ok_tup : Ok (eTup L ρ) Q = Ok (L ρ) fun ds => ds.length ≤ sizeLine ∧ Q (.tup ds) := by
  unfold eTup
  simp only [ok_bind, ok_fit]
theorem ok_call {m : List D → Option D} : Ok (eCall m L ρ) Q = Ok (L ρ) fun ds => OkO (m ds) Q := by
  unfold eCall
  simp only [ok_bind, ok_ofO]
theorem ok_fn {m : List D → Res D} : Ok (eFn m L ρ) Q = Ok (L ρ) fun ds => Ok (m ds) Q := by
  unfold eFn
  simp only [ok_bind]
theorem ok_chain {k1 k2 : D → D → Option Bool} : Ok (bChain k1 k2 A B E ρ) QB = Ok (A ρ) fun d => Ok (B ρ) fun e => OkO (k1 d e) fun c => if c = true then Ok (E ρ) fun f => OkO (k2 e f) QB else QB false := by
  unfold bChain
  simp only [ok_bind, ok_ite, ok_ok, ok_ofO]
theorem oko_cB {m : D → D → Option Bool} : OkO (cB m d e) Q = OkO (m d e) fun b => Q (.bl b) := by
  unfold cB
  cases m d e <;> with_unfolding_all rfl
theorem ok_eChain {k1 k2 : D → D → Option Bool} : Ok (eChain k1 k2 A B E ρ) Q = Ok (A ρ) fun d => Ok (B ρ) fun e => OkO (k1 d e) fun c => if c = true then Ok (E ρ) fun f => OkO (k2 e f) fun b => Q (.bl b) else Q (.bl false) := by
  unfold eChain
  simp only [ok_bind, ok_ite, ok_ok, ok_ofO, oko_cB]
theorem ok_pNone {QO : Option Int → Prop} : Ok (pNone ρ) QO = QO none := by with_unfolding_all rfl
theorem ok_pSome {QO : Option Int → Prop} : Ok (pSome A ρ) QO = Ok (A ρ) fun d => OkI d fun i => QO (some i) := by
  unfold pSome
  rw [ok_bind]
  congr 1
  funext d
  cases d <;> with_unfolding_all rfl
theorem ok_sl {kk : D → Option Int → Option Int → Option D} {P P2 : Env → Res (Option Int)} : Ok (eSl kk A P P2 ρ) Q = Ok (A ρ) fun d => Ok (P ρ) fun lo => Ok (P2 ρ) fun hi => OkO (kk d lo hi) Q := by
  unfold eSl
  simp only [ok_bind, ok_ofO]
theorem ok_iLst : Ok (iLst A ρ) QL = Ok (A ρ) fun d => OkL d QL := by
  unfold iLst
  simp only [ok_bind, ok_asL]
theorem ok_iTupl : Ok (iTupl A ρ) QL = Ok (A ρ) fun d => OkT d QL := by
  unfold iTupl
  simp only [ok_bind, ok_asT]
theorem ok_iRng {m : List D → Res (List D)} : Ok (iRng m L ρ) QL = Ok (L ρ) fun ds => Ok (m ds) QL := by
  unfold iRng
  simp only [ok_bind]
theorem ok_iStr : Ok (iStrD A ρ) QL = Ok (A ρ) fun d => OkS d fun s => QL (s.map fun c => .str [c]) := by
  unfold iStrD
  rw [ok_bind]
  congr 1
  funext d
  cases d <;> with_unfolding_all rfl
theorem ok_lc {vs : List Nat} {AI : Env → Res (List D)} {G : D → Env → Option Env} : Ok (eLc vs AI G T E ρ) Q = Ok (AI ρ) fun ds => Ok (lcF G T E ds (wipeD ρ vs)) fun rs => rs.length ≤ sizeLine ∧ Q (.lst rs) := by
  unfold eLc
  simp only [ok_bind, ok_fit]
theorem ok_yes : Ok (bYes ρ) QB = QB true := by with_unfolding_all rfl
theorem ok_run {rm : Md} {n : Nat} {b : Env → Flw} : Ok (runB rm n b ds) Q = FW (b (startD n ds)) (fun _ => match rm with | .frz => Q .non | _ => False) Q (fun _ => False) fun _ => False := by
  unfold runB
  cases b (startD n ds) with
  | nx ρ => cases rm <;> with_unfolding_all rfl
  | ret d => with_unfolding_all rfl
  | bk ρ => with_unfolding_all rfl
  | ct ρ => with_unfolding_all rfl
  | exc x ρ => with_unfolding_all rfl
  | no => with_unfolding_all rfl
/-! ### statements -/
theorem FW.imp {f : Flw} {N' B' C' : Env → Prop} {R' : D → Prop} (h : FW f N R Bk C) (h1 : ∀ ρ, N ρ → N' ρ) (h2 : ∀ d, R d → R' d) (h3 : ∀ ρ, Bk ρ → B' ρ) (h4 : ∀ ρ, C ρ → C' ρ) : FW f N' R' B' C' := by
  cases f with
  | nx ρ => with_unfolding_all exact h1 ρ h
  | ret d => with_unfolding_all exact h2 d h
  | bk ρ => with_unfolding_all exact h3 ρ h
  | ct ρ => with_unfolding_all exact h4 ρ h
  | exc x ρ => with_unfolding_all exact h
  | no => with_unfolding_all exact h
theorem fw_fl {r : Res α} {f : α → Flw} : FW (r.fl ρ f) N R Bk C = Ok r fun a => FW (f a) N R Bk C := by cases r <;> with_unfolding_all rfl
theorem fw_nx : FW (.nx ρ) N R Bk C = N ρ := by with_unfolding_all rfl
theorem fw_rt : FW (.ret d) N R Bk C = R d := by with_unfolding_all rfl
theorem fw_bk : FW (.bk ρ) N R Bk C = Bk ρ := by with_unfolding_all rfl
theorem fw_ct : FW (.ct ρ) N R Bk C = C ρ := by with_unfolding_all rfl
theorem fw_seq : FW (sSeq SA SB ρ) N R Bk C = FW (SA ρ) (fun ρ' => FW (SB ρ') N R Bk C) R Bk C := by
  unfold sSeq
  cases SA ρ <;> with_unfolding_all rfl
theorem fw_cut (M : Env → Prop) (h : FW (SA ρ) M R Bk C) (h2 : ∀ ρ', M ρ' → FW (SB ρ') N R Bk C) : FW (sSeq SA SB ρ) N R Bk C := by
  rw [fw_seq]
  with_unfolding_all exact h.imp h2 (fun _ z => z) (fun _ z => z) fun _ z => z
theorem fw_nil : FW (sNil ρ) N R Bk C = N ρ := by with_unfolding_all rfl
theorem fw_set : FW (sSet i A ρ) N R Bk C = Ok (A ρ) fun d => N (ρ.set i (some d)) := by
  unfold sSet
  simp only [fw_fl, fw_nx]
theorem fw_ret : FW (sRet A ρ) N R Bk C = Ok (A ρ) R := by
  unfold sRet
  simp only [fw_fl, fw_rt]
theorem fw_retN : FW (sRetN ρ) N R Bk C = R .non := by with_unfolding_all rfl
theorem fw_ite {c : Bool} {f f' : Flw} : FW (if c = true then f else f') N R Bk C = if c = true then FW f N R Bk C else FW f' N R Bk C := by cases c <;> with_unfolding_all rfl
theorem fw_if : FW (sIf T SA SB ρ) N R Bk C = Ok (T ρ) fun c => if c = true then FW (SA ρ) N R Bk C else FW (SB ρ) N R Bk C := by
  unfold sIf
  simp only [fw_fl, fw_ite]
theorem fw_expr : FW (sExpr A ρ) N R Bk C = Ok (A ρ) fun _ => N ρ := by
  unfold sExpr
  simp only [fw_fl, fw_nx]
theorem fw_app : FW (sApp i A ρ) N R Bk C = OkV ρ[i]? fun x => OkL x fun ds => Ok (A ρ) fun d => ds.length < sizeLine ∧ N (ρ.set i (some (.lst (ds ++ [d])))) := by
  unfold sApp
  cases h : ρ[i]? with
  | none => with_unfolding_all rfl
  | some o =>
    cases o with
    | none => with_unfolding_all rfl
    | some x =>
      cases x <;> try with_unfolding_all rfl
      rename_i ds
      simp only [fw_fl, okv_some, okl_lst]
      congr 1
      funext d
      split
      · rename_i h
        with_unfolding_all exact propext ⟨fun q => ⟨h, q⟩, fun q => q.2⟩
      · rename_i h
        with_unfolding_all exact propext ⟨fun q => q.elim, fun q => absurd q.1 h⟩
theorem fw_aug : FW (sAug i k A ρ) N R Bk C = OkV ρ[i]? fun d0 => Ok (A ρ) fun d => OkO (k d0 d) fun z => N (ρ.set i (some z)) := by
  unfold sAug
  cases h : ρ[i]? with
  | none => with_unfolding_all rfl
  | some o =>
    cases o with
    | none => with_unfolding_all rfl
    | some x =>
      simp only [fw_fl, okv_some]
      congr 1
      funext d
      cases k x d <;> with_unfolding_all rfl
theorem fw_put {J : Env → Res D} : FW (sPut i J A ρ) N R Bk C = OkV ρ[i]? fun x => OkL x fun ds => Ok (A ρ) fun d => Ok (J ρ) fun j => OkI j fun j => OkO (ixN ds.length j) fun n => N (ρ.set i (some (.lst (ds.set n d)))) := by
  unfold sPut
  cases h : ρ[i]? with
  | none => with_unfolding_all rfl
  | some o =>
    cases o with
    | none => with_unfolding_all rfl
    | some x =>
      cases x <;> try with_unfolding_all rfl
      rename_i ds
      simp only [fw_fl, okv_some, okl_lst]
      congr 1
      funext d
      congr 1
      funext j
      cases j <;> try with_unfolding_all rfl
      rename_i j
      simp only [oki_int]
      cases ixN ds.length j <;> with_unfolding_all rfl
theorem fw_augIx {J : Env → Res D} : FW (sAugIx i k J A ρ) N R Bk C = OkV ρ[i]? fun x => OkL x fun ds => Ok (J ρ) fun j => OkI j fun j => OkO (atI ds j) fun d0 => OkO (ixN ds.length j) fun n => Ok (A ρ) fun d => OkO (k d0 d) fun z => N (ρ.set i (some (.lst (ds.set n z)))) := by
  unfold sAugIx
  cases h : ρ[i]? with
  | none => with_unfolding_all rfl
  | some o =>
    cases o with
    | none => with_unfolding_all rfl
    | some x =>
      cases x <;> try with_unfolding_all rfl
      rename_i ds
      simp only [fw_fl, okv_some, okl_lst]
      congr 1
      funext j
      cases j <;> try with_unfolding_all rfl
      rename_i j
      simp only [oki_int]
      cases atI ds j with
      | none => with_unfolding_all rfl
      | some d0 =>
        cases ixN ds.length j with
        | none => with_unfolding_all rfl
        | some n =>
          simp only [oko_some, fw_fl]
          congr 1
          funext d
          cases k d0 d <;> with_unfolding_all rfl
theorem fw_asg {G : D → Env → Option Env} : FW (sAsg G A ρ) N R Bk C = Ok (A ρ) fun d => OkO (G d ρ) N := by
  unfold sAsg
  simp only [fw_fl]
  congr 1
  funext d
  cases G d ρ <;> with_unfolding_all rfl
theorem fw_par {is : List Nat} : FW (sPar is L ρ) N R Bk C = Ok (L ρ) fun ds => ds.length = is.length ∧ N ((is.zip ds).foldl (fun ρ p => ρ.set p.1 (some p.2)) ρ) := by
  unfold sPar
  simp only [fw_fl]
  congr 1
  funext d
  split
  · rename_i h
    with_unfolding_all exact propext ⟨fun q => ⟨h, q⟩, fun q => q.2⟩
  · rename_i h
    with_unfolding_all exact propext ⟨fun q => q.elim, fun q => absurd q.1 h⟩
theorem oko_gN : OkO (gN i d ρ) QE = QE (ρ.set i (some d)) := by with_unfolding_all rfl
theorem oko_gT {Gs : List D → Env → Option Env} : OkO (gT Gs d ρ) QE = OkT d fun ds => OkO (Gs ds ρ) QE := by cases d <;> with_unfolding_all rfl
theorem oko_gNil : OkO (gsNil [] ρ) QE = QE ρ := by with_unfolding_all rfl
theorem oko_gCons {G : D → Env → Option Env} {Gs : List D → Env → Option Env} : OkO (gsCons G Gs (d :: ds) ρ) QE = OkO (G d ρ) fun ρ' => OkO (Gs ds ρ') QE := by
  unfold gsCons
  dsimp only
  cases G d ρ <;> with_unfolding_all rfl
/-! ### loops -/
theorem fw_for {G : D → Env → Option Env} {AI : Env → Res (List D)} (P : Nat → Env → Prop) {ds : List D} (hA : AI ρ = .ok ds) (h0 : P 0 ρ) (st : ∀ j d ρ, ds[j]? = some d → P j ρ → OkO (G d ρ) fun ρ1 => FW (SB ρ1) (P (j + 1)) R N (P (j + 1))) (fin : ∀ ρ, P ds.length ρ → N ρ) : FW (sFor AI G SB ρ) N R Bk C := by
  unfold sFor
  rw [fw_fl, hA, ok_ok]
  have key : ∀ (es : List D) (i : Nat) (ρ : Env), ds.drop i = es → i ≤ ds.length → P i ρ → FW (loopF G SB es ρ) N R Bk C := by
    intro es
    induction es with
    | nil =>
      intro i ρ he hi hp
      have : i = ds.length := by
        have := congrArg List.length he
        rw [List.length_drop] at this
        simp at this
        omega
      subst this
      with_unfolding_all exact fin ρ hp
    | cons d es ih =>
      intro i ρ he hi hp
      have hd : ds[i]? = some d := by
        have := congrArg (·[0]?) he
        simpa [List.getElem?_drop] using this
      have hlt : i < ds.length := (List.getElem?_eq_some_iff.mp hd).1
      have he' : ds.drop (i + 1) = es := by
        rw [← List.drop_drop, he]
        rfl
      have := st i d ρ hd hp
      unfold loopF
      cases q : G d ρ with
      | none => rw [q] at this; with_unfolding_all exact this.elim
      | some ρ1 =>
        rw [q] at this
        dsimp only
        with_unfolding_all change FW (SB ρ1) _ _ _ _ at this
        cases q2 : SB ρ1 with
        | nx ρ2 => rw [q2] at this; with_unfolding_all exact ih (i + 1) ρ2 he' hlt this
        | ct ρ2 => rw [q2] at this; with_unfolding_all exact ih (i + 1) ρ2 he' hlt this
        | bk ρ2 => rw [q2] at this; with_unfolding_all exact this
        | ret d => rw [q2] at this; with_unfolding_all exact this
        | exc x ρ2 => rw [q2] at this; with_unfolding_all exact this
        | no => rw [q2] at this; with_unfolding_all exact this
  with_unfolding_all exact key ds 0 ρ rfl (Nat.zero_le _) h0
theorem fw_range {G : D → Env → Option Env} {AI : Env → Res (List D)} (P : Nat → Env → Prop) {n : Nat} (hA : Ok (AI ρ) fun ds => ds = rangeD 0 n) (h0 : P 0 ρ) (st : ∀ j ρ, j < n → P j ρ → OkO (G (.int j) ρ) fun ρ1 => FW (SB ρ1) (P (j + 1)) R N (P (j + 1))) (fin : ∀ ρ, P n ρ → N ρ) : FW (sFor AI G SB ρ) N R Bk C := by
  refine fw_for P (ok_eq hA) h0 (fun j d ρ hd hp => ?_) fun ρ hp => fin ρ ?_
  · rw [rangeD_get] at hd
    split at hd
    · rename_i hj
      cases hd
      rw [Int.zero_add]
      with_unfolding_all exact st j ρ hj hp
    · cases hd
  · unfold rangeD at hp
    rw [List.length_map, List.length_range] at hp
    with_unfolding_all exact hp
theorem lc_map {α : Type} {G : D → Env → Option Env} {QL : List D → Prop} (en : α → D) (t : α → Bool) (ev : α → D) : ∀ (as : List α), (∀ a ∈ as, OkO (G (en a) ρ) fun ρ1 => Ok (T ρ1) fun c => c = t a ∧ (t a = true → Ok (E ρ1) fun d => d = ev a)) → QL ((as.filter t).map ev) → Ok (lcF G T E (as.map en) ρ) QL := by
  intro as h q
  have key : ∀ as : List α, (∀ a ∈ as, OkO (G (en a) ρ) fun ρ1 => Ok (T ρ1) fun c => c = t a ∧ (t a = true → Ok (E ρ1) fun d => d = ev a)) → lcF G T E (as.map en) ρ = .ok ((as.filter t).map ev) := by
    intro as
    induction as with
    | nil => intro _; rfl
    | cons a as ih =>
      intro h
      have ha := h a List.mem_cons_self
      have ih' := ih fun b hb => h b (List.mem_cons_of_mem _ hb)
      rw [List.map_cons]
      unfold lcF
      cases q : G (en a) ρ with
      | none => rw [q] at ha; with_unfolding_all exact ha.elim
      | some ρ1 =>
        rw [q] at ha
        with_unfolding_all change Ok (T ρ1) _ at ha
        obtain ⟨c, hc, e, hE⟩ := ok_ex ha
        subst e
        dsimp only
        rw [hc, ih', List.filter_cons]
        show (if t a = true then _ else _) = _
        by_cases ht : t a = true
        · rw [if_pos ht, if_pos ht, ok_eq (hE ht)]
          rfl
        · rw [if_neg ht, if_neg ht]
  rw [key as h]
  with_unfolding_all exact q
/-- each result is known by a relation -/
theorem lc_rel {G : D → Env → Option Env} {QL : List D → Prop} (Rl : D → D → Prop) : ∀ (as : List D), (∀ a ∈ as, OkO (G a ρ) fun ρ1 => Ok (T ρ1) fun c => c = true → Ok (E ρ1) (Rl a)) → (∀ rs : List D, rs.length ≤ as.length → (∀ r ∈ rs, ∃ a ∈ as, Rl a r) → QL rs) → Ok (lcF G T E as ρ) QL := by
  intro as h q
  have key : ∀ as : List D, (∀ a ∈ as, OkO (G a ρ) fun ρ1 => Ok (T ρ1) fun c => c = true → Ok (E ρ1) (Rl a)) → ∃ rs, lcF G T E as ρ = .ok rs ∧ rs.length ≤ as.length ∧ ∀ r ∈ rs, ∃ a ∈ as, Rl a r := by
    intro as
    induction as with
    | nil => intro _; with_unfolding_all exact ⟨[], rfl, Nat.le_refl _, fun r hr => by cases hr⟩
    | cons a as ih =>
      intro h
      have ha := h a List.mem_cons_self
      obtain ⟨rs, e1, e2, e3⟩ := ih fun b hb => h b (List.mem_cons_of_mem _ hb)
      unfold lcF
      cases q : G a ρ with
      | none => rw [q] at ha; with_unfolding_all exact ha.elim
      | some ρ1 =>
        rw [q] at ha
        with_unfolding_all change Ok (T ρ1) _ at ha
        obtain ⟨c, hc, hE⟩ := ok_ex ha
        dsimp only
        rw [hc, e1]
        cases c with
        | false => with_unfolding_all exact ⟨rs, rfl, Nat.le_succ_of_le e2, fun r hr => let ⟨a, m, z⟩ := e3 r hr; ⟨a, List.mem_cons_of_mem _ m, z⟩⟩
        | true =>
          obtain ⟨r0, hr0, hR⟩ := ok_ex (hE rfl)
          refine ⟨r0 :: rs, by show (noX (E ρ1)).bind _ = _; rw [hr0]; rfl, Nat.succ_le_succ e2, fun r hr => ?_⟩
          rcases List.mem_cons.mp hr with e | hr
          · rw [e]; with_unfolding_all exact ⟨a, List.mem_cons_self, hR⟩
          · obtain ⟨a, m, z⟩ := e3 r hr
            with_unfolding_all exact ⟨a, List.mem_cons_of_mem _ m, z⟩
  obtain ⟨rs, e1, e2, e3⟩ := key as h
  rw [e1]
  with_unfolding_all exact q rs e2 e3
end
/-! ### what the operators give -/
section
variable {Q : D → Prop} {QB : Bool → Prop} {i j : Int} {a b : List Nat} {xs ys : List D} {d e : D}
theorem oko_if {α : Type} {c : Prop} [Decidable c] {x : α} {P : α → Prop} : OkO (if c then some x else none) P = (c ∧ P x) := by
  split
  · rename_i h
    with_unfolding_all exact propext ⟨fun q => ⟨h, q⟩, fun q => q.2⟩
  · rename_i h
    with_unfolding_all exact propext ⟨fun q => q.elim, fun q => absurd q.1 h⟩
theorem oko_map {α β : Type} {o : Option α} {f : α → β} {P : β → Prop} : OkO (o.map f) P = OkO o fun a => P (f a) := by cases o <;> with_unfolding_all rfl
theorem add_ii : OkO (addD (.int i) (.int j)) Q = Q (.int (i + j)) := by with_unfolding_all rfl
theorem add_ss : OkO (addD (.str a) (.str b)) Q = (a.length + b.length ≤ sizeLine ∧ Q (.str (a ++ b))) := by unfold addD; with_unfolding_all exact oko_if
theorem add_ll : OkO (addD (.lst xs) (.lst ys)) Q = (xs.length + ys.length ≤ sizeLine ∧ Q (.lst (xs ++ ys))) := by unfold addD; with_unfolding_all exact oko_if
theorem cat_ll : OkO (catD (.lst xs) (.lst ys)) Q = (xs.length + ys.length ≤ sizeLine ∧ Q (.lst (xs ++ ys))) := by unfold catD; with_unfolding_all exact oko_if
theorem sub_ii : OkO (subD (.int i) (.int j)) Q = Q (.int (i - j)) := by with_unfolding_all rfl
theorem mul_ii : OkO (mulD (.int i) (.int j)) Q = (mulOk i j = true ∧ Q (.int (i * j))) := by unfold mulD; with_unfolding_all exact oko_if
theorem div_ii : OkO (divD (.int i) (.int j)) Q = ((decide (0 < j) && decide (j.natAbs.log2 < 9000)) = true ∧ Q (.int (i / j))) := by unfold divD; with_unfolding_all exact oko_if
theorem mod_ii : OkO (modD (.int i) (.int j)) Q = (0 < j ∧ Q (.int (i % j))) := by unfold modD; with_unfolding_all exact oko_if
theorem pow_ii : OkO (powD (.int i) (.int j)) Q = ((decide (0 ≤ j) && decide (j ≤ 1000000) && decide (i.natAbs < 2 ^ 64)) = true ∧ Q (.int (i ^ j.toNat))) := by unfold powD; with_unfolding_all exact oko_if
theorem rep_li : OkO (repD (.lst xs) (.int i)) Q = ((decide (-(2 ^ 63) ≤ i) && decide (i < 2 ^ 63) && decide (xs.length * i.toNat ≤ sizeLine)) = true ∧ Q (.lst (List.replicate i.toNat xs).flatten)) := by unfold repD; with_unfolding_all exact oko_if
theorem iadd_ii : OkO (iaddD (.int i) (.int j)) Q = Q (.int (i + j)) := by with_unfolding_all rfl
theorem iadd_ss : OkO (iaddD (.str a) (.str b)) Q = (a.length + b.length ≤ sizeLine ∧ Q (.str (a ++ b))) := by unfold iaddD; with_unfolding_all exact oko_if
theorem neg_i : OkO (negD (.int i)) Q = Q (.int (-i)) := by with_unfolding_all rfl
theorem cmp_ii {p : Int → Int → Bool} {q : List Nat → List Nat → Bool} : OkO (cmpD p q (.int i) (.int j)) QB = QB (p i j) := by with_unfolding_all rfl
theorem cmp_ss {p : Int → Int → Bool} {q : List Nat → List Nat → Bool} : OkO (cmpD p q (.str a) (.str b)) QB = QB (q a b) := by with_unfolding_all rfl
theorem oko_eq : OkO (eqD d e) QB = ((pyOk 64 d && pyOk 64 e) = true ∧ QB (deq d e)) := by unfold eqD; with_unfolding_all exact oko_if
theorem oko_ne : OkO (neD d e) QB = ((pyOk 64 d && pyOk 64 e) = true ∧ QB (!deq d e)) := by unfold neD; rw [oko_map, oko_eq]
theorem in_l : OkO (inD d (.lst ys)) QB = ((pyOk 63 d && pyOk 64 (.lst ys)) = true ∧ QB (ys.any fun z => deq z d)) := by
  unfold inD
  cases d <;> exact oko_if
theorem nin_l : OkO (ninD d (.lst ys)) QB = ((pyOk 63 d && pyOk 64 (.lst ys)) = true ∧ QB (!ys.any fun z => deq z d)) := by unfold ninD; rw [oko_map, in_l]
theorem in_c {c : Nat} : OkO (inD (.str [c]) (.str a)) QB = QB (decide (c ∈ a)) := by with_unfolding_all rfl
theorem nin_c {c : Nat} : OkO (ninD (.str [c]) (.str a)) QB = QB (!decide (c ∈ a)) := by with_unfolding_all rfl
theorem is_nn : OkO (isNonD .non .non) QB = QB true := by with_unfolding_all rfl
theorem is_in : OkO (isNonD (.int i) .non) QB = QB false := by with_unfolding_all rfl
theorem is_sn : OkO (isNonD (.str a) .non) QB = QB false := by with_unfolding_all rfl
theorem is_ln : OkO (isNonD (.lst xs) .non) QB = QB false := by with_unfolding_all rfl
theorem is_tn : OkO (isNonD (.tup xs) .non) QB = QB false := by with_unfolding_all rfl
theorem oko_isnt : OkO (isntNonD d e) QB = OkO (isNonD d e) fun b => QB (!b) := by unfold isntNonD; rw [oko_map]
theorem tru_b {b : Bool} : OkO (truD (.bl b)) QB = QB b := by with_unfolding_all rfl
theorem tru_n : OkO (truD .non) QB = QB false := by with_unfolding_all rfl
theorem tru_i : OkO (truD (.int i)) QB = QB (i != 0) := by with_unfolding_all rfl
theorem tru_s : OkO (truD (.str a)) QB = QB (!a.isEmpty) := by with_unfolding_all rfl
theorem tru_l : OkO (truD (.lst xs)) QB = QB (!xs.isEmpty) := by with_unfolding_all rfl
theorem tru_t : OkO (truD (.tup xs)) QB = QB (!xs.isEmpty) := by with_unfolding_all rfl
theorem tru_r {ns : List Int} : OkO (truD (.scr ns)) QB = QB (!ns.isEmpty) := by with_unfolding_all rfl
theorem len_l : OkO (lenD [.lst xs]) Q = Q (.int xs.length) := by with_unfolding_all rfl
theorem len_t : OkO (lenD [.tup xs]) Q = Q (.int xs.length) := by with_unfolding_all rfl
theorem len_s : OkO (lenD [.str a]) Q = Q (.int a.length) := by with_unfolding_all rfl
theorem len_r {ns : List Int} : OkO (lenD [.scr ns]) Q = Q (.int ns.length) := by with_unfolding_all rfl
theorem ix_l : OkO (ixD (.lst xs) (.int i)) Q = OkO (atI xs i) Q := by with_unfolding_all rfl
theorem ix_t : OkO (ixD (.tup xs) (.int i)) Q = OkO (atI xs i) Q := by with_unfolding_all rfl
theorem ix_s : OkO (ixD (.str a) (.int i)) Q = OkO (atI a i) fun c => Q (.str [c]) := by
  show OkO ((atI a i).map _) Q = _
  with_unfolding_all exact oko_map
theorem ix_r {ns : List Int} : OkO (ixD (.scr ns) (.int i)) Q = OkO (atI ns i) fun c => Q (.int c) := by
  show OkO ((atI ns i).map _) Q = _
  with_unfolding_all exact oko_map
theorem int_i : OkO (intD [.int i]) Q = Q (.int i) := by with_unfolding_all rfl
theorem list_l : OkO (listD [.lst xs]) Q = Q (.lst xs) := by with_unfolding_all rfl
theorem list_t : OkO (listD [.tup xs]) Q = Q (.lst xs) := by with_unfolding_all rfl
theorem str_i : OkO (strD [.int i]) Q = ((decide (i.natAbs.log2 < 1920) && okS (strI i)) = true ∧ Q (.str (strI i))) := by
  unfold strD
  with_unfolding_all exact oko_if
theorem sl_l {lo hi : Option Int} : OkO (slD (.lst xs) lo hi) Q = Q (.lst (cutG xs lo hi)) := by with_unfolding_all rfl
theorem sl_s {lo hi : Option Int} : OkO (slD (.str a) lo hi) Q = Q (.str (cutG a lo hi)) := by with_unfolding_all rfl
theorem slL_l {lo hi : Option Int} : OkO (slL (.lst xs) lo hi) Q = Q (.lst (cutG xs lo hi)) := by with_unfolding_all rfl
theorem sorted_l : OkO (sortedD [.lst xs]) Q = (sortOk xs = true ∧ Q (.lst (sortG xs))) := by
  unfold sortedD lst1
  with_unfolding_all exact oko_if
theorem all_l : OkO (allD [.lst xs]) Q = OkO (blsOf xs) fun ns => Q (.bl (ns.all id)) := by
  unfold allD lst1
  with_unfolding_all exact oko_map
theorem any_l : OkO (anyD [.lst xs]) Q = OkO (blsOf xs) fun ns => Q (.bl (ns.any id)) := by
  unfold anyD lst1
  with_unfolding_all exact oko_map
theorem sum_l : OkO (sumD [.lst xs]) Q = OkO (intsOf xs) fun ns => Q (.int ns.sum) := by
  unfold sumD lst1
  with_unfolding_all exact oko_map
theorem repl_s {y z : List Nat} : OkO (replD y z (.str a)) Q = (a.length + (a.length + 1) * z.length ≤ 16777216 ∧ Q (.str (StrLaws.replL y z a))) := by unfold replD; with_unfolding_all exact oko_if
theorem rng_1 {QL : List D → Prop} : Ok (rng1 [.int i]) QL = (small62 i = true ∧ QL (rangeD 0 i.toNat)) := by
  unfold rng1
  dsimp only
  split
  · rename_i h
    with_unfolding_all exact propext ⟨fun q => ⟨h, q⟩, fun q => q.2⟩
  · rename_i h
    with_unfolding_all exact propext ⟨fun q => q.elim, fun q => absurd q.1 h⟩
theorem rng_2 {QL : List D → Prop} : Ok (rng2 [.int i, .int j]) QL = ((small62 i && small62 j) = true ∧ QL (rangeD i (j - i).toNat)) := by
  unfold rng2
  dsimp only
  split
  · rename_i h
    with_unfolding_all exact propext ⟨fun q => ⟨h, q⟩, fun q => q.2⟩
  · rename_i h
    with_unfolding_all exact propext ⟨fun q => q.elim, fun q => absurd q.1 h⟩
/-! ### facts of data -/
theorem mul_cl (h : small64 i = true) : OkO (mulD (.int i) (.int j)) Q = Q (.int (i * j)) := by rw [mulD_l h, oko_some]
theorem mul_cr (h : small64 j = true) : OkO (mulD (.int i) (.int j)) Q = Q (.int (i * j)) := by rw [mulD_r h, oko_some]
theorem atI_some {α : Type} {xs : List α} {n : Nat} (h : n < xs.length) : atI xs (n : Int) = some xs[n] := by
  have := atI_nat (xs := xs) (j := n) (List.getElem?_eq_getElem h)
  with_unfolding_all exact this
theorem deq_str (a b : List Nat) : deq (.str a) (.str b) = decide (a = b) := by
  unfold deq toPy PyData.eqv
  by_cases h : a = b
  · subst h
    simp
  · simp only [h, decide_false]
    have : toS a ≠ toS b := fun z => h (toS_inj z)
    simpa using this
theorem deq_int (a b : Int) : deq (.int a) (.int b) = decide (a = b) := by
  unfold deq toPy PyData.eqv
  by_cases h : a = b
  · subst h
    simp
  · simp [h]
end
section
variable {α : Type} {Q : D → Prop} {xs : List α} {i : Int}
theorem oko_ix {Q : α → Prop} (h0 : 0 ≤ i) (h1 : i < xs.length) (h : ∀ x, x ∈ xs → Q x) : OkO (atI xs i) Q := by
  have e : i = ((i.toNat : Nat) : Int) := by omega
  rw [e, atI_some (by omega), oko_some]
  exact h _ (List.getElem_mem _)
theorem oko_ixm {f : α → D} (h0 : 0 ≤ i) (h1 : i < xs.length) (h : ∀ x, x ∈ xs → Q (f x)) : OkO (atI (xs.map f) i) Q := by
  refine oko_ix h0 (by rw [List.length_map]; exact h1) fun x hx => ?_
  obtain ⟨a, ha, rfl⟩ := List.mem_map.mp hx
  exact h a ha
theorem oko_last {Q : α → Prop} (h1 : xs ≠ []) (h : ∀ x, x ∈ xs → Q x) : OkO (atI xs (-1)) Q := by
  have : xs = xs.dropLast ++ [xs.getLast h1] := (List.dropLast_concat_getLast h1).symm
  rw [this, atI_last, oko_some]
  exact h _ (List.getLast_mem h1)
theorem oko_lastm {f : α → D} (h1 : xs ≠ []) (h : ∀ x, x ∈ xs → Q (f x)) : OkO (atI (xs.map f) (-1)) Q := by
  refine oko_last (by simpa using h1) fun x hx => ?_
  obtain ⟨a, ha, rfl⟩ := List.mem_map.mp hx
  exact h a ha
theorem rng_ok {n : Nat} (h : n < 2 ^ 62) : small62 (n : Int) = true ∧ rangeD 0 ((n : Int).toNat) = rangeD 0 n := by
  refine ⟨?_, by rw [Int.toNat_natCast]⟩
  unfold small62
  rw [Bool.and_eq_true]
  exact ⟨decide_eq_true (by omega), decide_eq_true (by omega)⟩
theorem rng_okI {i : Int} (h0 : 0 ≤ i) (h : i < 2 ^ 62) : small62 i = true ∧ rangeD 0 i.toNat = rangeD 0 i.toNat := by
  refine ⟨?_, rfl⟩
  unfold small62
  rw [Bool.and_eq_true]
  exact ⟨decide_eq_true (by omega), decide_eq_true (by omega)⟩
theorem deq_strs : ∀ (a b : List (List Nat)), PyData.eqvAll (toPys (a.map .str)) (toPys (b.map .str)) = decide (a = b)
  | [], [] => by simp [toPys, PyData.eqvAll]
  | [], _ :: _ => by simp [toPys, PyData.eqvAll]
  | _ :: _, [] => by simp [toPys, PyData.eqvAll]
  | x :: a, y :: b => by
    have h1 := deq_str x y
    unfold deq at h1
    rw [List.map_cons, List.map_cons, toPys, toPys, PyData.eqvAll, h1, deq_strs a b]
    by_cases h : x = y <;> simp [h]
theorem deq_lstr (a b : List (List Nat)) : deq (.lst (a.map .str)) (.lst (b.map .str)) = decide (a = b) := by
  unfold deq
  rw [toPy, toPy, PyData.eqv]
  exact deq_strs a b
mutual
theorem deq_refl : ∀ d : D, ∀ n, pyOk n d = true → deq d d = true
  | .non, _, _ => by simp [deq, toPy, PyData.eqv]
  | .bl b, _, _ => by simp [deq, toPy, PyData.eqv]
  | .int i, _, _ => by rw [deq_int]; simp
  | .str s, _, _ => by rw [deq_str]; simp
  | .lst xs, n, h => by
    cases n with
    | zero => unfold pyOk at h; cases h
    | succ n =>
      unfold deq
      rw [toPy, PyData.eqv]
      exact deqs_refl xs n (by unfold pyOk at h; exact h)
  | .tup xs, n, h => by
    cases n with
    | zero => unfold pyOk at h; cases h
    | succ n =>
      unfold deq
      rw [toPy, PyData.eqv]
      exact deqs_refl xs n (by unfold pyOk at h; exact h)
  | .dic _, n, h => by cases n <;> (unfold pyOk at h; cases h)
  | .dit _, n, h => by cases n <;> (unfold pyOk at h; cases h)
  | .obj _ _, n, h => by cases n <;> (unfold pyOk at h; cases h)
  | .fn _, n, h => by cases n <;> (unfold pyOk at h; cases h)
  | .scr _, n, h => by cases n <;> (unfold pyOk at h; cases h)
  | .ty _, n, h => by cases n <;> (unfold pyOk at h; cases h)
theorem deqs_refl : ∀ ds : List D, ∀ n, ds.all (pyOk n) = true → PyData.eqvAll (toPys ds) (toPys ds) = true
  | [], _, _ => by simp [toPys, PyData.eqvAll]
  | d :: ds, n, h => by
    rw [List.all_cons, Bool.and_eq_true] at h
    have h1 := deq_refl d n h.1
    unfold deq at h1
    rw [toPys, PyData.eqvAll, h1, deqs_refl ds n h.2]
    rfl
end
theorem pyOk_str {n : Nat} {s : List Nat} : pyOk n (.str s) = true := by unfold pyOk; rfl
theorem pyOk_int {n : Nat} {s : Int} : pyOk n (.int s) = true := by unfold pyOk; rfl
theorem pyOk_bl {n : Nat} {s : Bool} : pyOk n (.bl s) = true := by unfold pyOk; rfl
theorem pyOk_non {n : Nat} : pyOk n .non = true := by unfold pyOk; rfl
theorem pyOk_lst {n : Nat} {ds : List D} (h : ∀ d ∈ ds, pyOk n d = true) : pyOk (n + 1) (.lst ds) = true := by unfold pyOk; exact List.all_eq_true.mpr h
theorem pyOk_tup {n : Nat} {ds : List D} (h : ∀ d ∈ ds, pyOk n d = true) : pyOk (n + 1) (.tup ds) = true := by unfold pyOk; exact List.all_eq_true.mpr h
theorem pyOk_strs {n : Nat} {l : List (List Nat)} : pyOk (n + 1) (.lst (l.map .str)) = true := pyOk_lst fun d hd => by
  obtain ⟨a, _, rfl⟩ := List.mem_map.mp hd
  exact pyOk_str
theorem pyOk_ints {n : Nat} {l : List Int} : pyOk (n + 1) (.lst (l.map .int)) = true := pyOk_lst fun d hd => by
  obtain ⟨a, _, rfl⟩ := List.mem_map.mp hd
  exact pyOk_int
theorem any_str (l : List (List Nat)) (s : List Nat) : ((l.map D.str).any fun z => deq z (.str s)) = decide (s ∈ l) := by
  rw [List.any_map]
  by_cases h : s ∈ l
  · rw [decide_eq_true h]
    exact List.any_eq_true.mpr ⟨s, h, by show deq (.str s) (.str s) = true; rw [deq_str]; simp⟩
  · rw [decide_eq_false h]
    refine List.any_eq_false.mpr fun x hx => ?_
    show ¬ deq (.str x) (.str s) = true
    rw [deq_str]
    simp only [decide_eq_true_eq]
    exact fun z => h (z ▸ hx)
theorem any_int (l : List Int) (s : Int) : ((l.map D.int).any fun z => deq z (.int s)) = decide (s ∈ l) := by
  rw [List.any_map]
  by_cases h : s ∈ l
  · rw [decide_eq_true h]
    exact List.any_eq_true.mpr ⟨s, h, by show deq (.int s) (.int s) = true; rw [deq_int]; simp⟩
  · rw [decide_eq_false h]
    refine List.any_eq_false.mpr fun x hx => ?_
    show ¬ deq (.int x) (.int s) = true
    rw [deq_int]
    simp only [decide_eq_true_eq]
    exact fun z => h (z ▸ hx)
theorem in_strs {QB : Bool → Prop} {l : List (List Nat)} {s : List Nat} : OkO (inD (.str s) (.lst (l.map .str))) QB = QB (decide (s ∈ l)) := by
  rw [in_l, any_str]
  exact propext ⟨fun h => h.2, fun h => ⟨by rw [pyOk_str, pyOk_strs]; rfl, h⟩⟩
theorem nin_strs {QB : Bool → Prop} {l : List (List Nat)} {s : List Nat} : OkO (ninD (.str s) (.lst (l.map .str))) QB = QB (!decide (s ∈ l)) := by
  unfold ninD
  rw [oko_map, in_strs]
theorem in_ints {QB : Bool → Prop} {l : List Int} {s : Int} : OkO (inD (.int s) (.lst (l.map .int))) QB = QB (decide (s ∈ l)) := by
  rw [in_l, any_int]
  exact propext ⟨fun h => h.2, fun h => ⟨by rw [pyOk_int, pyOk_ints]; rfl, h⟩⟩
theorem eq_strs {QB : Bool → Prop} {l l' : List (List Nat)} : OkO (eqD (.lst (l.map .str)) (.lst (l'.map .str))) QB = QB (decide (l = l')) := by
  rw [oko_eq, deq_lstr]
  exact propext ⟨fun h => h.2, fun h => ⟨by rw [pyOk_strs, pyOk_strs]; rfl, h⟩⟩
theorem ne_strs {QB : Bool → Prop} {l l' : List (List Nat)} : OkO (neD (.lst (l.map .str)) (.lst (l'.map .str))) QB = QB (!decide (l = l')) := by
  unfold neD
  rw [oko_map, eq_strs]
theorem eq_str {QB : Bool → Prop} {l l' : List Nat} : OkO (eqD (.str l) (.str l')) QB = QB (decide (l = l')) := by
  rw [oko_eq, deq_str]
  exact propext ⟨fun h => h.2, fun h => ⟨by rw [pyOk_str, pyOk_str]; rfl, h⟩⟩
theorem ne_str {QB : Bool → Prop} {l l' : List Nat} : OkO (neD (.str l) (.str l')) QB = QB (!decide (l = l')) := by
  unfold neD
  rw [oko_map, eq_str]
theorem eq_int {QB : Bool → Prop} {l l' : Int} : OkO (eqD (.int l) (.int l')) QB = QB (decide (l = l')) := by
  rw [oko_eq, deq_int]
  exact propext ⟨fun h => h.2, fun h => ⟨by rw [pyOk_int, pyOk_int]; rfl, h⟩⟩
theorem ne_int {QB : Bool → Prop} {l l' : Int} : OkO (neD (.int l) (.int l')) QB = QB (!decide (l = l')) := by
  unfold neD
  rw [oko_map, eq_int]
theorem deq_nil : ∀ ds : List D, deq (.lst ds) (.lst []) = ds.isEmpty
  | [] => by simp [deq, toPy, toPys, PyData.eqv, PyData.eqvAll]
  | d :: ds => by simp [deq, toPy, toPys, PyData.eqv, PyData.eqvAll]
theorem sortOk_ints (ns : List Int) : sortOk (ns.map .int) = true := by
  unfold sortOk
  have h1 : ((ns.map D.int).all fun d => (ns.map D.int).all fun e => PySem.W.alike (toPy d) (toPy e)) = true := by
    refine List.all_eq_true.mpr fun d hd => List.all_eq_true.mpr fun e he => ?_
    obtain ⟨a, _, rfl⟩ := List.mem_map.mp hd
    obtain ⟨b, _, rfl⟩ := List.mem_map.mp he
    rw [toPy, toPy, PySem.W.alike]
  have h2 : (ns.map D.int).all noTup = true := by
    refine List.all_eq_true.mpr fun d hd => ?_
    obtain ⟨a, _, rfl⟩ := List.mem_map.mp hd
    rfl
  have h3 : (ns.map D.int).all (pyOk 64) = true := by
    refine List.all_eq_true.mpr fun d hd => ?_
    obtain ⟨a, _, rfl⟩ := List.mem_map.mp hd
    exact pyOk_int
  rw [h1, h2, h3, Bool.or_true]
  rfl
theorem sortOk_strs (ns : List (List Nat)) : sortOk (ns.map .str) = true := by
  unfold sortOk
  have h1 : ((ns.map D.str).all fun d => (ns.map D.str).all fun e => PySem.W.alike (toPy d) (toPy e)) = true := by
    refine List.all_eq_true.mpr fun d hd => List.all_eq_true.mpr fun e he => ?_
    obtain ⟨a, _, rfl⟩ := List.mem_map.mp hd
    obtain ⟨b, _, rfl⟩ := List.mem_map.mp he
    rw [toPy, toPy, PySem.W.alike]
  have h2 : (ns.map D.str).all noTup = true := by
    refine List.all_eq_true.mpr fun d hd => ?_
    obtain ⟨a, _, rfl⟩ := List.mem_map.mp hd
    rfl
  have h3 : (ns.map D.str).all (pyOk 64) = true := by
    refine List.all_eq_true.mpr fun d hd => ?_
    obtain ⟨a, _, rfl⟩ := List.mem_map.mp hd
    exact pyOk_str
  rw [h1, h2, h3, Bool.or_true]
  rfl
theorem sorted_ints {ns : List Int} : OkO (sortedD [.lst (ns.map .int)]) Q = Q (.lst ((sortI ns).map .int)) := by
  rw [sorted_l, sortG_int]
  exact propext ⟨fun h => h.2, fun h => ⟨sortOk_ints ns, h⟩⟩
theorem sorted_strs {ns : List (List Nat)} : OkO (sortedD [.lst (ns.map .str)]) Q = Q (.lst ((sortS ns).map .str)) := by
  rw [sorted_l, sortG_str]
  exact propext ⟨fun h => h.2, fun h => ⟨sortOk_strs ns, h⟩⟩
theorem cutG_map {α β : Type} (f : α → β) (xs : List α) (lo hi : Option Int) : cutG (xs.map f) lo hi = (cutG xs lo hi).map f := by
  unfold cutG
  rw [List.length_map, ← List.map_drop, ← List.map_take]
end
theorem wipeD_nil {ρ : Env} : wipeD ρ [] = ρ := rfl
theorem wipeD_cons {ρ : Env} {v : Nat} {vs : List Nat} : wipeD ρ (v :: vs) = (wipeD ρ vs).set v none := rfl
theorem unmap {α : Type} {f : α → D} {P : α → Prop} : ∀ {rs : List D}, (∀ r ∈ rs, ∃ a, r = f a ∧ P a) → ∃ as : List α, rs = as.map f ∧ ∀ a ∈ as, P a
  | [], _ => ⟨[], rfl, fun _ h => by cases h⟩
  | r :: rs, h => by
    obtain ⟨a, e, p⟩ := h r List.mem_cons_self
    obtain ⟨as, e2, p2⟩ := unmap (f := f) (P := P) (rs := rs) fun r hr => h r (List.mem_cons_of_mem _ hr)
    exact ⟨a :: as, by rw [List.map_cons, ← e, ← e2], fun x hx => by
      rcases List.mem_cons.mp hx with e | hx
      · rw [e]; exact p
      · exact p2 x hx⟩
theorem lc_yes {ρ : Env} {E : Env → Res D} {G : D → Env → Option Env} {QL : List D → Prop} (P : D → Prop) : ∀ (as : List D), (∀ a ∈ as, OkO (G a ρ) fun ρ1 => Ok (E ρ1) P) → (∀ rs : List D, rs.length = as.length → (∀ r ∈ rs, P r) → QL rs) → Ok (lcF G bYes E as ρ) QL := by
  intro as h q
  have key : ∀ as : List D, (∀ a ∈ as, OkO (G a ρ) fun ρ1 => Ok (E ρ1) P) → ∃ rs, lcF G bYes E as ρ = .ok rs ∧ rs.length = as.length ∧ ∀ r ∈ rs, P r := by
    intro as
    induction as with
    | nil => intro _; exact ⟨[], rfl, rfl, fun r hr => by cases hr⟩
    | cons a as ih =>
      intro h
      have ha := h a List.mem_cons_self
      obtain ⟨rs, e1, e2, e3⟩ := ih fun b hb => h b (List.mem_cons_of_mem _ hb)
      unfold lcF
      cases q : G a ρ with
      | none => rw [q] at ha; with_unfolding_all exact ha.elim
      | some ρ1 =>
        rw [q, oko_some] at ha
        obtain ⟨r0, hr0, hR⟩ := ok_ex ha
        dsimp only
        refine ⟨r0 :: rs, ?_, congrArg (· + 1) e2, fun r hr => ?_⟩
        · show (noX (E ρ1)).bind _ = _
          rw [hr0, e1]
          rfl
        · rcases List.mem_cons.mp hr with e | hr
          · rw [e]; exact hR
          · exact e3 r hr
  obtain ⟨rs, e1, e2, e3⟩ := key as h
  exact ok_of e1 (q rs e2 e3)
theorem mem_range {n : Nat} {d : D} (h : d ∈ rangeD 0 n) : ∃ j : Nat, j < n ∧ d = .int j := by
  unfold rangeD at h
  obtain ⟨j, hj, rfl⟩ := List.mem_map.mp h
  exact ⟨j, List.mem_range.mp hj, by rw [Int.zero_add]⟩
theorem rangeD_len {lo : Int} {n : Nat} : (rangeD lo n).length = n := by
  unfold rangeD
  rw [List.length_map, List.length_range]
/-- '' or '!' -/
theorem oko_two {Q : D → Prop} {i : Int} (h0 : 0 ≤ i) (h1 : i < 2) (h : ∀ s, s = [] ∨ s = [33] → Q (.str s)) : OkO (atI [D.str [], D.str [33]] i) Q := by
  refine oko_ix h0 h1 fun x hx => ?_
  simp only [List.mem_cons, List.not_mem_nil, or_false] at hx
  rcases hx with rfl | rfl
  · exact h _ (.inl rfl)
  · exact h _ (.inr rfl)
theorem oko_lastg {α : Type} {Q : D → Prop} {xs : List α} {f : α → D} (h1 : xs ≠ []) : OkO (atI (xs.map f) (-1)) Q = Q (f (xs.getLast h1)) := by
  have e : xs.map f = (xs.dropLast.map f) ++ [f (xs.getLast h1)] := by
    rw [← List.map_singleton, ← List.map_append, List.dropLast_concat_getLast]
  rw [e, atI_last, oko_some]
theorem cutG_from {α : Type} (xs : List α) (k : Nat) : cutG xs (some (k : Int)) none = xs.drop k := by
  unfold cutG
  rw [HT.sIx_nat, HT.sIx_none]
  by_cases h : k ≤ xs.length
  · rw [Nat.min_eq_left h]
    exact List.take_of_length_le (by rw [List.length_drop]; omega)
  · rw [Nat.min_eq_right (by omega), List.drop_length, List.drop_eq_nil_of_le (by omega)]
    simp
theorem cutG_to {α : Type} (xs : List α) (k : Nat) : cutG xs none (some (k : Int)) = xs.take k := by
  unfold cutG
  rw [HT.sIx_nat, HT.sIx_none, List.drop_zero, Nat.sub_zero]
  by_cases h : k ≤ xs.length
  · rw [Nat.min_eq_left h]
  · rw [Nat.min_eq_right (by omega), List.take_length, List.take_of_length_le (by omega)]
theorem cutG_from1 {α : Type} (xs : List α) : cutG xs (some 1) none = xs.drop 1 := cutG_from xs 1
theorem cutG_to9 {α : Type} (xs : List α) : cutG xs none (some 9) = xs.take 9 := cutG_to xs 9
theorem cutG_to40 {α : Type} (xs : List α) : cutG xs none (some 40) = xs.take 40 := cutG_to xs 40
theorem cutG_to4 {α : Type} (xs : List α) : cutG xs none (some 4) = xs.take 4 := cutG_to xs 4
theorem cutG_fromS {α : Type} (xs : List α) (k : Nat) : cutG xs (some ((k : Int) + 1)) none = xs.drop (k + 1) := cutG_from xs (k + 1)
theorem atI_two0 {α : Type} (a b : α) : atI [a, b] 0 = some a := rfl
theorem atI_two1 {α : Type} (a b : α) : atI [a, b] 1 = some b := rfl
theorem eq_nilI {QB : Bool → Prop} {l : List Int} : OkO (eqD (.lst (l.map .int)) (.lst [])) QB = QB l.isEmpty := by
  rw [oko_eq, deq_nil]
  have h : (pyOk 64 (.lst (l.map .int)) && pyOk 64 (.lst [])) = true := by rw [pyOk_ints, pyOk_lst (n := 63) (ds := []) (fun d h => by cases h)]; rfl
  rw [List.isEmpty_map]
  exact propext ⟨fun q => q.2, fun q => ⟨h, q⟩⟩
theorem eq_nilS {QB : Bool → Prop} {l : List (List Nat)} : OkO (eqD (.lst (l.map .str)) (.lst [])) QB = QB l.isEmpty := by
  rw [oko_eq, deq_nil]
  have h : (pyOk 64 (.lst (l.map .str)) && pyOk 64 (.lst [])) = true := by rw [pyOk_strs, pyOk_lst (n := 63) (ds := []) (fun d h => by cases h)]; rfl
  rw [List.isEmpty_map]
  exact propext ⟨fun q => q.2, fun q => ⟨h, q⟩⟩
theorem ne_nilS {QB : Bool → Prop} {l : List (List Nat)} : OkO (neD (.lst (l.map .str)) (.lst [])) QB = QB (!l.isEmpty) := by
  unfold neD
  rw [oko_map, eq_nilS]
theorem repl_len {y : List Nat} : ∀ (l : List Nat) (k : Nat), (StrLaws.replS y [] k l).length ≤ l.length
  | [], _ => by rw [StrLaws.replS]; exact Nat.zero_le _
  | d :: l, 0 => by
    rw [StrLaws.replS]
    split
    · have := repl_len (y := y) l (y.length - 1)
      simp only [List.nil_append, List.length_cons]
      omega
    · have := repl_len (y := y) l 0
      simp only [List.length_cons]
      omega
  | d :: l, k + 1 => by
    rw [StrLaws.replS]
    have := repl_len (y := y) l k
    simp only [List.length_cons]
    omega
theorem filter_tt {α : Type} (l : List α) : (l.filter fun _ => true) = l := List.filter_eq_self.mpr fun _ _ => rfl
theorem isi_bb {Q : D → Prop} {b : Bool} : OkO (isiD [.bl b, .ty "bool"]) Q = Q (.bl true) := by
  have : isiD [.bl b, .ty "bool"] = some (.bl true) := by
    have h : kitB "bool" "bool" = some true := by decide +kernel
    show (kitB "bool" "bool").map D.bl = _
    rw [h]
    rfl
  rw [this, oko_some]
theorem isi_ib {Q : D → Prop} {b : Int} : OkO (isiD [.int b, .ty "bool"]) Q = Q (.bl false) := by
  have : isiD [.int b, .ty "bool"] = some (.bl false) := by
    have h : kitB "int" "bool" = some false := by decide +kernel
    show (kitB "int" "bool").map D.bl = _
    rw [h]
    rfl
  rw [this, oko_some]
theorem isi_ii {Q : D → Prop} {b : Int} : OkO (isiD [.int b, .ty "int"]) Q = Q (.bl true) := by
  have : isiD [.int b, .ty "int"] = some (.bl true) := by
    have h : kitB "int" "int" = some true := by decide +kernel
    show (kitB "int" "int").map D.bl = _
    rw [h]
    rfl
  rw [this, oko_some]
theorem deq_bl (a b : Bool) : deq (.bl a) (.bl b) = decide (a = b) := by
  unfold deq toPy PyData.eqv
  cases a <;> cases b <;> rfl
theorem eq_bl {QB : Bool → Prop} {a b : Bool} : OkO (eqD (.bl a) (.bl b)) QB = QB (decide (a = b)) := by
  rw [oko_eq, deq_bl]
  exact propext ⟨fun h => h.2, fun h => ⟨by rw [pyOk_bl, pyOk_bl]; rfl, h⟩⟩
theorem ne_bl {QB : Bool → Prop} {a b : Bool} : OkO (neD (.bl a) (.bl b)) QB = QB (!decide (a = b)) := by
  unfold neD
  rw [oko_map, eq_bl]
theorem atI_c0 {α : Type} (a : α) (l : List α) : atI (a :: l) 0 = some a := atI_nat (j := 0) rfl
theorem atI_c1 {α : Type} (a b : α) (l : List α) : atI (a :: b :: l) 1 = some b := atI_nat (j := 1) rfl
theorem sortG_map {α : Type} (en : α → D) (l : List α) : ∃ l' : List α, l'.Perm l ∧ sortG (l.map en) = l'.map en := by
  refine ⟨l.mergeSort fun a b => leG (en a) (en b), List.mergeSort_perm _ _, ?_⟩
  unfold sortG
  exact (List.map_mergeSort (r := fun a b => leG (en a) (en b)) (s := leG) (f := en) (fun a _ b _ => rfl)).symm
theorem sortOk_pairs (l : List (List Nat × List Nat)) : sortOk (l.map fun p => .tup [.str p.1, .str p.2]) = true := by
  unfold sortOk
  have mem : ∀ d ∈ (l.map fun p : List Nat × List Nat => D.tup [.str p.1, .str p.2]), ∃ p : List Nat × List Nat, d = .tup [.str p.1, .str p.2] := fun d hd => by
    obtain ⟨p, _, rfl⟩ := List.mem_map.mp hd
    exact ⟨p, rfl⟩
  have h1 : ((l.map fun p : List Nat × List Nat => D.tup [.str p.1, .str p.2]).all fun d => (l.map fun p : List Nat × List Nat => D.tup [.str p.1, .str p.2]).all fun e => PySem.W.alike (toPy d) (toPy e)) = true := by
    refine List.all_eq_true.mpr fun d hd => List.all_eq_true.mpr fun e he => ?_
    obtain ⟨a, rfl⟩ := mem d hd
    obtain ⟨b, rfl⟩ := mem e he
    simp [toPy, toPys, PySem.W.alike, PySem.W.alikeAll]
  have h2 : (l.map fun p : List Nat × List Nat => D.tup [.str p.1, .str p.2]).all tup1 = true := by
    refine List.all_eq_true.mpr fun d hd => ?_
    obtain ⟨a, rfl⟩ := mem d hd
    rfl
  have h3 : (l.map fun p : List Nat × List Nat => D.tup [.str p.1, .str p.2]).all (pyOk 64) = true := by
    refine List.all_eq_true.mpr fun d hd => ?_
    obtain ⟨a, rfl⟩ := mem d hd
    refine pyOk_tup (n := 63) fun e he => ?_
    simp only [List.mem_cons, List.not_mem_nil, or_false] at he
    rcases he with rfl | rfl <;> exact pyOk_str
  rw [h1, h2, h3]
  rfl
end Vl
namespace Vl.Kx
open PySem PySem.Spec PyProof.Rows L2
def topS (i : Nat) : Stmt := PySem.Challenge.pw_formsforall_k81_rules_that_hold.main.body.getD i (.Pass ⟨0, 0, 0, 0⟩)
def b_has_all : Env → Flw := (sSeq (sRet (eCall allD (aCons (eLc [2] (iLst (eVar 1)) (gN 2) bYes (eBin (cB inD) (eVar 2) (eVar 0))) aNil)))
 sNil)
def m_has_all : List D → Res D := runB .frz 3 b_has_all
theorem r_has_all {d0 d1 : D} {Q : D → Prop} : Ok (m_has_all [d0, d1]) Q = FW (b_has_all [some d0, some d1, none]) (fun _ => Q .non) Q (fun _ => False) fun _ => False := ok_run
def b__law_numbers : Env → Flw := (sSeq (sSet 3 (eBin mulD (eK (.int 1000003)) (eBin addD (eVar 1) (eK (.int 1)))))
 (sSeq (sIf (bCmp ltD (eVar 1) (eCall lenD (aCons (eVar 0) aNil))) (sSeq (sSet 3 (eCall intD (aCons (eBin ixD (eVar 0) (eVar 1)) aNil)))
 sNil) sNil)
 (sSeq (sIf (bCmp ltD (eVar 3) (eK (.int 0))) (sSeq (sSet 3 (eBin subD (eK (.int 1)) (eBin mulD (eK (.int 2)) (eVar 3))))
 sNil) sNil)
 (sSeq (sSet 4 (eLst aNil))
 (sSeq (sFor (iRng rng1 (aCons (eVar 2) aNil)) (gN 5) (sSeq (sIf (bCmp geD' (eVar 3) (eBin powD (eK (.int 10)) (eK (.int 18)))) (sSeq (sApp 4 (eBin modD (eVar 3) (eK (.int 1009))))
 (sSeq (sSet 3 (eBin divD (eVar 3) (eK (.int 1009))))
 sNil)) (sSeq (sSet 6 (eBin modD (eBin addD (eBin addD (eBin mulD (eVar 3) (eK (.int 48271))) (eBin mulD (eBin addD (eVar 5) (eK (.int 1))) (eK (.int 69621)))) (eBin mulD (eVar 1) (eK (.int 4001)))) (eK (.int 2147483647))))
 (sSeq (sSet 6 (eBin modD (eBin addD (eBin mulD (eVar 6) (eVar 6)) (eBin mulD (eK (.int 16807)) (eBin addD (eVar 5) (eK (.int 3))))) (eK (.int 2147483629))))
 (sSeq (sApp 4 (eBin modD (eBin divD (eVar 6) (eK (.int 7))) (eK (.int 1009))))
 sNil))))
 sNil))
 (sSeq (sRet (eVar 4))
 sNil))))))
def m__law_numbers : List D → Res D := runB .frz 7 b__law_numbers
theorem r__law_numbers {d0 d1 d2 : D} {Q : D → Prop} : Ok (m__law_numbers [d0, d1, d2]) Q = FW (b__law_numbers [some d0, some d1, some d2, none, none, none, none]) (fun _ => Q .non) Q (fun _ => False) fun _ => False := ok_run
def b__law_name : Env → Flw := (sSeq (sSet 3 (eK (.str [97, 98, 99, 100, 101, 102, 103, 104, 105, 106, 107, 108, 109, 110, 111, 112, 113, 114, 115, 116, 117, 118, 119, 120, 121, 122])))
 (sSeq (sSet 4 (eBin addD (eVar 3) (eK (.str [48, 49, 50, 51, 52, 53, 54, 55, 56, 57]))))
 (sSeq (sSet 5 (eBin ixD (eVar 3) (eBin modD (eVar 0) (eK (.int 26)))))
 (sSeq (sFor (iRng rng1 (aCons (eBin modD (eVar 1) (eK (.int 12))) aNil)) (gN 6) (sSeq (sSet 2 (eBin modD (eBin addD (eBin addD (eBin addD (eBin mulD (eVar 2) (eK (.int 8191))) (eVar 0)) (eBin mulD (eVar 6) (eK (.int 77)))) (eK (.int 5))) (eK (.int 1000003))))
 (sSeq (sSet 5 (eBin addD (eVar 5) (eBin ixD (eVar 4) (eBin modD (eVar 2) (eK (.int 36))))))
 sNil)))
 (sSeq (sRet (eVar 5))
 sNil)))))
def m__law_name : List D → Res D := runB .frz 7 b__law_name
theorem r__law_name {d0 d1 d2 : D} {Q : D → Prop} : Ok (m__law_name [d0, d1, d2]) Q = FW (b__law_name [some d0, some d1, some d2, none, none, none, none]) (fun _ => Q .non) Q (fun _ => False) fun _ => False := ok_run
def b__law_copy : Env → Flw := (sSeq (sRet (eLc [1] (iLst (eVar 0)) (gN 1) bYes (eTup (aCons (eBin ixD (eVar 1) (eK (.int 0))) (aCons (eCall listD (aCons (eBin ixD (eVar 1) (eK (.int 1))) aNil)) aNil)))))
 sNil)
def m__law_copy : List D → Res D := runB .frz 2 b__law_copy
theorem r__law_copy {d0 : D} {Q : D → Prop} : Ok (m__law_copy [d0]) Q = FW (b__law_copy [some d0, none]) (fun _ => Q .non) Q (fun _ => False) fun _ => False := ok_run
def b__law_against : Env → Flw := (sSeq (sSet 3 (eLst aNil))
 (sSeq (sFor (iLst (eVar 0)) (gN 4) (sSeq (sIf (bAnd (bCmp eqD (eLc [5] (iLst (eVar 1)) (gN 5) (bCmp ninD (eVar 5) (eBin ixD (eVar 4) (eK (.int 1)))) (eVar 5)) (eLst aNil)) (bCmp ninD (eVar 2) (eBin ixD (eVar 4) (eK (.int 1))))) (sSeq (sApp 3 (eBin ixD (eVar 4) (eK (.int 0))))
 sNil) sNil)
 sNil))
 (sSeq (sRet (eCall sortedD (aCons (eVar 3) aNil)))
 sNil)))
def m__law_against : List D → Res D := runB .frz 6 b__law_against
theorem r__law_against {d0 d1 d2 : D} {Q : D → Prop} : Ok (m__law_against [d0, d1, d2]) Q = FW (b__law_against [some d0, some d1, some d2, none, none, none]) (fun _ => Q .non) Q (fun _ => False) fun _ => False := ok_run
def b__law_lefts : Env → Flw := (sSeq (sSet 3 (eLst (aCons (eLst aNil) aNil)))
 (sSeq (sFor (iRng rng1 (aCons (eK (.int 5)) aNil)) (gN 4) (sSeq (sSet 5 (eLc [8] (iRng rng1 (aCons (eCall lenD (aCons (eVar 1) aNil)) aNil)) (gN 8) bYes (eBin addD (eBin ixD (eLst (aCons (eK (.str [])) (aCons (eK (.str [33])) aNil))) (eBin modD (eBin ixD (eVar 2) (eBin modD (eBin addD (eVar 4) (eVar 8)) (eK (.int 40)))) (eK (.int 2)))) (eBin ixD (eVar 1) (eVar 8)))))
 (sSeq (sIf (bAnd (bCmp neD (eVar 0) (eLst aNil)) (bCmp gtD (eVar 4) (eK (.int 0)))) (sSeq (sSet 5 (eCall listD (aCons (eBin ixD (eBin ixD (eVar 0) (eBin modD (eBin ixD (eVar 2) (eVar 4)) (eCall lenD (aCons (eVar 0) aNil)))) (eK (.int 1))) aNil)))
 sNil) sNil)
 (sSeq (sSet 6 (eSl slD (eLc [8] (iRng rng1 (aCons (eCall lenD (aCons (eVar 1) aNil)) aNil)) (gN 8) (bCmp ltD (eBin modD (eBin ixD (eVar 2) (eBin modD (eBin addD (eBin mulD (eK (.int 3)) (eVar 4)) (eVar 8)) (eK (.int 40)))) (eCall lenD (aCons (eVar 1) aNil))) (eK (.int 2))) (eBin ixD (eVar 5) (eVar 8))) pNone (pSome (eK (.int 4)))))
 (sSeq (sApp 3 (eVar 6))
 (sSeq (sIf (bAnd (bCmp neD (eVar 6) (eLst aNil)) (bCmp gtD (eVar 4) (eK (.int 2)))) (sSeq (sSet 7 (eUn (replD [33] []) (eBin ixD (eVar 6) (eK (.int 0)))))
 (sSeq (sIf (bCmp eqD (eBin ixD (eVar 6) (eK (.int 0))) (eVar 7)) (sSeq (sSet 7 (eBin addD (eK (.str [33])) (eVar 7)))
 sNil) sNil)
 (sSeq (sApp 3 (eBin addD (eLst (aCons (eVar 7) aNil)) (eSl slD (eVar 6) (pSome (eK (.int 1))) pNone)))
 sNil))) sNil)
 sNil))))))
 (sSeq (sRet (eVar 3))
 sNil)))
def m__law_lefts : List D → Res D := runB .frz 9 b__law_lefts
theorem r__law_lefts {d0 d1 d2 : D} {Q : D → Prop} : Ok (m__law_lefts [d0, d1, d2]) Q = FW (b__law_lefts [some d0, some d1, some d2, none, none, none, none, none, none]) (fun _ => Q .non) Q (fun _ => False) fun _ => False := ok_run
def b_against : Env → Flw := (sSeq (sRet (eCall sortedD (aCons (eLc [3, 4] (iLst (eVar 0)) (gT (gsCons (gN 3) (gsCons (gN 4) gsNil))) (bAnd (bTru (eFn m_has_all (aCons (eVar 4) (aCons (eVar 1) aNil)))) (bCmp ninD (eVar 2) (eVar 4))) (eVar 3)) aNil)))
 sNil)
def m_against : List D → Res D := runB .frz 5 b_against
theorem r_against {d0 d1 d2 : D} {Q : D → Prop} : Ok (m_against [d0, d1, d2]) Q = FW (b_against [some d0, some d1, some d2, none, none]) (fun _ => Q .non) Q (fun _ => False) fun _ => False := ok_run
def b__law_names : Env → Flw := (sSeq (sSet 2 (eK (.str [97, 98, 99, 100, 101, 102, 103, 104, 105, 106, 107, 108, 109, 110, 111, 112, 113, 114, 115, 116, 117, 118, 119, 120, 121, 122])))
 (sSeq (sSet 3 (eLst aNil))
 (sSeq (sFor (iRng rng1 (aCons (eVar 1) aNil)) (gN 4) (sSeq (sPar [5, 6, 7] (aCons (eBin ixD (eVar 0) (eBin mulD (eK (.int 3)) (eVar 4))) (aCons (eBin ixD (eVar 0) (eBin addD (eBin mulD (eK (.int 3)) (eVar 4)) (eK (.int 1)))) (aCons (eBin ixD (eVar 0) (eBin addD (eBin mulD (eK (.int 3)) (eVar 4)) (eK (.int 2)))) aNil))))
 (sSeq (sSet 8 (eFn m__law_name (aCons (eVar 5) (aCons (eVar 6) (aCons (eVar 7) aNil)))))
 (sSeq (sIf (bAnd (bCmp gtD (eVar 4) (eK (.int 0))) (bAnd (bCmp eqD (eBin modD (eVar 7) (eK (.int 3))) (eK (.int 0))) (bCmp ltD (eCall lenD (aCons (eBin ixD (eVar 3) (eUn negD (eK (.int 1)))) aNil)) (eK (.int 12))))) (sSeq (sSet 8 (eBin addD (eBin ixD (eVar 3) (eUn negD (eK (.int 1)))) (eBin ixD (eVar 8) (eUn negD (eK (.int 1))))))
 sNil) sNil)
 (sSeq (sFor (iRng rng1 (aCons (eK (.int 26)) aNil)) (gN 9) (sSeq (sIf (bCmp inD (eVar 8) (eVar 3)) (sSeq (sSet 8 (eBin addD (eBin ixD (eVar 2) (eBin modD (eBin addD (eVar 5) (eVar 9)) (eK (.int 26)))) (eSl slD (eVar 8) (pSome (eK (.int 1))) pNone)))
 sNil) sNil)
 sNil))
 (sSeq (sApp 3 (eVar 8))
 sNil))))))
 (sSeq (sRet (eVar 3))
 sNil))))
def m__law_names : List D → Res D := runB .frz 10 b__law_names
theorem r__law_names {d0 d1 : D} {Q : D → Prop} : Ok (m__law_names [d0, d1]) Q = FW (b__law_names [some d0, some d1, none, none, none, none, none, none, none, none]) (fun _ => Q .non) Q (fun _ => False) fun _ => False := ok_run
def b__law_received : Env → Flw := (sSeq (sSet 5 (eLst aNil))
 (sSeq (sSet 6 (eLst aNil))
 (sSeq (sFor (iRng rng1 (aCons (eVar 3) aNil)) (gN 7) (sSeq (sSet 8 (eFn m__law_numbers (aCons (eVar 0) (aCons (eBin addD (eVar 1) (eVar 7)) (aCons (eK (.int 41)) aNil)))))
 (sSeq (sSet 9 (eBin addD (eK (.int 1)) (eBin ixD (eVar 8) (eK (.int 40)))))
 (sSeq (sFor (iRng rng1 (aCons (eK (.int 200)) aNil)) (gN 10) (sSeq (sIf (bCmp inD (eVar 9) (eVar 6)) (sSeq (sSet 9 (eBin addD (eVar 9) (eK (.int 1))))
 sNil) sNil)
 sNil))
 (sSeq (sApp 6 (eVar 9))
 (sSeq (sSet 11 (eLc [14] (iRng rng1 (aCons (eCall lenD (aCons (eVar 2) aNil)) aNil)) (gN 14) bYes (eBin addD (eBin ixD (eLst (aCons (eK (.str [])) (aCons (eK (.str [33])) aNil))) (eBin modD (eBin ixD (eVar 8) (eVar 14)) (eK (.int 2)))) (eBin ixD (eVar 2) (eVar 14)))))
 (sSeq (sIf (bAnd (bCmp gtD (eVar 7) (eK (.int 0))) (bCmp ltD (eBin modD (eBin ixD (eVar 8) (eK (.int 39))) (eK (.int 3))) (eVar 4))) (sSeq (sSet 12 (eBin modD (eBin ixD (eVar 8) (eK (.int 38))) (eCall lenD (aCons (eVar 2) aNil))))
 (sSeq (sSet 13 (eBin ixD (eBin ixD (eVar 5) (eBin modD (eBin ixD (eVar 8) (eK (.int 37))) (eVar 7))) (eK (.int 1))))
 (sSeq (sSet 11 (eBin addD (eBin addD (eSl slD (eVar 13) pNone (pSome (eVar 12))) (eLst (aCons (eBin ixD (eVar 11) (eVar 12)) aNil))) (eSl slD (eVar 13) (pSome (eBin addD (eVar 12) (eK (.int 1)))) pNone)))
 sNil))) sNil)
 (sSeq (sApp 5 (eTup (aCons (eVar 9) (aCons (eVar 11) aNil))))
 sNil))))))))
 (sSeq (sRet (eVar 5))
 sNil))))
def m__law_received : List D → Res D := runB .frz 15 b__law_received
theorem r__law_received {d0 d1 d2 d3 d4 : D} {Q : D → Prop} : Ok (m__law_received [d0, d1, d2, d3, d4]) Q = FW (b__law_received [some d0, some d1, some d2, some d3, some d4, none, none, none, none, none, none, none, none, none, none]) (fun _ => Q .non) Q (fun _ => False) fun _ => False := ok_run
def b_holds : Env → Flw := (sSeq (sRet (eBin (cB eqD) (eFn m_against (aCons (eVar 0) (aCons (eVar 1) (aCons (eVar 2) aNil)))) (eLst aNil)))
 sNil)
def m_holds : List D → Res D := runB .frz 3 b_holds
theorem r_holds {d0 d1 d2 : D} {Q : D → Prop} : Ok (m_holds [d0, d1, d2]) Q = FW (b_holds [some d0, some d1, some d2]) (fun _ => Q .non) Q (fun _ => False) fun _ => False := ok_run
def b_counter : Env → Flw := (sSeq (sSet 3 (eFn m_against (aCons (eVar 0) (aCons (eVar 1) (aCons (eVar 2) aNil)))))
 (sSeq (sRet (eIf (bTru (eVar 3)) (eBin ixD (eVar 3) (eK (.int 0))) (eK .non)))
 sNil))
def m_counter : List D → Res D := runB .frz 4 b_counter
theorem r_counter {d0 d1 d2 : D} {Q : D → Prop} : Ok (m_counter [d0, d1, d2]) Q = FW (b_counter [some d0, some d1, some d2, none]) (fun _ => Q .non) Q (fun _ => False) fun _ => False := ok_run
def b__law_fields : Env → Flw := (sSeq (sSet 3 (eFn m__law_numbers (aCons (eVar 0) (aCons (eVar 1) (aCons (eK (.int 36)) aNil)))))
 (sSeq (sIf (bCmp leD' (eVar 2) (eK (.int 12))) (sSeq (sRet (eCall sortedD (aCons (eFn m__law_names (aCons (eVar 3) (aCons (eVar 2) aNil))) aNil)))
 sNil) sNil)
 (sSeq (sSet 4 (eLst aNil))
 (sSeq (sFor (iRng rng1 (aCons (eVar 2) aNil)) (gN 5) (sSeq (sSet 6 (eFn m__law_name (aCons (eBin ixD (eVar 3) (eBin modD (eVar 5) (eK (.int 36)))) (aCons (eBin ixD (eVar 3) (eBin modD (eBin addD (eVar 5) (eK (.int 7))) (eK (.int 36)))) (aCons (eBin addD (eBin ixD (eVar 3) (eBin modD (eBin addD (eBin mulD (eK (.int 5)) (eVar 5)) (eK (.int 3))) (eK (.int 36)))) (eVar 5)) aNil)))))
 (sSeq (sApp 4 (eBin addD (eSl slD (eVar 6) pNone (pSome (eK (.int 9)))) (eCall strD (aCons (eBin addD (eK (.int 10)) (eVar 5)) aNil))))
 sNil)))
 (sSeq (sRet (eCall sortedD (aCons (eVar 4) aNil)))
 sNil)))))
def m__law_fields : List D → Res D := runB .frz 7 b__law_fields
theorem r__law_fields {d0 d1 d2 : D} {Q : D → Prop} : Ok (m__law_fields [d0, d1, d2]) Q = FW (b__law_fields [some d0, some d1, some d2, none, none, none, none]) (fun _ => Q .non) Q (fun _ => False) fun _ => False := ok_run
def b__law_right : Env → Flw := (sSeq (sSet 4 (eCall listD (aCons (eVar 2) aNil)))
 (sSeq (sSet 5 (eFn m__law_against (aCons (eVar 1) (aCons (eVar 2) (aCons (eVar 3) aNil)))))
 (sSeq (sSet 6 (eFn m_holds (aCons (eVar 0) (aCons (eVar 4) (aCons (eVar 3) aNil)))))
 (sSeq (sIf (bOr (bNot (bTru (eCall isiD (aCons (eVar 6) (aCons (eK (.ty "bool")) aNil))))) (bOr (bCmp neD (eVar 6) (eBin (cB eqD) (eVar 5) (eLst aNil))) (bCmp neD (eVar 4) (eVar 2)))) (sSeq (sRet (eK (.bl false)))
 sNil) sNil)
 (sSeq (sSet 7 (eFn m_counter (aCons (eVar 0) (aCons (eVar 4) (aCons (eVar 3) aNil)))))
 (sSeq (sIf (bCmp eqD (eVar 5) (eLst aNil)) (sSeq (sRet (eBin (cB isNonD) (eVar 7) (eK .non)))
 sNil) sNil)
 (sSeq (sRet (eAnd (eCall isiD (aCons (eVar 7) (aCons (eK (.ty "int")) aNil))) (eAnd (eNot (eCall isiD (aCons (eVar 7) (aCons (eK (.ty "bool")) aNil)))) (eAnd (eBin (cB eqD) (eVar 7) (eBin ixD (eVar 5) (eK (.int 0)))) (eBin (cB eqD) (eVar 4) (eVar 2))))))
 sNil)))))))
def m__law_right : List D → Res D := runB .frz 8 b__law_right
theorem r__law_right {d0 d1 d2 d3 : D} {Q : D → Prop} : Ok (m__law_right [d0, d1, d2, d3]) Q = FW (b__law_right [some d0, some d1, some d2, some d3, none, none, none, none]) (fun _ => Q .non) Q (fun _ => False) fun _ => False := ok_run
def b_law : Env → Flw := (sSeq (sSet 1 (eFn m__law_numbers (aCons (eVar 0) (aCons (eK (.int 0)) (aCons (eK (.int 50)) aNil)))))
 (sSeq (sSet 2 (eBin addD (eK (.int 1)) (eBin modD (eBin ixD (eVar 1) (eK (.int 40))) (eK (.int 8)))))
 (sSeq (sIf (bCmp eqD (eBin modD (eBin ixD (eVar 1) (eK (.int 41))) (eK (.int 4))) (eK (.int 1))) (sSeq (sSet 2 (eK (.int 40)))
 sNil) sNil)
 (sSeq (sSet 3 (eFn m__law_fields (aCons (eVar 0) (aCons (eK (.int 1)) (aCons (eVar 2) aNil)))))
 (sSeq (sSet 4 (eFn m__law_received (aCons (eVar 0) (aCons (eK (.int 2)) (aCons (eVar 3) (aCons (eBin modD (eBin ixD (eVar 1) (eK (.int 42))) (eK (.int 31))) (aCons (eBin modD (eBin ixD (eVar 1) (eK (.int 43))) (eK (.int 4))) aNil)))))))
 (sSeq (sSet 5 (eFn m__law_copy (aCons (eVar 4) aNil)))
 (sSeq (sFor (iLst (eFn m__law_lefts (aCons (eVar 4) (aCons (eVar 3) (aCons (eSl slD (eVar 1) pNone (pSome (eK (.int 40)))) aNil))))) (gN 6) (sSeq (sSet 7 (eLc [13] (iLst (eVar 3)) (gN 13) (bAnd (bCmp ninD (eVar 13) (eVar 6)) (bCmp ninD (eBin addD (eK (.str [33])) (eVar 13)) (eVar 6))) (eVar 13)))
 (sSeq (sSet 8 (eLst aNil))
 (sSeq (sFor (iRng rng1 (aCons (eK (.int 3)) aNil)) (gN 9) (sSeq (sIf (bCmp neD (eVar 7) (eLst aNil)) (sSeq (sApp 8 (eBin addD (eBin ixD (eLst (aCons (eK (.str [])) (aCons (eK (.str [33])) aNil))) (eBin modD (eBin ixD (eVar 1) (eBin addD (eK (.int 44)) (eVar 9))) (eK (.int 2)))) (eBin ixD (eVar 7) (eBin modD (eBin divD (eBin ixD (eVar 1) (eBin addD (eK (.int 44)) (eVar 9))) (eK (.int 2))) (eCall lenD (aCons (eVar 7) aNil))))))
 sNil) sNil)
 sNil))
 (sSeq (sFor (iLst (eVar 8)) (gN 10) (sSeq (sIf (bNot (bTru (eFn m__law_right (aCons (eVar 5) (aCons (eVar 4) (aCons (eVar 6) (aCons (eVar 10) aNil))))))) (sSeq (sRet (eK (.bl false)))
 sNil) sNil)
 sNil))
 (sSeq (sIf (bAnd (bCmp gtD (eCall lenD (aCons (eVar 8) aNil)) (eK (.int 1))) (bCmp neD (eUn (replD [33] []) (eBin ixD (eVar 8) (eK (.int 0)))) (eUn (replD [33] []) (eBin ixD (eVar 8) (eK (.int 1)))))) (sSeq (sSet 11 (eCall sortedD (aCons (eLc [14] (iLst (eBin addD (eVar 6) (eLst (aCons (eBin ixD (eVar 8) (eK (.int 1))) aNil)))) (gN 14) bYes (eTup (aCons (eUn (replD [33] []) (eVar 14)) (aCons (eVar 14) aNil)))) aNil)))
 (sSeq (sSet 12 (eLc [15] (iLst (eVar 11)) (gN 15) bYes (eBin ixD (eVar 15) (eK (.int 1)))))
 (sSeq (sIf (bNot (bTru (eFn m__law_right (aCons (eVar 5) (aCons (eVar 4) (aCons (eVar 12) (aCons (eBin ixD (eVar 8) (eK (.int 0))) aNil))))))) (sSeq (sRet (eK (.bl false)))
 sNil) sNil)
 (sSeq (sIf (bAnd (bTru (eFn m_holds (aCons (eVar 5) (aCons (eCall listD (aCons (eVar 6) aNil)) (aCons (eBin ixD (eVar 8) (eK (.int 0))) aNil))))) (bNot (bTru (eFn m_holds (aCons (eVar 5) (aCons (eCall listD (aCons (eVar 12) aNil)) (aCons (eBin ixD (eVar 8) (eK (.int 0))) aNil))))))) (sSeq (sRet (eK (.bl false)))
 sNil) sNil)
 sNil)))) sNil)
 sNil))))))
 (sSeq (sRet (eBin (cB eqD) (eVar 5) (eVar 4)))
 sNil))))))))
def m_law : List D → Res D := runB .frz 16 b_law
theorem r_law {d0 : D} {Q : D → Prop} : Ok (m_law [d0]) Q = FW (b_law [some d0, none, none, none, none, none, none, none, none, none, none, none, none, none, none, none]) (fun _ => Q .non) Q (fun _ => False) fun _ => False := ok_run
section
variable {P : Program} {w : World} {K : PySem.W.Frag} {mg : Str → Option Value} {base : Heap}
abbrev t_has_all : Stmt := topS 1
theorem s_has_all : FnScope ["filling", "part", "answer"] ["filling", "part"] (defScope t_has_all) := ⟨rfl, rfl, rfl, by decide +kernel, rfl, by decide +kernel, by decide +kernel⟩
theorem d_has_all {f : Addr} {fd : FuncData} (Fu : L2.Fun K "has_all" "has_all" t_has_all f fd) (z_all : mg "all" = none) : FnT P w K mg base 1 f fd ["filling", "part"] (psp ⟨K, mg⟩ [.frz, .frz] .frz m_has_all) :=
 fn_ok (k := 0) (N := ["filling", "part", "answer"]) (ms := [.frz, .frz]) Fu s_has_all rfl (by decide) fun cdv Ar outer s H E I0 Bx => show DSs _ _ _ _ [.frz, .frz, .un] [.frz, .frz, .un] _ b_has_all from (dss_cons (F := [.frz, .frz, .un]) (F1 := [.frz, .frz, .un]) (ds_ret (de_blt (x := "all") (cd_all Bx.calm) rfl z_all bt_all (da_cons (DE.mono_b (DE.fz (de_lc (Ft := [.frz, .frz, .frz]) Bx.calm Bx.nd (di_list Bx.K (de_var 1 rfl (.inl rfl) rfl)) (blkOk_by (own := [("answer", 2)]) rfl) (by decide) (fun s1 H1 _ _ p1 I1 J1 => (dg_name (i := 2) (Bx.blk s1 H1 _ _ p1 I1 J1).nd rfl (.inl rfl) (.inr rfl) (by decide))) (fun s1 H1 _ _ p1 I1 J1 => dts_nil) (fun s1 H1 _ _ p1 I1 J1 => (de_cmp (opd_in (un65 (Bx.blk s1 H1 _ _ p1 I1 J1)) (Bx.blk s1 H1 _ _ p1 I1 J1).K) (de_var 2 rfl (.inl rfl) rfl) (de_var 0 rfl (.inr (.inl rfl)) rfl) rfl)) (fun _ => rfl)))) da_nil)) rfl)
 (dss_nil rfl))
abbrev t__law_numbers : Stmt := topS 7
theorem s__law_numbers : FnScope ["script", "at", "count", "cell", "numbers", "k", "mixed"] ["script", "at", "count"] (defScope t__law_numbers) := ⟨rfl, rfl, rfl, by decide +kernel, rfl, by decide +kernel, by decide +kernel⟩
theorem d__law_numbers {f : Addr} {fd : FuncData} (Fu : L2.Fun K "_law_numbers" "_law_numbers" t__law_numbers f fd) (z_len : mg "len" = none) (z_int : mg "int" = none) (z_range : mg "range" = none) : FnT P w K mg base 1 f fd ["script", "at", "count"] (psp ⟨K, mg⟩ [.frz, .frz, .frz] .frz m__law_numbers) :=
 fn_ok (k := 0) (N := ["script", "at", "count", "cell", "numbers", "k", "mixed"]) (ms := [.frz, .frz, .frz]) Fu s__law_numbers rfl (by decide) fun cdv Ar outer s H E I0 Bx => show DSs _ _ _ _ [.frz, .frz, .frz, .un, .un, .un, .un] [.frz, .frz, .frz, .un, .un, .un, .un] _ b__law_numbers from (dss_cons (F := [.frz, .frz, .frz, .un, .un, .un, .un]) (F1 := [.frz, .frz, .frz, .frz, .un, .un, .un]) (ds_set (i := 3) Bx.nd rfl (.inl rfl) (.inr rfl) (de_bin opd_mul de_int (de_bin opd_add (de_var 1 rfl (.inl rfl) rfl) de_int)) (by decide) rfl rfl)
 (dss_cons (F := [.frz, .frz, .frz, .frz, .un, .un, .un]) (F1 := [.frz, .frz, .frz, .frz, .un, .un, .un]) (ds_if (dt_cmp (opd_lt) (de_var 1 rfl (.inl rfl) rfl) (de_blt (x := "len") (cd_len Bx.K) rfl z_len bt_len (da_cons (de_var 0 rfl (.inl rfl) rfl) da_nil)) rfl) (dss_cons (F := [.frz, .frz, .frz, .frz, .un, .un, .un]) (F1 := [.frz, .frz, .frz, .frz, .un, .un, .un]) (ds_set (i := 3) Bx.nd rfl (.inl rfl) (.inr rfl) (de_ty (x := "int") cd_int rfl z_int bt_int (da_cons (de_ix Bx.K (de_var 0 rfl (.inl rfl) rfl) (de_var 1 rfl (.inl rfl) rfl) (fun _ _ => rfl)) da_nil)) (by decide) rfl rfl)
 (dss_nil rfl)) (dss_nil rfl) rfl)
 (dss_cons (F := [.frz, .frz, .frz, .frz, .un, .un, .un]) (F1 := [.frz, .frz, .frz, .frz, .un, .un, .un]) (ds_if (dt_cmp (opd_lt) (de_var 3 rfl (.inl rfl) rfl) de_int rfl) (dss_cons (F := [.frz, .frz, .frz, .frz, .un, .un, .un]) (F1 := [.frz, .frz, .frz, .frz, .un, .un, .un]) (ds_set (i := 3) Bx.nd rfl (.inl rfl) (.inr rfl) (de_bin opd_sub de_int (de_bin opd_mul de_int (de_var 3 rfl (.inl rfl) rfl))) (by decide) rfl rfl)
 (dss_nil rfl)) (dss_nil rfl) rfl)
 (dss_cons (F := [.frz, .frz, .frz, .frz, .un, .un, .un]) (F1 := [.frz, .frz, .frz, .frz, .own, .un, .un]) (ds_setOwn (i := 4) Bx.nd rfl (.inl rfl) (.inr rfl) (de_lst da_nil) (by decide) rfl rfl)
 (dss_cons (F := [.frz, .frz, .frz, .frz, .own, .un, .un]) (F1 := [.frz, .frz, .frz, .frz, .own, .un, .un]) (ds_for (Fh := [.frz, .frz, .frz, .frz, .own, .un, .un]) (Ft := [.frz, .frz, .frz, .frz, .own, .frz, .un]) (Fe := [.frz, .frz, .frz, .frz, .own, .un, .un]) Bx (di_range1 rfl z_range (da_cons (de_var 2 rfl (.inl rfl) rfl) da_nil) rfl) (dg_name (i := 5) Bx.nd rfl (.inl rfl) (.inr rfl) (by decide)) (dss_cons (F := [.frz, .frz, .frz, .frz, .own, .frz, .un]) (F1 := [.frz, .frz, .frz, .frz, .own, .frz, .un]) (ds_if (dt_cmp (opd_ge) (de_var 3 rfl (.inl rfl) rfl) (de_bin opd_pow de_int de_int) rfl) (dss_cons (F := [.frz, .frz, .frz, .frz, .own, .frz, .un]) (F1 := [.frz, .frz, .frz, .frz, .own, .frz, .un]) (ds_app (i := 4) rfl (.inl rfl) rfl (de_bin opd_mod (de_var 3 rfl (.inl rfl) rfl) de_int) rfl Bx.K rfl rfl rfl)
 (dss_cons (F := [.frz, .frz, .frz, .frz, .own, .frz, .un]) (F1 := [.frz, .frz, .frz, .frz, .own, .frz, .un]) (ds_set (i := 3) Bx.nd rfl (.inl rfl) (.inr rfl) (de_bin opd_div (de_var 3 rfl (.inl rfl) rfl) de_int) (by decide) rfl rfl)
 (dss_nil rfl))) (dss_cons (F := [.frz, .frz, .frz, .frz, .own, .frz, .un]) (F1 := [.frz, .frz, .frz, .frz, .own, .frz, .frz]) (ds_set (i := 6) Bx.nd rfl (.inl rfl) (.inr rfl) (de_bin opd_mod (de_bin opd_add (de_bin opd_add (de_bin opd_mul (de_var 3 rfl (.inl rfl) rfl) de_int) (de_bin opd_mul (de_bin opd_add (de_var 5 rfl (.inl rfl) rfl) de_int) de_int)) (de_bin opd_mul (de_var 1 rfl (.inl rfl) rfl) de_int)) de_int) (by decide) rfl rfl)
 (dss_cons (F := [.frz, .frz, .frz, .frz, .own, .frz, .frz]) (F1 := [.frz, .frz, .frz, .frz, .own, .frz, .frz]) (ds_set (i := 6) Bx.nd rfl (.inl rfl) (.inr rfl) (de_bin opd_mod (de_bin opd_add (de_bin opd_mul (de_var 6 rfl (.inl rfl) rfl) (de_var 6 rfl (.inl rfl) rfl)) (de_bin opd_mul de_int (de_bin opd_add (de_var 5 rfl (.inl rfl) rfl) de_int))) de_int) (by decide) rfl rfl)
 (dss_cons (F := [.frz, .frz, .frz, .frz, .own, .frz, .frz]) (F1 := [.frz, .frz, .frz, .frz, .own, .frz, .frz]) (ds_app (i := 4) rfl (.inl rfl) rfl (de_bin opd_mod (de_bin opd_div (de_var 6 rfl (.inl rfl) rfl) de_int) de_int) rfl Bx.K rfl rfl rfl)
 (dss_nil rfl)))) rfl)
 (dss_nil rfl)) rfl rfl rfl (fun _ => rfl))
 (DSs.pre (F1 := [.frz, .frz, .frz, .frz, .frz, .un, .un]) rfl (dss_cons (F := [.frz, .frz, .frz, .frz, .frz, .un, .un]) (F1 := [.frz, .frz, .frz, .un, .un, .un, .un]) (ds_ret (de_var 4 rfl (.inl rfl) rfl) rfl)
 (dss_nil rfl))))))))
abbrev t__law_name : Stmt := topS 8
theorem s__law_name : FnScope ["first", "size", "mix", "letters", "signs", "name", "k"] ["first", "size", "mix"] (defScope t__law_name) := ⟨rfl, rfl, rfl, by decide +kernel, rfl, by decide +kernel, by decide +kernel⟩
theorem d__law_name {f : Addr} {fd : FuncData} (Fu : L2.Fun K "_law_name" "_law_name" t__law_name f fd) (z_range : mg "range" = none) : FnT P w K mg base 1 f fd ["first", "size", "mix"] (psp ⟨K, mg⟩ [.frz, .frz, .frz] .frz m__law_name) :=
 fn_ok (k := 0) (N := ["first", "size", "mix", "letters", "signs", "name", "k"]) (ms := [.frz, .frz, .frz]) Fu s__law_name rfl (by decide) fun cdv Ar outer s H E I0 Bx => show DSs _ _ _ _ [.frz, .frz, .frz, .un, .un, .un, .un] [.frz, .frz, .frz, .un, .un, .un, .un] _ b__law_name from (dss_cons (F := [.frz, .frz, .frz, .un, .un, .un, .un]) (F1 := [.frz, .frz, .frz, .frz, .un, .un, .un]) (ds_set (i := 3) Bx.nd rfl (.inl rfl) (.inr rfl) (de_str (s := [97, 98, 99, 100, 101, 102, 103, 104, 105, 106, 107, 108, 109, 110, 111, 112, 113, 114, 115, 116, 117, 118, 119, 120, 121, 122])) (by decide) rfl rfl)
 (dss_cons (F := [.frz, .frz, .frz, .frz, .un, .un, .un]) (F1 := [.frz, .frz, .frz, .frz, .frz, .un, .un]) (ds_set (i := 4) Bx.nd rfl (.inl rfl) (.inr rfl) (de_bin opd_add (de_var 3 rfl (.inl rfl) rfl) (de_str (s := [48, 49, 50, 51, 52, 53, 54, 55, 56, 57]))) (by decide) rfl rfl)
 (dss_cons (F := [.frz, .frz, .frz, .frz, .frz, .un, .un]) (F1 := [.frz, .frz, .frz, .frz, .frz, .frz, .un]) (ds_set (i := 5) Bx.nd rfl (.inl rfl) (.inr rfl) (de_ix Bx.K (de_var 3 rfl (.inl rfl) rfl) (de_bin opd_mod (de_var 0 rfl (.inl rfl) rfl) de_int) (fun _ _ => rfl)) (by decide) rfl rfl)
 (dss_cons (F := [.frz, .frz, .frz, .frz, .frz, .frz, .un]) (F1 := [.frz, .frz, .frz, .frz, .frz, .frz, .un]) (ds_for (Fh := [.frz, .frz, .frz, .frz, .frz, .frz, .un]) (Ft := [.frz, .frz, .frz, .frz, .frz, .frz, .frz]) (Fe := [.frz, .frz, .frz, .frz, .frz, .frz, .un]) Bx (di_range1 rfl z_range (da_cons (de_bin opd_mod (de_var 1 rfl (.inl rfl) rfl) de_int) da_nil) rfl) (dg_name (i := 6) Bx.nd rfl (.inl rfl) (.inr rfl) (by decide)) (dss_cons (F := [.frz, .frz, .frz, .frz, .frz, .frz, .frz]) (F1 := [.frz, .frz, .frz, .frz, .frz, .frz, .frz]) (ds_set (i := 2) Bx.nd rfl (.inl rfl) (.inr rfl) (de_bin opd_mod (de_bin opd_add (de_bin opd_add (de_bin opd_add (de_bin opd_mul (de_var 2 rfl (.inl rfl) rfl) de_int) (de_var 0 rfl (.inl rfl) rfl)) (de_bin opd_mul (de_var 6 rfl (.inl rfl) rfl) de_int)) de_int) de_int) (by decide) rfl rfl)
 (dss_cons (F := [.frz, .frz, .frz, .frz, .frz, .frz, .frz]) (F1 := [.frz, .frz, .frz, .frz, .frz, .frz, .frz]) (ds_set (i := 5) Bx.nd rfl (.inl rfl) (.inr rfl) (de_bin opd_add (de_var 5 rfl (.inl rfl) rfl) (de_ix Bx.K (de_var 4 rfl (.inl rfl) rfl) (de_bin opd_mod (de_var 2 rfl (.inl rfl) rfl) de_int) (fun _ _ => rfl))) (by decide) rfl rfl)
 (dss_nil rfl))) rfl rfl rfl (fun _ => rfl))
 (dss_cons (F := [.frz, .frz, .frz, .frz, .frz, .frz, .un]) (F1 := [.frz, .frz, .frz, .un, .un, .un, .un]) (ds_ret (de_var 5 rfl (.inl rfl) rfl) rfl)
 (dss_nil rfl))))))
abbrev t__law_copy : Stmt := topS 12
theorem s__law_copy : FnScope ["received", "one"] ["received"] (defScope t__law_copy) := ⟨rfl, rfl, rfl, by decide +kernel, rfl, by decide +kernel, by decide +kernel⟩
theorem d__law_copy {f : Addr} {fd : FuncData} (Fu : L2.Fun K "_law_copy" "_law_copy" t__law_copy f fd) (z_list : mg "list" = none) : FnT P w K mg base 1 f fd ["received"] (psp ⟨K, mg⟩ [.frz] .frz m__law_copy) :=
 fn_ok (k := 0) (N := ["received", "one"]) (ms := [.frz]) Fu s__law_copy rfl (by decide) fun cdv Ar outer s H E I0 Bx => show DSs _ _ _ _ [.frz, .un] [.frz, .un] _ b__law_copy from (dss_cons (F := [.frz, .un]) (F1 := [.frz, .un]) (ds_ret (DE.fz (de_lc (Ft := [.frz, .frz]) Bx.calm Bx.nd (di_list Bx.K (de_var 0 rfl (.inl rfl) rfl)) (blkOk_by (own := [("one", 1)]) rfl) (by decide) (fun s1 H1 _ _ p1 I1 J1 => (dg_name (i := 1) (Bx.blk s1 H1 _ _ p1 I1 J1).nd rfl (.inl rfl) (.inr rfl) (by decide))) (fun s1 H1 _ _ p1 I1 J1 => dts_nil) (fun s1 H1 _ _ p1 I1 J1 => (de_tup (da_cons (de_ix (Bx.blk s1 H1 _ _ p1 I1 J1).K (de_var 1 rfl (.inl rfl) rfl) de_int (fun _ _ => rfl)) (da_cons (DE.fz (de_ty (x := "list") (cd_list (Bx.blk s1 H1 _ _ p1 I1 J1).K) rfl z_list bt_list (da_cons (de_ix (Bx.blk s1 H1 _ _ p1 I1 J1).K (de_var 1 rfl (.inl rfl) rfl) de_int (fun _ _ => rfl)) da_nil))) da_nil)))) (fun _ => rfl))) rfl)
 (dss_nil rfl))
abbrev t__law_against : Stmt := topS 13
theorem s__law_against : FnScope ["received", "left", "right", "found", "one", "answer"] ["received", "left", "right"] (defScope t__law_against) := ⟨rfl, rfl, rfl, by decide +kernel, rfl, by decide +kernel, by decide +kernel⟩
theorem d__law_against {f : Addr} {fd : FuncData} (Fu : L2.Fun K "_law_against" "_law_against" t__law_against f fd) (z_sorted : mg "sorted" = none) : FnT P w K mg base 1 f fd ["received", "left", "right"] (psp ⟨K, mg⟩ [.frz, .frz, .frz] .frz m__law_against) :=
 fn_ok (k := 0) (N := ["received", "left", "right", "found", "one", "answer"]) (ms := [.frz, .frz, .frz]) Fu s__law_against rfl (by decide) fun cdv Ar outer s H E I0 Bx => show DSs _ _ _ _ [.frz, .frz, .frz, .un, .un, .un] [.frz, .frz, .frz, .un, .un, .un] _ b__law_against from (dss_cons (F := [.frz, .frz, .frz, .un, .un, .un]) (F1 := [.frz, .frz, .frz, .own, .un, .un]) (ds_setOwn (i := 3) Bx.nd rfl (.inl rfl) (.inr rfl) (de_lst da_nil) (by decide) rfl rfl)
 (dss_cons (F := [.frz, .frz, .frz, .own, .un, .un]) (F1 := [.frz, .frz, .frz, .own, .un, .un]) (ds_for (Fh := [.frz, .frz, .frz, .own, .un, .un]) (Ft := [.frz, .frz, .frz, .own, .frz, .un]) (Fe := [.frz, .frz, .frz, .own, .un, .un]) Bx (di_list Bx.K (de_var 0 rfl (.inl rfl) rfl)) (dg_name (i := 4) Bx.nd rfl (.inr rfl) (.inl rfl) (by decide)) (dss_cons (F := [.frz, .frz, .frz, .own, .frz, .un]) (F1 := [.frz, .frz, .frz, .own, .frz, .un]) (ds_if (dt_bool (dw_and (dt_cmp (opd_eq (un64 Bx) Bx.K) (de_lc (Ft := [.frz, .frz, .frz, .bor, .frz, .frz]) Bx.calm Bx.nd (di_list Bx.K (de_var 1 rfl (.inl rfl) rfl)) (blkOk_by (own := [("answer", 5)]) rfl) (by decide) (fun s1 H1 _ _ p1 I1 J1 => (dg_name (i := 5) (Bx.blk s1 H1 _ _ p1 I1 J1).nd rfl (.inl rfl) (.inr rfl) (by decide))) (fun s1 H1 _ _ p1 I1 J1 => (dts_one (dt_cmp (opd_nin (un65 (Bx.blk s1 H1 _ _ p1 I1 J1)) (Bx.blk s1 H1 _ _ p1 I1 J1).K) (de_var 5 rfl (.inl rfl) rfl) (de_ix (Bx.blk s1 H1 _ _ p1 I1 J1).K (de_var 4 rfl (.inr (.inl rfl)) rfl) de_int (fun _ _ => rfl)) rfl))) (fun s1 H1 _ _ p1 I1 J1 => (de_var 5 rfl (.inl rfl) rfl)) (fun _ => rfl)) (de_lst da_nil) rfl) (dw_and1 (dt_cmp (opd_nin (un65 Bx) Bx.K) (de_var 2 rfl (.inl rfl) rfl) (de_ix Bx.K (de_var 4 rfl (.inr (.inl rfl)) rfl) de_int (fun _ _ => rfl)) rfl)))) (dss_cons (F := [.frz, .frz, .frz, .own, .frz, .un]) (F1 := [.frz, .frz, .frz, .own, .frz, .un]) (ds_app (i := 3) rfl (.inl rfl) rfl (de_ix Bx.K (de_var 4 rfl (.inr (.inl rfl)) rfl) de_int (fun _ _ => rfl)) rfl Bx.K rfl rfl rfl)
 (dss_nil rfl)) (dss_nil rfl) rfl)
 (dss_nil rfl)) rfl rfl rfl (fun _ => rfl))
 (dss_cons (F := [.frz, .frz, .frz, .own, .un, .un]) (F1 := [.frz, .frz, .frz, .un, .un, .un]) (ds_ret (DE.fz (de_blt (x := "sorted") (cd_sort Bx.K (un70 Bx)) rfl z_sorted bt_sorted (da_cons (db_var 3 rfl (.inl rfl) (by decide)) da_nil))) rfl)
 (dss_nil rfl))))
abbrev t__law_lefts : Stmt := topS 15
theorem s__law_lefts : FnScope ["received", "fields", "n", "found", "k", "base", "part", "first", "j"] ["received", "fields", "n"] (defScope t__law_lefts) := ⟨rfl, rfl, rfl, by decide +kernel, rfl, by decide +kernel, by decide +kernel⟩
theorem d__law_lefts {f : Addr} {fd : FuncData} (Fu : L2.Fun K "_law_lefts" "_law_lefts" t__law_lefts f fd) (z_range : mg "range" = none) (z_len : mg "len" = none) (z_list : mg "list" = none) : FnT P w K mg base 1 f fd ["received", "fields", "n"] (psp ⟨K, mg⟩ [.frz, .frz, .frz] .frz m__law_lefts) :=
 fn_ok (k := 0) (N := ["received", "fields", "n", "found", "k", "base", "part", "first", "j"]) (ms := [.frz, .frz, .frz]) Fu s__law_lefts rfl (by decide) fun cdv Ar outer s H E I0 Bx => show DSs _ _ _ _ [.frz, .frz, .frz, .un, .un, .un, .un, .un, .un] [.frz, .frz, .frz, .un, .un, .un, .un, .un, .un] _ b__law_lefts from (dss_cons (F := [.frz, .frz, .frz, .un, .un, .un, .un, .un, .un]) (F1 := [.frz, .frz, .frz, .own, .un, .un, .un, .un, .un]) (ds_setOwn (i := 3) Bx.nd rfl (.inl rfl) (.inr rfl) (de_lst (da_cons (DE.fz (de_lst da_nil)) da_nil)) (by decide) rfl rfl)
 (dss_cons (F := [.frz, .frz, .frz, .own, .un, .un, .un, .un, .un]) (F1 := [.frz, .frz, .frz, .own, .un, .un, .un, .un, .un]) (ds_for (Fh := [.frz, .frz, .frz, .own, .un, .un, .un, .un, .un]) (Ft := [.frz, .frz, .frz, .own, .frz, .un, .un, .un, .un]) (Fe := [.frz, .frz, .frz, .own, .un, .un, .un, .un, .un]) Bx (di_range1 rfl z_range (da_cons de_int da_nil) rfl) (dg_name (i := 4) Bx.nd rfl (.inr rfl) (.inl rfl) (by decide)) (dss_cons (F := [.frz, .frz, .frz, .own, .frz, .un, .un, .un, .un]) (F1 := [.frz, .frz, .frz, .own, .frz, .frz, .un, .un, .un]) (ds_set (i := 5) Bx.nd rfl (.inr rfl) (.inl rfl) (DE.fz (de_lc (Ft := [.frz, .frz, .frz, .bor, .frz, .un, .un, .un, .frz]) Bx.calm Bx.nd (di_range1 rfl z_range (da_cons (de_blt (x := "len") (cd_len Bx.K) rfl z_len bt_len (da_cons (de_var 1 rfl (.inr (.inl rfl)) rfl) da_nil)) da_nil) rfl) (blkOk_by (own := [("j", 8)]) rfl) (by decide) (fun s1 H1 _ _ p1 I1 J1 => (dg_name (i := 8) (Bx.blk s1 H1 _ _ p1 I1 J1).nd rfl (.inl rfl) (.inr rfl) (by decide))) (fun s1 H1 _ _ p1 I1 J1 => dts_nil) (fun s1 H1 _ _ p1 I1 J1 => (de_bin opd_add (de_ix (Bx.blk s1 H1 _ _ p1 I1 J1).K (de_lst (da_cons (de_str (s := [])) (da_cons (de_str (s := [33])) da_nil))) (de_bin opd_mod (de_ix (Bx.blk s1 H1 _ _ p1 I1 J1).K (de_var 2 rfl (.inr (.inl rfl)) rfl) (de_bin opd_mod (de_bin opd_add (de_var 4 rfl (.inr (.inl rfl)) rfl) (de_var 8 rfl (.inl rfl) rfl)) de_int) (fun _ _ => rfl)) de_int) (fun _ _ => rfl)) (de_ix (Bx.blk s1 H1 _ _ p1 I1 J1).K (de_var 1 rfl (.inr (.inl rfl)) rfl) (de_var 8 rfl (.inl rfl) rfl) (fun _ _ => rfl)))) (fun _ => rfl))) (by decide) rfl rfl)
 (dss_cons (F := [.frz, .frz, .frz, .own, .frz, .frz, .un, .un, .un]) (F1 := [.frz, .frz, .frz, .own, .frz, .frz, .un, .un, .un]) (ds_if (dt_bool (dw_and (dt_cmp (opd_ne (un64 Bx) Bx.K) (de_var 0 rfl (.inl rfl) rfl) (de_lst da_nil) rfl) (dw_and1 (dt_cmp (opd_gt) (de_var 4 rfl (.inr (.inl rfl)) rfl) de_int rfl)))) (dss_cons (F := [.frz, .frz, .frz, .own, .frz, .frz, .un, .un, .un]) (F1 := [.frz, .frz, .frz, .own, .frz, .frz, .un, .un, .un]) (ds_set (i := 5) Bx.nd rfl (.inr rfl) (.inl rfl) (DE.fz (de_ty (x := "list") (cd_list Bx.K) rfl z_list bt_list (da_cons (de_ix Bx.K (de_ix Bx.K (de_var 0 rfl (.inl rfl) rfl) (de_bin opd_mod (de_ix Bx.K (de_var 2 rfl (.inr (.inl rfl)) rfl) (de_var 4 rfl (.inr (.inl rfl)) rfl) (fun _ _ => rfl)) (de_blt (x := "len") (cd_len Bx.K) rfl z_len bt_len (da_cons (de_var 0 rfl (.inl rfl) rfl) da_nil))) (fun _ _ => rfl)) de_int (fun _ _ => rfl)) da_nil))) (by decide) rfl rfl)
 (dss_nil rfl)) (dss_nil rfl) rfl)
 (dss_cons (F := [.frz, .frz, .frz, .own, .frz, .frz, .un, .un, .un]) (F1 := [.frz, .frz, .frz, .own, .frz, .frz, .frz, .un, .un]) (ds_set (i := 6) Bx.nd rfl (.inl rfl) (.inr rfl) (de_sl Bx.K (de_lc (Ft := [.frz, .frz, .frz, .bor, .frz, .frz, .un, .un, .frz]) Bx.calm Bx.nd (di_range1 rfl z_range (da_cons (de_blt (x := "len") (cd_len Bx.K) rfl z_len bt_len (da_cons (de_var 1 rfl (.inr (.inl rfl)) rfl) da_nil)) da_nil) rfl) (blkOk_by (own := [("j", 8)]) rfl) (by decide) (fun s2 H2 _ _ p2 I2 J2 => (dg_name (i := 8) (Bx.blk s2 H2 _ _ p2 I2 J2).nd rfl (.inl rfl) (.inr rfl) (by decide))) (fun s2 H2 _ _ p2 I2 J2 => (dts_one (dt_cmp (opd_lt) (de_bin opd_mod (de_ix (Bx.blk s2 H2 _ _ p2 I2 J2).K (de_var 2 rfl (.inr (.inl rfl)) rfl) (de_bin opd_mod (de_bin opd_add (de_bin opd_mul de_int (de_var 4 rfl (.inr (.inl rfl)) rfl)) (de_var 8 rfl (.inl rfl) rfl)) de_int) (fun _ _ => rfl)) (de_blt (x := "len") (cd_len (Bx.blk s2 H2 _ _ p2 I2 J2).K) rfl z_len bt_len (da_cons (de_var 1 rfl (.inr (.inl rfl)) rfl) da_nil))) de_int rfl))) (fun s2 H2 _ _ p2 I2 J2 => (de_ix (Bx.blk s2 H2 _ _ p2 I2 J2).K (de_var 5 rfl (.inr (.inl rfl)) rfl) (de_var 8 rfl (.inl rfl) rfl) (fun _ _ => rfl))) (fun _ => rfl)) dp_none (dp_some de_int)) (by decide) rfl rfl)
 (dss_cons (F := [.frz, .frz, .frz, .own, .frz, .frz, .frz, .un, .un]) (F1 := [.frz, .frz, .frz, .own, .frz, .frz, .frz, .un, .un]) (ds_app (i := 3) rfl (.inl rfl) rfl (de_var 6 rfl (.inl rfl) rfl) rfl Bx.K rfl rfl rfl)
 (dss_cons (F := [.frz, .frz, .frz, .own, .frz, .frz, .frz, .un, .un]) (F1 := [.frz, .frz, .frz, .own, .frz, .frz, .frz, .un, .un]) (ds_if (dt_bool (dw_and (dt_cmp (opd_ne (un64 Bx) Bx.K) (de_var 6 rfl (.inl rfl) rfl) (de_lst da_nil) rfl) (dw_and1 (dt_cmp (opd_gt) (de_var 4 rfl (.inr (.inl rfl)) rfl) de_int rfl)))) (dss_cons (F := [.frz, .frz, .frz, .own, .frz, .frz, .frz, .un, .un]) (F1 := [.frz, .frz, .frz, .own, .frz, .frz, .frz, .frz, .un]) (ds_set (i := 7) Bx.nd rfl (.inl rfl) (.inr rfl) (de_repl2 (y := [33]) (z := []) (de_ix Bx.K (de_var 6 rfl (.inl rfl) rfl) de_int (fun _ _ => rfl))) (by decide) rfl rfl)
 (dss_cons (F := [.frz, .frz, .frz, .own, .frz, .frz, .frz, .frz, .un]) (F1 := [.frz, .frz, .frz, .own, .frz, .frz, .frz, .frz, .un]) (ds_if (dt_cmp (opd_eq (un64 Bx) Bx.K) (de_ix Bx.K (de_var 6 rfl (.inl rfl) rfl) de_int (fun _ _ => rfl)) (de_var 7 rfl (.inl rfl) rfl) rfl) (dss_cons (F := [.frz, .frz, .frz, .own, .frz, .frz, .frz, .frz, .un]) (F1 := [.frz, .frz, .frz, .own, .frz, .frz, .frz, .frz, .un]) (ds_set (i := 7) Bx.nd rfl (.inl rfl) (.inr rfl) (de_bin opd_add (de_str (s := [33])) (de_var 7 rfl (.inl rfl) rfl)) (by decide) rfl rfl)
 (dss_nil rfl)) (dss_nil rfl) rfl)
 (dss_cons (F := [.frz, .frz, .frz, .own, .frz, .frz, .frz, .frz, .un]) (F1 := [.frz, .frz, .frz, .own, .frz, .frz, .frz, .frz, .un]) (ds_app (i := 3) rfl (.inl rfl) rfl (de_bin opd_add (de_lst (da_cons (de_var 7 rfl (.inl rfl) rfl) da_nil)) (de_sl Bx.K (de_var 6 rfl (.inl rfl) rfl) (dp_some de_int) dp_none)) rfl Bx.K rfl rfl rfl)
 (dss_nil rfl)))) (dss_nil rfl) rfl)
 (dss_nil rfl)))))) rfl rfl rfl (fun _ => rfl))
 (DSs.pre (F1 := [.frz, .frz, .frz, .frz, .un, .un, .un, .un, .un]) rfl (dss_cons (F := [.frz, .frz, .frz, .frz, .un, .un, .un, .un, .un]) (F1 := [.frz, .frz, .frz, .un, .un, .un, .un, .un, .un]) (ds_ret (de_var 3 rfl (.inl rfl) rfl) rfl)
 (dss_nil rfl)))))
abbrev t_against : Stmt := topS 3
theorem s_against : FnScope ["received", "left", "right", "number", "filling"] ["received", "left", "right"] (defScope t_against) := ⟨rfl, rfl, rfl, by decide +kernel, rfl, by decide +kernel, by decide +kernel⟩
theorem d_against {f : Addr} {fd : FuncData} (Fu : L2.Fun K "against" "against" t_against f fd) (c_has_all : Cal P w K mg base ⟨K, mg⟩ "has_all" 1 ["filling", "part"] [.frz, .frz] .frz m_has_all) (z_sorted : mg "sorted" = none) : FnT P w K mg base 2 f fd ["received", "left", "right"] (psp ⟨K, mg⟩ [.frz, .frz, .frz] .frz m_against) :=
 fn_ok (k := 1) (N := ["received", "left", "right", "number", "filling"]) (ms := [.frz, .frz, .frz]) Fu s_against rfl (by decide) fun cdv Ar outer s H E I0 Bx => show DSs _ _ _ _ [.frz, .frz, .frz, .un, .un] [.frz, .frz, .frz, .un, .un] _ b_against from (dss_cons (F := [.frz, .frz, .frz, .un, .un]) (F1 := [.frz, .frz, .frz, .un, .un]) (ds_ret (DE.fz (de_blt (x := "sorted") (cd_sort Bx.K (un70 Bx)) rfl z_sorted bt_sorted (da_cons (DE.mono_b (DE.fz (de_lc (Ft := [.frz, .frz, .frz, .frz, .frz]) Bx.calm Bx.nd (di_list Bx.K (de_var 0 rfl (.inl rfl) rfl)) (blkOk_by (own := [("number", 3), ("filling", 4)]) rfl) (by decide) (fun s1 H1 _ _ p1 I1 J1 => (dg_tup (n := 2) (Bx.blk s1 H1 _ _ p1 I1 J1).calm (Bx.blk s1 H1 _ _ p1 I1 J1).K (dgs_cons (dg_name (i := 3) (Bx.blk s1 H1 _ _ p1 I1 J1).nd rfl (.inl rfl) (.inr rfl) (by decide)) (dgs_cons (dg_name (i := 4) (Bx.blk s1 H1 _ _ p1 I1 J1).nd rfl (.inl rfl) (.inr rfl) (by decide)) dgs_nil)) (gsCons_len (gsCons_len (fun _ _ _ => gsNil_len))))) (fun s1 H1 _ _ p1 I1 J1 => (dts_one (dt_bool (dw_and (dt_truth (Bx.blk s1 H1 _ _ p1 I1 J1).K (de_callC (Bx.blk s1 H1 _ _ p1 I1 J1) c_has_all (by decide) (da_cons (de_var 4 rfl (.inl rfl) rfl) (da_cons (de_var 1 rfl (.inr (.inl rfl)) rfl) da_nil))) fun _ => rfl) (dw_and1 (dt_cmp (opd_nin (un65 (Bx.blk s1 H1 _ _ p1 I1 J1)) (Bx.blk s1 H1 _ _ p1 I1 J1).K) (de_var 2 rfl (.inr (.inl rfl)) rfl) (de_var 4 rfl (.inl rfl) rfl) rfl)))))) (fun s1 H1 _ _ p1 I1 J1 => (de_var 3 rfl (.inl rfl) rfl)) (fun _ => rfl)))) da_nil))) rfl)
 (dss_nil rfl))
abbrev t__law_names : Stmt := topS 9
theorem s__law_names : FnScope ["numbers", "count", "letters", "found", "k", "one", "size", "mix", "name", "step"] ["numbers", "count"] (defScope t__law_names) := ⟨rfl, rfl, rfl, by decide +kernel, rfl, by decide +kernel, by decide +kernel⟩
theorem d__law_names {f : Addr} {fd : FuncData} (Fu : L2.Fun K "_law_names" "_law_names" t__law_names f fd) (c__law_name : Cal P w K mg base ⟨K, mg⟩ "_law_name" 1 ["first", "size", "mix"] [.frz, .frz, .frz] .frz m__law_name) (z_range : mg "range" = none) (z_len : mg "len" = none) : FnT P w K mg base 2 f fd ["numbers", "count"] (psp ⟨K, mg⟩ [.frz, .frz] .frz m__law_names) :=
 fn_ok (k := 1) (N := ["numbers", "count", "letters", "found", "k", "one", "size", "mix", "name", "step"]) (ms := [.frz, .frz]) Fu s__law_names rfl (by decide) fun cdv Ar outer s H E I0 Bx => show DSs _ _ _ _ [.frz, .frz, .un, .un, .un, .un, .un, .un, .un, .un] [.frz, .frz, .un, .un, .un, .un, .un, .un, .un, .un] _ b__law_names from (dss_cons (F := [.frz, .frz, .un, .un, .un, .un, .un, .un, .un, .un]) (F1 := [.frz, .frz, .frz, .un, .un, .un, .un, .un, .un, .un]) (ds_set (i := 2) Bx.nd rfl (.inl rfl) (.inr rfl) (de_str (s := [97, 98, 99, 100, 101, 102, 103, 104, 105, 106, 107, 108, 109, 110, 111, 112, 113, 114, 115, 116, 117, 118, 119, 120, 121, 122])) (by decide) rfl rfl)
 (dss_cons (F := [.frz, .frz, .frz, .un, .un, .un, .un, .un, .un, .un]) (F1 := [.frz, .frz, .frz, .own, .un, .un, .un, .un, .un, .un]) (ds_setOwn (i := 3) Bx.nd rfl (.inl rfl) (.inr rfl) (de_lst da_nil) (by decide) rfl rfl)
 (dss_cons (F := [.frz, .frz, .frz, .own, .un, .un, .un, .un, .un, .un]) (F1 := [.frz, .frz, .frz, .own, .un, .un, .un, .un, .un, .un]) (ds_for (Fh := [.frz, .frz, .frz, .own, .un, .un, .un, .un, .un, .un]) (Ft := [.frz, .frz, .frz, .own, .frz, .un, .un, .un, .un, .un]) (Fe := [.frz, .frz, .frz, .own, .un, .un, .un, .un, .un, .un]) Bx (di_range1 rfl z_range (da_cons (de_var 1 rfl (.inl rfl) rfl) da_nil) rfl) (dg_name (i := 4) Bx.nd rfl (.inl rfl) (.inr rfl) (by decide)) (dss_cons (F := [.frz, .frz, .frz, .own, .frz, .un, .un, .un, .un, .un]) (F1 := [.frz, .frz, .frz, .own, .frz, .frz, .frz, .frz, .un, .un]) (ds_par3 (i := 5) (j := 6) (l := 7) Bx.calm Bx.nd rfl rfl rfl (by decide) (by decide) (by decide) rfl rfl rfl (da_cons (de_ix Bx.K (de_var 0 rfl (.inl rfl) rfl) (de_bin opd_mul de_int (de_var 4 rfl (.inl rfl) rfl)) (fun _ _ => rfl)) (da_cons (de_ix Bx.K (de_var 0 rfl (.inl rfl) rfl) (de_bin opd_add (de_bin opd_mul de_int (de_var 4 rfl (.inl rfl) rfl)) de_int) (fun _ _ => rfl)) (da_cons (de_ix Bx.K (de_var 0 rfl (.inl rfl) rfl) (de_bin opd_add (de_bin opd_mul de_int (de_var 4 rfl (.inl rfl) rfl)) de_int) (fun _ _ => rfl)) da_nil))) (by decide) (by decide) (by decide) (by decide) rfl rfl rfl)
 (dss_cons (F := [.frz, .frz, .frz, .own, .frz, .frz, .frz, .frz, .un, .un]) (F1 := [.frz, .frz, .frz, .own, .frz, .frz, .frz, .frz, .frz, .un]) (ds_set (i := 8) Bx.nd rfl (.inl rfl) (.inr rfl) (de_callC Bx c__law_name (by decide) (da_cons (de_var 5 rfl (.inl rfl) rfl) (da_cons (de_var 6 rfl (.inl rfl) rfl) (da_cons (de_var 7 rfl (.inl rfl) rfl) da_nil)))) (by decide) rfl rfl)
 (dss_cons (F := [.frz, .frz, .frz, .own, .frz, .frz, .frz, .frz, .frz, .un]) (F1 := [.frz, .frz, .frz, .own, .frz, .frz, .frz, .frz, .frz, .un]) (ds_if (dt_bool (dw_and (dt_cmp (opd_gt) (de_var 4 rfl (.inl rfl) rfl) de_int rfl) (dw_and (dt_cmp (opd_eq (un64 Bx) Bx.K) (de_bin opd_mod (de_var 7 rfl (.inl rfl) rfl) de_int) de_int rfl) (dw_and1 (dt_cmp (opd_lt) (de_blt (x := "len") (cd_len Bx.K) rfl z_len bt_len (da_cons (de_ix Bx.K (db_var 3 rfl (.inl rfl) (by decide)) (de_un und_neg de_int) (fun _ _ => rfl)) da_nil)) de_int rfl))))) (dss_cons (F := [.frz, .frz, .frz, .own, .frz, .frz, .frz, .frz, .frz, .un]) (F1 := [.frz, .frz, .frz, .own, .frz, .frz, .frz, .frz, .frz, .un]) (ds_set (i := 8) Bx.nd rfl (.inl rfl) (.inr rfl) (de_bin opd_add (de_ix Bx.K (db_var 3 rfl (.inl rfl) (by decide)) (de_un und_neg de_int) (fun _ _ => rfl)) (de_ix Bx.K (de_var 8 rfl (.inl rfl) rfl) (de_un und_neg de_int) (fun _ _ => rfl))) (by decide) rfl rfl)
 (dss_nil rfl)) (dss_nil rfl) rfl)
 (dss_cons (F := [.frz, .frz, .frz, .own, .frz, .frz, .frz, .frz, .frz, .un]) (F1 := [.frz, .frz, .frz, .own, .frz, .frz, .frz, .frz, .frz, .un]) (ds_for (Fh := [.frz, .frz, .frz, .own, .frz, .frz, .frz, .frz, .frz, .un]) (Ft := [.frz, .frz, .frz, .own, .frz, .frz, .frz, .frz, .frz, .frz]) (Fe := [.frz, .frz, .frz, .own, .frz, .frz, .frz, .frz, .frz, .un]) Bx (di_range1 rfl z_range (da_cons de_int da_nil) rfl) (dg_name (i := 9) Bx.nd rfl (.inl rfl) (.inr rfl) (by decide)) (dss_cons (F := [.frz, .frz, .frz, .own, .frz, .frz, .frz, .frz, .frz, .frz]) (F1 := [.frz, .frz, .frz, .own, .frz, .frz, .frz, .frz, .frz, .frz]) (ds_if (dt_cmp (opd_in (un65 Bx) Bx.K) (de_var 8 rfl (.inl rfl) rfl) (db_var 3 rfl (.inl rfl) (by decide)) rfl) (dss_cons (F := [.frz, .frz, .frz, .own, .frz, .frz, .frz, .frz, .frz, .frz]) (F1 := [.frz, .frz, .frz, .own, .frz, .frz, .frz, .frz, .frz, .frz]) (ds_set (i := 8) Bx.nd rfl (.inl rfl) (.inr rfl) (de_bin opd_add (de_ix Bx.K (de_var 2 rfl (.inl rfl) rfl) (de_bin opd_mod (de_bin opd_add (de_var 5 rfl (.inl rfl) rfl) (de_var 9 rfl (.inl rfl) rfl)) de_int) (fun _ _ => rfl)) (de_sl Bx.K (de_var 8 rfl (.inl rfl) rfl) (dp_some de_int) dp_none)) (by decide) rfl rfl)
 (dss_nil rfl)) (dss_nil rfl) rfl)
 (dss_nil rfl)) rfl rfl rfl (fun _ => rfl))
 (dss_cons (F := [.frz, .frz, .frz, .own, .frz, .frz, .frz, .frz, .frz, .un]) (F1 := [.frz, .frz, .frz, .own, .frz, .frz, .frz, .frz, .frz, .un]) (ds_app (i := 3) rfl (.inl rfl) rfl (de_var 8 rfl (.inl rfl) rfl) rfl Bx.K rfl rfl rfl)
 (dss_nil rfl)))))) rfl rfl rfl (fun _ => rfl))
 (DSs.pre (F1 := [.frz, .frz, .frz, .frz, .un, .un, .un, .un, .un, .un]) rfl (dss_cons (F := [.frz, .frz, .frz, .frz, .un, .un, .un, .un, .un, .un]) (F1 := [.frz, .frz, .un, .un, .un, .un, .un, .un, .un, .un]) (ds_ret (de_var 3 rfl (.inl rfl) rfl) rfl)
 (dss_nil rfl))))))
abbrev t__law_received : Stmt := topS 11
theorem s__law_received : FnScope ["script", "at", "fields", "many", "alike", "found", "numbers", "k", "n", "number", "step", "filling", "one", "before", "j"] ["script", "at", "fields", "many", "alike"] (defScope t__law_received) := ⟨rfl, rfl, rfl, by decide +kernel, rfl, by decide +kernel, by decide +kernel⟩
theorem d__law_received {f : Addr} {fd : FuncData} (Fu : L2.Fun K "_law_received" "_law_received" t__law_received f fd) (c__law_numbers : Cal P w K mg base ⟨K, mg⟩ "_law_numbers" 1 ["script", "at", "count"] [.frz, .frz, .frz] .frz m__law_numbers) (z_range : mg "range" = none) (z_len : mg "len" = none) : FnT P w K mg base 2 f fd ["script", "at", "fields", "many", "alike"] (psp ⟨K, mg⟩ [.frz, .frz, .frz, .frz, .frz] .frz m__law_received) :=
 fn_ok (k := 1) (N := ["script", "at", "fields", "many", "alike", "found", "numbers", "k", "n", "number", "step", "filling", "one", "before", "j"]) (ms := [.frz, .frz, .frz, .frz, .frz]) Fu s__law_received rfl (by decide) fun cdv Ar outer s H E I0 Bx => show DSs _ _ _ _ [.frz, .frz, .frz, .frz, .frz, .un, .un, .un, .un, .un, .un, .un, .un, .un, .un] [.frz, .frz, .frz, .frz, .frz, .un, .un, .un, .un, .un, .un, .un, .un, .un, .un] _ b__law_received from (dss_cons (F := [.frz, .frz, .frz, .frz, .frz, .un, .un, .un, .un, .un, .un, .un, .un, .un, .un]) (F1 := [.frz, .frz, .frz, .frz, .frz, .own, .un, .un, .un, .un, .un, .un, .un, .un, .un]) (ds_setOwn (i := 5) Bx.nd rfl (.inl rfl) (.inr rfl) (de_lst da_nil) (by decide) rfl rfl)
 (dss_cons (F := [.frz, .frz, .frz, .frz, .frz, .own, .un, .un, .un, .un, .un, .un, .un, .un, .un]) (F1 := [.frz, .frz, .frz, .frz, .frz, .own, .own, .un, .un, .un, .un, .un, .un, .un, .un]) (ds_setOwn (i := 6) Bx.nd rfl (.inl rfl) (.inr rfl) (de_lst da_nil) (by decide) rfl rfl)
 (dss_cons (F := [.frz, .frz, .frz, .frz, .frz, .own, .own, .un, .un, .un, .un, .un, .un, .un, .un]) (F1 := [.frz, .frz, .frz, .frz, .frz, .own, .own, .un, .un, .un, .un, .un, .un, .un, .un]) (ds_for (Fh := [.frz, .frz, .frz, .frz, .frz, .own, .own, .un, .un, .un, .un, .un, .un, .un, .un]) (Ft := [.frz, .frz, .frz, .frz, .frz, .own, .own, .frz, .un, .un, .un, .un, .un, .un, .un]) (Fe := [.frz, .frz, .frz, .frz, .frz, .own, .own, .un, .un, .un, .un, .un, .un, .un, .un]) Bx (di_range1 rfl z_range (da_cons (de_var 3 rfl (.inl rfl) rfl) da_nil) rfl) (dg_name (i := 7) Bx.nd rfl (.inl rfl) (.inr rfl) (by decide)) (dss_cons (F := [.frz, .frz, .frz, .frz, .frz, .own, .own, .frz, .un, .un, .un, .un, .un, .un, .un]) (F1 := [.frz, .frz, .frz, .frz, .frz, .own, .own, .frz, .frz, .un, .un, .un, .un, .un, .un]) (ds_set (i := 8) Bx.nd rfl (.inr rfl) (.inl rfl) (de_callC Bx c__law_numbers (by decide) (da_cons (de_var 0 rfl (.inl rfl) rfl) (da_cons (de_bin opd_add (de_var 1 rfl (.inl rfl) rfl) (de_var 7 rfl (.inl rfl) rfl)) (da_cons de_int da_nil)))) (by decide) rfl rfl)
 (dss_cons (F := [.frz, .frz, .frz, .frz, .frz, .own, .own, .frz, .frz, .un, .un, .un, .un, .un, .un]) (F1 := [.frz, .frz, .frz, .frz, .frz, .own, .own, .frz, .frz, .frz, .un, .un, .un, .un, .un]) (ds_set (i := 9) Bx.nd rfl (.inl rfl) (.inr rfl) (de_bin opd_add de_int (de_ix Bx.K (de_var 8 rfl (.inr (.inl rfl)) rfl) de_int (fun _ _ => rfl))) (by decide) rfl rfl)
 (dss_cons (F := [.frz, .frz, .frz, .frz, .frz, .own, .own, .frz, .frz, .frz, .un, .un, .un, .un, .un]) (F1 := [.frz, .frz, .frz, .frz, .frz, .own, .own, .frz, .frz, .frz, .un, .un, .un, .un, .un]) (ds_for (Fh := [.frz, .frz, .frz, .frz, .frz, .own, .own, .frz, .frz, .frz, .un, .un, .un, .un, .un]) (Ft := [.frz, .frz, .frz, .frz, .frz, .own, .own, .frz, .frz, .frz, .frz, .un, .un, .un, .un]) (Fe := [.frz, .frz, .frz, .frz, .frz, .own, .own, .frz, .frz, .frz, .un, .un, .un, .un, .un]) Bx (di_range1 rfl z_range (da_cons de_int da_nil) rfl) (dg_name (i := 10) Bx.nd rfl (.inl rfl) (.inr rfl) (by decide)) (dss_cons (F := [.frz, .frz, .frz, .frz, .frz, .own, .own, .frz, .frz, .frz, .frz, .un, .un, .un, .un]) (F1 := [.frz, .frz, .frz, .frz, .frz, .own, .own, .frz, .frz, .frz, .frz, .un, .un, .un, .un]) (ds_if (dt_cmp (opd_in (un65 Bx) Bx.K) (de_var 9 rfl (.inl rfl) rfl) (db_var 6 rfl (.inl rfl) (by decide)) rfl) (dss_cons (F := [.frz, .frz, .frz, .frz, .frz, .own, .own, .frz, .frz, .frz, .frz, .un, .un, .un, .un]) (F1 := [.frz, .frz, .frz, .frz, .frz, .own, .own, .frz, .frz, .frz, .frz, .un, .un, .un, .un]) (ds_set (i := 9) Bx.nd rfl (.inl rfl) (.inr rfl) (de_bin opd_add (de_var 9 rfl (.inl rfl) rfl) de_int) (by decide) rfl rfl)
 (dss_nil rfl)) (dss_nil rfl) rfl)
 (dss_nil rfl)) rfl rfl rfl (fun _ => rfl))
 (dss_cons (F := [.frz, .frz, .frz, .frz, .frz, .own, .own, .frz, .frz, .frz, .un, .un, .un, .un, .un]) (F1 := [.frz, .frz, .frz, .frz, .frz, .own, .own, .frz, .frz, .frz, .un, .un, .un, .un, .un]) (ds_app (i := 6) rfl (.inl rfl) rfl (de_var 9 rfl (.inl rfl) rfl) rfl Bx.K rfl rfl rfl)
 (dss_cons (F := [.frz, .frz, .frz, .frz, .frz, .own, .own, .frz, .frz, .frz, .un, .un, .un, .un, .un]) (F1 := [.frz, .frz, .frz, .frz, .frz, .own, .own, .frz, .frz, .frz, .un, .frz, .un, .un, .un]) (ds_setLcF (i := 11) (Ft := [.frz, .frz, .frz, .frz, .frz, .bor, .bor, .frz, .frz, .frz, .un, .un, .un, .un, .frz]) Bx.calm Bx.nd rfl rfl rfl (di_range1 rfl z_range (da_cons (de_blt (x := "len") (cd_len Bx.K) rfl z_len bt_len (da_cons (de_var 2 rfl (.inr (.inl rfl)) rfl) da_nil)) da_nil) rfl) (blkOk_by (own := [("j", 14)]) rfl) (by decide) (fun s1 H1 _ _ p1 I1 J1 => (dg_name (i := 14) (Bx.blk s1 H1 _ _ p1 I1 J1).nd rfl (.inl rfl) (.inr rfl) (by decide))) (fun s1 H1 _ _ p1 I1 J1 => dts_nil) (fun s1 H1 _ _ p1 I1 J1 => (de_bin opd_add (de_ix (Bx.blk s1 H1 _ _ p1 I1 J1).K (de_lst (da_cons (de_str (s := [])) (da_cons (de_str (s := [33])) da_nil))) (de_bin opd_mod (de_ix (Bx.blk s1 H1 _ _ p1 I1 J1).K (de_var 8 rfl (.inr (.inl rfl)) rfl) (de_var 14 rfl (.inl rfl) rfl) (fun _ _ => rfl)) de_int) (fun _ _ => rfl)) (de_ix (Bx.blk s1 H1 _ _ p1 I1 J1).K (de_var 2 rfl (.inr (.inl rfl)) rfl) (de_var 14 rfl (.inl rfl) rfl) (fun _ _ => rfl)))) (by decide) rfl (fun _ => rfl))
 (dss_cons (F := [.frz, .frz, .frz, .frz, .frz, .own, .own, .frz, .frz, .frz, .un, .frz, .un, .un, .un]) (F1 := [.frz, .frz, .frz, .frz, .frz, .own, .own, .frz, .frz, .frz, .un, .frz, .un, .un, .un]) (ds_if (dt_bool (dw_and (dt_cmp (opd_gt) (de_var 7 rfl (.inl rfl) rfl) de_int rfl) (dw_and1 (dt_cmp (opd_lt) (de_bin opd_mod (de_ix Bx.K (de_var 8 rfl (.inr (.inl rfl)) rfl) de_int (fun _ _ => rfl)) de_int) (de_var 4 rfl (.inl rfl) rfl) rfl)))) (dss_cons (F := [.frz, .frz, .frz, .frz, .frz, .own, .own, .frz, .frz, .frz, .un, .frz, .un, .un, .un]) (F1 := [.frz, .frz, .frz, .frz, .frz, .own, .own, .frz, .frz, .frz, .un, .frz, .frz, .un, .un]) (ds_set (i := 12) Bx.nd rfl (.inl rfl) (.inr rfl) (de_bin opd_mod (de_ix Bx.K (de_var 8 rfl (.inr (.inl rfl)) rfl) de_int (fun _ _ => rfl)) (de_blt (x := "len") (cd_len Bx.K) rfl z_len bt_len (da_cons (de_var 2 rfl (.inr (.inl rfl)) rfl) da_nil))) (by decide) rfl rfl)
 (dss_cons (F := [.frz, .frz, .frz, .frz, .frz, .own, .own, .frz, .frz, .frz, .un, .frz, .frz, .un, .un]) (F1 := [.frz, .frz, .frz, .frz, .frz, .own, .own, .frz, .frz, .frz, .un, .frz, .frz, .frz, .un]) (ds_set (i := 13) Bx.nd rfl (.inl rfl) (.inr rfl) (de_ix Bx.K (de_ix Bx.K (db_var 5 rfl (.inl rfl) (by decide)) (de_bin opd_mod (de_ix Bx.K (de_var 8 rfl (.inr (.inl rfl)) rfl) de_int (fun _ _ => rfl)) (de_var 7 rfl (.inl rfl) rfl)) (fun _ _ => rfl)) de_int (fun _ _ => rfl)) (by decide) rfl rfl)
 (dss_cons (F := [.frz, .frz, .frz, .frz, .frz, .own, .own, .frz, .frz, .frz, .un, .frz, .frz, .frz, .un]) (F1 := [.frz, .frz, .frz, .frz, .frz, .own, .own, .frz, .frz, .frz, .un, .frz, .frz, .frz, .un]) (ds_set (i := 11) Bx.nd rfl (.inl rfl) (.inr rfl) (de_bin opd_add (de_bin opd_add (de_sl Bx.K (de_var 13 rfl (.inl rfl) rfl) dp_none (dp_some (de_var 12 rfl (.inl rfl) rfl))) (de_lst (da_cons (de_ix Bx.K (de_var 11 rfl (.inl rfl) rfl) (de_var 12 rfl (.inl rfl) rfl) (fun _ _ => rfl)) da_nil))) (de_sl Bx.K (de_var 13 rfl (.inl rfl) rfl) (dp_some (de_bin opd_add (de_var 12 rfl (.inl rfl) rfl) de_int)) dp_none)) (by decide) rfl rfl)
 (dss_nil rfl)))) (dss_nil rfl) rfl)
 (dss_cons (F := [.frz, .frz, .frz, .frz, .frz, .own, .own, .frz, .frz, .frz, .un, .frz, .un, .un, .un]) (F1 := [.frz, .frz, .frz, .frz, .frz, .own, .own, .frz, .frz, .frz, .un, .frz, .un, .un, .un]) (ds_app (i := 5) rfl (.inl rfl) rfl (de_tup (da_cons (de_var 9 rfl (.inl rfl) rfl) (da_cons (de_var 11 rfl (.inl rfl) rfl) da_nil))) rfl Bx.K rfl rfl rfl)
 (dss_nil rfl)))))))) rfl rfl rfl (fun _ => rfl))
 (DSs.pre (F1 := [.frz, .frz, .frz, .frz, .frz, .frz, .own, .un, .un, .un, .un, .un, .un, .un, .un]) rfl (dss_cons (F := [.frz, .frz, .frz, .frz, .frz, .frz, .own, .un, .un, .un, .un, .un, .un, .un, .un]) (F1 := [.frz, .frz, .frz, .frz, .frz, .un, .un, .un, .un, .un, .un, .un, .un, .un, .un]) (ds_ret (de_var 5 rfl (.inl rfl) rfl) rfl)
 (dss_nil rfl))))))
abbrev t_holds : Stmt := topS 4
theorem s_holds : FnScope ["received", "left", "right"] ["received", "left", "right"] (defScope t_holds) := ⟨rfl, rfl, rfl, by decide +kernel, rfl, by decide +kernel, by decide +kernel⟩
theorem d_holds {f : Addr} {fd : FuncData} (Fu : L2.Fun K "holds" "holds" t_holds f fd) (c_against : Cal P w K mg base ⟨K, mg⟩ "against" 2 ["received", "left", "right"] [.frz, .frz, .frz] .frz m_against) : FnT P w K mg base 3 f fd ["received", "left", "right"] (psp ⟨K, mg⟩ [.frz, .frz, .frz] .frz m_holds) :=
 fn_ok (k := 2) (N := ["received", "left", "right"]) (ms := [.frz, .frz, .frz]) Fu s_holds rfl (by decide) fun cdv Ar outer s H E I0 Bx => show DSs _ _ _ _ [.frz, .frz, .frz] [.frz, .frz, .frz] _ b_holds from (dss_cons (F := [.frz, .frz, .frz]) (F1 := [.frz, .frz, .frz]) (ds_ret (de_cmp (opd_eq (un64 Bx) Bx.K) (de_callC Bx c_against (by decide) (da_cons (de_var 0 rfl (.inl rfl) rfl) (da_cons (de_var 1 rfl (.inl rfl) rfl) (da_cons (de_var 2 rfl (.inl rfl) rfl) da_nil)))) (de_lst da_nil) rfl) rfl)
 (dss_nil rfl))
abbrev t_counter : Stmt := topS 5
theorem s_counter : FnScope ["received", "left", "right", "numbers"] ["received", "left", "right"] (defScope t_counter) := ⟨rfl, rfl, rfl, by decide +kernel, rfl, by decide +kernel, by decide +kernel⟩
theorem d_counter {f : Addr} {fd : FuncData} (Fu : L2.Fun K "counter" "counter" t_counter f fd) (c_against : Cal P w K mg base ⟨K, mg⟩ "against" 2 ["received", "left", "right"] [.frz, .frz, .frz] .frz m_against) : FnT P w K mg base 3 f fd ["received", "left", "right"] (psp ⟨K, mg⟩ [.frz, .frz, .frz] .frz m_counter) :=
 fn_ok (k := 2) (N := ["received", "left", "right", "numbers"]) (ms := [.frz, .frz, .frz]) Fu s_counter rfl (by decide) fun cdv Ar outer s H E I0 Bx => show DSs _ _ _ _ [.frz, .frz, .frz, .un] [.frz, .frz, .frz, .un] _ b_counter from (dss_cons (F := [.frz, .frz, .frz, .un]) (F1 := [.frz, .frz, .frz, .frz]) (ds_set (i := 3) Bx.nd rfl (.inl rfl) (.inr rfl) (de_callC Bx c_against (by decide) (da_cons (de_var 0 rfl (.inl rfl) rfl) (da_cons (de_var 1 rfl (.inl rfl) rfl) (da_cons (de_var 2 rfl (.inl rfl) rfl) da_nil)))) (by decide) rfl rfl)
 (dss_cons (F := [.frz, .frz, .frz, .frz]) (F1 := [.frz, .frz, .frz, .un]) (ds_ret (de_ifExp (dt_truth Bx.K (de_var 3 rfl (.inl rfl) rfl) fun _ => rfl) (de_ix Bx.K (de_var 3 rfl (.inl rfl) rfl) de_int (fun _ _ => rfl)) de_non) rfl)
 (dss_nil rfl)))
abbrev t__law_fields : Stmt := topS 10
theorem s__law_fields : FnScope ["script", "at", "count", "numbers", "found", "k", "name"] ["script", "at", "count"] (defScope t__law_fields) := ⟨rfl, rfl, rfl, by decide +kernel, rfl, by decide +kernel, by decide +kernel⟩
theorem d__law_fields {f : Addr} {fd : FuncData} (Fu : L2.Fun K "_law_fields" "_law_fields" t__law_fields f fd) (c__law_numbers : Cal P w K mg base ⟨K, mg⟩ "_law_numbers" 1 ["script", "at", "count"] [.frz, .frz, .frz] .frz m__law_numbers) (c__law_names : Cal P w K mg base ⟨K, mg⟩ "_law_names" 2 ["numbers", "count"] [.frz, .frz] .frz m__law_names) (c__law_name : Cal P w K mg base ⟨K, mg⟩ "_law_name" 1 ["first", "size", "mix"] [.frz, .frz, .frz] .frz m__law_name) (z_sorted : mg "sorted" = none) (z_range : mg "range" = none) (z_str : mg "str" = none) : FnT P w K mg base 3 f fd ["script", "at", "count"] (psp ⟨K, mg⟩ [.frz, .frz, .frz] .frz m__law_fields) :=
 fn_ok (k := 2) (N := ["script", "at", "count", "numbers", "found", "k", "name"]) (ms := [.frz, .frz, .frz]) Fu s__law_fields rfl (by decide) fun cdv Ar outer s H E I0 Bx => show DSs _ _ _ _ [.frz, .frz, .frz, .un, .un, .un, .un] [.frz, .frz, .frz, .un, .un, .un, .un] _ b__law_fields from (dss_cons (F := [.frz, .frz, .frz, .un, .un, .un, .un]) (F1 := [.frz, .frz, .frz, .frz, .un, .un, .un]) (ds_set (i := 3) Bx.nd rfl (.inl rfl) (.inr rfl) (de_callC Bx c__law_numbers (by decide) (da_cons (de_var 0 rfl (.inl rfl) rfl) (da_cons (de_var 1 rfl (.inl rfl) rfl) (da_cons de_int da_nil)))) (by decide) rfl rfl)
 (dss_cons (F := [.frz, .frz, .frz, .frz, .un, .un, .un]) (F1 := [.frz, .frz, .frz, .frz, .un, .un, .un]) (ds_if (dt_cmp (opd_le) (de_var 2 rfl (.inl rfl) rfl) de_int rfl) (dss_cons (F := [.frz, .frz, .frz, .frz, .un, .un, .un]) (F1 := [.frz, .frz, .frz, .frz, .un, .un, .un]) (ds_ret (DE.fz (de_blt (x := "sorted") (cd_sort Bx.K (un70 Bx)) rfl z_sorted bt_sorted (da_cons (de_callC Bx c__law_names (by decide) (da_cons (de_var 3 rfl (.inl rfl) rfl) (da_cons (de_var 2 rfl (.inl rfl) rfl) da_nil))) da_nil))) rfl)
 (dss_nil rfl)) (dss_nil rfl) rfl)
 (dss_cons (F := [.frz, .frz, .frz, .frz, .un, .un, .un]) (F1 := [.frz, .frz, .frz, .frz, .own, .un, .un]) (ds_setOwn (i := 4) Bx.nd rfl (.inl rfl) (.inr rfl) (de_lst da_nil) (by decide) rfl rfl)
 (dss_cons (F := [.frz, .frz, .frz, .frz, .own, .un, .un]) (F1 := [.frz, .frz, .frz, .frz, .own, .un, .un]) (ds_for (Fh := [.frz, .frz, .frz, .frz, .own, .un, .un]) (Ft := [.frz, .frz, .frz, .frz, .own, .frz, .un]) (Fe := [.frz, .frz, .frz, .frz, .own, .un, .un]) Bx (di_range1 rfl z_range (da_cons (de_var 2 rfl (.inl rfl) rfl) da_nil) rfl) (dg_name (i := 5) Bx.nd rfl (.inl rfl) (.inr rfl) (by decide)) (dss_cons (F := [.frz, .frz, .frz, .frz, .own, .frz, .un]) (F1 := [.frz, .frz, .frz, .frz, .own, .frz, .frz]) (ds_set (i := 6) Bx.nd rfl (.inl rfl) (.inr rfl) (de_callC Bx c__law_name (by decide) (da_cons (de_ix Bx.K (de_var 3 rfl (.inl rfl) rfl) (de_bin opd_mod (de_var 5 rfl (.inl rfl) rfl) de_int) (fun _ _ => rfl)) (da_cons (de_ix Bx.K (de_var 3 rfl (.inl rfl) rfl) (de_bin opd_mod (de_bin opd_add (de_var 5 rfl (.inl rfl) rfl) de_int) de_int) (fun _ _ => rfl)) (da_cons (de_bin opd_add (de_ix Bx.K (de_var 3 rfl (.inl rfl) rfl) (de_bin opd_mod (de_bin opd_add (de_bin opd_mul de_int (de_var 5 rfl (.inl rfl) rfl)) de_int) de_int) (fun _ _ => rfl)) (de_var 5 rfl (.inl rfl) rfl)) da_nil)))) (by decide) rfl rfl)
 (dss_cons (F := [.frz, .frz, .frz, .frz, .own, .frz, .frz]) (F1 := [.frz, .frz, .frz, .frz, .own, .frz, .frz]) (ds_app (i := 4) rfl (.inl rfl) rfl (de_bin opd_add (de_sl Bx.K (de_var 6 rfl (.inl rfl) rfl) dp_none (dp_some de_int)) (de_ty (x := "str") cd_str rfl z_str bt_str (da_cons (de_bin opd_add de_int (de_var 5 rfl (.inl rfl) rfl)) da_nil))) rfl Bx.K rfl rfl rfl)
 (dss_nil rfl))) rfl rfl rfl (fun _ => rfl))
 (dss_cons (F := [.frz, .frz, .frz, .frz, .own, .un, .un]) (F1 := [.frz, .frz, .frz, .un, .un, .un, .un]) (ds_ret (DE.fz (de_blt (x := "sorted") (cd_sort Bx.K (un70 Bx)) rfl z_sorted bt_sorted (da_cons (db_var 4 rfl (.inl rfl) (by decide)) da_nil))) rfl)
 (dss_nil rfl))))))
abbrev t__law_right : Stmt := topS 14
theorem s__law_right : FnScope ["passed", "received", "left", "right", "given", "against_v", "said", "number"] ["passed", "received", "left", "right"] (defScope t__law_right) := ⟨rfl, rfl, rfl, by decide +kernel, rfl, by decide +kernel, by decide +kernel⟩
theorem d__law_right {f : Addr} {fd : FuncData} (Fu : L2.Fun K "_law_right" "_law_right" t__law_right f fd) (c__law_against : Cal P w K mg base ⟨K, mg⟩ "_law_against" 1 ["received", "left", "right"] [.frz, .frz, .frz] .frz m__law_against) (c_holds : Cal P w K mg base ⟨K, mg⟩ "holds" 3 ["received", "left", "right"] [.frz, .frz, .frz] .frz m_holds) (c_counter : Cal P w K mg base ⟨K, mg⟩ "counter" 3 ["received", "left", "right"] [.frz, .frz, .frz] .frz m_counter) (z_list : mg "list" = none) (z_isinstance : mg "isinstance" = none) (z_bool : mg "bool" = none) (z_int : mg "int" = none) : FnT P w K mg base 4 f fd ["passed", "received", "left", "right"] (psp ⟨K, mg⟩ [.frz, .frz, .frz, .frz] .frz m__law_right) :=
 fn_ok (k := 3) (N := ["passed", "received", "left", "right", "given", "against_v", "said", "number"]) (ms := [.frz, .frz, .frz, .frz]) Fu s__law_right rfl (by decide) fun cdv Ar outer s H E I0 Bx => show DSs _ _ _ _ [.frz, .frz, .frz, .frz, .un, .un, .un, .un] [.frz, .frz, .frz, .frz, .un, .un, .un, .un] _ b__law_right from (dss_cons (F := [.frz, .frz, .frz, .frz, .un, .un, .un, .un]) (F1 := [.frz, .frz, .frz, .frz, .frz, .un, .un, .un]) (ds_set (i := 4) Bx.nd rfl (.inl rfl) (.inr rfl) (DE.fz (de_ty (x := "list") (cd_list Bx.K) rfl z_list bt_list (da_cons (de_var 2 rfl (.inl rfl) rfl) da_nil))) (by decide) rfl rfl)
 (dss_cons (F := [.frz, .frz, .frz, .frz, .frz, .un, .un, .un]) (F1 := [.frz, .frz, .frz, .frz, .frz, .frz, .un, .un]) (ds_set (i := 5) Bx.nd rfl (.inl rfl) (.inr rfl) (de_callC Bx c__law_against (by decide) (da_cons (de_var 1 rfl (.inl rfl) rfl) (da_cons (de_var 2 rfl (.inl rfl) rfl) (da_cons (de_var 3 rfl (.inl rfl) rfl) da_nil)))) (by decide) rfl rfl)
 (dss_cons (F := [.frz, .frz, .frz, .frz, .frz, .frz, .un, .un]) (F1 := [.frz, .frz, .frz, .frz, .frz, .frz, .frz, .un]) (ds_set (i := 6) Bx.nd rfl (.inl rfl) (.inr rfl) (de_callC Bx c_holds (by decide) (da_cons (de_var 0 rfl (.inl rfl) rfl) (da_cons (de_var 4 rfl (.inl rfl) rfl) (da_cons (de_var 3 rfl (.inl rfl) rfl) da_nil)))) (by decide) rfl rfl)
 (dss_cons (F := [.frz, .frz, .frz, .frz, .frz, .frz, .frz, .un]) (F1 := [.frz, .frz, .frz, .frz, .frz, .frz, .frz, .un]) (ds_if (dt_bool (dw_or (dt_not (dt_truth Bx.K (de_blt (x := "isinstance") (cd_isi Bx.K) rfl z_isinstance bt_isinstance (da_cons (de_var 6 rfl (.inl rfl) rfl) (da_cons (de_ty0 rfl z_bool bt_bool) da_nil))) fun _ => rfl)) (dw_or (dt_cmp (opd_ne (un64 Bx) Bx.K) (de_var 6 rfl (.inl rfl) rfl) (de_cmp (opd_eq (un64 Bx) Bx.K) (de_var 5 rfl (.inl rfl) rfl) (de_lst da_nil) rfl) rfl) (dw_or1 (dt_cmp (opd_ne (un64 Bx) Bx.K) (de_var 4 rfl (.inl rfl) rfl) (de_var 2 rfl (.inl rfl) rfl) rfl))))) (dss_cons (F := [.frz, .frz, .frz, .frz, .frz, .frz, .frz, .un]) (F1 := [.frz, .frz, .frz, .frz, .frz, .frz, .frz, .un]) (ds_ret de_bl rfl)
 (dss_nil rfl)) (dss_nil rfl) rfl)
 (dss_cons (F := [.frz, .frz, .frz, .frz, .frz, .frz, .frz, .un]) (F1 := [.frz, .frz, .frz, .frz, .frz, .frz, .frz, .frz]) (ds_set (i := 7) Bx.nd rfl (.inl rfl) (.inr rfl) (de_callC Bx c_counter (by decide) (da_cons (de_var 0 rfl (.inl rfl) rfl) (da_cons (de_var 4 rfl (.inl rfl) rfl) (da_cons (de_var 3 rfl (.inl rfl) rfl) da_nil)))) (by decide) rfl rfl)
 (dss_cons (F := [.frz, .frz, .frz, .frz, .frz, .frz, .frz, .frz]) (F1 := [.frz, .frz, .frz, .frz, .frz, .frz, .frz, .frz]) (ds_if (dt_cmp (opd_eq (un64 Bx) Bx.K) (de_var 5 rfl (.inl rfl) rfl) (de_lst da_nil) rfl) (dss_cons (F := [.frz, .frz, .frz, .frz, .frz, .frz, .frz, .frz]) (F1 := [.frz, .frz, .frz, .frz, .frz, .frz, .frz, .frz]) (ds_ret (de_cmp (opd_is) (de_var 7 rfl (.inl rfl) rfl) de_non rfl) rfl)
 (dss_nil rfl)) (dss_nil rfl) rfl)
 (dss_cons (F := [.frz, .frz, .frz, .frz, .frz, .frz, .frz, .frz]) (F1 := [.frz, .frz, .frz, .frz, .un, .un, .un, .un]) (ds_ret (de_and (de_blt (x := "isinstance") (cd_isi Bx.K) rfl z_isinstance bt_isinstance (da_cons (de_var 7 rfl (.inl rfl) rfl) (da_cons (de_ty0 rfl z_int bt_int) da_nil))) (de_and (de_not (de_blt (x := "isinstance") (cd_isi Bx.K) rfl z_isinstance bt_isinstance (da_cons (de_var 7 rfl (.inl rfl) rfl) (da_cons (de_ty0 rfl z_bool bt_bool) da_nil)))) (de_and (de_cmp (opd_eq (un64 Bx) Bx.K) (de_var 7 rfl (.inl rfl) rfl) (de_ix Bx.K (de_var 5 rfl (.inl rfl) rfl) de_int (fun _ _ => rfl)) rfl) (de_one (de_cmp (opd_eq (un64 Bx) Bx.K) (de_var 4 rfl (.inl rfl) rfl) (de_var 2 rfl (.inl rfl) rfl) rfl))))) rfl)
 (dss_nil rfl))))))))
abbrev t_law : Stmt := topS 16
theorem s_law : FnScope ["script", "n", "count", "fields", "received", "passed", "left", "free", "asked", "k", "right", "longer", "more", "field", "answer", "pair"] ["script"] (defScope t_law) := ⟨rfl, rfl, rfl, by decide +kernel, rfl, by decide +kernel, by decide +kernel⟩
theorem d_law {f : Addr} {fd : FuncData} (Fu : L2.Fun K "law" "law" t_law f fd) (c__law_numbers : Cal P w K mg base ⟨K, mg⟩ "_law_numbers" 1 ["script", "at", "count"] [.frz, .frz, .frz] .frz m__law_numbers) (c__law_fields : Cal P w K mg base ⟨K, mg⟩ "_law_fields" 3 ["script", "at", "count"] [.frz, .frz, .frz] .frz m__law_fields) (c__law_received : Cal P w K mg base ⟨K, mg⟩ "_law_received" 2 ["script", "at", "fields", "many", "alike"] [.frz, .frz, .frz, .frz, .frz] .frz m__law_received) (c__law_copy : Cal P w K mg base ⟨K, mg⟩ "_law_copy" 1 ["received"] [.frz] .frz m__law_copy) (c__law_lefts : Cal P w K mg base ⟨K, mg⟩ "_law_lefts" 1 ["received", "fields", "n"] [.frz, .frz, .frz] .frz m__law_lefts) (c__law_right : Cal P w K mg base ⟨K, mg⟩ "_law_right" 4 ["passed", "received", "left", "right"] [.frz, .frz, .frz, .frz] .frz m__law_right) (c_holds : Cal P w K mg base ⟨K, mg⟩ "holds" 3 ["received", "left", "right"] [.frz, .frz, .frz] .frz m_holds) (z_range : mg "range" = none) (z_len : mg "len" = none) (z_sorted : mg "sorted" = none) (z_list : mg "list" = none) : FnOk P w K mg base (L2.CX P w) 5 f fd ["script"] (psp ⟨K, mg⟩ [.frz] .frz m_law) :=
 root_ok (k := 4) (N := ["script", "n", "count", "fields", "received", "passed", "left", "free", "asked", "k", "right", "longer", "more", "field", "answer", "pair"]) (ms := [.frz]) Fu s_law rfl (by decide) fun cdv Ar outer s H E I0 Bx => show DZs _ _ _ _ [.frz, .un, .un, .un, .un, .un, .un, .un, .un, .un, .un, .un, .un, .un, .un, .un] [.frz, .frz, .un, .un, .un, .un, .un, .un, .un, .un, .un, .un, .un, .un, .un, .un] _ b_law from (dz_setC (F := [.frz, .un, .un, .un, .un, .un, .un, .un, .un, .un, .un, .un, .un, .un, .un, .un]) (i := 1) Bx c__law_numbers (by decide) (daz_var (i := 0) rfl (.inl rfl) rfl (daz_int (da_cons de_int da_nil))) rfl (.inl rfl) (.inr rfl) (by decide) rfl
 (dss_cons (F := [.frz, .frz, .un, .un, .un, .un, .un, .un, .un, .un, .un, .un, .un, .un, .un, .un]) (F1 := [.frz, .frz, .frz, .un, .un, .un, .un, .un, .un, .un, .un, .un, .un, .un, .un, .un]) (ds_set (i := 2) Bx.nd rfl (.inl rfl) (.inr rfl) (de_bin opd_add de_int (de_bin opd_mod (de_ix Bx.K (de_var 1 rfl (.inl rfl) rfl) de_int (fun _ _ => rfl)) de_int)) (by decide) rfl rfl)
 (dss_cons (F := [.frz, .frz, .frz, .un, .un, .un, .un, .un, .un, .un, .un, .un, .un, .un, .un, .un]) (F1 := [.frz, .frz, .frz, .un, .un, .un, .un, .un, .un, .un, .un, .un, .un, .un, .un, .un]) (ds_if (dt_cmp (opd_eq (un64 Bx) Bx.K) (de_bin opd_mod (de_ix Bx.K (de_var 1 rfl (.inl rfl) rfl) de_int (fun _ _ => rfl)) de_int) de_int rfl) (dss_cons (F := [.frz, .frz, .frz, .un, .un, .un, .un, .un, .un, .un, .un, .un, .un, .un, .un, .un]) (F1 := [.frz, .frz, .frz, .un, .un, .un, .un, .un, .un, .un, .un, .un, .un, .un, .un, .un]) (ds_set (i := 2) Bx.nd rfl (.inl rfl) (.inr rfl) de_int (by decide) rfl rfl)
 (dss_nil rfl)) (dss_nil rfl) rfl)
 (dss_cons (F := [.frz, .frz, .frz, .un, .un, .un, .un, .un, .un, .un, .un, .un, .un, .un, .un, .un]) (F1 := [.frz, .frz, .frz, .frz, .un, .un, .un, .un, .un, .un, .un, .un, .un, .un, .un, .un]) (ds_set (i := 3) Bx.nd rfl (.inl rfl) (.inr rfl) (de_callC Bx c__law_fields (by decide) (da_cons (de_var 0 rfl (.inl rfl) rfl) (da_cons de_int (da_cons (de_var 2 rfl (.inl rfl) rfl) da_nil)))) (by decide) rfl rfl)
 (dss_cons (F := [.frz, .frz, .frz, .frz, .un, .un, .un, .un, .un, .un, .un, .un, .un, .un, .un, .un]) (F1 := [.frz, .frz, .frz, .frz, .frz, .un, .un, .un, .un, .un, .un, .un, .un, .un, .un, .un]) (ds_set (i := 4) Bx.nd rfl (.inl rfl) (.inr rfl) (de_callC Bx c__law_received (by decide) (da_cons (de_var 0 rfl (.inl rfl) rfl) (da_cons de_int (da_cons (de_var 3 rfl (.inl rfl) rfl) (da_cons (de_bin opd_mod (de_ix Bx.K (de_var 1 rfl (.inl rfl) rfl) de_int (fun _ _ => rfl)) de_int) (da_cons (de_bin opd_mod (de_ix Bx.K (de_var 1 rfl (.inl rfl) rfl) de_int (fun _ _ => rfl)) de_int) da_nil)))))) (by decide) rfl rfl)
 (dss_cons (F := [.frz, .frz, .frz, .frz, .frz, .un, .un, .un, .un, .un, .un, .un, .un, .un, .un, .un]) (F1 := [.frz, .frz, .frz, .frz, .frz, .frz, .un, .un, .un, .un, .un, .un, .un, .un, .un, .un]) (ds_set (i := 5) Bx.nd rfl (.inl rfl) (.inr rfl) (de_callC Bx c__law_copy (by decide) (da_cons (de_var 4 rfl (.inl rfl) rfl) da_nil)) (by decide) rfl rfl)
 (dss_cons (F := [.frz, .frz, .frz, .frz, .frz, .frz, .un, .un, .un, .un, .un, .un, .un, .un, .un, .un]) (F1 := [.frz, .frz, .frz, .frz, .frz, .frz, .un, .un, .un, .un, .un, .un, .un, .un, .un, .un]) (ds_for (Fh := [.frz, .frz, .frz, .frz, .frz, .frz, .un, .un, .un, .un, .un, .un, .un, .un, .un, .un]) (Ft := [.frz, .frz, .frz, .frz, .frz, .frz, .frz, .un, .un, .un, .un, .un, .un, .un, .un, .un]) (Fe := [.frz, .frz, .frz, .frz, .frz, .frz, .un, .un, .un, .un, .un, .un, .un, .un, .un, .un]) Bx (di_list Bx.K (de_callC Bx c__law_lefts (by decide) (da_cons (de_var 4 rfl (.inl rfl) rfl) (da_cons (de_var 3 rfl (.inl rfl) rfl) (da_cons (de_sl Bx.K (de_var 1 rfl (.inl rfl) rfl) dp_none (dp_some de_int)) da_nil))))) (dg_name (i := 6) Bx.nd rfl (.inr rfl) (.inl rfl) (by decide)) (dss_cons (F := [.frz, .frz, .frz, .frz, .frz, .frz, .frz, .un, .un, .un, .un, .un, .un, .un, .un, .un]) (F1 := [.frz, .frz, .frz, .frz, .frz, .frz, .frz, .frz, .un, .un, .un, .un, .un, .un, .un, .un]) (ds_setLcF (i := 7) (Ft := [.frz, .frz, .frz, .frz, .frz, .frz, .frz, .un, .un, .un, .un, .un, .un, .frz, .un, .un]) Bx.calm Bx.nd rfl rfl rfl (di_list Bx.K (de_var 3 rfl (.inl rfl) rfl)) (blkOk_by (own := [("field", 13)]) rfl) (by decide) (fun s1 H1 _ _ p1 I1 J1 => (dg_name (i := 13) (Bx.blk s1 H1 _ _ p1 I1 J1).nd rfl (.inl rfl) (.inr rfl) (by decide))) (fun s1 H1 _ _ p1 I1 J1 => (dts_one (dt_bool (dw_and (dt_cmp (opd_nin (un65 (Bx.blk s1 H1 _ _ p1 I1 J1)) (Bx.blk s1 H1 _ _ p1 I1 J1).K) (de_var 13 rfl (.inl rfl) rfl) (de_var 6 rfl (.inr (.inl rfl)) rfl) rfl) (dw_and1 (dt_cmp (opd_nin (un65 (Bx.blk s1 H1 _ _ p1 I1 J1)) (Bx.blk s1 H1 _ _ p1 I1 J1).K) (de_bin opd_add (de_str (s := [33])) (de_var 13 rfl (.inl rfl) rfl)) (de_var 6 rfl (.inr (.inl rfl)) rfl) rfl)))))) (fun s1 H1 _ _ p1 I1 J1 => (de_var 13 rfl (.inl rfl) rfl)) (by decide) rfl (fun _ => rfl))
 (dss_cons (F := [.frz, .frz, .frz, .frz, .frz, .frz, .frz, .frz, .un, .un, .un, .un, .un, .un, .un, .un]) (F1 := [.frz, .frz, .frz, .frz, .frz, .frz, .frz, .frz, .own, .un, .un, .un, .un, .un, .un, .un]) (ds_setOwn (i := 8) Bx.nd rfl (.inl rfl) (.inr rfl) (de_lst da_nil) (by decide) rfl rfl)
 (dss_cons (F := [.frz, .frz, .frz, .frz, .frz, .frz, .frz, .frz, .own, .un, .un, .un, .un, .un, .un, .un]) (F1 := [.frz, .frz, .frz, .frz, .frz, .frz, .frz, .frz, .own, .un, .un, .un, .un, .un, .un, .un]) (ds_for (Fh := [.frz, .frz, .frz, .frz, .frz, .frz, .frz, .frz, .own, .un, .un, .un, .un, .un, .un, .un]) (Ft := [.frz, .frz, .frz, .frz, .frz, .frz, .frz, .frz, .own, .frz, .un, .un, .un, .un, .un, .un]) (Fe := [.frz, .frz, .frz, .frz, .frz, .frz, .frz, .frz, .own, .un, .un, .un, .un, .un, .un, .un]) Bx (di_range1 rfl z_range (da_cons de_int da_nil) rfl) (dg_name (i := 9) Bx.nd rfl (.inl rfl) (.inr rfl) (by decide)) (dss_cons (F := [.frz, .frz, .frz, .frz, .frz, .frz, .frz, .frz, .own, .frz, .un, .un, .un, .un, .un, .un]) (F1 := [.frz, .frz, .frz, .frz, .frz, .frz, .frz, .frz, .own, .frz, .un, .un, .un, .un, .un, .un]) (ds_if (dt_cmp (opd_ne (un64 Bx) Bx.K) (de_var 7 rfl (.inl rfl) rfl) (de_lst da_nil) rfl) (dss_cons (F := [.frz, .frz, .frz, .frz, .frz, .frz, .frz, .frz, .own, .frz, .un, .un, .un, .un, .un, .un]) (F1 := [.frz, .frz, .frz, .frz, .frz, .frz, .frz, .frz, .own, .frz, .un, .un, .un, .un, .un, .un]) (ds_app (i := 8) rfl (.inl rfl) rfl (de_bin opd_add (de_ix Bx.K (de_lst (da_cons (de_str (s := [])) (da_cons (de_str (s := [33])) da_nil))) (de_bin opd_mod (de_ix Bx.K (de_var 1 rfl (.inl rfl) rfl) (de_bin opd_add de_int (de_var 9 rfl (.inl rfl) rfl)) (fun _ _ => rfl)) de_int) (fun _ _ => rfl)) (de_ix Bx.K (de_var 7 rfl (.inl rfl) rfl) (de_bin opd_mod (de_bin opd_div (de_ix Bx.K (de_var 1 rfl (.inl rfl) rfl) (de_bin opd_add de_int (de_var 9 rfl (.inl rfl) rfl)) (fun _ _ => rfl)) de_int) (de_blt (x := "len") (cd_len Bx.K) rfl z_len bt_len (da_cons (de_var 7 rfl (.inl rfl) rfl) da_nil))) (fun _ _ => rfl))) rfl Bx.K rfl rfl rfl)
 (dss_nil rfl)) (dss_nil rfl) rfl)
 (dss_nil rfl)) rfl rfl rfl (fun _ => rfl))
 (DSs.pre (F1 := [.frz, .frz, .frz, .frz, .frz, .frz, .frz, .frz, .frz, .un, .un, .un, .un, .un, .un, .un]) rfl (dss_cons (F := [.frz, .frz, .frz, .frz, .frz, .frz, .frz, .frz, .frz, .un, .un, .un, .un, .un, .un, .un]) (F1 := [.frz, .frz, .frz, .frz, .frz, .frz, .frz, .frz, .frz, .un, .un, .un, .un, .un, .un, .un]) (ds_for (Fh := [.frz, .frz, .frz, .frz, .frz, .frz, .frz, .frz, .frz, .un, .un, .un, .un, .un, .un, .un]) (Ft := [.frz, .frz, .frz, .frz, .frz, .frz, .frz, .frz, .frz, .un, .frz, .un, .un, .un, .un, .un]) (Fe := [.frz, .frz, .frz, .frz, .frz, .frz, .frz, .frz, .frz, .un, .un, .un, .un, .un, .un, .un]) Bx (di_list Bx.K (de_var 8 rfl (.inl rfl) rfl)) (dg_name (i := 10) Bx.nd rfl (.inl rfl) (.inr rfl) (by decide)) (dss_cons (F := [.frz, .frz, .frz, .frz, .frz, .frz, .frz, .frz, .frz, .un, .frz, .un, .un, .un, .un, .un]) (F1 := [.frz, .frz, .frz, .frz, .frz, .frz, .frz, .frz, .frz, .un, .frz, .un, .un, .un, .un, .un]) (ds_if (dt_not (dt_truth Bx.K (de_callC Bx c__law_right (by decide) (da_cons (de_var 5 rfl (.inl rfl) rfl) (da_cons (de_var 4 rfl (.inl rfl) rfl) (da_cons (de_var 6 rfl (.inr (.inl rfl)) rfl) (da_cons (de_var 10 rfl (.inl rfl) rfl) da_nil))))) fun _ => rfl)) (dss_cons (F := [.frz, .frz, .frz, .frz, .frz, .frz, .frz, .frz, .frz, .un, .frz, .un, .un, .un, .un, .un]) (F1 := [.frz, .frz, .frz, .frz, .frz, .frz, .frz, .frz, .frz, .un, .frz, .un, .un, .un, .un, .un]) (ds_ret de_bl rfl)
 (dss_nil rfl)) (dss_nil rfl) rfl)
 (dss_nil rfl)) rfl rfl rfl (fun _ => rfl))
 (dss_cons (F := [.frz, .frz, .frz, .frz, .frz, .frz, .frz, .frz, .frz, .un, .un, .un, .un, .un, .un, .un]) (F1 := [.frz, .frz, .frz, .frz, .frz, .frz, .frz, .frz, .frz, .un, .un, .un, .un, .un, .un, .un]) (ds_if (dt_bool (dw_and (dt_cmp (opd_gt) (de_blt (x := "len") (cd_len Bx.K) rfl z_len bt_len (da_cons (de_var 8 rfl (.inl rfl) rfl) da_nil)) de_int rfl) (dw_and1 (dt_cmp (opd_ne (un64 Bx) Bx.K) (de_repl2 (y := [33]) (z := []) (de_ix Bx.K (de_var 8 rfl (.inl rfl) rfl) de_int (fun _ _ => rfl))) (de_repl2 (y := [33]) (z := []) (de_ix Bx.K (de_var 8 rfl (.inl rfl) rfl) de_int (fun _ _ => rfl))) rfl)))) (dss_cons (F := [.frz, .frz, .frz, .frz, .frz, .frz, .frz, .frz, .frz, .un, .un, .un, .un, .un, .un, .un]) (F1 := [.frz, .frz, .frz, .frz, .frz, .frz, .frz, .frz, .frz, .un, .un, .frz, .un, .un, .un, .un]) (ds_set (i := 11) Bx.nd rfl (.inl rfl) (.inr rfl) (DE.fz (de_blt (x := "sorted") (cd_sort Bx.K (un70 Bx)) rfl z_sorted bt_sorted (da_cons (DE.mono_b (DE.fz (de_lc (Ft := [.frz, .frz, .frz, .frz, .frz, .frz, .frz, .frz, .frz, .un, .un, .un, .un, .un, .frz, .un]) Bx.calm Bx.nd (di_list Bx.K (de_bin opd_add (de_var 6 rfl (.inr (.inl rfl)) rfl) (de_lst (da_cons (de_ix Bx.K (de_var 8 rfl (.inl rfl) rfl) de_int (fun _ _ => rfl)) da_nil)))) (blkOk_by (own := [("answer", 14)]) rfl) (by decide) (fun s2 H2 _ _ p2 I2 J2 => (dg_name (i := 14) (Bx.blk s2 H2 _ _ p2 I2 J2).nd rfl (.inl rfl) (.inr rfl) (by decide))) (fun s2 H2 _ _ p2 I2 J2 => dts_nil) (fun s2 H2 _ _ p2 I2 J2 => (de_tup (da_cons (de_repl2 (y := [33]) (z := []) (de_var 14 rfl (.inl rfl) rfl)) (da_cons (de_var 14 rfl (.inl rfl) rfl) da_nil)))) (fun _ => rfl)))) da_nil))) (by decide) rfl rfl)
 (dss_cons (F := [.frz, .frz, .frz, .frz, .frz, .frz, .frz, .frz, .frz, .un, .un, .frz, .un, .un, .un, .un]) (F1 := [.frz, .frz, .frz, .frz, .frz, .frz, .frz, .frz, .frz, .un, .un, .frz, .frz, .un, .un, .un]) (ds_setLcF (i := 12) (Ft := [.frz, .frz, .frz, .frz, .frz, .frz, .frz, .frz, .frz, .un, .un, .frz, .un, .un, .un, .frz]) Bx.calm Bx.nd rfl rfl rfl (di_list Bx.K (de_var 11 rfl (.inl rfl) rfl)) (blkOk_by (own := [("pair", 15)]) rfl) (by decide) (fun s4 H4 _ _ p4 I4 J4 => (dg_name (i := 15) (Bx.blk s4 H4 _ _ p4 I4 J4).nd rfl (.inl rfl) (.inr rfl) (by decide))) (fun s4 H4 _ _ p4 I4 J4 => dts_nil) (fun s4 H4 _ _ p4 I4 J4 => (de_ix (Bx.blk s4 H4 _ _ p4 I4 J4).K (de_var 15 rfl (.inl rfl) rfl) de_int (fun _ _ => rfl))) (by decide) rfl (fun _ => rfl))
 (dss_cons (F := [.frz, .frz, .frz, .frz, .frz, .frz, .frz, .frz, .frz, .un, .un, .frz, .frz, .un, .un, .un]) (F1 := [.frz, .frz, .frz, .frz, .frz, .frz, .frz, .frz, .frz, .un, .un, .frz, .frz, .un, .un, .un]) (ds_if (dt_not (dt_truth Bx.K (de_callC Bx c__law_right (by decide) (da_cons (de_var 5 rfl (.inl rfl) rfl) (da_cons (de_var 4 rfl (.inl rfl) rfl) (da_cons (de_var 12 rfl (.inl rfl) rfl) (da_cons (de_ix Bx.K (de_var 8 rfl (.inl rfl) rfl) de_int (fun _ _ => rfl)) da_nil))))) fun _ => rfl)) (dss_cons (F := [.frz, .frz, .frz, .frz, .frz, .frz, .frz, .frz, .frz, .un, .un, .frz, .frz, .un, .un, .un]) (F1 := [.frz, .frz, .frz, .frz, .frz, .frz, .frz, .frz, .frz, .un, .un, .frz, .frz, .un, .un, .un]) (ds_ret de_bl rfl)
 (dss_nil rfl)) (dss_nil rfl) rfl)
 (dss_cons (F := [.frz, .frz, .frz, .frz, .frz, .frz, .frz, .frz, .frz, .un, .un, .frz, .frz, .un, .un, .un]) (F1 := [.frz, .frz, .frz, .frz, .frz, .frz, .frz, .frz, .frz, .un, .un, .frz, .frz, .un, .un, .un]) (ds_if (dt_bool (dw_and (dt_truth Bx.K (de_callC Bx c_holds (by decide) (da_cons (de_var 5 rfl (.inl rfl) rfl) (da_cons (DE.fz (de_ty (x := "list") (cd_list Bx.K) rfl z_list bt_list (da_cons (de_var 6 rfl (.inr (.inl rfl)) rfl) da_nil))) (da_cons (de_ix Bx.K (de_var 8 rfl (.inl rfl) rfl) de_int (fun _ _ => rfl)) da_nil)))) fun _ => rfl) (dw_and1 (dt_not (dt_truth Bx.K (de_callC Bx c_holds (by decide) (da_cons (de_var 5 rfl (.inl rfl) rfl) (da_cons (DE.fz (de_ty (x := "list") (cd_list Bx.K) rfl z_list bt_list (da_cons (de_var 12 rfl (.inl rfl) rfl) da_nil))) (da_cons (de_ix Bx.K (de_var 8 rfl (.inl rfl) rfl) de_int (fun _ _ => rfl)) da_nil)))) fun _ => rfl))))) (dss_cons (F := [.frz, .frz, .frz, .frz, .frz, .frz, .frz, .frz, .frz, .un, .un, .frz, .frz, .un, .un, .un]) (F1 := [.frz, .frz, .frz, .frz, .frz, .frz, .frz, .frz, .frz, .un, .un, .frz, .frz, .un, .un, .un]) (ds_ret de_bl rfl)
 (dss_nil rfl)) (dss_nil rfl) rfl)
 (dss_nil rfl))))) (dss_nil rfl) rfl)
 (dss_nil rfl))))))) rfl rfl rfl (fun _ => rfl))
 (dss_cons (F := [.frz, .frz, .frz, .frz, .frz, .frz, .un, .un, .un, .un, .un, .un, .un, .un, .un, .un]) (F1 := [.frz, .frz, .un, .un, .un, .un, .un, .un, .un, .un, .un, .un, .un, .un, .un, .un]) (ds_ret (de_cmp (opd_eq (un64 Bx) Bx.K) (de_var 5 rfl (.inl rfl) rfl) (de_var 4 rfl (.inl rfl) rfl) rfl) rfl)
 (dss_nil rfl)))))))) rfl)
end
theorem all_mk {l : PySem.W.OpenLaw} {w : World} {K : PySem.W.Frag} {h : Heap} {mg : Str → Option Value} {fa : Addr} (HL : LawTrue m_law) (X : K.In h) (G : h.Ns mainGlobals mg) (hfa : mg "law" = some (.ref fa))
    {f0 : Addr} {oc0 kV0 dc0 pm0 cd0 ct0 : Value} {od0 an0 : Option Addr} {sl0 : Array (Option Value)}
    {f1 : Addr} {oc1 kV1 dc1 pm1 cd1 ct1 : Value} {od1 an1 : Option Addr} {sl1 : Array (Option Value)}
    {f2 : Addr} {oc2 kV2 dc2 pm2 cd2 ct2 : Value} {od2 an2 : Option Addr} {sl2 : Array (Option Value)}
    {f3 : Addr} {oc3 kV3 dc3 pm3 cd3 ct3 : Value} {od3 an3 : Option Addr} {sl3 : Array (Option Value)}
    {f4 : Addr} {oc4 kV4 dc4 pm4 cd4 ct4 : Value} {od4 an4 : Option Addr} {sl4 : Array (Option Value)}
    {f5 : Addr} {oc5 kV5 dc5 pm5 cd5 ct5 : Value} {od5 an5 : Option Addr} {sl5 : Array (Option Value)}
    {f6 : Addr} {oc6 kV6 dc6 pm6 cd6 ct6 : Value} {od6 an6 : Option Addr} {sl6 : Array (Option Value)}
    {f7 : Addr} {oc7 kV7 dc7 pm7 cd7 ct7 : Value} {od7 an7 : Option Addr} {sl7 : Array (Option Value)}
    {f8 : Addr} {oc8 kV8 dc8 pm8 cd8 ct8 : Value} {od8 an8 : Option Addr} {sl8 : Array (Option Value)}
    {f9 : Addr} {oc9 kV9 dc9 pm9 cd9 ct9 : Value} {od9 an9 : Option Addr} {sl9 : Array (Option Value)}
    {f10 : Addr} {oc10 kV10 dc10 pm10 cd10 ct10 : Value} {od10 an10 : Option Addr} {sl10 : Array (Option Value)}
    {f11 : Addr} {oc11 kV11 dc11 pm11 cd11 ct11 : Value} {od11 an11 : Option Addr} {sl11 : Array (Option Value)}
    {f12 : Addr} {oc12 kV12 dc12 pm12 cd12 ct12 : Value} {od12 an12 : Option Addr} {sl12 : Array (Option Value)}
    {f13 : Addr} {oc13 kV13 dc13 pm13 cd13 ct13 : Value} {od13 an13 : Option Addr} {sl13 : Array (Option Value)}
    (a0 : PySem.W.nsIn K mainGlobals "has_all" = some (some (.ref f0))) (l0 : K.lookup f0 = some ⟨oc0, od0, .func (PySem.W.fnOf "has_all" "has_all" (defArgs t_has_all) (defBody t_has_all) (defScope t_has_all) .none kV0 dc0 pm0 an0 cd0 ct0), sl0⟩) (e0 : PySem.W.codeIn K cd0 "has_all" = true) (k0 : PySem.W.keepIn K (.ref f0) = true)
    (a1 : PySem.W.nsIn K mainGlobals "_law_numbers" = some (some (.ref f1))) (l1 : K.lookup f1 = some ⟨oc1, od1, .func (PySem.W.fnOf "_law_numbers" "_law_numbers" (defArgs t__law_numbers) (defBody t__law_numbers) (defScope t__law_numbers) .none kV1 dc1 pm1 an1 cd1 ct1), sl1⟩) (e1 : PySem.W.codeIn K cd1 "_law_numbers" = true) (k1 : PySem.W.keepIn K (.ref f1) = true)
    (a2 : PySem.W.nsIn K mainGlobals "_law_name" = some (some (.ref f2))) (l2 : K.lookup f2 = some ⟨oc2, od2, .func (PySem.W.fnOf "_law_name" "_law_name" (defArgs t__law_name) (defBody t__law_name) (defScope t__law_name) .none kV2 dc2 pm2 an2 cd2 ct2), sl2⟩) (e2 : PySem.W.codeIn K cd2 "_law_name" = true) (k2 : PySem.W.keepIn K (.ref f2) = true)
    (a3 : PySem.W.nsIn K mainGlobals "_law_copy" = some (some (.ref f3))) (l3 : K.lookup f3 = some ⟨oc3, od3, .func (PySem.W.fnOf "_law_copy" "_law_copy" (defArgs t__law_copy) (defBody t__law_copy) (defScope t__law_copy) .none kV3 dc3 pm3 an3 cd3 ct3), sl3⟩) (e3 : PySem.W.codeIn K cd3 "_law_copy" = true) (k3 : PySem.W.keepIn K (.ref f3) = true)
    (a4 : PySem.W.nsIn K mainGlobals "_law_against" = some (some (.ref f4))) (l4 : K.lookup f4 = some ⟨oc4, od4, .func (PySem.W.fnOf "_law_against" "_law_against" (defArgs t__law_against) (defBody t__law_against) (defScope t__law_against) .none kV4 dc4 pm4 an4 cd4 ct4), sl4⟩) (e4 : PySem.W.codeIn K cd4 "_law_against" = true) (k4 : PySem.W.keepIn K (.ref f4) = true)
    (a5 : PySem.W.nsIn K mainGlobals "_law_lefts" = some (some (.ref f5))) (l5 : K.lookup f5 = some ⟨oc5, od5, .func (PySem.W.fnOf "_law_lefts" "_law_lefts" (defArgs t__law_lefts) (defBody t__law_lefts) (defScope t__law_lefts) .none kV5 dc5 pm5 an5 cd5 ct5), sl5⟩) (e5 : PySem.W.codeIn K cd5 "_law_lefts" = true) (k5 : PySem.W.keepIn K (.ref f5) = true)
    (a6 : PySem.W.nsIn K mainGlobals "against" = some (some (.ref f6))) (l6 : K.lookup f6 = some ⟨oc6, od6, .func (PySem.W.fnOf "against" "against" (defArgs t_against) (defBody t_against) (defScope t_against) .none kV6 dc6 pm6 an6 cd6 ct6), sl6⟩) (e6 : PySem.W.codeIn K cd6 "against" = true) (k6 : PySem.W.keepIn K (.ref f6) = true)
    (a7 : PySem.W.nsIn K mainGlobals "_law_names" = some (some (.ref f7))) (l7 : K.lookup f7 = some ⟨oc7, od7, .func (PySem.W.fnOf "_law_names" "_law_names" (defArgs t__law_names) (defBody t__law_names) (defScope t__law_names) .none kV7 dc7 pm7 an7 cd7 ct7), sl7⟩) (e7 : PySem.W.codeIn K cd7 "_law_names" = true) (k7 : PySem.W.keepIn K (.ref f7) = true)
    (a8 : PySem.W.nsIn K mainGlobals "_law_received" = some (some (.ref f8))) (l8 : K.lookup f8 = some ⟨oc8, od8, .func (PySem.W.fnOf "_law_received" "_law_received" (defArgs t__law_received) (defBody t__law_received) (defScope t__law_received) .none kV8 dc8 pm8 an8 cd8 ct8), sl8⟩) (e8 : PySem.W.codeIn K cd8 "_law_received" = true) (k8 : PySem.W.keepIn K (.ref f8) = true)
    (a9 : PySem.W.nsIn K mainGlobals "holds" = some (some (.ref f9))) (l9 : K.lookup f9 = some ⟨oc9, od9, .func (PySem.W.fnOf "holds" "holds" (defArgs t_holds) (defBody t_holds) (defScope t_holds) .none kV9 dc9 pm9 an9 cd9 ct9), sl9⟩) (e9 : PySem.W.codeIn K cd9 "holds" = true) (k9 : PySem.W.keepIn K (.ref f9) = true)
    (a10 : PySem.W.nsIn K mainGlobals "counter" = some (some (.ref f10))) (l10 : K.lookup f10 = some ⟨oc10, od10, .func (PySem.W.fnOf "counter" "counter" (defArgs t_counter) (defBody t_counter) (defScope t_counter) .none kV10 dc10 pm10 an10 cd10 ct10), sl10⟩) (e10 : PySem.W.codeIn K cd10 "counter" = true) (k10 : PySem.W.keepIn K (.ref f10) = true)
    (a11 : PySem.W.nsIn K mainGlobals "_law_fields" = some (some (.ref f11))) (l11 : K.lookup f11 = some ⟨oc11, od11, .func (PySem.W.fnOf "_law_fields" "_law_fields" (defArgs t__law_fields) (defBody t__law_fields) (defScope t__law_fields) .none kV11 dc11 pm11 an11 cd11 ct11), sl11⟩) (e11 : PySem.W.codeIn K cd11 "_law_fields" = true) (k11 : PySem.W.keepIn K (.ref f11) = true)
    (a12 : PySem.W.nsIn K mainGlobals "_law_right" = some (some (.ref f12))) (l12 : K.lookup f12 = some ⟨oc12, od12, .func (PySem.W.fnOf "_law_right" "_law_right" (defArgs t__law_right) (defBody t__law_right) (defScope t__law_right) .none kV12 dc12 pm12 an12 cd12 ct12), sl12⟩) (e12 : PySem.W.codeIn K cd12 "_law_right" = true) (k12 : PySem.W.keepIn K (.ref f12) = true)
    (a13 : PySem.W.nsIn K mainGlobals "law" = some (some (.ref f13))) (l13 : K.lookup f13 = some ⟨oc13, od13, .func (PySem.W.fnOf "law" "law" (defArgs t_law) (defBody t_law) (defScope t_law) .none kV13 dc13 pm13 an13 cd13 ct13), sl13⟩) (e13 : PySem.W.codeIn K cd13 "law" = true) (k13 : PySem.W.keepIn K (.ref f13) = true)
    (y_all : PySem.W.nsIn K mainGlobals "all" = some none) (y_len : PySem.W.nsIn K mainGlobals "len" = some none) (y_int : PySem.W.nsIn K mainGlobals "int" = some none) (y_range : PySem.W.nsIn K mainGlobals "range" = some none) (y_list : PySem.W.nsIn K mainGlobals "list" = some none) (y_sorted : PySem.W.nsIn K mainGlobals "sorted" = some none) (y_str : PySem.W.nsIn K mainGlobals "str" = some none) (y_isinstance : PySem.W.nsIn K mainGlobals "isinstance" = some none) (y_bool : PySem.W.nsIn K mainGlobals "bool" = some none) :
    ∃ fd : FuncData, (∀ (s : Shared) (v : Value), BindsTo s fd ⟨[v], []⟩ [("script", v)]) ∧ ∀ base : Heap, K.In base → base.Ns mainGlobals mg → FnOk l.prog w K mg base (L2.CX l.prog w) 5 fa fd ["script"] (spTop K) := by
  have e := hfa.symm.trans (PySem.W.mg_of X G a13)
  cases e
  have z_all : mg "all" = none := PySem.W.mg_none_of X G y_all
  have z_len : mg "len" = none := PySem.W.mg_none_of X G y_len
  have z_int : mg "int" = none := PySem.W.mg_none_of X G y_int
  have z_range : mg "range" = none := PySem.W.mg_none_of X G y_range
  have z_list : mg "list" = none := PySem.W.mg_none_of X G y_list
  have z_sorted : mg "sorted" = none := PySem.W.mg_none_of X G y_sorted
  have z_str : mg "str" = none := PySem.W.mg_none_of X G y_str
  have z_isinstance : mg "isinstance" = none := PySem.W.mg_none_of X G y_isinstance
  have z_bool : mg "bool" = none := PySem.W.mg_none_of X G y_bool
  refine ⟨PySem.W.fnOf "law" "law" (defArgs t_law) (defBody t_law) (defScope t_law) .none kV13 dc13 pm13 an13 cd13 ct13, fun s v => .of_eq rfl, fun base _ _ => ?_⟩
  have F0 := fun_mk (st := t_has_all) l0 e0 k0
  have c_has_all : Cal l.prog w K mg base ⟨K, mg⟩ "has_all" 1 ["filling", "part"] [.frz, .frz] .frz m_has_all := cal_mk F0 (PySem.W.mg_of X G a0) (F0.binds (ps := ["filling", "part"]) fun _ _ _ _ _ _ us hl => match us, hl with | [_, _], _ => rfl) (d_has_all F0 z_all)
  have F1 := fun_mk (st := t__law_numbers) l1 e1 k1
  have c__law_numbers : Cal l.prog w K mg base ⟨K, mg⟩ "_law_numbers" 1 ["script", "at", "count"] [.frz, .frz, .frz] .frz m__law_numbers := cal_mk F1 (PySem.W.mg_of X G a1) (F1.binds (ps := ["script", "at", "count"]) fun _ _ _ _ _ _ us hl => match us, hl with | [_, _, _], _ => rfl) (d__law_numbers F1 z_len z_int z_range)
  have F2 := fun_mk (st := t__law_name) l2 e2 k2
  have c__law_name : Cal l.prog w K mg base ⟨K, mg⟩ "_law_name" 1 ["first", "size", "mix"] [.frz, .frz, .frz] .frz m__law_name := cal_mk F2 (PySem.W.mg_of X G a2) (F2.binds (ps := ["first", "size", "mix"]) fun _ _ _ _ _ _ us hl => match us, hl with | [_, _, _], _ => rfl) (d__law_name F2 z_range)
  have F3 := fun_mk (st := t__law_copy) l3 e3 k3
  have c__law_copy : Cal l.prog w K mg base ⟨K, mg⟩ "_law_copy" 1 ["received"] [.frz] .frz m__law_copy := cal_mk F3 (PySem.W.mg_of X G a3) (F3.binds (ps := ["received"]) fun _ _ _ _ _ _ us hl => match us, hl with | [_], _ => rfl) (d__law_copy F3 z_list)
  have F4 := fun_mk (st := t__law_against) l4 e4 k4
  have c__law_against : Cal l.prog w K mg base ⟨K, mg⟩ "_law_against" 1 ["received", "left", "right"] [.frz, .frz, .frz] .frz m__law_against := cal_mk F4 (PySem.W.mg_of X G a4) (F4.binds (ps := ["received", "left", "right"]) fun _ _ _ _ _ _ us hl => match us, hl with | [_, _, _], _ => rfl) (d__law_against F4 z_sorted)
  have F5 := fun_mk (st := t__law_lefts) l5 e5 k5
  have c__law_lefts : Cal l.prog w K mg base ⟨K, mg⟩ "_law_lefts" 1 ["received", "fields", "n"] [.frz, .frz, .frz] .frz m__law_lefts := cal_mk F5 (PySem.W.mg_of X G a5) (F5.binds (ps := ["received", "fields", "n"]) fun _ _ _ _ _ _ us hl => match us, hl with | [_, _, _], _ => rfl) (d__law_lefts F5 z_range z_len z_list)
  have F6 := fun_mk (st := t_against) l6 e6 k6
  have c_against : Cal l.prog w K mg base ⟨K, mg⟩ "against" 2 ["received", "left", "right"] [.frz, .frz, .frz] .frz m_against := cal_mk F6 (PySem.W.mg_of X G a6) (F6.binds (ps := ["received", "left", "right"]) fun _ _ _ _ _ _ us hl => match us, hl with | [_, _, _], _ => rfl) (d_against F6 c_has_all z_sorted)
  have F7 := fun_mk (st := t__law_names) l7 e7 k7
  have c__law_names : Cal l.prog w K mg base ⟨K, mg⟩ "_law_names" 2 ["numbers", "count"] [.frz, .frz] .frz m__law_names := cal_mk F7 (PySem.W.mg_of X G a7) (F7.binds (ps := ["numbers", "count"]) fun _ _ _ _ _ _ us hl => match us, hl with | [_, _], _ => rfl) (d__law_names F7 c__law_name z_range z_len)
  have F8 := fun_mk (st := t__law_received) l8 e8 k8
  have c__law_received : Cal l.prog w K mg base ⟨K, mg⟩ "_law_received" 2 ["script", "at", "fields", "many", "alike"] [.frz, .frz, .frz, .frz, .frz] .frz m__law_received := cal_mk F8 (PySem.W.mg_of X G a8) (F8.binds (ps := ["script", "at", "fields", "many", "alike"]) fun _ _ _ _ _ _ us hl => match us, hl with | [_, _, _, _, _], _ => rfl) (d__law_received F8 c__law_numbers z_range z_len)
  have F9 := fun_mk (st := t_holds) l9 e9 k9
  have c_holds : Cal l.prog w K mg base ⟨K, mg⟩ "holds" 3 ["received", "left", "right"] [.frz, .frz, .frz] .frz m_holds := cal_mk F9 (PySem.W.mg_of X G a9) (F9.binds (ps := ["received", "left", "right"]) fun _ _ _ _ _ _ us hl => match us, hl with | [_, _, _], _ => rfl) (d_holds F9 c_against)
  have F10 := fun_mk (st := t_counter) l10 e10 k10
  have c_counter : Cal l.prog w K mg base ⟨K, mg⟩ "counter" 3 ["received", "left", "right"] [.frz, .frz, .frz] .frz m_counter := cal_mk F10 (PySem.W.mg_of X G a10) (F10.binds (ps := ["received", "left", "right"]) fun _ _ _ _ _ _ us hl => match us, hl with | [_, _, _], _ => rfl) (d_counter F10 c_against)
  have F11 := fun_mk (st := t__law_fields) l11 e11 k11
  have c__law_fields : Cal l.prog w K mg base ⟨K, mg⟩ "_law_fields" 3 ["script", "at", "count"] [.frz, .frz, .frz] .frz m__law_fields := cal_mk F11 (PySem.W.mg_of X G a11) (F11.binds (ps := ["script", "at", "count"]) fun _ _ _ _ _ _ us hl => match us, hl with | [_, _, _], _ => rfl) (d__law_fields F11 c__law_numbers c__law_names c__law_name z_sorted z_range z_str)
  have F12 := fun_mk (st := t__law_right) l12 e12 k12
  have c__law_right : Cal l.prog w K mg base ⟨K, mg⟩ "_law_right" 4 ["passed", "received", "left", "right"] [.frz, .frz, .frz, .frz] .frz m__law_right := cal_mk F12 (PySem.W.mg_of X G a12) (F12.binds (ps := ["passed", "received", "left", "right"]) fun _ _ _ _ _ _ us hl => match us, hl with | [_, _, _, _], _ => rfl) (d__law_right F12 c__law_against c_holds c_counter z_list z_isinstance z_bool z_int)
  exact root_top (d_law (fun_mk (st := t_law) l13 e13 k13) c__law_numbers c__law_fields c__law_received c__law_copy c__law_lefts c__law_right c_holds z_range z_len z_sorted z_list) HL
end Vl.Kx
namespace Vl.Kx
open PySem PySem.Spec PyProof.Rows L2
def inR (x : Int) : Prop := 0 ≤ x ∧ x < 1009
def Nums (n : Nat) (d : D) : Prop := ∃ xs : List Int, d = .lst (xs.map .int) ∧ xs.length = n ∧ ∀ x ∈ xs, inR x
def Nm (s : List Nat) : Prop := 1 ≤ s.length ∧ s.length ≤ 12
theorem inR_mod (x : Int) : inR (x % 1009) := ⟨Int.emod_nonneg _ (by decide), Int.emod_lt_of_pos _ (by decide)⟩
theorem numbers_ok (ns : List Int) (a n : Nat) (hn : n ≤ 100) : Ok (m__law_numbers [.scr ns, .int a, .int n]) (Nums n) := by
  rw [r__law_numbers]
  unfold b__law_numbers
  refine fw_cut (fun ρ' => ∃ c : Int, ρ' = [some (.scr ns), some (.int a), some (.int n), some (.int c), none, none, none]) ?_ ?_
  · try simp (config := {decide := true}) only [fw_seq, fw_nil, fw_set, fw_ret, fw_retN, fw_if, fw_expr, fw_app, fw_aug, fw_put, fw_augIx, fw_asg, fw_par, fw_nx, fw_bk, fw_ct, ok_var, okv_some, okl_lst, okt_tup, oks_str, oki_int, okb_bl, ok_K, ok_bin, ok_un, ok_cmp, ok_val, ok_tru, ok_and, ok_or, ok_not, ok_eAnd, ok_eOr, ok_eNot, ok_if, ok_nil, ok_cons, ok_lst, ok_tup, ok_call, ok_fn, ok_chain, oko_cB, ok_eChain, ok_pNone, ok_pSome, ok_sl, ok_iLst, ok_iTupl, ok_iRng, ok_iStr, ok_yes, oko_some, ok_ok, oko_gN, oko_gT, oko_gNil, oko_gCons, add_ii, add_ss, add_ll, cat_ll, sub_ii, mul_cl, mul_cr, div_ii, mod_ii, pow_ii, iadd_ii, iadd_ss, neg_i, cmp_ii, cmp_ss, in_strs, nin_strs, in_ints, eq_strs, ne_strs, eq_str, ne_str, eq_int, ne_int, sorted_ints, sorted_strs, cutG_map, wipeD_nil, wipeD_cons, atI_two0, atI_two1, atI_c0, atI_c1, isi_bb, isi_ib, isi_ii, eq_bl, ne_bl, eq_nilI, eq_nilS, ne_nilS, List.length_map, in_c, nin_c, is_nn, is_in, is_sn, is_ln, is_tn, oko_isnt, tru_b, tru_n, tru_i, tru_s, tru_l, tru_t, tru_r, len_l, len_t, len_s, len_r, ix_l, ix_t, ix_s, ix_r, int_i, list_l, list_t, sl_l, sl_s, slL_l, repl_s, rng_1, rng_2, List.getElem?_cons_succ, List.getElem?_cons_zero, List.set_cons_succ, List.set_cons_zero, true_and, and_true, Bool.false_eq_true, if_true, if_false, ite_true, ite_false, reduceIte, Bool.not_true, Bool.not_false, Bool.and_true, Bool.true_and, Bool.and_false, Bool.false_and, decide_eq_true_eq, decide_true, decide_false, Bool.and_eq_true, startD, List.map_cons, List.map_nil, List.length_cons, List.length_nil, List.cons_append, List.nil_append, List.zip_cons_cons, List.zip_nil_left, List.zip_nil_right, List.foldl_cons, List.foldl_nil]
    exact ⟨_, rfl⟩
  rintro _ ⟨c, rfl⟩
  refine fw_cut (fun ρ' => ∃ c : Int, ρ' = [some (.scr ns), some (.int a), some (.int n), some (.int c), none, none, none]) ?_ ?_
  · try simp (config := {decide := true}) only [fw_seq, fw_nil, fw_set, fw_ret, fw_retN, fw_if, fw_expr, fw_app, fw_aug, fw_put, fw_augIx, fw_asg, fw_par, fw_nx, fw_bk, fw_ct, ok_var, okv_some, okl_lst, okt_tup, oks_str, oki_int, okb_bl, ok_K, ok_bin, ok_un, ok_cmp, ok_val, ok_tru, ok_and, ok_or, ok_not, ok_eAnd, ok_eOr, ok_eNot, ok_if, ok_nil, ok_cons, ok_lst, ok_tup, ok_call, ok_fn, ok_chain, oko_cB, ok_eChain, ok_pNone, ok_pSome, ok_sl, ok_iLst, ok_iTupl, ok_iRng, ok_iStr, ok_yes, oko_some, ok_ok, oko_gN, oko_gT, oko_gNil, oko_gCons, add_ii, add_ss, add_ll, cat_ll, sub_ii, mul_cl, mul_cr, div_ii, mod_ii, pow_ii, iadd_ii, iadd_ss, neg_i, cmp_ii, cmp_ss, in_strs, nin_strs, in_ints, eq_strs, ne_strs, eq_str, ne_str, eq_int, ne_int, sorted_ints, sorted_strs, cutG_map, wipeD_nil, wipeD_cons, atI_two0, atI_two1, atI_c0, atI_c1, isi_bb, isi_ib, isi_ii, eq_bl, ne_bl, eq_nilI, eq_nilS, ne_nilS, List.length_map, in_c, nin_c, is_nn, is_in, is_sn, is_ln, is_tn, oko_isnt, tru_b, tru_n, tru_i, tru_s, tru_l, tru_t, tru_r, len_l, len_t, len_s, len_r, ix_l, ix_t, ix_s, ix_r, int_i, list_l, list_t, sl_l, sl_s, slL_l, repl_s, rng_1, rng_2, List.getElem?_cons_succ, List.getElem?_cons_zero, List.set_cons_succ, List.set_cons_zero, true_and, and_true, Bool.false_eq_true, if_true, if_false, ite_true, ite_false, reduceIte, Bool.not_true, Bool.not_false, Bool.and_true, Bool.true_and, Bool.and_false, Bool.false_and, decide_eq_true_eq, decide_true, decide_false, Bool.and_eq_true, startD, List.map_cons, List.map_nil, List.length_cons, List.length_nil, List.cons_append, List.nil_append, List.zip_cons_cons, List.zip_nil_left, List.zip_nil_right, List.foldl_cons, List.foldl_nil]
    split
    · rename_i h
      rw [atI_some (by omega)]
      try simp (config := {decide := true}) only [fw_seq, fw_nil, fw_set, fw_ret, fw_retN, fw_if, fw_expr, fw_app, fw_aug, fw_put, fw_augIx, fw_asg, fw_par, fw_nx, fw_bk, fw_ct, ok_var, okv_some, okl_lst, okt_tup, oks_str, oki_int, okb_bl, ok_K, ok_bin, ok_un, ok_cmp, ok_val, ok_tru, ok_and, ok_or, ok_not, ok_eAnd, ok_eOr, ok_eNot, ok_if, ok_nil, ok_cons, ok_lst, ok_tup, ok_call, ok_fn, ok_chain, oko_cB, ok_eChain, ok_pNone, ok_pSome, ok_sl, ok_iLst, ok_iTupl, ok_iRng, ok_iStr, ok_yes, oko_some, ok_ok, oko_gN, oko_gT, oko_gNil, oko_gCons, add_ii, add_ss, add_ll, cat_ll, sub_ii, mul_cl, mul_cr, div_ii, mod_ii, pow_ii, iadd_ii, iadd_ss, neg_i, cmp_ii, cmp_ss, in_strs, nin_strs, in_ints, eq_strs, ne_strs, eq_str, ne_str, eq_int, ne_int, sorted_ints, sorted_strs, cutG_map, wipeD_nil, wipeD_cons, atI_two0, atI_two1, atI_c0, atI_c1, isi_bb, isi_ib, isi_ii, eq_bl, ne_bl, eq_nilI, eq_nilS, ne_nilS, List.length_map, in_c, nin_c, is_nn, is_in, is_sn, is_ln, is_tn, oko_isnt, tru_b, tru_n, tru_i, tru_s, tru_l, tru_t, tru_r, len_l, len_t, len_s, len_r, ix_l, ix_t, ix_s, ix_r, int_i, list_l, list_t, sl_l, sl_s, slL_l, repl_s, rng_1, rng_2, List.getElem?_cons_succ, List.getElem?_cons_zero, List.set_cons_succ, List.set_cons_zero, true_and, and_true, Bool.false_eq_true, if_true, if_false, ite_true, ite_false, reduceIte, Bool.not_true, Bool.not_false, Bool.and_true, Bool.true_and, Bool.and_false, Bool.false_and, decide_eq_true_eq, decide_true, decide_false, Bool.and_eq_true, startD, List.map_cons, List.map_nil, List.length_cons, List.length_nil, List.cons_append, List.nil_append, List.zip_cons_cons, List.zip_nil_left, List.zip_nil_right, List.foldl_cons, List.foldl_nil]
      exact ⟨_, rfl⟩
    · exact ⟨_, rfl⟩
  rintro _ ⟨c, rfl⟩
  refine fw_cut (fun ρ' => ∃ c : Int, ρ' = [some (.scr ns), some (.int a), some (.int n), some (.int c), none, none, none]) ?_ ?_
  · try simp (config := {decide := true}) only [fw_seq, fw_nil, fw_set, fw_ret, fw_retN, fw_if, fw_expr, fw_app, fw_aug, fw_put, fw_augIx, fw_asg, fw_par, fw_nx, fw_bk, fw_ct, ok_var, okv_some, okl_lst, okt_tup, oks_str, oki_int, okb_bl, ok_K, ok_bin, ok_un, ok_cmp, ok_val, ok_tru, ok_and, ok_or, ok_not, ok_eAnd, ok_eOr, ok_eNot, ok_if, ok_nil, ok_cons, ok_lst, ok_tup, ok_call, ok_fn, ok_chain, oko_cB, ok_eChain, ok_pNone, ok_pSome, ok_sl, ok_iLst, ok_iTupl, ok_iRng, ok_iStr, ok_yes, oko_some, ok_ok, oko_gN, oko_gT, oko_gNil, oko_gCons, add_ii, add_ss, add_ll, cat_ll, sub_ii, mul_cl, mul_cr, div_ii, mod_ii, pow_ii, iadd_ii, iadd_ss, neg_i, cmp_ii, cmp_ss, in_strs, nin_strs, in_ints, eq_strs, ne_strs, eq_str, ne_str, eq_int, ne_int, sorted_ints, sorted_strs, cutG_map, wipeD_nil, wipeD_cons, atI_two0, atI_two1, atI_c0, atI_c1, isi_bb, isi_ib, isi_ii, eq_bl, ne_bl, eq_nilI, eq_nilS, ne_nilS, List.length_map, in_c, nin_c, is_nn, is_in, is_sn, is_ln, is_tn, oko_isnt, tru_b, tru_n, tru_i, tru_s, tru_l, tru_t, tru_r, len_l, len_t, len_s, len_r, ix_l, ix_t, ix_s, ix_r, int_i, list_l, list_t, sl_l, sl_s, slL_l, repl_s, rng_1, rng_2, List.getElem?_cons_succ, List.getElem?_cons_zero, List.set_cons_succ, List.set_cons_zero, true_and, and_true, Bool.false_eq_true, if_true, if_false, ite_true, ite_false, reduceIte, Bool.not_true, Bool.not_false, Bool.and_true, Bool.true_and, Bool.and_false, Bool.false_and, decide_eq_true_eq, decide_true, decide_false, Bool.and_eq_true, startD, List.map_cons, List.map_nil, List.length_cons, List.length_nil, List.cons_append, List.nil_append, List.zip_cons_cons, List.zip_nil_left, List.zip_nil_right, List.foldl_cons, List.foldl_nil]
    split
    · exact ⟨_, rfl⟩
    · exact ⟨_, rfl⟩
  rintro _ ⟨c, rfl⟩
  rw [fw_seq]
  try simp (config := {decide := true}) only [fw_seq, fw_nil, fw_set, fw_ret, fw_retN, fw_if, fw_expr, fw_app, fw_aug, fw_put, fw_augIx, fw_asg, fw_par, fw_nx, fw_bk, fw_ct, ok_var, okv_some, okl_lst, okt_tup, oks_str, oki_int, okb_bl, ok_K, ok_bin, ok_un, ok_cmp, ok_val, ok_tru, ok_and, ok_or, ok_not, ok_eAnd, ok_eOr, ok_eNot, ok_if, ok_nil, ok_cons, ok_lst, ok_tup, ok_call, ok_fn, ok_chain, oko_cB, ok_eChain, ok_pNone, ok_pSome, ok_sl, ok_iLst, ok_iTupl, ok_iRng, ok_iStr, ok_yes, oko_some, ok_ok, oko_gN, oko_gT, oko_gNil, oko_gCons, add_ii, add_ss, add_ll, cat_ll, sub_ii, mul_cl, mul_cr, div_ii, mod_ii, pow_ii, iadd_ii, iadd_ss, neg_i, cmp_ii, cmp_ss, in_strs, nin_strs, in_ints, eq_strs, ne_strs, eq_str, ne_str, eq_int, ne_int, sorted_ints, sorted_strs, cutG_map, wipeD_nil, wipeD_cons, atI_two0, atI_two1, atI_c0, atI_c1, isi_bb, isi_ib, isi_ii, eq_bl, ne_bl, eq_nilI, eq_nilS, ne_nilS, List.length_map, in_c, nin_c, is_nn, is_in, is_sn, is_ln, is_tn, oko_isnt, tru_b, tru_n, tru_i, tru_s, tru_l, tru_t, tru_r, len_l, len_t, len_s, len_r, ix_l, ix_t, ix_s, ix_r, int_i, list_l, list_t, sl_l, sl_s, slL_l, repl_s, rng_1, rng_2, List.getElem?_cons_succ, List.getElem?_cons_zero, List.set_cons_succ, List.set_cons_zero, true_and, and_true, Bool.false_eq_true, if_true, if_false, ite_true, ite_false, reduceIte, Bool.not_true, Bool.not_false, Bool.and_true, Bool.true_and, Bool.and_false, Bool.false_and, decide_eq_true_eq, decide_true, decide_false, Bool.and_eq_true, startD, List.map_cons, List.map_nil, List.length_cons, List.length_nil, List.cons_append, List.nil_append, List.zip_cons_cons, List.zip_nil_left, List.zip_nil_right, List.foldl_cons, List.foldl_nil, Nat.zero_le]
  refine fw_range (n := n) (fun j ρ' => ∃ (c : Int) (xs : List Int) (u v : _), ρ' = [some (.scr ns), some (.int a), some (.int n), some (.int c), some (.lst (xs.map .int)), u, v] ∧ xs.length = j ∧ ∀ x ∈ xs, inR x) ?_ ?_ ?_ ?_
  · try simp (config := {decide := true}) only [fw_seq, fw_nil, fw_set, fw_ret, fw_retN, fw_if, fw_expr, fw_app, fw_aug, fw_put, fw_augIx, fw_asg, fw_par, fw_nx, fw_bk, fw_ct, ok_var, okv_some, okl_lst, okt_tup, oks_str, oki_int, okb_bl, ok_K, ok_bin, ok_un, ok_cmp, ok_val, ok_tru, ok_and, ok_or, ok_not, ok_eAnd, ok_eOr, ok_eNot, ok_if, ok_nil, ok_cons, ok_lst, ok_tup, ok_call, ok_fn, ok_chain, oko_cB, ok_eChain, ok_pNone, ok_pSome, ok_sl, ok_iLst, ok_iTupl, ok_iRng, ok_iStr, ok_yes, oko_some, ok_ok, oko_gN, oko_gT, oko_gNil, oko_gCons, add_ii, add_ss, add_ll, cat_ll, sub_ii, mul_cl, mul_cr, div_ii, mod_ii, pow_ii, iadd_ii, iadd_ss, neg_i, cmp_ii, cmp_ss, in_strs, nin_strs, in_ints, eq_strs, ne_strs, eq_str, ne_str, eq_int, ne_int, sorted_ints, sorted_strs, cutG_map, wipeD_nil, wipeD_cons, atI_two0, atI_two1, atI_c0, atI_c1, isi_bb, isi_ib, isi_ii, eq_bl, ne_bl, eq_nilI, eq_nilS, ne_nilS, List.length_map, in_c, nin_c, is_nn, is_in, is_sn, is_ln, is_tn, oko_isnt, tru_b, tru_n, tru_i, tru_s, tru_l, tru_t, tru_r, len_l, len_t, len_s, len_r, ix_l, ix_t, ix_s, ix_r, int_i, list_l, list_t, sl_l, sl_s, slL_l, repl_s, rng_1, rng_2, List.getElem?_cons_succ, List.getElem?_cons_zero, List.set_cons_succ, List.set_cons_zero, true_and, and_true, Bool.false_eq_true, if_true, if_false, ite_true, ite_false, reduceIte, Bool.not_true, Bool.not_false, Bool.and_true, Bool.true_and, Bool.and_false, Bool.false_and, decide_eq_true_eq, decide_true, decide_false, Bool.and_eq_true, startD, List.map_cons, List.map_nil, List.length_cons, List.length_nil, List.cons_append, List.nil_append, List.zip_cons_cons, List.zip_nil_left, List.zip_nil_right, List.foldl_cons, List.foldl_nil]
    exact rng_ok (by omega)
  · exact ⟨c, [], _, _, rfl, rfl, by simp⟩
  · rintro j _ hj ⟨c, xs, u, v, rfl, h1, h2⟩
    have app : ∀ y : Int, xs.length < sizeLine ∧ xs.map D.int ++ [.int (y % 1009)] = (xs ++ [y % 1009]).map D.int ∧ (xs ++ [y % 1009]).length = j + 1 ∧ ∀ x ∈ xs ++ [y % 1009], inR x := fun y =>
      ⟨by rw [sizeLine_eq]; omega, by rw [List.map_append]; rfl, by rw [List.length_append, h1]; rfl, fun x hx => by
        rcases List.mem_append.mp hx with hx | hx
        · exact h2 x hx
        · rw [List.mem_singleton.mp hx]; exact inR_mod y⟩
    try simp (config := {decide := true}) only [fw_seq, fw_nil, fw_set, fw_ret, fw_retN, fw_if, fw_expr, fw_app, fw_aug, fw_put, fw_augIx, fw_asg, fw_par, fw_nx, fw_bk, fw_ct, ok_var, okv_some, okl_lst, okt_tup, oks_str, oki_int, okb_bl, ok_K, ok_bin, ok_un, ok_cmp, ok_val, ok_tru, ok_and, ok_or, ok_not, ok_eAnd, ok_eOr, ok_eNot, ok_if, ok_nil, ok_cons, ok_lst, ok_tup, ok_call, ok_fn, ok_chain, oko_cB, ok_eChain, ok_pNone, ok_pSome, ok_sl, ok_iLst, ok_iTupl, ok_iRng, ok_iStr, ok_yes, oko_some, ok_ok, oko_gN, oko_gT, oko_gNil, oko_gCons, add_ii, add_ss, add_ll, cat_ll, sub_ii, mul_cl, mul_cr, div_ii, mod_ii, pow_ii, iadd_ii, iadd_ss, neg_i, cmp_ii, cmp_ss, in_strs, nin_strs, in_ints, eq_strs, ne_strs, eq_str, ne_str, eq_int, ne_int, sorted_ints, sorted_strs, cutG_map, wipeD_nil, wipeD_cons, atI_two0, atI_two1, atI_c0, atI_c1, isi_bb, isi_ib, isi_ii, eq_bl, ne_bl, eq_nilI, eq_nilS, ne_nilS, List.length_map, in_c, nin_c, is_nn, is_in, is_sn, is_ln, is_tn, oko_isnt, tru_b, tru_n, tru_i, tru_s, tru_l, tru_t, tru_r, len_l, len_t, len_s, len_r, ix_l, ix_t, ix_s, ix_r, int_i, list_l, list_t, sl_l, sl_s, slL_l, repl_s, rng_1, rng_2, List.getElem?_cons_succ, List.getElem?_cons_zero, List.set_cons_succ, List.set_cons_zero, true_and, and_true, Bool.false_eq_true, if_true, if_false, ite_true, ite_false, reduceIte, Bool.not_true, Bool.not_false, Bool.and_true, Bool.true_and, Bool.and_false, Bool.false_and, decide_eq_true_eq, decide_true, decide_false, Bool.and_eq_true, startD, List.map_cons, List.map_nil, List.length_cons, List.length_nil, List.cons_append, List.nil_append, List.zip_cons_cons, List.zip_nil_left, List.zip_nil_right, List.foldl_cons, List.foldl_nil]
    split
    · obtain ⟨a1, a2, a3, a4⟩ := app c
      exact ⟨a1, _, _, _, _, by rw [a2], a3, a4⟩
    · have hm : small64 ((c * 48271 + ((j : Int) + 1) * 69621 + (a : Int) * 4001) % 2147483647) = true := small64_of (by omega) (by omega)
      try simp (config := {decide := true}) only [fw_seq, fw_nil, fw_set, fw_ret, fw_retN, fw_if, fw_expr, fw_app, fw_aug, fw_put, fw_augIx, fw_asg, fw_par, fw_nx, fw_bk, fw_ct, ok_var, okv_some, okl_lst, okt_tup, oks_str, oki_int, okb_bl, ok_K, ok_bin, ok_un, ok_cmp, ok_val, ok_tru, ok_and, ok_or, ok_not, ok_eAnd, ok_eOr, ok_eNot, ok_if, ok_nil, ok_cons, ok_lst, ok_tup, ok_call, ok_fn, ok_chain, oko_cB, ok_eChain, ok_pNone, ok_pSome, ok_sl, ok_iLst, ok_iTupl, ok_iRng, ok_iStr, ok_yes, oko_some, ok_ok, oko_gN, oko_gT, oko_gNil, oko_gCons, add_ii, add_ss, add_ll, cat_ll, sub_ii, mul_cl, mul_cr, div_ii, mod_ii, pow_ii, iadd_ii, iadd_ss, neg_i, cmp_ii, cmp_ss, in_strs, nin_strs, in_ints, eq_strs, ne_strs, eq_str, ne_str, eq_int, ne_int, sorted_ints, sorted_strs, cutG_map, wipeD_nil, wipeD_cons, atI_two0, atI_two1, atI_c0, atI_c1, isi_bb, isi_ib, isi_ii, eq_bl, ne_bl, eq_nilI, eq_nilS, ne_nilS, List.length_map, in_c, nin_c, is_nn, is_in, is_sn, is_ln, is_tn, oko_isnt, tru_b, tru_n, tru_i, tru_s, tru_l, tru_t, tru_r, len_l, len_t, len_s, len_r, ix_l, ix_t, ix_s, ix_r, int_i, list_l, list_t, sl_l, sl_s, slL_l, repl_s, rng_1, rng_2, List.getElem?_cons_succ, List.getElem?_cons_zero, List.set_cons_succ, List.set_cons_zero, true_and, and_true, Bool.false_eq_true, if_true, if_false, ite_true, ite_false, reduceIte, Bool.not_true, Bool.not_false, Bool.and_true, Bool.true_and, Bool.and_false, Bool.false_and, decide_eq_true_eq, decide_true, decide_false, Bool.and_eq_true, startD, List.map_cons, List.map_nil, List.length_cons, List.length_nil, List.cons_append, List.nil_append, List.zip_cons_cons, List.zip_nil_left, List.zip_nil_right, List.foldl_cons, List.foldl_nil, hm]
      obtain ⟨a1, a2, a3, a4⟩ := app (((c * 48271 + ((j : Int) + 1) * 69621 + (a : Int) * 4001) % 2147483647 * ((c * 48271 + ((j : Int) + 1) * 69621 + (a : Int) * 4001) % 2147483647) + 16807 * ((j : Int) + 3)) % 2147483629 / 7)
      exact ⟨a1, _, _, _, _, by rw [a2], a3, a4⟩
  · rintro _ ⟨c, xs, u, v, rfl, h1, h2⟩
    try simp (config := {decide := true}) only [fw_seq, fw_nil, fw_set, fw_ret, fw_retN, fw_if, fw_expr, fw_app, fw_aug, fw_put, fw_augIx, fw_asg, fw_par, fw_nx, fw_bk, fw_ct, ok_var, okv_some, okl_lst, okt_tup, oks_str, oki_int, okb_bl, ok_K, ok_bin, ok_un, ok_cmp, ok_val, ok_tru, ok_and, ok_or, ok_not, ok_eAnd, ok_eOr, ok_eNot, ok_if, ok_nil, ok_cons, ok_lst, ok_tup, ok_call, ok_fn, ok_chain, oko_cB, ok_eChain, ok_pNone, ok_pSome, ok_sl, ok_iLst, ok_iTupl, ok_iRng, ok_iStr, ok_yes, oko_some, ok_ok, oko_gN, oko_gT, oko_gNil, oko_gCons, add_ii, add_ss, add_ll, cat_ll, sub_ii, mul_cl, mul_cr, div_ii, mod_ii, pow_ii, iadd_ii, iadd_ss, neg_i, cmp_ii, cmp_ss, in_strs, nin_strs, in_ints, eq_strs, ne_strs, eq_str, ne_str, eq_int, ne_int, sorted_ints, sorted_strs, cutG_map, wipeD_nil, wipeD_cons, atI_two0, atI_two1, atI_c0, atI_c1, isi_bb, isi_ib, isi_ii, eq_bl, ne_bl, eq_nilI, eq_nilS, ne_nilS, List.length_map, in_c, nin_c, is_nn, is_in, is_sn, is_ln, is_tn, oko_isnt, tru_b, tru_n, tru_i, tru_s, tru_l, tru_t, tru_r, len_l, len_t, len_s, len_r, ix_l, ix_t, ix_s, ix_r, int_i, list_l, list_t, sl_l, sl_s, slL_l, repl_s, rng_1, rng_2, List.getElem?_cons_succ, List.getElem?_cons_zero, List.set_cons_succ, List.set_cons_zero, true_and, and_true, Bool.false_eq_true, if_true, if_false, ite_true, ite_false, reduceIte, Bool.not_true, Bool.not_false, Bool.and_true, Bool.true_and, Bool.and_false, Bool.false_and, decide_eq_true_eq, decide_true, decide_false, Bool.and_eq_true, startD, List.map_cons, List.map_nil, List.length_cons, List.length_nil, List.cons_append, List.nil_append, List.zip_cons_cons, List.zip_nil_left, List.zip_nil_right, List.foldl_cons, List.foldl_nil]
    exact ⟨xs, rfl, h1, h2⟩
theorem name_ok (f sz mx : Int) : Ok (m__law_name [.int f, .int sz, .int mx]) fun d => ∃ s, d = .str s ∧ Nm s := by
  rw [r__law_name]
  unfold b__law_name
  try simp (config := {decide := true}) only [fw_seq, fw_nil, fw_set, fw_ret, fw_retN, fw_if, fw_expr, fw_app, fw_aug, fw_put, fw_augIx, fw_asg, fw_par, fw_nx, fw_bk, fw_ct, ok_var, okv_some, okl_lst, okt_tup, oks_str, oki_int, okb_bl, ok_K, ok_bin, ok_un, ok_cmp, ok_val, ok_tru, ok_and, ok_or, ok_not, ok_eAnd, ok_eOr, ok_eNot, ok_if, ok_nil, ok_cons, ok_lst, ok_tup, ok_call, ok_fn, ok_chain, oko_cB, ok_eChain, ok_pNone, ok_pSome, ok_sl, ok_iLst, ok_iTupl, ok_iRng, ok_iStr, ok_yes, oko_some, ok_ok, oko_gN, oko_gT, oko_gNil, oko_gCons, add_ii, add_ss, add_ll, cat_ll, sub_ii, mul_cl, mul_cr, div_ii, mod_ii, pow_ii, iadd_ii, iadd_ss, neg_i, cmp_ii, cmp_ss, in_strs, nin_strs, in_ints, eq_strs, ne_strs, eq_str, ne_str, eq_int, ne_int, sorted_ints, sorted_strs, cutG_map, wipeD_nil, wipeD_cons, atI_two0, atI_two1, atI_c0, atI_c1, isi_bb, isi_ib, isi_ii, eq_bl, ne_bl, eq_nilI, eq_nilS, ne_nilS, List.length_map, in_c, nin_c, is_nn, is_in, is_sn, is_ln, is_tn, oko_isnt, tru_b, tru_n, tru_i, tru_s, tru_l, tru_t, tru_r, len_l, len_t, len_s, len_r, ix_l, ix_t, ix_s, ix_r, int_i, list_l, list_t, sl_l, sl_s, slL_l, repl_s, rng_1, rng_2, List.getElem?_cons_succ, List.getElem?_cons_zero, List.set_cons_succ, List.set_cons_zero, true_and, and_true, Bool.false_eq_true, if_true, if_false, ite_true, ite_false, reduceIte, Bool.not_true, Bool.not_false, Bool.and_true, Bool.true_and, Bool.and_false, Bool.false_and, decide_eq_true_eq, decide_true, decide_false, Bool.and_eq_true, startD, List.map_cons, List.map_nil, List.length_cons, List.length_nil, List.cons_append, List.nil_append, List.zip_cons_cons, List.zip_nil_left, List.zip_nil_right, List.foldl_cons, List.foldl_nil, sizeLine_eq]
  refine oko_ix (by omega) (by simp; omega) fun c _ => ?_
  try simp (config := {decide := true}) only [fw_seq, fw_nil, fw_set, fw_ret, fw_retN, fw_if, fw_expr, fw_app, fw_aug, fw_put, fw_augIx, fw_asg, fw_par, fw_nx, fw_bk, fw_ct, ok_var, okv_some, okl_lst, okt_tup, oks_str, oki_int, okb_bl, ok_K, ok_bin, ok_un, ok_cmp, ok_val, ok_tru, ok_and, ok_or, ok_not, ok_eAnd, ok_eOr, ok_eNot, ok_if, ok_nil, ok_cons, ok_lst, ok_tup, ok_call, ok_fn, ok_chain, oko_cB, ok_eChain, ok_pNone, ok_pSome, ok_sl, ok_iLst, ok_iTupl, ok_iRng, ok_iStr, ok_yes, oko_some, ok_ok, oko_gN, oko_gT, oko_gNil, oko_gCons, add_ii, add_ss, add_ll, cat_ll, sub_ii, mul_cl, mul_cr, div_ii, mod_ii, pow_ii, iadd_ii, iadd_ss, neg_i, cmp_ii, cmp_ss, in_strs, nin_strs, in_ints, eq_strs, ne_strs, eq_str, ne_str, eq_int, ne_int, sorted_ints, sorted_strs, cutG_map, wipeD_nil, wipeD_cons, atI_two0, atI_two1, atI_c0, atI_c1, isi_bb, isi_ib, isi_ii, eq_bl, ne_bl, eq_nilI, eq_nilS, ne_nilS, List.length_map, in_c, nin_c, is_nn, is_in, is_sn, is_ln, is_tn, oko_isnt, tru_b, tru_n, tru_i, tru_s, tru_l, tru_t, tru_r, len_l, len_t, len_s, len_r, ix_l, ix_t, ix_s, ix_r, int_i, list_l, list_t, sl_l, sl_s, slL_l, repl_s, rng_1, rng_2, List.getElem?_cons_succ, List.getElem?_cons_zero, List.set_cons_succ, List.set_cons_zero, true_and, and_true, Bool.false_eq_true, if_true, if_false, ite_true, ite_false, reduceIte, Bool.not_true, Bool.not_false, Bool.and_true, Bool.true_and, Bool.and_false, Bool.false_and, decide_eq_true_eq, decide_true, decide_false, Bool.and_eq_true, startD, List.map_cons, List.map_nil, List.length_cons, List.length_nil, List.cons_append, List.nil_append, List.zip_cons_cons, List.zip_nil_left, List.zip_nil_right, List.foldl_cons, List.foldl_nil]
  refine fw_range (n := (sz % 12).toNat) (fun j ρ' => ∃ (mx : Int) (ls sg s : List Nat) (u : _), ρ' = [some (.int f), some (.int sz), some (.int mx), some (.str ls), some (.str sg), some (.str s), u] ∧ sg.length = 36 ∧ s.length = j + 1) ?_ ?_ ?_ ?_
  · try simp (config := {decide := true}) only [fw_seq, fw_nil, fw_set, fw_ret, fw_retN, fw_if, fw_expr, fw_app, fw_aug, fw_put, fw_augIx, fw_asg, fw_par, fw_nx, fw_bk, fw_ct, ok_var, okv_some, okl_lst, okt_tup, oks_str, oki_int, okb_bl, ok_K, ok_bin, ok_un, ok_cmp, ok_val, ok_tru, ok_and, ok_or, ok_not, ok_eAnd, ok_eOr, ok_eNot, ok_if, ok_nil, ok_cons, ok_lst, ok_tup, ok_call, ok_fn, ok_chain, oko_cB, ok_eChain, ok_pNone, ok_pSome, ok_sl, ok_iLst, ok_iTupl, ok_iRng, ok_iStr, ok_yes, oko_some, ok_ok, oko_gN, oko_gT, oko_gNil, oko_gCons, add_ii, add_ss, add_ll, cat_ll, sub_ii, mul_cl, mul_cr, div_ii, mod_ii, pow_ii, iadd_ii, iadd_ss, neg_i, cmp_ii, cmp_ss, in_strs, nin_strs, in_ints, eq_strs, ne_strs, eq_str, ne_str, eq_int, ne_int, sorted_ints, sorted_strs, cutG_map, wipeD_nil, wipeD_cons, atI_two0, atI_two1, atI_c0, atI_c1, isi_bb, isi_ib, isi_ii, eq_bl, ne_bl, eq_nilI, eq_nilS, ne_nilS, List.length_map, in_c, nin_c, is_nn, is_in, is_sn, is_ln, is_tn, oko_isnt, tru_b, tru_n, tru_i, tru_s, tru_l, tru_t, tru_r, len_l, len_t, len_s, len_r, ix_l, ix_t, ix_s, ix_r, int_i, list_l, list_t, sl_l, sl_s, slL_l, repl_s, rng_1, rng_2, List.getElem?_cons_succ, List.getElem?_cons_zero, List.set_cons_succ, List.set_cons_zero, true_and, and_true, Bool.false_eq_true, if_true, if_false, ite_true, ite_false, reduceIte, Bool.not_true, Bool.not_false, Bool.and_true, Bool.true_and, Bool.and_false, Bool.false_and, decide_eq_true_eq, decide_true, decide_false, Bool.and_eq_true, startD, List.map_cons, List.map_nil, List.length_cons, List.length_nil, List.cons_append, List.nil_append, List.zip_cons_cons, List.zip_nil_left, List.zip_nil_right, List.foldl_cons, List.foldl_nil]
    exact (rng_okI (i := sz % 12) (by omega) (by omega)).1
  · exact ⟨mx, _, _, [c], _, rfl, rfl, rfl⟩
  · rintro j _ hj ⟨mx, ls, sg, s, u, rfl, h1, h2⟩
    try simp (config := {decide := true}) only [fw_seq, fw_nil, fw_set, fw_ret, fw_retN, fw_if, fw_expr, fw_app, fw_aug, fw_put, fw_augIx, fw_asg, fw_par, fw_nx, fw_bk, fw_ct, ok_var, okv_some, okl_lst, okt_tup, oks_str, oki_int, okb_bl, ok_K, ok_bin, ok_un, ok_cmp, ok_val, ok_tru, ok_and, ok_or, ok_not, ok_eAnd, ok_eOr, ok_eNot, ok_if, ok_nil, ok_cons, ok_lst, ok_tup, ok_call, ok_fn, ok_chain, oko_cB, ok_eChain, ok_pNone, ok_pSome, ok_sl, ok_iLst, ok_iTupl, ok_iRng, ok_iStr, ok_yes, oko_some, ok_ok, oko_gN, oko_gT, oko_gNil, oko_gCons, add_ii, add_ss, add_ll, cat_ll, sub_ii, mul_cl, mul_cr, div_ii, mod_ii, pow_ii, iadd_ii, iadd_ss, neg_i, cmp_ii, cmp_ss, in_strs, nin_strs, in_ints, eq_strs, ne_strs, eq_str, ne_str, eq_int, ne_int, sorted_ints, sorted_strs, cutG_map, wipeD_nil, wipeD_cons, atI_two0, atI_two1, atI_c0, atI_c1, isi_bb, isi_ib, isi_ii, eq_bl, ne_bl, eq_nilI, eq_nilS, ne_nilS, List.length_map, in_c, nin_c, is_nn, is_in, is_sn, is_ln, is_tn, oko_isnt, tru_b, tru_n, tru_i, tru_s, tru_l, tru_t, tru_r, len_l, len_t, len_s, len_r, ix_l, ix_t, ix_s, ix_r, int_i, list_l, list_t, sl_l, sl_s, slL_l, repl_s, rng_1, rng_2, List.getElem?_cons_succ, List.getElem?_cons_zero, List.set_cons_succ, List.set_cons_zero, true_and, and_true, Bool.false_eq_true, if_true, if_false, ite_true, ite_false, reduceIte, Bool.not_true, Bool.not_false, Bool.and_true, Bool.true_and, Bool.and_false, Bool.false_and, decide_eq_true_eq, decide_true, decide_false, Bool.and_eq_true, startD, List.map_cons, List.map_nil, List.length_cons, List.length_nil, List.cons_append, List.nil_append, List.zip_cons_cons, List.zip_nil_left, List.zip_nil_right, List.foldl_cons, List.foldl_nil]
    refine oko_ix (by omega) (by omega) fun c _ => ?_
    try simp (config := {decide := true}) only [fw_seq, fw_nil, fw_set, fw_ret, fw_retN, fw_if, fw_expr, fw_app, fw_aug, fw_put, fw_augIx, fw_asg, fw_par, fw_nx, fw_bk, fw_ct, ok_var, okv_some, okl_lst, okt_tup, oks_str, oki_int, okb_bl, ok_K, ok_bin, ok_un, ok_cmp, ok_val, ok_tru, ok_and, ok_or, ok_not, ok_eAnd, ok_eOr, ok_eNot, ok_if, ok_nil, ok_cons, ok_lst, ok_tup, ok_call, ok_fn, ok_chain, oko_cB, ok_eChain, ok_pNone, ok_pSome, ok_sl, ok_iLst, ok_iTupl, ok_iRng, ok_iStr, ok_yes, oko_some, ok_ok, oko_gN, oko_gT, oko_gNil, oko_gCons, add_ii, add_ss, add_ll, cat_ll, sub_ii, mul_cl, mul_cr, div_ii, mod_ii, pow_ii, iadd_ii, iadd_ss, neg_i, cmp_ii, cmp_ss, in_strs, nin_strs, in_ints, eq_strs, ne_strs, eq_str, ne_str, eq_int, ne_int, sorted_ints, sorted_strs, cutG_map, wipeD_nil, wipeD_cons, atI_two0, atI_two1, atI_c0, atI_c1, isi_bb, isi_ib, isi_ii, eq_bl, ne_bl, eq_nilI, eq_nilS, ne_nilS, List.length_map, in_c, nin_c, is_nn, is_in, is_sn, is_ln, is_tn, oko_isnt, tru_b, tru_n, tru_i, tru_s, tru_l, tru_t, tru_r, len_l, len_t, len_s, len_r, ix_l, ix_t, ix_s, ix_r, int_i, list_l, list_t, sl_l, sl_s, slL_l, repl_s, rng_1, rng_2, List.getElem?_cons_succ, List.getElem?_cons_zero, List.set_cons_succ, List.set_cons_zero, true_and, and_true, Bool.false_eq_true, if_true, if_false, ite_true, ite_false, reduceIte, Bool.not_true, Bool.not_false, Bool.and_true, Bool.true_and, Bool.and_false, Bool.false_and, decide_eq_true_eq, decide_true, decide_false, Bool.and_eq_true, startD, List.map_cons, List.map_nil, List.length_cons, List.length_nil, List.cons_append, List.nil_append, List.zip_cons_cons, List.zip_nil_left, List.zip_nil_right, List.foldl_cons, List.foldl_nil, sizeLine_eq]
    exact ⟨by omega, _, _, _, _, _, rfl, h1, by simp [h2]⟩
  · rintro _ ⟨mx, ls, sg, s, u, rfl, h1, h2⟩
    try simp (config := {decide := true}) only [fw_seq, fw_nil, fw_set, fw_ret, fw_retN, fw_if, fw_expr, fw_app, fw_aug, fw_put, fw_augIx, fw_asg, fw_par, fw_nx, fw_bk, fw_ct, ok_var, okv_some, okl_lst, okt_tup, oks_str, oki_int, okb_bl, ok_K, ok_bin, ok_un, ok_cmp, ok_val, ok_tru, ok_and, ok_or, ok_not, ok_eAnd, ok_eOr, ok_eNot, ok_if, ok_nil, ok_cons, ok_lst, ok_tup, ok_call, ok_fn, ok_chain, oko_cB, ok_eChain, ok_pNone, ok_pSome, ok_sl, ok_iLst, ok_iTupl, ok_iRng, ok_iStr, ok_yes, oko_some, ok_ok, oko_gN, oko_gT, oko_gNil, oko_gCons, add_ii, add_ss, add_ll, cat_ll, sub_ii, mul_cl, mul_cr, div_ii, mod_ii, pow_ii, iadd_ii, iadd_ss, neg_i, cmp_ii, cmp_ss, in_strs, nin_strs, in_ints, eq_strs, ne_strs, eq_str, ne_str, eq_int, ne_int, sorted_ints, sorted_strs, cutG_map, wipeD_nil, wipeD_cons, atI_two0, atI_two1, atI_c0, atI_c1, isi_bb, isi_ib, isi_ii, eq_bl, ne_bl, eq_nilI, eq_nilS, ne_nilS, List.length_map, in_c, nin_c, is_nn, is_in, is_sn, is_ln, is_tn, oko_isnt, tru_b, tru_n, tru_i, tru_s, tru_l, tru_t, tru_r, len_l, len_t, len_s, len_r, ix_l, ix_t, ix_s, ix_r, int_i, list_l, list_t, sl_l, sl_s, slL_l, repl_s, rng_1, rng_2, List.getElem?_cons_succ, List.getElem?_cons_zero, List.set_cons_succ, List.set_cons_zero, true_and, and_true, Bool.false_eq_true, if_true, if_false, ite_true, ite_false, reduceIte, Bool.not_true, Bool.not_false, Bool.and_true, Bool.true_and, Bool.and_false, Bool.false_and, decide_eq_true_eq, decide_true, decide_false, Bool.and_eq_true, startD, List.map_cons, List.map_nil, List.length_cons, List.length_nil, List.cons_append, List.nil_append, List.zip_cons_cons, List.zip_nil_left, List.zip_nil_right, List.foldl_cons, List.foldl_nil]
    exact ⟨s, rfl, by omega, by omega⟩
theorem names_ok (xs : List Int) (hx : xs.length = 36) (hr : ∀ x ∈ xs, inR x) (n : Nat) (hn : n ≤ 12) : Ok (m__law_names [.lst (xs.map .int), .int n]) fun d => ∃ ss : List (List Nat), d = .lst (ss.map .str) ∧ ss.length = n ∧ ∀ s ∈ ss, Nm s := by
  rw [r__law_names]
  unfold b__law_names
  try simp (config := {decide := true}) only [fw_seq, fw_nil, fw_set, fw_ret, fw_retN, fw_if, fw_expr, fw_app, fw_aug, fw_put, fw_augIx, fw_asg, fw_par, fw_nx, fw_bk, fw_ct, ok_var, okv_some, okl_lst, okt_tup, oks_str, oki_int, okb_bl, ok_K, ok_bin, ok_un, ok_cmp, ok_val, ok_tru, ok_and, ok_or, ok_not, ok_eAnd, ok_eOr, ok_eNot, ok_if, ok_nil, ok_cons, ok_lst, ok_tup, ok_call, ok_fn, ok_chain, oko_cB, ok_eChain, ok_pNone, ok_pSome, ok_sl, ok_iLst, ok_iTupl, ok_iRng, ok_iStr, ok_yes, oko_some, ok_ok, oko_gN, oko_gT, oko_gNil, oko_gCons, add_ii, add_ss, add_ll, cat_ll, sub_ii, mul_cl, mul_cr, div_ii, mod_ii, pow_ii, iadd_ii, iadd_ss, neg_i, cmp_ii, cmp_ss, in_strs, nin_strs, in_ints, eq_strs, ne_strs, eq_str, ne_str, eq_int, ne_int, sorted_ints, sorted_strs, cutG_map, wipeD_nil, wipeD_cons, atI_two0, atI_two1, atI_c0, atI_c1, isi_bb, isi_ib, isi_ii, eq_bl, ne_bl, eq_nilI, eq_nilS, ne_nilS, List.length_map, in_c, nin_c, is_nn, is_in, is_sn, is_ln, is_tn, oko_isnt, tru_b, tru_n, tru_i, tru_s, tru_l, tru_t, tru_r, len_l, len_t, len_s, len_r, ix_l, ix_t, ix_s, ix_r, int_i, list_l, list_t, sl_l, sl_s, slL_l, repl_s, rng_1, rng_2, List.getElem?_cons_succ, List.getElem?_cons_zero, List.set_cons_succ, List.set_cons_zero, true_and, and_true, Bool.false_eq_true, if_true, if_false, ite_true, ite_false, reduceIte, Bool.not_true, Bool.not_false, Bool.and_true, Bool.true_and, Bool.and_false, Bool.false_and, decide_eq_true_eq, decide_true, decide_false, Bool.and_eq_true, startD, List.map_cons, List.map_nil, List.length_cons, List.length_nil, List.cons_append, List.nil_append, List.zip_cons_cons, List.zip_nil_left, List.zip_nil_right, List.foldl_cons, List.foldl_nil, Nat.zero_le]
  refine fw_range (n := n) (fun j ρ' => ∃ (ls : List Nat) (ss : List (List Nat)) (a b c d e f : _), ρ' = [some (.lst (xs.map .int)), some (.int n), some (.str ls), some (.lst (ss.map .str)), a, b, c, d, e, f] ∧ ls.length = 26 ∧ ss.length = j ∧ ∀ s ∈ ss, Nm s) ?_ ?_ ?_ ?_
  · try simp (config := {decide := true}) only [fw_seq, fw_nil, fw_set, fw_ret, fw_retN, fw_if, fw_expr, fw_app, fw_aug, fw_put, fw_augIx, fw_asg, fw_par, fw_nx, fw_bk, fw_ct, ok_var, okv_some, okl_lst, okt_tup, oks_str, oki_int, okb_bl, ok_K, ok_bin, ok_un, ok_cmp, ok_val, ok_tru, ok_and, ok_or, ok_not, ok_eAnd, ok_eOr, ok_eNot, ok_if, ok_nil, ok_cons, ok_lst, ok_tup, ok_call, ok_fn, ok_chain, oko_cB, ok_eChain, ok_pNone, ok_pSome, ok_sl, ok_iLst, ok_iTupl, ok_iRng, ok_iStr, ok_yes, oko_some, ok_ok, oko_gN, oko_gT, oko_gNil, oko_gCons, add_ii, add_ss, add_ll, cat_ll, sub_ii, mul_cl, mul_cr, div_ii, mod_ii, pow_ii, iadd_ii, iadd_ss, neg_i, cmp_ii, cmp_ss, in_strs, nin_strs, in_ints, eq_strs, ne_strs, eq_str, ne_str, eq_int, ne_int, sorted_ints, sorted_strs, cutG_map, wipeD_nil, wipeD_cons, atI_two0, atI_two1, atI_c0, atI_c1, isi_bb, isi_ib, isi_ii, eq_bl, ne_bl, eq_nilI, eq_nilS, ne_nilS, List.length_map, in_c, nin_c, is_nn, is_in, is_sn, is_ln, is_tn, oko_isnt, tru_b, tru_n, tru_i, tru_s, tru_l, tru_t, tru_r, len_l, len_t, len_s, len_r, ix_l, ix_t, ix_s, ix_r, int_i, list_l, list_t, sl_l, sl_s, slL_l, repl_s, rng_1, rng_2, List.getElem?_cons_succ, List.getElem?_cons_zero, List.set_cons_succ, List.set_cons_zero, true_and, and_true, Bool.false_eq_true, if_true, if_false, ite_true, ite_false, reduceIte, Bool.not_true, Bool.not_false, Bool.and_true, Bool.true_and, Bool.and_false, Bool.false_and, decide_eq_true_eq, decide_true, decide_false, Bool.and_eq_true, startD, List.map_cons, List.map_nil, List.length_cons, List.length_nil, List.cons_append, List.nil_append, List.zip_cons_cons, List.zip_nil_left, List.zip_nil_right, List.foldl_cons, List.foldl_nil]
    exact rng_ok (by omega)
  · exact ⟨_, [], _, _, _, _, _, _, rfl, rfl, rfl, by simp⟩
  · rintro j _ hj ⟨ls, ss, a, b, c, d, e, f, rfl, hl, h1, h2⟩
    try simp (config := {decide := true}) only [fw_nil, fw_set, fw_ret, fw_retN, fw_if, fw_expr, fw_app, fw_aug, fw_put, fw_augIx, fw_asg, fw_par, fw_nx, fw_bk, fw_ct, ok_var, okv_some, okl_lst, okt_tup, oks_str, oki_int, okb_bl, ok_K, ok_bin, ok_un, ok_cmp, ok_val, ok_tru, ok_and, ok_or, ok_not, ok_eAnd, ok_eOr, ok_eNot, ok_if, ok_nil, ok_cons, ok_lst, ok_tup, ok_call, ok_fn, ok_chain, oko_cB, ok_eChain, ok_pNone, ok_pSome, ok_sl, ok_iLst, ok_iTupl, ok_iRng, ok_iStr, ok_yes, oko_some, ok_ok, oko_gN, oko_gT, oko_gNil, oko_gCons, add_ii, add_ss, add_ll, cat_ll, sub_ii, mul_cl, mul_cr, div_ii, mod_ii, pow_ii, iadd_ii, iadd_ss, neg_i, cmp_ii, cmp_ss, in_strs, nin_strs, in_ints, eq_strs, ne_strs, eq_str, ne_str, eq_int, ne_int, sorted_ints, sorted_strs, cutG_map, wipeD_nil, wipeD_cons, atI_two0, atI_two1, atI_c0, atI_c1, isi_bb, isi_ib, isi_ii, eq_bl, ne_bl, eq_nilI, eq_nilS, ne_nilS, List.length_map, in_c, nin_c, is_nn, is_in, is_sn, is_ln, is_tn, oko_isnt, tru_b, tru_n, tru_i, tru_s, tru_l, tru_t, tru_r, len_l, len_t, len_s, len_r, ix_l, ix_t, ix_s, ix_r, int_i, list_l, list_t, sl_l, sl_s, slL_l, repl_s, rng_1, rng_2, List.getElem?_cons_succ, List.getElem?_cons_zero, List.set_cons_succ, List.set_cons_zero, true_and, and_true, Bool.false_eq_true, if_true, if_false, ite_true, ite_false, reduceIte, Bool.not_true, Bool.not_false, Bool.and_true, Bool.true_and, Bool.and_false, Bool.false_and, decide_eq_true_eq, decide_true, decide_false, Bool.and_eq_true, startD, List.map_cons, List.map_nil, List.length_cons, List.length_nil, List.cons_append, List.nil_append, List.zip_cons_cons, List.zip_nil_left, List.zip_nil_right, List.foldl_cons, List.foldl_nil]
    rw [fw_seq]
    try simp (config := {decide := true}) only [fw_nil, fw_set, fw_ret, fw_retN, fw_if, fw_expr, fw_app, fw_aug, fw_put, fw_augIx, fw_asg, fw_par, fw_nx, fw_bk, fw_ct, ok_var, okv_some, okl_lst, okt_tup, oks_str, oki_int, okb_bl, ok_K, ok_bin, ok_un, ok_cmp, ok_val, ok_tru, ok_and, ok_or, ok_not, ok_eAnd, ok_eOr, ok_eNot, ok_if, ok_nil, ok_cons, ok_lst, ok_tup, ok_call, ok_fn, ok_chain, oko_cB, ok_eChain, ok_pNone, ok_pSome, ok_sl, ok_iLst, ok_iTupl, ok_iRng, ok_iStr, ok_yes, oko_some, ok_ok, oko_gN, oko_gT, oko_gNil, oko_gCons, add_ii, add_ss, add_ll, cat_ll, sub_ii, mul_cl, mul_cr, div_ii, mod_ii, pow_ii, iadd_ii, iadd_ss, neg_i, cmp_ii, cmp_ss, in_strs, nin_strs, in_ints, eq_strs, ne_strs, eq_str, ne_str, eq_int, ne_int, sorted_ints, sorted_strs, cutG_map, wipeD_nil, wipeD_cons, atI_two0, atI_two1, atI_c0, atI_c1, isi_bb, isi_ib, isi_ii, eq_bl, ne_bl, eq_nilI, eq_nilS, ne_nilS, List.length_map, in_c, nin_c, is_nn, is_in, is_sn, is_ln, is_tn, oko_isnt, tru_b, tru_n, tru_i, tru_s, tru_l, tru_t, tru_r, len_l, len_t, len_s, len_r, ix_l, ix_t, ix_s, ix_r, int_i, list_l, list_t, sl_l, sl_s, slL_l, repl_s, rng_1, rng_2, List.getElem?_cons_succ, List.getElem?_cons_zero, List.set_cons_succ, List.set_cons_zero, true_and, and_true, Bool.false_eq_true, if_true, if_false, ite_true, ite_false, reduceIte, Bool.not_true, Bool.not_false, Bool.and_true, Bool.true_and, Bool.and_false, Bool.false_and, decide_eq_true_eq, decide_true, decide_false, Bool.and_eq_true, startD, List.map_cons, List.map_nil, List.length_cons, List.length_nil, List.cons_append, List.nil_append, List.zip_cons_cons, List.zip_nil_left, List.zip_nil_right, List.foldl_cons, List.foldl_nil]
    refine oko_ixm (by omega) (by omega) fun x1 m1 => ?_
    try simp (config := {decide := true}) only [fw_nil, fw_set, fw_ret, fw_retN, fw_if, fw_expr, fw_app, fw_aug, fw_put, fw_augIx, fw_asg, fw_par, fw_nx, fw_bk, fw_ct, ok_var, okv_some, okl_lst, okt_tup, oks_str, oki_int, okb_bl, ok_K, ok_bin, ok_un, ok_cmp, ok_val, ok_tru, ok_and, ok_or, ok_not, ok_eAnd, ok_eOr, ok_eNot, ok_if, ok_nil, ok_cons, ok_lst, ok_tup, ok_call, ok_fn, ok_chain, oko_cB, ok_eChain, ok_pNone, ok_pSome, ok_sl, ok_iLst, ok_iTupl, ok_iRng, ok_iStr, ok_yes, oko_some, ok_ok, oko_gN, oko_gT, oko_gNil, oko_gCons, add_ii, add_ss, add_ll, cat_ll, sub_ii, mul_cl, mul_cr, div_ii, mod_ii, pow_ii, iadd_ii, iadd_ss, neg_i, cmp_ii, cmp_ss, in_strs, nin_strs, in_ints, eq_strs, ne_strs, eq_str, ne_str, eq_int, ne_int, sorted_ints, sorted_strs, cutG_map, wipeD_nil, wipeD_cons, atI_two0, atI_two1, atI_c0, atI_c1, isi_bb, isi_ib, isi_ii, eq_bl, ne_bl, eq_nilI, eq_nilS, ne_nilS, List.length_map, in_c, nin_c, is_nn, is_in, is_sn, is_ln, is_tn, oko_isnt, tru_b, tru_n, tru_i, tru_s, tru_l, tru_t, tru_r, len_l, len_t, len_s, len_r, ix_l, ix_t, ix_s, ix_r, int_i, list_l, list_t, sl_l, sl_s, slL_l, repl_s, rng_1, rng_2, List.getElem?_cons_succ, List.getElem?_cons_zero, List.set_cons_succ, List.set_cons_zero, true_and, and_true, Bool.false_eq_true, if_true, if_false, ite_true, ite_false, reduceIte, Bool.not_true, Bool.not_false, Bool.and_true, Bool.true_and, Bool.and_false, Bool.false_and, decide_eq_true_eq, decide_true, decide_false, Bool.and_eq_true, startD, List.map_cons, List.map_nil, List.length_cons, List.length_nil, List.cons_append, List.nil_append, List.zip_cons_cons, List.zip_nil_left, List.zip_nil_right, List.foldl_cons, List.foldl_nil]
    refine oko_ixm (by omega) (by omega) fun x2 m2 => ?_
    try simp (config := {decide := true}) only [fw_nil, fw_set, fw_ret, fw_retN, fw_if, fw_expr, fw_app, fw_aug, fw_put, fw_augIx, fw_asg, fw_par, fw_nx, fw_bk, fw_ct, ok_var, okv_some, okl_lst, okt_tup, oks_str, oki_int, okb_bl, ok_K, ok_bin, ok_un, ok_cmp, ok_val, ok_tru, ok_and, ok_or, ok_not, ok_eAnd, ok_eOr, ok_eNot, ok_if, ok_nil, ok_cons, ok_lst, ok_tup, ok_call, ok_fn, ok_chain, oko_cB, ok_eChain, ok_pNone, ok_pSome, ok_sl, ok_iLst, ok_iTupl, ok_iRng, ok_iStr, ok_yes, oko_some, ok_ok, oko_gN, oko_gT, oko_gNil, oko_gCons, add_ii, add_ss, add_ll, cat_ll, sub_ii, mul_cl, mul_cr, div_ii, mod_ii, pow_ii, iadd_ii, iadd_ss, neg_i, cmp_ii, cmp_ss, in_strs, nin_strs, in_ints, eq_strs, ne_strs, eq_str, ne_str, eq_int, ne_int, sorted_ints, sorted_strs, cutG_map, wipeD_nil, wipeD_cons, atI_two0, atI_two1, atI_c0, atI_c1, isi_bb, isi_ib, isi_ii, eq_bl, ne_bl, eq_nilI, eq_nilS, ne_nilS, List.length_map, in_c, nin_c, is_nn, is_in, is_sn, is_ln, is_tn, oko_isnt, tru_b, tru_n, tru_i, tru_s, tru_l, tru_t, tru_r, len_l, len_t, len_s, len_r, ix_l, ix_t, ix_s, ix_r, int_i, list_l, list_t, sl_l, sl_s, slL_l, repl_s, rng_1, rng_2, List.getElem?_cons_succ, List.getElem?_cons_zero, List.set_cons_succ, List.set_cons_zero, true_and, and_true, Bool.false_eq_true, if_true, if_false, ite_true, ite_false, reduceIte, Bool.not_true, Bool.not_false, Bool.and_true, Bool.true_and, Bool.and_false, Bool.false_and, decide_eq_true_eq, decide_true, decide_false, Bool.and_eq_true, startD, List.map_cons, List.map_nil, List.length_cons, List.length_nil, List.cons_append, List.nil_append, List.zip_cons_cons, List.zip_nil_left, List.zip_nil_right, List.foldl_cons, List.foldl_nil]
    refine oko_ixm (by omega) (by omega) fun x3 m3 => ?_
    try simp (config := {decide := true}) only [fw_nil, fw_set, fw_ret, fw_retN, fw_if, fw_expr, fw_app, fw_aug, fw_put, fw_augIx, fw_asg, fw_par, fw_nx, fw_bk, fw_ct, ok_var, okv_some, okl_lst, okt_tup, oks_str, oki_int, okb_bl, ok_K, ok_bin, ok_un, ok_cmp, ok_val, ok_tru, ok_and, ok_or, ok_not, ok_eAnd, ok_eOr, ok_eNot, ok_if, ok_nil, ok_cons, ok_lst, ok_tup, ok_call, ok_fn, ok_chain, oko_cB, ok_eChain, ok_pNone, ok_pSome, ok_sl, ok_iLst, ok_iTupl, ok_iRng, ok_iStr, ok_yes, oko_some, ok_ok, oko_gN, oko_gT, oko_gNil, oko_gCons, add_ii, add_ss, add_ll, cat_ll, sub_ii, mul_cl, mul_cr, div_ii, mod_ii, pow_ii, iadd_ii, iadd_ss, neg_i, cmp_ii, cmp_ss, in_strs, nin_strs, in_ints, eq_strs, ne_strs, eq_str, ne_str, eq_int, ne_int, sorted_ints, sorted_strs, cutG_map, wipeD_nil, wipeD_cons, atI_two0, atI_two1, atI_c0, atI_c1, isi_bb, isi_ib, isi_ii, eq_bl, ne_bl, eq_nilI, eq_nilS, ne_nilS, List.length_map, in_c, nin_c, is_nn, is_in, is_sn, is_ln, is_tn, oko_isnt, tru_b, tru_n, tru_i, tru_s, tru_l, tru_t, tru_r, len_l, len_t, len_s, len_r, ix_l, ix_t, ix_s, ix_r, int_i, list_l, list_t, sl_l, sl_s, slL_l, repl_s, rng_1, rng_2, List.getElem?_cons_succ, List.getElem?_cons_zero, List.set_cons_succ, List.set_cons_zero, true_and, and_true, Bool.false_eq_true, if_true, if_false, ite_true, ite_false, reduceIte, Bool.not_true, Bool.not_false, Bool.and_true, Bool.true_and, Bool.and_false, Bool.false_and, decide_eq_true_eq, decide_true, decide_false, Bool.and_eq_true, startD, List.map_cons, List.map_nil, List.length_cons, List.length_nil, List.cons_append, List.nil_append, List.zip_cons_cons, List.zip_nil_left, List.zip_nil_right, List.foldl_cons, List.foldl_nil]
    rw [fw_seq]
    try simp (config := {decide := true}) only [fw_nil, fw_set, fw_ret, fw_retN, fw_if, fw_expr, fw_app, fw_aug, fw_put, fw_augIx, fw_asg, fw_par, fw_nx, fw_bk, fw_ct, ok_var, okv_some, okl_lst, okt_tup, oks_str, oki_int, okb_bl, ok_K, ok_bin, ok_un, ok_cmp, ok_val, ok_tru, ok_and, ok_or, ok_not, ok_eAnd, ok_eOr, ok_eNot, ok_if, ok_nil, ok_cons, ok_lst, ok_tup, ok_call, ok_fn, ok_chain, oko_cB, ok_eChain, ok_pNone, ok_pSome, ok_sl, ok_iLst, ok_iTupl, ok_iRng, ok_iStr, ok_yes, oko_some, ok_ok, oko_gN, oko_gT, oko_gNil, oko_gCons, add_ii, add_ss, add_ll, cat_ll, sub_ii, mul_cl, mul_cr, div_ii, mod_ii, pow_ii, iadd_ii, iadd_ss, neg_i, cmp_ii, cmp_ss, in_strs, nin_strs, in_ints, eq_strs, ne_strs, eq_str, ne_str, eq_int, ne_int, sorted_ints, sorted_strs, cutG_map, wipeD_nil, wipeD_cons, atI_two0, atI_two1, atI_c0, atI_c1, isi_bb, isi_ib, isi_ii, eq_bl, ne_bl, eq_nilI, eq_nilS, ne_nilS, List.length_map, in_c, nin_c, is_nn, is_in, is_sn, is_ln, is_tn, oko_isnt, tru_b, tru_n, tru_i, tru_s, tru_l, tru_t, tru_r, len_l, len_t, len_s, len_r, ix_l, ix_t, ix_s, ix_r, int_i, list_l, list_t, sl_l, sl_s, slL_l, repl_s, rng_1, rng_2, List.getElem?_cons_succ, List.getElem?_cons_zero, List.set_cons_succ, List.set_cons_zero, true_and, and_true, Bool.false_eq_true, if_true, if_false, ite_true, ite_false, reduceIte, Bool.not_true, Bool.not_false, Bool.and_true, Bool.true_and, Bool.and_false, Bool.false_and, decide_eq_true_eq, decide_true, decide_false, Bool.and_eq_true, startD, List.map_cons, List.map_nil, List.length_cons, List.length_nil, List.cons_append, List.nil_append, List.zip_cons_cons, List.zip_nil_left, List.zip_nil_right, List.foldl_cons, List.foldl_nil]
    refine (name_ok x1 x2 x3).imp ?_
    rintro _ ⟨s, rfl, hs1, hs2⟩
    try simp (config := {decide := true}) only [fw_nil, fw_set, fw_ret, fw_retN, fw_if, fw_expr, fw_app, fw_aug, fw_put, fw_augIx, fw_asg, fw_par, fw_nx, fw_bk, fw_ct, ok_var, okv_some, okl_lst, okt_tup, oks_str, oki_int, okb_bl, ok_K, ok_bin, ok_un, ok_cmp, ok_val, ok_tru, ok_and, ok_or, ok_not, ok_eAnd, ok_eOr, ok_eNot, ok_if, ok_nil, ok_cons, ok_lst, ok_tup, ok_call, ok_fn, ok_chain, oko_cB, ok_eChain, ok_pNone, ok_pSome, ok_sl, ok_iLst, ok_iTupl, ok_iRng, ok_iStr, ok_yes, oko_some, ok_ok, oko_gN, oko_gT, oko_gNil, oko_gCons, add_ii, add_ss, add_ll, cat_ll, sub_ii, mul_cl, mul_cr, div_ii, mod_ii, pow_ii, iadd_ii, iadd_ss, neg_i, cmp_ii, cmp_ss, in_strs, nin_strs, in_ints, eq_strs, ne_strs, eq_str, ne_str, eq_int, ne_int, sorted_ints, sorted_strs, cutG_map, wipeD_nil, wipeD_cons, atI_two0, atI_two1, atI_c0, atI_c1, isi_bb, isi_ib, isi_ii, eq_bl, ne_bl, eq_nilI, eq_nilS, ne_nilS, List.length_map, in_c, nin_c, is_nn, is_in, is_sn, is_ln, is_tn, oko_isnt, tru_b, tru_n, tru_i, tru_s, tru_l, tru_t, tru_r, len_l, len_t, len_s, len_r, ix_l, ix_t, ix_s, ix_r, int_i, list_l, list_t, sl_l, sl_s, slL_l, repl_s, rng_1, rng_2, List.getElem?_cons_succ, List.getElem?_cons_zero, List.set_cons_succ, List.set_cons_zero, true_and, and_true, Bool.false_eq_true, if_true, if_false, ite_true, ite_false, reduceIte, Bool.not_true, Bool.not_false, Bool.and_true, Bool.true_and, Bool.and_false, Bool.false_and, decide_eq_true_eq, decide_true, decide_false, Bool.and_eq_true, startD, List.map_cons, List.map_nil, List.length_cons, List.length_nil, List.cons_append, List.nil_append, List.zip_cons_cons, List.zip_nil_left, List.zip_nil_right, List.foldl_cons, List.foldl_nil]
    refine fw_cut (fun ρ' => ∃ s, Nm s ∧ ρ' = [some (.lst (xs.map .int)), some (.int n), some (.str ls), some (.lst (ss.map .str)), some (.int j), some (.int x1), some (.int x2), some (.int x3), some (.str s), f]) ?_ ?_
    · try simp (config := {decide := true}) only [fw_nil, fw_set, fw_ret, fw_retN, fw_if, fw_expr, fw_app, fw_aug, fw_put, fw_augIx, fw_asg, fw_par, fw_nx, fw_bk, fw_ct, ok_var, okv_some, okl_lst, okt_tup, oks_str, oki_int, okb_bl, ok_K, ok_bin, ok_un, ok_cmp, ok_val, ok_tru, ok_and, ok_or, ok_not, ok_eAnd, ok_eOr, ok_eNot, ok_if, ok_nil, ok_cons, ok_lst, ok_tup, ok_call, ok_fn, ok_chain, oko_cB, ok_eChain, ok_pNone, ok_pSome, ok_sl, ok_iLst, ok_iTupl, ok_iRng, ok_iStr, ok_yes, oko_some, ok_ok, oko_gN, oko_gT, oko_gNil, oko_gCons, add_ii, add_ss, add_ll, cat_ll, sub_ii, mul_cl, mul_cr, div_ii, mod_ii, pow_ii, iadd_ii, iadd_ss, neg_i, cmp_ii, cmp_ss, in_strs, nin_strs, in_ints, eq_strs, ne_strs, eq_str, ne_str, eq_int, ne_int, sorted_ints, sorted_strs, cutG_map, wipeD_nil, wipeD_cons, atI_two0, atI_two1, atI_c0, atI_c1, isi_bb, isi_ib, isi_ii, eq_bl, ne_bl, eq_nilI, eq_nilS, ne_nilS, List.length_map, in_c, nin_c, is_nn, is_in, is_sn, is_ln, is_tn, oko_isnt, tru_b, tru_n, tru_i, tru_s, tru_l, tru_t, tru_r, len_l, len_t, len_s, len_r, ix_l, ix_t, ix_s, ix_r, int_i, list_l, list_t, sl_l, sl_s, slL_l, repl_s, rng_1, rng_2, List.getElem?_cons_succ, List.getElem?_cons_zero, List.set_cons_succ, List.set_cons_zero, true_and, and_true, Bool.false_eq_true, if_true, if_false, ite_true, ite_false, reduceIte, Bool.not_true, Bool.not_false, Bool.and_true, Bool.true_and, Bool.and_false, Bool.false_and, decide_eq_true_eq, decide_true, decide_false, Bool.and_eq_true, startD, List.map_cons, List.map_nil, List.length_cons, List.length_nil, List.cons_append, List.nil_append, List.zip_cons_cons, List.zip_nil_left, List.zip_nil_right, List.foldl_cons, List.foldl_nil]
      split
      · rename_i hj0
        have hne : ss ≠ [] := fun z => by
          rw [z] at h1
          simp at h1
          omega
        split
        · rw [oko_lastg hne]
          try simp (config := {decide := true}) only [fw_nil, fw_set, fw_ret, fw_retN, fw_if, fw_expr, fw_app, fw_aug, fw_put, fw_augIx, fw_asg, fw_par, fw_nx, fw_bk, fw_ct, ok_var, okv_some, okl_lst, okt_tup, oks_str, oki_int, okb_bl, ok_K, ok_bin, ok_un, ok_cmp, ok_val, ok_tru, ok_and, ok_or, ok_not, ok_eAnd, ok_eOr, ok_eNot, ok_if, ok_nil, ok_cons, ok_lst, ok_tup, ok_call, ok_fn, ok_chain, oko_cB, ok_eChain, ok_pNone, ok_pSome, ok_sl, ok_iLst, ok_iTupl, ok_iRng, ok_iStr, ok_yes, oko_some, ok_ok, oko_gN, oko_gT, oko_gNil, oko_gCons, add_ii, add_ss, add_ll, cat_ll, sub_ii, mul_cl, mul_cr, div_ii, mod_ii, pow_ii, iadd_ii, iadd_ss, neg_i, cmp_ii, cmp_ss, in_strs, nin_strs, in_ints, eq_strs, ne_strs, eq_str, ne_str, eq_int, ne_int, sorted_ints, sorted_strs, cutG_map, wipeD_nil, wipeD_cons, atI_two0, atI_two1, atI_c0, atI_c1, isi_bb, isi_ib, isi_ii, eq_bl, ne_bl, eq_nilI, eq_nilS, ne_nilS, List.length_map, in_c, nin_c, is_nn, is_in, is_sn, is_ln, is_tn, oko_isnt, tru_b, tru_n, tru_i, tru_s, tru_l, tru_t, tru_r, len_l, len_t, len_s, len_r, ix_l, ix_t, ix_s, ix_r, int_i, list_l, list_t, sl_l, sl_s, slL_l, repl_s, rng_1, rng_2, List.getElem?_cons_succ, List.getElem?_cons_zero, List.set_cons_succ, List.set_cons_zero, true_and, and_true, Bool.false_eq_true, if_true, if_false, ite_true, ite_false, reduceIte, Bool.not_true, Bool.not_false, Bool.and_true, Bool.true_and, Bool.and_false, Bool.false_and, decide_eq_true_eq, decide_true, decide_false, Bool.and_eq_true, startD, List.map_cons, List.map_nil, List.length_cons, List.length_nil, List.cons_append, List.nil_append, List.zip_cons_cons, List.zip_nil_left, List.zip_nil_right, List.foldl_cons, List.foldl_nil]
          have hlast := h2 _ (List.getLast_mem hne)
          split
          · rename_i hlt
            try simp (config := {decide := true}) only [fw_seq, fw_nil, fw_set, fw_ret, fw_retN, fw_if, fw_expr, fw_app, fw_aug, fw_put, fw_augIx, fw_asg, fw_par, fw_nx, fw_bk, fw_ct, ok_var, okv_some, okl_lst, okt_tup, oks_str, oki_int, okb_bl, ok_K, ok_bin, ok_un, ok_cmp, ok_val, ok_tru, ok_and, ok_or, ok_not, ok_eAnd, ok_eOr, ok_eNot, ok_if, ok_nil, ok_cons, ok_lst, ok_tup, ok_call, ok_fn, ok_chain, oko_cB, ok_eChain, ok_pNone, ok_pSome, ok_sl, ok_iLst, ok_iTupl, ok_iRng, ok_iStr, ok_yes, oko_some, ok_ok, oko_gN, oko_gT, oko_gNil, oko_gCons, add_ii, add_ss, add_ll, cat_ll, sub_ii, mul_cl, mul_cr, div_ii, mod_ii, pow_ii, iadd_ii, iadd_ss, neg_i, cmp_ii, cmp_ss, in_strs, nin_strs, in_ints, eq_strs, ne_strs, eq_str, ne_str, eq_int, ne_int, sorted_ints, sorted_strs, cutG_map, wipeD_nil, wipeD_cons, atI_two0, atI_two1, atI_c0, atI_c1, isi_bb, isi_ib, isi_ii, eq_bl, ne_bl, eq_nilI, eq_nilS, ne_nilS, List.length_map, in_c, nin_c, is_nn, is_in, is_sn, is_ln, is_tn, oko_isnt, tru_b, tru_n, tru_i, tru_s, tru_l, tru_t, tru_r, len_l, len_t, len_s, len_r, ix_l, ix_t, ix_s, ix_r, int_i, list_l, list_t, sl_l, sl_s, slL_l, repl_s, rng_1, rng_2, List.getElem?_cons_succ, List.getElem?_cons_zero, List.set_cons_succ, List.set_cons_zero, true_and, and_true, Bool.false_eq_true, if_true, if_false, ite_true, ite_false, reduceIte, Bool.not_true, Bool.not_false, Bool.and_true, Bool.true_and, Bool.and_false, Bool.false_and, decide_eq_true_eq, decide_true, decide_false, Bool.and_eq_true, startD, List.map_cons, List.map_nil, List.length_cons, List.length_nil, List.cons_append, List.nil_append, List.zip_cons_cons, List.zip_nil_left, List.zip_nil_right, List.foldl_cons, List.foldl_nil]
            rw [oko_lastg hne]
            try simp (config := {decide := true}) only [fw_nil, fw_set, fw_ret, fw_retN, fw_if, fw_expr, fw_app, fw_aug, fw_put, fw_augIx, fw_asg, fw_par, fw_nx, fw_bk, fw_ct, ok_var, okv_some, okl_lst, okt_tup, oks_str, oki_int, okb_bl, ok_K, ok_bin, ok_un, ok_cmp, ok_val, ok_tru, ok_and, ok_or, ok_not, ok_eAnd, ok_eOr, ok_eNot, ok_if, ok_nil, ok_cons, ok_lst, ok_tup, ok_call, ok_fn, ok_chain, oko_cB, ok_eChain, ok_pNone, ok_pSome, ok_sl, ok_iLst, ok_iTupl, ok_iRng, ok_iStr, ok_yes, oko_some, ok_ok, oko_gN, oko_gT, oko_gNil, oko_gCons, add_ii, add_ss, add_ll, cat_ll, sub_ii, mul_cl, mul_cr, div_ii, mod_ii, pow_ii, iadd_ii, iadd_ss, neg_i, cmp_ii, cmp_ss, in_strs, nin_strs, in_ints, eq_strs, ne_strs, eq_str, ne_str, eq_int, ne_int, sorted_ints, sorted_strs, cutG_map, wipeD_nil, wipeD_cons, atI_two0, atI_two1, atI_c0, atI_c1, isi_bb, isi_ib, isi_ii, eq_bl, ne_bl, eq_nilI, eq_nilS, ne_nilS, List.length_map, in_c, nin_c, is_nn, is_in, is_sn, is_ln, is_tn, oko_isnt, tru_b, tru_n, tru_i, tru_s, tru_l, tru_t, tru_r, len_l, len_t, len_s, len_r, ix_l, ix_t, ix_s, ix_r, int_i, list_l, list_t, sl_l, sl_s, slL_l, repl_s, rng_1, rng_2, List.getElem?_cons_succ, List.getElem?_cons_zero, List.set_cons_succ, List.set_cons_zero, true_and, and_true, Bool.false_eq_true, if_true, if_false, ite_true, ite_false, reduceIte, Bool.not_true, Bool.not_false, Bool.and_true, Bool.true_and, Bool.and_false, Bool.false_and, decide_eq_true_eq, decide_true, decide_false, Bool.and_eq_true, startD, List.map_cons, List.map_nil, List.length_cons, List.length_nil, List.cons_append, List.nil_append, List.zip_cons_cons, List.zip_nil_left, List.zip_nil_right, List.foldl_cons, List.foldl_nil]
            refine oko_last (by intro z; rw [z] at hs1; simp at hs1) fun c _ => ?_
            try simp (config := {decide := true}) only [fw_nil, fw_set, fw_ret, fw_retN, fw_if, fw_expr, fw_app, fw_aug, fw_put, fw_augIx, fw_asg, fw_par, fw_nx, fw_bk, fw_ct, ok_var, okv_some, okl_lst, okt_tup, oks_str, oki_int, okb_bl, ok_K, ok_bin, ok_un, ok_cmp, ok_val, ok_tru, ok_and, ok_or, ok_not, ok_eAnd, ok_eOr, ok_eNot, ok_if, ok_nil, ok_cons, ok_lst, ok_tup, ok_call, ok_fn, ok_chain, oko_cB, ok_eChain, ok_pNone, ok_pSome, ok_sl, ok_iLst, ok_iTupl, ok_iRng, ok_iStr, ok_yes, oko_some, ok_ok, oko_gN, oko_gT, oko_gNil, oko_gCons, add_ii, add_ss, add_ll, cat_ll, sub_ii, mul_cl, mul_cr, div_ii, mod_ii, pow_ii, iadd_ii, iadd_ss, neg_i, cmp_ii, cmp_ss, in_strs, nin_strs, in_ints, eq_strs, ne_strs, eq_str, ne_str, eq_int, ne_int, sorted_ints, sorted_strs, cutG_map, wipeD_nil, wipeD_cons, atI_two0, atI_two1, atI_c0, atI_c1, isi_bb, isi_ib, isi_ii, eq_bl, ne_bl, eq_nilI, eq_nilS, ne_nilS, List.length_map, in_c, nin_c, is_nn, is_in, is_sn, is_ln, is_tn, oko_isnt, tru_b, tru_n, tru_i, tru_s, tru_l, tru_t, tru_r, len_l, len_t, len_s, len_r, ix_l, ix_t, ix_s, ix_r, int_i, list_l, list_t, sl_l, sl_s, slL_l, repl_s, rng_1, rng_2, List.getElem?_cons_succ, List.getElem?_cons_zero, List.set_cons_succ, List.set_cons_zero, true_and, and_true, Bool.false_eq_true, if_true, if_false, ite_true, ite_false, reduceIte, Bool.not_true, Bool.not_false, Bool.and_true, Bool.true_and, Bool.and_false, Bool.false_and, decide_eq_true_eq, decide_true, decide_false, Bool.and_eq_true, startD, List.map_cons, List.map_nil, List.length_cons, List.length_nil, List.cons_append, List.nil_append, List.zip_cons_cons, List.zip_nil_left, List.zip_nil_right, List.foldl_cons, List.foldl_nil, sizeLine_eq]
            refine ⟨by omega, _, ⟨?_, ?_⟩, rfl⟩
            · rw [List.length_append]; have := hlast.1; omega
            · rw [List.length_append]; simp; omega
          · try simp (config := {decide := true}) only [fw_seq, fw_nil, fw_set, fw_ret, fw_retN, fw_if, fw_expr, fw_app, fw_aug, fw_put, fw_augIx, fw_asg, fw_par, fw_nx, fw_bk, fw_ct, ok_var, okv_some, okl_lst, okt_tup, oks_str, oki_int, okb_bl, ok_K, ok_bin, ok_un, ok_cmp, ok_val, ok_tru, ok_and, ok_or, ok_not, ok_eAnd, ok_eOr, ok_eNot, ok_if, ok_nil, ok_cons, ok_lst, ok_tup, ok_call, ok_fn, ok_chain, oko_cB, ok_eChain, ok_pNone, ok_pSome, ok_sl, ok_iLst, ok_iTupl, ok_iRng, ok_iStr, ok_yes, oko_some, ok_ok, oko_gN, oko_gT, oko_gNil, oko_gCons, add_ii, add_ss, add_ll, cat_ll, sub_ii, mul_cl, mul_cr, div_ii, mod_ii, pow_ii, iadd_ii, iadd_ss, neg_i, cmp_ii, cmp_ss, in_strs, nin_strs, in_ints, eq_strs, ne_strs, eq_str, ne_str, eq_int, ne_int, sorted_ints, sorted_strs, cutG_map, wipeD_nil, wipeD_cons, atI_two0, atI_two1, atI_c0, atI_c1, isi_bb, isi_ib, isi_ii, eq_bl, ne_bl, eq_nilI, eq_nilS, ne_nilS, List.length_map, in_c, nin_c, is_nn, is_in, is_sn, is_ln, is_tn, oko_isnt, tru_b, tru_n, tru_i, tru_s, tru_l, tru_t, tru_r, len_l, len_t, len_s, len_r, ix_l, ix_t, ix_s, ix_r, int_i, list_l, list_t, sl_l, sl_s, slL_l, repl_s, rng_1, rng_2, List.getElem?_cons_succ, List.getElem?_cons_zero, List.set_cons_succ, List.set_cons_zero, true_and, and_true, Bool.false_eq_true, if_true, if_false, ite_true, ite_false, reduceIte, Bool.not_true, Bool.not_false, Bool.and_true, Bool.true_and, Bool.and_false, Bool.false_and, decide_eq_true_eq, decide_true, decide_false, Bool.and_eq_true, startD, List.map_cons, List.map_nil, List.length_cons, List.length_nil, List.cons_append, List.nil_append, List.zip_cons_cons, List.zip_nil_left, List.zip_nil_right, List.foldl_cons, List.foldl_nil]
            exact ⟨s, ⟨hs1, hs2⟩, rfl⟩
        · try simp (config := {decide := true}) only [fw_seq, fw_nil, fw_set, fw_ret, fw_retN, fw_if, fw_expr, fw_app, fw_aug, fw_put, fw_augIx, fw_asg, fw_par, fw_nx, fw_bk, fw_ct, ok_var, okv_some, okl_lst, okt_tup, oks_str, oki_int, okb_bl, ok_K, ok_bin, ok_un, ok_cmp, ok_val, ok_tru, ok_and, ok_or, ok_not, ok_eAnd, ok_eOr, ok_eNot, ok_if, ok_nil, ok_cons, ok_lst, ok_tup, ok_call, ok_fn, ok_chain, oko_cB, ok_eChain, ok_pNone, ok_pSome, ok_sl, ok_iLst, ok_iTupl, ok_iRng, ok_iStr, ok_yes, oko_some, ok_ok, oko_gN, oko_gT, oko_gNil, oko_gCons, add_ii, add_ss, add_ll, cat_ll, sub_ii, mul_cl, mul_cr, div_ii, mod_ii, pow_ii, iadd_ii, iadd_ss, neg_i, cmp_ii, cmp_ss, in_strs, nin_strs, in_ints, eq_strs, ne_strs, eq_str, ne_str, eq_int, ne_int, sorted_ints, sorted_strs, cutG_map, wipeD_nil, wipeD_cons, atI_two0, atI_two1, atI_c0, atI_c1, isi_bb, isi_ib, isi_ii, eq_bl, ne_bl, eq_nilI, eq_nilS, ne_nilS, List.length_map, in_c, nin_c, is_nn, is_in, is_sn, is_ln, is_tn, oko_isnt, tru_b, tru_n, tru_i, tru_s, tru_l, tru_t, tru_r, len_l, len_t, len_s, len_r, ix_l, ix_t, ix_s, ix_r, int_i, list_l, list_t, sl_l, sl_s, slL_l, repl_s, rng_1, rng_2, List.getElem?_cons_succ, List.getElem?_cons_zero, List.set_cons_succ, List.set_cons_zero, true_and, and_true, Bool.false_eq_true, if_true, if_false, ite_true, ite_false, reduceIte, Bool.not_true, Bool.not_false, Bool.and_true, Bool.true_and, Bool.and_false, Bool.false_and, decide_eq_true_eq, decide_true, decide_false, Bool.and_eq_true, startD, List.map_cons, List.map_nil, List.length_cons, List.length_nil, List.cons_append, List.nil_append, List.zip_cons_cons, List.zip_nil_left, List.zip_nil_right, List.foldl_cons, List.foldl_nil]
          exact ⟨s, ⟨hs1, hs2⟩, rfl⟩
      · try simp (config := {decide := true}) only [fw_seq, fw_nil, fw_set, fw_ret, fw_retN, fw_if, fw_expr, fw_app, fw_aug, fw_put, fw_augIx, fw_asg, fw_par, fw_nx, fw_bk, fw_ct, ok_var, okv_some, okl_lst, okt_tup, oks_str, oki_int, okb_bl, ok_K, ok_bin, ok_un, ok_cmp, ok_val, ok_tru, ok_and, ok_or, ok_not, ok_eAnd, ok_eOr, ok_eNot, ok_if, ok_nil, ok_cons, ok_lst, ok_tup, ok_call, ok_fn, ok_chain, oko_cB, ok_eChain, ok_pNone, ok_pSome, ok_sl, ok_iLst, ok_iTupl, ok_iRng, ok_iStr, ok_yes, oko_some, ok_ok, oko_gN, oko_gT, oko_gNil, oko_gCons, add_ii, add_ss, add_ll, cat_ll, sub_ii, mul_cl, mul_cr, div_ii, mod_ii, pow_ii, iadd_ii, iadd_ss, neg_i, cmp_ii, cmp_ss, in_strs, nin_strs, in_ints, eq_strs, ne_strs, eq_str, ne_str, eq_int, ne_int, sorted_ints, sorted_strs, cutG_map, wipeD_nil, wipeD_cons, atI_two0, atI_two1, atI_c0, atI_c1, isi_bb, isi_ib, isi_ii, eq_bl, ne_bl, eq_nilI, eq_nilS, ne_nilS, List.length_map, in_c, nin_c, is_nn, is_in, is_sn, is_ln, is_tn, oko_isnt, tru_b, tru_n, tru_i, tru_s, tru_l, tru_t, tru_r, len_l, len_t, len_s, len_r, ix_l, ix_t, ix_s, ix_r, int_i, list_l, list_t, sl_l, sl_s, slL_l, repl_s, rng_1, rng_2, List.getElem?_cons_succ, List.getElem?_cons_zero, List.set_cons_succ, List.set_cons_zero, true_and, and_true, Bool.false_eq_true, if_true, if_false, ite_true, ite_false, reduceIte, Bool.not_true, Bool.not_false, Bool.and_true, Bool.true_and, Bool.and_false, Bool.false_and, decide_eq_true_eq, decide_true, decide_false, Bool.and_eq_true, startD, List.map_cons, List.map_nil, List.length_cons, List.length_nil, List.cons_append, List.nil_append, List.zip_cons_cons, List.zip_nil_left, List.zip_nil_right, List.foldl_cons, List.foldl_nil]
        exact ⟨s, ⟨hs1, hs2⟩, rfl⟩
    rintro _ ⟨s, ⟨hs1, hs2⟩, rfl⟩
    refine fw_cut (fun ρ' => ∃ s u, Nm s ∧ ρ' = [some (.lst (xs.map .int)), some (.int n), some (.str ls), some (.lst (ss.map .str)), some (.int j), some (.int x1), some (.int x2), some (.int x3), some (.str s), u]) ?_ ?_
    · refine fw_range (n := 26) (fun _ ρ' => ∃ s u, Nm s ∧ ρ' = [some (.lst (xs.map .int)), some (.int n), some (.str ls), some (.lst (ss.map .str)), some (.int j), some (.int x1), some (.int x2), some (.int x3), some (.str s), u]) ?_ ?_ ?_ ?_
      · try simp (config := {decide := true}) only [fw_seq, fw_nil, fw_set, fw_ret, fw_retN, fw_if, fw_expr, fw_app, fw_aug, fw_put, fw_augIx, fw_asg, fw_par, fw_nx, fw_bk, fw_ct, ok_var, okv_some, okl_lst, okt_tup, oks_str, oki_int, okb_bl, ok_K, ok_bin, ok_un, ok_cmp, ok_val, ok_tru, ok_and, ok_or, ok_not, ok_eAnd, ok_eOr, ok_eNot, ok_if, ok_nil, ok_cons, ok_lst, ok_tup, ok_call, ok_fn, ok_chain, oko_cB, ok_eChain, ok_pNone, ok_pSome, ok_sl, ok_iLst, ok_iTupl, ok_iRng, ok_iStr, ok_yes, oko_some, ok_ok, oko_gN, oko_gT, oko_gNil, oko_gCons, add_ii, add_ss, add_ll, cat_ll, sub_ii, mul_cl, mul_cr, div_ii, mod_ii, pow_ii, iadd_ii, iadd_ss, neg_i, cmp_ii, cmp_ss, in_strs, nin_strs, in_ints, eq_strs, ne_strs, eq_str, ne_str, eq_int, ne_int, sorted_ints, sorted_strs, cutG_map, wipeD_nil, wipeD_cons, atI_two0, atI_two1, atI_c0, atI_c1, isi_bb, isi_ib, isi_ii, eq_bl, ne_bl, eq_nilI, eq_nilS, ne_nilS, List.length_map, in_c, nin_c, is_nn, is_in, is_sn, is_ln, is_tn, oko_isnt, tru_b, tru_n, tru_i, tru_s, tru_l, tru_t, tru_r, len_l, len_t, len_s, len_r, ix_l, ix_t, ix_s, ix_r, int_i, list_l, list_t, sl_l, sl_s, slL_l, repl_s, rng_1, rng_2, List.getElem?_cons_succ, List.getElem?_cons_zero, List.set_cons_succ, List.set_cons_zero, true_and, and_true, Bool.false_eq_true, if_true, if_false, ite_true, ite_false, reduceIte, Bool.not_true, Bool.not_false, Bool.and_true, Bool.true_and, Bool.and_false, Bool.false_and, decide_eq_true_eq, decide_true, decide_false, Bool.and_eq_true, startD, List.map_cons, List.map_nil, List.length_cons, List.length_nil, List.cons_append, List.nil_append, List.zip_cons_cons, List.zip_nil_left, List.zip_nil_right, List.foldl_cons, List.foldl_nil]
        exact rfl
      · exact ⟨s, _, ⟨hs1, hs2⟩, rfl⟩
      · rintro i _ hi ⟨s, u, ⟨hs1, hs2⟩, rfl⟩
        try simp (config := {decide := true}) only [fw_seq, fw_nil, fw_set, fw_ret, fw_retN, fw_if, fw_expr, fw_app, fw_aug, fw_put, fw_augIx, fw_asg, fw_par, fw_nx, fw_bk, fw_ct, ok_var, okv_some, okl_lst, okt_tup, oks_str, oki_int, okb_bl, ok_K, ok_bin, ok_un, ok_cmp, ok_val, ok_tru, ok_and, ok_or, ok_not, ok_eAnd, ok_eOr, ok_eNot, ok_if, ok_nil, ok_cons, ok_lst, ok_tup, ok_call, ok_fn, ok_chain, oko_cB, ok_eChain, ok_pNone, ok_pSome, ok_sl, ok_iLst, ok_iTupl, ok_iRng, ok_iStr, ok_yes, oko_some, ok_ok, oko_gN, oko_gT, oko_gNil, oko_gCons, add_ii, add_ss, add_ll, cat_ll, sub_ii, mul_cl, mul_cr, div_ii, mod_ii, pow_ii, iadd_ii, iadd_ss, neg_i, cmp_ii, cmp_ss, in_strs, nin_strs, in_ints, eq_strs, ne_strs, eq_str, ne_str, eq_int, ne_int, sorted_ints, sorted_strs, cutG_map, wipeD_nil, wipeD_cons, atI_two0, atI_two1, atI_c0, atI_c1, isi_bb, isi_ib, isi_ii, eq_bl, ne_bl, eq_nilI, eq_nilS, ne_nilS, List.length_map, in_c, nin_c, is_nn, is_in, is_sn, is_ln, is_tn, oko_isnt, tru_b, tru_n, tru_i, tru_s, tru_l, tru_t, tru_r, len_l, len_t, len_s, len_r, ix_l, ix_t, ix_s, ix_r, int_i, list_l, list_t, sl_l, sl_s, slL_l, repl_s, rng_1, rng_2, List.getElem?_cons_succ, List.getElem?_cons_zero, List.set_cons_succ, List.set_cons_zero, true_and, and_true, Bool.false_eq_true, if_true, if_false, ite_true, ite_false, reduceIte, Bool.not_true, Bool.not_false, Bool.and_true, Bool.true_and, Bool.and_false, Bool.false_and, decide_eq_true_eq, decide_true, decide_false, Bool.and_eq_true, startD, List.map_cons, List.map_nil, List.length_cons, List.length_nil, List.cons_append, List.nil_append, List.zip_cons_cons, List.zip_nil_left, List.zip_nil_right, List.foldl_cons, List.foldl_nil]
        split
        · refine oko_ix (by omega) (by omega) fun c _ => ?_
          try simp (config := {decide := true}) only [fw_seq, fw_nil, fw_set, fw_ret, fw_retN, fw_if, fw_expr, fw_app, fw_aug, fw_put, fw_augIx, fw_asg, fw_par, fw_nx, fw_bk, fw_ct, ok_var, okv_some, okl_lst, okt_tup, oks_str, oki_int, okb_bl, ok_K, ok_bin, ok_un, ok_cmp, ok_val, ok_tru, ok_and, ok_or, ok_not, ok_eAnd, ok_eOr, ok_eNot, ok_if, ok_nil, ok_cons, ok_lst, ok_tup, ok_call, ok_fn, ok_chain, oko_cB, ok_eChain, ok_pNone, ok_pSome, ok_sl, ok_iLst, ok_iTupl, ok_iRng, ok_iStr, ok_yes, oko_some, ok_ok, oko_gN, oko_gT, oko_gNil, oko_gCons, add_ii, add_ss, add_ll, cat_ll, sub_ii, mul_cl, mul_cr, div_ii, mod_ii, pow_ii, iadd_ii, iadd_ss, neg_i, cmp_ii, cmp_ss, in_strs, nin_strs, in_ints, eq_strs, ne_strs, eq_str, ne_str, eq_int, ne_int, sorted_ints, sorted_strs, cutG_map, wipeD_nil, wipeD_cons, atI_two0, atI_two1, atI_c0, atI_c1, isi_bb, isi_ib, isi_ii, eq_bl, ne_bl, eq_nilI, eq_nilS, ne_nilS, List.length_map, in_c, nin_c, is_nn, is_in, is_sn, is_ln, is_tn, oko_isnt, tru_b, tru_n, tru_i, tru_s, tru_l, tru_t, tru_r, len_l, len_t, len_s, len_r, ix_l, ix_t, ix_s, ix_r, int_i, list_l, list_t, sl_l, sl_s, slL_l, repl_s, rng_1, rng_2, List.getElem?_cons_succ, List.getElem?_cons_zero, List.set_cons_succ, List.set_cons_zero, true_and, and_true, Bool.false_eq_true, if_true, if_false, ite_true, ite_false, reduceIte, Bool.not_true, Bool.not_false, Bool.and_true, Bool.true_and, Bool.and_false, Bool.false_and, decide_eq_true_eq, decide_true, decide_false, Bool.and_eq_true, startD, List.map_cons, List.map_nil, List.length_cons, List.length_nil, List.cons_append, List.nil_append, List.zip_cons_cons, List.zip_nil_left, List.zip_nil_right, List.foldl_cons, List.foldl_nil, sizeLine_eq, cutG_from1]
          refine ⟨?_, _, _, ⟨?_, ?_⟩, rfl⟩
          · rw [List.length_drop]; omega
          · simp
          · simp; omega
        · exact ⟨s, _, ⟨hs1, hs2⟩, rfl⟩
      · exact fun _ h => h
    rintro _ ⟨s, u, hs, rfl⟩
    try simp (config := {decide := true}) only [fw_seq, fw_nil, fw_set, fw_ret, fw_retN, fw_if, fw_expr, fw_app, fw_aug, fw_put, fw_augIx, fw_asg, fw_par, fw_nx, fw_bk, fw_ct, ok_var, okv_some, okl_lst, okt_tup, oks_str, oki_int, okb_bl, ok_K, ok_bin, ok_un, ok_cmp, ok_val, ok_tru, ok_and, ok_or, ok_not, ok_eAnd, ok_eOr, ok_eNot, ok_if, ok_nil, ok_cons, ok_lst, ok_tup, ok_call, ok_fn, ok_chain, oko_cB, ok_eChain, ok_pNone, ok_pSome, ok_sl, ok_iLst, ok_iTupl, ok_iRng, ok_iStr, ok_yes, oko_some, ok_ok, oko_gN, oko_gT, oko_gNil, oko_gCons, add_ii, add_ss, add_ll, cat_ll, sub_ii, mul_cl, mul_cr, div_ii, mod_ii, pow_ii, iadd_ii, iadd_ss, neg_i, cmp_ii, cmp_ss, in_strs, nin_strs, in_ints, eq_strs, ne_strs, eq_str, ne_str, eq_int, ne_int, sorted_ints, sorted_strs, cutG_map, wipeD_nil, wipeD_cons, atI_two0, atI_two1, atI_c0, atI_c1, isi_bb, isi_ib, isi_ii, eq_bl, ne_bl, eq_nilI, eq_nilS, ne_nilS, List.length_map, in_c, nin_c, is_nn, is_in, is_sn, is_ln, is_tn, oko_isnt, tru_b, tru_n, tru_i, tru_s, tru_l, tru_t, tru_r, len_l, len_t, len_s, len_r, ix_l, ix_t, ix_s, ix_r, int_i, list_l, list_t, sl_l, sl_s, slL_l, repl_s, rng_1, rng_2, List.getElem?_cons_succ, List.getElem?_cons_zero, List.set_cons_succ, List.set_cons_zero, true_and, and_true, Bool.false_eq_true, if_true, if_false, ite_true, ite_false, reduceIte, Bool.not_true, Bool.not_false, Bool.and_true, Bool.true_and, Bool.and_false, Bool.false_and, decide_eq_true_eq, decide_true, decide_false, Bool.and_eq_true, startD, List.map_cons, List.map_nil, List.length_cons, List.length_nil, List.cons_append, List.nil_append, List.zip_cons_cons, List.zip_nil_left, List.zip_nil_right, List.foldl_cons, List.foldl_nil, sizeLine_eq]
    refine ⟨by omega, ls, ss ++ [s], _, _, _, _, _, _, by rw [List.map_append]; rfl, hl, by simp [h1], fun t ht => ?_⟩
    rcases List.mem_append.mp ht with ht | ht
    · exact h2 t ht
    · rw [List.mem_singleton.mp ht]; exact hs
  · rintro _ ⟨ls, ss, a, b, c, d, e, f, rfl, hl, h1, h2⟩
    try simp (config := {decide := true}) only [fw_seq, fw_nil, fw_set, fw_ret, fw_retN, fw_if, fw_expr, fw_app, fw_aug, fw_put, fw_augIx, fw_asg, fw_par, fw_nx, fw_bk, fw_ct, ok_var, okv_some, okl_lst, okt_tup, oks_str, oki_int, okb_bl, ok_K, ok_bin, ok_un, ok_cmp, ok_val, ok_tru, ok_and, ok_or, ok_not, ok_eAnd, ok_eOr, ok_eNot, ok_if, ok_nil, ok_cons, ok_lst, ok_tup, ok_call, ok_fn, ok_chain, oko_cB, ok_eChain, ok_pNone, ok_pSome, ok_sl, ok_iLst, ok_iTupl, ok_iRng, ok_iStr, ok_yes, oko_some, ok_ok, oko_gN, oko_gT, oko_gNil, oko_gCons, add_ii, add_ss, add_ll, cat_ll, sub_ii, mul_cl, mul_cr, div_ii, mod_ii, pow_ii, iadd_ii, iadd_ss, neg_i, cmp_ii, cmp_ss, in_strs, nin_strs, in_ints, eq_strs, ne_strs, eq_str, ne_str, eq_int, ne_int, sorted_ints, sorted_strs, cutG_map, wipeD_nil, wipeD_cons, atI_two0, atI_two1, atI_c0, atI_c1, isi_bb, isi_ib, isi_ii, eq_bl, ne_bl, eq_nilI, eq_nilS, ne_nilS, List.length_map, in_c, nin_c, is_nn, is_in, is_sn, is_ln, is_tn, oko_isnt, tru_b, tru_n, tru_i, tru_s, tru_l, tru_t, tru_r, len_l, len_t, len_s, len_r, ix_l, ix_t, ix_s, ix_r, int_i, list_l, list_t, sl_l, sl_s, slL_l, repl_s, rng_1, rng_2, List.getElem?_cons_succ, List.getElem?_cons_zero, List.set_cons_succ, List.set_cons_zero, true_and, and_true, Bool.false_eq_true, if_true, if_false, ite_true, ite_false, reduceIte, Bool.not_true, Bool.not_false, Bool.and_true, Bool.true_and, Bool.and_false, Bool.false_and, decide_eq_true_eq, decide_true, decide_false, Bool.and_eq_true, startD, List.map_cons, List.map_nil, List.length_cons, List.length_nil, List.cons_append, List.nil_append, List.zip_cons_cons, List.zip_nil_left, List.zip_nil_right, List.foldl_cons, List.foldl_nil]
    exact ⟨ss, rfl, h1, h2⟩
theorem str_small : ∀ j : Nat, j < 40 → (decide ((10 + (j : Int)).natAbs.log2 < 1920) && okS (strI (10 + (j : Int)))) = true ∧ (strI (10 + (j : Int))).length ≤ 2 := by decide +kernel
theorem fields_ok (ns : List Int) (a n : Nat) (hn : n ≤ 40) : Ok (m__law_fields [.scr ns, .int a, .int n]) fun d => ∃ fs : List (List Nat), d = .lst (fs.map .str) ∧ fs.length = n ∧ ∀ s ∈ fs, Nm s := by
  rw [r__law_fields]
  unfold b__law_fields
  rw [fw_seq]
  try simp (config := {decide := true}) only [fw_nil, fw_set, fw_ret, fw_retN, fw_if, fw_expr, fw_app, fw_aug, fw_put, fw_augIx, fw_asg, fw_par, fw_nx, fw_bk, fw_ct, ok_var, okv_some, okl_lst, okt_tup, oks_str, oki_int, okb_bl, ok_K, ok_bin, ok_un, ok_cmp, ok_val, ok_tru, ok_and, ok_or, ok_not, ok_eAnd, ok_eOr, ok_eNot, ok_if, ok_nil, ok_cons, ok_lst, ok_tup, ok_call, ok_fn, ok_chain, oko_cB, ok_eChain, ok_pNone, ok_pSome, ok_sl, ok_iLst, ok_iTupl, ok_iRng, ok_iStr, ok_yes, oko_some, ok_ok, oko_gN, oko_gT, oko_gNil, oko_gCons, add_ii, add_ss, add_ll, cat_ll, sub_ii, mul_cl, mul_cr, div_ii, mod_ii, pow_ii, iadd_ii, iadd_ss, neg_i, cmp_ii, cmp_ss, in_strs, nin_strs, in_ints, eq_strs, ne_strs, eq_str, ne_str, eq_int, ne_int, sorted_ints, sorted_strs, cutG_map, wipeD_nil, wipeD_cons, atI_two0, atI_two1, atI_c0, atI_c1, isi_bb, isi_ib, isi_ii, eq_bl, ne_bl, eq_nilI, eq_nilS, ne_nilS, List.length_map, in_c, nin_c, is_nn, is_in, is_sn, is_ln, is_tn, oko_isnt, tru_b, tru_n, tru_i, tru_s, tru_l, tru_t, tru_r, len_l, len_t, len_s, len_r, ix_l, ix_t, ix_s, ix_r, int_i, list_l, list_t, sl_l, sl_s, slL_l, repl_s, rng_1, rng_2, List.getElem?_cons_succ, List.getElem?_cons_zero, List.set_cons_succ, List.set_cons_zero, true_and, and_true, Bool.false_eq_true, if_true, if_false, ite_true, ite_false, reduceIte, Bool.not_true, Bool.not_false, Bool.and_true, Bool.true_and, Bool.and_false, Bool.false_and, decide_eq_true_eq, decide_true, decide_false, Bool.and_eq_true, startD, List.map_cons, List.map_nil, List.length_cons, List.length_nil, List.cons_append, List.nil_append, List.zip_cons_cons, List.zip_nil_left, List.zip_nil_right, List.foldl_cons, List.foldl_nil]
  refine (numbers_ok ns a 36 (by decide)).imp ?_
  rintro _ ⟨xs, rfl, hx, hr⟩
  try simp (config := {decide := true}) only [fw_nil, fw_set, fw_ret, fw_retN, fw_if, fw_expr, fw_app, fw_aug, fw_put, fw_augIx, fw_asg, fw_par, fw_nx, fw_bk, fw_ct, ok_var, okv_some, okl_lst, okt_tup, oks_str, oki_int, okb_bl, ok_K, ok_bin, ok_un, ok_cmp, ok_val, ok_tru, ok_and, ok_or, ok_not, ok_eAnd, ok_eOr, ok_eNot, ok_if, ok_nil, ok_cons, ok_lst, ok_tup, ok_call, ok_fn, ok_chain, oko_cB, ok_eChain, ok_pNone, ok_pSome, ok_sl, ok_iLst, ok_iTupl, ok_iRng, ok_iStr, ok_yes, oko_some, ok_ok, oko_gN, oko_gT, oko_gNil, oko_gCons, add_ii, add_ss, add_ll, cat_ll, sub_ii, mul_cl, mul_cr, div_ii, mod_ii, pow_ii, iadd_ii, iadd_ss, neg_i, cmp_ii, cmp_ss, in_strs, nin_strs, in_ints, eq_strs, ne_strs, eq_str, ne_str, eq_int, ne_int, sorted_ints, sorted_strs, cutG_map, wipeD_nil, wipeD_cons, atI_two0, atI_two1, atI_c0, atI_c1, isi_bb, isi_ib, isi_ii, eq_bl, ne_bl, eq_nilI, eq_nilS, ne_nilS, List.length_map, in_c, nin_c, is_nn, is_in, is_sn, is_ln, is_tn, oko_isnt, tru_b, tru_n, tru_i, tru_s, tru_l, tru_t, tru_r, len_l, len_t, len_s, len_r, ix_l, ix_t, ix_s, ix_r, int_i, list_l, list_t, sl_l, sl_s, slL_l, repl_s, rng_1, rng_2, List.getElem?_cons_succ, List.getElem?_cons_zero, List.set_cons_succ, List.set_cons_zero, true_and, and_true, Bool.false_eq_true, if_true, if_false, ite_true, ite_false, reduceIte, Bool.not_true, Bool.not_false, Bool.and_true, Bool.true_and, Bool.and_false, Bool.false_and, decide_eq_true_eq, decide_true, decide_false, Bool.and_eq_true, startD, List.map_cons, List.map_nil, List.length_cons, List.length_nil, List.cons_append, List.nil_append, List.zip_cons_cons, List.zip_nil_left, List.zip_nil_right, List.foldl_cons, List.foldl_nil]
  refine fw_cut (fun ρ' => 12 < n ∧ ρ' = [some (.scr ns), some (.int a), some (.int n), some (.lst (xs.map .int)), none, none, none]) ?_ ?_
  · try simp (config := {decide := true}) only [fw_nil, fw_set, fw_ret, fw_retN, fw_if, fw_expr, fw_app, fw_aug, fw_put, fw_augIx, fw_asg, fw_par, fw_nx, fw_bk, fw_ct, ok_var, okv_some, okl_lst, okt_tup, oks_str, oki_int, okb_bl, ok_K, ok_bin, ok_un, ok_cmp, ok_val, ok_tru, ok_and, ok_or, ok_not, ok_eAnd, ok_eOr, ok_eNot, ok_if, ok_nil, ok_cons, ok_lst, ok_tup, ok_call, ok_fn, ok_chain, oko_cB, ok_eChain, ok_pNone, ok_pSome, ok_sl, ok_iLst, ok_iTupl, ok_iRng, ok_iStr, ok_yes, oko_some, ok_ok, oko_gN, oko_gT, oko_gNil, oko_gCons, add_ii, add_ss, add_ll, cat_ll, sub_ii, mul_cl, mul_cr, div_ii, mod_ii, pow_ii, iadd_ii, iadd_ss, neg_i, cmp_ii, cmp_ss, in_strs, nin_strs, in_ints, eq_strs, ne_strs, eq_str, ne_str, eq_int, ne_int, sorted_ints, sorted_strs, cutG_map, wipeD_nil, wipeD_cons, atI_two0, atI_two1, atI_c0, atI_c1, isi_bb, isi_ib, isi_ii, eq_bl, ne_bl, eq_nilI, eq_nilS, ne_nilS, List.length_map, in_c, nin_c, is_nn, is_in, is_sn, is_ln, is_tn, oko_isnt, tru_b, tru_n, tru_i, tru_s, tru_l, tru_t, tru_r, len_l, len_t, len_s, len_r, ix_l, ix_t, ix_s, ix_r, int_i, list_l, list_t, sl_l, sl_s, slL_l, repl_s, rng_1, rng_2, List.getElem?_cons_succ, List.getElem?_cons_zero, List.set_cons_succ, List.set_cons_zero, true_and, and_true, Bool.false_eq_true, if_true, if_false, ite_true, ite_false, reduceIte, Bool.not_true, Bool.not_false, Bool.and_true, Bool.true_and, Bool.and_false, Bool.false_and, decide_eq_true_eq, decide_true, decide_false, Bool.and_eq_true, startD, List.map_cons, List.map_nil, List.length_cons, List.length_nil, List.cons_append, List.nil_append, List.zip_cons_cons, List.zip_nil_left, List.zip_nil_right, List.foldl_cons, List.foldl_nil]
    split
    · rename_i h
      try simp (config := {decide := true}) only [fw_seq, fw_nil, fw_set, fw_ret, fw_retN, fw_if, fw_expr, fw_app, fw_aug, fw_put, fw_augIx, fw_asg, fw_par, fw_nx, fw_bk, fw_ct, ok_var, okv_some, okl_lst, okt_tup, oks_str, oki_int, okb_bl, ok_K, ok_bin, ok_un, ok_cmp, ok_val, ok_tru, ok_and, ok_or, ok_not, ok_eAnd, ok_eOr, ok_eNot, ok_if, ok_nil, ok_cons, ok_lst, ok_tup, ok_call, ok_fn, ok_chain, oko_cB, ok_eChain, ok_pNone, ok_pSome, ok_sl, ok_iLst, ok_iTupl, ok_iRng, ok_iStr, ok_yes, oko_some, ok_ok, oko_gN, oko_gT, oko_gNil, oko_gCons, add_ii, add_ss, add_ll, cat_ll, sub_ii, mul_cl, mul_cr, div_ii, mod_ii, pow_ii, iadd_ii, iadd_ss, neg_i, cmp_ii, cmp_ss, in_strs, nin_strs, in_ints, eq_strs, ne_strs, eq_str, ne_str, eq_int, ne_int, sorted_ints, sorted_strs, cutG_map, wipeD_nil, wipeD_cons, atI_two0, atI_two1, atI_c0, atI_c1, isi_bb, isi_ib, isi_ii, eq_bl, ne_bl, eq_nilI, eq_nilS, ne_nilS, List.length_map, in_c, nin_c, is_nn, is_in, is_sn, is_ln, is_tn, oko_isnt, tru_b, tru_n, tru_i, tru_s, tru_l, tru_t, tru_r, len_l, len_t, len_s, len_r, ix_l, ix_t, ix_s, ix_r, int_i, list_l, list_t, sl_l, sl_s, slL_l, repl_s, rng_1, rng_2, List.getElem?_cons_succ, List.getElem?_cons_zero, List.set_cons_succ, List.set_cons_zero, true_and, and_true, Bool.false_eq_true, if_true, if_false, ite_true, ite_false, reduceIte, Bool.not_true, Bool.not_false, Bool.and_true, Bool.true_and, Bool.and_false, Bool.false_and, decide_eq_true_eq, decide_true, decide_false, Bool.and_eq_true, startD, List.map_cons, List.map_nil, List.length_cons, List.length_nil, List.cons_append, List.nil_append, List.zip_cons_cons, List.zip_nil_left, List.zip_nil_right, List.foldl_cons, List.foldl_nil]
      refine (names_ok xs hx hr n (by omega)).imp ?_
      rintro _ ⟨ss, rfl, h1, h2⟩
      try simp (config := {decide := true}) only [fw_seq, fw_nil, fw_set, fw_ret, fw_retN, fw_if, fw_expr, fw_app, fw_aug, fw_put, fw_augIx, fw_asg, fw_par, fw_nx, fw_bk, fw_ct, ok_var, okv_some, okl_lst, okt_tup, oks_str, oki_int, okb_bl, ok_K, ok_bin, ok_un, ok_cmp, ok_val, ok_tru, ok_and, ok_or, ok_not, ok_eAnd, ok_eOr, ok_eNot, ok_if, ok_nil, ok_cons, ok_lst, ok_tup, ok_call, ok_fn, ok_chain, oko_cB, ok_eChain, ok_pNone, ok_pSome, ok_sl, ok_iLst, ok_iTupl, ok_iRng, ok_iStr, ok_yes, oko_some, ok_ok, oko_gN, oko_gT, oko_gNil, oko_gCons, add_ii, add_ss, add_ll, cat_ll, sub_ii, mul_cl, mul_cr, div_ii, mod_ii, pow_ii, iadd_ii, iadd_ss, neg_i, cmp_ii, cmp_ss, in_strs, nin_strs, in_ints, eq_strs, ne_strs, eq_str, ne_str, eq_int, ne_int, sorted_ints, sorted_strs, cutG_map, wipeD_nil, wipeD_cons, atI_two0, atI_two1, atI_c0, atI_c1, isi_bb, isi_ib, isi_ii, eq_bl, ne_bl, eq_nilI, eq_nilS, ne_nilS, List.length_map, in_c, nin_c, is_nn, is_in, is_sn, is_ln, is_tn, oko_isnt, tru_b, tru_n, tru_i, tru_s, tru_l, tru_t, tru_r, len_l, len_t, len_s, len_r, ix_l, ix_t, ix_s, ix_r, int_i, list_l, list_t, sl_l, sl_s, slL_l, repl_s, rng_1, rng_2, List.getElem?_cons_succ, List.getElem?_cons_zero, List.set_cons_succ, List.set_cons_zero, true_and, and_true, Bool.false_eq_true, if_true, if_false, ite_true, ite_false, reduceIte, Bool.not_true, Bool.not_false, Bool.and_true, Bool.true_and, Bool.and_false, Bool.false_and, decide_eq_true_eq, decide_true, decide_false, Bool.and_eq_true, startD, List.map_cons, List.map_nil, List.length_cons, List.length_nil, List.cons_append, List.nil_append, List.zip_cons_cons, List.zip_nil_left, List.zip_nil_right, List.foldl_cons, List.foldl_nil]
      exact ⟨sortS ss, rfl, by rw [(sortS_perm ss).length_eq]; exact h1, fun s hs => h2 s ((sortS_perm ss).mem_iff.mp hs)⟩
    · try simp (config := {decide := true}) only [fw_seq, fw_nil, fw_set, fw_ret, fw_retN, fw_if, fw_expr, fw_app, fw_aug, fw_put, fw_augIx, fw_asg, fw_par, fw_nx, fw_bk, fw_ct, ok_var, okv_some, okl_lst, okt_tup, oks_str, oki_int, okb_bl, ok_K, ok_bin, ok_un, ok_cmp, ok_val, ok_tru, ok_and, ok_or, ok_not, ok_eAnd, ok_eOr, ok_eNot, ok_if, ok_nil, ok_cons, ok_lst, ok_tup, ok_call, ok_fn, ok_chain, oko_cB, ok_eChain, ok_pNone, ok_pSome, ok_sl, ok_iLst, ok_iTupl, ok_iRng, ok_iStr, ok_yes, oko_some, ok_ok, oko_gN, oko_gT, oko_gNil, oko_gCons, add_ii, add_ss, add_ll, cat_ll, sub_ii, mul_cl, mul_cr, div_ii, mod_ii, pow_ii, iadd_ii, iadd_ss, neg_i, cmp_ii, cmp_ss, in_strs, nin_strs, in_ints, eq_strs, ne_strs, eq_str, ne_str, eq_int, ne_int, sorted_ints, sorted_strs, cutG_map, wipeD_nil, wipeD_cons, atI_two0, atI_two1, atI_c0, atI_c1, isi_bb, isi_ib, isi_ii, eq_bl, ne_bl, eq_nilI, eq_nilS, ne_nilS, List.length_map, in_c, nin_c, is_nn, is_in, is_sn, is_ln, is_tn, oko_isnt, tru_b, tru_n, tru_i, tru_s, tru_l, tru_t, tru_r, len_l, len_t, len_s, len_r, ix_l, ix_t, ix_s, ix_r, int_i, list_l, list_t, sl_l, sl_s, slL_l, repl_s, rng_1, rng_2, List.getElem?_cons_succ, List.getElem?_cons_zero, List.set_cons_succ, List.set_cons_zero, true_and, and_true, Bool.false_eq_true, if_true, if_false, ite_true, ite_false, reduceIte, Bool.not_true, Bool.not_false, Bool.and_true, Bool.true_and, Bool.and_false, Bool.false_and, decide_eq_true_eq, decide_true, decide_false, Bool.and_eq_true, startD, List.map_cons, List.map_nil, List.length_cons, List.length_nil, List.cons_append, List.nil_append, List.zip_cons_cons, List.zip_nil_left, List.zip_nil_right, List.foldl_cons, List.foldl_nil]
      omega
  rintro _ ⟨_, rfl⟩
  try simp (config := {decide := true}) only [fw_seq, fw_nil, fw_set, fw_ret, fw_retN, fw_if, fw_expr, fw_app, fw_aug, fw_put, fw_augIx, fw_asg, fw_par, fw_nx, fw_bk, fw_ct, ok_var, okv_some, okl_lst, okt_tup, oks_str, oki_int, okb_bl, ok_K, ok_bin, ok_un, ok_cmp, ok_val, ok_tru, ok_and, ok_or, ok_not, ok_eAnd, ok_eOr, ok_eNot, ok_if, ok_nil, ok_cons, ok_lst, ok_tup, ok_call, ok_fn, ok_chain, oko_cB, ok_eChain, ok_pNone, ok_pSome, ok_sl, ok_iLst, ok_iTupl, ok_iRng, ok_iStr, ok_yes, oko_some, ok_ok, oko_gN, oko_gT, oko_gNil, oko_gCons, add_ii, add_ss, add_ll, cat_ll, sub_ii, mul_cl, mul_cr, div_ii, mod_ii, pow_ii, iadd_ii, iadd_ss, neg_i, cmp_ii, cmp_ss, in_strs, nin_strs, in_ints, eq_strs, ne_strs, eq_str, ne_str, eq_int, ne_int, sorted_ints, sorted_strs, cutG_map, wipeD_nil, wipeD_cons, atI_two0, atI_two1, atI_c0, atI_c1, isi_bb, isi_ib, isi_ii, eq_bl, ne_bl, eq_nilI, eq_nilS, ne_nilS, List.length_map, in_c, nin_c, is_nn, is_in, is_sn, is_ln, is_tn, oko_isnt, tru_b, tru_n, tru_i, tru_s, tru_l, tru_t, tru_r, len_l, len_t, len_s, len_r, ix_l, ix_t, ix_s, ix_r, int_i, list_l, list_t, sl_l, sl_s, slL_l, repl_s, rng_1, rng_2, List.getElem?_cons_succ, List.getElem?_cons_zero, List.set_cons_succ, List.set_cons_zero, true_and, and_true, Bool.false_eq_true, if_true, if_false, ite_true, ite_false, reduceIte, Bool.not_true, Bool.not_false, Bool.and_true, Bool.true_and, Bool.and_false, Bool.false_and, decide_eq_true_eq, decide_true, decide_false, Bool.and_eq_true, startD, List.map_cons, List.map_nil, List.length_cons, List.length_nil, List.cons_append, List.nil_append, List.zip_cons_cons, List.zip_nil_left, List.zip_nil_right, List.foldl_cons, List.foldl_nil, Nat.zero_le]
  refine fw_range (n := n) (fun j ρ' => ∃ (ss : List (List Nat)) (u v : _), ρ' = [some (.scr ns), some (.int a), some (.int n), some (.lst (xs.map .int)), some (.lst (ss.map .str)), u, v] ∧ ss.length = j ∧ ∀ s ∈ ss, Nm s) ?_ ?_ ?_ ?_
  · try simp (config := {decide := true}) only [fw_seq, fw_nil, fw_set, fw_ret, fw_retN, fw_if, fw_expr, fw_app, fw_aug, fw_put, fw_augIx, fw_asg, fw_par, fw_nx, fw_bk, fw_ct, ok_var, okv_some, okl_lst, okt_tup, oks_str, oki_int, okb_bl, ok_K, ok_bin, ok_un, ok_cmp, ok_val, ok_tru, ok_and, ok_or, ok_not, ok_eAnd, ok_eOr, ok_eNot, ok_if, ok_nil, ok_cons, ok_lst, ok_tup, ok_call, ok_fn, ok_chain, oko_cB, ok_eChain, ok_pNone, ok_pSome, ok_sl, ok_iLst, ok_iTupl, ok_iRng, ok_iStr, ok_yes, oko_some, ok_ok, oko_gN, oko_gT, oko_gNil, oko_gCons, add_ii, add_ss, add_ll, cat_ll, sub_ii, mul_cl, mul_cr, div_ii, mod_ii, pow_ii, iadd_ii, iadd_ss, neg_i, cmp_ii, cmp_ss, in_strs, nin_strs, in_ints, eq_strs, ne_strs, eq_str, ne_str, eq_int, ne_int, sorted_ints, sorted_strs, cutG_map, wipeD_nil, wipeD_cons, atI_two0, atI_two1, atI_c0, atI_c1, isi_bb, isi_ib, isi_ii, eq_bl, ne_bl, eq_nilI, eq_nilS, ne_nilS, List.length_map, in_c, nin_c, is_nn, is_in, is_sn, is_ln, is_tn, oko_isnt, tru_b, tru_n, tru_i, tru_s, tru_l, tru_t, tru_r, len_l, len_t, len_s, len_r, ix_l, ix_t, ix_s, ix_r, int_i, list_l, list_t, sl_l, sl_s, slL_l, repl_s, rng_1, rng_2, List.getElem?_cons_succ, List.getElem?_cons_zero, List.set_cons_succ, List.set_cons_zero, true_and, and_true, Bool.false_eq_true, if_true, if_false, ite_true, ite_false, reduceIte, Bool.not_true, Bool.not_false, Bool.and_true, Bool.true_and, Bool.and_false, Bool.false_and, decide_eq_true_eq, decide_true, decide_false, Bool.and_eq_true, startD, List.map_cons, List.map_nil, List.length_cons, List.length_nil, List.cons_append, List.nil_append, List.zip_cons_cons, List.zip_nil_left, List.zip_nil_right, List.foldl_cons, List.foldl_nil]
    exact rng_ok (n := n) (by omega)
  · exact ⟨[], _, _, rfl, rfl, by simp⟩
  · rintro j _ hj ⟨ss, u, v, rfl, h1, h2⟩
    try simp (config := {decide := true}) only [fw_nil, fw_set, fw_ret, fw_retN, fw_if, fw_expr, fw_app, fw_aug, fw_put, fw_augIx, fw_asg, fw_par, fw_nx, fw_bk, fw_ct, ok_var, okv_some, okl_lst, okt_tup, oks_str, oki_int, okb_bl, ok_K, ok_bin, ok_un, ok_cmp, ok_val, ok_tru, ok_and, ok_or, ok_not, ok_eAnd, ok_eOr, ok_eNot, ok_if, ok_nil, ok_cons, ok_lst, ok_tup, ok_call, ok_fn, ok_chain, oko_cB, ok_eChain, ok_pNone, ok_pSome, ok_sl, ok_iLst, ok_iTupl, ok_iRng, ok_iStr, ok_yes, oko_some, ok_ok, oko_gN, oko_gT, oko_gNil, oko_gCons, add_ii, add_ss, add_ll, cat_ll, sub_ii, mul_cl, mul_cr, div_ii, mod_ii, pow_ii, iadd_ii, iadd_ss, neg_i, cmp_ii, cmp_ss, in_strs, nin_strs, in_ints, eq_strs, ne_strs, eq_str, ne_str, eq_int, ne_int, sorted_ints, sorted_strs, cutG_map, wipeD_nil, wipeD_cons, atI_two0, atI_two1, atI_c0, atI_c1, isi_bb, isi_ib, isi_ii, eq_bl, ne_bl, eq_nilI, eq_nilS, ne_nilS, List.length_map, in_c, nin_c, is_nn, is_in, is_sn, is_ln, is_tn, oko_isnt, tru_b, tru_n, tru_i, tru_s, tru_l, tru_t, tru_r, len_l, len_t, len_s, len_r, ix_l, ix_t, ix_s, ix_r, int_i, list_l, list_t, sl_l, sl_s, slL_l, repl_s, rng_1, rng_2, List.getElem?_cons_succ, List.getElem?_cons_zero, List.set_cons_succ, List.set_cons_zero, true_and, and_true, Bool.false_eq_true, if_true, if_false, ite_true, ite_false, reduceIte, Bool.not_true, Bool.not_false, Bool.and_true, Bool.true_and, Bool.and_false, Bool.false_and, decide_eq_true_eq, decide_true, decide_false, Bool.and_eq_true, startD, List.map_cons, List.map_nil, List.length_cons, List.length_nil, List.cons_append, List.nil_append, List.zip_cons_cons, List.zip_nil_left, List.zip_nil_right, List.foldl_cons, List.foldl_nil]
    rw [fw_seq]
    try simp (config := {decide := true}) only [fw_nil, fw_set, fw_ret, fw_retN, fw_if, fw_expr, fw_app, fw_aug, fw_put, fw_augIx, fw_asg, fw_par, fw_nx, fw_bk, fw_ct, ok_var, okv_some, okl_lst, okt_tup, oks_str, oki_int, okb_bl, ok_K, ok_bin, ok_un, ok_cmp, ok_val, ok_tru, ok_and, ok_or, ok_not, ok_eAnd, ok_eOr, ok_eNot, ok_if, ok_nil, ok_cons, ok_lst, ok_tup, ok_call, ok_fn, ok_chain, oko_cB, ok_eChain, ok_pNone, ok_pSome, ok_sl, ok_iLst, ok_iTupl, ok_iRng, ok_iStr, ok_yes, oko_some, ok_ok, oko_gN, oko_gT, oko_gNil, oko_gCons, add_ii, add_ss, add_ll, cat_ll, sub_ii, mul_cl, mul_cr, div_ii, mod_ii, pow_ii, iadd_ii, iadd_ss, neg_i, cmp_ii, cmp_ss, in_strs, nin_strs, in_ints, eq_strs, ne_strs, eq_str, ne_str, eq_int, ne_int, sorted_ints, sorted_strs, cutG_map, wipeD_nil, wipeD_cons, atI_two0, atI_two1, atI_c0, atI_c1, isi_bb, isi_ib, isi_ii, eq_bl, ne_bl, eq_nilI, eq_nilS, ne_nilS, List.length_map, in_c, nin_c, is_nn, is_in, is_sn, is_ln, is_tn, oko_isnt, tru_b, tru_n, tru_i, tru_s, tru_l, tru_t, tru_r, len_l, len_t, len_s, len_r, ix_l, ix_t, ix_s, ix_r, int_i, list_l, list_t, sl_l, sl_s, slL_l, repl_s, rng_1, rng_2, List.getElem?_cons_succ, List.getElem?_cons_zero, List.set_cons_succ, List.set_cons_zero, true_and, and_true, Bool.false_eq_true, if_true, if_false, ite_true, ite_false, reduceIte, Bool.not_true, Bool.not_false, Bool.and_true, Bool.true_and, Bool.and_false, Bool.false_and, decide_eq_true_eq, decide_true, decide_false, Bool.and_eq_true, startD, List.map_cons, List.map_nil, List.length_cons, List.length_nil, List.cons_append, List.nil_append, List.zip_cons_cons, List.zip_nil_left, List.zip_nil_right, List.foldl_cons, List.foldl_nil]
    refine oko_ixm (by omega) (by omega) fun x1 m1 => ?_
    try simp (config := {decide := true}) only [fw_nil, fw_set, fw_ret, fw_retN, fw_if, fw_expr, fw_app, fw_aug, fw_put, fw_augIx, fw_asg, fw_par, fw_nx, fw_bk, fw_ct, ok_var, okv_some, okl_lst, okt_tup, oks_str, oki_int, okb_bl, ok_K, ok_bin, ok_un, ok_cmp, ok_val, ok_tru, ok_and, ok_or, ok_not, ok_eAnd, ok_eOr, ok_eNot, ok_if, ok_nil, ok_cons, ok_lst, ok_tup, ok_call, ok_fn, ok_chain, oko_cB, ok_eChain, ok_pNone, ok_pSome, ok_sl, ok_iLst, ok_iTupl, ok_iRng, ok_iStr, ok_yes, oko_some, ok_ok, oko_gN, oko_gT, oko_gNil, oko_gCons, add_ii, add_ss, add_ll, cat_ll, sub_ii, mul_cl, mul_cr, div_ii, mod_ii, pow_ii, iadd_ii, iadd_ss, neg_i, cmp_ii, cmp_ss, in_strs, nin_strs, in_ints, eq_strs, ne_strs, eq_str, ne_str, eq_int, ne_int, sorted_ints, sorted_strs, cutG_map, wipeD_nil, wipeD_cons, atI_two0, atI_two1, atI_c0, atI_c1, isi_bb, isi_ib, isi_ii, eq_bl, ne_bl, eq_nilI, eq_nilS, ne_nilS, List.length_map, in_c, nin_c, is_nn, is_in, is_sn, is_ln, is_tn, oko_isnt, tru_b, tru_n, tru_i, tru_s, tru_l, tru_t, tru_r, len_l, len_t, len_s, len_r, ix_l, ix_t, ix_s, ix_r, int_i, list_l, list_t, sl_l, sl_s, slL_l, repl_s, rng_1, rng_2, List.getElem?_cons_succ, List.getElem?_cons_zero, List.set_cons_succ, List.set_cons_zero, true_and, and_true, Bool.false_eq_true, if_true, if_false, ite_true, ite_false, reduceIte, Bool.not_true, Bool.not_false, Bool.and_true, Bool.true_and, Bool.and_false, Bool.false_and, decide_eq_true_eq, decide_true, decide_false, Bool.and_eq_true, startD, List.map_cons, List.map_nil, List.length_cons, List.length_nil, List.cons_append, List.nil_append, List.zip_cons_cons, List.zip_nil_left, List.zip_nil_right, List.foldl_cons, List.foldl_nil]
    refine oko_ixm (by omega) (by omega) fun x2 m2 => ?_
    try simp (config := {decide := true}) only [fw_nil, fw_set, fw_ret, fw_retN, fw_if, fw_expr, fw_app, fw_aug, fw_put, fw_augIx, fw_asg, fw_par, fw_nx, fw_bk, fw_ct, ok_var, okv_some, okl_lst, okt_tup, oks_str, oki_int, okb_bl, ok_K, ok_bin, ok_un, ok_cmp, ok_val, ok_tru, ok_and, ok_or, ok_not, ok_eAnd, ok_eOr, ok_eNot, ok_if, ok_nil, ok_cons, ok_lst, ok_tup, ok_call, ok_fn, ok_chain, oko_cB, ok_eChain, ok_pNone, ok_pSome, ok_sl, ok_iLst, ok_iTupl, ok_iRng, ok_iStr, ok_yes, oko_some, ok_ok, oko_gN, oko_gT, oko_gNil, oko_gCons, add_ii, add_ss, add_ll, cat_ll, sub_ii, mul_cl, mul_cr, div_ii, mod_ii, pow_ii, iadd_ii, iadd_ss, neg_i, cmp_ii, cmp_ss, in_strs, nin_strs, in_ints, eq_strs, ne_strs, eq_str, ne_str, eq_int, ne_int, sorted_ints, sorted_strs, cutG_map, wipeD_nil, wipeD_cons, atI_two0, atI_two1, atI_c0, atI_c1, isi_bb, isi_ib, isi_ii, eq_bl, ne_bl, eq_nilI, eq_nilS, ne_nilS, List.length_map, in_c, nin_c, is_nn, is_in, is_sn, is_ln, is_tn, oko_isnt, tru_b, tru_n, tru_i, tru_s, tru_l, tru_t, tru_r, len_l, len_t, len_s, len_r, ix_l, ix_t, ix_s, ix_r, int_i, list_l, list_t, sl_l, sl_s, slL_l, repl_s, rng_1, rng_2, List.getElem?_cons_succ, List.getElem?_cons_zero, List.set_cons_succ, List.set_cons_zero, true_and, and_true, Bool.false_eq_true, if_true, if_false, ite_true, ite_false, reduceIte, Bool.not_true, Bool.not_false, Bool.and_true, Bool.true_and, Bool.and_false, Bool.false_and, decide_eq_true_eq, decide_true, decide_false, Bool.and_eq_true, startD, List.map_cons, List.map_nil, List.length_cons, List.length_nil, List.cons_append, List.nil_append, List.zip_cons_cons, List.zip_nil_left, List.zip_nil_right, List.foldl_cons, List.foldl_nil]
    refine oko_ixm (by omega) (by omega) fun x3 m3 => ?_
    try simp (config := {decide := true}) only [fw_nil, fw_set, fw_ret, fw_retN, fw_if, fw_expr, fw_app, fw_aug, fw_put, fw_augIx, fw_asg, fw_par, fw_nx, fw_bk, fw_ct, ok_var, okv_some, okl_lst, okt_tup, oks_str, oki_int, okb_bl, ok_K, ok_bin, ok_un, ok_cmp, ok_val, ok_tru, ok_and, ok_or, ok_not, ok_eAnd, ok_eOr, ok_eNot, ok_if, ok_nil, ok_cons, ok_lst, ok_tup, ok_call, ok_fn, ok_chain, oko_cB, ok_eChain, ok_pNone, ok_pSome, ok_sl, ok_iLst, ok_iTupl, ok_iRng, ok_iStr, ok_yes, oko_some, ok_ok, oko_gN, oko_gT, oko_gNil, oko_gCons, add_ii, add_ss, add_ll, cat_ll, sub_ii, mul_cl, mul_cr, div_ii, mod_ii, pow_ii, iadd_ii, iadd_ss, neg_i, cmp_ii, cmp_ss, in_strs, nin_strs, in_ints, eq_strs, ne_strs, eq_str, ne_str, eq_int, ne_int, sorted_ints, sorted_strs, cutG_map, wipeD_nil, wipeD_cons, atI_two0, atI_two1, atI_c0, atI_c1, isi_bb, isi_ib, isi_ii, eq_bl, ne_bl, eq_nilI, eq_nilS, ne_nilS, List.length_map, in_c, nin_c, is_nn, is_in, is_sn, is_ln, is_tn, oko_isnt, tru_b, tru_n, tru_i, tru_s, tru_l, tru_t, tru_r, len_l, len_t, len_s, len_r, ix_l, ix_t, ix_s, ix_r, int_i, list_l, list_t, sl_l, sl_s, slL_l, repl_s, rng_1, rng_2, List.getElem?_cons_succ, List.getElem?_cons_zero, List.set_cons_succ, List.set_cons_zero, true_and, and_true, Bool.false_eq_true, if_true, if_false, ite_true, ite_false, reduceIte, Bool.not_true, Bool.not_false, Bool.and_true, Bool.true_and, Bool.and_false, Bool.false_and, decide_eq_true_eq, decide_true, decide_false, Bool.and_eq_true, startD, List.map_cons, List.map_nil, List.length_cons, List.length_nil, List.cons_append, List.nil_append, List.zip_cons_cons, List.zip_nil_left, List.zip_nil_right, List.foldl_cons, List.foldl_nil]
    refine (name_ok x1 x2 (x3 + j)).imp ?_
    rintro _ ⟨s, rfl, hs1, hs2⟩
    obtain ⟨q1, q2⟩ := str_small j (by omega)
    try simp (config := {decide := true}) only [fw_seq, fw_nil, fw_set, fw_ret, fw_retN, fw_if, fw_expr, fw_app, fw_aug, fw_put, fw_augIx, fw_asg, fw_par, fw_nx, fw_bk, fw_ct, ok_var, okv_some, okl_lst, okt_tup, oks_str, oki_int, okb_bl, ok_K, ok_bin, ok_un, ok_cmp, ok_val, ok_tru, ok_and, ok_or, ok_not, ok_eAnd, ok_eOr, ok_eNot, ok_if, ok_nil, ok_cons, ok_lst, ok_tup, ok_call, ok_fn, ok_chain, oko_cB, ok_eChain, ok_pNone, ok_pSome, ok_sl, ok_iLst, ok_iTupl, ok_iRng, ok_iStr, ok_yes, oko_some, ok_ok, oko_gN, oko_gT, oko_gNil, oko_gCons, add_ii, add_ss, add_ll, cat_ll, sub_ii, mul_cl, mul_cr, div_ii, mod_ii, pow_ii, iadd_ii, iadd_ss, neg_i, cmp_ii, cmp_ss, in_strs, nin_strs, in_ints, eq_strs, ne_strs, eq_str, ne_str, eq_int, ne_int, sorted_ints, sorted_strs, cutG_map, wipeD_nil, wipeD_cons, atI_two0, atI_two1, atI_c0, atI_c1, isi_bb, isi_ib, isi_ii, eq_bl, ne_bl, eq_nilI, eq_nilS, ne_nilS, List.length_map, in_c, nin_c, is_nn, is_in, is_sn, is_ln, is_tn, oko_isnt, tru_b, tru_n, tru_i, tru_s, tru_l, tru_t, tru_r, len_l, len_t, len_s, len_r, ix_l, ix_t, ix_s, ix_r, int_i, list_l, list_t, sl_l, sl_s, slL_l, repl_s, rng_1, rng_2, List.getElem?_cons_succ, List.getElem?_cons_zero, List.set_cons_succ, List.set_cons_zero, true_and, and_true, Bool.false_eq_true, if_true, if_false, ite_true, ite_false, reduceIte, Bool.not_true, Bool.not_false, Bool.and_true, Bool.true_and, Bool.and_false, Bool.false_and, decide_eq_true_eq, decide_true, decide_false, Bool.and_eq_true, startD, List.map_cons, List.map_nil, List.length_cons, List.length_nil, List.cons_append, List.nil_append, List.zip_cons_cons, List.zip_nil_left, List.zip_nil_right, List.foldl_cons, List.foldl_nil, str_i, q1, cutG_to9, sizeLine_eq]
    refine ⟨by rw [List.length_take]; omega, by omega, ss ++ [s.take 9 ++ strI (10 + (j : Int))], _, _, by rw [List.map_append]; rfl, by simp [h1], fun t ht => ?_⟩
    rcases List.mem_append.mp ht with ht | ht
    · exact h2 t ht
    · rw [List.mem_singleton.mp ht]
      constructor
      · rw [List.length_append, List.length_take]; omega
      · rw [List.length_append, List.length_take]; omega
  · rintro _ ⟨ss, u, v, rfl, h1, h2⟩
    try simp (config := {decide := true}) only [fw_seq, fw_nil, fw_set, fw_ret, fw_retN, fw_if, fw_expr, fw_app, fw_aug, fw_put, fw_augIx, fw_asg, fw_par, fw_nx, fw_bk, fw_ct, ok_var, okv_some, okl_lst, okt_tup, oks_str, oki_int, okb_bl, ok_K, ok_bin, ok_un, ok_cmp, ok_val, ok_tru, ok_and, ok_or, ok_not, ok_eAnd, ok_eOr, ok_eNot, ok_if, ok_nil, ok_cons, ok_lst, ok_tup, ok_call, ok_fn, ok_chain, oko_cB, ok_eChain, ok_pNone, ok_pSome, ok_sl, ok_iLst, ok_iTupl, ok_iRng, ok_iStr, ok_yes, oko_some, ok_ok, oko_gN, oko_gT, oko_gNil, oko_gCons, add_ii, add_ss, add_ll, cat_ll, sub_ii, mul_cl, mul_cr, div_ii, mod_ii, pow_ii, iadd_ii, iadd_ss, neg_i, cmp_ii, cmp_ss, in_strs, nin_strs, in_ints, eq_strs, ne_strs, eq_str, ne_str, eq_int, ne_int, sorted_ints, sorted_strs, cutG_map, wipeD_nil, wipeD_cons, atI_two0, atI_two1, atI_c0, atI_c1, isi_bb, isi_ib, isi_ii, eq_bl, ne_bl, eq_nilI, eq_nilS, ne_nilS, List.length_map, in_c, nin_c, is_nn, is_in, is_sn, is_ln, is_tn, oko_isnt, tru_b, tru_n, tru_i, tru_s, tru_l, tru_t, tru_r, len_l, len_t, len_s, len_r, ix_l, ix_t, ix_s, ix_r, int_i, list_l, list_t, sl_l, sl_s, slL_l, repl_s, rng_1, rng_2, List.getElem?_cons_succ, List.getElem?_cons_zero, List.set_cons_succ, List.set_cons_zero, true_and, and_true, Bool.false_eq_true, if_true, if_false, ite_true, ite_false, reduceIte, Bool.not_true, Bool.not_false, Bool.and_true, Bool.true_and, Bool.and_false, Bool.false_and, decide_eq_true_eq, decide_true, decide_false, Bool.and_eq_true, startD, List.map_cons, List.map_nil, List.length_cons, List.length_nil, List.cons_append, List.nil_append, List.zip_cons_cons, List.zip_nil_left, List.zip_nil_right, List.foldl_cons, List.foldl_nil]
    exact ⟨sortS ss, rfl, by rw [(sortS_perm ss).length_eq]; exact h1, fun s hs => h2 s ((sortS_perm ss).mem_iff.mp hs)⟩
/-! ### received forms -/
def encP (p : Int × List (List Nat)) : D := .tup [.int p.1, .lst (p.2.map .str)]
def encR (r : List (Int × List (List Nat))) : D := .lst (r.map encP)
def Rec (k : Nat) (r : List (Int × List (List Nat))) : Prop := ∀ p ∈ r, p.2.length = k ∧ ∀ s ∈ p.2, s.length ≤ 13
theorem received_ok (ns : List Int) (a m : Nat) (al : Int) (fs : List (List Nat)) (h1 : 1 ≤ fs.length) (h2 : fs.length ≤ 40) (h3 : ∀ s ∈ fs, Nm s) (hm : m ≤ 30) :
    Ok (m__law_received [.scr ns, .int a, .lst (fs.map .str), .int m, .int al]) fun d => ∃ r, d = encR r ∧ r.length = m ∧ Rec fs.length r := by
  rw [r__law_received]
  unfold b__law_received
  try simp (config := {decide := true}) only [fw_seq, fw_nil, fw_set, fw_ret, fw_retN, fw_if, fw_expr, fw_app, fw_aug, fw_put, fw_augIx, fw_asg, fw_par, fw_nx, fw_bk, fw_ct, ok_var, okv_some, okl_lst, okt_tup, oks_str, oki_int, okb_bl, ok_K, ok_bin, ok_un, ok_cmp, ok_val, ok_tru, ok_and, ok_or, ok_not, ok_eAnd, ok_eOr, ok_eNot, ok_if, ok_nil, ok_cons, ok_lst, ok_tup, ok_call, ok_fn, ok_chain, oko_cB, ok_eChain, ok_pNone, ok_pSome, ok_sl, ok_iLst, ok_iTupl, ok_iRng, ok_iStr, ok_yes, oko_some, ok_ok, oko_gN, oko_gT, oko_gNil, oko_gCons, add_ii, add_ss, add_ll, cat_ll, sub_ii, mul_cl, mul_cr, div_ii, mod_ii, pow_ii, iadd_ii, iadd_ss, neg_i, cmp_ii, cmp_ss, in_strs, nin_strs, in_ints, eq_strs, ne_strs, eq_str, ne_str, eq_int, ne_int, sorted_ints, sorted_strs, cutG_map, wipeD_nil, wipeD_cons, atI_two0, atI_two1, atI_c0, atI_c1, isi_bb, isi_ib, isi_ii, eq_bl, ne_bl, eq_nilI, eq_nilS, ne_nilS, List.length_map, in_c, nin_c, is_nn, is_in, is_sn, is_ln, is_tn, oko_isnt, tru_b, tru_n, tru_i, tru_s, tru_l, tru_t, tru_r, len_l, len_t, len_s, len_r, ix_l, ix_t, ix_s, ix_r, int_i, list_l, list_t, sl_l, sl_s, slL_l, repl_s, rng_1, rng_2, List.getElem?_cons_succ, List.getElem?_cons_zero, List.set_cons_succ, List.set_cons_zero, true_and, and_true, Bool.false_eq_true, if_true, if_false, ite_true, ite_false, reduceIte, Bool.not_true, Bool.not_false, Bool.and_true, Bool.true_and, Bool.and_false, Bool.false_and, decide_eq_true_eq, decide_true, decide_false, Bool.and_eq_true, startD, List.map_cons, List.map_nil, List.length_cons, List.length_nil, List.cons_append, List.nil_append, List.zip_cons_cons, List.zip_nil_left, List.zip_nil_right, List.foldl_cons, List.foldl_nil, Nat.zero_le]
  refine fw_range (n := m) (fun j ρ' => ∃ (r : List (Int × List (List Nat))) (nu : List Int) (u7 u8 u9 u10 u11 u12 u13 u14 : _), ρ' = [some (.scr ns), some (.int a), some (.lst (fs.map .str)), some (.int m), some (.int al), some (encR r), some (.lst (nu.map .int)), u7, u8, u9, u10, u11, u12, u13, u14] ∧ r.length = j ∧ nu.length = j ∧ Rec fs.length r) ?_ ?_ ?_ ?_
  · try simp (config := {decide := true}) only [fw_seq, fw_nil, fw_set, fw_ret, fw_retN, fw_if, fw_expr, fw_app, fw_aug, fw_put, fw_augIx, fw_asg, fw_par, fw_nx, fw_bk, fw_ct, ok_var, okv_some, okl_lst, okt_tup, oks_str, oki_int, okb_bl, ok_K, ok_bin, ok_un, ok_cmp, ok_val, ok_tru, ok_and, ok_or, ok_not, ok_eAnd, ok_eOr, ok_eNot, ok_if, ok_nil, ok_cons, ok_lst, ok_tup, ok_call, ok_fn, ok_chain, oko_cB, ok_eChain, ok_pNone, ok_pSome, ok_sl, ok_iLst, ok_iTupl, ok_iRng, ok_iStr, ok_yes, oko_some, ok_ok, oko_gN, oko_gT, oko_gNil, oko_gCons, add_ii, add_ss, add_ll, cat_ll, sub_ii, mul_cl, mul_cr, div_ii, mod_ii, pow_ii, iadd_ii, iadd_ss, neg_i, cmp_ii, cmp_ss, in_strs, nin_strs, in_ints, eq_strs, ne_strs, eq_str, ne_str, eq_int, ne_int, sorted_ints, sorted_strs, cutG_map, wipeD_nil, wipeD_cons, atI_two0, atI_two1, atI_c0, atI_c1, isi_bb, isi_ib, isi_ii, eq_bl, ne_bl, eq_nilI, eq_nilS, ne_nilS, List.length_map, in_c, nin_c, is_nn, is_in, is_sn, is_ln, is_tn, oko_isnt, tru_b, tru_n, tru_i, tru_s, tru_l, tru_t, tru_r, len_l, len_t, len_s, len_r, ix_l, ix_t, ix_s, ix_r, int_i, list_l, list_t, sl_l, sl_s, slL_l, repl_s, rng_1, rng_2, List.getElem?_cons_succ, List.getElem?_cons_zero, List.set_cons_succ, List.set_cons_zero, true_and, and_true, Bool.false_eq_true, if_true, if_false, ite_true, ite_false, reduceIte, Bool.not_true, Bool.not_false, Bool.and_true, Bool.true_and, Bool.and_false, Bool.false_and, decide_eq_true_eq, decide_true, decide_false, Bool.and_eq_true, startD, List.map_cons, List.map_nil, List.length_cons, List.length_nil, List.cons_append, List.nil_append, List.zip_cons_cons, List.zip_nil_left, List.zip_nil_right, List.foldl_cons, List.foldl_nil]
    exact rng_ok (n := m) (by omega)
  · exact ⟨[], [], _, _, _, _, _, _, _, _, rfl, rfl, rfl, fun p hp => by cases hp⟩
  · rintro j _ hj ⟨r, nu, u7, u8, u9, u10, u11, u12, u13, u14, rfl, e1, e2, e3⟩
    try simp (config := {decide := true}) only [fw_nil, fw_set, fw_ret, fw_retN, fw_if, fw_expr, fw_app, fw_aug, fw_put, fw_augIx, fw_asg, fw_par, fw_nx, fw_bk, fw_ct, ok_var, okv_some, okl_lst, okt_tup, oks_str, oki_int, okb_bl, ok_K, ok_bin, ok_un, ok_cmp, ok_val, ok_tru, ok_and, ok_or, ok_not, ok_eAnd, ok_eOr, ok_eNot, ok_if, ok_nil, ok_cons, ok_lst, ok_tup, ok_call, ok_fn, ok_chain, oko_cB, ok_eChain, ok_pNone, ok_pSome, ok_sl, ok_iLst, ok_iTupl, ok_iRng, ok_iStr, ok_yes, oko_some, ok_ok, oko_gN, oko_gT, oko_gNil, oko_gCons, add_ii, add_ss, add_ll, cat_ll, sub_ii, mul_cl, mul_cr, div_ii, mod_ii, pow_ii, iadd_ii, iadd_ss, neg_i, cmp_ii, cmp_ss, in_strs, nin_strs, in_ints, eq_strs, ne_strs, eq_str, ne_str, eq_int, ne_int, sorted_ints, sorted_strs, cutG_map, wipeD_nil, wipeD_cons, atI_two0, atI_two1, atI_c0, atI_c1, isi_bb, isi_ib, isi_ii, eq_bl, ne_bl, eq_nilI, eq_nilS, ne_nilS, List.length_map, in_c, nin_c, is_nn, is_in, is_sn, is_ln, is_tn, oko_isnt, tru_b, tru_n, tru_i, tru_s, tru_l, tru_t, tru_r, len_l, len_t, len_s, len_r, ix_l, ix_t, ix_s, ix_r, int_i, list_l, list_t, sl_l, sl_s, slL_l, repl_s, rng_1, rng_2, List.getElem?_cons_succ, List.getElem?_cons_zero, List.set_cons_succ, List.set_cons_zero, true_and, and_true, Bool.false_eq_true, if_true, if_false, ite_true, ite_false, reduceIte, Bool.not_true, Bool.not_false, Bool.and_true, Bool.true_and, Bool.and_false, Bool.false_and, decide_eq_true_eq, decide_true, decide_false, Bool.and_eq_true, startD, List.map_cons, List.map_nil, List.length_cons, List.length_nil, List.cons_append, List.nil_append, List.zip_cons_cons, List.zip_nil_left, List.zip_nil_right, List.foldl_cons, List.foldl_nil]
    rw [fw_seq]
    try simp (config := {decide := true}) only [fw_nil, fw_set, fw_ret, fw_retN, fw_if, fw_expr, fw_app, fw_aug, fw_put, fw_augIx, fw_asg, fw_par, fw_nx, fw_bk, fw_ct, ok_var, okv_some, okl_lst, okt_tup, oks_str, oki_int, okb_bl, ok_K, ok_bin, ok_un, ok_cmp, ok_val, ok_tru, ok_and, ok_or, ok_not, ok_eAnd, ok_eOr, ok_eNot, ok_if, ok_nil, ok_cons, ok_lst, ok_tup, ok_call, ok_fn, ok_chain, oko_cB, ok_eChain, ok_pNone, ok_pSome, ok_sl, ok_iLst, ok_iTupl, ok_iRng, ok_iStr, ok_yes, oko_some, ok_ok, oko_gN, oko_gT, oko_gNil, oko_gCons, add_ii, add_ss, add_ll, cat_ll, sub_ii, mul_cl, mul_cr, div_ii, mod_ii, pow_ii, iadd_ii, iadd_ss, neg_i, cmp_ii, cmp_ss, in_strs, nin_strs, in_ints, eq_strs, ne_strs, eq_str, ne_str, eq_int, ne_int, sorted_ints, sorted_strs, cutG_map, wipeD_nil, wipeD_cons, atI_two0, atI_two1, atI_c0, atI_c1, isi_bb, isi_ib, isi_ii, eq_bl, ne_bl, eq_nilI, eq_nilS, ne_nilS, List.length_map, in_c, nin_c, is_nn, is_in, is_sn, is_ln, is_tn, oko_isnt, tru_b, tru_n, tru_i, tru_s, tru_l, tru_t, tru_r, len_l, len_t, len_s, len_r, ix_l, ix_t, ix_s, ix_r, int_i, list_l, list_t, sl_l, sl_s, slL_l, repl_s, rng_1, rng_2, List.getElem?_cons_succ, List.getElem?_cons_zero, List.set_cons_succ, List.set_cons_zero, true_and, and_true, Bool.false_eq_true, if_true, if_false, ite_true, ite_false, reduceIte, Bool.not_true, Bool.not_false, Bool.and_true, Bool.true_and, Bool.and_false, Bool.false_and, decide_eq_true_eq, decide_true, decide_false, Bool.and_eq_true, startD, List.map_cons, List.map_nil, List.length_cons, List.length_nil, List.cons_append, List.nil_append, List.zip_cons_cons, List.zip_nil_left, List.zip_nil_right, List.foldl_cons, List.foldl_nil]
    have := numbers_ok ns (a + j) 41 (by decide)
    rw [Int.natCast_add] at this
    refine this.imp ?_
    rintro _ ⟨xs, rfl, hx, hr⟩
    try simp (config := {decide := true}) only [fw_nil, fw_set, fw_ret, fw_retN, fw_if, fw_expr, fw_app, fw_aug, fw_put, fw_augIx, fw_asg, fw_par, fw_nx, fw_bk, fw_ct, ok_var, okv_some, okl_lst, okt_tup, oks_str, oki_int, okb_bl, ok_K, ok_bin, ok_un, ok_cmp, ok_val, ok_tru, ok_and, ok_or, ok_not, ok_eAnd, ok_eOr, ok_eNot, ok_if, ok_nil, ok_cons, ok_lst, ok_tup, ok_call, ok_fn, ok_chain, oko_cB, ok_eChain, ok_pNone, ok_pSome, ok_sl, ok_iLst, ok_iTupl, ok_iRng, ok_iStr, ok_yes, oko_some, ok_ok, oko_gN, oko_gT, oko_gNil, oko_gCons, add_ii, add_ss, add_ll, cat_ll, sub_ii, mul_cl, mul_cr, div_ii, mod_ii, pow_ii, iadd_ii, iadd_ss, neg_i, cmp_ii, cmp_ss, in_strs, nin_strs, in_ints, eq_strs, ne_strs, eq_str, ne_str, eq_int, ne_int, sorted_ints, sorted_strs, cutG_map, wipeD_nil, wipeD_cons, atI_two0, atI_two1, atI_c0, atI_c1, isi_bb, isi_ib, isi_ii, eq_bl, ne_bl, eq_nilI, eq_nilS, ne_nilS, List.length_map, in_c, nin_c, is_nn, is_in, is_sn, is_ln, is_tn, oko_isnt, tru_b, tru_n, tru_i, tru_s, tru_l, tru_t, tru_r, len_l, len_t, len_s, len_r, ix_l, ix_t, ix_s, ix_r, int_i, list_l, list_t, sl_l, sl_s, slL_l, repl_s, rng_1, rng_2, List.getElem?_cons_succ, List.getElem?_cons_zero, List.set_cons_succ, List.set_cons_zero, true_and, and_true, Bool.false_eq_true, if_true, if_false, ite_true, ite_false, reduceIte, Bool.not_true, Bool.not_false, Bool.and_true, Bool.true_and, Bool.and_false, Bool.false_and, decide_eq_true_eq, decide_true, decide_false, Bool.and_eq_true, startD, List.map_cons, List.map_nil, List.length_cons, List.length_nil, List.cons_append, List.nil_append, List.zip_cons_cons, List.zip_nil_left, List.zip_nil_right, List.foldl_cons, List.foldl_nil]
    rw [fw_seq]
    try simp (config := {decide := true}) only [fw_nil, fw_set, fw_ret, fw_retN, fw_if, fw_expr, fw_app, fw_aug, fw_put, fw_augIx, fw_asg, fw_par, fw_nx, fw_bk, fw_ct, ok_var, okv_some, okl_lst, okt_tup, oks_str, oki_int, okb_bl, ok_K, ok_bin, ok_un, ok_cmp, ok_val, ok_tru, ok_and, ok_or, ok_not, ok_eAnd, ok_eOr, ok_eNot, ok_if, ok_nil, ok_cons, ok_lst, ok_tup, ok_call, ok_fn, ok_chain, oko_cB, ok_eChain, ok_pNone, ok_pSome, ok_sl, ok_iLst, ok_iTupl, ok_iRng, ok_iStr, ok_yes, oko_some, ok_ok, oko_gN, oko_gT, oko_gNil, oko_gCons, add_ii, add_ss, add_ll, cat_ll, sub_ii, mul_cl, mul_cr, div_ii, mod_ii, pow_ii, iadd_ii, iadd_ss, neg_i, cmp_ii, cmp_ss, in_strs, nin_strs, in_ints, eq_strs, ne_strs, eq_str, ne_str, eq_int, ne_int, sorted_ints, sorted_strs, cutG_map, wipeD_nil, wipeD_cons, atI_two0, atI_two1, atI_c0, atI_c1, isi_bb, isi_ib, isi_ii, eq_bl, ne_bl, eq_nilI, eq_nilS, ne_nilS, List.length_map, in_c, nin_c, is_nn, is_in, is_sn, is_ln, is_tn, oko_isnt, tru_b, tru_n, tru_i, tru_s, tru_l, tru_t, tru_r, len_l, len_t, len_s, len_r, ix_l, ix_t, ix_s, ix_r, int_i, list_l, list_t, sl_l, sl_s, slL_l, repl_s, rng_1, rng_2, List.getElem?_cons_succ, List.getElem?_cons_zero, List.set_cons_succ, List.set_cons_zero, true_and, and_true, Bool.false_eq_true, if_true, if_false, ite_true, ite_false, reduceIte, Bool.not_true, Bool.not_false, Bool.and_true, Bool.true_and, Bool.and_false, Bool.false_and, decide_eq_true_eq, decide_true, decide_false, Bool.and_eq_true, startD, List.map_cons, List.map_nil, List.length_cons, List.length_nil, List.cons_append, List.nil_append, List.zip_cons_cons, List.zip_nil_left, List.zip_nil_right, List.foldl_cons, List.foldl_nil]
    refine oko_ixm (by omega) (by omega) fun x40 _ => ?_
    try simp (config := {decide := true}) only [fw_nil, fw_set, fw_ret, fw_retN, fw_if, fw_expr, fw_app, fw_aug, fw_put, fw_augIx, fw_asg, fw_par, fw_nx, fw_bk, fw_ct, ok_var, okv_some, okl_lst, okt_tup, oks_str, oki_int, okb_bl, ok_K, ok_bin, ok_un, ok_cmp, ok_val, ok_tru, ok_and, ok_or, ok_not, ok_eAnd, ok_eOr, ok_eNot, ok_if, ok_nil, ok_cons, ok_lst, ok_tup, ok_call, ok_fn, ok_chain, oko_cB, ok_eChain, ok_pNone, ok_pSome, ok_sl, ok_iLst, ok_iTupl, ok_iRng, ok_iStr, ok_yes, oko_some, ok_ok, oko_gN, oko_gT, oko_gNil, oko_gCons, add_ii, add_ss, add_ll, cat_ll, sub_ii, mul_cl, mul_cr, div_ii, mod_ii, pow_ii, iadd_ii, iadd_ss, neg_i, cmp_ii, cmp_ss, in_strs, nin_strs, in_ints, eq_strs, ne_strs, eq_str, ne_str, eq_int, ne_int, sorted_ints, sorted_strs, cutG_map, wipeD_nil, wipeD_cons, atI_two0, atI_two1, atI_c0, atI_c1, isi_bb, isi_ib, isi_ii, eq_bl, ne_bl, eq_nilI, eq_nilS, ne_nilS, List.length_map, in_c, nin_c, is_nn, is_in, is_sn, is_ln, is_tn, oko_isnt, tru_b, tru_n, tru_i, tru_s, tru_l, tru_t, tru_r, len_l, len_t, len_s, len_r, ix_l, ix_t, ix_s, ix_r, int_i, list_l, list_t, sl_l, sl_s, slL_l, repl_s, rng_1, rng_2, List.getElem?_cons_succ, List.getElem?_cons_zero, List.set_cons_succ, List.set_cons_zero, true_and, and_true, Bool.false_eq_true, if_true, if_false, ite_true, ite_false, reduceIte, Bool.not_true, Bool.not_false, Bool.and_true, Bool.true_and, Bool.and_false, Bool.false_and, decide_eq_true_eq, decide_true, decide_false, Bool.and_eq_true, startD, List.map_cons, List.map_nil, List.length_cons, List.length_nil, List.cons_append, List.nil_append, List.zip_cons_cons, List.zip_nil_left, List.zip_nil_right, List.foldl_cons, List.foldl_nil]
    refine fw_cut (fun ρ' => ∃ (num : Int) (u10 : _), ρ' = [some (.scr ns), some (.int a), some (.lst (fs.map .str)), some (.int m), some (.int al), some (encR r), some (.lst (nu.map .int)), some (.int j), some (.lst (xs.map .int)), some (.int num), u10, u11, u12, u13, u14]) ?_ ?_
    · refine fw_range (n := 200) (fun _ ρ' => ∃ (num : Int) (u10 : _), ρ' = [some (.scr ns), some (.int a), some (.lst (fs.map .str)), some (.int m), some (.int al), some (encR r), some (.lst (nu.map .int)), some (.int j), some (.lst (xs.map .int)), some (.int num), u10, u11, u12, u13, u14]) ?_ ?_ ?_ ?_
      · try simp (config := {decide := true}) only [fw_seq, fw_nil, fw_set, fw_ret, fw_retN, fw_if, fw_expr, fw_app, fw_aug, fw_put, fw_augIx, fw_asg, fw_par, fw_nx, fw_bk, fw_ct, ok_var, okv_some, okl_lst, okt_tup, oks_str, oki_int, okb_bl, ok_K, ok_bin, ok_un, ok_cmp, ok_val, ok_tru, ok_and, ok_or, ok_not, ok_eAnd, ok_eOr, ok_eNot, ok_if, ok_nil, ok_cons, ok_lst, ok_tup, ok_call, ok_fn, ok_chain, oko_cB, ok_eChain, ok_pNone, ok_pSome, ok_sl, ok_iLst, ok_iTupl, ok_iRng, ok_iStr, ok_yes, oko_some, ok_ok, oko_gN, oko_gT, oko_gNil, oko_gCons, add_ii, add_ss, add_ll, cat_ll, sub_ii, mul_cl, mul_cr, div_ii, mod_ii, pow_ii, iadd_ii, iadd_ss, neg_i, cmp_ii, cmp_ss, in_strs, nin_strs, in_ints, eq_strs, ne_strs, eq_str, ne_str, eq_int, ne_int, sorted_ints, sorted_strs, cutG_map, wipeD_nil, wipeD_cons, atI_two0, atI_two1, atI_c0, atI_c1, isi_bb, isi_ib, isi_ii, eq_bl, ne_bl, eq_nilI, eq_nilS, ne_nilS, List.length_map, in_c, nin_c, is_nn, is_in, is_sn, is_ln, is_tn, oko_isnt, tru_b, tru_n, tru_i, tru_s, tru_l, tru_t, tru_r, len_l, len_t, len_s, len_r, ix_l, ix_t, ix_s, ix_r, int_i, list_l, list_t, sl_l, sl_s, slL_l, repl_s, rng_1, rng_2, List.getElem?_cons_succ, List.getElem?_cons_zero, List.set_cons_succ, List.set_cons_zero, true_and, and_true, Bool.false_eq_true, if_true, if_false, ite_true, ite_false, reduceIte, Bool.not_true, Bool.not_false, Bool.and_true, Bool.true_and, Bool.and_false, Bool.false_and, decide_eq_true_eq, decide_true, decide_false, Bool.and_eq_true, startD, List.map_cons, List.map_nil, List.length_cons, List.length_nil, List.cons_append, List.nil_append, List.zip_cons_cons, List.zip_nil_left, List.zip_nil_right, List.foldl_cons, List.foldl_nil]
        exact rfl
      · exact ⟨_, _, rfl⟩
      · rintro i _ hi ⟨num, u10, rfl⟩
        try simp (config := {decide := true}) only [fw_seq, fw_nil, fw_set, fw_ret, fw_retN, fw_if, fw_expr, fw_app, fw_aug, fw_put, fw_augIx, fw_asg, fw_par, fw_nx, fw_bk, fw_ct, ok_var, okv_some, okl_lst, okt_tup, oks_str, oki_int, okb_bl, ok_K, ok_bin, ok_un, ok_cmp, ok_val, ok_tru, ok_and, ok_or, ok_not, ok_eAnd, ok_eOr, ok_eNot, ok_if, ok_nil, ok_cons, ok_lst, ok_tup, ok_call, ok_fn, ok_chain, oko_cB, ok_eChain, ok_pNone, ok_pSome, ok_sl, ok_iLst, ok_iTupl, ok_iRng, ok_iStr, ok_yes, oko_some, ok_ok, oko_gN, oko_gT, oko_gNil, oko_gCons, add_ii, add_ss, add_ll, cat_ll, sub_ii, mul_cl, mul_cr, div_ii, mod_ii, pow_ii, iadd_ii, iadd_ss, neg_i, cmp_ii, cmp_ss, in_strs, nin_strs, in_ints, eq_strs, ne_strs, eq_str, ne_str, eq_int, ne_int, sorted_ints, sorted_strs, cutG_map, wipeD_nil, wipeD_cons, atI_two0, atI_two1, atI_c0, atI_c1, isi_bb, isi_ib, isi_ii, eq_bl, ne_bl, eq_nilI, eq_nilS, ne_nilS, List.length_map, in_c, nin_c, is_nn, is_in, is_sn, is_ln, is_tn, oko_isnt, tru_b, tru_n, tru_i, tru_s, tru_l, tru_t, tru_r, len_l, len_t, len_s, len_r, ix_l, ix_t, ix_s, ix_r, int_i, list_l, list_t, sl_l, sl_s, slL_l, repl_s, rng_1, rng_2, List.getElem?_cons_succ, List.getElem?_cons_zero, List.set_cons_succ, List.set_cons_zero, true_and, and_true, Bool.false_eq_true, if_true, if_false, ite_true, ite_false, reduceIte, Bool.not_true, Bool.not_false, Bool.and_true, Bool.true_and, Bool.and_false, Bool.false_and, decide_eq_true_eq, decide_true, decide_false, Bool.and_eq_true, startD, List.map_cons, List.map_nil, List.length_cons, List.length_nil, List.cons_append, List.nil_append, List.zip_cons_cons, List.zip_nil_left, List.zip_nil_right, List.foldl_cons, List.foldl_nil]
        split
        · exact ⟨_, _, rfl⟩
        · exact ⟨_, _, rfl⟩
      · exact fun _ h => h
    rintro _ ⟨num, u10, rfl⟩
    rw [fw_seq]
    try simp (config := {decide := true}) only [fw_nil, fw_set, fw_ret, fw_retN, fw_if, fw_expr, fw_app, fw_aug, fw_put, fw_augIx, fw_asg, fw_par, fw_nx, fw_bk, fw_ct, ok_var, okv_some, okl_lst, okt_tup, oks_str, oki_int, okb_bl, ok_K, ok_bin, ok_un, ok_cmp, ok_val, ok_tru, ok_and, ok_or, ok_not, ok_eAnd, ok_eOr, ok_eNot, ok_if, ok_nil, ok_cons, ok_lst, ok_tup, ok_call, ok_fn, ok_chain, oko_cB, ok_eChain, ok_pNone, ok_pSome, ok_sl, ok_iLst, ok_iTupl, ok_iRng, ok_iStr, ok_yes, oko_some, ok_ok, oko_gN, oko_gT, oko_gNil, oko_gCons, add_ii, add_ss, add_ll, cat_ll, sub_ii, mul_cl, mul_cr, div_ii, mod_ii, pow_ii, iadd_ii, iadd_ss, neg_i, cmp_ii, cmp_ss, in_strs, nin_strs, in_ints, eq_strs, ne_strs, eq_str, ne_str, eq_int, ne_int, sorted_ints, sorted_strs, cutG_map, wipeD_nil, wipeD_cons, atI_two0, atI_two1, atI_c0, atI_c1, isi_bb, isi_ib, isi_ii, eq_bl, ne_bl, eq_nilI, eq_nilS, ne_nilS, List.length_map, in_c, nin_c, is_nn, is_in, is_sn, is_ln, is_tn, oko_isnt, tru_b, tru_n, tru_i, tru_s, tru_l, tru_t, tru_r, len_l, len_t, len_s, len_r, ix_l, ix_t, ix_s, ix_r, int_i, list_l, list_t, sl_l, sl_s, slL_l, repl_s, rng_1, rng_2, List.getElem?_cons_succ, List.getElem?_cons_zero, List.set_cons_succ, List.set_cons_zero, true_and, and_true, Bool.false_eq_true, if_true, if_false, ite_true, ite_false, reduceIte, Bool.not_true, Bool.not_false, Bool.and_true, Bool.true_and, Bool.and_false, Bool.false_and, decide_eq_true_eq, decide_true, decide_false, Bool.and_eq_true, startD, List.map_cons, List.map_nil, List.length_cons, List.length_nil, List.cons_append, List.nil_append, List.zip_cons_cons, List.zip_nil_left, List.zip_nil_right, List.foldl_cons, List.foldl_nil]
    refine ⟨by rw [sizeLine_eq]; omega, ?_⟩
    rw [fw_seq]
    try simp (config := {decide := true}) only [fw_nil, fw_set, fw_ret, fw_retN, fw_if, fw_expr, fw_app, fw_aug, fw_put, fw_augIx, fw_asg, fw_par, fw_nx, fw_bk, fw_ct, ok_var, okv_some, okl_lst, okt_tup, oks_str, oki_int, okb_bl, ok_K, ok_bin, ok_un, ok_cmp, ok_val, ok_tru, ok_and, ok_or, ok_not, ok_eAnd, ok_eOr, ok_eNot, ok_if, ok_nil, ok_cons, ok_lst, ok_tup, ok_call, ok_fn, ok_chain, oko_cB, ok_eChain, ok_pNone, ok_pSome, ok_sl, ok_iLst, ok_iTupl, ok_iRng, ok_iStr, ok_yes, oko_some, ok_ok, oko_gN, oko_gT, oko_gNil, oko_gCons, add_ii, add_ss, add_ll, cat_ll, sub_ii, mul_cl, mul_cr, div_ii, mod_ii, pow_ii, iadd_ii, iadd_ss, neg_i, cmp_ii, cmp_ss, in_strs, nin_strs, in_ints, eq_strs, ne_strs, eq_str, ne_str, eq_int, ne_int, sorted_ints, sorted_strs, cutG_map, wipeD_nil, wipeD_cons, atI_two0, atI_two1, atI_c0, atI_c1, isi_bb, isi_ib, isi_ii, eq_bl, ne_bl, eq_nilI, eq_nilS, ne_nilS, List.length_map, in_c, nin_c, is_nn, is_in, is_sn, is_ln, is_tn, oko_isnt, tru_b, tru_n, tru_i, tru_s, tru_l, tru_t, tru_r, len_l, len_t, len_s, len_r, ix_l, ix_t, ix_s, ix_r, int_i, list_l, list_t, sl_l, sl_s, slL_l, repl_s, rng_1, rng_2, List.getElem?_cons_succ, List.getElem?_cons_zero, List.set_cons_succ, List.set_cons_zero, true_and, and_true, Bool.false_eq_true, if_true, if_false, ite_true, ite_false, reduceIte, Bool.not_true, Bool.not_false, Bool.and_true, Bool.true_and, Bool.and_false, Bool.false_and, decide_eq_true_eq, decide_true, decide_false, Bool.and_eq_true, startD, List.map_cons, List.map_nil, List.length_cons, List.length_nil, List.cons_append, List.nil_append, List.zip_cons_cons, List.zip_nil_left, List.zip_nil_right, List.foldl_cons, List.foldl_nil, ok_lc]
    refine ⟨(rng_ok (n := fs.length) (by omega)).1, ?_⟩
    refine lc_yes (fun d => ∃ s, d = .str s ∧ s.length ≤ 13) _ (fun d hd => ?_) fun rs hl hrs => ?_
    · obtain ⟨i, hi, rfl⟩ := mem_range hd
      rw [Int.toNat_natCast] at hi
      try simp (config := {decide := true}) only [fw_seq, fw_nil, fw_set, fw_ret, fw_retN, fw_if, fw_expr, fw_app, fw_aug, fw_put, fw_augIx, fw_asg, fw_par, fw_nx, fw_bk, fw_ct, ok_var, okv_some, okl_lst, okt_tup, oks_str, oki_int, okb_bl, ok_K, ok_bin, ok_un, ok_cmp, ok_val, ok_tru, ok_and, ok_or, ok_not, ok_eAnd, ok_eOr, ok_eNot, ok_if, ok_nil, ok_cons, ok_lst, ok_tup, ok_call, ok_fn, ok_chain, oko_cB, ok_eChain, ok_pNone, ok_pSome, ok_sl, ok_iLst, ok_iTupl, ok_iRng, ok_iStr, ok_yes, oko_some, ok_ok, oko_gN, oko_gT, oko_gNil, oko_gCons, add_ii, add_ss, add_ll, cat_ll, sub_ii, mul_cl, mul_cr, div_ii, mod_ii, pow_ii, iadd_ii, iadd_ss, neg_i, cmp_ii, cmp_ss, in_strs, nin_strs, in_ints, eq_strs, ne_strs, eq_str, ne_str, eq_int, ne_int, sorted_ints, sorted_strs, cutG_map, wipeD_nil, wipeD_cons, atI_two0, atI_two1, atI_c0, atI_c1, isi_bb, isi_ib, isi_ii, eq_bl, ne_bl, eq_nilI, eq_nilS, ne_nilS, List.length_map, in_c, nin_c, is_nn, is_in, is_sn, is_ln, is_tn, oko_isnt, tru_b, tru_n, tru_i, tru_s, tru_l, tru_t, tru_r, len_l, len_t, len_s, len_r, ix_l, ix_t, ix_s, ix_r, int_i, list_l, list_t, sl_l, sl_s, slL_l, repl_s, rng_1, rng_2, List.getElem?_cons_succ, List.getElem?_cons_zero, List.set_cons_succ, List.set_cons_zero, true_and, and_true, Bool.false_eq_true, if_true, if_false, ite_true, ite_false, reduceIte, Bool.not_true, Bool.not_false, Bool.and_true, Bool.true_and, Bool.and_false, Bool.false_and, decide_eq_true_eq, decide_true, decide_false, Bool.and_eq_true, startD, List.map_cons, List.map_nil, List.length_cons, List.length_nil, List.cons_append, List.nil_append, List.zip_cons_cons, List.zip_nil_left, List.zip_nil_right, List.foldl_cons, List.foldl_nil]
      refine oko_ixm (by omega) (by omega) fun xi _ => ?_
      try simp (config := {decide := true}) only [fw_seq, fw_nil, fw_set, fw_ret, fw_retN, fw_if, fw_expr, fw_app, fw_aug, fw_put, fw_augIx, fw_asg, fw_par, fw_nx, fw_bk, fw_ct, ok_var, okv_some, okl_lst, okt_tup, oks_str, oki_int, okb_bl, ok_K, ok_bin, ok_un, ok_cmp, ok_val, ok_tru, ok_and, ok_or, ok_not, ok_eAnd, ok_eOr, ok_eNot, ok_if, ok_nil, ok_cons, ok_lst, ok_tup, ok_call, ok_fn, ok_chain, oko_cB, ok_eChain, ok_pNone, ok_pSome, ok_sl, ok_iLst, ok_iTupl, ok_iRng, ok_iStr, ok_yes, oko_some, ok_ok, oko_gN, oko_gT, oko_gNil, oko_gCons, add_ii, add_ss, add_ll, cat_ll, sub_ii, mul_cl, mul_cr, div_ii, mod_ii, pow_ii, iadd_ii, iadd_ss, neg_i, cmp_ii, cmp_ss, in_strs, nin_strs, in_ints, eq_strs, ne_strs, eq_str, ne_str, eq_int, ne_int, sorted_ints, sorted_strs, cutG_map, wipeD_nil, wipeD_cons, atI_two0, atI_two1, atI_c0, atI_c1, isi_bb, isi_ib, isi_ii, eq_bl, ne_bl, eq_nilI, eq_nilS, ne_nilS, List.length_map, in_c, nin_c, is_nn, is_in, is_sn, is_ln, is_tn, oko_isnt, tru_b, tru_n, tru_i, tru_s, tru_l, tru_t, tru_r, len_l, len_t, len_s, len_r, ix_l, ix_t, ix_s, ix_r, int_i, list_l, list_t, sl_l, sl_s, slL_l, repl_s, rng_1, rng_2, List.getElem?_cons_succ, List.getElem?_cons_zero, List.set_cons_succ, List.set_cons_zero, true_and, and_true, Bool.false_eq_true, if_true, if_false, ite_true, ite_false, reduceIte, Bool.not_true, Bool.not_false, Bool.and_true, Bool.true_and, Bool.and_false, Bool.false_and, decide_eq_true_eq, decide_true, decide_false, Bool.and_eq_true, startD, List.map_cons, List.map_nil, List.length_cons, List.length_nil, List.cons_append, List.nil_append, List.zip_cons_cons, List.zip_nil_left, List.zip_nil_right, List.foldl_cons, List.foldl_nil]
      refine oko_two (by omega) (by omega) fun p hp => ?_
      try simp (config := {decide := true}) only [fw_seq, fw_nil, fw_set, fw_ret, fw_retN, fw_if, fw_expr, fw_app, fw_aug, fw_put, fw_augIx, fw_asg, fw_par, fw_nx, fw_bk, fw_ct, ok_var, okv_some, okl_lst, okt_tup, oks_str, oki_int, okb_bl, ok_K, ok_bin, ok_un, ok_cmp, ok_val, ok_tru, ok_and, ok_or, ok_not, ok_eAnd, ok_eOr, ok_eNot, ok_if, ok_nil, ok_cons, ok_lst, ok_tup, ok_call, ok_fn, ok_chain, oko_cB, ok_eChain, ok_pNone, ok_pSome, ok_sl, ok_iLst, ok_iTupl, ok_iRng, ok_iStr, ok_yes, oko_some, ok_ok, oko_gN, oko_gT, oko_gNil, oko_gCons, add_ii, add_ss, add_ll, cat_ll, sub_ii, mul_cl, mul_cr, div_ii, mod_ii, pow_ii, iadd_ii, iadd_ss, neg_i, cmp_ii, cmp_ss, in_strs, nin_strs, in_ints, eq_strs, ne_strs, eq_str, ne_str, eq_int, ne_int, sorted_ints, sorted_strs, cutG_map, wipeD_nil, wipeD_cons, atI_two0, atI_two1, atI_c0, atI_c1, isi_bb, isi_ib, isi_ii, eq_bl, ne_bl, eq_nilI, eq_nilS, ne_nilS, List.length_map, in_c, nin_c, is_nn, is_in, is_sn, is_ln, is_tn, oko_isnt, tru_b, tru_n, tru_i, tru_s, tru_l, tru_t, tru_r, len_l, len_t, len_s, len_r, ix_l, ix_t, ix_s, ix_r, int_i, list_l, list_t, sl_l, sl_s, slL_l, repl_s, rng_1, rng_2, List.getElem?_cons_succ, List.getElem?_cons_zero, List.set_cons_succ, List.set_cons_zero, true_and, and_true, Bool.false_eq_true, if_true, if_false, ite_true, ite_false, reduceIte, Bool.not_true, Bool.not_false, Bool.and_true, Bool.true_and, Bool.and_false, Bool.false_and, decide_eq_true_eq, decide_true, decide_false, Bool.and_eq_true, startD, List.map_cons, List.map_nil, List.length_cons, List.length_nil, List.cons_append, List.nil_append, List.zip_cons_cons, List.zip_nil_left, List.zip_nil_right, List.foldl_cons, List.foldl_nil]
      refine oko_ixm (by omega) (by omega) fun f hf => ?_
      have hp1 : p.length ≤ 1 := by rcases hp with rfl | rfl <;> simp
      have hf1 := (h3 f hf).2
      try simp (config := {decide := true}) only [fw_seq, fw_nil, fw_set, fw_ret, fw_retN, fw_if, fw_expr, fw_app, fw_aug, fw_put, fw_augIx, fw_asg, fw_par, fw_nx, fw_bk, fw_ct, ok_var, okv_some, okl_lst, okt_tup, oks_str, oki_int, okb_bl, ok_K, ok_bin, ok_un, ok_cmp, ok_val, ok_tru, ok_and, ok_or, ok_not, ok_eAnd, ok_eOr, ok_eNot, ok_if, ok_nil, ok_cons, ok_lst, ok_tup, ok_call, ok_fn, ok_chain, oko_cB, ok_eChain, ok_pNone, ok_pSome, ok_sl, ok_iLst, ok_iTupl, ok_iRng, ok_iStr, ok_yes, oko_some, ok_ok, oko_gN, oko_gT, oko_gNil, oko_gCons, add_ii, add_ss, add_ll, cat_ll, sub_ii, mul_cl, mul_cr, div_ii, mod_ii, pow_ii, iadd_ii, iadd_ss, neg_i, cmp_ii, cmp_ss, in_strs, nin_strs, in_ints, eq_strs, ne_strs, eq_str, ne_str, eq_int, ne_int, sorted_ints, sorted_strs, cutG_map, wipeD_nil, wipeD_cons, atI_two0, atI_two1, atI_c0, atI_c1, isi_bb, isi_ib, isi_ii, eq_bl, ne_bl, eq_nilI, eq_nilS, ne_nilS, List.length_map, in_c, nin_c, is_nn, is_in, is_sn, is_ln, is_tn, oko_isnt, tru_b, tru_n, tru_i, tru_s, tru_l, tru_t, tru_r, len_l, len_t, len_s, len_r, ix_l, ix_t, ix_s, ix_r, int_i, list_l, list_t, sl_l, sl_s, slL_l, repl_s, rng_1, rng_2, List.getElem?_cons_succ, List.getElem?_cons_zero, List.set_cons_succ, List.set_cons_zero, true_and, and_true, Bool.false_eq_true, if_true, if_false, ite_true, ite_false, reduceIte, Bool.not_true, Bool.not_false, Bool.and_true, Bool.true_and, Bool.and_false, Bool.false_and, decide_eq_true_eq, decide_true, decide_false, Bool.and_eq_true, startD, List.map_cons, List.map_nil, List.length_cons, List.length_nil, List.cons_append, List.nil_append, List.zip_cons_cons, List.zip_nil_left, List.zip_nil_right, List.foldl_cons, List.foldl_nil, sizeLine_eq]
      exact ⟨by omega, _, rfl, by rw [List.length_append]; omega⟩
    rw [rangeD_len, Int.toNat_natCast] at hl
    obtain ⟨ss, rfl, hss⟩ := unmap hrs
    rw [List.length_map] at hl
    try simp (config := {decide := true}) only [fw_nil, fw_set, fw_ret, fw_retN, fw_if, fw_expr, fw_app, fw_aug, fw_put, fw_augIx, fw_asg, fw_par, fw_nx, fw_bk, fw_ct, ok_var, okv_some, okl_lst, okt_tup, oks_str, oki_int, okb_bl, ok_K, ok_bin, ok_un, ok_cmp, ok_val, ok_tru, ok_and, ok_or, ok_not, ok_eAnd, ok_eOr, ok_eNot, ok_if, ok_nil, ok_cons, ok_lst, ok_tup, ok_call, ok_fn, ok_chain, oko_cB, ok_eChain, ok_pNone, ok_pSome, ok_sl, ok_iLst, ok_iTupl, ok_iRng, ok_iStr, ok_yes, oko_some, ok_ok, oko_gN, oko_gT, oko_gNil, oko_gCons, add_ii, add_ss, add_ll, cat_ll, sub_ii, mul_cl, mul_cr, div_ii, mod_ii, pow_ii, iadd_ii, iadd_ss, neg_i, cmp_ii, cmp_ss, in_strs, nin_strs, in_ints, eq_strs, ne_strs, eq_str, ne_str, eq_int, ne_int, sorted_ints, sorted_strs, cutG_map, wipeD_nil, wipeD_cons, atI_two0, atI_two1, atI_c0, atI_c1, isi_bb, isi_ib, isi_ii, eq_bl, ne_bl, eq_nilI, eq_nilS, ne_nilS, List.length_map, in_c, nin_c, is_nn, is_in, is_sn, is_ln, is_tn, oko_isnt, tru_b, tru_n, tru_i, tru_s, tru_l, tru_t, tru_r, len_l, len_t, len_s, len_r, ix_l, ix_t, ix_s, ix_r, int_i, list_l, list_t, sl_l, sl_s, slL_l, repl_s, rng_1, rng_2, List.getElem?_cons_succ, List.getElem?_cons_zero, List.set_cons_succ, List.set_cons_zero, true_and, and_true, Bool.false_eq_true, if_true, if_false, ite_true, ite_false, reduceIte, Bool.not_true, Bool.not_false, Bool.and_true, Bool.true_and, Bool.and_false, Bool.false_and, decide_eq_true_eq, decide_true, decide_false, Bool.and_eq_true, startD, List.map_cons, List.map_nil, List.length_cons, List.length_nil, List.cons_append, List.nil_append, List.zip_cons_cons, List.zip_nil_left, List.zip_nil_right, List.foldl_cons, List.foldl_nil]
    refine ⟨by rw [sizeLine_eq]; omega, ?_⟩
    refine fw_cut (fun ρ' => ∃ (ss : List (List Nat)) (u12 u13 : _), (ss.length = fs.length ∧ ∀ s ∈ ss, s.length ≤ 13) ∧ ρ' = [some (.scr ns), some (.int a), some (.lst (fs.map .str)), some (.int m), some (.int al), some (encR r), some (.lst ((nu ++ [num]).map .int)), some (.int j), some (.lst (xs.map .int)), some (.int num), u10, some (.lst (ss.map .str)), u12, u13, u14]) ?_ ?_
    · have hnu : nu.map D.int ++ [D.int num] = (nu ++ [num]).map D.int := by rw [List.map_append]; rfl
      rw [hnu]
      try simp (config := {decide := true}) only [fw_nil, fw_set, fw_ret, fw_retN, fw_if, fw_expr, fw_app, fw_aug, fw_put, fw_augIx, fw_asg, fw_par, fw_nx, fw_bk, fw_ct, ok_var, okv_some, okl_lst, okt_tup, oks_str, oki_int, okb_bl, ok_K, ok_bin, ok_un, ok_cmp, ok_val, ok_tru, ok_and, ok_or, ok_not, ok_eAnd, ok_eOr, ok_eNot, ok_if, ok_nil, ok_cons, ok_lst, ok_tup, ok_call, ok_fn, ok_chain, oko_cB, ok_eChain, ok_pNone, ok_pSome, ok_sl, ok_iLst, ok_iTupl, ok_iRng, ok_iStr, ok_yes, oko_some, ok_ok, oko_gN, oko_gT, oko_gNil, oko_gCons, add_ii, add_ss, add_ll, cat_ll, sub_ii, mul_cl, mul_cr, div_ii, mod_ii, pow_ii, iadd_ii, iadd_ss, neg_i, cmp_ii, cmp_ss, in_strs, nin_strs, in_ints, eq_strs, ne_strs, eq_str, ne_str, eq_int, ne_int, sorted_ints, sorted_strs, cutG_map, wipeD_nil, wipeD_cons, atI_two0, atI_two1, atI_c0, atI_c1, isi_bb, isi_ib, isi_ii, eq_bl, ne_bl, eq_nilI, eq_nilS, ne_nilS, List.length_map, in_c, nin_c, is_nn, is_in, is_sn, is_ln, is_tn, oko_isnt, tru_b, tru_n, tru_i, tru_s, tru_l, tru_t, tru_r, len_l, len_t, len_s, len_r, ix_l, ix_t, ix_s, ix_r, int_i, list_l, list_t, sl_l, sl_s, slL_l, repl_s, rng_1, rng_2, List.getElem?_cons_succ, List.getElem?_cons_zero, List.set_cons_succ, List.set_cons_zero, true_and, and_true, Bool.false_eq_true, if_true, if_false, ite_true, ite_false, reduceIte, Bool.not_true, Bool.not_false, Bool.and_true, Bool.true_and, Bool.and_false, Bool.false_and, decide_eq_true_eq, decide_true, decide_false, Bool.and_eq_true, startD, List.map_cons, List.map_nil, List.length_cons, List.length_nil, List.cons_append, List.nil_append, List.zip_cons_cons, List.zip_nil_left, List.zip_nil_right, List.foldl_cons, List.foldl_nil]
      split
      · rename_i hj0
        refine oko_ixm (by omega) (by omega) fun x39 _ => ?_
        try simp (config := {decide := true}) only [fw_nil, fw_set, fw_ret, fw_retN, fw_if, fw_expr, fw_app, fw_aug, fw_put, fw_augIx, fw_asg, fw_par, fw_nx, fw_bk, fw_ct, ok_var, okv_some, okl_lst, okt_tup, oks_str, oki_int, okb_bl, ok_K, ok_bin, ok_un, ok_cmp, ok_val, ok_tru, ok_and, ok_or, ok_not, ok_eAnd, ok_eOr, ok_eNot, ok_if, ok_nil, ok_cons, ok_lst, ok_tup, ok_call, ok_fn, ok_chain, oko_cB, ok_eChain, ok_pNone, ok_pSome, ok_sl, ok_iLst, ok_iTupl, ok_iRng, ok_iStr, ok_yes, oko_some, ok_ok, oko_gN, oko_gT, oko_gNil, oko_gCons, add_ii, add_ss, add_ll, cat_ll, sub_ii, mul_cl, mul_cr, div_ii, mod_ii, pow_ii, iadd_ii, iadd_ss, neg_i, cmp_ii, cmp_ss, in_strs, nin_strs, in_ints, eq_strs, ne_strs, eq_str, ne_str, eq_int, ne_int, sorted_ints, sorted_strs, cutG_map, wipeD_nil, wipeD_cons, atI_two0, atI_two1, atI_c0, atI_c1, isi_bb, isi_ib, isi_ii, eq_bl, ne_bl, eq_nilI, eq_nilS, ne_nilS, List.length_map, in_c, nin_c, is_nn, is_in, is_sn, is_ln, is_tn, oko_isnt, tru_b, tru_n, tru_i, tru_s, tru_l, tru_t, tru_r, len_l, len_t, len_s, len_r, ix_l, ix_t, ix_s, ix_r, int_i, list_l, list_t, sl_l, sl_s, slL_l, repl_s, rng_1, rng_2, List.getElem?_cons_succ, List.getElem?_cons_zero, List.set_cons_succ, List.set_cons_zero, true_and, and_true, Bool.false_eq_true, if_true, if_false, ite_true, ite_false, reduceIte, Bool.not_true, Bool.not_false, Bool.and_true, Bool.true_and, Bool.and_false, Bool.false_and, decide_eq_true_eq, decide_true, decide_false, Bool.and_eq_true, startD, List.map_cons, List.map_nil, List.length_cons, List.length_nil, List.cons_append, List.nil_append, List.zip_cons_cons, List.zip_nil_left, List.zip_nil_right, List.foldl_cons, List.foldl_nil]
        split
        · rw [fw_seq]
          try simp (config := {decide := true}) only [fw_nil, fw_set, fw_ret, fw_retN, fw_if, fw_expr, fw_app, fw_aug, fw_put, fw_augIx, fw_asg, fw_par, fw_nx, fw_bk, fw_ct, ok_var, okv_some, okl_lst, okt_tup, oks_str, oki_int, okb_bl, ok_K, ok_bin, ok_un, ok_cmp, ok_val, ok_tru, ok_and, ok_or, ok_not, ok_eAnd, ok_eOr, ok_eNot, ok_if, ok_nil, ok_cons, ok_lst, ok_tup, ok_call, ok_fn, ok_chain, oko_cB, ok_eChain, ok_pNone, ok_pSome, ok_sl, ok_iLst, ok_iTupl, ok_iRng, ok_iStr, ok_yes, oko_some, ok_ok, oko_gN, oko_gT, oko_gNil, oko_gCons, add_ii, add_ss, add_ll, cat_ll, sub_ii, mul_cl, mul_cr, div_ii, mod_ii, pow_ii, iadd_ii, iadd_ss, neg_i, cmp_ii, cmp_ss, in_strs, nin_strs, in_ints, eq_strs, ne_strs, eq_str, ne_str, eq_int, ne_int, sorted_ints, sorted_strs, cutG_map, wipeD_nil, wipeD_cons, atI_two0, atI_two1, atI_c0, atI_c1, isi_bb, isi_ib, isi_ii, eq_bl, ne_bl, eq_nilI, eq_nilS, ne_nilS, List.length_map, in_c, nin_c, is_nn, is_in, is_sn, is_ln, is_tn, oko_isnt, tru_b, tru_n, tru_i, tru_s, tru_l, tru_t, tru_r, len_l, len_t, len_s, len_r, ix_l, ix_t, ix_s, ix_r, int_i, list_l, list_t, sl_l, sl_s, slL_l, repl_s, rng_1, rng_2, List.getElem?_cons_succ, List.getElem?_cons_zero, List.set_cons_succ, List.set_cons_zero, true_and, and_true, Bool.false_eq_true, if_true, if_false, ite_true, ite_false, reduceIte, Bool.not_true, Bool.not_false, Bool.and_true, Bool.true_and, Bool.and_false, Bool.false_and, decide_eq_true_eq, decide_true, decide_false, Bool.and_eq_true, startD, List.map_cons, List.map_nil, List.length_cons, List.length_nil, List.cons_append, List.nil_append, List.zip_cons_cons, List.zip_nil_left, List.zip_nil_right, List.foldl_cons, List.foldl_nil]
          refine oko_ixm (by omega) (by omega) fun x38 _ => ?_
          try simp (config := {decide := true}) only [fw_nil, fw_set, fw_ret, fw_retN, fw_if, fw_expr, fw_app, fw_aug, fw_put, fw_augIx, fw_asg, fw_par, fw_nx, fw_bk, fw_ct, ok_var, okv_some, okl_lst, okt_tup, oks_str, oki_int, okb_bl, ok_K, ok_bin, ok_un, ok_cmp, ok_val, ok_tru, ok_and, ok_or, ok_not, ok_eAnd, ok_eOr, ok_eNot, ok_if, ok_nil, ok_cons, ok_lst, ok_tup, ok_call, ok_fn, ok_chain, oko_cB, ok_eChain, ok_pNone, ok_pSome, ok_sl, ok_iLst, ok_iTupl, ok_iRng, ok_iStr, ok_yes, oko_some, ok_ok, oko_gN, oko_gT, oko_gNil, oko_gCons, add_ii, add_ss, add_ll, cat_ll, sub_ii, mul_cl, mul_cr, div_ii, mod_ii, pow_ii, iadd_ii, iadd_ss, neg_i, cmp_ii, cmp_ss, in_strs, nin_strs, in_ints, eq_strs, ne_strs, eq_str, ne_str, eq_int, ne_int, sorted_ints, sorted_strs, cutG_map, wipeD_nil, wipeD_cons, atI_two0, atI_two1, atI_c0, atI_c1, isi_bb, isi_ib, isi_ii, eq_bl, ne_bl, eq_nilI, eq_nilS, ne_nilS, List.length_map, in_c, nin_c, is_nn, is_in, is_sn, is_ln, is_tn, oko_isnt, tru_b, tru_n, tru_i, tru_s, tru_l, tru_t, tru_r, len_l, len_t, len_s, len_r, ix_l, ix_t, ix_s, ix_r, int_i, list_l, list_t, sl_l, sl_s, slL_l, repl_s, rng_1, rng_2, List.getElem?_cons_succ, List.getElem?_cons_zero, List.set_cons_succ, List.set_cons_zero, true_and, and_true, Bool.false_eq_true, if_true, if_false, ite_true, ite_false, reduceIte, Bool.not_true, Bool.not_false, Bool.and_true, Bool.true_and, Bool.and_false, Bool.false_and, decide_eq_true_eq, decide_true, decide_false, Bool.and_eq_true, startD, List.map_cons, List.map_nil, List.length_cons, List.length_nil, List.cons_append, List.nil_append, List.zip_cons_cons, List.zip_nil_left, List.zip_nil_right, List.foldl_cons, List.foldl_nil]
          refine ⟨by omega, ?_⟩
          obtain ⟨o, ho⟩ : ∃ o : Nat, x38 % (fs.length : Int) = o := ⟨_, (Int.toNat_of_nonneg (Int.emod_nonneg _ (by omega))).symm⟩
          have ho2 : o < fs.length := by
            have := Int.emod_lt_of_pos x38 (show (0 : Int) < fs.length by omega)
            omega
          rw [ho]
          rw [fw_seq]
          try simp (config := {decide := true}) only [fw_nil, fw_set, fw_ret, fw_retN, fw_if, fw_expr, fw_app, fw_aug, fw_put, fw_augIx, fw_asg, fw_par, fw_nx, fw_bk, fw_ct, ok_var, okv_some, okl_lst, okt_tup, oks_str, oki_int, okb_bl, ok_K, ok_bin, ok_un, ok_cmp, ok_val, ok_tru, ok_and, ok_or, ok_not, ok_eAnd, ok_eOr, ok_eNot, ok_if, ok_nil, ok_cons, ok_lst, ok_tup, ok_call, ok_fn, ok_chain, oko_cB, ok_eChain, ok_pNone, ok_pSome, ok_sl, ok_iLst, ok_iTupl, ok_iRng, ok_iStr, ok_yes, oko_some, ok_ok, oko_gN, oko_gT, oko_gNil, oko_gCons, add_ii, add_ss, add_ll, cat_ll, sub_ii, mul_cl, mul_cr, div_ii, mod_ii, pow_ii, iadd_ii, iadd_ss, neg_i, cmp_ii, cmp_ss, in_strs, nin_strs, in_ints, eq_strs, ne_strs, eq_str, ne_str, eq_int, ne_int, sorted_ints, sorted_strs, cutG_map, wipeD_nil, wipeD_cons, atI_two0, atI_two1, atI_c0, atI_c1, isi_bb, isi_ib, isi_ii, eq_bl, ne_bl, eq_nilI, eq_nilS, ne_nilS, List.length_map, in_c, nin_c, is_nn, is_in, is_sn, is_ln, is_tn, oko_isnt, tru_b, tru_n, tru_i, tru_s, tru_l, tru_t, tru_r, len_l, len_t, len_s, len_r, ix_l, ix_t, ix_s, ix_r, int_i, list_l, list_t, sl_l, sl_s, slL_l, repl_s, rng_1, rng_2, List.getElem?_cons_succ, List.getElem?_cons_zero, List.set_cons_succ, List.set_cons_zero, true_and, and_true, Bool.false_eq_true, if_true, if_false, ite_true, ite_false, reduceIte, Bool.not_true, Bool.not_false, Bool.and_true, Bool.true_and, Bool.and_false, Bool.false_and, decide_eq_true_eq, decide_true, decide_false, Bool.and_eq_true, startD, List.map_cons, List.map_nil, List.length_cons, List.length_nil, List.cons_append, List.nil_append, List.zip_cons_cons, List.zip_nil_left, List.zip_nil_right, List.foldl_cons, List.foldl_nil]
          refine oko_ixm (by omega) (by omega) fun x37 _ => ?_
          try simp (config := {decide := true}) only [fw_nil, fw_set, fw_ret, fw_retN, fw_if, fw_expr, fw_app, fw_aug, fw_put, fw_augIx, fw_asg, fw_par, fw_nx, fw_bk, fw_ct, ok_var, okv_some, okl_lst, okt_tup, oks_str, oki_int, okb_bl, ok_K, ok_bin, ok_un, ok_cmp, ok_val, ok_tru, ok_and, ok_or, ok_not, ok_eAnd, ok_eOr, ok_eNot, ok_if, ok_nil, ok_cons, ok_lst, ok_tup, ok_call, ok_fn, ok_chain, oko_cB, ok_eChain, ok_pNone, ok_pSome, ok_sl, ok_iLst, ok_iTupl, ok_iRng, ok_iStr, ok_yes, oko_some, ok_ok, oko_gN, oko_gT, oko_gNil, oko_gCons, add_ii, add_ss, add_ll, cat_ll, sub_ii, mul_cl, mul_cr, div_ii, mod_ii, pow_ii, iadd_ii, iadd_ss, neg_i, cmp_ii, cmp_ss, in_strs, nin_strs, in_ints, eq_strs, ne_strs, eq_str, ne_str, eq_int, ne_int, sorted_ints, sorted_strs, cutG_map, wipeD_nil, wipeD_cons, atI_two0, atI_two1, atI_c0, atI_c1, isi_bb, isi_ib, isi_ii, eq_bl, ne_bl, eq_nilI, eq_nilS, ne_nilS, List.length_map, in_c, nin_c, is_nn, is_in, is_sn, is_ln, is_tn, oko_isnt, tru_b, tru_n, tru_i, tru_s, tru_l, tru_t, tru_r, len_l, len_t, len_s, len_r, ix_l, ix_t, ix_s, ix_r, int_i, list_l, list_t, sl_l, sl_s, slL_l, repl_s, rng_1, rng_2, List.getElem?_cons_succ, List.getElem?_cons_zero, List.set_cons_succ, List.set_cons_zero, true_and, and_true, Bool.false_eq_true, if_true, if_false, ite_true, ite_false, reduceIte, Bool.not_true, Bool.not_false, Bool.and_true, Bool.true_and, Bool.and_false, Bool.false_and, decide_eq_true_eq, decide_true, decide_false, Bool.and_eq_true, startD, List.map_cons, List.map_nil, List.length_cons, List.length_nil, List.cons_append, List.nil_append, List.zip_cons_cons, List.zip_nil_left, List.zip_nil_right, List.foldl_cons, List.foldl_nil]
          refine ⟨by omega, ?_⟩
          have hr0 : 0 ≤ x37 % (j : Int) := Int.emod_nonneg _ (by omega)
          have hr1 : x37 % (j : Int) < j := Int.emod_lt_of_pos _ (by omega)
          unfold encR
          try simp (config := {decide := true}) only [fw_nil, fw_set, fw_ret, fw_retN, fw_if, fw_expr, fw_app, fw_aug, fw_put, fw_augIx, fw_asg, fw_par, fw_nx, fw_bk, fw_ct, ok_var, okv_some, okl_lst, okt_tup, oks_str, oki_int, okb_bl, ok_K, ok_bin, ok_un, ok_cmp, ok_val, ok_tru, ok_and, ok_or, ok_not, ok_eAnd, ok_eOr, ok_eNot, ok_if, ok_nil, ok_cons, ok_lst, ok_tup, ok_call, ok_fn, ok_chain, oko_cB, ok_eChain, ok_pNone, ok_pSome, ok_sl, ok_iLst, ok_iTupl, ok_iRng, ok_iStr, ok_yes, oko_some, ok_ok, oko_gN, oko_gT, oko_gNil, oko_gCons, add_ii, add_ss, add_ll, cat_ll, sub_ii, mul_cl, mul_cr, div_ii, mod_ii, pow_ii, iadd_ii, iadd_ss, neg_i, cmp_ii, cmp_ss, in_strs, nin_strs, in_ints, eq_strs, ne_strs, eq_str, ne_str, eq_int, ne_int, sorted_ints, sorted_strs, cutG_map, wipeD_nil, wipeD_cons, atI_two0, atI_two1, atI_c0, atI_c1, isi_bb, isi_ib, isi_ii, eq_bl, ne_bl, eq_nilI, eq_nilS, ne_nilS, List.length_map, in_c, nin_c, is_nn, is_in, is_sn, is_ln, is_tn, oko_isnt, tru_b, tru_n, tru_i, tru_s, tru_l, tru_t, tru_r, len_l, len_t, len_s, len_r, ix_l, ix_t, ix_s, ix_r, int_i, list_l, list_t, sl_l, sl_s, slL_l, repl_s, rng_1, rng_2, List.getElem?_cons_succ, List.getElem?_cons_zero, List.set_cons_succ, List.set_cons_zero, true_and, and_true, Bool.false_eq_true, if_true, if_false, ite_true, ite_false, reduceIte, Bool.not_true, Bool.not_false, Bool.and_true, Bool.true_and, Bool.and_false, Bool.false_and, decide_eq_true_eq, decide_true, decide_false, Bool.and_eq_true, startD, List.map_cons, List.map_nil, List.length_cons, List.length_nil, List.cons_append, List.nil_append, List.zip_cons_cons, List.zip_nil_left, List.zip_nil_right, List.foldl_cons, List.foldl_nil]
          refine oko_ixm hr0 (by omega) fun p hp => ?_
          unfold encP
          try simp (config := {decide := true}) only [fw_nil, fw_set, fw_ret, fw_retN, fw_if, fw_expr, fw_app, fw_aug, fw_put, fw_augIx, fw_asg, fw_par, fw_nx, fw_bk, fw_ct, ok_var, okv_some, okl_lst, okt_tup, oks_str, oki_int, okb_bl, ok_K, ok_bin, ok_un, ok_cmp, ok_val, ok_tru, ok_and, ok_or, ok_not, ok_eAnd, ok_eOr, ok_eNot, ok_if, ok_nil, ok_cons, ok_lst, ok_tup, ok_call, ok_fn, ok_chain, oko_cB, ok_eChain, ok_pNone, ok_pSome, ok_sl, ok_iLst, ok_iTupl, ok_iRng, ok_iStr, ok_yes, oko_some, ok_ok, oko_gN, oko_gT, oko_gNil, oko_gCons, add_ii, add_ss, add_ll, cat_ll, sub_ii, mul_cl, mul_cr, div_ii, mod_ii, pow_ii, iadd_ii, iadd_ss, neg_i, cmp_ii, cmp_ss, in_strs, nin_strs, in_ints, eq_strs, ne_strs, eq_str, ne_str, eq_int, ne_int, sorted_ints, sorted_strs, cutG_map, wipeD_nil, wipeD_cons, atI_two0, atI_two1, atI_c0, atI_c1, isi_bb, isi_ib, isi_ii, eq_bl, ne_bl, eq_nilI, eq_nilS, ne_nilS, List.length_map, in_c, nin_c, is_nn, is_in, is_sn, is_ln, is_tn, oko_isnt, tru_b, tru_n, tru_i, tru_s, tru_l, tru_t, tru_r, len_l, len_t, len_s, len_r, ix_l, ix_t, ix_s, ix_r, int_i, list_l, list_t, sl_l, sl_s, slL_l, repl_s, rng_1, rng_2, List.getElem?_cons_succ, List.getElem?_cons_zero, List.set_cons_succ, List.set_cons_zero, true_and, and_true, Bool.false_eq_true, if_true, if_false, ite_true, ite_false, reduceIte, Bool.not_true, Bool.not_false, Bool.and_true, Bool.true_and, Bool.and_false, Bool.false_and, decide_eq_true_eq, decide_true, decide_false, Bool.and_eq_true, startD, List.map_cons, List.map_nil, List.length_cons, List.length_nil, List.cons_append, List.nil_append, List.zip_cons_cons, List.zip_nil_left, List.zip_nil_right, List.foldl_cons, List.foldl_nil]
          obtain ⟨k1, k2⟩ := e3 p hp
          try simp (config := {decide := true}) only [fw_seq, fw_nil, fw_set, fw_ret, fw_retN, fw_if, fw_expr, fw_app, fw_aug, fw_put, fw_augIx, fw_asg, fw_par, fw_nx, fw_bk, fw_ct, ok_var, okv_some, okl_lst, okt_tup, oks_str, oki_int, okb_bl, ok_K, ok_bin, ok_un, ok_cmp, ok_val, ok_tru, ok_and, ok_or, ok_not, ok_eAnd, ok_eOr, ok_eNot, ok_if, ok_nil, ok_cons, ok_lst, ok_tup, ok_call, ok_fn, ok_chain, oko_cB, ok_eChain, ok_pNone, ok_pSome, ok_sl, ok_iLst, ok_iTupl, ok_iRng, ok_iStr, ok_yes, oko_some, ok_ok, oko_gN, oko_gT, oko_gNil, oko_gCons, add_ii, add_ss, add_ll, cat_ll, sub_ii, mul_cl, mul_cr, div_ii, mod_ii, pow_ii, iadd_ii, iadd_ss, neg_i, cmp_ii, cmp_ss, in_strs, nin_strs, in_ints, eq_strs, ne_strs, eq_str, ne_str, eq_int, ne_int, sorted_ints, sorted_strs, cutG_map, wipeD_nil, wipeD_cons, atI_two0, atI_two1, atI_c0, atI_c1, isi_bb, isi_ib, isi_ii, eq_bl, ne_bl, eq_nilI, eq_nilS, ne_nilS, List.length_map, in_c, nin_c, is_nn, is_in, is_sn, is_ln, is_tn, oko_isnt, tru_b, tru_n, tru_i, tru_s, tru_l, tru_t, tru_r, len_l, len_t, len_s, len_r, ix_l, ix_t, ix_s, ix_r, int_i, list_l, list_t, sl_l, sl_s, slL_l, repl_s, rng_1, rng_2, List.getElem?_cons_succ, List.getElem?_cons_zero, List.set_cons_succ, List.set_cons_zero, true_and, and_true, Bool.false_eq_true, if_true, if_false, ite_true, ite_false, reduceIte, Bool.not_true, Bool.not_false, Bool.and_true, Bool.true_and, Bool.and_false, Bool.false_and, decide_eq_true_eq, decide_true, decide_false, Bool.and_eq_true, startD, List.map_cons, List.map_nil, List.length_cons, List.length_nil, List.cons_append, List.nil_append, List.zip_cons_cons, List.zip_nil_left, List.zip_nil_right, List.foldl_cons, List.foldl_nil, cutG_to, cutG_fromS]
          refine oko_ixm (by omega) (by omega) fun s hs => ?_
          try simp (config := {decide := true}) only [fw_seq, fw_nil, fw_set, fw_ret, fw_retN, fw_if, fw_expr, fw_app, fw_aug, fw_put, fw_augIx, fw_asg, fw_par, fw_nx, fw_bk, fw_ct, ok_var, okv_some, okl_lst, okt_tup, oks_str, oki_int, okb_bl, ok_K, ok_bin, ok_un, ok_cmp, ok_val, ok_tru, ok_and, ok_or, ok_not, ok_eAnd, ok_eOr, ok_eNot, ok_if, ok_nil, ok_cons, ok_lst, ok_tup, ok_call, ok_fn, ok_chain, oko_cB, ok_eChain, ok_pNone, ok_pSome, ok_sl, ok_iLst, ok_iTupl, ok_iRng, ok_iStr, ok_yes, oko_some, ok_ok, oko_gN, oko_gT, oko_gNil, oko_gCons, add_ii, add_ss, add_ll, cat_ll, sub_ii, mul_cl, mul_cr, div_ii, mod_ii, pow_ii, iadd_ii, iadd_ss, neg_i, cmp_ii, cmp_ss, in_strs, nin_strs, in_ints, eq_strs, ne_strs, eq_str, ne_str, eq_int, ne_int, sorted_ints, sorted_strs, cutG_map, wipeD_nil, wipeD_cons, atI_two0, atI_two1, atI_c0, atI_c1, isi_bb, isi_ib, isi_ii, eq_bl, ne_bl, eq_nilI, eq_nilS, ne_nilS, List.length_map, in_c, nin_c, is_nn, is_in, is_sn, is_ln, is_tn, oko_isnt, tru_b, tru_n, tru_i, tru_s, tru_l, tru_t, tru_r, len_l, len_t, len_s, len_r, ix_l, ix_t, ix_s, ix_r, int_i, list_l, list_t, sl_l, sl_s, slL_l, repl_s, rng_1, rng_2, List.getElem?_cons_succ, List.getElem?_cons_zero, List.set_cons_succ, List.set_cons_zero, true_and, and_true, Bool.false_eq_true, if_true, if_false, ite_true, ite_false, reduceIte, Bool.not_true, Bool.not_false, Bool.and_true, Bool.true_and, Bool.and_false, Bool.false_and, decide_eq_true_eq, decide_true, decide_false, Bool.and_eq_true, startD, List.map_cons, List.map_nil, List.length_cons, List.length_nil, List.cons_append, List.nil_append, List.zip_cons_cons, List.zip_nil_left, List.zip_nil_right, List.foldl_cons, List.foldl_nil, sizeLine_eq, List.length_append, List.length_take, List.length_drop]
          refine ⟨by omega, by omega, p.2.take o ++ [s] ++ p.2.drop (o + 1), some (.int o), some (.lst (p.2.map .str)), ⟨?_, ?_⟩, ?_⟩
          · simp only [List.length_append, List.length_take, List.length_drop, List.length_cons, List.length_nil]
            omega
          · intro t ht
            rcases List.mem_append.mp ht with ht | ht
            · rcases List.mem_append.mp ht with ht | ht
              · exact k2 t (List.mem_of_mem_take ht)
              · rw [List.mem_singleton.mp ht]; exact hss s hs
            · exact k2 t (List.mem_of_mem_drop ht)
          · simp only [List.map_append, List.map_cons, List.map_nil, List.map_take, List.map_drop]
        · try simp (config := {decide := true}) only [fw_seq, fw_nil, fw_set, fw_ret, fw_retN, fw_if, fw_expr, fw_app, fw_aug, fw_put, fw_augIx, fw_asg, fw_par, fw_nx, fw_bk, fw_ct, ok_var, okv_some, okl_lst, okt_tup, oks_str, oki_int, okb_bl, ok_K, ok_bin, ok_un, ok_cmp, ok_val, ok_tru, ok_and, ok_or, ok_not, ok_eAnd, ok_eOr, ok_eNot, ok_if, ok_nil, ok_cons, ok_lst, ok_tup, ok_call, ok_fn, ok_chain, oko_cB, ok_eChain, ok_pNone, ok_pSome, ok_sl, ok_iLst, ok_iTupl, ok_iRng, ok_iStr, ok_yes, oko_some, ok_ok, oko_gN, oko_gT, oko_gNil, oko_gCons, add_ii, add_ss, add_ll, cat_ll, sub_ii, mul_cl, mul_cr, div_ii, mod_ii, pow_ii, iadd_ii, iadd_ss, neg_i, cmp_ii, cmp_ss, in_strs, nin_strs, in_ints, eq_strs, ne_strs, eq_str, ne_str, eq_int, ne_int, sorted_ints, sorted_strs, cutG_map, wipeD_nil, wipeD_cons, atI_two0, atI_two1, atI_c0, atI_c1, isi_bb, isi_ib, isi_ii, eq_bl, ne_bl, eq_nilI, eq_nilS, ne_nilS, List.length_map, in_c, nin_c, is_nn, is_in, is_sn, is_ln, is_tn, oko_isnt, tru_b, tru_n, tru_i, tru_s, tru_l, tru_t, tru_r, len_l, len_t, len_s, len_r, ix_l, ix_t, ix_s, ix_r, int_i, list_l, list_t, sl_l, sl_s, slL_l, repl_s, rng_1, rng_2, List.getElem?_cons_succ, List.getElem?_cons_zero, List.set_cons_succ, List.set_cons_zero, true_and, and_true, Bool.false_eq_true, if_true, if_false, ite_true, ite_false, reduceIte, Bool.not_true, Bool.not_false, Bool.and_true, Bool.true_and, Bool.and_false, Bool.false_and, decide_eq_true_eq, decide_true, decide_false, Bool.and_eq_true, startD, List.map_cons, List.map_nil, List.length_cons, List.length_nil, List.cons_append, List.nil_append, List.zip_cons_cons, List.zip_nil_left, List.zip_nil_right, List.foldl_cons, List.foldl_nil]
          exact ⟨ss, _, _, ⟨hl, hss⟩, rfl⟩
      · try simp (config := {decide := true}) only [fw_seq, fw_nil, fw_set, fw_ret, fw_retN, fw_if, fw_expr, fw_app, fw_aug, fw_put, fw_augIx, fw_asg, fw_par, fw_nx, fw_bk, fw_ct, ok_var, okv_some, okl_lst, okt_tup, oks_str, oki_int, okb_bl, ok_K, ok_bin, ok_un, ok_cmp, ok_val, ok_tru, ok_and, ok_or, ok_not, ok_eAnd, ok_eOr, ok_eNot, ok_if, ok_nil, ok_cons, ok_lst, ok_tup, ok_call, ok_fn, ok_chain, oko_cB, ok_eChain, ok_pNone, ok_pSome, ok_sl, ok_iLst, ok_iTupl, ok_iRng, ok_iStr, ok_yes, oko_some, ok_ok, oko_gN, oko_gT, oko_gNil, oko_gCons, add_ii, add_ss, add_ll, cat_ll, sub_ii, mul_cl, mul_cr, div_ii, mod_ii, pow_ii, iadd_ii, iadd_ss, neg_i, cmp_ii, cmp_ss, in_strs, nin_strs, in_ints, eq_strs, ne_strs, eq_str, ne_str, eq_int, ne_int, sorted_ints, sorted_strs, cutG_map, wipeD_nil, wipeD_cons, atI_two0, atI_two1, atI_c0, atI_c1, isi_bb, isi_ib, isi_ii, eq_bl, ne_bl, eq_nilI, eq_nilS, ne_nilS, List.length_map, in_c, nin_c, is_nn, is_in, is_sn, is_ln, is_tn, oko_isnt, tru_b, tru_n, tru_i, tru_s, tru_l, tru_t, tru_r, len_l, len_t, len_s, len_r, ix_l, ix_t, ix_s, ix_r, int_i, list_l, list_t, sl_l, sl_s, slL_l, repl_s, rng_1, rng_2, List.getElem?_cons_succ, List.getElem?_cons_zero, List.set_cons_succ, List.set_cons_zero, true_and, and_true, Bool.false_eq_true, if_true, if_false, ite_true, ite_false, reduceIte, Bool.not_true, Bool.not_false, Bool.and_true, Bool.true_and, Bool.and_false, Bool.false_and, decide_eq_true_eq, decide_true, decide_false, Bool.and_eq_true, startD, List.map_cons, List.map_nil, List.length_cons, List.length_nil, List.cons_append, List.nil_append, List.zip_cons_cons, List.zip_nil_left, List.zip_nil_right, List.foldl_cons, List.foldl_nil]
        exact ⟨ss, _, _, ⟨hl, hss⟩, rfl⟩
    rintro _ ⟨ss, u12, u13, ⟨hl, hss⟩, rfl⟩
    unfold encR
    try simp (config := {decide := true}) only [fw_seq, fw_nil, fw_set, fw_ret, fw_retN, fw_if, fw_expr, fw_app, fw_aug, fw_put, fw_augIx, fw_asg, fw_par, fw_nx, fw_bk, fw_ct, ok_var, okv_some, okl_lst, okt_tup, oks_str, oki_int, okb_bl, ok_K, ok_bin, ok_un, ok_cmp, ok_val, ok_tru, ok_and, ok_or, ok_not, ok_eAnd, ok_eOr, ok_eNot, ok_if, ok_nil, ok_cons, ok_lst, ok_tup, ok_call, ok_fn, ok_chain, oko_cB, ok_eChain, ok_pNone, ok_pSome, ok_sl, ok_iLst, ok_iTupl, ok_iRng, ok_iStr, ok_yes, oko_some, ok_ok, oko_gN, oko_gT, oko_gNil, oko_gCons, add_ii, add_ss, add_ll, cat_ll, sub_ii, mul_cl, mul_cr, div_ii, mod_ii, pow_ii, iadd_ii, iadd_ss, neg_i, cmp_ii, cmp_ss, in_strs, nin_strs, in_ints, eq_strs, ne_strs, eq_str, ne_str, eq_int, ne_int, sorted_ints, sorted_strs, cutG_map, wipeD_nil, wipeD_cons, atI_two0, atI_two1, atI_c0, atI_c1, isi_bb, isi_ib, isi_ii, eq_bl, ne_bl, eq_nilI, eq_nilS, ne_nilS, List.length_map, in_c, nin_c, is_nn, is_in, is_sn, is_ln, is_tn, oko_isnt, tru_b, tru_n, tru_i, tru_s, tru_l, tru_t, tru_r, len_l, len_t, len_s, len_r, ix_l, ix_t, ix_s, ix_r, int_i, list_l, list_t, sl_l, sl_s, slL_l, repl_s, rng_1, rng_2, List.getElem?_cons_succ, List.getElem?_cons_zero, List.set_cons_succ, List.set_cons_zero, true_and, and_true, Bool.false_eq_true, if_true, if_false, ite_true, ite_false, reduceIte, Bool.not_true, Bool.not_false, Bool.and_true, Bool.true_and, Bool.and_false, Bool.false_and, decide_eq_true_eq, decide_true, decide_false, Bool.and_eq_true, startD, List.map_cons, List.map_nil, List.length_cons, List.length_nil, List.cons_append, List.nil_append, List.zip_cons_cons, List.zip_nil_left, List.zip_nil_right, List.foldl_cons, List.foldl_nil, sizeLine_eq]
    refine ⟨by omega, r ++ [(num, ss)], nu ++ [num], _, _, _, _, _, _, _, _, by rw [List.map_append (l₁ := r)]; rfl, by simp [e1], by simp [e2], fun p hp => ?_⟩
    rcases List.mem_append.mp hp with hp | hp
    · exact e3 p hp
    · rw [List.mem_singleton.mp hp]; exact ⟨hl, hss⟩
  · rintro _ ⟨r, nu, u7, u8, u9, u10, u11, u12, u13, u14, rfl, e1, e2, e3⟩
    try simp (config := {decide := true}) only [fw_seq, fw_nil, fw_set, fw_ret, fw_retN, fw_if, fw_expr, fw_app, fw_aug, fw_put, fw_augIx, fw_asg, fw_par, fw_nx, fw_bk, fw_ct, ok_var, okv_some, okl_lst, okt_tup, oks_str, oki_int, okb_bl, ok_K, ok_bin, ok_un, ok_cmp, ok_val, ok_tru, ok_and, ok_or, ok_not, ok_eAnd, ok_eOr, ok_eNot, ok_if, ok_nil, ok_cons, ok_lst, ok_tup, ok_call, ok_fn, ok_chain, oko_cB, ok_eChain, ok_pNone, ok_pSome, ok_sl, ok_iLst, ok_iTupl, ok_iRng, ok_iStr, ok_yes, oko_some, ok_ok, oko_gN, oko_gT, oko_gNil, oko_gCons, add_ii, add_ss, add_ll, cat_ll, sub_ii, mul_cl, mul_cr, div_ii, mod_ii, pow_ii, iadd_ii, iadd_ss, neg_i, cmp_ii, cmp_ss, in_strs, nin_strs, in_ints, eq_strs, ne_strs, eq_str, ne_str, eq_int, ne_int, sorted_ints, sorted_strs, cutG_map, wipeD_nil, wipeD_cons, atI_two0, atI_two1, atI_c0, atI_c1, isi_bb, isi_ib, isi_ii, eq_bl, ne_bl, eq_nilI, eq_nilS, ne_nilS, List.length_map, in_c, nin_c, is_nn, is_in, is_sn, is_ln, is_tn, oko_isnt, tru_b, tru_n, tru_i, tru_s, tru_l, tru_t, tru_r, len_l, len_t, len_s, len_r, ix_l, ix_t, ix_s, ix_r, int_i, list_l, list_t, sl_l, sl_s, slL_l, repl_s, rng_1, rng_2, List.getElem?_cons_succ, List.getElem?_cons_zero, List.set_cons_succ, List.set_cons_zero, true_and, and_true, Bool.false_eq_true, if_true, if_false, ite_true, ite_false, reduceIte, Bool.not_true, Bool.not_false, Bool.and_true, Bool.true_and, Bool.and_false, Bool.false_and, decide_eq_true_eq, decide_true, decide_false, Bool.and_eq_true, startD, List.map_cons, List.map_nil, List.length_cons, List.length_nil, List.cons_append, List.nil_append, List.zip_cons_cons, List.zip_nil_left, List.zip_nil_right, List.foldl_cons, List.foldl_nil]
    exact ⟨r, rfl, e1, e3⟩
theorem rec_ok64 (r : List (Int × List (List Nat))) : pyOk 64 (encR r) = true := by
  unfold encR
  refine pyOk_lst (n := 63) fun d hd => ?_
  obtain ⟨p, _, rfl⟩ := List.mem_map.mp hd
  refine pyOk_tup (n := 62) fun d hd => ?_
  simp only [List.mem_cons, List.not_mem_nil, or_false] at hd
  rcases hd with rfl | rfl
  · exact pyOk_int
  · exact pyOk_strs
theorem copy_ok (r : List (Int × List (List Nat))) (hr : r.length ≤ 100) : Ok (m__law_copy [encR r]) fun d => d = encR r := by
  rw [r__law_copy]
  unfold b__law_copy encR
  try simp (config := {decide := true}) only [fw_seq, fw_nil, fw_set, fw_ret, fw_retN, fw_if, fw_expr, fw_app, fw_aug, fw_put, fw_augIx, fw_asg, fw_par, fw_nx, fw_bk, fw_ct, ok_var, okv_some, okl_lst, okt_tup, oks_str, oki_int, okb_bl, ok_K, ok_bin, ok_un, ok_cmp, ok_val, ok_tru, ok_and, ok_or, ok_not, ok_eAnd, ok_eOr, ok_eNot, ok_if, ok_nil, ok_cons, ok_lst, ok_tup, ok_call, ok_fn, ok_chain, oko_cB, ok_eChain, ok_pNone, ok_pSome, ok_sl, ok_iLst, ok_iTupl, ok_iRng, ok_iStr, ok_yes, oko_some, ok_ok, oko_gN, oko_gT, oko_gNil, oko_gCons, add_ii, add_ss, add_ll, cat_ll, sub_ii, mul_cl, mul_cr, div_ii, mod_ii, pow_ii, iadd_ii, iadd_ss, neg_i, cmp_ii, cmp_ss, in_strs, nin_strs, in_ints, eq_strs, ne_strs, eq_str, ne_str, eq_int, ne_int, sorted_ints, sorted_strs, cutG_map, wipeD_nil, wipeD_cons, atI_two0, atI_two1, atI_c0, atI_c1, isi_bb, isi_ib, isi_ii, eq_bl, ne_bl, eq_nilI, eq_nilS, ne_nilS, List.length_map, in_c, nin_c, is_nn, is_in, is_sn, is_ln, is_tn, oko_isnt, tru_b, tru_n, tru_i, tru_s, tru_l, tru_t, tru_r, len_l, len_t, len_s, len_r, ix_l, ix_t, ix_s, ix_r, int_i, list_l, list_t, sl_l, sl_s, slL_l, repl_s, rng_1, rng_2, List.getElem?_cons_succ, List.getElem?_cons_zero, List.set_cons_succ, List.set_cons_zero, true_and, and_true, Bool.false_eq_true, if_true, if_false, ite_true, ite_false, reduceIte, Bool.not_true, Bool.not_false, Bool.and_true, Bool.true_and, Bool.and_false, Bool.false_and, decide_eq_true_eq, decide_true, decide_false, Bool.and_eq_true, startD, List.map_cons, List.map_nil, List.length_cons, List.length_nil, List.cons_append, List.nil_append, List.zip_cons_cons, List.zip_nil_left, List.zip_nil_right, List.foldl_cons, List.foldl_nil, ok_lc]
  refine lc_map encP (fun _ => true) encP r (fun p hp => ?_) ?_
  · unfold encP
    try simp (config := {decide := true}) only [fw_seq, fw_nil, fw_set, fw_ret, fw_retN, fw_if, fw_expr, fw_app, fw_aug, fw_put, fw_augIx, fw_asg, fw_par, fw_nx, fw_bk, fw_ct, ok_var, okv_some, okl_lst, okt_tup, oks_str, oki_int, okb_bl, ok_K, ok_bin, ok_un, ok_cmp, ok_val, ok_tru, ok_and, ok_or, ok_not, ok_eAnd, ok_eOr, ok_eNot, ok_if, ok_nil, ok_cons, ok_lst, ok_tup, ok_call, ok_fn, ok_chain, oko_cB, ok_eChain, ok_pNone, ok_pSome, ok_sl, ok_iLst, ok_iTupl, ok_iRng, ok_iStr, ok_yes, oko_some, ok_ok, oko_gN, oko_gT, oko_gNil, oko_gCons, add_ii, add_ss, add_ll, cat_ll, sub_ii, mul_cl, mul_cr, div_ii, mod_ii, pow_ii, iadd_ii, iadd_ss, neg_i, cmp_ii, cmp_ss, in_strs, nin_strs, in_ints, eq_strs, ne_strs, eq_str, ne_str, eq_int, ne_int, sorted_ints, sorted_strs, cutG_map, wipeD_nil, wipeD_cons, atI_two0, atI_two1, atI_c0, atI_c1, isi_bb, isi_ib, isi_ii, eq_bl, ne_bl, eq_nilI, eq_nilS, ne_nilS, List.length_map, in_c, nin_c, is_nn, is_in, is_sn, is_ln, is_tn, oko_isnt, tru_b, tru_n, tru_i, tru_s, tru_l, tru_t, tru_r, len_l, len_t, len_s, len_r, ix_l, ix_t, ix_s, ix_r, int_i, list_l, list_t, sl_l, sl_s, slL_l, repl_s, rng_1, rng_2, List.getElem?_cons_succ, List.getElem?_cons_zero, List.set_cons_succ, List.set_cons_zero, true_and, and_true, Bool.false_eq_true, if_true, if_false, ite_true, ite_false, reduceIte, Bool.not_true, Bool.not_false, Bool.and_true, Bool.true_and, Bool.and_false, Bool.false_and, decide_eq_true_eq, decide_true, decide_false, Bool.and_eq_true, startD, List.map_cons, List.map_nil, List.length_cons, List.length_nil, List.cons_append, List.nil_append, List.zip_cons_cons, List.zip_nil_left, List.zip_nil_right, List.foldl_cons, List.foldl_nil, sizeLine_eq]
  · simp only [filter_tt, List.length_map, sizeLine_eq]
    exact ⟨by omega, trivial⟩
/-! ### forms against a rule -/
def agL (r : List (Int × List (List Nat))) (left : List (List Nat)) (right : List Nat) : List Int := (r.filter fun p => (left.all fun a => decide (a ∈ p.2)) && !decide (right ∈ p.2)).map (·.1)
theorem has_all_ok (f part : List (List Nat)) (hp : part.length ≤ 1000) : Ok (m_has_all [.lst (f.map .str), .lst (part.map .str)]) fun d => d = .bl (part.all fun a => decide (a ∈ f)) := by
  rw [r_has_all]
  unfold b_has_all
  try simp (config := {decide := true}) only [fw_seq, fw_nil, fw_set, fw_ret, fw_retN, fw_if, fw_expr, fw_app, fw_aug, fw_put, fw_augIx, fw_asg, fw_par, fw_nx, fw_bk, fw_ct, ok_var, okv_some, okl_lst, okt_tup, oks_str, oki_int, okb_bl, ok_K, ok_bin, ok_un, ok_cmp, ok_val, ok_tru, ok_and, ok_or, ok_not, ok_eAnd, ok_eOr, ok_eNot, ok_if, ok_nil, ok_cons, ok_lst, ok_tup, ok_call, ok_fn, ok_chain, oko_cB, ok_eChain, ok_pNone, ok_pSome, ok_sl, ok_iLst, ok_iTupl, ok_iRng, ok_iStr, ok_yes, oko_some, ok_ok, oko_gN, oko_gT, oko_gNil, oko_gCons, add_ii, add_ss, add_ll, cat_ll, sub_ii, mul_cl, mul_cr, div_ii, mod_ii, pow_ii, iadd_ii, iadd_ss, neg_i, cmp_ii, cmp_ss, in_strs, nin_strs, in_ints, eq_strs, ne_strs, eq_str, ne_str, eq_int, ne_int, sorted_ints, sorted_strs, cutG_map, wipeD_nil, wipeD_cons, atI_two0, atI_two1, atI_c0, atI_c1, isi_bb, isi_ib, isi_ii, eq_bl, ne_bl, eq_nilI, eq_nilS, ne_nilS, List.length_map, in_c, nin_c, is_nn, is_in, is_sn, is_ln, is_tn, oko_isnt, tru_b, tru_n, tru_i, tru_s, tru_l, tru_t, tru_r, len_l, len_t, len_s, len_r, ix_l, ix_t, ix_s, ix_r, int_i, list_l, list_t, sl_l, sl_s, slL_l, repl_s, rng_1, rng_2, List.getElem?_cons_succ, List.getElem?_cons_zero, List.set_cons_succ, List.set_cons_zero, true_and, and_true, Bool.false_eq_true, if_true, if_false, ite_true, ite_false, reduceIte, Bool.not_true, Bool.not_false, Bool.and_true, Bool.true_and, Bool.and_false, Bool.false_and, decide_eq_true_eq, decide_true, decide_false, Bool.and_eq_true, startD, List.map_cons, List.map_nil, List.length_cons, List.length_nil, List.cons_append, List.nil_append, List.zip_cons_cons, List.zip_nil_left, List.zip_nil_right, List.foldl_cons, List.foldl_nil, ok_lc]
  refine lc_map .str (fun _ => true) (fun a => .bl (decide (a ∈ f))) part (fun p hp => ?_) ?_
  · try simp (config := {decide := true}) only [fw_seq, fw_nil, fw_set, fw_ret, fw_retN, fw_if, fw_expr, fw_app, fw_aug, fw_put, fw_augIx, fw_asg, fw_par, fw_nx, fw_bk, fw_ct, ok_var, okv_some, okl_lst, okt_tup, oks_str, oki_int, okb_bl, ok_K, ok_bin, ok_un, ok_cmp, ok_val, ok_tru, ok_and, ok_or, ok_not, ok_eAnd, ok_eOr, ok_eNot, ok_if, ok_nil, ok_cons, ok_lst, ok_tup, ok_call, ok_fn, ok_chain, oko_cB, ok_eChain, ok_pNone, ok_pSome, ok_sl, ok_iLst, ok_iTupl, ok_iRng, ok_iStr, ok_yes, oko_some, ok_ok, oko_gN, oko_gT, oko_gNil, oko_gCons, add_ii, add_ss, add_ll, cat_ll, sub_ii, mul_cl, mul_cr, div_ii, mod_ii, pow_ii, iadd_ii, iadd_ss, neg_i, cmp_ii, cmp_ss, in_strs, nin_strs, in_ints, eq_strs, ne_strs, eq_str, ne_str, eq_int, ne_int, sorted_ints, sorted_strs, cutG_map, wipeD_nil, wipeD_cons, atI_two0, atI_two1, atI_c0, atI_c1, isi_bb, isi_ib, isi_ii, eq_bl, ne_bl, eq_nilI, eq_nilS, ne_nilS, List.length_map, in_c, nin_c, is_nn, is_in, is_sn, is_ln, is_tn, oko_isnt, tru_b, tru_n, tru_i, tru_s, tru_l, tru_t, tru_r, len_l, len_t, len_s, len_r, ix_l, ix_t, ix_s, ix_r, int_i, list_l, list_t, sl_l, sl_s, slL_l, repl_s, rng_1, rng_2, List.getElem?_cons_succ, List.getElem?_cons_zero, List.set_cons_succ, List.set_cons_zero, true_and, and_true, Bool.false_eq_true, if_true, if_false, ite_true, ite_false, reduceIte, Bool.not_true, Bool.not_false, Bool.and_true, Bool.true_and, Bool.and_false, Bool.false_and, decide_eq_true_eq, decide_true, decide_false, Bool.and_eq_true, startD, List.map_cons, List.map_nil, List.length_cons, List.length_nil, List.cons_append, List.nil_append, List.zip_cons_cons, List.zip_nil_left, List.zip_nil_right, List.foldl_cons, List.foldl_nil]
  · simp only [filter_tt, List.length_map, sizeLine_eq]
    refine ⟨by omega, ?_⟩
    have e : (part.map fun a => D.bl (decide (a ∈ f))) = (part.map fun a => decide (a ∈ f)).map .bl := by rw [List.map_map]; rfl
    rw [all_l, e, blsOf_map, oko_some, List.all_map]
    rfl
theorem against_ok (r : List (Int × List (List Nat))) (left : List (List Nat)) (right : List Nat) (hr : r.length ≤ 100) (hl : left.length ≤ 1000) : Ok (m_against [encR r, .lst (left.map .str), .str right]) fun d => d = .lst ((sortI (agL r left right)).map .int) := by
  rw [r_against]
  unfold b_against encR
  try simp (config := {decide := true}) only [fw_seq, fw_nil, fw_set, fw_ret, fw_retN, fw_if, fw_expr, fw_app, fw_aug, fw_put, fw_augIx, fw_asg, fw_par, fw_nx, fw_bk, fw_ct, ok_var, okv_some, okl_lst, okt_tup, oks_str, oki_int, okb_bl, ok_K, ok_bin, ok_un, ok_cmp, ok_val, ok_tru, ok_and, ok_or, ok_not, ok_eAnd, ok_eOr, ok_eNot, ok_if, ok_nil, ok_cons, ok_lst, ok_tup, ok_call, ok_fn, ok_chain, oko_cB, ok_eChain, ok_pNone, ok_pSome, ok_sl, ok_iLst, ok_iTupl, ok_iRng, ok_iStr, ok_yes, oko_some, ok_ok, oko_gN, oko_gT, oko_gNil, oko_gCons, add_ii, add_ss, add_ll, cat_ll, sub_ii, mul_cl, mul_cr, div_ii, mod_ii, pow_ii, iadd_ii, iadd_ss, neg_i, cmp_ii, cmp_ss, in_strs, nin_strs, in_ints, eq_strs, ne_strs, eq_str, ne_str, eq_int, ne_int, sorted_ints, sorted_strs, cutG_map, wipeD_nil, wipeD_cons, atI_two0, atI_two1, atI_c0, atI_c1, isi_bb, isi_ib, isi_ii, eq_bl, ne_bl, eq_nilI, eq_nilS, ne_nilS, List.length_map, in_c, nin_c, is_nn, is_in, is_sn, is_ln, is_tn, oko_isnt, tru_b, tru_n, tru_i, tru_s, tru_l, tru_t, tru_r, len_l, len_t, len_s, len_r, ix_l, ix_t, ix_s, ix_r, int_i, list_l, list_t, sl_l, sl_s, slL_l, repl_s, rng_1, rng_2, List.getElem?_cons_succ, List.getElem?_cons_zero, List.set_cons_succ, List.set_cons_zero, true_and, and_true, Bool.false_eq_true, if_true, if_false, ite_true, ite_false, reduceIte, Bool.not_true, Bool.not_false, Bool.and_true, Bool.true_and, Bool.and_false, Bool.false_and, decide_eq_true_eq, decide_true, decide_false, Bool.and_eq_true, startD, List.map_cons, List.map_nil, List.length_cons, List.length_nil, List.cons_append, List.nil_append, List.zip_cons_cons, List.zip_nil_left, List.zip_nil_right, List.foldl_cons, List.foldl_nil, ok_lc]
  refine lc_map encP (fun p => (left.all fun a => decide (a ∈ p.2)) && !decide (right ∈ p.2)) (fun p => .int p.1) r (fun p hp => ?_) ?_
  · unfold encP
    try simp (config := {decide := true}) only [fw_seq, fw_nil, fw_set, fw_ret, fw_retN, fw_if, fw_expr, fw_app, fw_aug, fw_put, fw_augIx, fw_asg, fw_par, fw_nx, fw_bk, fw_ct, ok_var, okv_some, okl_lst, okt_tup, oks_str, oki_int, okb_bl, ok_K, ok_bin, ok_un, ok_cmp, ok_val, ok_tru, ok_and, ok_or, ok_not, ok_eAnd, ok_eOr, ok_eNot, ok_if, ok_nil, ok_cons, ok_lst, ok_tup, ok_call, ok_fn, ok_chain, oko_cB, ok_eChain, ok_pNone, ok_pSome, ok_sl, ok_iLst, ok_iTupl, ok_iRng, ok_iStr, ok_yes, oko_some, ok_ok, oko_gN, oko_gT, oko_gNil, oko_gCons, add_ii, add_ss, add_ll, cat_ll, sub_ii, mul_cl, mul_cr, div_ii, mod_ii, pow_ii, iadd_ii, iadd_ss, neg_i, cmp_ii, cmp_ss, in_strs, nin_strs, in_ints, eq_strs, ne_strs, eq_str, ne_str, eq_int, ne_int, sorted_ints, sorted_strs, cutG_map, wipeD_nil, wipeD_cons, atI_two0, atI_two1, atI_c0, atI_c1, isi_bb, isi_ib, isi_ii, eq_bl, ne_bl, eq_nilI, eq_nilS, ne_nilS, List.length_map, in_c, nin_c, is_nn, is_in, is_sn, is_ln, is_tn, oko_isnt, tru_b, tru_n, tru_i, tru_s, tru_l, tru_t, tru_r, len_l, len_t, len_s, len_r, ix_l, ix_t, ix_s, ix_r, int_i, list_l, list_t, sl_l, sl_s, slL_l, repl_s, rng_1, rng_2, List.getElem?_cons_succ, List.getElem?_cons_zero, List.set_cons_succ, List.set_cons_zero, true_and, and_true, Bool.false_eq_true, if_true, if_false, ite_true, ite_false, reduceIte, Bool.not_true, Bool.not_false, Bool.and_true, Bool.true_and, Bool.and_false, Bool.false_and, decide_eq_true_eq, decide_true, decide_false, Bool.and_eq_true, startD, List.map_cons, List.map_nil, List.length_cons, List.length_nil, List.cons_append, List.nil_append, List.zip_cons_cons, List.zip_nil_left, List.zip_nil_right, List.foldl_cons, List.foldl_nil]
    refine (has_all_ok p.2 left hl).imp ?_
    rintro _ rfl
    try simp (config := {decide := true}) only [fw_seq, fw_nil, fw_set, fw_ret, fw_retN, fw_if, fw_expr, fw_app, fw_aug, fw_put, fw_augIx, fw_asg, fw_par, fw_nx, fw_bk, fw_ct, ok_var, okv_some, okl_lst, okt_tup, oks_str, oki_int, okb_bl, ok_K, ok_bin, ok_un, ok_cmp, ok_val, ok_tru, ok_and, ok_or, ok_not, ok_eAnd, ok_eOr, ok_eNot, ok_if, ok_nil, ok_cons, ok_lst, ok_tup, ok_call, ok_fn, ok_chain, oko_cB, ok_eChain, ok_pNone, ok_pSome, ok_sl, ok_iLst, ok_iTupl, ok_iRng, ok_iStr, ok_yes, oko_some, ok_ok, oko_gN, oko_gT, oko_gNil, oko_gCons, add_ii, add_ss, add_ll, cat_ll, sub_ii, mul_cl, mul_cr, div_ii, mod_ii, pow_ii, iadd_ii, iadd_ss, neg_i, cmp_ii, cmp_ss, in_strs, nin_strs, in_ints, eq_strs, ne_strs, eq_str, ne_str, eq_int, ne_int, sorted_ints, sorted_strs, cutG_map, wipeD_nil, wipeD_cons, atI_two0, atI_two1, atI_c0, atI_c1, isi_bb, isi_ib, isi_ii, eq_bl, ne_bl, eq_nilI, eq_nilS, ne_nilS, List.length_map, in_c, nin_c, is_nn, is_in, is_sn, is_ln, is_tn, oko_isnt, tru_b, tru_n, tru_i, tru_s, tru_l, tru_t, tru_r, len_l, len_t, len_s, len_r, ix_l, ix_t, ix_s, ix_r, int_i, list_l, list_t, sl_l, sl_s, slL_l, repl_s, rng_1, rng_2, List.getElem?_cons_succ, List.getElem?_cons_zero, List.set_cons_succ, List.set_cons_zero, true_and, and_true, Bool.false_eq_true, if_true, if_false, ite_true, ite_false, reduceIte, Bool.not_true, Bool.not_false, Bool.and_true, Bool.true_and, Bool.and_false, Bool.false_and, decide_eq_true_eq, decide_true, decide_false, Bool.and_eq_true, startD, List.map_cons, List.map_nil, List.length_cons, List.length_nil, List.cons_append, List.nil_append, List.zip_cons_cons, List.zip_nil_left, List.zip_nil_right, List.foldl_cons, List.foldl_nil]
    split
    · rename_i h
      try simp (config := {decide := true}) only [fw_seq, fw_nil, fw_set, fw_ret, fw_retN, fw_if, fw_expr, fw_app, fw_aug, fw_put, fw_augIx, fw_asg, fw_par, fw_nx, fw_bk, fw_ct, ok_var, okv_some, okl_lst, okt_tup, oks_str, oki_int, okb_bl, ok_K, ok_bin, ok_un, ok_cmp, ok_val, ok_tru, ok_and, ok_or, ok_not, ok_eAnd, ok_eOr, ok_eNot, ok_if, ok_nil, ok_cons, ok_lst, ok_tup, ok_call, ok_fn, ok_chain, oko_cB, ok_eChain, ok_pNone, ok_pSome, ok_sl, ok_iLst, ok_iTupl, ok_iRng, ok_iStr, ok_yes, oko_some, ok_ok, oko_gN, oko_gT, oko_gNil, oko_gCons, add_ii, add_ss, add_ll, cat_ll, sub_ii, mul_cl, mul_cr, div_ii, mod_ii, pow_ii, iadd_ii, iadd_ss, neg_i, cmp_ii, cmp_ss, in_strs, nin_strs, in_ints, eq_strs, ne_strs, eq_str, ne_str, eq_int, ne_int, sorted_ints, sorted_strs, cutG_map, wipeD_nil, wipeD_cons, atI_two0, atI_two1, atI_c0, atI_c1, isi_bb, isi_ib, isi_ii, eq_bl, ne_bl, eq_nilI, eq_nilS, ne_nilS, List.length_map, in_c, nin_c, is_nn, is_in, is_sn, is_ln, is_tn, oko_isnt, tru_b, tru_n, tru_i, tru_s, tru_l, tru_t, tru_r, len_l, len_t, len_s, len_r, ix_l, ix_t, ix_s, ix_r, int_i, list_l, list_t, sl_l, sl_s, slL_l, repl_s, rng_1, rng_2, List.getElem?_cons_succ, List.getElem?_cons_zero, List.set_cons_succ, List.set_cons_zero, true_and, and_true, Bool.false_eq_true, if_true, if_false, ite_true, ite_false, reduceIte, Bool.not_true, Bool.not_false, Bool.and_true, Bool.true_and, Bool.and_false, Bool.false_and, decide_eq_true_eq, decide_true, decide_false, Bool.and_eq_true, startD, List.map_cons, List.map_nil, List.length_cons, List.length_nil, List.cons_append, List.nil_append, List.zip_cons_cons, List.zip_nil_left, List.zip_nil_right, List.foldl_cons, List.foldl_nil, h]
      simp
    · rename_i h
      try simp (config := {decide := true}) only [fw_seq, fw_nil, fw_set, fw_ret, fw_retN, fw_if, fw_expr, fw_app, fw_aug, fw_put, fw_augIx, fw_asg, fw_par, fw_nx, fw_bk, fw_ct, ok_var, okv_some, okl_lst, okt_tup, oks_str, oki_int, okb_bl, ok_K, ok_bin, ok_un, ok_cmp, ok_val, ok_tru, ok_and, ok_or, ok_not, ok_eAnd, ok_eOr, ok_eNot, ok_if, ok_nil, ok_cons, ok_lst, ok_tup, ok_call, ok_fn, ok_chain, oko_cB, ok_eChain, ok_pNone, ok_pSome, ok_sl, ok_iLst, ok_iTupl, ok_iRng, ok_iStr, ok_yes, oko_some, ok_ok, oko_gN, oko_gT, oko_gNil, oko_gCons, add_ii, add_ss, add_ll, cat_ll, sub_ii, mul_cl, mul_cr, div_ii, mod_ii, pow_ii, iadd_ii, iadd_ss, neg_i, cmp_ii, cmp_ss, in_strs, nin_strs, in_ints, eq_strs, ne_strs, eq_str, ne_str, eq_int, ne_int, sorted_ints, sorted_strs, cutG_map, wipeD_nil, wipeD_cons, atI_two0, atI_two1, atI_c0, atI_c1, isi_bb, isi_ib, isi_ii, eq_bl, ne_bl, eq_nilI, eq_nilS, ne_nilS, List.length_map, in_c, nin_c, is_nn, is_in, is_sn, is_ln, is_tn, oko_isnt, tru_b, tru_n, tru_i, tru_s, tru_l, tru_t, tru_r, len_l, len_t, len_s, len_r, ix_l, ix_t, ix_s, ix_r, int_i, list_l, list_t, sl_l, sl_s, slL_l, repl_s, rng_1, rng_2, List.getElem?_cons_succ, List.getElem?_cons_zero, List.set_cons_succ, List.set_cons_zero, true_and, and_true, Bool.false_eq_true, if_true, if_false, ite_true, ite_false, reduceIte, Bool.not_true, Bool.not_false, Bool.and_true, Bool.true_and, Bool.and_false, Bool.false_and, decide_eq_true_eq, decide_true, decide_false, Bool.and_eq_true, startD, List.map_cons, List.map_nil, List.length_cons, List.length_nil, List.cons_append, List.nil_append, List.zip_cons_cons, List.zip_nil_left, List.zip_nil_right, List.foldl_cons, List.foldl_nil, h]
      simp
  · have hf : (r.filter fun p => (left.all fun a => decide (a ∈ p.2)) && !decide (right ∈ p.2)).length ≤ r.length := List.length_filter_le _ _
    simp only [List.length_map, sizeLine_eq]
    refine ⟨by omega, ?_⟩
    have e : ((r.filter fun p => (left.all fun a => decide (a ∈ p.2)) && !decide (right ∈ p.2)).map fun p => D.int p.1) = (agL r left right).map .int := by unfold agL; rw [List.map_map]; rfl
    rw [e, sorted_ints]
theorem holds_ok (r : List (Int × List (List Nat))) (left : List (List Nat)) (right : List Nat) (hr : r.length ≤ 100) (hl : left.length ≤ 1000) : Ok (m_holds [encR r, .lst (left.map .str), .str right]) fun d => d = .bl (sortI (agL r left right)).isEmpty := by
  rw [r_holds]
  unfold b_holds
  try simp (config := {decide := true}) only [fw_seq, fw_nil, fw_set, fw_ret, fw_retN, fw_if, fw_expr, fw_app, fw_aug, fw_put, fw_augIx, fw_asg, fw_par, fw_nx, fw_bk, fw_ct, ok_var, okv_some, okl_lst, okt_tup, oks_str, oki_int, okb_bl, ok_K, ok_bin, ok_un, ok_cmp, ok_val, ok_tru, ok_and, ok_or, ok_not, ok_eAnd, ok_eOr, ok_eNot, ok_if, ok_nil, ok_cons, ok_lst, ok_tup, ok_call, ok_fn, ok_chain, oko_cB, ok_eChain, ok_pNone, ok_pSome, ok_sl, ok_iLst, ok_iTupl, ok_iRng, ok_iStr, ok_yes, oko_some, ok_ok, oko_gN, oko_gT, oko_gNil, oko_gCons, add_ii, add_ss, add_ll, cat_ll, sub_ii, mul_cl, mul_cr, div_ii, mod_ii, pow_ii, iadd_ii, iadd_ss, neg_i, cmp_ii, cmp_ss, in_strs, nin_strs, in_ints, eq_strs, ne_strs, eq_str, ne_str, eq_int, ne_int, sorted_ints, sorted_strs, cutG_map, wipeD_nil, wipeD_cons, atI_two0, atI_two1, atI_c0, atI_c1, isi_bb, isi_ib, isi_ii, eq_bl, ne_bl, eq_nilI, eq_nilS, ne_nilS, List.length_map, in_c, nin_c, is_nn, is_in, is_sn, is_ln, is_tn, oko_isnt, tru_b, tru_n, tru_i, tru_s, tru_l, tru_t, tru_r, len_l, len_t, len_s, len_r, ix_l, ix_t, ix_s, ix_r, int_i, list_l, list_t, sl_l, sl_s, slL_l, repl_s, rng_1, rng_2, List.getElem?_cons_succ, List.getElem?_cons_zero, List.set_cons_succ, List.set_cons_zero, true_and, and_true, Bool.false_eq_true, if_true, if_false, ite_true, ite_false, reduceIte, Bool.not_true, Bool.not_false, Bool.and_true, Bool.true_and, Bool.and_false, Bool.false_and, decide_eq_true_eq, decide_true, decide_false, Bool.and_eq_true, startD, List.map_cons, List.map_nil, List.length_cons, List.length_nil, List.cons_append, List.nil_append, List.zip_cons_cons, List.zip_nil_left, List.zip_nil_right, List.foldl_cons, List.foldl_nil]
  refine (against_ok r left right hr hl).imp ?_
  rintro _ rfl
  try simp (config := {decide := true}) only [fw_seq, fw_nil, fw_set, fw_ret, fw_retN, fw_if, fw_expr, fw_app, fw_aug, fw_put, fw_augIx, fw_asg, fw_par, fw_nx, fw_bk, fw_ct, ok_var, okv_some, okl_lst, okt_tup, oks_str, oki_int, okb_bl, ok_K, ok_bin, ok_un, ok_cmp, ok_val, ok_tru, ok_and, ok_or, ok_not, ok_eAnd, ok_eOr, ok_eNot, ok_if, ok_nil, ok_cons, ok_lst, ok_tup, ok_call, ok_fn, ok_chain, oko_cB, ok_eChain, ok_pNone, ok_pSome, ok_sl, ok_iLst, ok_iTupl, ok_iRng, ok_iStr, ok_yes, oko_some, ok_ok, oko_gN, oko_gT, oko_gNil, oko_gCons, add_ii, add_ss, add_ll, cat_ll, sub_ii, mul_cl, mul_cr, div_ii, mod_ii, pow_ii, iadd_ii, iadd_ss, neg_i, cmp_ii, cmp_ss, in_strs, nin_strs, in_ints, eq_strs, ne_strs, eq_str, ne_str, eq_int, ne_int, sorted_ints, sorted_strs, cutG_map, wipeD_nil, wipeD_cons, atI_two0, atI_two1, atI_c0, atI_c1, isi_bb, isi_ib, isi_ii, eq_bl, ne_bl, eq_nilI, eq_nilS, ne_nilS, List.length_map, in_c, nin_c, is_nn, is_in, is_sn, is_ln, is_tn, oko_isnt, tru_b, tru_n, tru_i, tru_s, tru_l, tru_t, tru_r, len_l, len_t, len_s, len_r, ix_l, ix_t, ix_s, ix_r, int_i, list_l, list_t, sl_l, sl_s, slL_l, repl_s, rng_1, rng_2, List.getElem?_cons_succ, List.getElem?_cons_zero, List.set_cons_succ, List.set_cons_zero, true_and, and_true, Bool.false_eq_true, if_true, if_false, ite_true, ite_false, reduceIte, Bool.not_true, Bool.not_false, Bool.and_true, Bool.true_and, Bool.and_false, Bool.false_and, decide_eq_true_eq, decide_true, decide_false, Bool.and_eq_true, startD, List.map_cons, List.map_nil, List.length_cons, List.length_nil, List.cons_append, List.nil_append, List.zip_cons_cons, List.zip_nil_left, List.zip_nil_right, List.foldl_cons, List.foldl_nil, Nat.zero_le]
theorem counter_ok (r : List (Int × List (List Nat))) (left : List (List Nat)) (right : List Nat) (hr : r.length ≤ 100) (hl : left.length ≤ 1000) : Ok (m_counter [encR r, .lst (left.map .str), .str right]) fun d => d = (match sortI (agL r left right) with | [] => .non | i :: _ => .int i) := by
  rw [r_counter]
  unfold b_counter
  try simp (config := {decide := true}) only [fw_seq, fw_nil, fw_set, fw_ret, fw_retN, fw_if, fw_expr, fw_app, fw_aug, fw_put, fw_augIx, fw_asg, fw_par, fw_nx, fw_bk, fw_ct, ok_var, okv_some, okl_lst, okt_tup, oks_str, oki_int, okb_bl, ok_K, ok_bin, ok_un, ok_cmp, ok_val, ok_tru, ok_and, ok_or, ok_not, ok_eAnd, ok_eOr, ok_eNot, ok_if, ok_nil, ok_cons, ok_lst, ok_tup, ok_call, ok_fn, ok_chain, oko_cB, ok_eChain, ok_pNone, ok_pSome, ok_sl, ok_iLst, ok_iTupl, ok_iRng, ok_iStr, ok_yes, oko_some, ok_ok, oko_gN, oko_gT, oko_gNil, oko_gCons, add_ii, add_ss, add_ll, cat_ll, sub_ii, mul_cl, mul_cr, div_ii, mod_ii, pow_ii, iadd_ii, iadd_ss, neg_i, cmp_ii, cmp_ss, in_strs, nin_strs, in_ints, eq_strs, ne_strs, eq_str, ne_str, eq_int, ne_int, sorted_ints, sorted_strs, cutG_map, wipeD_nil, wipeD_cons, atI_two0, atI_two1, atI_c0, atI_c1, isi_bb, isi_ib, isi_ii, eq_bl, ne_bl, eq_nilI, eq_nilS, ne_nilS, List.length_map, in_c, nin_c, is_nn, is_in, is_sn, is_ln, is_tn, oko_isnt, tru_b, tru_n, tru_i, tru_s, tru_l, tru_t, tru_r, len_l, len_t, len_s, len_r, ix_l, ix_t, ix_s, ix_r, int_i, list_l, list_t, sl_l, sl_s, slL_l, repl_s, rng_1, rng_2, List.getElem?_cons_succ, List.getElem?_cons_zero, List.set_cons_succ, List.set_cons_zero, true_and, and_true, Bool.false_eq_true, if_true, if_false, ite_true, ite_false, reduceIte, Bool.not_true, Bool.not_false, Bool.and_true, Bool.true_and, Bool.and_false, Bool.false_and, decide_eq_true_eq, decide_true, decide_false, Bool.and_eq_true, startD, List.map_cons, List.map_nil, List.length_cons, List.length_nil, List.cons_append, List.nil_append, List.zip_cons_cons, List.zip_nil_left, List.zip_nil_right, List.foldl_cons, List.foldl_nil]
  refine (against_ok r left right hr hl).imp ?_
  rintro _ rfl
  cases e : sortI (agL r left right) with
  | nil => try simp (config := {decide := true}) only [fw_seq, fw_nil, fw_set, fw_ret, fw_retN, fw_if, fw_expr, fw_app, fw_aug, fw_put, fw_augIx, fw_asg, fw_par, fw_nx, fw_bk, fw_ct, ok_var, okv_some, okl_lst, okt_tup, oks_str, oki_int, okb_bl, ok_K, ok_bin, ok_un, ok_cmp, ok_val, ok_tru, ok_and, ok_or, ok_not, ok_eAnd, ok_eOr, ok_eNot, ok_if, ok_nil, ok_cons, ok_lst, ok_tup, ok_call, ok_fn, ok_chain, oko_cB, ok_eChain, ok_pNone, ok_pSome, ok_sl, ok_iLst, ok_iTupl, ok_iRng, ok_iStr, ok_yes, oko_some, ok_ok, oko_gN, oko_gT, oko_gNil, oko_gCons, add_ii, add_ss, add_ll, cat_ll, sub_ii, mul_cl, mul_cr, div_ii, mod_ii, pow_ii, iadd_ii, iadd_ss, neg_i, cmp_ii, cmp_ss, in_strs, nin_strs, in_ints, eq_strs, ne_strs, eq_str, ne_str, eq_int, ne_int, sorted_ints, sorted_strs, cutG_map, wipeD_nil, wipeD_cons, atI_two0, atI_two1, atI_c0, atI_c1, isi_bb, isi_ib, isi_ii, eq_bl, ne_bl, eq_nilI, eq_nilS, ne_nilS, List.length_map, in_c, nin_c, is_nn, is_in, is_sn, is_ln, is_tn, oko_isnt, tru_b, tru_n, tru_i, tru_s, tru_l, tru_t, tru_r, len_l, len_t, len_s, len_r, ix_l, ix_t, ix_s, ix_r, int_i, list_l, list_t, sl_l, sl_s, slL_l, repl_s, rng_1, rng_2, List.getElem?_cons_succ, List.getElem?_cons_zero, List.set_cons_succ, List.set_cons_zero, true_and, and_true, Bool.false_eq_true, if_true, if_false, ite_true, ite_false, reduceIte, Bool.not_true, Bool.not_false, Bool.and_true, Bool.true_and, Bool.and_false, Bool.false_and, decide_eq_true_eq, decide_true, decide_false, Bool.and_eq_true, startD, List.map_cons, List.map_nil, List.length_cons, List.length_nil, List.cons_append, List.nil_append, List.zip_cons_cons, List.zip_nil_left, List.zip_nil_right, List.foldl_cons, List.foldl_nil, List.isEmpty_nil]
  | cons i l => try simp (config := {decide := true}) only [fw_seq, fw_nil, fw_set, fw_ret, fw_retN, fw_if, fw_expr, fw_app, fw_aug, fw_put, fw_augIx, fw_asg, fw_par, fw_nx, fw_bk, fw_ct, ok_var, okv_some, okl_lst, okt_tup, oks_str, oki_int, okb_bl, ok_K, ok_bin, ok_un, ok_cmp, ok_val, ok_tru, ok_and, ok_or, ok_not, ok_eAnd, ok_eOr, ok_eNot, ok_if, ok_nil, ok_cons, ok_lst, ok_tup, ok_call, ok_fn, ok_chain, oko_cB, ok_eChain, ok_pNone, ok_pSome, ok_sl, ok_iLst, ok_iTupl, ok_iRng, ok_iStr, ok_yes, oko_some, ok_ok, oko_gN, oko_gT, oko_gNil, oko_gCons, add_ii, add_ss, add_ll, cat_ll, sub_ii, mul_cl, mul_cr, div_ii, mod_ii, pow_ii, iadd_ii, iadd_ss, neg_i, cmp_ii, cmp_ss, in_strs, nin_strs, in_ints, eq_strs, ne_strs, eq_str, ne_str, eq_int, ne_int, sorted_ints, sorted_strs, cutG_map, wipeD_nil, wipeD_cons, atI_two0, atI_two1, atI_c0, atI_c1, isi_bb, isi_ib, isi_ii, eq_bl, ne_bl, eq_nilI, eq_nilS, ne_nilS, List.length_map, in_c, nin_c, is_nn, is_in, is_sn, is_ln, is_tn, oko_isnt, tru_b, tru_n, tru_i, tru_s, tru_l, tru_t, tru_r, len_l, len_t, len_s, len_r, ix_l, ix_t, ix_s, ix_r, int_i, list_l, list_t, sl_l, sl_s, slL_l, repl_s, rng_1, rng_2, List.getElem?_cons_succ, List.getElem?_cons_zero, List.set_cons_succ, List.set_cons_zero, true_and, and_true, Bool.false_eq_true, if_true, if_false, ite_true, ite_false, reduceIte, Bool.not_true, Bool.not_false, Bool.and_true, Bool.true_and, Bool.and_false, Bool.false_and, decide_eq_true_eq, decide_true, decide_false, Bool.and_eq_true, startD, List.map_cons, List.map_nil, List.length_cons, List.length_nil, List.cons_append, List.nil_append, List.zip_cons_cons, List.zip_nil_left, List.zip_nil_right, List.foldl_cons, List.foldl_nil, List.isEmpty_cons]
theorem lagainst_ok (r : List (Int × List (List Nat))) (left : List (List Nat)) (right : List Nat) (hr : r.length ≤ 100) (hl : left.length ≤ 1000) : Ok (m__law_against [encR r, .lst (left.map .str), .str right]) fun d => d = .lst ((sortI (agL r left right)).map .int) := by
  rw [r__law_against]
  unfold b__law_against
  try simp (config := {decide := true}) only [fw_seq, fw_nil, fw_set, fw_ret, fw_retN, fw_if, fw_expr, fw_app, fw_aug, fw_put, fw_augIx, fw_asg, fw_par, fw_nx, fw_bk, fw_ct, ok_var, okv_some, okl_lst, okt_tup, oks_str, oki_int, okb_bl, ok_K, ok_bin, ok_un, ok_cmp, ok_val, ok_tru, ok_and, ok_or, ok_not, ok_eAnd, ok_eOr, ok_eNot, ok_if, ok_nil, ok_cons, ok_lst, ok_tup, ok_call, ok_fn, ok_chain, oko_cB, ok_eChain, ok_pNone, ok_pSome, ok_sl, ok_iLst, ok_iTupl, ok_iRng, ok_iStr, ok_yes, oko_some, ok_ok, oko_gN, oko_gT, oko_gNil, oko_gCons, add_ii, add_ss, add_ll, cat_ll, sub_ii, mul_cl, mul_cr, div_ii, mod_ii, pow_ii, iadd_ii, iadd_ss, neg_i, cmp_ii, cmp_ss, in_strs, nin_strs, in_ints, eq_strs, ne_strs, eq_str, ne_str, eq_int, ne_int, sorted_ints, sorted_strs, cutG_map, wipeD_nil, wipeD_cons, atI_two0, atI_two1, atI_c0, atI_c1, isi_bb, isi_ib, isi_ii, eq_bl, ne_bl, eq_nilI, eq_nilS, ne_nilS, List.length_map, in_c, nin_c, is_nn, is_in, is_sn, is_ln, is_tn, oko_isnt, tru_b, tru_n, tru_i, tru_s, tru_l, tru_t, tru_r, len_l, len_t, len_s, len_r, ix_l, ix_t, ix_s, ix_r, int_i, list_l, list_t, sl_l, sl_s, slL_l, repl_s, rng_1, rng_2, List.getElem?_cons_succ, List.getElem?_cons_zero, List.set_cons_succ, List.set_cons_zero, true_and, and_true, Bool.false_eq_true, if_true, if_false, ite_true, ite_false, reduceIte, Bool.not_true, Bool.not_false, Bool.and_true, Bool.true_and, Bool.and_false, Bool.false_and, decide_eq_true_eq, decide_true, decide_false, Bool.and_eq_true, startD, List.map_cons, List.map_nil, List.length_cons, List.length_nil, List.cons_append, List.nil_append, List.zip_cons_cons, List.zip_nil_left, List.zip_nil_right, List.foldl_cons, List.foldl_nil, Nat.zero_le]
  refine fw_for (ds := r.map encP) (fun j ρ' => ∃ (u v : _), ρ' = [some (encR r), some (.lst (left.map .str)), some (.str right), some (.lst ((agL (r.take j) left right).map .int)), u, v]) rfl ?_ ?_ ?_
  · exact ⟨_, _, rfl⟩
  · rintro j d _ hd ⟨u, v, rfl⟩
    rw [List.getElem?_map] at hd
    cases hj : r[j]? with
    | none => rw [hj] at hd; cases hd
    | some p =>
      rw [hj] at hd
      cases hd
      have ht : r.take (j + 1) = r.take j ++ [p] := by rw [List.take_add_one, hj]; rfl
      have ea : agL (r.take (j + 1)) left right = agL (r.take j) left right ++ (if ((left.all fun a => decide (a ∈ p.2)) && !decide (right ∈ p.2)) = true then [p.1] else []) := by
        unfold agL
        rw [ht, List.filter_append, List.map_append]
        congr 1
        rw [List.filter_cons]
        split <;> rfl
      unfold encP
      try simp (config := {decide := true}) only [fw_seq, fw_nil, fw_set, fw_ret, fw_retN, fw_if, fw_expr, fw_app, fw_aug, fw_put, fw_augIx, fw_asg, fw_par, fw_nx, fw_bk, fw_ct, ok_var, okv_some, okl_lst, okt_tup, oks_str, oki_int, okb_bl, ok_K, ok_bin, ok_un, ok_cmp, ok_val, ok_tru, ok_and, ok_or, ok_not, ok_eAnd, ok_eOr, ok_eNot, ok_if, ok_nil, ok_cons, ok_lst, ok_tup, ok_call, ok_fn, ok_chain, oko_cB, ok_eChain, ok_pNone, ok_pSome, ok_sl, ok_iLst, ok_iTupl, ok_iRng, ok_iStr, ok_yes, oko_some, ok_ok, oko_gN, oko_gT, oko_gNil, oko_gCons, add_ii, add_ss, add_ll, cat_ll, sub_ii, mul_cl, mul_cr, div_ii, mod_ii, pow_ii, iadd_ii, iadd_ss, neg_i, cmp_ii, cmp_ss, in_strs, nin_strs, in_ints, eq_strs, ne_strs, eq_str, ne_str, eq_int, ne_int, sorted_ints, sorted_strs, cutG_map, wipeD_nil, wipeD_cons, atI_two0, atI_two1, atI_c0, atI_c1, isi_bb, isi_ib, isi_ii, eq_bl, ne_bl, eq_nilI, eq_nilS, ne_nilS, List.length_map, in_c, nin_c, is_nn, is_in, is_sn, is_ln, is_tn, oko_isnt, tru_b, tru_n, tru_i, tru_s, tru_l, tru_t, tru_r, len_l, len_t, len_s, len_r, ix_l, ix_t, ix_s, ix_r, int_i, list_l, list_t, sl_l, sl_s, slL_l, repl_s, rng_1, rng_2, List.getElem?_cons_succ, List.getElem?_cons_zero, List.set_cons_succ, List.set_cons_zero, true_and, and_true, Bool.false_eq_true, if_true, if_false, ite_true, ite_false, reduceIte, Bool.not_true, Bool.not_false, Bool.and_true, Bool.true_and, Bool.and_false, Bool.false_and, decide_eq_true_eq, decide_true, decide_false, Bool.and_eq_true, startD, List.map_cons, List.map_nil, List.length_cons, List.length_nil, List.cons_append, List.nil_append, List.zip_cons_cons, List.zip_nil_left, List.zip_nil_right, List.foldl_cons, List.foldl_nil, ok_lc]
      refine lc_map .str (fun a => !decide (a ∈ p.2)) .str left (fun a ha => ?_) ?_
      · try simp (config := {decide := true}) only [fw_seq, fw_nil, fw_set, fw_ret, fw_retN, fw_if, fw_expr, fw_app, fw_aug, fw_put, fw_augIx, fw_asg, fw_par, fw_nx, fw_bk, fw_ct, ok_var, okv_some, okl_lst, okt_tup, oks_str, oki_int, okb_bl, ok_K, ok_bin, ok_un, ok_cmp, ok_val, ok_tru, ok_and, ok_or, ok_not, ok_eAnd, ok_eOr, ok_eNot, ok_if, ok_nil, ok_cons, ok_lst, ok_tup, ok_call, ok_fn, ok_chain, oko_cB, ok_eChain, ok_pNone, ok_pSome, ok_sl, ok_iLst, ok_iTupl, ok_iRng, ok_iStr, ok_yes, oko_some, ok_ok, oko_gN, oko_gT, oko_gNil, oko_gCons, add_ii, add_ss, add_ll, cat_ll, sub_ii, mul_cl, mul_cr, div_ii, mod_ii, pow_ii, iadd_ii, iadd_ss, neg_i, cmp_ii, cmp_ss, in_strs, nin_strs, in_ints, eq_strs, ne_strs, eq_str, ne_str, eq_int, ne_int, sorted_ints, sorted_strs, cutG_map, wipeD_nil, wipeD_cons, atI_two0, atI_two1, atI_c0, atI_c1, isi_bb, isi_ib, isi_ii, eq_bl, ne_bl, eq_nilI, eq_nilS, ne_nilS, List.length_map, in_c, nin_c, is_nn, is_in, is_sn, is_ln, is_tn, oko_isnt, tru_b, tru_n, tru_i, tru_s, tru_l, tru_t, tru_r, len_l, len_t, len_s, len_r, ix_l, ix_t, ix_s, ix_r, int_i, list_l, list_t, sl_l, sl_s, slL_l, repl_s, rng_1, rng_2, List.getElem?_cons_succ, List.getElem?_cons_zero, List.set_cons_succ, List.set_cons_zero, true_and, and_true, Bool.false_eq_true, if_true, if_false, ite_true, ite_false, reduceIte, Bool.not_true, Bool.not_false, Bool.and_true, Bool.true_and, Bool.and_false, Bool.false_and, decide_eq_true_eq, decide_true, decide_false, Bool.and_eq_true, startD, List.map_cons, List.map_nil, List.length_cons, List.length_nil, List.cons_append, List.nil_append, List.zip_cons_cons, List.zip_nil_left, List.zip_nil_right, List.foldl_cons, List.foldl_nil]
        exact fun _ => trivial
      · have hf : (left.filter fun a => !decide (a ∈ p.2)).length ≤ left.length := List.length_filter_le _ _
        have hk : (agL (r.take j) left right).length ≤ r.length := by
          unfold agL
          rw [List.length_map]
          exact Nat.le_trans (List.length_filter_le _ _) (by rw [List.length_take]; omega)
        have he : (left.filter fun a => !decide (a ∈ p.2)).isEmpty = left.all fun a => decide (a ∈ p.2) := by
          cases q : left.all fun a => decide (a ∈ p.2) with
          | true =>
            rw [List.isEmpty_iff, List.filter_eq_nil_iff]
            intro a ha
            have := List.all_eq_true.mp q a ha
            simp at this
            simp [this]
          | false =>
            obtain ⟨a, ha, hn⟩ := List.all_eq_false.mp q
            rw [List.isEmpty_eq_false_iff]
            intro z
            have := List.filter_eq_nil_iff.mp z a ha
            simp at this hn
            exact hn this
        try simp (config := {decide := true}) only [fw_seq, fw_nil, fw_set, fw_ret, fw_retN, fw_if, fw_expr, fw_app, fw_aug, fw_put, fw_augIx, fw_asg, fw_par, fw_nx, fw_bk, fw_ct, ok_var, okv_some, okl_lst, okt_tup, oks_str, oki_int, okb_bl, ok_K, ok_bin, ok_un, ok_cmp, ok_val, ok_tru, ok_and, ok_or, ok_not, ok_eAnd, ok_eOr, ok_eNot, ok_if, ok_nil, ok_cons, ok_lst, ok_tup, ok_call, ok_fn, ok_chain, oko_cB, ok_eChain, ok_pNone, ok_pSome, ok_sl, ok_iLst, ok_iTupl, ok_iRng, ok_iStr, ok_yes, oko_some, ok_ok, oko_gN, oko_gT, oko_gNil, oko_gCons, add_ii, add_ss, add_ll, cat_ll, sub_ii, mul_cl, mul_cr, div_ii, mod_ii, pow_ii, iadd_ii, iadd_ss, neg_i, cmp_ii, cmp_ss, in_strs, nin_strs, in_ints, eq_strs, ne_strs, eq_str, ne_str, eq_int, ne_int, sorted_ints, sorted_strs, cutG_map, wipeD_nil, wipeD_cons, atI_two0, atI_two1, atI_c0, atI_c1, isi_bb, isi_ib, isi_ii, eq_bl, ne_bl, eq_nilI, eq_nilS, ne_nilS, List.length_map, in_c, nin_c, is_nn, is_in, is_sn, is_ln, is_tn, oko_isnt, tru_b, tru_n, tru_i, tru_s, tru_l, tru_t, tru_r, len_l, len_t, len_s, len_r, ix_l, ix_t, ix_s, ix_r, int_i, list_l, list_t, sl_l, sl_s, slL_l, repl_s, rng_1, rng_2, List.getElem?_cons_succ, List.getElem?_cons_zero, List.set_cons_succ, List.set_cons_zero, true_and, and_true, Bool.false_eq_true, if_true, if_false, ite_true, ite_false, reduceIte, Bool.not_true, Bool.not_false, Bool.and_true, Bool.true_and, Bool.and_false, Bool.false_and, decide_eq_true_eq, decide_true, decide_false, Bool.and_eq_true, startD, List.map_cons, List.map_nil, List.length_cons, List.length_nil, List.cons_append, List.nil_append, List.zip_cons_cons, List.zip_nil_left, List.zip_nil_right, List.foldl_cons, List.foldl_nil, sizeLine_eq, he]
        refine ⟨by omega, ?_⟩
        rw [ea]
        cases q1 : left.all fun a => decide (a ∈ p.2) with
        | false =>
          try simp (config := {decide := true}) only [fw_seq, fw_nil, fw_set, fw_ret, fw_retN, fw_if, fw_expr, fw_app, fw_aug, fw_put, fw_augIx, fw_asg, fw_par, fw_nx, fw_bk, fw_ct, ok_var, okv_some, okl_lst, okt_tup, oks_str, oki_int, okb_bl, ok_K, ok_bin, ok_un, ok_cmp, ok_val, ok_tru, ok_and, ok_or, ok_not, ok_eAnd, ok_eOr, ok_eNot, ok_if, ok_nil, ok_cons, ok_lst, ok_tup, ok_call, ok_fn, ok_chain, oko_cB, ok_eChain, ok_pNone, ok_pSome, ok_sl, ok_iLst, ok_iTupl, ok_iRng, ok_iStr, ok_yes, oko_some, ok_ok, oko_gN, oko_gT, oko_gNil, oko_gCons, add_ii, add_ss, add_ll, cat_ll, sub_ii, mul_cl, mul_cr, div_ii, mod_ii, pow_ii, iadd_ii, iadd_ss, neg_i, cmp_ii, cmp_ss, in_strs, nin_strs, in_ints, eq_strs, ne_strs, eq_str, ne_str, eq_int, ne_int, sorted_ints, sorted_strs, cutG_map, wipeD_nil, wipeD_cons, atI_two0, atI_two1, atI_c0, atI_c1, isi_bb, isi_ib, isi_ii, eq_bl, ne_bl, eq_nilI, eq_nilS, ne_nilS, List.length_map, in_c, nin_c, is_nn, is_in, is_sn, is_ln, is_tn, oko_isnt, tru_b, tru_n, tru_i, tru_s, tru_l, tru_t, tru_r, len_l, len_t, len_s, len_r, ix_l, ix_t, ix_s, ix_r, int_i, list_l, list_t, sl_l, sl_s, slL_l, repl_s, rng_1, rng_2, List.getElem?_cons_succ, List.getElem?_cons_zero, List.set_cons_succ, List.set_cons_zero, true_and, and_true, Bool.false_eq_true, if_true, if_false, ite_true, ite_false, reduceIte, Bool.not_true, Bool.not_false, Bool.and_true, Bool.true_and, Bool.and_false, Bool.false_and, decide_eq_true_eq, decide_true, decide_false, Bool.and_eq_true, startD, List.map_cons, List.map_nil, List.length_cons, List.length_nil, List.cons_append, List.nil_append, List.zip_cons_cons, List.zip_nil_left, List.zip_nil_right, List.foldl_cons, List.foldl_nil]
          exact ⟨_, _, by rw [List.append_nil]⟩
        | true =>
          cases q2 : decide (right ∈ p.2) with
          | true =>
            try simp (config := {decide := true}) only [fw_seq, fw_nil, fw_set, fw_ret, fw_retN, fw_if, fw_expr, fw_app, fw_aug, fw_put, fw_augIx, fw_asg, fw_par, fw_nx, fw_bk, fw_ct, ok_var, okv_some, okl_lst, okt_tup, oks_str, oki_int, okb_bl, ok_K, ok_bin, ok_un, ok_cmp, ok_val, ok_tru, ok_and, ok_or, ok_not, ok_eAnd, ok_eOr, ok_eNot, ok_if, ok_nil, ok_cons, ok_lst, ok_tup, ok_call, ok_fn, ok_chain, oko_cB, ok_eChain, ok_pNone, ok_pSome, ok_sl, ok_iLst, ok_iTupl, ok_iRng, ok_iStr, ok_yes, oko_some, ok_ok, oko_gN, oko_gT, oko_gNil, oko_gCons, add_ii, add_ss, add_ll, cat_ll, sub_ii, mul_cl, mul_cr, div_ii, mod_ii, pow_ii, iadd_ii, iadd_ss, neg_i, cmp_ii, cmp_ss, in_strs, nin_strs, in_ints, eq_strs, ne_strs, eq_str, ne_str, eq_int, ne_int, sorted_ints, sorted_strs, cutG_map, wipeD_nil, wipeD_cons, atI_two0, atI_two1, atI_c0, atI_c1, isi_bb, isi_ib, isi_ii, eq_bl, ne_bl, eq_nilI, eq_nilS, ne_nilS, List.length_map, in_c, nin_c, is_nn, is_in, is_sn, is_ln, is_tn, oko_isnt, tru_b, tru_n, tru_i, tru_s, tru_l, tru_t, tru_r, len_l, len_t, len_s, len_r, ix_l, ix_t, ix_s, ix_r, int_i, list_l, list_t, sl_l, sl_s, slL_l, repl_s, rng_1, rng_2, List.getElem?_cons_succ, List.getElem?_cons_zero, List.set_cons_succ, List.set_cons_zero, true_and, and_true, Bool.false_eq_true, if_true, if_false, ite_true, ite_false, reduceIte, Bool.not_true, Bool.not_false, Bool.and_true, Bool.true_and, Bool.and_false, Bool.false_and, decide_eq_true_eq, decide_true, decide_false, Bool.and_eq_true, startD, List.map_cons, List.map_nil, List.length_cons, List.length_nil, List.cons_append, List.nil_append, List.zip_cons_cons, List.zip_nil_left, List.zip_nil_right, List.foldl_cons, List.foldl_nil]
            exact ⟨_, _, by rw [List.append_nil]⟩
          | false =>
            try simp (config := {decide := true}) only [fw_seq, fw_nil, fw_set, fw_ret, fw_retN, fw_if, fw_expr, fw_app, fw_aug, fw_put, fw_augIx, fw_asg, fw_par, fw_nx, fw_bk, fw_ct, ok_var, okv_some, okl_lst, okt_tup, oks_str, oki_int, okb_bl, ok_K, ok_bin, ok_un, ok_cmp, ok_val, ok_tru, ok_and, ok_or, ok_not, ok_eAnd, ok_eOr, ok_eNot, ok_if, ok_nil, ok_cons, ok_lst, ok_tup, ok_call, ok_fn, ok_chain, oko_cB, ok_eChain, ok_pNone, ok_pSome, ok_sl, ok_iLst, ok_iTupl, ok_iRng, ok_iStr, ok_yes, oko_some, ok_ok, oko_gN, oko_gT, oko_gNil, oko_gCons, add_ii, add_ss, add_ll, cat_ll, sub_ii, mul_cl, mul_cr, div_ii, mod_ii, pow_ii, iadd_ii, iadd_ss, neg_i, cmp_ii, cmp_ss, in_strs, nin_strs, in_ints, eq_strs, ne_strs, eq_str, ne_str, eq_int, ne_int, sorted_ints, sorted_strs, cutG_map, wipeD_nil, wipeD_cons, atI_two0, atI_two1, atI_c0, atI_c1, isi_bb, isi_ib, isi_ii, eq_bl, ne_bl, eq_nilI, eq_nilS, ne_nilS, List.length_map, in_c, nin_c, is_nn, is_in, is_sn, is_ln, is_tn, oko_isnt, tru_b, tru_n, tru_i, tru_s, tru_l, tru_t, tru_r, len_l, len_t, len_s, len_r, ix_l, ix_t, ix_s, ix_r, int_i, list_l, list_t, sl_l, sl_s, slL_l, repl_s, rng_1, rng_2, List.getElem?_cons_succ, List.getElem?_cons_zero, List.set_cons_succ, List.set_cons_zero, true_and, and_true, Bool.false_eq_true, if_true, if_false, ite_true, ite_false, reduceIte, Bool.not_true, Bool.not_false, Bool.and_true, Bool.true_and, Bool.and_false, Bool.false_and, decide_eq_true_eq, decide_true, decide_false, Bool.and_eq_true, startD, List.map_cons, List.map_nil, List.length_cons, List.length_nil, List.cons_append, List.nil_append, List.zip_cons_cons, List.zip_nil_left, List.zip_nil_right, List.foldl_cons, List.foldl_nil]
            exact ⟨by omega, _, _, by rw [List.map_append]; rfl⟩
  · rintro _ ⟨u, v, rfl⟩
    rw [List.length_map, List.take_length]
    try simp (config := {decide := true}) only [fw_seq, fw_nil, fw_set, fw_ret, fw_retN, fw_if, fw_expr, fw_app, fw_aug, fw_put, fw_augIx, fw_asg, fw_par, fw_nx, fw_bk, fw_ct, ok_var, okv_some, okl_lst, okt_tup, oks_str, oki_int, okb_bl, ok_K, ok_bin, ok_un, ok_cmp, ok_val, ok_tru, ok_and, ok_or, ok_not, ok_eAnd, ok_eOr, ok_eNot, ok_if, ok_nil, ok_cons, ok_lst, ok_tup, ok_call, ok_fn, ok_chain, oko_cB, ok_eChain, ok_pNone, ok_pSome, ok_sl, ok_iLst, ok_iTupl, ok_iRng, ok_iStr, ok_yes, oko_some, ok_ok, oko_gN, oko_gT, oko_gNil, oko_gCons, add_ii, add_ss, add_ll, cat_ll, sub_ii, mul_cl, mul_cr, div_ii, mod_ii, pow_ii, iadd_ii, iadd_ss, neg_i, cmp_ii, cmp_ss, in_strs, nin_strs, in_ints, eq_strs, ne_strs, eq_str, ne_str, eq_int, ne_int, sorted_ints, sorted_strs, cutG_map, wipeD_nil, wipeD_cons, atI_two0, atI_two1, atI_c0, atI_c1, isi_bb, isi_ib, isi_ii, eq_bl, ne_bl, eq_nilI, eq_nilS, ne_nilS, List.length_map, in_c, nin_c, is_nn, is_in, is_sn, is_ln, is_tn, oko_isnt, tru_b, tru_n, tru_i, tru_s, tru_l, tru_t, tru_r, len_l, len_t, len_s, len_r, ix_l, ix_t, ix_s, ix_r, int_i, list_l, list_t, sl_l, sl_s, slL_l, repl_s, rng_1, rng_2, List.getElem?_cons_succ, List.getElem?_cons_zero, List.set_cons_succ, List.set_cons_zero, true_and, and_true, Bool.false_eq_true, if_true, if_false, ite_true, ite_false, reduceIte, Bool.not_true, Bool.not_false, Bool.and_true, Bool.true_and, Bool.and_false, Bool.false_and, decide_eq_true_eq, decide_true, decide_false, Bool.and_eq_true, startD, List.map_cons, List.map_nil, List.length_cons, List.length_nil, List.cons_append, List.nil_append, List.zip_cons_cons, List.zip_nil_left, List.zip_nil_right, List.foldl_cons, List.foldl_nil]
theorem right_ok (r : List (Int × List (List Nat))) (left : List (List Nat)) (right : List Nat) (hr : r.length ≤ 100) (hl : left.length ≤ 1000) : Ok (m__law_right [encR r, encR r, .lst (left.map .str), .str right]) fun d => d = .bl true := by
  rw [r__law_right]
  unfold b__law_right
  rw [fw_seq]
  try simp (config := {decide := true}) only [fw_nil, fw_set, fw_ret, fw_retN, fw_if, fw_expr, fw_app, fw_aug, fw_put, fw_augIx, fw_asg, fw_par, fw_nx, fw_bk, fw_ct, ok_var, okv_some, okl_lst, okt_tup, oks_str, oki_int, okb_bl, ok_K, ok_bin, ok_un, ok_cmp, ok_val, ok_tru, ok_and, ok_or, ok_not, ok_eAnd, ok_eOr, ok_eNot, ok_if, ok_nil, ok_cons, ok_lst, ok_tup, ok_call, ok_fn, ok_chain, oko_cB, ok_eChain, ok_pNone, ok_pSome, ok_sl, ok_iLst, ok_iTupl, ok_iRng, ok_iStr, ok_yes, oko_some, ok_ok, oko_gN, oko_gT, oko_gNil, oko_gCons, add_ii, add_ss, add_ll, cat_ll, sub_ii, mul_cl, mul_cr, div_ii, mod_ii, pow_ii, iadd_ii, iadd_ss, neg_i, cmp_ii, cmp_ss, in_strs, nin_strs, in_ints, eq_strs, ne_strs, eq_str, ne_str, eq_int, ne_int, sorted_ints, sorted_strs, cutG_map, wipeD_nil, wipeD_cons, atI_two0, atI_two1, atI_c0, atI_c1, isi_bb, isi_ib, isi_ii, eq_bl, ne_bl, eq_nilI, eq_nilS, ne_nilS, List.length_map, in_c, nin_c, is_nn, is_in, is_sn, is_ln, is_tn, oko_isnt, tru_b, tru_n, tru_i, tru_s, tru_l, tru_t, tru_r, len_l, len_t, len_s, len_r, ix_l, ix_t, ix_s, ix_r, int_i, list_l, list_t, sl_l, sl_s, slL_l, repl_s, rng_1, rng_2, List.getElem?_cons_succ, List.getElem?_cons_zero, List.set_cons_succ, List.set_cons_zero, true_and, and_true, Bool.false_eq_true, if_true, if_false, ite_true, ite_false, reduceIte, Bool.not_true, Bool.not_false, Bool.and_true, Bool.true_and, Bool.and_false, Bool.false_and, decide_eq_true_eq, decide_true, decide_false, Bool.and_eq_true, startD, List.map_cons, List.map_nil, List.length_cons, List.length_nil, List.cons_append, List.nil_append, List.zip_cons_cons, List.zip_nil_left, List.zip_nil_right, List.foldl_cons, List.foldl_nil]
  rw [fw_seq]
  try simp (config := {decide := true}) only [fw_nil, fw_set, fw_ret, fw_retN, fw_if, fw_expr, fw_app, fw_aug, fw_put, fw_augIx, fw_asg, fw_par, fw_nx, fw_bk, fw_ct, ok_var, okv_some, okl_lst, okt_tup, oks_str, oki_int, okb_bl, ok_K, ok_bin, ok_un, ok_cmp, ok_val, ok_tru, ok_and, ok_or, ok_not, ok_eAnd, ok_eOr, ok_eNot, ok_if, ok_nil, ok_cons, ok_lst, ok_tup, ok_call, ok_fn, ok_chain, oko_cB, ok_eChain, ok_pNone, ok_pSome, ok_sl, ok_iLst, ok_iTupl, ok_iRng, ok_iStr, ok_yes, oko_some, ok_ok, oko_gN, oko_gT, oko_gNil, oko_gCons, add_ii, add_ss, add_ll, cat_ll, sub_ii, mul_cl, mul_cr, div_ii, mod_ii, pow_ii, iadd_ii, iadd_ss, neg_i, cmp_ii, cmp_ss, in_strs, nin_strs, in_ints, eq_strs, ne_strs, eq_str, ne_str, eq_int, ne_int, sorted_ints, sorted_strs, cutG_map, wipeD_nil, wipeD_cons, atI_two0, atI_two1, atI_c0, atI_c1, isi_bb, isi_ib, isi_ii, eq_bl, ne_bl, eq_nilI, eq_nilS, ne_nilS, List.length_map, in_c, nin_c, is_nn, is_in, is_sn, is_ln, is_tn, oko_isnt, tru_b, tru_n, tru_i, tru_s, tru_l, tru_t, tru_r, len_l, len_t, len_s, len_r, ix_l, ix_t, ix_s, ix_r, int_i, list_l, list_t, sl_l, sl_s, slL_l, repl_s, rng_1, rng_2, List.getElem?_cons_succ, List.getElem?_cons_zero, List.set_cons_succ, List.set_cons_zero, true_and, and_true, Bool.false_eq_true, if_true, if_false, ite_true, ite_false, reduceIte, Bool.not_true, Bool.not_false, Bool.and_true, Bool.true_and, Bool.and_false, Bool.false_and, decide_eq_true_eq, decide_true, decide_false, Bool.and_eq_true, startD, List.map_cons, List.map_nil, List.length_cons, List.length_nil, List.cons_append, List.nil_append, List.zip_cons_cons, List.zip_nil_left, List.zip_nil_right, List.foldl_cons, List.foldl_nil]
  refine (lagainst_ok r left right hr hl).imp ?_
  rintro _ rfl
  rw [fw_seq]
  try simp (config := {decide := true}) only [fw_nil, fw_set, fw_ret, fw_retN, fw_if, fw_expr, fw_app, fw_aug, fw_put, fw_augIx, fw_asg, fw_par, fw_nx, fw_bk, fw_ct, ok_var, okv_some, okl_lst, okt_tup, oks_str, oki_int, okb_bl, ok_K, ok_bin, ok_un, ok_cmp, ok_val, ok_tru, ok_and, ok_or, ok_not, ok_eAnd, ok_eOr, ok_eNot, ok_if, ok_nil, ok_cons, ok_lst, ok_tup, ok_call, ok_fn, ok_chain, oko_cB, ok_eChain, ok_pNone, ok_pSome, ok_sl, ok_iLst, ok_iTupl, ok_iRng, ok_iStr, ok_yes, oko_some, ok_ok, oko_gN, oko_gT, oko_gNil, oko_gCons, add_ii, add_ss, add_ll, cat_ll, sub_ii, mul_cl, mul_cr, div_ii, mod_ii, pow_ii, iadd_ii, iadd_ss, neg_i, cmp_ii, cmp_ss, in_strs, nin_strs, in_ints, eq_strs, ne_strs, eq_str, ne_str, eq_int, ne_int, sorted_ints, sorted_strs, cutG_map, wipeD_nil, wipeD_cons, atI_two0, atI_two1, atI_c0, atI_c1, isi_bb, isi_ib, isi_ii, eq_bl, ne_bl, eq_nilI, eq_nilS, ne_nilS, List.length_map, in_c, nin_c, is_nn, is_in, is_sn, is_ln, is_tn, oko_isnt, tru_b, tru_n, tru_i, tru_s, tru_l, tru_t, tru_r, len_l, len_t, len_s, len_r, ix_l, ix_t, ix_s, ix_r, int_i, list_l, list_t, sl_l, sl_s, slL_l, repl_s, rng_1, rng_2, List.getElem?_cons_succ, List.getElem?_cons_zero, List.set_cons_succ, List.set_cons_zero, true_and, and_true, Bool.false_eq_true, if_true, if_false, ite_true, ite_false, reduceIte, Bool.not_true, Bool.not_false, Bool.and_true, Bool.true_and, Bool.and_false, Bool.false_and, decide_eq_true_eq, decide_true, decide_false, Bool.and_eq_true, startD, List.map_cons, List.map_nil, List.length_cons, List.length_nil, List.cons_append, List.nil_append, List.zip_cons_cons, List.zip_nil_left, List.zip_nil_right, List.foldl_cons, List.foldl_nil]
  refine (holds_ok r left right hr hl).imp ?_
  rintro _ rfl
  try simp (config := {decide := true}) only [fw_seq, fw_nil, fw_set, fw_ret, fw_retN, fw_if, fw_expr, fw_app, fw_aug, fw_put, fw_augIx, fw_asg, fw_par, fw_nx, fw_bk, fw_ct, ok_var, okv_some, okl_lst, okt_tup, oks_str, oki_int, okb_bl, ok_K, ok_bin, ok_un, ok_cmp, ok_val, ok_tru, ok_and, ok_or, ok_not, ok_eAnd, ok_eOr, ok_eNot, ok_if, ok_nil, ok_cons, ok_lst, ok_tup, ok_call, ok_fn, ok_chain, oko_cB, ok_eChain, ok_pNone, ok_pSome, ok_sl, ok_iLst, ok_iTupl, ok_iRng, ok_iStr, ok_yes, oko_some, ok_ok, oko_gN, oko_gT, oko_gNil, oko_gCons, add_ii, add_ss, add_ll, cat_ll, sub_ii, mul_cl, mul_cr, div_ii, mod_ii, pow_ii, iadd_ii, iadd_ss, neg_i, cmp_ii, cmp_ss, in_strs, nin_strs, in_ints, eq_strs, ne_strs, eq_str, ne_str, eq_int, ne_int, sorted_ints, sorted_strs, cutG_map, wipeD_nil, wipeD_cons, atI_two0, atI_two1, atI_c0, atI_c1, isi_bb, isi_ib, isi_ii, eq_bl, ne_bl, eq_nilI, eq_nilS, ne_nilS, List.length_map, in_c, nin_c, is_nn, is_in, is_sn, is_ln, is_tn, oko_isnt, tru_b, tru_n, tru_i, tru_s, tru_l, tru_t, tru_r, len_l, len_t, len_s, len_r, ix_l, ix_t, ix_s, ix_r, int_i, list_l, list_t, sl_l, sl_s, slL_l, repl_s, rng_1, rng_2, List.getElem?_cons_succ, List.getElem?_cons_zero, List.set_cons_succ, List.set_cons_zero, true_and, and_true, Bool.false_eq_true, if_true, if_false, ite_true, ite_false, reduceIte, Bool.not_true, Bool.not_false, Bool.and_true, Bool.true_and, Bool.and_false, Bool.false_and, decide_eq_true_eq, decide_true, decide_false, Bool.and_eq_true, startD, List.map_cons, List.map_nil, List.length_cons, List.length_nil, List.cons_append, List.nil_append, List.zip_cons_cons, List.zip_nil_left, List.zip_nil_right, List.foldl_cons, List.foldl_nil, Nat.zero_le]
  refine (counter_ok r left right hr hl).imp ?_
  rintro _ rfl
  cases e : sortI (agL r left right) with
  | nil => try simp (config := {decide := true}) only [fw_seq, fw_nil, fw_set, fw_ret, fw_retN, fw_if, fw_expr, fw_app, fw_aug, fw_put, fw_augIx, fw_asg, fw_par, fw_nx, fw_bk, fw_ct, ok_var, okv_some, okl_lst, okt_tup, oks_str, oki_int, okb_bl, ok_K, ok_bin, ok_un, ok_cmp, ok_val, ok_tru, ok_and, ok_or, ok_not, ok_eAnd, ok_eOr, ok_eNot, ok_if, ok_nil, ok_cons, ok_lst, ok_tup, ok_call, ok_fn, ok_chain, oko_cB, ok_eChain, ok_pNone, ok_pSome, ok_sl, ok_iLst, ok_iTupl, ok_iRng, ok_iStr, ok_yes, oko_some, ok_ok, oko_gN, oko_gT, oko_gNil, oko_gCons, add_ii, add_ss, add_ll, cat_ll, sub_ii, mul_cl, mul_cr, div_ii, mod_ii, pow_ii, iadd_ii, iadd_ss, neg_i, cmp_ii, cmp_ss, in_strs, nin_strs, in_ints, eq_strs, ne_strs, eq_str, ne_str, eq_int, ne_int, sorted_ints, sorted_strs, cutG_map, wipeD_nil, wipeD_cons, atI_two0, atI_two1, atI_c0, atI_c1, isi_bb, isi_ib, isi_ii, eq_bl, ne_bl, eq_nilI, eq_nilS, ne_nilS, List.length_map, in_c, nin_c, is_nn, is_in, is_sn, is_ln, is_tn, oko_isnt, tru_b, tru_n, tru_i, tru_s, tru_l, tru_t, tru_r, len_l, len_t, len_s, len_r, ix_l, ix_t, ix_s, ix_r, int_i, list_l, list_t, sl_l, sl_s, slL_l, repl_s, rng_1, rng_2, List.getElem?_cons_succ, List.getElem?_cons_zero, List.set_cons_succ, List.set_cons_zero, true_and, and_true, Bool.false_eq_true, if_true, if_false, ite_true, ite_false, reduceIte, Bool.not_true, Bool.not_false, Bool.and_true, Bool.true_and, Bool.and_false, Bool.false_and, decide_eq_true_eq, decide_true, decide_false, Bool.and_eq_true, startD, List.map_cons, List.map_nil, List.length_cons, List.length_nil, List.cons_append, List.nil_append, List.zip_cons_cons, List.zip_nil_left, List.zip_nil_right, List.foldl_cons, List.foldl_nil, List.isEmpty_nil]
  | cons i l => try simp (config := {decide := true}) only [fw_seq, fw_nil, fw_set, fw_ret, fw_retN, fw_if, fw_expr, fw_app, fw_aug, fw_put, fw_augIx, fw_asg, fw_par, fw_nx, fw_bk, fw_ct, ok_var, okv_some, okl_lst, okt_tup, oks_str, oki_int, okb_bl, ok_K, ok_bin, ok_un, ok_cmp, ok_val, ok_tru, ok_and, ok_or, ok_not, ok_eAnd, ok_eOr, ok_eNot, ok_if, ok_nil, ok_cons, ok_lst, ok_tup, ok_call, ok_fn, ok_chain, oko_cB, ok_eChain, ok_pNone, ok_pSome, ok_sl, ok_iLst, ok_iTupl, ok_iRng, ok_iStr, ok_yes, oko_some, ok_ok, oko_gN, oko_gT, oko_gNil, oko_gCons, add_ii, add_ss, add_ll, cat_ll, sub_ii, mul_cl, mul_cr, div_ii, mod_ii, pow_ii, iadd_ii, iadd_ss, neg_i, cmp_ii, cmp_ss, in_strs, nin_strs, in_ints, eq_strs, ne_strs, eq_str, ne_str, eq_int, ne_int, sorted_ints, sorted_strs, cutG_map, wipeD_nil, wipeD_cons, atI_two0, atI_two1, atI_c0, atI_c1, isi_bb, isi_ib, isi_ii, eq_bl, ne_bl, eq_nilI, eq_nilS, ne_nilS, List.length_map, in_c, nin_c, is_nn, is_in, is_sn, is_ln, is_tn, oko_isnt, tru_b, tru_n, tru_i, tru_s, tru_l, tru_t, tru_r, len_l, len_t, len_s, len_r, ix_l, ix_t, ix_s, ix_r, int_i, list_l, list_t, sl_l, sl_s, slL_l, repl_s, rng_1, rng_2, List.getElem?_cons_succ, List.getElem?_cons_zero, List.set_cons_succ, List.set_cons_zero, true_and, and_true, Bool.false_eq_true, if_true, if_false, ite_true, ite_false, reduceIte, Bool.not_true, Bool.not_false, Bool.and_true, Bool.true_and, Bool.and_false, Bool.false_and, decide_eq_true_eq, decide_true, decide_false, Bool.and_eq_true, startD, List.map_cons, List.map_nil, List.length_cons, List.length_nil, List.cons_append, List.nil_append, List.zip_cons_cons, List.zip_nil_left, List.zip_nil_right, List.foldl_cons, List.foldl_nil, List.isEmpty_cons]
/-! ### left parts -/
def encL (l : List (List Nat)) : D := .lst (l.map .str)
theorem lefts_ok (r : List (Int × List (List Nat))) (fs : List (List Nat)) (xs : List Int) (hr : r.length ≤ 100) (h1 : 1 ≤ fs.length) (h2 : fs.length ≤ 40) (h3 : ∀ s ∈ fs, Nm s) (hR : Rec fs.length r) (hx : xs.length = 40) (hin : ∀ x ∈ xs, inR x) :
    Ok (m__law_lefts [encR r, .lst (fs.map .str), .lst (xs.map .int)]) fun d => ∃ ls : List (List (List Nat)), d = .lst (ls.map encL) ∧ ∀ l ∈ ls, l.length ≤ 4 ∧ ∀ s ∈ l, s.length ≤ 14 := by
  rw [r__law_lefts]
  unfold b__law_lefts
  try simp (config := {decide := true}) only [fw_seq, fw_nil, fw_set, fw_ret, fw_retN, fw_if, fw_expr, fw_app, fw_aug, fw_put, fw_augIx, fw_asg, fw_par, fw_nx, fw_bk, fw_ct, ok_var, okv_some, okl_lst, okt_tup, oks_str, oki_int, okb_bl, ok_K, ok_bin, ok_un, ok_cmp, ok_val, ok_tru, ok_and, ok_or, ok_not, ok_eAnd, ok_eOr, ok_eNot, ok_if, ok_nil, ok_cons, ok_lst, ok_tup, ok_call, ok_fn, ok_chain, oko_cB, ok_eChain, ok_pNone, ok_pSome, ok_sl, ok_iLst, ok_iTupl, ok_iRng, ok_iStr, ok_yes, oko_some, ok_ok, oko_gN, oko_gT, oko_gNil, oko_gCons, add_ii, add_ss, add_ll, cat_ll, sub_ii, mul_cl, mul_cr, div_ii, mod_ii, pow_ii, iadd_ii, iadd_ss, neg_i, cmp_ii, cmp_ss, in_strs, nin_strs, in_ints, eq_strs, ne_strs, eq_str, ne_str, eq_int, ne_int, sorted_ints, sorted_strs, cutG_map, wipeD_nil, wipeD_cons, atI_two0, atI_two1, atI_c0, atI_c1, isi_bb, isi_ib, isi_ii, eq_bl, ne_bl, eq_nilI, eq_nilS, ne_nilS, List.length_map, in_c, nin_c, is_nn, is_in, is_sn, is_ln, is_tn, oko_isnt, tru_b, tru_n, tru_i, tru_s, tru_l, tru_t, tru_r, len_l, len_t, len_s, len_r, ix_l, ix_t, ix_s, ix_r, int_i, list_l, list_t, sl_l, sl_s, slL_l, repl_s, rng_1, rng_2, List.getElem?_cons_succ, List.getElem?_cons_zero, List.set_cons_succ, List.set_cons_zero, true_and, and_true, Bool.false_eq_true, if_true, if_false, ite_true, ite_false, reduceIte, Bool.not_true, Bool.not_false, Bool.and_true, Bool.true_and, Bool.and_false, Bool.false_and, decide_eq_true_eq, decide_true, decide_false, Bool.and_eq_true, startD, List.map_cons, List.map_nil, List.length_cons, List.length_nil, List.cons_append, List.nil_append, List.zip_cons_cons, List.zip_nil_left, List.zip_nil_right, List.foldl_cons, List.foldl_nil, sizeLine_eq]
  refine fw_range (n := 5) (fun j ρ' => ∃ (ls : List (List (List Nat))) (u4 u5 u6 u7 u8 : _), ρ' = [some (encR r), some (.lst (fs.map .str)), some (.lst (xs.map .int)), some (.lst (ls.map encL)), u4, u5, u6, u7, u8] ∧ ls.length ≤ 1 + 2 * j ∧ ∀ l ∈ ls, l.length ≤ 4 ∧ ∀ s ∈ l, s.length ≤ 14) ?_ ?_ ?_ ?_
  · try simp (config := {decide := true}) only [fw_seq, fw_nil, fw_set, fw_ret, fw_retN, fw_if, fw_expr, fw_app, fw_aug, fw_put, fw_augIx, fw_asg, fw_par, fw_nx, fw_bk, fw_ct, ok_var, okv_some, okl_lst, okt_tup, oks_str, oki_int, okb_bl, ok_K, ok_bin, ok_un, ok_cmp, ok_val, ok_tru, ok_and, ok_or, ok_not, ok_eAnd, ok_eOr, ok_eNot, ok_if, ok_nil, ok_cons, ok_lst, ok_tup, ok_call, ok_fn, ok_chain, oko_cB, ok_eChain, ok_pNone, ok_pSome, ok_sl, ok_iLst, ok_iTupl, ok_iRng, ok_iStr, ok_yes, oko_some, ok_ok, oko_gN, oko_gT, oko_gNil, oko_gCons, add_ii, add_ss, add_ll, cat_ll, sub_ii, mul_cl, mul_cr, div_ii, mod_ii, pow_ii, iadd_ii, iadd_ss, neg_i, cmp_ii, cmp_ss, in_strs, nin_strs, in_ints, eq_strs, ne_strs, eq_str, ne_str, eq_int, ne_int, sorted_ints, sorted_strs, cutG_map, wipeD_nil, wipeD_cons, atI_two0, atI_two1, atI_c0, atI_c1, isi_bb, isi_ib, isi_ii, eq_bl, ne_bl, eq_nilI, eq_nilS, ne_nilS, List.length_map, in_c, nin_c, is_nn, is_in, is_sn, is_ln, is_tn, oko_isnt, tru_b, tru_n, tru_i, tru_s, tru_l, tru_t, tru_r, len_l, len_t, len_s, len_r, ix_l, ix_t, ix_s, ix_r, int_i, list_l, list_t, sl_l, sl_s, slL_l, repl_s, rng_1, rng_2, List.getElem?_cons_succ, List.getElem?_cons_zero, List.set_cons_succ, List.set_cons_zero, true_and, and_true, Bool.false_eq_true, if_true, if_false, ite_true, ite_false, reduceIte, Bool.not_true, Bool.not_false, Bool.and_true, Bool.true_and, Bool.and_false, Bool.false_and, decide_eq_true_eq, decide_true, decide_false, Bool.and_eq_true, startD, List.map_cons, List.map_nil, List.length_cons, List.length_nil, List.cons_append, List.nil_append, List.zip_cons_cons, List.zip_nil_left, List.zip_nil_right, List.foldl_cons, List.foldl_nil]
    exact rfl
  · exact ⟨[[]], _, _, _, _, _, rfl, by simp, by simp⟩
  · rintro j _ hj ⟨ls, u4, u5, u6, u7, u8, rfl, hls, hl⟩
    try simp (config := {decide := true}) only [fw_nil, fw_set, fw_ret, fw_retN, fw_if, fw_expr, fw_app, fw_aug, fw_put, fw_augIx, fw_asg, fw_par, fw_nx, fw_bk, fw_ct, ok_var, okv_some, okl_lst, okt_tup, oks_str, oki_int, okb_bl, ok_K, ok_bin, ok_un, ok_cmp, ok_val, ok_tru, ok_and, ok_or, ok_not, ok_eAnd, ok_eOr, ok_eNot, ok_if, ok_nil, ok_cons, ok_lst, ok_tup, ok_call, ok_fn, ok_chain, oko_cB, ok_eChain, ok_pNone, ok_pSome, ok_sl, ok_iLst, ok_iTupl, ok_iRng, ok_iStr, ok_yes, oko_some, ok_ok, oko_gN, oko_gT, oko_gNil, oko_gCons, add_ii, add_ss, add_ll, cat_ll, sub_ii, mul_cl, mul_cr, div_ii, mod_ii, pow_ii, iadd_ii, iadd_ss, neg_i, cmp_ii, cmp_ss, in_strs, nin_strs, in_ints, eq_strs, ne_strs, eq_str, ne_str, eq_int, ne_int, sorted_ints, sorted_strs, cutG_map, wipeD_nil, wipeD_cons, atI_two0, atI_two1, atI_c0, atI_c1, isi_bb, isi_ib, isi_ii, eq_bl, ne_bl, eq_nilI, eq_nilS, ne_nilS, List.length_map, in_c, nin_c, is_nn, is_in, is_sn, is_ln, is_tn, oko_isnt, tru_b, tru_n, tru_i, tru_s, tru_l, tru_t, tru_r, len_l, len_t, len_s, len_r, ix_l, ix_t, ix_s, ix_r, int_i, list_l, list_t, sl_l, sl_s, slL_l, repl_s, rng_1, rng_2, List.getElem?_cons_succ, List.getElem?_cons_zero, List.set_cons_succ, List.set_cons_zero, true_and, and_true, Bool.false_eq_true, if_true, if_false, ite_true, ite_false, reduceIte, Bool.not_true, Bool.not_false, Bool.and_true, Bool.true_and, Bool.and_false, Bool.false_and, decide_eq_true_eq, decide_true, decide_false, Bool.and_eq_true, startD, List.map_cons, List.map_nil, List.length_cons, List.length_nil, List.cons_append, List.nil_append, List.zip_cons_cons, List.zip_nil_left, List.zip_nil_right, List.foldl_cons, List.foldl_nil]
    rw [fw_seq]
    try simp (config := {decide := true}) only [fw_nil, fw_set, fw_ret, fw_retN, fw_if, fw_expr, fw_app, fw_aug, fw_put, fw_augIx, fw_asg, fw_par, fw_nx, fw_bk, fw_ct, ok_var, okv_some, okl_lst, okt_tup, oks_str, oki_int, okb_bl, ok_K, ok_bin, ok_un, ok_cmp, ok_val, ok_tru, ok_and, ok_or, ok_not, ok_eAnd, ok_eOr, ok_eNot, ok_if, ok_nil, ok_cons, ok_lst, ok_tup, ok_call, ok_fn, ok_chain, oko_cB, ok_eChain, ok_pNone, ok_pSome, ok_sl, ok_iLst, ok_iTupl, ok_iRng, ok_iStr, ok_yes, oko_some, ok_ok, oko_gN, oko_gT, oko_gNil, oko_gCons, add_ii, add_ss, add_ll, cat_ll, sub_ii, mul_cl, mul_cr, div_ii, mod_ii, pow_ii, iadd_ii, iadd_ss, neg_i, cmp_ii, cmp_ss, in_strs, nin_strs, in_ints, eq_strs, ne_strs, eq_str, ne_str, eq_int, ne_int, sorted_ints, sorted_strs, cutG_map, wipeD_nil, wipeD_cons, atI_two0, atI_two1, atI_c0, atI_c1, isi_bb, isi_ib, isi_ii, eq_bl, ne_bl, eq_nilI, eq_nilS, ne_nilS, List.length_map, in_c, nin_c, is_nn, is_in, is_sn, is_ln, is_tn, oko_isnt, tru_b, tru_n, tru_i, tru_s, tru_l, tru_t, tru_r, len_l, len_t, len_s, len_r, ix_l, ix_t, ix_s, ix_r, int_i, list_l, list_t, sl_l, sl_s, slL_l, repl_s, rng_1, rng_2, List.getElem?_cons_succ, List.getElem?_cons_zero, List.set_cons_succ, List.set_cons_zero, true_and, and_true, Bool.false_eq_true, if_true, if_false, ite_true, ite_false, reduceIte, Bool.not_true, Bool.not_false, Bool.and_true, Bool.true_and, Bool.and_false, Bool.false_and, decide_eq_true_eq, decide_true, decide_false, Bool.and_eq_true, startD, List.map_cons, List.map_nil, List.length_cons, List.length_nil, List.cons_append, List.nil_append, List.zip_cons_cons, List.zip_nil_left, List.zip_nil_right, List.foldl_cons, List.foldl_nil, ok_lc]
    refine ⟨(rng_ok (n := fs.length) (by omega)).1, ?_⟩
    refine lc_yes (fun d => ∃ s, d = .str s ∧ s.length ≤ 13) _ (fun d hd => ?_) fun rs hrl hrs => ?_
    · obtain ⟨i, hi, rfl⟩ := mem_range hd
      rw [Int.toNat_natCast] at hi
      try simp (config := {decide := true}) only [fw_seq, fw_nil, fw_set, fw_ret, fw_retN, fw_if, fw_expr, fw_app, fw_aug, fw_put, fw_augIx, fw_asg, fw_par, fw_nx, fw_bk, fw_ct, ok_var, okv_some, okl_lst, okt_tup, oks_str, oki_int, okb_bl, ok_K, ok_bin, ok_un, ok_cmp, ok_val, ok_tru, ok_and, ok_or, ok_not, ok_eAnd, ok_eOr, ok_eNot, ok_if, ok_nil, ok_cons, ok_lst, ok_tup, ok_call, ok_fn, ok_chain, oko_cB, ok_eChain, ok_pNone, ok_pSome, ok_sl, ok_iLst, ok_iTupl, ok_iRng, ok_iStr, ok_yes, oko_some, ok_ok, oko_gN, oko_gT, oko_gNil, oko_gCons, add_ii, add_ss, add_ll, cat_ll, sub_ii, mul_cl, mul_cr, div_ii, mod_ii, pow_ii, iadd_ii, iadd_ss, neg_i, cmp_ii, cmp_ss, in_strs, nin_strs, in_ints, eq_strs, ne_strs, eq_str, ne_str, eq_int, ne_int, sorted_ints, sorted_strs, cutG_map, wipeD_nil, wipeD_cons, atI_two0, atI_two1, atI_c0, atI_c1, isi_bb, isi_ib, isi_ii, eq_bl, ne_bl, eq_nilI, eq_nilS, ne_nilS, List.length_map, in_c, nin_c, is_nn, is_in, is_sn, is_ln, is_tn, oko_isnt, tru_b, tru_n, tru_i, tru_s, tru_l, tru_t, tru_r, len_l, len_t, len_s, len_r, ix_l, ix_t, ix_s, ix_r, int_i, list_l, list_t, sl_l, sl_s, slL_l, repl_s, rng_1, rng_2, List.getElem?_cons_succ, List.getElem?_cons_zero, List.set_cons_succ, List.set_cons_zero, true_and, and_true, Bool.false_eq_true, if_true, if_false, ite_true, ite_false, reduceIte, Bool.not_true, Bool.not_false, Bool.and_true, Bool.true_and, Bool.and_false, Bool.false_and, decide_eq_true_eq, decide_true, decide_false, Bool.and_eq_true, startD, List.map_cons, List.map_nil, List.length_cons, List.length_nil, List.cons_append, List.nil_append, List.zip_cons_cons, List.zip_nil_left, List.zip_nil_right, List.foldl_cons, List.foldl_nil]
      refine oko_ixm (by omega) (by omega) fun xi _ => ?_
      try simp (config := {decide := true}) only [fw_seq, fw_nil, fw_set, fw_ret, fw_retN, fw_if, fw_expr, fw_app, fw_aug, fw_put, fw_augIx, fw_asg, fw_par, fw_nx, fw_bk, fw_ct, ok_var, okv_some, okl_lst, okt_tup, oks_str, oki_int, okb_bl, ok_K, ok_bin, ok_un, ok_cmp, ok_val, ok_tru, ok_and, ok_or, ok_not, ok_eAnd, ok_eOr, ok_eNot, ok_if, ok_nil, ok_cons, ok_lst, ok_tup, ok_call, ok_fn, ok_chain, oko_cB, ok_eChain, ok_pNone, ok_pSome, ok_sl, ok_iLst, ok_iTupl, ok_iRng, ok_iStr, ok_yes, oko_some, ok_ok, oko_gN, oko_gT, oko_gNil, oko_gCons, add_ii, add_ss, add_ll, cat_ll, sub_ii, mul_cl, mul_cr, div_ii, mod_ii, pow_ii, iadd_ii, iadd_ss, neg_i, cmp_ii, cmp_ss, in_strs, nin_strs, in_ints, eq_strs, ne_strs, eq_str, ne_str, eq_int, ne_int, sorted_ints, sorted_strs, cutG_map, wipeD_nil, wipeD_cons, atI_two0, atI_two1, atI_c0, atI_c1, isi_bb, isi_ib, isi_ii, eq_bl, ne_bl, eq_nilI, eq_nilS, ne_nilS, List.length_map, in_c, nin_c, is_nn, is_in, is_sn, is_ln, is_tn, oko_isnt, tru_b, tru_n, tru_i, tru_s, tru_l, tru_t, tru_r, len_l, len_t, len_s, len_r, ix_l, ix_t, ix_s, ix_r, int_i, list_l, list_t, sl_l, sl_s, slL_l, repl_s, rng_1, rng_2, List.getElem?_cons_succ, List.getElem?_cons_zero, List.set_cons_succ, List.set_cons_zero, true_and, and_true, Bool.false_eq_true, if_true, if_false, ite_true, ite_false, reduceIte, Bool.not_true, Bool.not_false, Bool.and_true, Bool.true_and, Bool.and_false, Bool.false_and, decide_eq_true_eq, decide_true, decide_false, Bool.and_eq_true, startD, List.map_cons, List.map_nil, List.length_cons, List.length_nil, List.cons_append, List.nil_append, List.zip_cons_cons, List.zip_nil_left, List.zip_nil_right, List.foldl_cons, List.foldl_nil]
      refine oko_two (by omega) (by omega) fun p hp => ?_
      try simp (config := {decide := true}) only [fw_seq, fw_nil, fw_set, fw_ret, fw_retN, fw_if, fw_expr, fw_app, fw_aug, fw_put, fw_augIx, fw_asg, fw_par, fw_nx, fw_bk, fw_ct, ok_var, okv_some, okl_lst, okt_tup, oks_str, oki_int, okb_bl, ok_K, ok_bin, ok_un, ok_cmp, ok_val, ok_tru, ok_and, ok_or, ok_not, ok_eAnd, ok_eOr, ok_eNot, ok_if, ok_nil, ok_cons, ok_lst, ok_tup, ok_call, ok_fn, ok_chain, oko_cB, ok_eChain, ok_pNone, ok_pSome, ok_sl, ok_iLst, ok_iTupl, ok_iRng, ok_iStr, ok_yes, oko_some, ok_ok, oko_gN, oko_gT, oko_gNil, oko_gCons, add_ii, add_ss, add_ll, cat_ll, sub_ii, mul_cl, mul_cr, div_ii, mod_ii, pow_ii, iadd_ii, iadd_ss, neg_i, cmp_ii, cmp_ss, in_strs, nin_strs, in_ints, eq_strs, ne_strs, eq_str, ne_str, eq_int, ne_int, sorted_ints, sorted_strs, cutG_map, wipeD_nil, wipeD_cons, atI_two0, atI_two1, atI_c0, atI_c1, isi_bb, isi_ib, isi_ii, eq_bl, ne_bl, eq_nilI, eq_nilS, ne_nilS, List.length_map, in_c, nin_c, is_nn, is_in, is_sn, is_ln, is_tn, oko_isnt, tru_b, tru_n, tru_i, tru_s, tru_l, tru_t, tru_r, len_l, len_t, len_s, len_r, ix_l, ix_t, ix_s, ix_r, int_i, list_l, list_t, sl_l, sl_s, slL_l, repl_s, rng_1, rng_2, List.getElem?_cons_succ, List.getElem?_cons_zero, List.set_cons_succ, List.set_cons_zero, true_and, and_true, Bool.false_eq_true, if_true, if_false, ite_true, ite_false, reduceIte, Bool.not_true, Bool.not_false, Bool.and_true, Bool.true_and, Bool.and_false, Bool.false_and, decide_eq_true_eq, decide_true, decide_false, Bool.and_eq_true, startD, List.map_cons, List.map_nil, List.length_cons, List.length_nil, List.cons_append, List.nil_append, List.zip_cons_cons, List.zip_nil_left, List.zip_nil_right, List.foldl_cons, List.foldl_nil]
      refine oko_ixm (by omega) (by omega) fun f hf => ?_
      have hp1 : p.length ≤ 1 := by rcases hp with rfl | rfl <;> simp
      have hf1 := (h3 f hf).2
      try simp (config := {decide := true}) only [fw_seq, fw_nil, fw_set, fw_ret, fw_retN, fw_if, fw_expr, fw_app, fw_aug, fw_put, fw_augIx, fw_asg, fw_par, fw_nx, fw_bk, fw_ct, ok_var, okv_some, okl_lst, okt_tup, oks_str, oki_int, okb_bl, ok_K, ok_bin, ok_un, ok_cmp, ok_val, ok_tru, ok_and, ok_or, ok_not, ok_eAnd, ok_eOr, ok_eNot, ok_if, ok_nil, ok_cons, ok_lst, ok_tup, ok_call, ok_fn, ok_chain, oko_cB, ok_eChain, ok_pNone, ok_pSome, ok_sl, ok_iLst, ok_iTupl, ok_iRng, ok_iStr, ok_yes, oko_some, ok_ok, oko_gN, oko_gT, oko_gNil, oko_gCons, add_ii, add_ss, add_ll, cat_ll, sub_ii, mul_cl, mul_cr, div_ii, mod_ii, pow_ii, iadd_ii, iadd_ss, neg_i, cmp_ii, cmp_ss, in_strs, nin_strs, in_ints, eq_strs, ne_strs, eq_str, ne_str, eq_int, ne_int, sorted_ints, sorted_strs, cutG_map, wipeD_nil, wipeD_cons, atI_two0, atI_two1, atI_c0, atI_c1, isi_bb, isi_ib, isi_ii, eq_bl, ne_bl, eq_nilI, eq_nilS, ne_nilS, List.length_map, in_c, nin_c, is_nn, is_in, is_sn, is_ln, is_tn, oko_isnt, tru_b, tru_n, tru_i, tru_s, tru_l, tru_t, tru_r, len_l, len_t, len_s, len_r, ix_l, ix_t, ix_s, ix_r, int_i, list_l, list_t, sl_l, sl_s, slL_l, repl_s, rng_1, rng_2, List.getElem?_cons_succ, List.getElem?_cons_zero, List.set_cons_succ, List.set_cons_zero, true_and, and_true, Bool.false_eq_true, if_true, if_false, ite_true, ite_false, reduceIte, Bool.not_true, Bool.not_false, Bool.and_true, Bool.true_and, Bool.and_false, Bool.false_and, decide_eq_true_eq, decide_true, decide_false, Bool.and_eq_true, startD, List.map_cons, List.map_nil, List.length_cons, List.length_nil, List.cons_append, List.nil_append, List.zip_cons_cons, List.zip_nil_left, List.zip_nil_right, List.foldl_cons, List.foldl_nil, sizeLine_eq]
      exact ⟨by omega, _, rfl, by rw [List.length_append]; omega⟩
    rw [rangeD_len, Int.toNat_natCast] at hrl
    obtain ⟨ss, rfl, hss⟩ := unmap hrs
    rw [List.length_map] at hrl
    try simp (config := {decide := true}) only [fw_nil, fw_set, fw_ret, fw_retN, fw_if, fw_expr, fw_app, fw_aug, fw_put, fw_augIx, fw_asg, fw_par, fw_nx, fw_bk, fw_ct, ok_var, okv_some, okl_lst, okt_tup, oks_str, oki_int, okb_bl, ok_K, ok_bin, ok_un, ok_cmp, ok_val, ok_tru, ok_and, ok_or, ok_not, ok_eAnd, ok_eOr, ok_eNot, ok_if, ok_nil, ok_cons, ok_lst, ok_tup, ok_call, ok_fn, ok_chain, oko_cB, ok_eChain, ok_pNone, ok_pSome, ok_sl, ok_iLst, ok_iTupl, ok_iRng, ok_iStr, ok_yes, oko_some, ok_ok, oko_gN, oko_gT, oko_gNil, oko_gCons, add_ii, add_ss, add_ll, cat_ll, sub_ii, mul_cl, mul_cr, div_ii, mod_ii, pow_ii, iadd_ii, iadd_ss, neg_i, cmp_ii, cmp_ss, in_strs, nin_strs, in_ints, eq_strs, ne_strs, eq_str, ne_str, eq_int, ne_int, sorted_ints, sorted_strs, cutG_map, wipeD_nil, wipeD_cons, atI_two0, atI_two1, atI_c0, atI_c1, isi_bb, isi_ib, isi_ii, eq_bl, ne_bl, eq_nilI, eq_nilS, ne_nilS, List.length_map, in_c, nin_c, is_nn, is_in, is_sn, is_ln, is_tn, oko_isnt, tru_b, tru_n, tru_i, tru_s, tru_l, tru_t, tru_r, len_l, len_t, len_s, len_r, ix_l, ix_t, ix_s, ix_r, int_i, list_l, list_t, sl_l, sl_s, slL_l, repl_s, rng_1, rng_2, List.getElem?_cons_succ, List.getElem?_cons_zero, List.set_cons_succ, List.set_cons_zero, true_and, and_true, Bool.false_eq_true, if_true, if_false, ite_true, ite_false, reduceIte, Bool.not_true, Bool.not_false, Bool.and_true, Bool.true_and, Bool.and_false, Bool.false_and, decide_eq_true_eq, decide_true, decide_false, Bool.and_eq_true, startD, List.map_cons, List.map_nil, List.length_cons, List.length_nil, List.cons_append, List.nil_append, List.zip_cons_cons, List.zip_nil_left, List.zip_nil_right, List.foldl_cons, List.foldl_nil]
    refine ⟨by rw [sizeLine_eq]; omega, ?_⟩
    refine fw_cut (fun ρ' => ∃ ss : List (List Nat), (ss.length = fs.length ∧ ∀ s ∈ ss, s.length ≤ 13) ∧ ρ' = [some (encR r), some (.lst (fs.map .str)), some (.lst (xs.map .int)), some (.lst (ls.map encL)), some (.int j), some (.lst (ss.map .str)), u6, u7, u8]) ?_ ?_
    · try simp (config := {decide := true}) only [fw_nil, fw_set, fw_ret, fw_retN, fw_if, fw_expr, fw_app, fw_aug, fw_put, fw_augIx, fw_asg, fw_par, fw_nx, fw_bk, fw_ct, ok_var, okv_some, okl_lst, okt_tup, oks_str, oki_int, okb_bl, ok_K, ok_bin, ok_un, ok_cmp, ok_val, ok_tru, ok_and, ok_or, ok_not, ok_eAnd, ok_eOr, ok_eNot, ok_if, ok_nil, ok_cons, ok_lst, ok_tup, ok_call, ok_fn, ok_chain, oko_cB, ok_eChain, ok_pNone, ok_pSome, ok_sl, ok_iLst, ok_iTupl, ok_iRng, ok_iStr, ok_yes, oko_some, ok_ok, oko_gN, oko_gT, oko_gNil, oko_gCons, add_ii, add_ss, add_ll, cat_ll, sub_ii, mul_cl, mul_cr, div_ii, mod_ii, pow_ii, iadd_ii, iadd_ss, neg_i, cmp_ii, cmp_ss, in_strs, nin_strs, in_ints, eq_strs, ne_strs, eq_str, ne_str, eq_int, ne_int, sorted_ints, sorted_strs, cutG_map, wipeD_nil, wipeD_cons, atI_two0, atI_two1, atI_c0, atI_c1, isi_bb, isi_ib, isi_ii, eq_bl, ne_bl, eq_nilI, eq_nilS, ne_nilS, List.length_map, in_c, nin_c, is_nn, is_in, is_sn, is_ln, is_tn, oko_isnt, tru_b, tru_n, tru_i, tru_s, tru_l, tru_t, tru_r, len_l, len_t, len_s, len_r, ix_l, ix_t, ix_s, ix_r, int_i, list_l, list_t, sl_l, sl_s, slL_l, repl_s, rng_1, rng_2, List.getElem?_cons_succ, List.getElem?_cons_zero, List.set_cons_succ, List.set_cons_zero, true_and, and_true, Bool.false_eq_true, if_true, if_false, ite_true, ite_false, reduceIte, Bool.not_true, Bool.not_false, Bool.and_true, Bool.true_and, Bool.and_false, Bool.false_and, decide_eq_true_eq, decide_true, decide_false, Bool.and_eq_true, startD, List.map_cons, List.map_nil, List.length_cons, List.length_nil, List.cons_append, List.nil_append, List.zip_cons_cons, List.zip_nil_left, List.zip_nil_right, List.foldl_cons, List.foldl_nil, oko_ne]
      refine ⟨by rw [rec_ok64], ?_⟩
      have hd : deq (encR r) (.lst []) = r.isEmpty := by unfold encR; rw [deq_nil, List.isEmpty_map]
      rw [hd]
      split
      · rename_i hne
        have hlen : 0 < r.length := by
          cases r with
          | nil => simp at hne
          | cons _ _ => simp
        split
        · try simp (config := {decide := true}) only [fw_seq, fw_nil, fw_set, fw_ret, fw_retN, fw_if, fw_expr, fw_app, fw_aug, fw_put, fw_augIx, fw_asg, fw_par, fw_nx, fw_bk, fw_ct, ok_var, okv_some, okl_lst, okt_tup, oks_str, oki_int, okb_bl, ok_K, ok_bin, ok_un, ok_cmp, ok_val, ok_tru, ok_and, ok_or, ok_not, ok_eAnd, ok_eOr, ok_eNot, ok_if, ok_nil, ok_cons, ok_lst, ok_tup, ok_call, ok_fn, ok_chain, oko_cB, ok_eChain, ok_pNone, ok_pSome, ok_sl, ok_iLst, ok_iTupl, ok_iRng, ok_iStr, ok_yes, oko_some, ok_ok, oko_gN, oko_gT, oko_gNil, oko_gCons, add_ii, add_ss, add_ll, cat_ll, sub_ii, mul_cl, mul_cr, div_ii, mod_ii, pow_ii, iadd_ii, iadd_ss, neg_i, cmp_ii, cmp_ss, in_strs, nin_strs, in_ints, eq_strs, ne_strs, eq_str, ne_str, eq_int, ne_int, sorted_ints, sorted_strs, cutG_map, wipeD_nil, wipeD_cons, atI_two0, atI_two1, atI_c0, atI_c1, isi_bb, isi_ib, isi_ii, eq_bl, ne_bl, eq_nilI, eq_nilS, ne_nilS, List.length_map, in_c, nin_c, is_nn, is_in, is_sn, is_ln, is_tn, oko_isnt, tru_b, tru_n, tru_i, tru_s, tru_l, tru_t, tru_r, len_l, len_t, len_s, len_r, ix_l, ix_t, ix_s, ix_r, int_i, list_l, list_t, sl_l, sl_s, slL_l, repl_s, rng_1, rng_2, List.getElem?_cons_succ, List.getElem?_cons_zero, List.set_cons_succ, List.set_cons_zero, true_and, and_true, Bool.false_eq_true, if_true, if_false, ite_true, ite_false, reduceIte, Bool.not_true, Bool.not_false, Bool.and_true, Bool.true_and, Bool.and_false, Bool.false_and, decide_eq_true_eq, decide_true, decide_false, Bool.and_eq_true, startD, List.map_cons, List.map_nil, List.length_cons, List.length_nil, List.cons_append, List.nil_append, List.zip_cons_cons, List.zip_nil_left, List.zip_nil_right, List.foldl_cons, List.foldl_nil]
          refine oko_ixm (by omega) (by omega) fun x _ => ?_
          unfold encR
          try simp (config := {decide := true}) only [fw_seq, fw_nil, fw_set, fw_ret, fw_retN, fw_if, fw_expr, fw_app, fw_aug, fw_put, fw_augIx, fw_asg, fw_par, fw_nx, fw_bk, fw_ct, ok_var, okv_some, okl_lst, okt_tup, oks_str, oki_int, okb_bl, ok_K, ok_bin, ok_un, ok_cmp, ok_val, ok_tru, ok_and, ok_or, ok_not, ok_eAnd, ok_eOr, ok_eNot, ok_if, ok_nil, ok_cons, ok_lst, ok_tup, ok_call, ok_fn, ok_chain, oko_cB, ok_eChain, ok_pNone, ok_pSome, ok_sl, ok_iLst, ok_iTupl, ok_iRng, ok_iStr, ok_yes, oko_some, ok_ok, oko_gN, oko_gT, oko_gNil, oko_gCons, add_ii, add_ss, add_ll, cat_ll, sub_ii, mul_cl, mul_cr, div_ii, mod_ii, pow_ii, iadd_ii, iadd_ss, neg_i, cmp_ii, cmp_ss, in_strs, nin_strs, in_ints, eq_strs, ne_strs, eq_str, ne_str, eq_int, ne_int, sorted_ints, sorted_strs, cutG_map, wipeD_nil, wipeD_cons, atI_two0, atI_two1, atI_c0, atI_c1, isi_bb, isi_ib, isi_ii, eq_bl, ne_bl, eq_nilI, eq_nilS, ne_nilS, List.length_map, in_c, nin_c, is_nn, is_in, is_sn, is_ln, is_tn, oko_isnt, tru_b, tru_n, tru_i, tru_s, tru_l, tru_t, tru_r, len_l, len_t, len_s, len_r, ix_l, ix_t, ix_s, ix_r, int_i, list_l, list_t, sl_l, sl_s, slL_l, repl_s, rng_1, rng_2, List.getElem?_cons_succ, List.getElem?_cons_zero, List.set_cons_succ, List.set_cons_zero, true_and, and_true, Bool.false_eq_true, if_true, if_false, ite_true, ite_false, reduceIte, Bool.not_true, Bool.not_false, Bool.and_true, Bool.true_and, Bool.and_false, Bool.false_and, decide_eq_true_eq, decide_true, decide_false, Bool.and_eq_true, startD, List.map_cons, List.map_nil, List.length_cons, List.length_nil, List.cons_append, List.nil_append, List.zip_cons_cons, List.zip_nil_left, List.zip_nil_right, List.foldl_cons, List.foldl_nil]
          refine ⟨by omega, ?_⟩
          have hr0 : 0 ≤ x % (r.length : Int) := Int.emod_nonneg _ (by omega)
          have hr1 : x % (r.length : Int) < r.length := Int.emod_lt_of_pos _ (by omega)
          refine oko_ixm hr0 hr1 fun p hp => ?_
          unfold encP
          try simp (config := {decide := true}) only [fw_seq, fw_nil, fw_set, fw_ret, fw_retN, fw_if, fw_expr, fw_app, fw_aug, fw_put, fw_augIx, fw_asg, fw_par, fw_nx, fw_bk, fw_ct, ok_var, okv_some, okl_lst, okt_tup, oks_str, oki_int, okb_bl, ok_K, ok_bin, ok_un, ok_cmp, ok_val, ok_tru, ok_and, ok_or, ok_not, ok_eAnd, ok_eOr, ok_eNot, ok_if, ok_nil, ok_cons, ok_lst, ok_tup, ok_call, ok_fn, ok_chain, oko_cB, ok_eChain, ok_pNone, ok_pSome, ok_sl, ok_iLst, ok_iTupl, ok_iRng, ok_iStr, ok_yes, oko_some, ok_ok, oko_gN, oko_gT, oko_gNil, oko_gCons, add_ii, add_ss, add_ll, cat_ll, sub_ii, mul_cl, mul_cr, div_ii, mod_ii, pow_ii, iadd_ii, iadd_ss, neg_i, cmp_ii, cmp_ss, in_strs, nin_strs, in_ints, eq_strs, ne_strs, eq_str, ne_str, eq_int, ne_int, sorted_ints, sorted_strs, cutG_map, wipeD_nil, wipeD_cons, atI_two0, atI_two1, atI_c0, atI_c1, isi_bb, isi_ib, isi_ii, eq_bl, ne_bl, eq_nilI, eq_nilS, ne_nilS, List.length_map, in_c, nin_c, is_nn, is_in, is_sn, is_ln, is_tn, oko_isnt, tru_b, tru_n, tru_i, tru_s, tru_l, tru_t, tru_r, len_l, len_t, len_s, len_r, ix_l, ix_t, ix_s, ix_r, int_i, list_l, list_t, sl_l, sl_s, slL_l, repl_s, rng_1, rng_2, List.getElem?_cons_succ, List.getElem?_cons_zero, List.set_cons_succ, List.set_cons_zero, true_and, and_true, Bool.false_eq_true, if_true, if_false, ite_true, ite_false, reduceIte, Bool.not_true, Bool.not_false, Bool.and_true, Bool.true_and, Bool.and_false, Bool.false_and, decide_eq_true_eq, decide_true, decide_false, Bool.and_eq_true, startD, List.map_cons, List.map_nil, List.length_cons, List.length_nil, List.cons_append, List.nil_append, List.zip_cons_cons, List.zip_nil_left, List.zip_nil_right, List.foldl_cons, List.foldl_nil]
          exact ⟨p.2, hR p hp, rfl⟩
        · try simp (config := {decide := true}) only [fw_seq, fw_nil, fw_set, fw_ret, fw_retN, fw_if, fw_expr, fw_app, fw_aug, fw_put, fw_augIx, fw_asg, fw_par, fw_nx, fw_bk, fw_ct, ok_var, okv_some, okl_lst, okt_tup, oks_str, oki_int, okb_bl, ok_K, ok_bin, ok_un, ok_cmp, ok_val, ok_tru, ok_and, ok_or, ok_not, ok_eAnd, ok_eOr, ok_eNot, ok_if, ok_nil, ok_cons, ok_lst, ok_tup, ok_call, ok_fn, ok_chain, oko_cB, ok_eChain, ok_pNone, ok_pSome, ok_sl, ok_iLst, ok_iTupl, ok_iRng, ok_iStr, ok_yes, oko_some, ok_ok, oko_gN, oko_gT, oko_gNil, oko_gCons, add_ii, add_ss, add_ll, cat_ll, sub_ii, mul_cl, mul_cr, div_ii, mod_ii, pow_ii, iadd_ii, iadd_ss, neg_i, cmp_ii, cmp_ss, in_strs, nin_strs, in_ints, eq_strs, ne_strs, eq_str, ne_str, eq_int, ne_int, sorted_ints, sorted_strs, cutG_map, wipeD_nil, wipeD_cons, atI_two0, atI_two1, atI_c0, atI_c1, isi_bb, isi_ib, isi_ii, eq_bl, ne_bl, eq_nilI, eq_nilS, ne_nilS, List.length_map, in_c, nin_c, is_nn, is_in, is_sn, is_ln, is_tn, oko_isnt, tru_b, tru_n, tru_i, tru_s, tru_l, tru_t, tru_r, len_l, len_t, len_s, len_r, ix_l, ix_t, ix_s, ix_r, int_i, list_l, list_t, sl_l, sl_s, slL_l, repl_s, rng_1, rng_2, List.getElem?_cons_succ, List.getElem?_cons_zero, List.set_cons_succ, List.set_cons_zero, true_and, and_true, Bool.false_eq_true, if_true, if_false, ite_true, ite_false, reduceIte, Bool.not_true, Bool.not_false, Bool.and_true, Bool.true_and, Bool.and_false, Bool.false_and, decide_eq_true_eq, decide_true, decide_false, Bool.and_eq_true, startD, List.map_cons, List.map_nil, List.length_cons, List.length_nil, List.cons_append, List.nil_append, List.zip_cons_cons, List.zip_nil_left, List.zip_nil_right, List.foldl_cons, List.foldl_nil]
          exact ⟨ss, ⟨hrl, hss⟩, rfl⟩
      · try simp (config := {decide := true}) only [fw_seq, fw_nil, fw_set, fw_ret, fw_retN, fw_if, fw_expr, fw_app, fw_aug, fw_put, fw_augIx, fw_asg, fw_par, fw_nx, fw_bk, fw_ct, ok_var, okv_some, okl_lst, okt_tup, oks_str, oki_int, okb_bl, ok_K, ok_bin, ok_un, ok_cmp, ok_val, ok_tru, ok_and, ok_or, ok_not, ok_eAnd, ok_eOr, ok_eNot, ok_if, ok_nil, ok_cons, ok_lst, ok_tup, ok_call, ok_fn, ok_chain, oko_cB, ok_eChain, ok_pNone, ok_pSome, ok_sl, ok_iLst, ok_iTupl, ok_iRng, ok_iStr, ok_yes, oko_some, ok_ok, oko_gN, oko_gT, oko_gNil, oko_gCons, add_ii, add_ss, add_ll, cat_ll, sub_ii, mul_cl, mul_cr, div_ii, mod_ii, pow_ii, iadd_ii, iadd_ss, neg_i, cmp_ii, cmp_ss, in_strs, nin_strs, in_ints, eq_strs, ne_strs, eq_str, ne_str, eq_int, ne_int, sorted_ints, sorted_strs, cutG_map, wipeD_nil, wipeD_cons, atI_two0, atI_two1, atI_c0, atI_c1, isi_bb, isi_ib, isi_ii, eq_bl, ne_bl, eq_nilI, eq_nilS, ne_nilS, List.length_map, in_c, nin_c, is_nn, is_in, is_sn, is_ln, is_tn, oko_isnt, tru_b, tru_n, tru_i, tru_s, tru_l, tru_t, tru_r, len_l, len_t, len_s, len_r, ix_l, ix_t, ix_s, ix_r, int_i, list_l, list_t, sl_l, sl_s, slL_l, repl_s, rng_1, rng_2, List.getElem?_cons_succ, List.getElem?_cons_zero, List.set_cons_succ, List.set_cons_zero, true_and, and_true, Bool.false_eq_true, if_true, if_false, ite_true, ite_false, reduceIte, Bool.not_true, Bool.not_false, Bool.and_true, Bool.true_and, Bool.and_false, Bool.false_and, decide_eq_true_eq, decide_true, decide_false, Bool.and_eq_true, startD, List.map_cons, List.map_nil, List.length_cons, List.length_nil, List.cons_append, List.nil_append, List.zip_cons_cons, List.zip_nil_left, List.zip_nil_right, List.foldl_cons, List.foldl_nil]
        exact ⟨ss, ⟨hrl, hss⟩, rfl⟩
    rintro _ ⟨ss, ⟨hrl, hss⟩, rfl⟩
    rw [fw_seq]
    try simp (config := {decide := true}) only [fw_nil, fw_set, fw_ret, fw_retN, fw_if, fw_expr, fw_app, fw_aug, fw_put, fw_augIx, fw_asg, fw_par, fw_nx, fw_bk, fw_ct, ok_var, okv_some, okl_lst, okt_tup, oks_str, oki_int, okb_bl, ok_K, ok_bin, ok_un, ok_cmp, ok_val, ok_tru, ok_and, ok_or, ok_not, ok_eAnd, ok_eOr, ok_eNot, ok_if, ok_nil, ok_cons, ok_lst, ok_tup, ok_call, ok_fn, ok_chain, oko_cB, ok_eChain, ok_pNone, ok_pSome, ok_sl, ok_iLst, ok_iTupl, ok_iRng, ok_iStr, ok_yes, oko_some, ok_ok, oko_gN, oko_gT, oko_gNil, oko_gCons, add_ii, add_ss, add_ll, cat_ll, sub_ii, mul_cl, mul_cr, div_ii, mod_ii, pow_ii, iadd_ii, iadd_ss, neg_i, cmp_ii, cmp_ss, in_strs, nin_strs, in_ints, eq_strs, ne_strs, eq_str, ne_str, eq_int, ne_int, sorted_ints, sorted_strs, cutG_map, wipeD_nil, wipeD_cons, atI_two0, atI_two1, atI_c0, atI_c1, isi_bb, isi_ib, isi_ii, eq_bl, ne_bl, eq_nilI, eq_nilS, ne_nilS, List.length_map, in_c, nin_c, is_nn, is_in, is_sn, is_ln, is_tn, oko_isnt, tru_b, tru_n, tru_i, tru_s, tru_l, tru_t, tru_r, len_l, len_t, len_s, len_r, ix_l, ix_t, ix_s, ix_r, int_i, list_l, list_t, sl_l, sl_s, slL_l, repl_s, rng_1, rng_2, List.getElem?_cons_succ, List.getElem?_cons_zero, List.set_cons_succ, List.set_cons_zero, true_and, and_true, Bool.false_eq_true, if_true, if_false, ite_true, ite_false, reduceIte, Bool.not_true, Bool.not_false, Bool.and_true, Bool.true_and, Bool.and_false, Bool.false_and, decide_eq_true_eq, decide_true, decide_false, Bool.and_eq_true, startD, List.map_cons, List.map_nil, List.length_cons, List.length_nil, List.cons_append, List.nil_append, List.zip_cons_cons, List.zip_nil_left, List.zip_nil_right, List.foldl_cons, List.foldl_nil, ok_lc]
    refine ⟨(rng_ok (n := fs.length) (by omega)).1, ?_⟩
    refine lc_rel (fun _ d => ∃ s, d = .str s ∧ s.length ≤ 13) _ (fun d hd => ?_) fun rs hrl2 hrs => ?_
    · obtain ⟨i, hi, rfl⟩ := mem_range hd
      rw [Int.toNat_natCast] at hi
      try simp (config := {decide := true}) only [fw_seq, fw_nil, fw_set, fw_ret, fw_retN, fw_if, fw_expr, fw_app, fw_aug, fw_put, fw_augIx, fw_asg, fw_par, fw_nx, fw_bk, fw_ct, ok_var, okv_some, okl_lst, okt_tup, oks_str, oki_int, okb_bl, ok_K, ok_bin, ok_un, ok_cmp, ok_val, ok_tru, ok_and, ok_or, ok_not, ok_eAnd, ok_eOr, ok_eNot, ok_if, ok_nil, ok_cons, ok_lst, ok_tup, ok_call, ok_fn, ok_chain, oko_cB, ok_eChain, ok_pNone, ok_pSome, ok_sl, ok_iLst, ok_iTupl, ok_iRng, ok_iStr, ok_yes, oko_some, ok_ok, oko_gN, oko_gT, oko_gNil, oko_gCons, add_ii, add_ss, add_ll, cat_ll, sub_ii, mul_cl, mul_cr, div_ii, mod_ii, pow_ii, iadd_ii, iadd_ss, neg_i, cmp_ii, cmp_ss, in_strs, nin_strs, in_ints, eq_strs, ne_strs, eq_str, ne_str, eq_int, ne_int, sorted_ints, sorted_strs, cutG_map, wipeD_nil, wipeD_cons, atI_two0, atI_two1, atI_c0, atI_c1, isi_bb, isi_ib, isi_ii, eq_bl, ne_bl, eq_nilI, eq_nilS, ne_nilS, List.length_map, in_c, nin_c, is_nn, is_in, is_sn, is_ln, is_tn, oko_isnt, tru_b, tru_n, tru_i, tru_s, tru_l, tru_t, tru_r, len_l, len_t, len_s, len_r, ix_l, ix_t, ix_s, ix_r, int_i, list_l, list_t, sl_l, sl_s, slL_l, repl_s, rng_1, rng_2, List.getElem?_cons_succ, List.getElem?_cons_zero, List.set_cons_succ, List.set_cons_zero, true_and, and_true, Bool.false_eq_true, if_true, if_false, ite_true, ite_false, reduceIte, Bool.not_true, Bool.not_false, Bool.and_true, Bool.true_and, Bool.and_false, Bool.false_and, decide_eq_true_eq, decide_true, decide_false, Bool.and_eq_true, startD, List.map_cons, List.map_nil, List.length_cons, List.length_nil, List.cons_append, List.nil_append, List.zip_cons_cons, List.zip_nil_left, List.zip_nil_right, List.foldl_cons, List.foldl_nil]
      refine oko_ixm (by omega) (by omega) fun xi _ => ?_
      try simp (config := {decide := true}) only [fw_seq, fw_nil, fw_set, fw_ret, fw_retN, fw_if, fw_expr, fw_app, fw_aug, fw_put, fw_augIx, fw_asg, fw_par, fw_nx, fw_bk, fw_ct, ok_var, okv_some, okl_lst, okt_tup, oks_str, oki_int, okb_bl, ok_K, ok_bin, ok_un, ok_cmp, ok_val, ok_tru, ok_and, ok_or, ok_not, ok_eAnd, ok_eOr, ok_eNot, ok_if, ok_nil, ok_cons, ok_lst, ok_tup, ok_call, ok_fn, ok_chain, oko_cB, ok_eChain, ok_pNone, ok_pSome, ok_sl, ok_iLst, ok_iTupl, ok_iRng, ok_iStr, ok_yes, oko_some, ok_ok, oko_gN, oko_gT, oko_gNil, oko_gCons, add_ii, add_ss, add_ll, cat_ll, sub_ii, mul_cl, mul_cr, div_ii, mod_ii, pow_ii, iadd_ii, iadd_ss, neg_i, cmp_ii, cmp_ss, in_strs, nin_strs, in_ints, eq_strs, ne_strs, eq_str, ne_str, eq_int, ne_int, sorted_ints, sorted_strs, cutG_map, wipeD_nil, wipeD_cons, atI_two0, atI_two1, atI_c0, atI_c1, isi_bb, isi_ib, isi_ii, eq_bl, ne_bl, eq_nilI, eq_nilS, ne_nilS, List.length_map, in_c, nin_c, is_nn, is_in, is_sn, is_ln, is_tn, oko_isnt, tru_b, tru_n, tru_i, tru_s, tru_l, tru_t, tru_r, len_l, len_t, len_s, len_r, ix_l, ix_t, ix_s, ix_r, int_i, list_l, list_t, sl_l, sl_s, slL_l, repl_s, rng_1, rng_2, List.getElem?_cons_succ, List.getElem?_cons_zero, List.set_cons_succ, List.set_cons_zero, true_and, and_true, Bool.false_eq_true, if_true, if_false, ite_true, ite_false, reduceIte, Bool.not_true, Bool.not_false, Bool.and_true, Bool.true_and, Bool.and_false, Bool.false_and, decide_eq_true_eq, decide_true, decide_false, Bool.and_eq_true, startD, List.map_cons, List.map_nil, List.length_cons, List.length_nil, List.cons_append, List.nil_append, List.zip_cons_cons, List.zip_nil_left, List.zip_nil_right, List.foldl_cons, List.foldl_nil]
      refine ⟨by omega, fun _ => ?_⟩
      refine oko_ixm (by omega) (by omega) fun f hf => ?_
      exact ⟨_, rfl, hss f hf⟩
    rw [rangeD_len, Int.toNat_natCast] at hrl2
    obtain ⟨ps, rfl, hps⟩ := unmap (f := D.str) (P := fun s => s.length ≤ 13) fun d hd => by
      obtain ⟨_, _, s, e, hs⟩ := hrs d hd
      exact ⟨s, e, hs⟩
    rw [List.length_map] at hrl2
    try simp (config := {decide := true}) only [fw_nil, fw_set, fw_ret, fw_retN, fw_if, fw_expr, fw_app, fw_aug, fw_put, fw_augIx, fw_asg, fw_par, fw_nx, fw_bk, fw_ct, ok_var, okv_some, okl_lst, okt_tup, oks_str, oki_int, okb_bl, ok_K, ok_bin, ok_un, ok_cmp, ok_val, ok_tru, ok_and, ok_or, ok_not, ok_eAnd, ok_eOr, ok_eNot, ok_if, ok_nil, ok_cons, ok_lst, ok_tup, ok_call, ok_fn, ok_chain, oko_cB, ok_eChain, ok_pNone, ok_pSome, ok_sl, ok_iLst, ok_iTupl, ok_iRng, ok_iStr, ok_yes, oko_some, ok_ok, oko_gN, oko_gT, oko_gNil, oko_gCons, add_ii, add_ss, add_ll, cat_ll, sub_ii, mul_cl, mul_cr, div_ii, mod_ii, pow_ii, iadd_ii, iadd_ss, neg_i, cmp_ii, cmp_ss, in_strs, nin_strs, in_ints, eq_strs, ne_strs, eq_str, ne_str, eq_int, ne_int, sorted_ints, sorted_strs, cutG_map, wipeD_nil, wipeD_cons, atI_two0, atI_two1, atI_c0, atI_c1, isi_bb, isi_ib, isi_ii, eq_bl, ne_bl, eq_nilI, eq_nilS, ne_nilS, List.length_map, in_c, nin_c, is_nn, is_in, is_sn, is_ln, is_tn, oko_isnt, tru_b, tru_n, tru_i, tru_s, tru_l, tru_t, tru_r, len_l, len_t, len_s, len_r, ix_l, ix_t, ix_s, ix_r, int_i, list_l, list_t, sl_l, sl_s, slL_l, repl_s, rng_1, rng_2, List.getElem?_cons_succ, List.getElem?_cons_zero, List.set_cons_succ, List.set_cons_zero, true_and, and_true, Bool.false_eq_true, if_true, if_false, ite_true, ite_false, reduceIte, Bool.not_true, Bool.not_false, Bool.and_true, Bool.true_and, Bool.and_false, Bool.false_and, decide_eq_true_eq, decide_true, decide_false, Bool.and_eq_true, startD, List.map_cons, List.map_nil, List.length_cons, List.length_nil, List.cons_append, List.nil_append, List.zip_cons_cons, List.zip_nil_left, List.zip_nil_right, List.foldl_cons, List.foldl_nil, cutG_to4]
    refine ⟨by rw [sizeLine_eq]; omega, ?_⟩
    obtain ⟨pt, hpt, hp4, hpl⟩ : ∃ pt : List (List Nat), (ps.map D.str).take 4 = pt.map .str ∧ pt.length ≤ 4 ∧ ∀ s ∈ pt, s.length ≤ 13 :=
      ⟨ps.take 4, by rw [List.map_take], by rw [List.length_take]; omega, fun s hs => hps s (List.mem_of_mem_take hs)⟩
    rw [hpt]
    refine fw_cut (fun ρ' => ρ' = [some (encR r), some (.lst (fs.map .str)), some (.lst (xs.map .int)), some (.lst ((ls ++ [pt]).map encL)), some (.int j), some (.lst (ss.map .str)), some (.lst (pt.map .str)), u7, u8]) ?_ ?_
    · try simp (config := {decide := true}) only [fw_seq, fw_nil, fw_set, fw_ret, fw_retN, fw_if, fw_expr, fw_app, fw_aug, fw_put, fw_augIx, fw_asg, fw_par, fw_nx, fw_bk, fw_ct, ok_var, okv_some, okl_lst, okt_tup, oks_str, oki_int, okb_bl, ok_K, ok_bin, ok_un, ok_cmp, ok_val, ok_tru, ok_and, ok_or, ok_not, ok_eAnd, ok_eOr, ok_eNot, ok_if, ok_nil, ok_cons, ok_lst, ok_tup, ok_call, ok_fn, ok_chain, oko_cB, ok_eChain, ok_pNone, ok_pSome, ok_sl, ok_iLst, ok_iTupl, ok_iRng, ok_iStr, ok_yes, oko_some, ok_ok, oko_gN, oko_gT, oko_gNil, oko_gCons, add_ii, add_ss, add_ll, cat_ll, sub_ii, mul_cl, mul_cr, div_ii, mod_ii, pow_ii, iadd_ii, iadd_ss, neg_i, cmp_ii, cmp_ss, in_strs, nin_strs, in_ints, eq_strs, ne_strs, eq_str, ne_str, eq_int, ne_int, sorted_ints, sorted_strs, cutG_map, wipeD_nil, wipeD_cons, atI_two0, atI_two1, atI_c0, atI_c1, isi_bb, isi_ib, isi_ii, eq_bl, ne_bl, eq_nilI, eq_nilS, ne_nilS, List.length_map, in_c, nin_c, is_nn, is_in, is_sn, is_ln, is_tn, oko_isnt, tru_b, tru_n, tru_i, tru_s, tru_l, tru_t, tru_r, len_l, len_t, len_s, len_r, ix_l, ix_t, ix_s, ix_r, int_i, list_l, list_t, sl_l, sl_s, slL_l, repl_s, rng_1, rng_2, List.getElem?_cons_succ, List.getElem?_cons_zero, List.set_cons_succ, List.set_cons_zero, true_and, and_true, Bool.false_eq_true, if_true, if_false, ite_true, ite_false, reduceIte, Bool.not_true, Bool.not_false, Bool.and_true, Bool.true_and, Bool.and_false, Bool.false_and, decide_eq_true_eq, decide_true, decide_false, Bool.and_eq_true, startD, List.map_cons, List.map_nil, List.length_cons, List.length_nil, List.cons_append, List.nil_append, List.zip_cons_cons, List.zip_nil_left, List.zip_nil_right, List.foldl_cons, List.foldl_nil, sizeLine_eq]
      exact ⟨by omega, by rw [List.map_append]; rfl⟩
    rintro _ rfl
    have hl2 : ∀ l ∈ ls ++ [pt], l.length ≤ 4 ∧ ∀ s ∈ l, s.length ≤ 14 := fun l h => by
      rcases List.mem_append.mp h with h | h
      · exact hl l h
      · rw [List.mem_singleton.mp h]; exact ⟨hp4, fun s hs => Nat.le_succ_of_le (hpl s hs)⟩
    have ll2 : (ls ++ [pt]).length ≤ 2 + 2 * j := by rw [List.length_append]; simp; omega
    try simp (config := {decide := true}) only [fw_seq, fw_nil, fw_set, fw_ret, fw_retN, fw_if, fw_expr, fw_app, fw_aug, fw_put, fw_augIx, fw_asg, fw_par, fw_nx, fw_bk, fw_ct, ok_var, okv_some, okl_lst, okt_tup, oks_str, oki_int, okb_bl, ok_K, ok_bin, ok_un, ok_cmp, ok_val, ok_tru, ok_and, ok_or, ok_not, ok_eAnd, ok_eOr, ok_eNot, ok_if, ok_nil, ok_cons, ok_lst, ok_tup, ok_call, ok_fn, ok_chain, oko_cB, ok_eChain, ok_pNone, ok_pSome, ok_sl, ok_iLst, ok_iTupl, ok_iRng, ok_iStr, ok_yes, oko_some, ok_ok, oko_gN, oko_gT, oko_gNil, oko_gCons, add_ii, add_ss, add_ll, cat_ll, sub_ii, mul_cl, mul_cr, div_ii, mod_ii, pow_ii, iadd_ii, iadd_ss, neg_i, cmp_ii, cmp_ss, in_strs, nin_strs, in_ints, eq_strs, ne_strs, eq_str, ne_str, eq_int, ne_int, sorted_ints, sorted_strs, cutG_map, wipeD_nil, wipeD_cons, atI_two0, atI_two1, atI_c0, atI_c1, isi_bb, isi_ib, isi_ii, eq_bl, ne_bl, eq_nilI, eq_nilS, ne_nilS, List.length_map, in_c, nin_c, is_nn, is_in, is_sn, is_ln, is_tn, oko_isnt, tru_b, tru_n, tru_i, tru_s, tru_l, tru_t, tru_r, len_l, len_t, len_s, len_r, ix_l, ix_t, ix_s, ix_r, int_i, list_l, list_t, sl_l, sl_s, slL_l, repl_s, rng_1, rng_2, List.getElem?_cons_succ, List.getElem?_cons_zero, List.set_cons_succ, List.set_cons_zero, true_and, and_true, Bool.false_eq_true, if_true, if_false, ite_true, ite_false, reduceIte, Bool.not_true, Bool.not_false, Bool.and_true, Bool.true_and, Bool.and_false, Bool.false_and, decide_eq_true_eq, decide_true, decide_false, Bool.and_eq_true, startD, List.map_cons, List.map_nil, List.length_cons, List.length_nil, List.cons_append, List.nil_append, List.zip_cons_cons, List.zip_nil_left, List.zip_nil_right, List.foldl_cons, List.foldl_nil]
    split
    · rename_i hne
      split
      · cases pt with
        | nil => simp at hne
        | cons f pt =>
          have hf := hpl f List.mem_cons_self
          have hrl4 : (StrLaws.replL [33] [] f).length ≤ f.length := repl_len f 0
          have fin : ∀ q : List Nat, q.length ≤ 14 → (∀ l ∈ (ls ++ [f :: pt]) ++ [q :: pt], l.length ≤ 4 ∧ ∀ s ∈ l, s.length ≤ 14) ∧ ((ls ++ [f :: pt]) ++ [q :: pt]).length ≤ 1 + 2 * (j + 1) := fun q hq => by
            refine ⟨fun l h => ?_, by rw [List.length_append]; simp; simp at ll2; omega⟩
            rcases List.mem_append.mp h with h | h
            · exact hl2 l h
            · rw [List.mem_singleton.mp h]
              refine ⟨hp4, fun s hs => ?_⟩
              rcases List.mem_cons.mp hs with e | hs
              · rw [e]; exact hq
              · exact Nat.le_succ_of_le (hpl s (List.mem_cons_of_mem _ hs))
          have hp4' : pt.length ≤ 3 := by simp at hp4; omega
          try simp (config := {decide := true}) only [fw_seq, fw_nil, fw_set, fw_ret, fw_retN, fw_if, fw_expr, fw_app, fw_aug, fw_put, fw_augIx, fw_asg, fw_par, fw_nx, fw_bk, fw_ct, ok_var, okv_some, okl_lst, okt_tup, oks_str, oki_int, okb_bl, ok_K, ok_bin, ok_un, ok_cmp, ok_val, ok_tru, ok_and, ok_or, ok_not, ok_eAnd, ok_eOr, ok_eNot, ok_if, ok_nil, ok_cons, ok_lst, ok_tup, ok_call, ok_fn, ok_chain, oko_cB, ok_eChain, ok_pNone, ok_pSome, ok_sl, ok_iLst, ok_iTupl, ok_iRng, ok_iStr, ok_yes, oko_some, ok_ok, oko_gN, oko_gT, oko_gNil, oko_gCons, add_ii, add_ss, add_ll, cat_ll, sub_ii, mul_cl, mul_cr, div_ii, mod_ii, pow_ii, iadd_ii, iadd_ss, neg_i, cmp_ii, cmp_ss, in_strs, nin_strs, in_ints, eq_strs, ne_strs, eq_str, ne_str, eq_int, ne_int, sorted_ints, sorted_strs, cutG_map, wipeD_nil, wipeD_cons, atI_two0, atI_two1, atI_c0, atI_c1, isi_bb, isi_ib, isi_ii, eq_bl, ne_bl, eq_nilI, eq_nilS, ne_nilS, List.length_map, in_c, nin_c, is_nn, is_in, is_sn, is_ln, is_tn, oko_isnt, tru_b, tru_n, tru_i, tru_s, tru_l, tru_t, tru_r, len_l, len_t, len_s, len_r, ix_l, ix_t, ix_s, ix_r, int_i, list_l, list_t, sl_l, sl_s, slL_l, repl_s, rng_1, rng_2, List.getElem?_cons_succ, List.getElem?_cons_zero, List.set_cons_succ, List.set_cons_zero, true_and, and_true, Bool.false_eq_true, if_true, if_false, ite_true, ite_false, reduceIte, Bool.not_true, Bool.not_false, Bool.and_true, Bool.true_and, Bool.and_false, Bool.false_and, decide_eq_true_eq, decide_true, decide_false, Bool.and_eq_true, startD, List.map_cons, List.map_nil, List.length_cons, List.length_nil, List.cons_append, List.nil_append, List.zip_cons_cons, List.zip_nil_left, List.zip_nil_right, List.foldl_cons, List.foldl_nil, cutG_from1, List.drop_succ_cons, List.drop_zero, sizeLine_eq]
          refine ⟨by omega, ?_⟩
          split
          · obtain ⟨q1, q2⟩ := fin (33 :: StrLaws.replL [33] [] f) (by rw [List.length_cons]; omega)
            exact ⟨by omega, by omega, by omega, _, _, _, _, _, _, by rw [List.map_append (l₁ := ls ++ [f :: pt])]; rfl, q2, q1⟩
          · obtain ⟨q1, q2⟩ := fin (StrLaws.replL [33] [] f) (by omega)
            exact ⟨by omega, by omega, _, _, _, _, _, _, by rw [List.map_append (l₁ := ls ++ [f :: pt])]; rfl, q2, q1⟩
      · exact ⟨_, _, _, _, _, _, rfl, by omega, hl2⟩
    · exact ⟨_, _, _, _, _, _, rfl, by omega, hl2⟩
  · rintro _ ⟨ls, u4, u5, u6, u7, u8, rfl, hls, hl⟩
    try simp (config := {decide := true}) only [fw_seq, fw_nil, fw_set, fw_ret, fw_retN, fw_if, fw_expr, fw_app, fw_aug, fw_put, fw_augIx, fw_asg, fw_par, fw_nx, fw_bk, fw_ct, ok_var, okv_some, okl_lst, okt_tup, oks_str, oki_int, okb_bl, ok_K, ok_bin, ok_un, ok_cmp, ok_val, ok_tru, ok_and, ok_or, ok_not, ok_eAnd, ok_eOr, ok_eNot, ok_if, ok_nil, ok_cons, ok_lst, ok_tup, ok_call, ok_fn, ok_chain, oko_cB, ok_eChain, ok_pNone, ok_pSome, ok_sl, ok_iLst, ok_iTupl, ok_iRng, ok_iStr, ok_yes, oko_some, ok_ok, oko_gN, oko_gT, oko_gNil, oko_gCons, add_ii, add_ss, add_ll, cat_ll, sub_ii, mul_cl, mul_cr, div_ii, mod_ii, pow_ii, iadd_ii, iadd_ss, neg_i, cmp_ii, cmp_ss, in_strs, nin_strs, in_ints, eq_strs, ne_strs, eq_str, ne_str, eq_int, ne_int, sorted_ints, sorted_strs, cutG_map, wipeD_nil, wipeD_cons, atI_two0, atI_two1, atI_c0, atI_c1, isi_bb, isi_ib, isi_ii, eq_bl, ne_bl, eq_nilI, eq_nilS, ne_nilS, List.length_map, in_c, nin_c, is_nn, is_in, is_sn, is_ln, is_tn, oko_isnt, tru_b, tru_n, tru_i, tru_s, tru_l, tru_t, tru_r, len_l, len_t, len_s, len_r, ix_l, ix_t, ix_s, ix_r, int_i, list_l, list_t, sl_l, sl_s, slL_l, repl_s, rng_1, rng_2, List.getElem?_cons_succ, List.getElem?_cons_zero, List.set_cons_succ, List.set_cons_zero, true_and, and_true, Bool.false_eq_true, if_true, if_false, ite_true, ite_false, reduceIte, Bool.not_true, Bool.not_false, Bool.and_true, Bool.true_and, Bool.and_false, Bool.false_and, decide_eq_true_eq, decide_true, decide_false, Bool.and_eq_true, startD, List.map_cons, List.map_nil, List.length_cons, List.length_nil, List.cons_append, List.nil_append, List.zip_cons_cons, List.zip_nil_left, List.zip_nil_right, List.foldl_cons, List.foldl_nil]
    exact ⟨ls, rfl, hl⟩
theorem ag_nil {r : List (Int × List (List Nat))} {left : List (List Nat)} {right : List Nat} : (sortI (agL r left right)).isEmpty = true ↔ ∀ p ∈ r, ¬ ((∀ a ∈ left, a ∈ p.2) ∧ right ∉ p.2) := by
  have h1 : (sortI (agL r left right)).isEmpty = (agL r left right).isEmpty := isEmpty_len (sortI_perm _).length_eq
  rw [h1]
  unfold agL
  rw [List.isEmpty_map, List.isEmpty_iff, List.filter_eq_nil_iff]
  constructor
  · intro h p hp ⟨h2, h3⟩
    refine h p hp ?_
    rw [Bool.and_eq_true]
    exact ⟨List.all_eq_true.mpr fun a ha => decide_eq_true (h2 a ha), by simp [h3]⟩
  · intro h p hp h2
    rw [Bool.and_eq_true] at h2
    exact h p hp ⟨fun a ha => of_decide_eq_true (List.all_eq_true.mp h2.1 a ha), by simpa using h2.2⟩
theorem ag_mono {r : List (Int × List (List Nat))} {left more : List (List Nat)} {right : List Nat} (h : ∀ a ∈ left, a ∈ more) (h2 : (sortI (agL r left right)).isEmpty = true) : (sortI (agL r more right)).isEmpty = true := by
  rw [ag_nil] at h2 ⊢
  exact fun p hp ⟨h3, h4⟩ => h2 p hp ⟨fun a ha => h3 a (h a ha), h4⟩
theorem law_true : LawTrue m_law := by
  intro ns hns
  refine ok_eq ?_
  rw [r_law]
  unfold b_law
  rw [fw_seq]
  try simp (config := {decide := true}) only [fw_nil, fw_set, fw_ret, fw_retN, fw_if, fw_expr, fw_app, fw_aug, fw_put, fw_augIx, fw_asg, fw_par, fw_nx, fw_bk, fw_ct, ok_var, okv_some, okl_lst, okt_tup, oks_str, oki_int, okb_bl, ok_K, ok_bin, ok_un, ok_cmp, ok_val, ok_tru, ok_and, ok_or, ok_not, ok_eAnd, ok_eOr, ok_eNot, ok_if, ok_nil, ok_cons, ok_lst, ok_tup, ok_call, ok_fn, ok_chain, oko_cB, ok_eChain, ok_pNone, ok_pSome, ok_sl, ok_iLst, ok_iTupl, ok_iRng, ok_iStr, ok_yes, oko_some, ok_ok, oko_gN, oko_gT, oko_gNil, oko_gCons, add_ii, add_ss, add_ll, cat_ll, sub_ii, mul_cl, mul_cr, div_ii, mod_ii, pow_ii, iadd_ii, iadd_ss, neg_i, cmp_ii, cmp_ss, in_strs, nin_strs, in_ints, eq_strs, ne_strs, eq_str, ne_str, eq_int, ne_int, sorted_ints, sorted_strs, cutG_map, wipeD_nil, wipeD_cons, atI_two0, atI_two1, atI_c0, atI_c1, isi_bb, isi_ib, isi_ii, eq_bl, ne_bl, eq_nilI, eq_nilS, ne_nilS, List.length_map, in_c, nin_c, is_nn, is_in, is_sn, is_ln, is_tn, oko_isnt, tru_b, tru_n, tru_i, tru_s, tru_l, tru_t, tru_r, len_l, len_t, len_s, len_r, ix_l, ix_t, ix_s, ix_r, int_i, list_l, list_t, sl_l, sl_s, slL_l, repl_s, rng_1, rng_2, List.getElem?_cons_succ, List.getElem?_cons_zero, List.set_cons_succ, List.set_cons_zero, true_and, and_true, Bool.false_eq_true, if_true, if_false, ite_true, ite_false, reduceIte, Bool.not_true, Bool.not_false, Bool.and_true, Bool.true_and, Bool.and_false, Bool.false_and, decide_eq_true_eq, decide_true, decide_false, Bool.and_eq_true, startD, List.map_cons, List.map_nil, List.length_cons, List.length_nil, List.cons_append, List.nil_append, List.zip_cons_cons, List.zip_nil_left, List.zip_nil_right, List.foldl_cons, List.foldl_nil]
  refine (numbers_ok ns 0 50 (by decide)).imp ?_
  rintro _ ⟨xs, rfl, hx, hr⟩
  rw [fw_seq]
  try simp (config := {decide := true}) only [fw_nil, fw_set, fw_ret, fw_retN, fw_if, fw_expr, fw_app, fw_aug, fw_put, fw_augIx, fw_asg, fw_par, fw_nx, fw_bk, fw_ct, ok_var, okv_some, okl_lst, okt_tup, oks_str, oki_int, okb_bl, ok_K, ok_bin, ok_un, ok_cmp, ok_val, ok_tru, ok_and, ok_or, ok_not, ok_eAnd, ok_eOr, ok_eNot, ok_if, ok_nil, ok_cons, ok_lst, ok_tup, ok_call, ok_fn, ok_chain, oko_cB, ok_eChain, ok_pNone, ok_pSome, ok_sl, ok_iLst, ok_iTupl, ok_iRng, ok_iStr, ok_yes, oko_some, ok_ok, oko_gN, oko_gT, oko_gNil, oko_gCons, add_ii, add_ss, add_ll, cat_ll, sub_ii, mul_cl, mul_cr, div_ii, mod_ii, pow_ii, iadd_ii, iadd_ss, neg_i, cmp_ii, cmp_ss, in_strs, nin_strs, in_ints, eq_strs, ne_strs, eq_str, ne_str, eq_int, ne_int, sorted_ints, sorted_strs, cutG_map, wipeD_nil, wipeD_cons, atI_two0, atI_two1, atI_c0, atI_c1, isi_bb, isi_ib, isi_ii, eq_bl, ne_bl, eq_nilI, eq_nilS, ne_nilS, List.length_map, in_c, nin_c, is_nn, is_in, is_sn, is_ln, is_tn, oko_isnt, tru_b, tru_n, tru_i, tru_s, tru_l, tru_t, tru_r, len_l, len_t, len_s, len_r, ix_l, ix_t, ix_s, ix_r, int_i, list_l, list_t, sl_l, sl_s, slL_l, repl_s, rng_1, rng_2, List.getElem?_cons_succ, List.getElem?_cons_zero, List.set_cons_succ, List.set_cons_zero, true_and, and_true, Bool.false_eq_true, if_true, if_false, ite_true, ite_false, reduceIte, Bool.not_true, Bool.not_false, Bool.and_true, Bool.true_and, Bool.and_false, Bool.false_and, decide_eq_true_eq, decide_true, decide_false, Bool.and_eq_true, startD, List.map_cons, List.map_nil, List.length_cons, List.length_nil, List.cons_append, List.nil_append, List.zip_cons_cons, List.zip_nil_left, List.zip_nil_right, List.foldl_cons, List.foldl_nil]
  refine oko_ixm (by omega) (by omega) fun x40 _ => ?_
  try simp (config := {decide := true}) only [fw_nil, fw_set, fw_ret, fw_retN, fw_if, fw_expr, fw_app, fw_aug, fw_put, fw_augIx, fw_asg, fw_par, fw_nx, fw_bk, fw_ct, ok_var, okv_some, okl_lst, okt_tup, oks_str, oki_int, okb_bl, ok_K, ok_bin, ok_un, ok_cmp, ok_val, ok_tru, ok_and, ok_or, ok_not, ok_eAnd, ok_eOr, ok_eNot, ok_if, ok_nil, ok_cons, ok_lst, ok_tup, ok_call, ok_fn, ok_chain, oko_cB, ok_eChain, ok_pNone, ok_pSome, ok_sl, ok_iLst, ok_iTupl, ok_iRng, ok_iStr, ok_yes, oko_some, ok_ok, oko_gN, oko_gT, oko_gNil, oko_gCons, add_ii, add_ss, add_ll, cat_ll, sub_ii, mul_cl, mul_cr, div_ii, mod_ii, pow_ii, iadd_ii, iadd_ss, neg_i, cmp_ii, cmp_ss, in_strs, nin_strs, in_ints, eq_strs, ne_strs, eq_str, ne_str, eq_int, ne_int, sorted_ints, sorted_strs, cutG_map, wipeD_nil, wipeD_cons, atI_two0, atI_two1, atI_c0, atI_c1, isi_bb, isi_ib, isi_ii, eq_bl, ne_bl, eq_nilI, eq_nilS, ne_nilS, List.length_map, in_c, nin_c, is_nn, is_in, is_sn, is_ln, is_tn, oko_isnt, tru_b, tru_n, tru_i, tru_s, tru_l, tru_t, tru_r, len_l, len_t, len_s, len_r, ix_l, ix_t, ix_s, ix_r, int_i, list_l, list_t, sl_l, sl_s, slL_l, repl_s, rng_1, rng_2, List.getElem?_cons_succ, List.getElem?_cons_zero, List.set_cons_succ, List.set_cons_zero, true_and, and_true, Bool.false_eq_true, if_true, if_false, ite_true, ite_false, reduceIte, Bool.not_true, Bool.not_false, Bool.and_true, Bool.true_and, Bool.and_false, Bool.false_and, decide_eq_true_eq, decide_true, decide_false, Bool.and_eq_true, startD, List.map_cons, List.map_nil, List.length_cons, List.length_nil, List.cons_append, List.nil_append, List.zip_cons_cons, List.zip_nil_left, List.zip_nil_right, List.foldl_cons, List.foldl_nil]
  refine fw_cut (fun ρ' => ∃ n : Nat, (1 ≤ n ∧ n ≤ 40) ∧ ρ' = [some (.scr ns), some (.lst (xs.map .int)), some (.int n), none, none, none, none, none, none, none, none, none, none, none, none, none]) ?_ ?_
  · try simp (config := {decide := true}) only [fw_nil, fw_set, fw_ret, fw_retN, fw_if, fw_expr, fw_app, fw_aug, fw_put, fw_augIx, fw_asg, fw_par, fw_nx, fw_bk, fw_ct, ok_var, okv_some, okl_lst, okt_tup, oks_str, oki_int, okb_bl, ok_K, ok_bin, ok_un, ok_cmp, ok_val, ok_tru, ok_and, ok_or, ok_not, ok_eAnd, ok_eOr, ok_eNot, ok_if, ok_nil, ok_cons, ok_lst, ok_tup, ok_call, ok_fn, ok_chain, oko_cB, ok_eChain, ok_pNone, ok_pSome, ok_sl, ok_iLst, ok_iTupl, ok_iRng, ok_iStr, ok_yes, oko_some, ok_ok, oko_gN, oko_gT, oko_gNil, oko_gCons, add_ii, add_ss, add_ll, cat_ll, sub_ii, mul_cl, mul_cr, div_ii, mod_ii, pow_ii, iadd_ii, iadd_ss, neg_i, cmp_ii, cmp_ss, in_strs, nin_strs, in_ints, eq_strs, ne_strs, eq_str, ne_str, eq_int, ne_int, sorted_ints, sorted_strs, cutG_map, wipeD_nil, wipeD_cons, atI_two0, atI_two1, atI_c0, atI_c1, isi_bb, isi_ib, isi_ii, eq_bl, ne_bl, eq_nilI, eq_nilS, ne_nilS, List.length_map, in_c, nin_c, is_nn, is_in, is_sn, is_ln, is_tn, oko_isnt, tru_b, tru_n, tru_i, tru_s, tru_l, tru_t, tru_r, len_l, len_t, len_s, len_r, ix_l, ix_t, ix_s, ix_r, int_i, list_l, list_t, sl_l, sl_s, slL_l, repl_s, rng_1, rng_2, List.getElem?_cons_succ, List.getElem?_cons_zero, List.set_cons_succ, List.set_cons_zero, true_and, and_true, Bool.false_eq_true, if_true, if_false, ite_true, ite_false, reduceIte, Bool.not_true, Bool.not_false, Bool.and_true, Bool.true_and, Bool.and_false, Bool.false_and, decide_eq_true_eq, decide_true, decide_false, Bool.and_eq_true, startD, List.map_cons, List.map_nil, List.length_cons, List.length_nil, List.cons_append, List.nil_append, List.zip_cons_cons, List.zip_nil_left, List.zip_nil_right, List.foldl_cons, List.foldl_nil]
    refine oko_ixm (by omega) (by omega) fun x41 _ => ?_
    try simp (config := {decide := true}) only [fw_nil, fw_set, fw_ret, fw_retN, fw_if, fw_expr, fw_app, fw_aug, fw_put, fw_augIx, fw_asg, fw_par, fw_nx, fw_bk, fw_ct, ok_var, okv_some, okl_lst, okt_tup, oks_str, oki_int, okb_bl, ok_K, ok_bin, ok_un, ok_cmp, ok_val, ok_tru, ok_and, ok_or, ok_not, ok_eAnd, ok_eOr, ok_eNot, ok_if, ok_nil, ok_cons, ok_lst, ok_tup, ok_call, ok_fn, ok_chain, oko_cB, ok_eChain, ok_pNone, ok_pSome, ok_sl, ok_iLst, ok_iTupl, ok_iRng, ok_iStr, ok_yes, oko_some, ok_ok, oko_gN, oko_gT, oko_gNil, oko_gCons, add_ii, add_ss, add_ll, cat_ll, sub_ii, mul_cl, mul_cr, div_ii, mod_ii, pow_ii, iadd_ii, iadd_ss, neg_i, cmp_ii, cmp_ss, in_strs, nin_strs, in_ints, eq_strs, ne_strs, eq_str, ne_str, eq_int, ne_int, sorted_ints, sorted_strs, cutG_map, wipeD_nil, wipeD_cons, atI_two0, atI_two1, atI_c0, atI_c1, isi_bb, isi_ib, isi_ii, eq_bl, ne_bl, eq_nilI, eq_nilS, ne_nilS, List.length_map, in_c, nin_c, is_nn, is_in, is_sn, is_ln, is_tn, oko_isnt, tru_b, tru_n, tru_i, tru_s, tru_l, tru_t, tru_r, len_l, len_t, len_s, len_r, ix_l, ix_t, ix_s, ix_r, int_i, list_l, list_t, sl_l, sl_s, slL_l, repl_s, rng_1, rng_2, List.getElem?_cons_succ, List.getElem?_cons_zero, List.set_cons_succ, List.set_cons_zero, true_and, and_true, Bool.false_eq_true, if_true, if_false, ite_true, ite_false, reduceIte, Bool.not_true, Bool.not_false, Bool.and_true, Bool.true_and, Bool.and_false, Bool.false_and, decide_eq_true_eq, decide_true, decide_false, Bool.and_eq_true, startD, List.map_cons, List.map_nil, List.length_cons, List.length_nil, List.cons_append, List.nil_append, List.zip_cons_cons, List.zip_nil_left, List.zip_nil_right, List.foldl_cons, List.foldl_nil]
    split
    · try simp (config := {decide := true}) only [fw_seq, fw_nil, fw_set, fw_ret, fw_retN, fw_if, fw_expr, fw_app, fw_aug, fw_put, fw_augIx, fw_asg, fw_par, fw_nx, fw_bk, fw_ct, ok_var, okv_some, okl_lst, okt_tup, oks_str, oki_int, okb_bl, ok_K, ok_bin, ok_un, ok_cmp, ok_val, ok_tru, ok_and, ok_or, ok_not, ok_eAnd, ok_eOr, ok_eNot, ok_if, ok_nil, ok_cons, ok_lst, ok_tup, ok_call, ok_fn, ok_chain, oko_cB, ok_eChain, ok_pNone, ok_pSome, ok_sl, ok_iLst, ok_iTupl, ok_iRng, ok_iStr, ok_yes, oko_some, ok_ok, oko_gN, oko_gT, oko_gNil, oko_gCons, add_ii, add_ss, add_ll, cat_ll, sub_ii, mul_cl, mul_cr, div_ii, mod_ii, pow_ii, iadd_ii, iadd_ss, neg_i, cmp_ii, cmp_ss, in_strs, nin_strs, in_ints, eq_strs, ne_strs, eq_str, ne_str, eq_int, ne_int, sorted_ints, sorted_strs, cutG_map, wipeD_nil, wipeD_cons, atI_two0, atI_two1, atI_c0, atI_c1, isi_bb, isi_ib, isi_ii, eq_bl, ne_bl, eq_nilI, eq_nilS, ne_nilS, List.length_map, in_c, nin_c, is_nn, is_in, is_sn, is_ln, is_tn, oko_isnt, tru_b, tru_n, tru_i, tru_s, tru_l, tru_t, tru_r, len_l, len_t, len_s, len_r, ix_l, ix_t, ix_s, ix_r, int_i, list_l, list_t, sl_l, sl_s, slL_l, repl_s, rng_1, rng_2, List.getElem?_cons_succ, List.getElem?_cons_zero, List.set_cons_succ, List.set_cons_zero, true_and, and_true, Bool.false_eq_true, if_true, if_false, ite_true, ite_false, reduceIte, Bool.not_true, Bool.not_false, Bool.and_true, Bool.true_and, Bool.and_false, Bool.false_and, decide_eq_true_eq, decide_true, decide_false, Bool.and_eq_true, startD, List.map_cons, List.map_nil, List.length_cons, List.length_nil, List.cons_append, List.nil_append, List.zip_cons_cons, List.zip_nil_left, List.zip_nil_right, List.foldl_cons, List.foldl_nil]
      exact ⟨40, by decide, rfl⟩
    · try simp (config := {decide := true}) only [fw_seq, fw_nil, fw_set, fw_ret, fw_retN, fw_if, fw_expr, fw_app, fw_aug, fw_put, fw_augIx, fw_asg, fw_par, fw_nx, fw_bk, fw_ct, ok_var, okv_some, okl_lst, okt_tup, oks_str, oki_int, okb_bl, ok_K, ok_bin, ok_un, ok_cmp, ok_val, ok_tru, ok_and, ok_or, ok_not, ok_eAnd, ok_eOr, ok_eNot, ok_if, ok_nil, ok_cons, ok_lst, ok_tup, ok_call, ok_fn, ok_chain, oko_cB, ok_eChain, ok_pNone, ok_pSome, ok_sl, ok_iLst, ok_iTupl, ok_iRng, ok_iStr, ok_yes, oko_some, ok_ok, oko_gN, oko_gT, oko_gNil, oko_gCons, add_ii, add_ss, add_ll, cat_ll, sub_ii, mul_cl, mul_cr, div_ii, mod_ii, pow_ii, iadd_ii, iadd_ss, neg_i, cmp_ii, cmp_ss, in_strs, nin_strs, in_ints, eq_strs, ne_strs, eq_str, ne_str, eq_int, ne_int, sorted_ints, sorted_strs, cutG_map, wipeD_nil, wipeD_cons, atI_two0, atI_two1, atI_c0, atI_c1, isi_bb, isi_ib, isi_ii, eq_bl, ne_bl, eq_nilI, eq_nilS, ne_nilS, List.length_map, in_c, nin_c, is_nn, is_in, is_sn, is_ln, is_tn, oko_isnt, tru_b, tru_n, tru_i, tru_s, tru_l, tru_t, tru_r, len_l, len_t, len_s, len_r, ix_l, ix_t, ix_s, ix_r, int_i, list_l, list_t, sl_l, sl_s, slL_l, repl_s, rng_1, rng_2, List.getElem?_cons_succ, List.getElem?_cons_zero, List.set_cons_succ, List.set_cons_zero, true_and, and_true, Bool.false_eq_true, if_true, if_false, ite_true, ite_false, reduceIte, Bool.not_true, Bool.not_false, Bool.and_true, Bool.true_and, Bool.and_false, Bool.false_and, decide_eq_true_eq, decide_true, decide_false, Bool.and_eq_true, startD, List.map_cons, List.map_nil, List.length_cons, List.length_nil, List.cons_append, List.nil_append, List.zip_cons_cons, List.zip_nil_left, List.zip_nil_right, List.foldl_cons, List.foldl_nil]
      refine ⟨(1 + x40 % 8).toNat, by omega, ?_⟩
      rw [Int.toNat_of_nonneg (by omega)]
  rintro _ ⟨n, ⟨hn1, hn2⟩, rfl⟩
  rw [fw_seq]
  try simp (config := {decide := true}) only [fw_nil, fw_set, fw_ret, fw_retN, fw_if, fw_expr, fw_app, fw_aug, fw_put, fw_augIx, fw_asg, fw_par, fw_nx, fw_bk, fw_ct, ok_var, okv_some, okl_lst, okt_tup, oks_str, oki_int, okb_bl, ok_K, ok_bin, ok_un, ok_cmp, ok_val, ok_tru, ok_and, ok_or, ok_not, ok_eAnd, ok_eOr, ok_eNot, ok_if, ok_nil, ok_cons, ok_lst, ok_tup, ok_call, ok_fn, ok_chain, oko_cB, ok_eChain, ok_pNone, ok_pSome, ok_sl, ok_iLst, ok_iTupl, ok_iRng, ok_iStr, ok_yes, oko_some, ok_ok, oko_gN, oko_gT, oko_gNil, oko_gCons, add_ii, add_ss, add_ll, cat_ll, sub_ii, mul_cl, mul_cr, div_ii, mod_ii, pow_ii, iadd_ii, iadd_ss, neg_i, cmp_ii, cmp_ss, in_strs, nin_strs, in_ints, eq_strs, ne_strs, eq_str, ne_str, eq_int, ne_int, sorted_ints, sorted_strs, cutG_map, wipeD_nil, wipeD_cons, atI_two0, atI_two1, atI_c0, atI_c1, isi_bb, isi_ib, isi_ii, eq_bl, ne_bl, eq_nilI, eq_nilS, ne_nilS, List.length_map, in_c, nin_c, is_nn, is_in, is_sn, is_ln, is_tn, oko_isnt, tru_b, tru_n, tru_i, tru_s, tru_l, tru_t, tru_r, len_l, len_t, len_s, len_r, ix_l, ix_t, ix_s, ix_r, int_i, list_l, list_t, sl_l, sl_s, slL_l, repl_s, rng_1, rng_2, List.getElem?_cons_succ, List.getElem?_cons_zero, List.set_cons_succ, List.set_cons_zero, true_and, and_true, Bool.false_eq_true, if_true, if_false, ite_true, ite_false, reduceIte, Bool.not_true, Bool.not_false, Bool.and_true, Bool.true_and, Bool.and_false, Bool.false_and, decide_eq_true_eq, decide_true, decide_false, Bool.and_eq_true, startD, List.map_cons, List.map_nil, List.length_cons, List.length_nil, List.cons_append, List.nil_append, List.zip_cons_cons, List.zip_nil_left, List.zip_nil_right, List.foldl_cons, List.foldl_nil]
  refine (fields_ok ns 1 n hn2).imp ?_
  rintro _ ⟨fs, rfl, hf1, hf2⟩
  rw [fw_seq]
  try simp (config := {decide := true}) only [fw_nil, fw_set, fw_ret, fw_retN, fw_if, fw_expr, fw_app, fw_aug, fw_put, fw_augIx, fw_asg, fw_par, fw_nx, fw_bk, fw_ct, ok_var, okv_some, okl_lst, okt_tup, oks_str, oki_int, okb_bl, ok_K, ok_bin, ok_un, ok_cmp, ok_val, ok_tru, ok_and, ok_or, ok_not, ok_eAnd, ok_eOr, ok_eNot, ok_if, ok_nil, ok_cons, ok_lst, ok_tup, ok_call, ok_fn, ok_chain, oko_cB, ok_eChain, ok_pNone, ok_pSome, ok_sl, ok_iLst, ok_iTupl, ok_iRng, ok_iStr, ok_yes, oko_some, ok_ok, oko_gN, oko_gT, oko_gNil, oko_gCons, add_ii, add_ss, add_ll, cat_ll, sub_ii, mul_cl, mul_cr, div_ii, mod_ii, pow_ii, iadd_ii, iadd_ss, neg_i, cmp_ii, cmp_ss, in_strs, nin_strs, in_ints, eq_strs, ne_strs, eq_str, ne_str, eq_int, ne_int, sorted_ints, sorted_strs, cutG_map, wipeD_nil, wipeD_cons, atI_two0, atI_two1, atI_c0, atI_c1, isi_bb, isi_ib, isi_ii, eq_bl, ne_bl, eq_nilI, eq_nilS, ne_nilS, List.length_map, in_c, nin_c, is_nn, is_in, is_sn, is_ln, is_tn, oko_isnt, tru_b, tru_n, tru_i, tru_s, tru_l, tru_t, tru_r, len_l, len_t, len_s, len_r, ix_l, ix_t, ix_s, ix_r, int_i, list_l, list_t, sl_l, sl_s, slL_l, repl_s, rng_1, rng_2, List.getElem?_cons_succ, List.getElem?_cons_zero, List.set_cons_succ, List.set_cons_zero, true_and, and_true, Bool.false_eq_true, if_true, if_false, ite_true, ite_false, reduceIte, Bool.not_true, Bool.not_false, Bool.and_true, Bool.true_and, Bool.and_false, Bool.false_and, decide_eq_true_eq, decide_true, decide_false, Bool.and_eq_true, startD, List.map_cons, List.map_nil, List.length_cons, List.length_nil, List.cons_append, List.nil_append, List.zip_cons_cons, List.zip_nil_left, List.zip_nil_right, List.foldl_cons, List.foldl_nil]
  refine oko_ixm (by omega) (by omega) fun x42 _ => ?_
  try simp (config := {decide := true}) only [fw_nil, fw_set, fw_ret, fw_retN, fw_if, fw_expr, fw_app, fw_aug, fw_put, fw_augIx, fw_asg, fw_par, fw_nx, fw_bk, fw_ct, ok_var, okv_some, okl_lst, okt_tup, oks_str, oki_int, okb_bl, ok_K, ok_bin, ok_un, ok_cmp, ok_val, ok_tru, ok_and, ok_or, ok_not, ok_eAnd, ok_eOr, ok_eNot, ok_if, ok_nil, ok_cons, ok_lst, ok_tup, ok_call, ok_fn, ok_chain, oko_cB, ok_eChain, ok_pNone, ok_pSome, ok_sl, ok_iLst, ok_iTupl, ok_iRng, ok_iStr, ok_yes, oko_some, ok_ok, oko_gN, oko_gT, oko_gNil, oko_gCons, add_ii, add_ss, add_ll, cat_ll, sub_ii, mul_cl, mul_cr, div_ii, mod_ii, pow_ii, iadd_ii, iadd_ss, neg_i, cmp_ii, cmp_ss, in_strs, nin_strs, in_ints, eq_strs, ne_strs, eq_str, ne_str, eq_int, ne_int, sorted_ints, sorted_strs, cutG_map, wipeD_nil, wipeD_cons, atI_two0, atI_two1, atI_c0, atI_c1, isi_bb, isi_ib, isi_ii, eq_bl, ne_bl, eq_nilI, eq_nilS, ne_nilS, List.length_map, in_c, nin_c, is_nn, is_in, is_sn, is_ln, is_tn, oko_isnt, tru_b, tru_n, tru_i, tru_s, tru_l, tru_t, tru_r, len_l, len_t, len_s, len_r, ix_l, ix_t, ix_s, ix_r, int_i, list_l, list_t, sl_l, sl_s, slL_l, repl_s, rng_1, rng_2, List.getElem?_cons_succ, List.getElem?_cons_zero, List.set_cons_succ, List.set_cons_zero, true_and, and_true, Bool.false_eq_true, if_true, if_false, ite_true, ite_false, reduceIte, Bool.not_true, Bool.not_false, Bool.and_true, Bool.true_and, Bool.and_false, Bool.false_and, decide_eq_true_eq, decide_true, decide_false, Bool.and_eq_true, startD, List.map_cons, List.map_nil, List.length_cons, List.length_nil, List.cons_append, List.nil_append, List.zip_cons_cons, List.zip_nil_left, List.zip_nil_right, List.foldl_cons, List.foldl_nil]
  refine oko_ixm (by omega) (by omega) fun x43 _ => ?_
  try simp (config := {decide := true}) only [fw_nil, fw_set, fw_ret, fw_retN, fw_if, fw_expr, fw_app, fw_aug, fw_put, fw_augIx, fw_asg, fw_par, fw_nx, fw_bk, fw_ct, ok_var, okv_some, okl_lst, okt_tup, oks_str, oki_int, okb_bl, ok_K, ok_bin, ok_un, ok_cmp, ok_val, ok_tru, ok_and, ok_or, ok_not, ok_eAnd, ok_eOr, ok_eNot, ok_if, ok_nil, ok_cons, ok_lst, ok_tup, ok_call, ok_fn, ok_chain, oko_cB, ok_eChain, ok_pNone, ok_pSome, ok_sl, ok_iLst, ok_iTupl, ok_iRng, ok_iStr, ok_yes, oko_some, ok_ok, oko_gN, oko_gT, oko_gNil, oko_gCons, add_ii, add_ss, add_ll, cat_ll, sub_ii, mul_cl, mul_cr, div_ii, mod_ii, pow_ii, iadd_ii, iadd_ss, neg_i, cmp_ii, cmp_ss, in_strs, nin_strs, in_ints, eq_strs, ne_strs, eq_str, ne_str, eq_int, ne_int, sorted_ints, sorted_strs, cutG_map, wipeD_nil, wipeD_cons, atI_two0, atI_two1, atI_c0, atI_c1, isi_bb, isi_ib, isi_ii, eq_bl, ne_bl, eq_nilI, eq_nilS, ne_nilS, List.length_map, in_c, nin_c, is_nn, is_in, is_sn, is_ln, is_tn, oko_isnt, tru_b, tru_n, tru_i, tru_s, tru_l, tru_t, tru_r, len_l, len_t, len_s, len_r, ix_l, ix_t, ix_s, ix_r, int_i, list_l, list_t, sl_l, sl_s, slL_l, repl_s, rng_1, rng_2, List.getElem?_cons_succ, List.getElem?_cons_zero, List.set_cons_succ, List.set_cons_zero, true_and, and_true, Bool.false_eq_true, if_true, if_false, ite_true, ite_false, reduceIte, Bool.not_true, Bool.not_false, Bool.and_true, Bool.true_and, Bool.and_false, Bool.false_and, decide_eq_true_eq, decide_true, decide_false, Bool.and_eq_true, startD, List.map_cons, List.map_nil, List.length_cons, List.length_nil, List.cons_append, List.nil_append, List.zip_cons_cons, List.zip_nil_left, List.zip_nil_right, List.foldl_cons, List.foldl_nil]
  have hrec := received_ok ns 2 (x42 % 31).toNat (x43 % 4) fs (by omega) (by omega) hf2 (by omega)
  rw [Int.toNat_of_nonneg (by omega)] at hrec
  refine hrec.imp ?_
  rintro _ ⟨r, rfl, hr1, hr2⟩
  have hrl : r.length ≤ 100 := by omega
  rw [fw_seq]
  try simp (config := {decide := true}) only [fw_nil, fw_set, fw_ret, fw_retN, fw_if, fw_expr, fw_app, fw_aug, fw_put, fw_augIx, fw_asg, fw_par, fw_nx, fw_bk, fw_ct, ok_var, okv_some, okl_lst, okt_tup, oks_str, oki_int, okb_bl, ok_K, ok_bin, ok_un, ok_cmp, ok_val, ok_tru, ok_and, ok_or, ok_not, ok_eAnd, ok_eOr, ok_eNot, ok_if, ok_nil, ok_cons, ok_lst, ok_tup, ok_call, ok_fn, ok_chain, oko_cB, ok_eChain, ok_pNone, ok_pSome, ok_sl, ok_iLst, ok_iTupl, ok_iRng, ok_iStr, ok_yes, oko_some, ok_ok, oko_gN, oko_gT, oko_gNil, oko_gCons, add_ii, add_ss, add_ll, cat_ll, sub_ii, mul_cl, mul_cr, div_ii, mod_ii, pow_ii, iadd_ii, iadd_ss, neg_i, cmp_ii, cmp_ss, in_strs, nin_strs, in_ints, eq_strs, ne_strs, eq_str, ne_str, eq_int, ne_int, sorted_ints, sorted_strs, cutG_map, wipeD_nil, wipeD_cons, atI_two0, atI_two1, atI_c0, atI_c1, isi_bb, isi_ib, isi_ii, eq_bl, ne_bl, eq_nilI, eq_nilS, ne_nilS, List.length_map, in_c, nin_c, is_nn, is_in, is_sn, is_ln, is_tn, oko_isnt, tru_b, tru_n, tru_i, tru_s, tru_l, tru_t, tru_r, len_l, len_t, len_s, len_r, ix_l, ix_t, ix_s, ix_r, int_i, list_l, list_t, sl_l, sl_s, slL_l, repl_s, rng_1, rng_2, List.getElem?_cons_succ, List.getElem?_cons_zero, List.set_cons_succ, List.set_cons_zero, true_and, and_true, Bool.false_eq_true, if_true, if_false, ite_true, ite_false, reduceIte, Bool.not_true, Bool.not_false, Bool.and_true, Bool.true_and, Bool.and_false, Bool.false_and, decide_eq_true_eq, decide_true, decide_false, Bool.and_eq_true, startD, List.map_cons, List.map_nil, List.length_cons, List.length_nil, List.cons_append, List.nil_append, List.zip_cons_cons, List.zip_nil_left, List.zip_nil_right, List.foldl_cons, List.foldl_nil]
  refine (copy_ok r hrl).imp ?_
  rintro _ rfl
  try simp (config := {decide := true}) only [fw_nil, fw_set, fw_ret, fw_retN, fw_if, fw_expr, fw_app, fw_aug, fw_put, fw_augIx, fw_asg, fw_par, fw_nx, fw_bk, fw_ct, ok_var, okv_some, okl_lst, okt_tup, oks_str, oki_int, okb_bl, ok_K, ok_bin, ok_un, ok_cmp, ok_val, ok_tru, ok_and, ok_or, ok_not, ok_eAnd, ok_eOr, ok_eNot, ok_if, ok_nil, ok_cons, ok_lst, ok_tup, ok_call, ok_fn, ok_chain, oko_cB, ok_eChain, ok_pNone, ok_pSome, ok_sl, ok_iLst, ok_iTupl, ok_iRng, ok_iStr, ok_yes, oko_some, ok_ok, oko_gN, oko_gT, oko_gNil, oko_gCons, add_ii, add_ss, add_ll, cat_ll, sub_ii, mul_cl, mul_cr, div_ii, mod_ii, pow_ii, iadd_ii, iadd_ss, neg_i, cmp_ii, cmp_ss, in_strs, nin_strs, in_ints, eq_strs, ne_strs, eq_str, ne_str, eq_int, ne_int, sorted_ints, sorted_strs, cutG_map, wipeD_nil, wipeD_cons, atI_two0, atI_two1, atI_c0, atI_c1, isi_bb, isi_ib, isi_ii, eq_bl, ne_bl, eq_nilI, eq_nilS, ne_nilS, List.length_map, in_c, nin_c, is_nn, is_in, is_sn, is_ln, is_tn, oko_isnt, tru_b, tru_n, tru_i, tru_s, tru_l, tru_t, tru_r, len_l, len_t, len_s, len_r, ix_l, ix_t, ix_s, ix_r, int_i, list_l, list_t, sl_l, sl_s, slL_l, repl_s, rng_1, rng_2, List.getElem?_cons_succ, List.getElem?_cons_zero, List.set_cons_succ, List.set_cons_zero, true_and, and_true, Bool.false_eq_true, if_true, if_false, ite_true, ite_false, reduceIte, Bool.not_true, Bool.not_false, Bool.and_true, Bool.true_and, Bool.and_false, Bool.false_and, decide_eq_true_eq, decide_true, decide_false, Bool.and_eq_true, startD, List.map_cons, List.map_nil, List.length_cons, List.length_nil, List.cons_append, List.nil_append, List.zip_cons_cons, List.zip_nil_left, List.zip_nil_right, List.foldl_cons, List.foldl_nil]
  have hlefts := lefts_ok r fs (xs.take 40) hrl (by omega) (by omega) hf2 hr2 (by rw [List.length_take]; omega) fun x h => hr x (List.mem_of_mem_take h)
  obtain ⟨_, hle, ls, rfl, hls⟩ := ok_ex hlefts
  refine fw_cut (fun ρ' => ∃ u6 u7 u8 u9 u10 u11 u12 u13 u14 u15 : _, ρ' = [some (.scr ns), some (.lst (xs.map .int)), some (.int n), some (.lst (fs.map .str)), some (encR r), some (encR r), u6, u7, u8, u9, u10, u11, u12, u13, u14, u15]) ?_ ?_
  · refine fw_for (ds := ls.map encL) (fun _ ρ' => ∃ u6 u7 u8 u9 u10 u11 u12 u13 u14 u15 : _, ρ' = [some (.scr ns), some (.lst (xs.map .int)), some (.int n), some (.lst (fs.map .str)), some (encR r), some (encR r), u6, u7, u8, u9, u10, u11, u12, u13, u14, u15]) ?_ ?_ ?_ ?_
    · refine ok_eq ?_
      try simp (config := {decide := true}) only [fw_seq, fw_nil, fw_set, fw_ret, fw_retN, fw_if, fw_expr, fw_app, fw_aug, fw_put, fw_augIx, fw_asg, fw_par, fw_nx, fw_bk, fw_ct, ok_var, okv_some, okl_lst, okt_tup, oks_str, oki_int, okb_bl, ok_K, ok_bin, ok_un, ok_cmp, ok_val, ok_tru, ok_and, ok_or, ok_not, ok_eAnd, ok_eOr, ok_eNot, ok_if, ok_nil, ok_cons, ok_lst, ok_tup, ok_call, ok_fn, ok_chain, oko_cB, ok_eChain, ok_pNone, ok_pSome, ok_sl, ok_iLst, ok_iTupl, ok_iRng, ok_iStr, ok_yes, oko_some, ok_ok, oko_gN, oko_gT, oko_gNil, oko_gCons, add_ii, add_ss, add_ll, cat_ll, sub_ii, mul_cl, mul_cr, div_ii, mod_ii, pow_ii, iadd_ii, iadd_ss, neg_i, cmp_ii, cmp_ss, in_strs, nin_strs, in_ints, eq_strs, ne_strs, eq_str, ne_str, eq_int, ne_int, sorted_ints, sorted_strs, cutG_map, wipeD_nil, wipeD_cons, atI_two0, atI_two1, atI_c0, atI_c1, isi_bb, isi_ib, isi_ii, eq_bl, ne_bl, eq_nilI, eq_nilS, ne_nilS, List.length_map, in_c, nin_c, is_nn, is_in, is_sn, is_ln, is_tn, oko_isnt, tru_b, tru_n, tru_i, tru_s, tru_l, tru_t, tru_r, len_l, len_t, len_s, len_r, ix_l, ix_t, ix_s, ix_r, int_i, list_l, list_t, sl_l, sl_s, slL_l, repl_s, rng_1, rng_2, List.getElem?_cons_succ, List.getElem?_cons_zero, List.set_cons_succ, List.set_cons_zero, true_and, and_true, Bool.false_eq_true, if_true, if_false, ite_true, ite_false, reduceIte, Bool.not_true, Bool.not_false, Bool.and_true, Bool.true_and, Bool.and_false, Bool.false_and, decide_eq_true_eq, decide_true, decide_false, Bool.and_eq_true, startD, List.map_cons, List.map_nil, List.length_cons, List.length_nil, List.cons_append, List.nil_append, List.zip_cons_cons, List.zip_nil_left, List.zip_nil_right, List.foldl_cons, List.foldl_nil, cutG_to40]
      rw [← List.map_take, hle]
      try simp (config := {decide := true}) only [fw_seq, fw_nil, fw_set, fw_ret, fw_retN, fw_if, fw_expr, fw_app, fw_aug, fw_put, fw_augIx, fw_asg, fw_par, fw_nx, fw_bk, fw_ct, ok_var, okv_some, okl_lst, okt_tup, oks_str, oki_int, okb_bl, ok_K, ok_bin, ok_un, ok_cmp, ok_val, ok_tru, ok_and, ok_or, ok_not, ok_eAnd, ok_eOr, ok_eNot, ok_if, ok_nil, ok_cons, ok_lst, ok_tup, ok_call, ok_fn, ok_chain, oko_cB, ok_eChain, ok_pNone, ok_pSome, ok_sl, ok_iLst, ok_iTupl, ok_iRng, ok_iStr, ok_yes, oko_some, ok_ok, oko_gN, oko_gT, oko_gNil, oko_gCons, add_ii, add_ss, add_ll, cat_ll, sub_ii, mul_cl, mul_cr, div_ii, mod_ii, pow_ii, iadd_ii, iadd_ss, neg_i, cmp_ii, cmp_ss, in_strs, nin_strs, in_ints, eq_strs, ne_strs, eq_str, ne_str, eq_int, ne_int, sorted_ints, sorted_strs, cutG_map, wipeD_nil, wipeD_cons, atI_two0, atI_two1, atI_c0, atI_c1, isi_bb, isi_ib, isi_ii, eq_bl, ne_bl, eq_nilI, eq_nilS, ne_nilS, List.length_map, in_c, nin_c, is_nn, is_in, is_sn, is_ln, is_tn, oko_isnt, tru_b, tru_n, tru_i, tru_s, tru_l, tru_t, tru_r, len_l, len_t, len_s, len_r, ix_l, ix_t, ix_s, ix_r, int_i, list_l, list_t, sl_l, sl_s, slL_l, repl_s, rng_1, rng_2, List.getElem?_cons_succ, List.getElem?_cons_zero, List.set_cons_succ, List.set_cons_zero, true_and, and_true, Bool.false_eq_true, if_true, if_false, ite_true, ite_false, reduceIte, Bool.not_true, Bool.not_false, Bool.and_true, Bool.true_and, Bool.and_false, Bool.false_and, decide_eq_true_eq, decide_true, decide_false, Bool.and_eq_true, startD, List.map_cons, List.map_nil, List.length_cons, List.length_nil, List.cons_append, List.nil_append, List.zip_cons_cons, List.zip_nil_left, List.zip_nil_right, List.foldl_cons, List.foldl_nil]
    · exact ⟨_, _, _, _, _, _, _, _, _, _, rfl⟩
    · rintro j d _ hd ⟨u6, u7, u8, u9, u10, u11, u12, u13, u14, u15, rfl⟩
      obtain ⟨left, hlm, rfl⟩ : ∃ l ∈ ls, d = encL l := by
        have := List.mem_of_getElem? hd
        obtain ⟨l, h1, h2⟩ := List.mem_map.mp this
        exact ⟨l, h1, h2.symm⟩
      obtain ⟨hl4, hl14⟩ := hls left hlm
      unfold encL
      try simp (config := {decide := true}) only [fw_nil, fw_set, fw_ret, fw_retN, fw_if, fw_expr, fw_app, fw_aug, fw_put, fw_augIx, fw_asg, fw_par, fw_nx, fw_bk, fw_ct, ok_var, okv_some, okl_lst, okt_tup, oks_str, oki_int, okb_bl, ok_K, ok_bin, ok_un, ok_cmp, ok_val, ok_tru, ok_and, ok_or, ok_not, ok_eAnd, ok_eOr, ok_eNot, ok_if, ok_nil, ok_cons, ok_lst, ok_tup, ok_call, ok_fn, ok_chain, oko_cB, ok_eChain, ok_pNone, ok_pSome, ok_sl, ok_iLst, ok_iTupl, ok_iRng, ok_iStr, ok_yes, oko_some, ok_ok, oko_gN, oko_gT, oko_gNil, oko_gCons, add_ii, add_ss, add_ll, cat_ll, sub_ii, mul_cl, mul_cr, div_ii, mod_ii, pow_ii, iadd_ii, iadd_ss, neg_i, cmp_ii, cmp_ss, in_strs, nin_strs, in_ints, eq_strs, ne_strs, eq_str, ne_str, eq_int, ne_int, sorted_ints, sorted_strs, cutG_map, wipeD_nil, wipeD_cons, atI_two0, atI_two1, atI_c0, atI_c1, isi_bb, isi_ib, isi_ii, eq_bl, ne_bl, eq_nilI, eq_nilS, ne_nilS, List.length_map, in_c, nin_c, is_nn, is_in, is_sn, is_ln, is_tn, oko_isnt, tru_b, tru_n, tru_i, tru_s, tru_l, tru_t, tru_r, len_l, len_t, len_s, len_r, ix_l, ix_t, ix_s, ix_r, int_i, list_l, list_t, sl_l, sl_s, slL_l, repl_s, rng_1, rng_2, List.getElem?_cons_succ, List.getElem?_cons_zero, List.set_cons_succ, List.set_cons_zero, true_and, and_true, Bool.false_eq_true, if_true, if_false, ite_true, ite_false, reduceIte, Bool.not_true, Bool.not_false, Bool.and_true, Bool.true_and, Bool.and_false, Bool.false_and, decide_eq_true_eq, decide_true, decide_false, Bool.and_eq_true, startD, List.map_cons, List.map_nil, List.length_cons, List.length_nil, List.cons_append, List.nil_append, List.zip_cons_cons, List.zip_nil_left, List.zip_nil_right, List.foldl_cons, List.foldl_nil]
      rw [fw_seq]
      try simp (config := {decide := true}) only [fw_nil, fw_set, fw_ret, fw_retN, fw_if, fw_expr, fw_app, fw_aug, fw_put, fw_augIx, fw_asg, fw_par, fw_nx, fw_bk, fw_ct, ok_var, okv_some, okl_lst, okt_tup, oks_str, oki_int, okb_bl, ok_K, ok_bin, ok_un, ok_cmp, ok_val, ok_tru, ok_and, ok_or, ok_not, ok_eAnd, ok_eOr, ok_eNot, ok_if, ok_nil, ok_cons, ok_lst, ok_tup, ok_call, ok_fn, ok_chain, oko_cB, ok_eChain, ok_pNone, ok_pSome, ok_sl, ok_iLst, ok_iTupl, ok_iRng, ok_iStr, ok_yes, oko_some, ok_ok, oko_gN, oko_gT, oko_gNil, oko_gCons, add_ii, add_ss, add_ll, cat_ll, sub_ii, mul_cl, mul_cr, div_ii, mod_ii, pow_ii, iadd_ii, iadd_ss, neg_i, cmp_ii, cmp_ss, in_strs, nin_strs, in_ints, eq_strs, ne_strs, eq_str, ne_str, eq_int, ne_int, sorted_ints, sorted_strs, cutG_map, wipeD_nil, wipeD_cons, atI_two0, atI_two1, atI_c0, atI_c1, isi_bb, isi_ib, isi_ii, eq_bl, ne_bl, eq_nilI, eq_nilS, ne_nilS, List.length_map, in_c, nin_c, is_nn, is_in, is_sn, is_ln, is_tn, oko_isnt, tru_b, tru_n, tru_i, tru_s, tru_l, tru_t, tru_r, len_l, len_t, len_s, len_r, ix_l, ix_t, ix_s, ix_r, int_i, list_l, list_t, sl_l, sl_s, slL_l, repl_s, rng_1, rng_2, List.getElem?_cons_succ, List.getElem?_cons_zero, List.set_cons_succ, List.set_cons_zero, true_and, and_true, Bool.false_eq_true, if_true, if_false, ite_true, ite_false, reduceIte, Bool.not_true, Bool.not_false, Bool.and_true, Bool.true_and, Bool.and_false, Bool.false_and, decide_eq_true_eq, decide_true, decide_false, Bool.and_eq_true, startD, List.map_cons, List.map_nil, List.length_cons, List.length_nil, List.cons_append, List.nil_append, List.zip_cons_cons, List.zip_nil_left, List.zip_nil_right, List.foldl_cons, List.foldl_nil, ok_lc]
      refine lc_map .str (fun f => !decide (f ∈ left) && !decide (33 :: f ∈ left)) .str fs (fun f hf => ?_) ?_
      · have := (hf2 f hf).2
        try simp (config := {decide := true}) only [fw_seq, fw_nil, fw_set, fw_ret, fw_retN, fw_if, fw_expr, fw_app, fw_aug, fw_put, fw_augIx, fw_asg, fw_par, fw_nx, fw_bk, fw_ct, ok_var, okv_some, okl_lst, okt_tup, oks_str, oki_int, okb_bl, ok_K, ok_bin, ok_un, ok_cmp, ok_val, ok_tru, ok_and, ok_or, ok_not, ok_eAnd, ok_eOr, ok_eNot, ok_if, ok_nil, ok_cons, ok_lst, ok_tup, ok_call, ok_fn, ok_chain, oko_cB, ok_eChain, ok_pNone, ok_pSome, ok_sl, ok_iLst, ok_iTupl, ok_iRng, ok_iStr, ok_yes, oko_some, ok_ok, oko_gN, oko_gT, oko_gNil, oko_gCons, add_ii, add_ss, add_ll, cat_ll, sub_ii, mul_cl, mul_cr, div_ii, mod_ii, pow_ii, iadd_ii, iadd_ss, neg_i, cmp_ii, cmp_ss, in_strs, nin_strs, in_ints, eq_strs, ne_strs, eq_str, ne_str, eq_int, ne_int, sorted_ints, sorted_strs, cutG_map, wipeD_nil, wipeD_cons, atI_two0, atI_two1, atI_c0, atI_c1, isi_bb, isi_ib, isi_ii, eq_bl, ne_bl, eq_nilI, eq_nilS, ne_nilS, List.length_map, in_c, nin_c, is_nn, is_in, is_sn, is_ln, is_tn, oko_isnt, tru_b, tru_n, tru_i, tru_s, tru_l, tru_t, tru_r, len_l, len_t, len_s, len_r, ix_l, ix_t, ix_s, ix_r, int_i, list_l, list_t, sl_l, sl_s, slL_l, repl_s, rng_1, rng_2, List.getElem?_cons_succ, List.getElem?_cons_zero, List.set_cons_succ, List.set_cons_zero, true_and, and_true, Bool.false_eq_true, if_true, if_false, ite_true, ite_false, reduceIte, Bool.not_true, Bool.not_false, Bool.and_true, Bool.true_and, Bool.and_false, Bool.false_and, decide_eq_true_eq, decide_true, decide_false, Bool.and_eq_true, startD, List.map_cons, List.map_nil, List.length_cons, List.length_nil, List.cons_append, List.nil_append, List.zip_cons_cons, List.zip_nil_left, List.zip_nil_right, List.foldl_cons, List.foldl_nil, sizeLine_eq]
        split
        · rename_i h
          try simp (config := {decide := true}) only [fw_seq, fw_nil, fw_set, fw_ret, fw_retN, fw_if, fw_expr, fw_app, fw_aug, fw_put, fw_augIx, fw_asg, fw_par, fw_nx, fw_bk, fw_ct, ok_var, okv_some, okl_lst, okt_tup, oks_str, oki_int, okb_bl, ok_K, ok_bin, ok_un, ok_cmp, ok_val, ok_tru, ok_and, ok_or, ok_not, ok_eAnd, ok_eOr, ok_eNot, ok_if, ok_nil, ok_cons, ok_lst, ok_tup, ok_call, ok_fn, ok_chain, oko_cB, ok_eChain, ok_pNone, ok_pSome, ok_sl, ok_iLst, ok_iTupl, ok_iRng, ok_iStr, ok_yes, oko_some, ok_ok, oko_gN, oko_gT, oko_gNil, oko_gCons, add_ii, add_ss, add_ll, cat_ll, sub_ii, mul_cl, mul_cr, div_ii, mod_ii, pow_ii, iadd_ii, iadd_ss, neg_i, cmp_ii, cmp_ss, in_strs, nin_strs, in_ints, eq_strs, ne_strs, eq_str, ne_str, eq_int, ne_int, sorted_ints, sorted_strs, cutG_map, wipeD_nil, wipeD_cons, atI_two0, atI_two1, atI_c0, atI_c1, isi_bb, isi_ib, isi_ii, eq_bl, ne_bl, eq_nilI, eq_nilS, ne_nilS, List.length_map, in_c, nin_c, is_nn, is_in, is_sn, is_ln, is_tn, oko_isnt, tru_b, tru_n, tru_i, tru_s, tru_l, tru_t, tru_r, len_l, len_t, len_s, len_r, ix_l, ix_t, ix_s, ix_r, int_i, list_l, list_t, sl_l, sl_s, slL_l, repl_s, rng_1, rng_2, List.getElem?_cons_succ, List.getElem?_cons_zero, List.set_cons_succ, List.set_cons_zero, true_and, and_true, Bool.false_eq_true, if_true, if_false, ite_true, ite_false, reduceIte, Bool.not_true, Bool.not_false, Bool.and_true, Bool.true_and, Bool.and_false, Bool.false_and, decide_eq_true_eq, decide_true, decide_false, Bool.and_eq_true, startD, List.map_cons, List.map_nil, List.length_cons, List.length_nil, List.cons_append, List.nil_append, List.zip_cons_cons, List.zip_nil_left, List.zip_nil_right, List.foldl_cons, List.foldl_nil, h]
          exact ⟨by omega, fun _ => trivial⟩
        · rename_i h
          try simp (config := {decide := true}) only [fw_seq, fw_nil, fw_set, fw_ret, fw_retN, fw_if, fw_expr, fw_app, fw_aug, fw_put, fw_augIx, fw_asg, fw_par, fw_nx, fw_bk, fw_ct, ok_var, okv_some, okl_lst, okt_tup, oks_str, oki_int, okb_bl, ok_K, ok_bin, ok_un, ok_cmp, ok_val, ok_tru, ok_and, ok_or, ok_not, ok_eAnd, ok_eOr, ok_eNot, ok_if, ok_nil, ok_cons, ok_lst, ok_tup, ok_call, ok_fn, ok_chain, oko_cB, ok_eChain, ok_pNone, ok_pSome, ok_sl, ok_iLst, ok_iTupl, ok_iRng, ok_iStr, ok_yes, oko_some, ok_ok, oko_gN, oko_gT, oko_gNil, oko_gCons, add_ii, add_ss, add_ll, cat_ll, sub_ii, mul_cl, mul_cr, div_ii, mod_ii, pow_ii, iadd_ii, iadd_ss, neg_i, cmp_ii, cmp_ss, in_strs, nin_strs, in_ints, eq_strs, ne_strs, eq_str, ne_str, eq_int, ne_int, sorted_ints, sorted_strs, cutG_map, wipeD_nil, wipeD_cons, atI_two0, atI_two1, atI_c0, atI_c1, isi_bb, isi_ib, isi_ii, eq_bl, ne_bl, eq_nilI, eq_nilS, ne_nilS, List.length_map, in_c, nin_c, is_nn, is_in, is_sn, is_ln, is_tn, oko_isnt, tru_b, tru_n, tru_i, tru_s, tru_l, tru_t, tru_r, len_l, len_t, len_s, len_r, ix_l, ix_t, ix_s, ix_r, int_i, list_l, list_t, sl_l, sl_s, slL_l, repl_s, rng_1, rng_2, List.getElem?_cons_succ, List.getElem?_cons_zero, List.set_cons_succ, List.set_cons_zero, true_and, and_true, Bool.false_eq_true, if_true, if_false, ite_true, ite_false, reduceIte, Bool.not_true, Bool.not_false, Bool.and_true, Bool.true_and, Bool.and_false, Bool.false_and, decide_eq_true_eq, decide_true, decide_false, Bool.and_eq_true, startD, List.map_cons, List.map_nil, List.length_cons, List.length_nil, List.cons_append, List.nil_append, List.zip_cons_cons, List.zip_nil_left, List.zip_nil_right, List.foldl_cons, List.foldl_nil, h]
          exact fun _ => trivial
      have hfree : ∀ f ∈ fs.filter (fun f => !decide (f ∈ left) && !decide (33 :: f ∈ left)), f.length ≤ 12 := fun f hf => (hf2 f (List.mem_filter.mp hf).1).2
      have hfl : (fs.filter fun f => !decide (f ∈ left) && !decide (33 :: f ∈ left)).length ≤ 40 := Nat.le_trans (List.length_filter_le _ _) (by omega)
      generalize (fs.filter fun f => !decide (f ∈ left) && !decide (33 :: f ∈ left)) = free at hfree hfl ⊢
      try simp (config := {decide := true}) only [fw_nil, fw_set, fw_ret, fw_retN, fw_if, fw_expr, fw_app, fw_aug, fw_put, fw_augIx, fw_asg, fw_par, fw_nx, fw_bk, fw_ct, ok_var, okv_some, okl_lst, okt_tup, oks_str, oki_int, okb_bl, ok_K, ok_bin, ok_un, ok_cmp, ok_val, ok_tru, ok_and, ok_or, ok_not, ok_eAnd, ok_eOr, ok_eNot, ok_if, ok_nil, ok_cons, ok_lst, ok_tup, ok_call, ok_fn, ok_chain, oko_cB, ok_eChain, ok_pNone, ok_pSome, ok_sl, ok_iLst, ok_iTupl, ok_iRng, ok_iStr, ok_yes, oko_some, ok_ok, oko_gN, oko_gT, oko_gNil, oko_gCons, add_ii, add_ss, add_ll, cat_ll, sub_ii, mul_cl, mul_cr, div_ii, mod_ii, pow_ii, iadd_ii, iadd_ss, neg_i, cmp_ii, cmp_ss, in_strs, nin_strs, in_ints, eq_strs, ne_strs, eq_str, ne_str, eq_int, ne_int, sorted_ints, sorted_strs, cutG_map, wipeD_nil, wipeD_cons, atI_two0, atI_two1, atI_c0, atI_c1, isi_bb, isi_ib, isi_ii, eq_bl, ne_bl, eq_nilI, eq_nilS, ne_nilS, List.length_map, in_c, nin_c, is_nn, is_in, is_sn, is_ln, is_tn, oko_isnt, tru_b, tru_n, tru_i, tru_s, tru_l, tru_t, tru_r, len_l, len_t, len_s, len_r, ix_l, ix_t, ix_s, ix_r, int_i, list_l, list_t, sl_l, sl_s, slL_l, repl_s, rng_1, rng_2, List.getElem?_cons_succ, List.getElem?_cons_zero, List.set_cons_succ, List.set_cons_zero, true_and, and_true, Bool.false_eq_true, if_true, if_false, ite_true, ite_false, reduceIte, Bool.not_true, Bool.not_false, Bool.and_true, Bool.true_and, Bool.and_false, Bool.false_and, decide_eq_true_eq, decide_true, decide_false, Bool.and_eq_true, startD, List.map_cons, List.map_nil, List.length_cons, List.length_nil, List.cons_append, List.nil_append, List.zip_cons_cons, List.zip_nil_left, List.zip_nil_right, List.foldl_cons, List.foldl_nil, sizeLine_eq]
      refine ⟨by omega, ?_⟩
      rw [fw_seq]
      try simp (config := {decide := true}) only [fw_nil, fw_set, fw_ret, fw_retN, fw_if, fw_expr, fw_app, fw_aug, fw_put, fw_augIx, fw_asg, fw_par, fw_nx, fw_bk, fw_ct, ok_var, okv_some, okl_lst, okt_tup, oks_str, oki_int, okb_bl, ok_K, ok_bin, ok_un, ok_cmp, ok_val, ok_tru, ok_and, ok_or, ok_not, ok_eAnd, ok_eOr, ok_eNot, ok_if, ok_nil, ok_cons, ok_lst, ok_tup, ok_call, ok_fn, ok_chain, oko_cB, ok_eChain, ok_pNone, ok_pSome, ok_sl, ok_iLst, ok_iTupl, ok_iRng, ok_iStr, ok_yes, oko_some, ok_ok, oko_gN, oko_gT, oko_gNil, oko_gCons, add_ii, add_ss, add_ll, cat_ll, sub_ii, mul_cl, mul_cr, div_ii, mod_ii, pow_ii, iadd_ii, iadd_ss, neg_i, cmp_ii, cmp_ss, in_strs, nin_strs, in_ints, eq_strs, ne_strs, eq_str, ne_str, eq_int, ne_int, sorted_ints, sorted_strs, cutG_map, wipeD_nil, wipeD_cons, atI_two0, atI_two1, atI_c0, atI_c1, isi_bb, isi_ib, isi_ii, eq_bl, ne_bl, eq_nilI, eq_nilS, ne_nilS, List.length_map, in_c, nin_c, is_nn, is_in, is_sn, is_ln, is_tn, oko_isnt, tru_b, tru_n, tru_i, tru_s, tru_l, tru_t, tru_r, len_l, len_t, len_s, len_r, ix_l, ix_t, ix_s, ix_r, int_i, list_l, list_t, sl_l, sl_s, slL_l, repl_s, rng_1, rng_2, List.getElem?_cons_succ, List.getElem?_cons_zero, List.set_cons_succ, List.set_cons_zero, true_and, and_true, Bool.false_eq_true, if_true, if_false, ite_true, ite_false, reduceIte, Bool.not_true, Bool.not_false, Bool.and_true, Bool.true_and, Bool.and_false, Bool.false_and, decide_eq_true_eq, decide_true, decide_false, Bool.and_eq_true, startD, List.map_cons, List.map_nil, List.length_cons, List.length_nil, List.cons_append, List.nil_append, List.zip_cons_cons, List.zip_nil_left, List.zip_nil_right, List.foldl_cons, List.foldl_nil, sizeLine_eq]
      refine fw_cut (fun ρ' => ∃ (aq : List (List Nat)) (u9 : _), (∀ q ∈ aq, q.length ≤ 13) ∧ ρ' = [some (.scr ns), some (.lst (xs.map .int)), some (.int n), some (.lst (fs.map .str)), some (encR r), some (encR r), some (.lst (left.map .str)), some (.lst (free.map .str)), some (.lst (aq.map .str)), u9, u10, u11, u12, u13, u14, u15]) ?_ ?_
      · refine fw_range (n := 3) (fun j ρ' => ∃ (aq : List (List Nat)) (u9 : _), (aq.length ≤ j ∧ ∀ q ∈ aq, q.length ≤ 13) ∧ ρ' = [some (.scr ns), some (.lst (xs.map .int)), some (.int n), some (.lst (fs.map .str)), some (encR r), some (encR r), some (.lst (left.map .str)), some (.lst (free.map .str)), some (.lst (aq.map .str)), u9, u10, u11, u12, u13, u14, u15]) ?_ ?_ ?_ ?_
        · try simp (config := {decide := true}) only [fw_seq, fw_nil, fw_set, fw_ret, fw_retN, fw_if, fw_expr, fw_app, fw_aug, fw_put, fw_augIx, fw_asg, fw_par, fw_nx, fw_bk, fw_ct, ok_var, okv_some, okl_lst, okt_tup, oks_str, oki_int, okb_bl, ok_K, ok_bin, ok_un, ok_cmp, ok_val, ok_tru, ok_and, ok_or, ok_not, ok_eAnd, ok_eOr, ok_eNot, ok_if, ok_nil, ok_cons, ok_lst, ok_tup, ok_call, ok_fn, ok_chain, oko_cB, ok_eChain, ok_pNone, ok_pSome, ok_sl, ok_iLst, ok_iTupl, ok_iRng, ok_iStr, ok_yes, oko_some, ok_ok, oko_gN, oko_gT, oko_gNil, oko_gCons, add_ii, add_ss, add_ll, cat_ll, sub_ii, mul_cl, mul_cr, div_ii, mod_ii, pow_ii, iadd_ii, iadd_ss, neg_i, cmp_ii, cmp_ss, in_strs, nin_strs, in_ints, eq_strs, ne_strs, eq_str, ne_str, eq_int, ne_int, sorted_ints, sorted_strs, cutG_map, wipeD_nil, wipeD_cons, atI_two0, atI_two1, atI_c0, atI_c1, isi_bb, isi_ib, isi_ii, eq_bl, ne_bl, eq_nilI, eq_nilS, ne_nilS, List.length_map, in_c, nin_c, is_nn, is_in, is_sn, is_ln, is_tn, oko_isnt, tru_b, tru_n, tru_i, tru_s, tru_l, tru_t, tru_r, len_l, len_t, len_s, len_r, ix_l, ix_t, ix_s, ix_r, int_i, list_l, list_t, sl_l, sl_s, slL_l, repl_s, rng_1, rng_2, List.getElem?_cons_succ, List.getElem?_cons_zero, List.set_cons_succ, List.set_cons_zero, true_and, and_true, Bool.false_eq_true, if_true, if_false, ite_true, ite_false, reduceIte, Bool.not_true, Bool.not_false, Bool.and_true, Bool.true_and, Bool.and_false, Bool.false_and, decide_eq_true_eq, decide_true, decide_false, Bool.and_eq_true, startD, List.map_cons, List.map_nil, List.length_cons, List.length_nil, List.cons_append, List.nil_append, List.zip_cons_cons, List.zip_nil_left, List.zip_nil_right, List.foldl_cons, List.foldl_nil]
          exact rfl
        · exact ⟨[], _, by simp, rfl⟩
        · rintro i _ hi ⟨aq, u9, ⟨ha1, ha2⟩, rfl⟩
          try simp (config := {decide := true}) only [fw_seq, fw_nil, fw_set, fw_ret, fw_retN, fw_if, fw_expr, fw_app, fw_aug, fw_put, fw_augIx, fw_asg, fw_par, fw_nx, fw_bk, fw_ct, ok_var, okv_some, okl_lst, okt_tup, oks_str, oki_int, okb_bl, ok_K, ok_bin, ok_un, ok_cmp, ok_val, ok_tru, ok_and, ok_or, ok_not, ok_eAnd, ok_eOr, ok_eNot, ok_if, ok_nil, ok_cons, ok_lst, ok_tup, ok_call, ok_fn, ok_chain, oko_cB, ok_eChain, ok_pNone, ok_pSome, ok_sl, ok_iLst, ok_iTupl, ok_iRng, ok_iStr, ok_yes, oko_some, ok_ok, oko_gN, oko_gT, oko_gNil, oko_gCons, add_ii, add_ss, add_ll, cat_ll, sub_ii, mul_cl, mul_cr, div_ii, mod_ii, pow_ii, iadd_ii, iadd_ss, neg_i, cmp_ii, cmp_ss, in_strs, nin_strs, in_ints, eq_strs, ne_strs, eq_str, ne_str, eq_int, ne_int, sorted_ints, sorted_strs, cutG_map, wipeD_nil, wipeD_cons, atI_two0, atI_two1, atI_c0, atI_c1, isi_bb, isi_ib, isi_ii, eq_bl, ne_bl, eq_nilI, eq_nilS, ne_nilS, List.length_map, in_c, nin_c, is_nn, is_in, is_sn, is_ln, is_tn, oko_isnt, tru_b, tru_n, tru_i, tru_s, tru_l, tru_t, tru_r, len_l, len_t, len_s, len_r, ix_l, ix_t, ix_s, ix_r, int_i, list_l, list_t, sl_l, sl_s, slL_l, repl_s, rng_1, rng_2, List.getElem?_cons_succ, List.getElem?_cons_zero, List.set_cons_succ, List.set_cons_zero, true_and, and_true, Bool.false_eq_true, if_true, if_false, ite_true, ite_false, reduceIte, Bool.not_true, Bool.not_false, Bool.and_true, Bool.true_and, Bool.and_false, Bool.false_and, decide_eq_true_eq, decide_true, decide_false, Bool.and_eq_true, startD, List.map_cons, List.map_nil, List.length_cons, List.length_nil, List.cons_append, List.nil_append, List.zip_cons_cons, List.zip_nil_left, List.zip_nil_right, List.foldl_cons, List.foldl_nil]
          split
          · rename_i hne
            have hlen : 0 < free.length := by
              cases free with
              | nil => simp at hne
              | cons _ _ => simp
            refine oko_ixm (by omega) (by omega) fun xi _ => ?_
            try simp (config := {decide := true}) only [fw_seq, fw_nil, fw_set, fw_ret, fw_retN, fw_if, fw_expr, fw_app, fw_aug, fw_put, fw_augIx, fw_asg, fw_par, fw_nx, fw_bk, fw_ct, ok_var, okv_some, okl_lst, okt_tup, oks_str, oki_int, okb_bl, ok_K, ok_bin, ok_un, ok_cmp, ok_val, ok_tru, ok_and, ok_or, ok_not, ok_eAnd, ok_eOr, ok_eNot, ok_if, ok_nil, ok_cons, ok_lst, ok_tup, ok_call, ok_fn, ok_chain, oko_cB, ok_eChain, ok_pNone, ok_pSome, ok_sl, ok_iLst, ok_iTupl, ok_iRng, ok_iStr, ok_yes, oko_some, ok_ok, oko_gN, oko_gT, oko_gNil, oko_gCons, add_ii, add_ss, add_ll, cat_ll, sub_ii, mul_cl, mul_cr, div_ii, mod_ii, pow_ii, iadd_ii, iadd_ss, neg_i, cmp_ii, cmp_ss, in_strs, nin_strs, in_ints, eq_strs, ne_strs, eq_str, ne_str, eq_int, ne_int, sorted_ints, sorted_strs, cutG_map, wipeD_nil, wipeD_cons, atI_two0, atI_two1, atI_c0, atI_c1, isi_bb, isi_ib, isi_ii, eq_bl, ne_bl, eq_nilI, eq_nilS, ne_nilS, List.length_map, in_c, nin_c, is_nn, is_in, is_sn, is_ln, is_tn, oko_isnt, tru_b, tru_n, tru_i, tru_s, tru_l, tru_t, tru_r, len_l, len_t, len_s, len_r, ix_l, ix_t, ix_s, ix_r, int_i, list_l, list_t, sl_l, sl_s, slL_l, repl_s, rng_1, rng_2, List.getElem?_cons_succ, List.getElem?_cons_zero, List.set_cons_succ, List.set_cons_zero, true_and, and_true, Bool.false_eq_true, if_true, if_false, ite_true, ite_false, reduceIte, Bool.not_true, Bool.not_false, Bool.and_true, Bool.true_and, Bool.and_false, Bool.false_and, decide_eq_true_eq, decide_true, decide_false, Bool.and_eq_true, startD, List.map_cons, List.map_nil, List.length_cons, List.length_nil, List.cons_append, List.nil_append, List.zip_cons_cons, List.zip_nil_left, List.zip_nil_right, List.foldl_cons, List.foldl_nil]
            refine oko_two (by omega) (by omega) fun p hp => ?_
            try simp (config := {decide := true}) only [fw_seq, fw_nil, fw_set, fw_ret, fw_retN, fw_if, fw_expr, fw_app, fw_aug, fw_put, fw_augIx, fw_asg, fw_par, fw_nx, fw_bk, fw_ct, ok_var, okv_some, okl_lst, okt_tup, oks_str, oki_int, okb_bl, ok_K, ok_bin, ok_un, ok_cmp, ok_val, ok_tru, ok_and, ok_or, ok_not, ok_eAnd, ok_eOr, ok_eNot, ok_if, ok_nil, ok_cons, ok_lst, ok_tup, ok_call, ok_fn, ok_chain, oko_cB, ok_eChain, ok_pNone, ok_pSome, ok_sl, ok_iLst, ok_iTupl, ok_iRng, ok_iStr, ok_yes, oko_some, ok_ok, oko_gN, oko_gT, oko_gNil, oko_gCons, add_ii, add_ss, add_ll, cat_ll, sub_ii, mul_cl, mul_cr, div_ii, mod_ii, pow_ii, iadd_ii, iadd_ss, neg_i, cmp_ii, cmp_ss, in_strs, nin_strs, in_ints, eq_strs, ne_strs, eq_str, ne_str, eq_int, ne_int, sorted_ints, sorted_strs, cutG_map, wipeD_nil, wipeD_cons, atI_two0, atI_two1, atI_c0, atI_c1, isi_bb, isi_ib, isi_ii, eq_bl, ne_bl, eq_nilI, eq_nilS, ne_nilS, List.length_map, in_c, nin_c, is_nn, is_in, is_sn, is_ln, is_tn, oko_isnt, tru_b, tru_n, tru_i, tru_s, tru_l, tru_t, tru_r, len_l, len_t, len_s, len_r, ix_l, ix_t, ix_s, ix_r, int_i, list_l, list_t, sl_l, sl_s, slL_l, repl_s, rng_1, rng_2, List.getElem?_cons_succ, List.getElem?_cons_zero, List.set_cons_succ, List.set_cons_zero, true_and, and_true, Bool.false_eq_true, if_true, if_false, ite_true, ite_false, reduceIte, Bool.not_true, Bool.not_false, Bool.and_true, Bool.true_and, Bool.and_false, Bool.false_and, decide_eq_true_eq, decide_true, decide_false, Bool.and_eq_true, startD, List.map_cons, List.map_nil, List.length_cons, List.length_nil, List.cons_append, List.nil_append, List.zip_cons_cons, List.zip_nil_left, List.zip_nil_right, List.foldl_cons, List.foldl_nil]
            refine oko_ixm (by omega) (by omega) fun xk _ => ?_
            try simp (config := {decide := true}) only [fw_seq, fw_nil, fw_set, fw_ret, fw_retN, fw_if, fw_expr, fw_app, fw_aug, fw_put, fw_augIx, fw_asg, fw_par, fw_nx, fw_bk, fw_ct, ok_var, okv_some, okl_lst, okt_tup, oks_str, oki_int, okb_bl, ok_K, ok_bin, ok_un, ok_cmp, ok_val, ok_tru, ok_and, ok_or, ok_not, ok_eAnd, ok_eOr, ok_eNot, ok_if, ok_nil, ok_cons, ok_lst, ok_tup, ok_call, ok_fn, ok_chain, oko_cB, ok_eChain, ok_pNone, ok_pSome, ok_sl, ok_iLst, ok_iTupl, ok_iRng, ok_iStr, ok_yes, oko_some, ok_ok, oko_gN, oko_gT, oko_gNil, oko_gCons, add_ii, add_ss, add_ll, cat_ll, sub_ii, mul_cl, mul_cr, div_ii, mod_ii, pow_ii, iadd_ii, iadd_ss, neg_i, cmp_ii, cmp_ss, in_strs, nin_strs, in_ints, eq_strs, ne_strs, eq_str, ne_str, eq_int, ne_int, sorted_ints, sorted_strs, cutG_map, wipeD_nil, wipeD_cons, atI_two0, atI_two1, atI_c0, atI_c1, isi_bb, isi_ib, isi_ii, eq_bl, ne_bl, eq_nilI, eq_nilS, ne_nilS, List.length_map, in_c, nin_c, is_nn, is_in, is_sn, is_ln, is_tn, oko_isnt, tru_b, tru_n, tru_i, tru_s, tru_l, tru_t, tru_r, len_l, len_t, len_s, len_r, ix_l, ix_t, ix_s, ix_r, int_i, list_l, list_t, sl_l, sl_s, slL_l, repl_s, rng_1, rng_2, List.getElem?_cons_succ, List.getElem?_cons_zero, List.set_cons_succ, List.set_cons_zero, true_and, and_true, Bool.false_eq_true, if_true, if_false, ite_true, ite_false, reduceIte, Bool.not_true, Bool.not_false, Bool.and_true, Bool.true_and, Bool.and_false, Bool.false_and, decide_eq_true_eq, decide_true, decide_false, Bool.and_eq_true, startD, List.map_cons, List.map_nil, List.length_cons, List.length_nil, List.cons_append, List.nil_append, List.zip_cons_cons, List.zip_nil_left, List.zip_nil_right, List.foldl_cons, List.foldl_nil]
            refine ⟨by omega, ?_⟩
            have hr0 : 0 ≤ xk / 2 % (free.length : Int) := Int.emod_nonneg _ (by omega)
            have hr1 : xk / 2 % (free.length : Int) < free.length := Int.emod_lt_of_pos _ (by omega)
            refine oko_ixm hr0 hr1 fun f hf => ?_
            have hp1 : p.length ≤ 1 := by rcases hp with rfl | rfl <;> simp
            have hf1 := hfree f hf
            try simp (config := {decide := true}) only [fw_seq, fw_nil, fw_set, fw_ret, fw_retN, fw_if, fw_expr, fw_app, fw_aug, fw_put, fw_augIx, fw_asg, fw_par, fw_nx, fw_bk, fw_ct, ok_var, okv_some, okl_lst, okt_tup, oks_str, oki_int, okb_bl, ok_K, ok_bin, ok_un, ok_cmp, ok_val, ok_tru, ok_and, ok_or, ok_not, ok_eAnd, ok_eOr, ok_eNot, ok_if, ok_nil, ok_cons, ok_lst, ok_tup, ok_call, ok_fn, ok_chain, oko_cB, ok_eChain, ok_pNone, ok_pSome, ok_sl, ok_iLst, ok_iTupl, ok_iRng, ok_iStr, ok_yes, oko_some, ok_ok, oko_gN, oko_gT, oko_gNil, oko_gCons, add_ii, add_ss, add_ll, cat_ll, sub_ii, mul_cl, mul_cr, div_ii, mod_ii, pow_ii, iadd_ii, iadd_ss, neg_i, cmp_ii, cmp_ss, in_strs, nin_strs, in_ints, eq_strs, ne_strs, eq_str, ne_str, eq_int, ne_int, sorted_ints, sorted_strs, cutG_map, wipeD_nil, wipeD_cons, atI_two0, atI_two1, atI_c0, atI_c1, isi_bb, isi_ib, isi_ii, eq_bl, ne_bl, eq_nilI, eq_nilS, ne_nilS, List.length_map, in_c, nin_c, is_nn, is_in, is_sn, is_ln, is_tn, oko_isnt, tru_b, tru_n, tru_i, tru_s, tru_l, tru_t, tru_r, len_l, len_t, len_s, len_r, ix_l, ix_t, ix_s, ix_r, int_i, list_l, list_t, sl_l, sl_s, slL_l, repl_s, rng_1, rng_2, List.getElem?_cons_succ, List.getElem?_cons_zero, List.set_cons_succ, List.set_cons_zero, true_and, and_true, Bool.false_eq_true, if_true, if_false, ite_true, ite_false, reduceIte, Bool.not_true, Bool.not_false, Bool.and_true, Bool.true_and, Bool.and_false, Bool.false_and, decide_eq_true_eq, decide_true, decide_false, Bool.and_eq_true, startD, List.map_cons, List.map_nil, List.length_cons, List.length_nil, List.cons_append, List.nil_append, List.zip_cons_cons, List.zip_nil_left, List.zip_nil_right, List.foldl_cons, List.foldl_nil, sizeLine_eq]
            refine ⟨by omega, by omega, aq ++ [p ++ f], _, ⟨by rw [List.length_append]; simp; omega, fun q hq => ?_⟩, by rw [List.map_append (l₁ := aq)]; rfl⟩
            rcases List.mem_append.mp hq with hq | hq
            · exact ha2 q hq
            · rw [List.mem_singleton.mp hq, List.length_append]; omega
          · exact ⟨aq, _, ⟨by omega, ha2⟩, rfl⟩
        · rintro _ ⟨aq, u9, ⟨ha1, ha2⟩, rfl⟩
          exact ⟨aq, u9, ha2, rfl⟩
      rintro _ ⟨aq, u9, ha, rfl⟩
      refine fw_cut (fun ρ' => ∃ u10, ρ' = [some (.scr ns), some (.lst (xs.map .int)), some (.int n), some (.lst (fs.map .str)), some (encR r), some (encR r), some (.lst (left.map .str)), some (.lst (free.map .str)), some (.lst (aq.map .str)), u9, u10, u11, u12, u13, u14, u15]) ?_ ?_
      · refine fw_for (ds := aq.map .str) (fun _ ρ' => ∃ u10, ρ' = [some (.scr ns), some (.lst (xs.map .int)), some (.int n), some (.lst (fs.map .str)), some (encR r), some (encR r), some (.lst (left.map .str)), some (.lst (free.map .str)), some (.lst (aq.map .str)), u9, u10, u11, u12, u13, u14, u15]) rfl ?_ ?_ ?_
        · exact ⟨_, rfl⟩
        · rintro i d _ hd ⟨u10, rfl⟩
          obtain ⟨q, hq, rfl⟩ : ∃ l ∈ aq, d = .str l := by
            have := List.mem_of_getElem? hd
            obtain ⟨l, h1, h2⟩ := List.mem_map.mp this
            exact ⟨l, h1, h2.symm⟩
          try simp (config := {decide := true}) only [fw_seq, fw_nil, fw_set, fw_ret, fw_retN, fw_if, fw_expr, fw_app, fw_aug, fw_put, fw_augIx, fw_asg, fw_par, fw_nx, fw_bk, fw_ct, ok_var, okv_some, okl_lst, okt_tup, oks_str, oki_int, okb_bl, ok_K, ok_bin, ok_un, ok_cmp, ok_val, ok_tru, ok_and, ok_or, ok_not, ok_eAnd, ok_eOr, ok_eNot, ok_if, ok_nil, ok_cons, ok_lst, ok_tup, ok_call, ok_fn, ok_chain, oko_cB, ok_eChain, ok_pNone, ok_pSome, ok_sl, ok_iLst, ok_iTupl, ok_iRng, ok_iStr, ok_yes, oko_some, ok_ok, oko_gN, oko_gT, oko_gNil, oko_gCons, add_ii, add_ss, add_ll, cat_ll, sub_ii, mul_cl, mul_cr, div_ii, mod_ii, pow_ii, iadd_ii, iadd_ss, neg_i, cmp_ii, cmp_ss, in_strs, nin_strs, in_ints, eq_strs, ne_strs, eq_str, ne_str, eq_int, ne_int, sorted_ints, sorted_strs, cutG_map, wipeD_nil, wipeD_cons, atI_two0, atI_two1, atI_c0, atI_c1, isi_bb, isi_ib, isi_ii, eq_bl, ne_bl, eq_nilI, eq_nilS, ne_nilS, List.length_map, in_c, nin_c, is_nn, is_in, is_sn, is_ln, is_tn, oko_isnt, tru_b, tru_n, tru_i, tru_s, tru_l, tru_t, tru_r, len_l, len_t, len_s, len_r, ix_l, ix_t, ix_s, ix_r, int_i, list_l, list_t, sl_l, sl_s, slL_l, repl_s, rng_1, rng_2, List.getElem?_cons_succ, List.getElem?_cons_zero, List.set_cons_succ, List.set_cons_zero, true_and, and_true, Bool.false_eq_true, if_true, if_false, ite_true, ite_false, reduceIte, Bool.not_true, Bool.not_false, Bool.and_true, Bool.true_and, Bool.and_false, Bool.false_and, decide_eq_true_eq, decide_true, decide_false, Bool.and_eq_true, startD, List.map_cons, List.map_nil, List.length_cons, List.length_nil, List.cons_append, List.nil_append, List.zip_cons_cons, List.zip_nil_left, List.zip_nil_right, List.foldl_cons, List.foldl_nil]
          refine (right_ok r left q hrl (by omega)).imp ?_
          rintro _ rfl
          try simp (config := {decide := true}) only [fw_seq, fw_nil, fw_set, fw_ret, fw_retN, fw_if, fw_expr, fw_app, fw_aug, fw_put, fw_augIx, fw_asg, fw_par, fw_nx, fw_bk, fw_ct, ok_var, okv_some, okl_lst, okt_tup, oks_str, oki_int, okb_bl, ok_K, ok_bin, ok_un, ok_cmp, ok_val, ok_tru, ok_and, ok_or, ok_not, ok_eAnd, ok_eOr, ok_eNot, ok_if, ok_nil, ok_cons, ok_lst, ok_tup, ok_call, ok_fn, ok_chain, oko_cB, ok_eChain, ok_pNone, ok_pSome, ok_sl, ok_iLst, ok_iTupl, ok_iRng, ok_iStr, ok_yes, oko_some, ok_ok, oko_gN, oko_gT, oko_gNil, oko_gCons, add_ii, add_ss, add_ll, cat_ll, sub_ii, mul_cl, mul_cr, div_ii, mod_ii, pow_ii, iadd_ii, iadd_ss, neg_i, cmp_ii, cmp_ss, in_strs, nin_strs, in_ints, eq_strs, ne_strs, eq_str, ne_str, eq_int, ne_int, sorted_ints, sorted_strs, cutG_map, wipeD_nil, wipeD_cons, atI_two0, atI_two1, atI_c0, atI_c1, isi_bb, isi_ib, isi_ii, eq_bl, ne_bl, eq_nilI, eq_nilS, ne_nilS, List.length_map, in_c, nin_c, is_nn, is_in, is_sn, is_ln, is_tn, oko_isnt, tru_b, tru_n, tru_i, tru_s, tru_l, tru_t, tru_r, len_l, len_t, len_s, len_r, ix_l, ix_t, ix_s, ix_r, int_i, list_l, list_t, sl_l, sl_s, slL_l, repl_s, rng_1, rng_2, List.getElem?_cons_succ, List.getElem?_cons_zero, List.set_cons_succ, List.set_cons_zero, true_and, and_true, Bool.false_eq_true, if_true, if_false, ite_true, ite_false, reduceIte, Bool.not_true, Bool.not_false, Bool.and_true, Bool.true_and, Bool.and_false, Bool.false_and, decide_eq_true_eq, decide_true, decide_false, Bool.and_eq_true, startD, List.map_cons, List.map_nil, List.length_cons, List.length_nil, List.cons_append, List.nil_append, List.zip_cons_cons, List.zip_nil_left, List.zip_nil_right, List.foldl_cons, List.foldl_nil]
          exact ⟨_, rfl⟩
        · exact fun _ h => h
      rintro _ ⟨u10, rfl⟩
      try simp (config := {decide := true}) only [fw_seq, fw_nil, fw_set, fw_ret, fw_retN, fw_if, fw_expr, fw_app, fw_aug, fw_put, fw_augIx, fw_asg, fw_par, fw_nx, fw_bk, fw_ct, ok_var, okv_some, okl_lst, okt_tup, oks_str, oki_int, okb_bl, ok_K, ok_bin, ok_un, ok_cmp, ok_val, ok_tru, ok_and, ok_or, ok_not, ok_eAnd, ok_eOr, ok_eNot, ok_if, ok_nil, ok_cons, ok_lst, ok_tup, ok_call, ok_fn, ok_chain, oko_cB, ok_eChain, ok_pNone, ok_pSome, ok_sl, ok_iLst, ok_iTupl, ok_iRng, ok_iStr, ok_yes, oko_some, ok_ok, oko_gN, oko_gT, oko_gNil, oko_gCons, add_ii, add_ss, add_ll, cat_ll, sub_ii, mul_cl, mul_cr, div_ii, mod_ii, pow_ii, iadd_ii, iadd_ss, neg_i, cmp_ii, cmp_ss, in_strs, nin_strs, in_ints, eq_strs, ne_strs, eq_str, ne_str, eq_int, ne_int, sorted_ints, sorted_strs, cutG_map, wipeD_nil, wipeD_cons, atI_two0, atI_two1, atI_c0, atI_c1, isi_bb, isi_ib, isi_ii, eq_bl, ne_bl, eq_nilI, eq_nilS, ne_nilS, List.length_map, in_c, nin_c, is_nn, is_in, is_sn, is_ln, is_tn, oko_isnt, tru_b, tru_n, tru_i, tru_s, tru_l, tru_t, tru_r, len_l, len_t, len_s, len_r, ix_l, ix_t, ix_s, ix_r, int_i, list_l, list_t, sl_l, sl_s, slL_l, repl_s, rng_1, rng_2, List.getElem?_cons_succ, List.getElem?_cons_zero, List.set_cons_succ, List.set_cons_zero, true_and, and_true, Bool.false_eq_true, if_true, if_false, ite_true, ite_false, reduceIte, Bool.not_true, Bool.not_false, Bool.and_true, Bool.true_and, Bool.and_false, Bool.false_and, decide_eq_true_eq, decide_true, decide_false, Bool.and_eq_true, startD, List.map_cons, List.map_nil, List.length_cons, List.length_nil, List.cons_append, List.nil_append, List.zip_cons_cons, List.zip_nil_left, List.zip_nil_right, List.foldl_cons, List.foldl_nil]
      match aq, ha with
      | [], _ =>
        rw [if_neg (by simp)]
        exact ⟨_, _, _, _, _, _, _, _, _, _, rfl⟩
      | [q], _ =>
        rw [if_neg (by simp)]
        exact ⟨_, _, _, _, _, _, _, _, _, _, rfl⟩
      | q0 :: q1 :: rest, ha =>
        have hq0 := ha q0 (by simp)
        have hq1 := ha q1 (by simp)
        rw [if_pos (by simp; omega)]
        try simp (config := {decide := true}) only [fw_seq, fw_nil, fw_set, fw_ret, fw_retN, fw_if, fw_expr, fw_app, fw_aug, fw_put, fw_augIx, fw_asg, fw_par, fw_nx, fw_bk, fw_ct, ok_var, okv_some, okl_lst, okt_tup, oks_str, oki_int, okb_bl, ok_K, ok_bin, ok_un, ok_cmp, ok_val, ok_tru, ok_and, ok_or, ok_not, ok_eAnd, ok_eOr, ok_eNot, ok_if, ok_nil, ok_cons, ok_lst, ok_tup, ok_call, ok_fn, ok_chain, oko_cB, ok_eChain, ok_pNone, ok_pSome, ok_sl, ok_iLst, ok_iTupl, ok_iRng, ok_iStr, ok_yes, oko_some, ok_ok, oko_gN, oko_gT, oko_gNil, oko_gCons, add_ii, add_ss, add_ll, cat_ll, sub_ii, mul_cl, mul_cr, div_ii, mod_ii, pow_ii, iadd_ii, iadd_ss, neg_i, cmp_ii, cmp_ss, in_strs, nin_strs, in_ints, eq_strs, ne_strs, eq_str, ne_str, eq_int, ne_int, sorted_ints, sorted_strs, cutG_map, wipeD_nil, wipeD_cons, atI_two0, atI_two1, atI_c0, atI_c1, isi_bb, isi_ib, isi_ii, eq_bl, ne_bl, eq_nilI, eq_nilS, ne_nilS, List.length_map, in_c, nin_c, is_nn, is_in, is_sn, is_ln, is_tn, oko_isnt, tru_b, tru_n, tru_i, tru_s, tru_l, tru_t, tru_r, len_l, len_t, len_s, len_r, ix_l, ix_t, ix_s, ix_r, int_i, list_l, list_t, sl_l, sl_s, slL_l, repl_s, rng_1, rng_2, List.getElem?_cons_succ, List.getElem?_cons_zero, List.set_cons_succ, List.set_cons_zero, true_and, and_true, Bool.false_eq_true, if_true, if_false, ite_true, ite_false, reduceIte, Bool.not_true, Bool.not_false, Bool.and_true, Bool.true_and, Bool.and_false, Bool.false_and, decide_eq_true_eq, decide_true, decide_false, Bool.and_eq_true, startD, List.map_cons, List.map_nil, List.length_cons, List.length_nil, List.cons_append, List.nil_append, List.zip_cons_cons, List.zip_nil_left, List.zip_nil_right, List.foldl_cons, List.foldl_nil, ok_lc, sizeLine_eq]
        refine ⟨by omega, by omega, ?_⟩
        split
        · refine ⟨by omega, ?_⟩
          rw [show left.map D.str ++ [D.str q1] = (left ++ [q1]).map D.str by simp]
          have hall : ∀ a ∈ left ++ [q1], a.length ≤ 14 := fun a h => by
            rcases List.mem_append.mp h with h | h
            · exact hl14 a h
            · rw [List.mem_singleton.mp h]; omega
          have hlen5 : (left ++ [q1]).length ≤ 5 := by rw [List.length_append]; simp; omega
          refine lc_map .str (fun _ => true) (fun a => .tup [.str (StrLaws.replL [33] [] a), .str a]) (left ++ [q1]) (fun a h => ?_) ?_
          · have := hall a h
            try simp (config := {decide := true}) only [fw_seq, fw_nil, fw_set, fw_ret, fw_retN, fw_if, fw_expr, fw_app, fw_aug, fw_put, fw_augIx, fw_asg, fw_par, fw_nx, fw_bk, fw_ct, ok_var, okv_some, okl_lst, okt_tup, oks_str, oki_int, okb_bl, ok_K, ok_bin, ok_un, ok_cmp, ok_val, ok_tru, ok_and, ok_or, ok_not, ok_eAnd, ok_eOr, ok_eNot, ok_if, ok_nil, ok_cons, ok_lst, ok_tup, ok_call, ok_fn, ok_chain, oko_cB, ok_eChain, ok_pNone, ok_pSome, ok_sl, ok_iLst, ok_iTupl, ok_iRng, ok_iStr, ok_yes, oko_some, ok_ok, oko_gN, oko_gT, oko_gNil, oko_gCons, add_ii, add_ss, add_ll, cat_ll, sub_ii, mul_cl, mul_cr, div_ii, mod_ii, pow_ii, iadd_ii, iadd_ss, neg_i, cmp_ii, cmp_ss, in_strs, nin_strs, in_ints, eq_strs, ne_strs, eq_str, ne_str, eq_int, ne_int, sorted_ints, sorted_strs, cutG_map, wipeD_nil, wipeD_cons, atI_two0, atI_two1, atI_c0, atI_c1, isi_bb, isi_ib, isi_ii, eq_bl, ne_bl, eq_nilI, eq_nilS, ne_nilS, List.length_map, in_c, nin_c, is_nn, is_in, is_sn, is_ln, is_tn, oko_isnt, tru_b, tru_n, tru_i, tru_s, tru_l, tru_t, tru_r, len_l, len_t, len_s, len_r, ix_l, ix_t, ix_s, ix_r, int_i, list_l, list_t, sl_l, sl_s, slL_l, repl_s, rng_1, rng_2, List.getElem?_cons_succ, List.getElem?_cons_zero, List.set_cons_succ, List.set_cons_zero, true_and, and_true, Bool.false_eq_true, if_true, if_false, ite_true, ite_false, reduceIte, Bool.not_true, Bool.not_false, Bool.and_true, Bool.true_and, Bool.and_false, Bool.false_and, decide_eq_true_eq, decide_true, decide_false, Bool.and_eq_true, startD, List.map_cons, List.map_nil, List.length_cons, List.length_nil, List.cons_append, List.nil_append, List.zip_cons_cons, List.zip_nil_left, List.zip_nil_right, List.foldl_cons, List.foldl_nil, sizeLine_eq]
            intro _
            omega
          rw [filter_tt, show ((left ++ [q1]).map fun a => D.tup [.str (StrLaws.replL [33] [] a), .str a]) = ((left ++ [q1]).map fun a => (StrLaws.replL [33] [] a, a)).map fun p => D.tup [.str p.1, .str p.2] by rw [List.map_map]; rfl]
          obtain ⟨l', hperm, hl'⟩ := sortG_map (fun p : List Nat × List Nat => D.tup [.str p.1, .str p.2]) ((left ++ [q1]).map fun a => (StrLaws.replL [33] [] a, a))
          try simp (config := {decide := true}) only [fw_seq, fw_nil, fw_set, fw_ret, fw_retN, fw_if, fw_expr, fw_app, fw_aug, fw_put, fw_augIx, fw_asg, fw_par, fw_nx, fw_bk, fw_ct, ok_var, okv_some, okl_lst, okt_tup, oks_str, oki_int, okb_bl, ok_K, ok_bin, ok_un, ok_cmp, ok_val, ok_tru, ok_and, ok_or, ok_not, ok_eAnd, ok_eOr, ok_eNot, ok_if, ok_nil, ok_cons, ok_lst, ok_tup, ok_call, ok_fn, ok_chain, oko_cB, ok_eChain, ok_pNone, ok_pSome, ok_sl, ok_iLst, ok_iTupl, ok_iRng, ok_iStr, ok_yes, oko_some, ok_ok, oko_gN, oko_gT, oko_gNil, oko_gCons, add_ii, add_ss, add_ll, cat_ll, sub_ii, mul_cl, mul_cr, div_ii, mod_ii, pow_ii, iadd_ii, iadd_ss, neg_i, cmp_ii, cmp_ss, in_strs, nin_strs, in_ints, eq_strs, ne_strs, eq_str, ne_str, eq_int, ne_int, sorted_ints, sorted_strs, cutG_map, wipeD_nil, wipeD_cons, atI_two0, atI_two1, atI_c0, atI_c1, isi_bb, isi_ib, isi_ii, eq_bl, ne_bl, eq_nilI, eq_nilS, ne_nilS, List.length_map, in_c, nin_c, is_nn, is_in, is_sn, is_ln, is_tn, oko_isnt, tru_b, tru_n, tru_i, tru_s, tru_l, tru_t, tru_r, len_l, len_t, len_s, len_r, ix_l, ix_t, ix_s, ix_r, int_i, list_l, list_t, sl_l, sl_s, slL_l, repl_s, rng_1, rng_2, List.getElem?_cons_succ, List.getElem?_cons_zero, List.set_cons_succ, List.set_cons_zero, true_and, and_true, Bool.false_eq_true, if_true, if_false, ite_true, ite_false, reduceIte, Bool.not_true, Bool.not_false, Bool.and_true, Bool.true_and, Bool.and_false, Bool.false_and, decide_eq_true_eq, decide_true, decide_false, Bool.and_eq_true, startD, List.map_cons, List.map_nil, List.length_cons, List.length_nil, List.cons_append, List.nil_append, List.zip_cons_cons, List.zip_nil_left, List.zip_nil_right, List.foldl_cons, List.foldl_nil, sorted_l, sortOk_pairs, hl', sizeLine_eq]
          refine ⟨by omega, ?_⟩
          have hpl : l'.length = (left ++ [q1]).length := by rw [hperm.length_eq, List.length_map]
          refine lc_map (fun p : List Nat × List Nat => D.tup [.str p.1, .str p.2]) (fun _ => true) (fun p => .str p.2) l' (fun p _ => ?_) ?_
          · try simp (config := {decide := true}) only [fw_seq, fw_nil, fw_set, fw_ret, fw_retN, fw_if, fw_expr, fw_app, fw_aug, fw_put, fw_augIx, fw_asg, fw_par, fw_nx, fw_bk, fw_ct, ok_var, okv_some, okl_lst, okt_tup, oks_str, oki_int, okb_bl, ok_K, ok_bin, ok_un, ok_cmp, ok_val, ok_tru, ok_and, ok_or, ok_not, ok_eAnd, ok_eOr, ok_eNot, ok_if, ok_nil, ok_cons, ok_lst, ok_tup, ok_call, ok_fn, ok_chain, oko_cB, ok_eChain, ok_pNone, ok_pSome, ok_sl, ok_iLst, ok_iTupl, ok_iRng, ok_iStr, ok_yes, oko_some, ok_ok, oko_gN, oko_gT, oko_gNil, oko_gCons, add_ii, add_ss, add_ll, cat_ll, sub_ii, mul_cl, mul_cr, div_ii, mod_ii, pow_ii, iadd_ii, iadd_ss, neg_i, cmp_ii, cmp_ss, in_strs, nin_strs, in_ints, eq_strs, ne_strs, eq_str, ne_str, eq_int, ne_int, sorted_ints, sorted_strs, cutG_map, wipeD_nil, wipeD_cons, atI_two0, atI_two1, atI_c0, atI_c1, isi_bb, isi_ib, isi_ii, eq_bl, ne_bl, eq_nilI, eq_nilS, ne_nilS, List.length_map, in_c, nin_c, is_nn, is_in, is_sn, is_ln, is_tn, oko_isnt, tru_b, tru_n, tru_i, tru_s, tru_l, tru_t, tru_r, len_l, len_t, len_s, len_r, ix_l, ix_t, ix_s, ix_r, int_i, list_l, list_t, sl_l, sl_s, slL_l, repl_s, rng_1, rng_2, List.getElem?_cons_succ, List.getElem?_cons_zero, List.set_cons_succ, List.set_cons_zero, true_and, and_true, Bool.false_eq_true, if_true, if_false, ite_true, ite_false, reduceIte, Bool.not_true, Bool.not_false, Bool.and_true, Bool.true_and, Bool.and_false, Bool.false_and, decide_eq_true_eq, decide_true, decide_false, Bool.and_eq_true, startD, List.map_cons, List.map_nil, List.length_cons, List.length_nil, List.cons_append, List.nil_append, List.zip_cons_cons, List.zip_nil_left, List.zip_nil_right, List.foldl_cons, List.foldl_nil]
          rw [filter_tt, show (l'.map fun p => D.str p.2) = (l'.map (·.2)).map D.str by rw [List.map_map]; rfl]
          have hm5 : (l'.map (·.2)).length ≤ 5 := by rw [List.length_map, hpl]; exact hlen5
          have hsub : ∀ a ∈ left, a ∈ l'.map (·.2) := fun a h => List.mem_map.mpr ⟨(StrLaws.replL [33] [] a, a), hperm.mem_iff.mpr (List.mem_map.mpr ⟨a, List.mem_append_left _ h, rfl⟩), rfl⟩
          generalize l'.map (·.2) = more at hm5 hsub ⊢
          refine ⟨by rw [List.length_map]; omega, ?_⟩
          refine (right_ok r more q0 hrl (by omega)).imp ?_
          rintro _ rfl
          try simp (config := {decide := true}) only [fw_seq, fw_nil, fw_set, fw_ret, fw_retN, fw_if, fw_expr, fw_app, fw_aug, fw_put, fw_augIx, fw_asg, fw_par, fw_nx, fw_bk, fw_ct, ok_var, okv_some, okl_lst, okt_tup, oks_str, oki_int, okb_bl, ok_K, ok_bin, ok_un, ok_cmp, ok_val, ok_tru, ok_and, ok_or, ok_not, ok_eAnd, ok_eOr, ok_eNot, ok_if, ok_nil, ok_cons, ok_lst, ok_tup, ok_call, ok_fn, ok_chain, oko_cB, ok_eChain, ok_pNone, ok_pSome, ok_sl, ok_iLst, ok_iTupl, ok_iRng, ok_iStr, ok_yes, oko_some, ok_ok, oko_gN, oko_gT, oko_gNil, oko_gCons, add_ii, add_ss, add_ll, cat_ll, sub_ii, mul_cl, mul_cr, div_ii, mod_ii, pow_ii, iadd_ii, iadd_ss, neg_i, cmp_ii, cmp_ss, in_strs, nin_strs, in_ints, eq_strs, ne_strs, eq_str, ne_str, eq_int, ne_int, sorted_ints, sorted_strs, cutG_map, wipeD_nil, wipeD_cons, atI_two0, atI_two1, atI_c0, atI_c1, isi_bb, isi_ib, isi_ii, eq_bl, ne_bl, eq_nilI, eq_nilS, ne_nilS, List.length_map, in_c, nin_c, is_nn, is_in, is_sn, is_ln, is_tn, oko_isnt, tru_b, tru_n, tru_i, tru_s, tru_l, tru_t, tru_r, len_l, len_t, len_s, len_r, ix_l, ix_t, ix_s, ix_r, int_i, list_l, list_t, sl_l, sl_s, slL_l, repl_s, rng_1, rng_2, List.getElem?_cons_succ, List.getElem?_cons_zero, List.set_cons_succ, List.set_cons_zero, true_and, and_true, Bool.false_eq_true, if_true, if_false, ite_true, ite_false, reduceIte, Bool.not_true, Bool.not_false, Bool.and_true, Bool.true_and, Bool.and_false, Bool.false_and, decide_eq_true_eq, decide_true, decide_false, Bool.and_eq_true, startD, List.map_cons, List.map_nil, List.length_cons, List.length_nil, List.cons_append, List.nil_append, List.zip_cons_cons, List.zip_nil_left, List.zip_nil_right, List.foldl_cons, List.foldl_nil]
          refine (holds_ok r left q0 hrl (by omega)).imp ?_
          rintro _ rfl
          try simp (config := {decide := true}) only [fw_seq, fw_nil, fw_set, fw_ret, fw_retN, fw_if, fw_expr, fw_app, fw_aug, fw_put, fw_augIx, fw_asg, fw_par, fw_nx, fw_bk, fw_ct, ok_var, okv_some, okl_lst, okt_tup, oks_str, oki_int, okb_bl, ok_K, ok_bin, ok_un, ok_cmp, ok_val, ok_tru, ok_and, ok_or, ok_not, ok_eAnd, ok_eOr, ok_eNot, ok_if, ok_nil, ok_cons, ok_lst, ok_tup, ok_call, ok_fn, ok_chain, oko_cB, ok_eChain, ok_pNone, ok_pSome, ok_sl, ok_iLst, ok_iTupl, ok_iRng, ok_iStr, ok_yes, oko_some, ok_ok, oko_gN, oko_gT, oko_gNil, oko_gCons, add_ii, add_ss, add_ll, cat_ll, sub_ii, mul_cl, mul_cr, div_ii, mod_ii, pow_ii, iadd_ii, iadd_ss, neg_i, cmp_ii, cmp_ss, in_strs, nin_strs, in_ints, eq_strs, ne_strs, eq_str, ne_str, eq_int, ne_int, sorted_ints, sorted_strs, cutG_map, wipeD_nil, wipeD_cons, atI_two0, atI_two1, atI_c0, atI_c1, isi_bb, isi_ib, isi_ii, eq_bl, ne_bl, eq_nilI, eq_nilS, ne_nilS, List.length_map, in_c, nin_c, is_nn, is_in, is_sn, is_ln, is_tn, oko_isnt, tru_b, tru_n, tru_i, tru_s, tru_l, tru_t, tru_r, len_l, len_t, len_s, len_r, ix_l, ix_t, ix_s, ix_r, int_i, list_l, list_t, sl_l, sl_s, slL_l, repl_s, rng_1, rng_2, List.getElem?_cons_succ, List.getElem?_cons_zero, List.set_cons_succ, List.set_cons_zero, true_and, and_true, Bool.false_eq_true, if_true, if_false, ite_true, ite_false, reduceIte, Bool.not_true, Bool.not_false, Bool.and_true, Bool.true_and, Bool.and_false, Bool.false_and, decide_eq_true_eq, decide_true, decide_false, Bool.and_eq_true, startD, List.map_cons, List.map_nil, List.length_cons, List.length_nil, List.cons_append, List.nil_append, List.zip_cons_cons, List.zip_nil_left, List.zip_nil_right, List.foldl_cons, List.foldl_nil]
          split
          · rename_i hh
            refine (holds_ok r more q0 hrl (by omega)).imp ?_
            rintro _ rfl
            try simp (config := {decide := true}) only [fw_seq, fw_nil, fw_set, fw_ret, fw_retN, fw_if, fw_expr, fw_app, fw_aug, fw_put, fw_augIx, fw_asg, fw_par, fw_nx, fw_bk, fw_ct, ok_var, okv_some, okl_lst, okt_tup, oks_str, oki_int, okb_bl, ok_K, ok_bin, ok_un, ok_cmp, ok_val, ok_tru, ok_and, ok_or, ok_not, ok_eAnd, ok_eOr, ok_eNot, ok_if, ok_nil, ok_cons, ok_lst, ok_tup, ok_call, ok_fn, ok_chain, oko_cB, ok_eChain, ok_pNone, ok_pSome, ok_sl, ok_iLst, ok_iTupl, ok_iRng, ok_iStr, ok_yes, oko_some, ok_ok, oko_gN, oko_gT, oko_gNil, oko_gCons, add_ii, add_ss, add_ll, cat_ll, sub_ii, mul_cl, mul_cr, div_ii, mod_ii, pow_ii, iadd_ii, iadd_ss, neg_i, cmp_ii, cmp_ss, in_strs, nin_strs, in_ints, eq_strs, ne_strs, eq_str, ne_str, eq_int, ne_int, sorted_ints, sorted_strs, cutG_map, wipeD_nil, wipeD_cons, atI_two0, atI_two1, atI_c0, atI_c1, isi_bb, isi_ib, isi_ii, eq_bl, ne_bl, eq_nilI, eq_nilS, ne_nilS, List.length_map, in_c, nin_c, is_nn, is_in, is_sn, is_ln, is_tn, oko_isnt, tru_b, tru_n, tru_i, tru_s, tru_l, tru_t, tru_r, len_l, len_t, len_s, len_r, ix_l, ix_t, ix_s, ix_r, int_i, list_l, list_t, sl_l, sl_s, slL_l, repl_s, rng_1, rng_2, List.getElem?_cons_succ, List.getElem?_cons_zero, List.set_cons_succ, List.set_cons_zero, true_and, and_true, Bool.false_eq_true, if_true, if_false, ite_true, ite_false, reduceIte, Bool.not_true, Bool.not_false, Bool.and_true, Bool.true_and, Bool.and_false, Bool.false_and, decide_eq_true_eq, decide_true, decide_false, Bool.and_eq_true, startD, List.map_cons, List.map_nil, List.length_cons, List.length_nil, List.cons_append, List.nil_append, List.zip_cons_cons, List.zip_nil_left, List.zip_nil_right, List.foldl_cons, List.foldl_nil, ag_mono hsub hh]
            exact ⟨_, _, _, _, _, _, _, _, _, _, rfl⟩
          · exact ⟨_, _, _, _, _, _, _, _, _, _, rfl⟩
        · exact ⟨_, _, _, _, _, _, _, _, _, _, rfl⟩
    · exact fun _ h => h
  rintro _ ⟨u6, u7, u8, u9, u10, u11, u12, u13, u14, u15, rfl⟩
  try simp (config := {decide := true}) only [fw_seq, fw_nil, fw_set, fw_ret, fw_retN, fw_if, fw_expr, fw_app, fw_aug, fw_put, fw_augIx, fw_asg, fw_par, fw_nx, fw_bk, fw_ct, ok_var, okv_some, okl_lst, okt_tup, oks_str, oki_int, okb_bl, ok_K, ok_bin, ok_un, ok_cmp, ok_val, ok_tru, ok_and, ok_or, ok_not, ok_eAnd, ok_eOr, ok_eNot, ok_if, ok_nil, ok_cons, ok_lst, ok_tup, ok_call, ok_fn, ok_chain, oko_cB, ok_eChain, ok_pNone, ok_pSome, ok_sl, ok_iLst, ok_iTupl, ok_iRng, ok_iStr, ok_yes, oko_some, ok_ok, oko_gN, oko_gT, oko_gNil, oko_gCons, add_ii, add_ss, add_ll, cat_ll, sub_ii, mul_cl, mul_cr, div_ii, mod_ii, pow_ii, iadd_ii, iadd_ss, neg_i, cmp_ii, cmp_ss, in_strs, nin_strs, in_ints, eq_strs, ne_strs, eq_str, ne_str, eq_int, ne_int, sorted_ints, sorted_strs, cutG_map, wipeD_nil, wipeD_cons, atI_two0, atI_two1, atI_c0, atI_c1, isi_bb, isi_ib, isi_ii, eq_bl, ne_bl, eq_nilI, eq_nilS, ne_nilS, List.length_map, in_c, nin_c, is_nn, is_in, is_sn, is_ln, is_tn, oko_isnt, tru_b, tru_n, tru_i, tru_s, tru_l, tru_t, tru_r, len_l, len_t, len_s, len_r, ix_l, ix_t, ix_s, ix_r, int_i, list_l, list_t, sl_l, sl_s, slL_l, repl_s, rng_1, rng_2, List.getElem?_cons_succ, List.getElem?_cons_zero, List.set_cons_succ, List.set_cons_zero, true_and, and_true, Bool.false_eq_true, if_true, if_false, ite_true, ite_false, reduceIte, Bool.not_true, Bool.not_false, Bool.and_true, Bool.true_and, Bool.and_false, Bool.false_and, decide_eq_true_eq, decide_true, decide_false, Bool.and_eq_true, startD, List.map_cons, List.map_nil, List.length_cons, List.length_nil, List.cons_append, List.nil_append, List.zip_cons_cons, List.zip_nil_left, List.zip_nil_right, List.foldl_cons, List.foldl_nil, oko_eq]
  exact ⟨by rw [rec_ok64]; exact ⟨rfl, rfl⟩, by rw [deq_refl _ 64 (rec_ok64 r)]⟩
end Vl.Kx
open PySem PySem.W PyProof.Rows
set_option maxHeartbeats 0 in
theorem PySem.Challenge.cw_formsforall_k81_rules_that_hold_holds : PySem.Challenge.rw_formsforall_k81_rules_that_hold.Holds := by
  w_on; o_law; k_head; (case hw => w_witness2)
  k_fill
  refine L2.walk_of (l := PySem.Challenge.rw_formsforall_k81_rules_that_hold) (n := 63) (k := 5) (x := "script") (CX := fun w => L2.CX PySem.Challenge.pw_formsforall_k81_rules_that_hold w) (sp := fun w => Vl.spTop _) rfl (by decide) rfl ⟨rfl, by decide, by decide⟩ (fun w h Y => PySem.W.kIn_of Y) ?F (fun _ _ a ns hl _ hS => ⟨a, ns, rfl, hS, hl, fun _ => rfl⟩) (fun _ _ _ _ _ h => Vl.cx_end h)
  case F =>
    intro w mg fa h KX G hmg
    refine' Vl.Kx.all_mk Vl.Kx.law_true KX G hmg ?a0 ?l0 ?e0 ?k0 ?a1 ?l1 ?e1 ?k1 ?a2 ?l2 ?e2 ?k2 ?a3 ?l3 ?e3 ?k3 ?a4 ?l4 ?e4 ?k4 ?a5 ?l5 ?e5 ?k5 ?a6 ?l6 ?e6 ?k6 ?a7 ?l7 ?e7 ?k7 ?a8 ?l8 ?e8 ?k8 ?a9 ?l9 ?e9 ?k9 ?a10 ?l10 ?e10 ?k10 ?a11 ?l11 ?e11 ?k11 ?a12 ?l12 ?e12 ?k12 ?a13 ?l13 ?e13 ?k13 ?y_all ?y_len ?y_int ?y_range ?y_list ?y_sorted ?y_str ?y_isinstance ?y_bool
    (case a0 => k_is); (case l0 => k_is); (case e0 => k_is); (case k0 => k_is); (case a1 => k_is); (case l1 => k_is); (case e1 => k_is); (case k1 => k_is); (case a2 => k_is); (case l2 => k_is); (case e2 => k_is); (case k2 => k_is); (case a3 => k_is); (case l3 => k_is); (case e3 => k_is); (case k3 => k_is); (case a4 => k_is); (case l4 => k_is); (case e4 => k_is); (case k4 => k_is); (case a5 => k_is); (case l5 => k_is); (case e5 => k_is); (case k5 => k_is); (case a6 => k_is); (case l6 => k_is); (case e6 => k_is); (case k6 => k_is); (case a7 => k_is); (case l7 => k_is); (case e7 => k_is); (case k7 => k_is); (case a8 => k_is); (case l8 => k_is); (case e8 => k_is); (case k8 => k_is); (case a9 => k_is); (case l9 => k_is); (case e9 => k_is); (case k9 => k_is); (case a10 => k_is); (case l10 => k_is); (case e10 => k_is); (case k10 => k_is); (case a11 => k_is); (case l11 => k_is); (case e11 => k_is); (case k11 => k_is); (case a12 => k_is); (case l12 => k_is); (case e12 => k_is); (case k12 => k_is); (case a13 => k_is); (case l13 => k_is); (case e13 => k_is); (case k13 => k_is); (case y_all => k_is); (case y_len => k_is); (case y_int => k_is); (case y_range => k_is); (case y_list => k_is); (case y_sorted => k_is); (case y_str => k_is); (case y_isinstance => k_is); (case y_bool => k_is)
