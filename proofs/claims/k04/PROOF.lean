import PyProof.Rows.All
import Wide.All
import OpenK.AllK
import Wide.FinOn
import HandS.ForMost
import HandS.ForExc
import HandS.IsInst
import HandS.SortInts
import HandS.Conv
import HandS.RevRange
import HandS.Style
import KE.DataCmp
import KE.SortData
import PySem.Challenge.RW_evenstretch_k04_whole_numbers
import HandS.EndBits
set_option Elab.async false
set_option linter.all false
set_option maxRecDepth 100000
set_option maxHeartbeats 4000000
/-! Sem1: data, worlds, what an expression is worth. -/
namespace PyS
open PySem PySem.Spec PyProof.Rows L2

inductive D where
  | non | bl (b : Bool) | int (i : Int) | str (x : Str)
  | lst (xs : List D) | tup (xs : List D)
  | ins (c : Nat) (fs : List D)
  | dk (ks : List Int) | dt (ks : List (Int × Int))
  | scr (ns : List Int)

inductive R where
  | ok (d : D) | exc (c : Nat) | bad
inductive RA where
  | ok (ds : List D) | exc (c : Nat) | bad

/-- where the classes of answers and of errors stand -/
structure Ct where
  C : Nat → Addr
  X : Nat → Addr

def flds : Nat → List Str
  | 0 => ["starts", "length"]
  | 1 => ["one", "other", "third", "last"]
  | 2 => ["one", "other", "third", "apart"]
  | _ => []

abbrev Env := List (Option D)

def dkV (ks : List Int) : List (Key × V) := ks.map fun k => (Sum.inl k, V.bl true)
def dtV (ks : List (Int × Int)) : List (List Key × V) := ks.map fun p => ([Sum.inl p.1, Sum.inl p.2], V.bl true)

section
variable (K : PySem.W.Frag) (c : Ct) (W : Hp)
mutual
def Rep : D → V → Prop
  | .non, v => v = .non
  | .bl b, v => v = .bl b
  | .int i, v => v = .int i
  | .str x, v => v = .str x
  | .lst ds, v => ∃ a xs, v = .ref a ∧ W a = some (.lst xs) ∧ Reps ds xs
  | .tup ds, v => ∃ a xs, v = .ref a ∧ W a = some (.tup xs) ∧ Reps ds xs
  | .ins n ds, v => ∃ a dx xs, v = .ref a ∧ W a = some (.ins (c.C n) dx ((flds n).zip xs)) ∧ W dx = some (.own a) ∧ xs.length = (flds n).length ∧ Reps ds xs
  | .dk ks, v => ∃ a, v = .ref a ∧ W a = some (.dK (dkV ks))
  | .dt ks, v => ∃ a, v = .ref a ∧ W a = some (.dT (dtV ks))
  | .scr ns, v => ∃ a, v = .ref a ∧ SqL K W a (ns.map V.int)
def Reps : List D → List V → Prop
  | [], xs => xs = []
  | d :: ds, xs => ∃ y ys, xs = y :: ys ∧ Rep d y ∧ Reps ds ys
end
end

section
variable {K : PySem.W.Frag} {c : Ct} {W W' : Hp}
mutual
theorem Rep.mono (e : Same W W') : ∀ (d : D) (v : V), Rep K c W d v → Rep K c W' d v
  | .non, v, h => h
  | .bl b, v, h => h
  | .int i, v, h => h
  | .str x, v, h => h
  | .lst ds, v, h => by
    obtain ⟨a, xs, rfl, h1, h2⟩ := h
    exact ⟨a, xs, rfl, e _ _ h1, Reps.mono e ds xs h2⟩
  | .tup ds, v, h => by
    obtain ⟨a, xs, rfl, h1, h2⟩ := h
    exact ⟨a, xs, rfl, e _ _ h1, Reps.mono e ds xs h2⟩
  | .ins n ds, v, h => by
    obtain ⟨a, dx, xs, rfl, h1, h2, h3, h4⟩ := h
    exact ⟨a, dx, xs, rfl, e _ _ h1, e _ _ h2, h3, Reps.mono e ds xs h4⟩
  | .dk ks, v, h => by
    obtain ⟨a, rfl, h1⟩ := h
    exact ⟨a, rfl, e _ _ h1⟩
  | .dt ks, v, h => by
    obtain ⟨a, rfl, h1⟩ := h
    exact ⟨a, rfl, e _ _ h1⟩
  | .scr ns, v, h => by
    obtain ⟨a, rfl, h1⟩ := h
    exact ⟨a, rfl, e.seq h1⟩
theorem Reps.mono (e : Same W W') : ∀ (ds : List D) (xs : List V), Reps K c W ds xs → Reps K c W' ds xs
  | [], xs, h => h
  | d :: ds, xs, h => by
    obtain ⟨y, ys, rfl, h1, h2⟩ := h
    exact ⟨y, ys, rfl, Rep.mono e d y h1, Reps.mono e ds ys h2⟩
end
theorem Reps.length : ∀ {ds : List D} {xs : List V}, Reps K c W ds xs → xs.length = ds.length
  | [], xs, h => by
    have e : xs = [] := h
    rw [e]
    rfl
  | d :: ds, xs, h => by
    obtain ⟨y, ys, rfl, _, h2⟩ := h
    rw [List.length_cons, List.length_cons, Reps.length h2]
theorem Reps.get : ∀ {ds : List D} {xs : List V} {i : Nat} {d : D}, Reps K c W ds xs → ds[i]? = some d → ∃ v, xs[i]? = some v ∧ Rep K c W d v
  | [], _, _, _, _, e => by simp at e
  | d :: ds, xs, 0, d', h, e => by
    obtain ⟨y, ys, rfl, h1, _⟩ := h
    have e' : d = d' := Option.some.inj e
    subst e'
    exact ⟨y, rfl, h1⟩
  | d :: ds, xs, i + 1, d', h, e => by
    obtain ⟨y, ys, rfl, _, h2⟩ := h
    exact Reps.get (i := i) h2 e
theorem Reps.getV : ∀ {ds : List D} {xs : List V} {i : Nat} {v : V}, Reps K c W ds xs → xs[i]? = some v → ∃ d, ds[i]? = some d ∧ Rep K c W d v
  | [], xs, i, v, h, e => by
    have e1 : xs = [] := h
    rw [e1] at e
    simp at e
  | d :: ds, xs, 0, v, h, e => by
    obtain ⟨y, ys, rfl, h1, _⟩ := h
    have e' : y = v := Option.some.inj e
    subst e'
    exact ⟨d, rfl, h1⟩
  | d :: ds, xs, i + 1, v, h, e => by
    obtain ⟨y, ys, rfl, _, h2⟩ := h
    exact Reps.getV (i := i) h2 e
theorem Reps.append : ∀ {ds es : List D} {xs ys : List V}, Reps K c W ds xs → Reps K c W es ys → Reps K c W (ds ++ es) (xs ++ ys)
  | [], es, xs, ys, h, h' => by
    have e1 : xs = [] := h
    rw [e1]
    exact h'
  | d :: ds, es, xs, ys, h, h' => by
    obtain ⟨y, zs, rfl, h1, h2⟩ := h
    exact ⟨y, zs ++ ys, rfl, h1, Reps.append h2 h'⟩
theorem Reps.snoc {ds : List D} {xs : List V} {d : D} {v : V} (h : Reps K c W ds xs) (h' : Rep K c W d v) : Reps K c W (ds ++ [d]) (xs ++ [v]) :=
  h.append (show Reps K c W [d] [v] from ⟨v, [], rfl, h', rfl⟩)
theorem Reps.take : ∀ (n : Nat) {ds : List D} {xs : List V}, Reps K c W ds xs → Reps K c W (ds.take n) (xs.take n)
  | 0, ds, xs, _ => by
    rw [List.take_zero, List.take_zero]
    exact rfl
  | n + 1, [], xs, h => by
    have e1 : xs = [] := h
    rw [e1]
    exact rfl
  | n + 1, d :: ds, xs, h => by
    obtain ⟨y, ys, rfl, h1, h2⟩ := h
    exact ⟨y, ys.take n, rfl, h1, Reps.take n h2⟩
theorem Reps.drop : ∀ (n : Nat) {ds : List D} {xs : List V}, Reps K c W ds xs → Reps K c W (ds.drop n) (xs.drop n)
  | 0, ds, xs, h => h
  | n + 1, [], xs, h => by
    have e1 : xs = [] := h
    rw [e1]
    exact rfl
  | n + 1, d :: ds, xs, h => by
    obtain ⟨y, ys, rfl, h1, h2⟩ := h
    exact Reps.drop n h2
theorem Reps.set : ∀ (n : Nat) {ds : List D} {xs : List V} {d : D} {v : V}, Reps K c W ds xs → Rep K c W d v → Reps K c W (ds.set n d) (xs.set n v)
  | n, [], xs, d, v, h, _ => by
    have e1 : xs = [] := h
    rw [e1]
    cases n <;> exact rfl
  | 0, d :: ds, xs, d', v, h, hv => by
    obtain ⟨y, ys, rfl, h1, h2⟩ := h
    exact ⟨v, ys, rfl, hv, h2⟩
  | n + 1, d :: ds, xs, d', v, h, hv => by
    obtain ⟨y, ys, rfl, h1, h2⟩ := h
    exact ⟨y, ys.set n v, rfl, h1, Reps.set n h2 hv⟩
theorem Reps.ints : ∀ (ns : List Int), Reps K c W (ns.map D.int) (ns.map V.int)
  | [] => rfl
  | n :: ns => ⟨.int n, ns.map V.int, rfl, rfl, Reps.ints ns⟩
theorem Reps.of_ints : ∀ {ns : List Int} {xs : List V}, Reps K c W (ns.map D.int) xs → xs = ns.map V.int
  | [], xs, h => h
  | n :: ns, xs, h => by
    obtain ⟨y, ys, rfl, h1, h2⟩ := h
    have e : y = V.int n := h1
    rw [e, Reps.of_ints h2]
    rfl
theorem Reps.of_bls : ∀ {bs : List Bool} {xs : List V}, Reps K c W (bs.map D.bl) xs → xs = bs.map V.bl
  | [], xs, h => h
  | n :: ns, xs, h => by
    obtain ⟨y, ys, rfl, h1, h2⟩ := h
    have e : y = V.bl n := h1
    rw [e, Reps.of_bls h2]
    rfl
end

/-! ### worlds -/
def emp : Hp := fun _ => none
theorem emp_same (H : Hp) : Same emp H := fun _ _ h => nomatch h
def bse (fr : Bool) (W : Hp) : Hp := match fr with | true => emp | false => W
def wor (W V : Hp) : Hp := fun a => match W a with | some o => some o | none => V a
theorem wor_l (W V : Hp) : Same W (wor W V) := fun a o h => by
  unfold wor
  rw [h]
theorem wor_r {W V H : Hp} (h1 : Same W H) (h2 : Same V H) : Same V (wor W V) := fun a o h => by
  unfold wor
  cases e : W a with
  | none => exact h
  | some u =>
    have x := h1 a u e
    rw [h2 a o h] at x
    exact x.symm
theorem wor_in {W V H : Hp} (h1 : Same W H) (h2 : Same V H) : Same (wor W V) H := fun a o h => by
  unfold wor at h
  cases e : W a with
  | none =>
    rw [e] at h
    exact h2 a o h
  | some u =>
    rw [e] at h
    rw [← h]
    exact h1 a u e
theorem wor_or {W V : Hp} {a : Addr} {o : HO} (h : wor W V a = some o) : W a = some o ∨ V a = some o := by
  unfold wor at h
  cases e : W a with
  | none =>
    rw [e] at h
    exact .inr h
  | some u =>
    rw [e] at h
    exact .inl h
theorem wor_none {W V : Hp} {a : Addr} (h : wor W V a = none) : W a = none ∧ V a = none := by
  unfold wor at h
  cases e : W a with
  | none =>
    rw [e] at h
    exact ⟨rfl, h⟩
  | some u =>
    rw [e] at h
    cases h
theorem wor_no {W V : Hp} {a : Addr} (h1 : W a = none) (h2 : V a = none) : wor W V a = none := by
  unfold wor
  rw [h1]
  exact h2
theorem same_new {H : Hp} {p : Addr} {o : HO} (h : H p = none) : Same H (upd H p o) := fun b x e => by
  rw [upd_ne (ne_of_none e h)]
  exact e
theorem Same.no {W H : Hp} {p : Addr} (h : Same W H) (n : H p = none) : W p = none := h.free n
theorem same_upd {W H : Hp} {p : Addr} {o : HO} (h : Same W H) (n : W p = none) : Same W (upd H p o) := fun b x e => by
  rw [upd_ne (ne_of_none e n)]
  exact h b x e
theorem upd_same_in {W H : Hp} {p : Addr} {o : HO} (h : Same W H) (hp : H p = some o) : Same (upd W p o) H := fun b x e => by
  by_cases hb : b = p
  · rw [hb, upd_same] at e
    rw [hb, hp]
    exact e
  · rw [upd_ne hb] at e
    exact h b x e

/-- W' lies in H' and has, beside W, only what is new since H -/
structure Grown (W H H' W' : Hp) : Prop where
  sm : Same W' H'
  new : ∀ a o, W' a = some o → W a = some o ∨ H a = none

section
variable {K : PySem.W.Frag} {c : Ct}
/-- a value whose root is new -/
def Root (K : PySem.W.Frag) (c : Ct) (W' H H' : Hp) : D → V → Prop
  | .non, v => v = .non
  | .bl b, v => v = .bl b
  | .int i, v => v = .int i
  | .str x, v => v = .str x
  | .lst ds, v => ∃ a xs, v = .ref a ∧ H a = none ∧ W' a = none ∧ H' a = some (.lst xs) ∧ Reps K c W' ds xs
  | .tup ds, v => ∃ a xs, v = .ref a ∧ H a = none ∧ W' a = none ∧ H' a = some (.tup xs) ∧ Reps K c W' ds xs
  | .ins n ds, v => ∃ a dx xs, v = .ref a ∧ H a = none ∧ H dx = none ∧ W' a = none ∧ W' dx = none ∧ a ≠ dx ∧ H' a = some (.ins (c.C n) dx ((flds n).zip xs)) ∧ H' dx = some (.own a) ∧ xs.length = (flds n).length ∧ Reps K c W' ds xs
  | .dk ks, v => ∃ a, v = .ref a ∧ H a = none ∧ W' a = none ∧ H' a = some (.dK (dkV ks))
  | .dt ks, v => ∃ a, v = .ref a ∧ H a = none ∧ W' a = none ∧ H' a = some (.dT (dtV ks))
  | .scr _, _ => False
/-- what comes of an expression: with a new root and no part of W (fr), or within a greater world -/
def Res (K : PySem.W.Frag) (c : Ct) (fr : Bool) (W H H' : Hp) (d : D) (v : V) : Prop :=
  ∃ W', Grown (bse fr W) H H' W' ∧ match fr with | true => Root K c W' H H' d v | false => Rep K c W' d v
theorem Root.rep {W' H H' : Hp} (s : Same W' H') : ∀ {d : D} {v : V}, Root K c W' H H' d v → ∃ W'', Same W' W'' ∧ Same W'' H' ∧ (∀ a o, W'' a = some o → W' a = some o ∨ H a = none) ∧ Rep K c W'' d v := by
  intro d v h
  have triv : Rep K c W' d v → ∃ W'', Same W' W'' ∧ Same W'' H' ∧ (∀ a o, W'' a = some o → W' a = some o ∨ H a = none) ∧ Rep K c W'' d v := fun r => ⟨W', fun _ _ q => q, s, fun _ _ q => .inl q, r⟩
  have one : ∀ (a : Addr) (o : HO), H a = none → W' a = none → H' a = some o → Same W' (upd W' a o) ∧ Same (upd W' a o) H' ∧ (∀ b u, upd W' a o b = some u → W' b = some u ∨ H b = none) := fun a o h1 h2 h3 => ⟨same_new h2, upd_same_in s h3, fun b u e => by
    by_cases hb : b = a
    · rw [hb]
      exact .inr h1
    · rw [upd_ne hb] at e
      exact .inl e⟩
  cases d with
  | non => exact triv h
  | bl b => exact triv h
  | int i => exact triv h
  | str x => exact triv h
  | lst ds =>
    obtain ⟨a, xs, rfl, h1, h2, h3, h4⟩ := h
    obtain ⟨s1, s2, s3⟩ := one a _ h1 h2 h3
    exact ⟨_, s1, s2, s3, a, xs, rfl, upd_same, h4.mono s1⟩
  | tup ds =>
    obtain ⟨a, xs, rfl, h1, h2, h3, h4⟩ := h
    obtain ⟨s1, s2, s3⟩ := one a _ h1 h2 h3
    exact ⟨_, s1, s2, s3, a, xs, rfl, upd_same, h4.mono s1⟩
  | ins n ds =>
    obtain ⟨a, dx, xs, rfl, h1, h1', h2, h2', ne, h3, h3', h5, h4⟩ := h
    obtain ⟨s1, s2, s3⟩ := one a _ h1 h2 h3
    have hd : upd W' a (.ins (c.C n) dx ((flds n).zip xs)) dx = none := by
      rw [upd_ne (Ne.symm ne)]
      exact h2'
    have t1 := same_new (o := HO.own a) hd
    have t2 := upd_same_in s2 h3'
    refine ⟨_, s1.trans t1, t2, fun b u e => ?_, a, dx, xs, rfl, t1 _ _ upd_same, upd_same, h5, h4.mono (s1.trans t1)⟩
    by_cases hb : b = dx
    · rw [hb]
      exact .inr h1'
    · rw [upd_ne hb] at e
      exact s3 b u e
  | dk ks =>
    obtain ⟨a, rfl, h1, h2, h3⟩ := h
    obtain ⟨s1, s2, s3⟩ := one a _ h1 h2 h3
    exact ⟨_, s1, s2, s3, a, rfl, upd_same⟩
  | dt ks =>
    obtain ⟨a, rfl, h1, h2, h3⟩ := h
    obtain ⟨s1, s2, s3⟩ := one a _ h1 h2 h3
    exact ⟨_, s1, s2, s3, a, rfl, upd_same⟩
  | scr ns => exact h.elim
/-- any outcome, in a world -/
theorem Res.rep {fr : Bool} {W H H' : Hp} {d : D} {v : V} (h : Res K c fr W H H' d v) : ∃ W', Grown (bse fr W) H H' W' ∧ Rep K c W' d v := by
  obtain ⟨W', g, h⟩ := h
  cases fr with
  | false => exact ⟨W', g, h⟩
  | true =>
    obtain ⟨W'', s1, s2, s3, r⟩ := Root.rep g.sm h
    refine ⟨W'', ⟨s2, fun a o e => ?_⟩, r⟩
    rcases s3 a o e with z | z
    · exact g.new a o z
    · exact .inr z
theorem Grown.base {fr : Bool} {W H H' W' : Hp} (g : Grown (bse fr W) H H' W') : Grown W H H' W' := by
  cases fr with
  | false => exact g
  | true => exact ⟨g.sm, fun a o e => (g.new a o e).elim (fun z => nomatch z) .inr⟩
theorem Res.any {fr : Bool} {W H H' : Hp} {d : D} {v : V} (h : Res K c fr W H H' d v) : Res K c false W H H' d v := by
  obtain ⟨W', g, r⟩ := h.rep
  exact ⟨W', g.base, r⟩
/-- .. in the heap itself -/
theorem Res.at {fr : Bool} {W H H' : Hp} {d : D} {v : V} (h : Res K c fr W H H' d v) : Rep K c H' d v := by
  obtain ⟨W', g, r⟩ := h.rep
  exact r.mono g.sm
def sval : D → Option V
  | .non => some .non
  | .bl b => some (.bl b)
  | .int i => some (.int i)
  | .str x => some (.str x)
  | _ => none
theorem Res.scal {fr : Bool} {W H H' : Hp} {d : D} {v : V} (h : sval d = some v) : Res K c fr W H H' d v := by
  refine ⟨emp, ⟨emp_same _, fun _ _ e => nomatch e⟩, ?_⟩
  cases d <;> simp only [sval, Option.some.injEq, reduceCtorEq] at h <;> subst h <;> cases fr <;> rfl
theorem Grown.trans {W H H1 H2 W1 : Hp} (s : Same H H1) (g : Grown W H1 H2 W1) : Grown W H H2 W1 := ⟨g.sm, fun a o e => (g.new a o e).elim .inl fun z => .inr (s.free z)⟩
theorem Grown.later {W H H1 H2 W1 : Hp} (g : Grown W H H1 W1) (s : Same H1 H2) : Grown W H H2 W1 := ⟨fun a o e => s a o (g.sm a o e), g.new⟩
end
end PyS
set_option maxRecDepth 100000
set_option maxHeartbeats 4000000
/-! Sem2: expressions. -/
namespace PyS
open PySem PySem.Spec PyProof.Rows L2

section
variable {K : PySem.W.Frag} {c : Ct} {W W' H H1 H2 : Hp} {d : D} {v : V} {fr : Bool}
theorem Root.trans (s : Same H H1) (h : Root K c W' H1 H2 d v) : Root K c W' H H2 d v := by
  cases d with
  | non => exact h
  | bl b => exact h
  | int i => exact h
  | str x => exact h
  | lst ds =>
    obtain ⟨a, xs, e, h1, h2⟩ := h
    exact ⟨a, xs, e, s.free h1, h2⟩
  | tup ds =>
    obtain ⟨a, xs, e, h1, h2⟩ := h
    exact ⟨a, xs, e, s.free h1, h2⟩
  | ins n ds =>
    obtain ⟨a, dx, xs, e, h1, h1', h2⟩ := h
    exact ⟨a, dx, xs, e, s.free h1, s.free h1', h2⟩
  | dk ks =>
    obtain ⟨a, e, h1, h2⟩ := h
    exact ⟨a, e, s.free h1, h2⟩
  | dt ks =>
    obtain ⟨a, e, h1, h2⟩ := h
    exact ⟨a, e, s.free h1, h2⟩
  | scr ns => exact h
theorem Root.later (s : Same H1 H2) (h : Root K c W' H H1 d v) : Root K c W' H H2 d v := by
  cases d with
  | non => exact h
  | bl b => exact h
  | int i => exact h
  | str x => exact h
  | lst ds =>
    obtain ⟨a, xs, e, h1, h2, h3, h4⟩ := h
    exact ⟨a, xs, e, h1, h2, s _ _ h3, h4⟩
  | tup ds =>
    obtain ⟨a, xs, e, h1, h2, h3, h4⟩ := h
    exact ⟨a, xs, e, h1, h2, s _ _ h3, h4⟩
  | ins n ds =>
    obtain ⟨a, dx, xs, e, h1, h1', h2, h2', h5, h3, h3', h4⟩ := h
    exact ⟨a, dx, xs, e, h1, h1', h2, h2', h5, s _ _ h3, s _ _ h3', h4⟩
  | dk ks =>
    obtain ⟨a, e, h1, h2, h3⟩ := h
    exact ⟨a, e, h1, h2, s _ _ h3⟩
  | dt ks =>
    obtain ⟨a, e, h1, h2, h3⟩ := h
    exact ⟨a, e, h1, h2, s _ _ h3⟩
  | scr ns => exact h
theorem Res.trans (s : Same H H1) (h : Res K c fr W H1 H2 d v) : Res K c fr W H H2 d v := by
  obtain ⟨W', g, r⟩ := h
  refine ⟨W', g.trans s, ?_⟩
  cases fr with
  | true => exact Root.trans s r
  | false => exact r
theorem Res.later (h : Res K c fr W H H1 d v) (s : Same H1 H2) : Res K c fr W H H2 d v := by
  obtain ⟨W', g, r⟩ := h
  refine ⟨W', g.later s, ?_⟩
  cases fr with
  | true => exact Root.later s r
  | false => exact r
def Slots (K : PySem.W.Frag) (c : Ct) (W : Hp) (σ : L2.St) (env : Env) : Prop := σ.length = env.length ∧ ∀ (i : Nat) (d : D), env[i]? = some (some d) → ∃ v, σ[i]? = some (some v) ∧ Rep K c W d v
theorem Slots.mono {σ : L2.St} {env : Env} (s : Same W W') (h : Slots K c W σ env) : Slots K c W' σ env := ⟨h.1, fun i d e => by
  obtain ⟨v, h1, h2⟩ := h.2 i d e
  exact ⟨v, h1, h2.mono s⟩⟩
/-- a list of values -/
def ResA (K : PySem.W.Frag) (c : Ct) (fr : Bool) (W H H' : Hp) (ds : List D) (vs : List V) : Prop := ∃ W', Grown (bse fr W) H H' W' ∧ Reps K c W' ds vs
theorem ResA.trans {ds : List D} {vs : List V} (s : Same H H1) (h : ResA K c fr W H1 H2 ds vs) : ResA K c fr W H H2 ds vs := by
  obtain ⟨W', g, r⟩ := h
  exact ⟨W', g.trans s, r⟩
theorem ResA.later {ds : List D} {vs : List V} (h : ResA K c fr W H H1 ds vs) (s : Same H1 H2) : ResA K c fr W H H2 ds vs := by
  obtain ⟨W', g, r⟩ := h
  exact ⟨W', g.later s, r⟩
theorem ResA.at {ds : List D} {vs : List V} (h : ResA K c fr W H H1 ds vs) : Reps K c H1 ds vs := by
  obtain ⟨W', g, r⟩ := h
  exact r.mono g.sm
theorem Res.one (h : Res K c fr W H H1 d v) : ResA K c fr W H H1 [d] [v] := by
  obtain ⟨W', g, r⟩ := h.rep
  exact ⟨W', g, v, [], rfl, r, rfl⟩
/-- two worlds that came one after the other -/
theorem Grown.or {f1 f2 : Bool} {W1 W2 : Hp} (g1 : Grown (bse f1 W) H H1 W1) (g2 : Grown (bse f2 W) H H1 W2) : Grown (bse (f1 && f2) W) H H1 (wor W1 W2) := by
  refine ⟨wor_in g1.sm g2.sm, fun a o e => ?_⟩
  cases f1 <;> cases f2
  · rcases wor_or e with z | z
    · exact g1.new a o z
    · exact g2.new a o z
  · rcases wor_or e with z | z
    · exact g1.new a o z
    · exact .inr ((g2.new a o z).elim (fun q => nomatch q) id)
  · rcases wor_or e with z | z
    · exact .inr ((g1.new a o z).elim (fun q => nomatch q) id)
    · exact g2.new a o z
  · rcases wor_or e with z | z
    · exact g1.new a o z
    · exact g2.new a o z
theorem ResA.cons {f1 f2 : Bool} {ds : List D} {vs : List V} (h1 : Res K c f1 W H H1 d v) (h2 : ResA K c f2 W H H1 ds vs) : ResA K c (f1 && f2) W H H1 (d :: ds) (v :: vs) := by
  obtain ⟨W1, g1, r1⟩ := h1.rep
  obtain ⟨W2, g2, r2⟩ := h2
  exact ⟨wor W1 W2, g1.or g2, v, vs, rfl, r1.mono (wor_l _ _), r2.mono (wor_r g1.sm g2.sm)⟩
theorem ResA.nil : ResA K c fr W H H1 [] [] := ⟨emp, ⟨emp_same _, fun _ _ e => nomatch e⟩, rfl⟩
end

/-! ### the readings -/
def Post (K : PySem.W.Frag) (c : Ct) (E : XK) (fr : Bool) (W H : Hp) (r : R) (Q : VK) : Prop := match r with
  | .ok d => ∀ v H', Same H H' → Res K c fr W H H' d v → Q v H'
  | .exc n => ∀ H', Same H H' → E (.ref (c.X n)) none H'
  | .bad => False
def tOf (K : PySem.W.Frag) (c : Ct) (E : XK) (fr : Bool) (f : Env → R) : TE := fun σ H Q => ∃ W env, Slots K c W σ env ∧ Same W H ∧ Post K c E fr W H (f env) Q
def PostT (c : Ct) (E : XK) (H : Hp) (r : R) (Q : Bool → Hp → Prop) : Prop := match r with
  | .ok (.bl b) => ∀ H', Same H H' → Q b H'
  | .ok _ => False
  | .exc n => ∀ H', Same H H' → E (.ref (c.X n)) none H'
  | .bad => False
def tOfT (K : PySem.W.Frag) (c : Ct) (E : XK) (f : Env → R) : TT := fun σ H Q => ∃ W env, Slots K c W σ env ∧ Same W H ∧ PostT c E H (f env) Q
def PostA (K : PySem.W.Frag) (c : Ct) (E : XK) (fr : Bool) (W H : Hp) (r : RA) (Q : List V → Hp → Prop) : Prop := match r with
  | .ok ds => ∀ vs H', Same H H' → ResA K c fr W H H' ds vs → Q vs H'
  | .exc n => ∀ H', Same H H' → E (.ref (c.X n)) none H'
  | .bad => False
def tOfA (K : PySem.W.Frag) (c : Ct) (E : XK) (fr : Bool) (f : Env → RA) : TA := fun σ H Q => ∃ W env, Slots K c W σ env ∧ Same W H ∧ PostA K c E fr W H (f env) Q

/-- the expression e is worth f -/
abbrev PyE (c : Ct) (X : Cx) (E : XK) (fr : Bool) (e : Expr) (f : Env → R) : Prop := PE X e (tOf X.K c E fr f)
abbrev PyT (c : Ct) (X : Cx) (E : XK) (e : Expr) (f : Env → R) : Prop := PT X e (tOfT X.K c E f)
abbrev PyA (c : Ct) (X : Cx) (E : XK) (fr : Bool) (es : List Expr) (f : Env → RA) : Prop := PA X es (tOfA X.K c E fr f)

section
variable {X : Cx}
theorem PE.weak {e : Expr} {t t' : TE} (h : PE X e t) (w : ∀ σ H Q, t' σ H Q → t σ H Q) : PE X e t' := ⟨fun pins s σ H Q I q => h.run pins s σ H Q I (w _ _ _ q)⟩
theorem PT.weak {e : Expr} {t t' : TT} (h : PT X e t) (w : ∀ σ H Q, t' σ H Q → t σ H Q) : PT X e t' := ⟨fun pins s σ H Q I q => h.run pins s σ H Q I (w _ _ _ q)⟩
theorem PA.weak {e : List Expr} {t t' : TA} (h : PA X e t) (w : ∀ σ H Q, t' σ H Q → t σ H Q) : PA X e t' := ⟨fun pos pins s σ H Q I q => h.run pos pins s σ H Q I (w _ _ _ q)⟩
theorem PS.weak {e : Stmt} {t t' : TS} (h : PS X e t) (w : ∀ D σ H, t' D σ H → t D σ H) : PS X e t' := ⟨fun pins s σ H Q I q => h.run pins s σ H Q I (w _ _ _ q)⟩
theorem PSs.weak {e : List Stmt} {t t' : TS} (h : PSs X e t) (w : ∀ D σ H, t' D σ H → t D σ H) : PSs X e t' := ⟨fun pins s σ H Q I q => h.run pins s σ H Q I (w _ _ _ q)⟩
end

/-! ### names and constants -/
def e_var (i : Nat) : Env → R := fun env => match env[i]? with
  | some (some d) => .ok d
  | _ => .bad
def scOnly : D → R
  | .non => .ok .non
  | .bl b => .ok (.bl b)
  | .int i => .ok (.int i)
  | .str x => .ok (.str x)
  | _ => .bad
def e_ivar (i : Nat) : Env → R := fun env => match env[i]? with
  | some (some d) => scOnly d
  | _ => .bad
def e_c (d : D) : Env → R := fun _ => .ok d

section
variable {c : Ct} {X : Cx} {E : XK} {e a b : Expr} {f fa fb : Env → R} {fr fra frb : Bool} {pos : Pos} {K : PySem.W.Frag}
/-- what is new may pass for any -/
theorem py_any (h : PyE c X E fr e f) : PyE c X E false e f := PE.weak h fun σ H Q ⟨W, env, sl, sm, p⟩ => ⟨W, env, sl, sm, by
  cases q : f env with
  | ok d =>
    rw [q] at p
    exact fun v H' s r => p v H' s r.any
  | exc n =>
    rw [q] at p
    exact p
  | bad =>
    rw [q] at p
    exact p⟩
theorem py_var (i : Nat) {x : Str} (hN : X.N[i]? = some x := by rfl) (hv : Vis X.env.scope x := by first | exact Or.inl rfl | exact Or.inr (Or.inl rfl) | exact Or.inr (Or.inr rfl)) (hd : (x == ("__debug__" : Str)) = false := by decide)
    (hcd : (x == ("__classdict__" : Str)) = false := by decide) : PyE c X E false (.Name x pos) (e_var i) := PE.weak (pe_var hN hv hd hcd) fun σ H Q ⟨W, env, sl, sm, p⟩ => by
  unfold e_var at p
  split at p
  · rename_i d hd
    obtain ⟨v, h1, h2⟩ := sl.2 i d hd
    exact ⟨v, h1, p v H (Same.refl H) ⟨W, ⟨sm, fun a o z => .inl z⟩, h2⟩⟩
  · exact p.elim
theorem scOnly_ok {d d' : D} (h : scOnly d = .ok d') : d' = d ∧ ∃ v, sval d = some v := by
  cases d <;> simp only [scOnly, R.ok.injEq, reduceCtorEq] at h <;> subst h <;> exact ⟨rfl, _, rfl⟩
theorem scOnly_exc {d : D} {n : Nat} (h : scOnly d = .exc n) : False := by
  cases d <;> simp [scOnly] at h
theorem sval_rep {W : Hp} {d : D} {v u : V} (h : sval d = some v) (r : Rep K c W d u) : u = v := by
  cases d <;> simp only [sval, Option.some.injEq, reduceCtorEq] at h <;> subst h <;> exact r
theorem py_ivar (i : Nat) {x : Str} (hN : X.N[i]? = some x := by rfl) (hv : Vis X.env.scope x := by first | exact Or.inl rfl | exact Or.inr (Or.inl rfl) | exact Or.inr (Or.inr rfl)) (hd : (x == ("__debug__" : Str)) = false := by decide)
    (hcd : (x == ("__classdict__" : Str)) = false := by decide) : PyE c X E true (.Name x pos) (e_ivar i) := PE.weak (pe_var hN hv hd hcd) fun σ H Q ⟨W, env, sl, sm, p⟩ => by
  unfold e_ivar at p
  split at p
  · rename_i d hd
    obtain ⟨v, h1, h2⟩ := sl.2 i d hd
    cases q : scOnly d with
    | ok d' =>
      rw [q] at p
      obtain ⟨rfl, u, hu⟩ := scOnly_ok q
      obtain rfl := sval_rep hu h2
      exact ⟨_, h1, p _ H (Same.refl H) (Res.scal hu)⟩
    | exc n => exact (scOnly_exc q).elim
    | bad =>
      rw [q] at p
      exact p.elim
  · exact p.elim
theorem py_int {i : Int} {j : Nat} : PyE c X E true (.Constant (.int i) j pos) (e_c (.int i)) := PE.weak pe_int fun σ H Q ⟨W, env, sl, sm, p⟩ => p _ H (Same.refl H) (Res.scal rfl)
theorem py_bl {i : Bool} {j : Nat} : PyE c X E true (.Constant (.bool i) j pos) (e_c (.bl i)) := PE.weak pe_bl fun σ H Q ⟨W, env, sl, sm, p⟩ => p _ H (Same.refl H) (Res.scal rfl)
theorem py_non {j : Nat} : PyE c X E true (.Constant .none j pos) (e_c .non) := PE.weak pe_non fun σ H Q ⟨W, env, sl, sm, p⟩ => p _ H (Same.refl H) (Res.scal rfl)
theorem py_str {x : Str} {j : Nat} : PyE c X E true (.Constant (.str x) j pos) (e_c (.str x)) := PE.weak pe_str fun σ H Q ⟨W, env, sl, sm, p⟩ => p _ H (Same.refl H) (Res.scal rfl)
/-- a module's whole number -/
theorem py_gint {x : Str} {i : Int} {u : Value} (hg : Gl X x) (hm : X.mg x = some u) (r : ∃ t, u = .int i t) (hd : (x == ("__debug__" : Str)) = false := by decide) : PyE c X E true (.Name x pos) (e_c (.int i)) :=
  PE.weak (pe_glob (v := .int i) hg hm r hd) fun σ H Q ⟨W, env, sl, sm, p⟩ => p _ H (Same.refl H) (Res.scal rfl)

/-! ### operations -/
def r2 (g : D → D → R) (a b : R) : R := match a with
  | .ok x => (match b with
    | .ok y => g x y
    | .exc n => .exc n
    | .bad => .bad)
  | .exc n => .exc n
  | .bad => .bad
def r1 (g : D → R) (a : R) : R := match a with
  | .ok x => g x
  | .exc n => .exc n
  | .bad => .bad
def e_op (g : D → D → R) (fa fb : Env → R) : Env → R := fun env => r2 g (fa env) (fb env)
def e_un (g : D → R) (fa : Env → R) : Env → R := fun env => r1 g (fa env)
/-- what an operation gives -/
def Gives (K : PySem.W.Frag) (c : Ct) (fr : Bool) (W H H1 : Hp) (r : R) (Q : VK) : Prop := match r with
  | .ok d => ∀ v H', Same H1 H' → Res K c fr W H H' d v → Q v H'
  | .exc _ => False
  | .bad => False
def OpG (K : PySem.W.Frag) (c : Ct) (fra frb fr : Bool) (r : R2) (g : D → D → R) : Prop := ∀ (W H H1 : Hp) (x y : D) (vx vy : V) (Q : VK), Same W H → Same H H1 → Res K c fra W H H1 x vx → Res K c frb W H H1 y vy → (∀ n, g x y ≠ .exc n) ∧ (Gives K c fr W H H1 (g x y) Q → r vx vy H1 Q)
theorem op_read {r : R2} {g : D → D → R} (hr : OpG K c fra frb fr r g) {σ : L2.St} {H : Hp} {Q : VK} (h : tOf K c E fr (e_op g fa fb) σ H Q) : tOp r (tOf K c E fra fa) (tOf K c E frb fb) σ H Q := by
  obtain ⟨W, env, sl, sm, p⟩ := h
  refine ⟨W, env, sl, sm, ?_⟩
  unfold e_op at p
  cases qa : fa env with
  | bad =>
    rw [qa] at p
    exact p
  | exc n =>
    rw [qa] at p
    exact p
  | ok x =>
    rw [qa] at p
    intro v1 H1 s1 r1'
    refine ⟨W, env, sl, sm.trans s1, ?_⟩
    cases qb : fb env with
    | bad =>
      rw [qb] at p
      exact p.elim
    | exc n =>
      rw [qb] at p
      exact fun H' s => p H' (s1.trans s)
    | ok y =>
      rw [qb] at p
      intro v2 H2 s2 r2'
      obtain ⟨nx, k⟩ := hr W H H2 x y v1 v2 Q sm (s1.trans s2) (r1'.later s2) (r2'.trans s1)
      refine k ?_
      have p' : Post K c E fr W H (g x y) Q := p
      cases q : g x y with
      | ok d =>
        rw [q] at p'
        exact fun v H' s r => p' v H' ((s1.trans s2).trans s) r
      | exc n => exact (nx n q).elim
      | bad =>
        rw [q] at p'
        exact p'
def UnG (K : PySem.W.Frag) (c : Ct) (fra fr : Bool) (r : V → Hp → VK → Prop) (g : D → R) : Prop := ∀ (W H H1 : Hp) (x : D) (vx : V) (Q : VK), Same W H → Same H H1 → Res K c fra W H H1 x vx → (∀ n, g x ≠ .exc n) ∧ (Gives K c fr W H H1 (g x) Q → r vx H1 Q)
theorem un_read {r : V → Hp → VK → Prop} {g : D → R} (hr : UnG K c fra fr r g) {σ : L2.St} {H : Hp} {Q : VK} (h : tOf K c E fr (e_un g fa) σ H Q) : tUn r (tOf K c E fra fa) σ H Q := by
  obtain ⟨W, env, sl, sm, p⟩ := h
  refine ⟨W, env, sl, sm, ?_⟩
  unfold e_un at p
  cases qa : fa env with
  | bad =>
    rw [qa] at p
    exact p
  | exc n =>
    rw [qa] at p
    exact p
  | ok x =>
    rw [qa] at p
    intro v1 H1 s1 r1'
    obtain ⟨nx, k⟩ := hr W H H1 x v1 Q sm s1 r1'
    refine k ?_
    have p' : Post K c E fr W H (g x) Q := p
    cases q : g x with
    | ok d =>
      rw [q] at p'
      exact fun v H' s r => p' v H' (s1.trans s) r
    | exc n => exact (nx n q).elim
    | bad =>
      rw [q] at p'
      exact p'
theorem py_op {op : Operator} {r : R2} {g : D → D → R} (ho : OpR X (binaryOp op) r) (hr : OpG X.K c fra frb fr r g) (ha : PyE c X E fra a fa) (hb : PyE c X E frb b fb) : PyE c X E fr (.BinOp a op b pos) (e_op g fa fb) :=
  PE.weak (pe_op ho ha hb) fun _ _ _ h => op_read hr h
theorem py_un {op : UnaryOp} {r : V → Hp → VK → Prop} {g : D → R} (ho : UnR X (unaryOp op) r) (hr : UnG X.K c fra fr r g) (ha : PyE c X E fra a fa) : PyE c X E fr (.UnaryOp op a pos) (e_un g fa) :=
  PE.weak (pe_un ho ha) fun _ _ _ h => un_read hr h
theorem py_cmp {op : CmpOp} {r : R2} {g : D → D → R} (ho : OpR X (compareOp op) r) (hr : OpG X.K c fra frb fr r g) (ha : PyE c X E fra a fa) (hb : PyE c X E frb b fb) (hm : behindInMarks op b = false) : PyE c X E fr (.Compare a [op] [b] pos) (e_op g fa fb) :=
  PE.weak (pe_cmpR ho ha hb hm) fun _ _ _ h => op_read hr h

/-- two whole numbers, a value without parts -/
def gI (C : Int → Int → Bool) (k : Int → Int → D) : D → D → R
  | .int i, .int j => if C i j then .ok (k i j) else .bad
  | _, _ => .bad
theorem opg_int {C : Int → Int → Bool} {P : Int → Int → Prop} {k : Int → Int → D} {kv : Int → Int → V} (hC : ∀ i j, C i j = true → P i j) (hk : ∀ i j, sval (k i j) = some (kv i j)) : OpG K c fra frb true (rI P kv) (gI C k) := by
  intro W H H1 x y vx vy Q sW s rx ry
  have ex := rx.at
  have ey := ry.at
  constructor
  · intro n h
    cases x <;> cases y <;> simp only [gI, reduceCtorEq] at h
    split at h <;> cases h
  · intro g
    cases x <;> cases y <;> try exact g.elim
    rename_i i j
    have e1 : vx = .int i := ex
    have e2 : vy = .int j := ey
    subst e1 e2
    by_cases hc : C i j = true
    · rw [show gI C k (.int i) (.int j) = .ok (k i j) from if_pos hc] at g
      exact ⟨i, j, rfl, rfl, hC i j hc, g _ H1 (Same.refl _) (Res.scal (hk i j))⟩
    · rw [show gI C k (.int i) (.int j) = .bad from if_neg hc] at g
      exact g.elim
theorem opg_int0 {k : Int → Int → D} {kv : Int → Int → V} (hk : ∀ i j, sval (k i j) = some (kv i j)) : OpG K c fra frb true (rI0 kv) (gI (fun _ _ => true) k) := by
  intro W H H1 x y vx vy Q sW s rx ry
  obtain ⟨h1, h2⟩ := opg_int (K := K) (c := c) (fra := fra) (frb := frb) (C := fun _ _ => true) (P := fun _ _ => True) (kv := kv) (fun _ _ _ => trivial) hk W H H1 x y vx vy Q sW s rx ry
  refine ⟨h1, fun g => ?_⟩
  obtain ⟨i, j, e1, e2, _, q⟩ := h2 g
  exact ⟨i, j, e1, e2, q⟩
def g_add := gI (fun _ _ => true) fun i j => .int (i + j)
def g_sub := gI (fun _ _ => true) fun i j => .int (i - j)
def g_lt := gI (fun _ _ => true) fun i j => .bl (decide (i < j))
def g_le := gI (fun _ _ => true) fun i j => .bl (decide (i ≤ j))
def g_gt := gI (fun _ _ => true) fun i j => .bl (decide (j < i))
def g_ge := gI (fun _ _ => true) fun i j => .bl (decide (j ≤ i))
/-- factors of together less than 2 ^ 27 bits -/
def mulOk (i j : Int) : Bool := decide (i.natAbs.log2 + j.natAbs.log2 < 134000000)
def g_mul := gI mulOk fun i j => .int (i * j)
/-- a divisor above 0, below 2 ^ 9000 -/
def divOk (_ j : Int) : Bool := decide (0 < j) && decide (j.natAbs.log2 < 9000)
def g_div := gI divOk fun i j => .int (i / j)
def modOk (_ j : Int) : Bool := decide (0 < j)
def g_mod := gI modOk fun i j => .int (i % j)
theorem mulOk_ok {i j : Int} (h : mulOk i j = true) : IntMulOk i j := by
  have b : ∀ x : Int, Builtin.Int.intBits x ≤ x.natAbs.log2 + 1 := fun x => by
    unfold Builtin.Int.intBits
    split <;> omega
  have h1 := b i
  have h2 := b j
  have h3 : i.natAbs.log2 + j.natAbs.log2 < 134000000 := of_decide_eq_true h
  have e : bitsLine = 134217728 := by decide
  unfold IntMulOk
  intro z
  rw [Bool.and_eq_true] at z
  have z2 := z.2
  unfold Builtin.Int.intTooBig at z2
  have z3 := of_decide_eq_true z2
  rw [e] at z3
  omega
theorem op_mulB : OpR X (binaryOp .Mult) (rI (fun i j => mulOk i j = true) fun i j => .int (i * j)) := opI fun _ _ _ _ _ _ _ hc q => mul_int q (mulOk_ok hc)
theorem op_fdivB : OpR X (binaryOp .FloorDiv) (rI (fun i j => divOk i j = true) fun i j => .int (i / j)) := opI fun i j _ _ _ _ _ hc q => by
  unfold divOk at hc
  rw [Bool.and_eq_true, decide_eq_true_eq, decide_eq_true_eq] at hc
  have h1 : (0 : Int) < j := hc.1
  exact floordiv_int (by omega) (by rw [Int.fdiv_eq_ediv_of_nonneg i (by omega)]; exact q) (.inl (PyProof.noPylong_of_log2 hc.2))
theorem py_add (ha : PyE c X E fra a fa) (hb : PyE c X E frb b fb) : PyE c X E true (.BinOp a .Add b pos) (e_op g_add fa fb) := py_op op_add (opg_int0 fun _ _ => rfl) ha hb
theorem py_sub (ha : PyE c X E fra a fa) (hb : PyE c X E frb b fb) : PyE c X E true (.BinOp a .Sub b pos) (e_op g_sub fa fb) := py_op op_sub (opg_int0 fun _ _ => rfl) ha hb
theorem py_mul (ha : PyE c X E fra a fa) (hb : PyE c X E frb b fb) : PyE c X E true (.BinOp a .Mult b pos) (e_op g_mul fa fb) := py_op op_mulB (opg_int (fun _ _ h => h) fun _ _ => rfl) ha hb
theorem py_div (ha : PyE c X E fra a fa) (hb : PyE c X E frb b fb) : PyE c X E true (.BinOp a .FloorDiv b pos) (e_op g_div fa fb) := py_op op_fdivB (opg_int (fun _ _ h => h) fun _ _ => rfl) ha hb
theorem py_mod (ha : PyE c X E fra a fa) (hb : PyE c X E frb b fb) : PyE c X E true (.BinOp a .Mod b pos) (e_op g_mod fa fb) := py_op op_mod (opg_int (fun _ _ h => of_decide_eq_true h) fun _ _ => rfl) ha hb
theorem py_lt (ha : PyE c X E fra a fa) (hb : PyE c X E frb b fb) : PyE c X E true (.Compare a [.Lt] [b] pos) (e_op g_lt fa fb) := py_cmp op_lt (opg_int0 fun _ _ => rfl) ha hb (nomark _)
theorem py_le (ha : PyE c X E fra a fa) (hb : PyE c X E frb b fb) : PyE c X E true (.Compare a [.LtE] [b] pos) (e_op g_le fa fb) := py_cmp op_le (opg_int0 fun _ _ => rfl) ha hb (nomark _)
theorem py_gt (ha : PyE c X E fra a fa) (hb : PyE c X E frb b fb) : PyE c X E true (.Compare a [.Gt] [b] pos) (e_op g_gt fa fb) := py_cmp op_gt (opg_int0 fun _ _ => rfl) ha hb (nomark _)
theorem py_ge (ha : PyE c X E fra a fa) (hb : PyE c X E frb b fb) : PyE c X E true (.Compare a [.GtE] [b] pos) (e_op g_ge fa fb) := py_cmp op_ge (opg_int0 fun _ _ => rfl) ha hb (nomark _)
def g_neg : D → R
  | .int i => .ok (.int (-i))
  | _ => .bad
theorem ung_neg : UnG K c fra true (rU fun i => .int (-i)) g_neg := by
  intro W H H1 x vx Q sW s rx
  have ex := rx.at
  constructor
  · intro n h
    cases x <;> simp [g_neg] at h
  · intro g
    cases x <;> try exact g.elim
    rename_i i
    exact ⟨i, ex, g _ H1 (Same.refl _) (Res.scal rfl)⟩
theorem py_neg (ha : PyE c X E fra a fa) : PyE c X E true (.UnaryOp .USub a pos) (e_un g_neg fa) := py_un un_neg ung_neg ha

/-! ### tests, and, or, not -/
def asB : D → R
  | .bl b => .ok (.bl b)
  | _ => .bad
/-- an expression that gives True or False, as a test -/
theorem py_test (ha : PyE c X E fr e f) (he : ∀ whole, isTrue e X.env whole = (do let v ← whole; standAt e.pos; holding [v] (truthy v)) := by intro _; rfl) : PyT c X E e f := PT.weak (pt_val ha he) fun σ H Q ⟨W, env, sl, sm, p⟩ => by
  refine ⟨W, env, sl, sm, ?_⟩
  cases q : f env with
  | bad =>
    rw [q] at p
    exact p
  | exc n =>
    rw [q] at p
    exact p
  | ok d =>
    rw [q] at p
    intro v H' s r
    have rr := r.at
    cases d <;> try exact p.elim
    rename_i b
    exact ⟨b, rr, p H' s⟩
/-- a comparison as a test -/
theorem tt_of {t : TE} {g : Env → R} (hw : ∀ σ H Q, tOf K c E fr g σ H Q → t σ H Q) : ∀ σ H Q, tOfT K c E g σ H Q → tTest t σ H Q := fun σ H Q ⟨W, env, sl, sm, p⟩ => by
  refine hw σ H _ ⟨W, env, sl, sm, ?_⟩
  cases q : g env with
  | bad =>
    rw [q] at p
    exact p
  | exc n =>
    rw [q] at p
    exact p
  | ok d =>
    rw [q] at p
    intro v H' s r
    have rr := r.at
    cases d <;> try exact p.elim
    rename_i b
    exact ⟨b, rr, p H' s⟩
theorem py_tcmp {op : CmpOp} {r : R2} {g : D → D → R} (ho : OpR X (compareOp op) r) (hr : OpG X.K c fra frb true r g) (ha : PyE c X E fra a fa) (hb : PyE c X E frb b fb) (hm : behindInMarks op b = false) : PyT c X E (.Compare a [op] [b] pos) (e_op g fa fb) :=
  PT.weak (pt_cmpR ho ha hb hm) (tt_of (fr := true) fun _ _ _ h => op_read hr h)
theorem pt_lt (ha : PyE c X E fra a fa) (hb : PyE c X E frb b fb) : PyT c X E (.Compare a [.Lt] [b] pos) (e_op g_lt fa fb) := py_tcmp op_lt (opg_int0 fun _ _ => rfl) ha hb (nomark _)
theorem pt_le (ha : PyE c X E fra a fa) (hb : PyE c X E frb b fb) : PyT c X E (.Compare a [.LtE] [b] pos) (e_op g_le fa fb) := py_tcmp op_le (opg_int0 fun _ _ => rfl) ha hb (nomark _)
theorem pt_gt (ha : PyE c X E fra a fa) (hb : PyE c X E frb b fb) : PyT c X E (.Compare a [.Gt] [b] pos) (e_op g_gt fa fb) := py_tcmp op_gt (opg_int0 fun _ _ => rfl) ha hb (nomark _)
theorem pt_ge (ha : PyE c X E fra a fa) (hb : PyE c X E frb b fb) : PyT c X E (.Compare a [.GtE] [b] pos) (e_op g_ge fa fb) := py_tcmp op_ge (opg_int0 fun _ _ => rfl) ha hb (nomark _)
/-- a and b, a or b: the first is a bool -/
def rAnd (a : R) (b : Unit → R) : R := match a with
  | .ok (.bl true) => (match b () with
    | .ok (.bl x) => .ok (.bl x)
    | .ok _ => .bad
    | .exc n => .exc n
    | .bad => .bad)
  | .ok (.bl false) => .ok (.bl false)
  | .ok _ => .bad
  | .exc n => .exc n
  | .bad => .bad
def rOr (a : R) (b : Unit → R) : R := match a with
  | .ok (.bl false) => (match b () with
    | .ok (.bl x) => .ok (.bl x)
    | .ok _ => .bad
    | .exc n => .exc n
    | .bad => .bad)
  | .ok (.bl true) => .ok (.bl true)
  | .ok _ => .bad
  | .exc n => .exc n
  | .bad => .bad
def e_and (fa fb : Env → R) : Env → R := fun env => rAnd (fa env) fun _ => fb env
def e_or (fa fb : Env → R) : Env → R := fun env => rOr (fa env) fun _ => fb env
def g_not : D → R
  | .bl b => .ok (.bl (!b))
  | _ => .bad
def e_not (fa : Env → R) : Env → R := e_un g_not fa
variable {rest : List Expr}
theorem pw_pand (ha : PyT c X E a fa) (hb : PW X (.BoolOp .And (b :: rest) pos) (tOfT X.K c E fb)) : PW X (.BoolOp .And (a :: b :: rest) pos) (tOfT X.K c E (e_and fa fb)) :=
  ⟨fun wh pins s σ H Q I h => (pw_and ha hb).run wh pins s σ H Q I (by
    obtain ⟨W, env, sl, sm, p⟩ := h
    refine ⟨W, env, sl, sm, ?_⟩
    unfold e_and at p
    cases q : fa env with
    | bad =>
      rw [q] at p
      exact p
    | exc n =>
      rw [q] at p
      exact p
    | ok d =>
      rw [q] at p
      cases d <;> try exact p.elim
      rename_i k
      cases k with
      | false =>
        intro H' s
        show Q false H'
        exact p H' s
      | true =>
        intro H' s
        show tOfT X.K c E fb σ H' Q
        refine ⟨W, env, sl, sm.trans s, ?_⟩
        cases q2 : fb env with
        | bad =>
          have p2 := p
          unfold rAnd at p2
          rw [q2] at p2
          exact p2
        | exc n =>
          have p2 := p
          unfold rAnd at p2
          rw [q2] at p2
          exact fun H2 s2 => p2 H2 (s.trans s2)
        | ok d2 =>
          have p2 := p
          unfold rAnd at p2
          rw [q2] at p2
          cases d2 <;> try exact p2.elim
          exact fun H2 s2 => p2 H2 (s.trans s2))⟩
theorem pw_por (ha : PyT c X E a fa) (hb : PW X (.BoolOp .Or (b :: rest) pos) (tOfT X.K c E fb)) : PW X (.BoolOp .Or (a :: b :: rest) pos) (tOfT X.K c E (e_or fa fb)) :=
  ⟨fun wh pins s σ H Q I h => (pw_or ha hb).run wh pins s σ H Q I (by
    obtain ⟨W, env, sl, sm, p⟩ := h
    refine ⟨W, env, sl, sm, ?_⟩
    unfold e_or at p
    cases q : fa env with
    | bad =>
      rw [q] at p
      exact p
    | exc n =>
      rw [q] at p
      exact p
    | ok d =>
      rw [q] at p
      cases d <;> try exact p.elim
      rename_i k
      cases k with
      | true =>
        intro H' s
        show Q true H'
        exact p H' s
      | false =>
        intro H' s
        show tOfT X.K c E fb σ H' Q
        refine ⟨W, env, sl, sm.trans s, ?_⟩
        cases q2 : fb env with
        | bad =>
          have p2 := p
          unfold rOr at p2
          rw [q2] at p2
          exact p2
        | exc n =>
          have p2 := p
          unfold rOr at p2
          rw [q2] at p2
          exact fun H2 s2 => p2 H2 (s.trans s2)
        | ok d2 =>
          have p2 := p
          unfold rOr at p2
          rw [q2] at p2
          cases d2 <;> try exact p2.elim
          exact fun H2 s2 => p2 H2 (s.trans s2))⟩
theorem pw_one_and (ha : PyT c X E a fa) : PW X (.BoolOp .And [a] pos) (tOfT X.K c E fa) := pw_and1 ha
theorem pw_one_or (ha : PyT c X E a fa) : PW X (.BoolOp .Or [a] pos) (tOfT X.K c E fa) := pw_or1 ha
theorem pt_pnot (ha : PyT c X E a fa) : PyT c X E (.UnaryOp .Not a pos) (e_not fa) := PT.weak (pt_not ha) fun σ H Q ⟨W, env, sl, sm, p⟩ => by
  refine ⟨W, env, sl, sm, ?_⟩
  unfold e_not e_un at p
  cases q : fa env with
  | bad =>
    rw [q] at p
    exact p
  | exc n =>
    rw [q] at p
    exact p
  | ok d =>
    rw [q] at p
    cases d <;> try exact p.elim
    exact p
/-- .. as values -/
theorem py_one {op : BoolOp} (ha : PyE c X E fra a fa) : PyE c X E fra (.BoolOp op [a] pos) fa := pe_one ha
theorem py_and (ha : PyE c X E fra a fa) (hb : PyE c X E frb (.BoolOp .And (b :: rest) pos) fb) : PyE c X E true (.BoolOp .And (a :: b :: rest) pos) (e_and fa fb) := PE.weak (pe_and ha hb) fun σ H Q ⟨W, env, sl, sm, p⟩ => by
  refine ⟨W, env, sl, sm, ?_⟩
  unfold e_and at p
  cases q : fa env with
  | bad =>
    rw [q] at p
    exact p
  | exc n =>
    rw [q] at p
    exact p
  | ok d =>
    rw [q] at p
    cases d <;> try exact p.elim
    rename_i k
    intro v H' s r
    have e1 : v = .bl k := r.at
    refine ⟨k, e1, ?_⟩
    cases k with
    | false =>
      show Q (.bl false) H'
      exact p _ H' s (Res.scal rfl)
    | true =>
      show tOf X.K c E frb fb σ H' Q
      refine ⟨W, env, sl, sm.trans s, ?_⟩
      unfold rAnd at p
      cases q2 : fb env with
      | bad =>
        rw [q2] at p
        exact p.elim
      | exc n =>
        rw [q2] at p
        exact fun H2 s2 => p H2 (s.trans s2)
      | ok d2 =>
        rw [q2] at p
        cases d2 <;> try exact p.elim
        intro v2 H2 s2 r2
        rename_i x
        have e2 : v2 = .bl x := r2.at
        rw [e2]
        exact p _ H2 (s.trans s2) (Res.scal rfl)
theorem py_or (ha : PyE c X E fra a fa) (hb : PyE c X E frb (.BoolOp .Or (b :: rest) pos) fb) : PyE c X E true (.BoolOp .Or (a :: b :: rest) pos) (e_or fa fb) := PE.weak (pe_or ha hb) fun σ H Q ⟨W, env, sl, sm, p⟩ => by
  refine ⟨W, env, sl, sm, ?_⟩
  unfold e_or at p
  cases q : fa env with
  | bad =>
    rw [q] at p
    exact p
  | exc n =>
    rw [q] at p
    exact p
  | ok d =>
    rw [q] at p
    cases d <;> try exact p.elim
    rename_i k
    intro v H' s r
    have e1 : v = .bl k := r.at
    refine ⟨k, e1, ?_⟩
    cases k with
    | true =>
      show Q (.bl true) H'
      exact p _ H' s (Res.scal rfl)
    | false =>
      show tOf X.K c E frb fb σ H' Q
      refine ⟨W, env, sl, sm.trans s, ?_⟩
      unfold rOr at p
      cases q2 : fb env with
      | bad =>
        rw [q2] at p
        exact p.elim
      | exc n =>
        rw [q2] at p
        exact fun H2 s2 => p H2 (s.trans s2)
      | ok d2 =>
        rw [q2] at p
        cases d2 <;> try exact p.elim
        intro v2 H2 s2 r2
        rename_i x
        have e2 : v2 = .bl x := r2.at
        rw [e2]
        exact p _ H2 (s.trans s2) (Res.scal rfl)
theorem py_not (ha : PyE c X E fra a fa) : PyE c X E true (.UnaryOp .Not a pos) (e_not fa) := PE.weak (pe_not ha) fun σ H Q ⟨W, env, sl, sm, p⟩ => by
  refine ⟨W, env, sl, sm, ?_⟩
  unfold e_not e_un at p
  cases q : fa env with
  | bad =>
    rw [q] at p
    exact p
  | exc n =>
    rw [q] at p
    exact p
  | ok d =>
    rw [q] at p
    cases d <;> try exact p.elim
    rename_i k
    intro v H' s r
    exact ⟨k, r.at, p _ H' s (Res.scal rfl)⟩
/-- a if t else b -/
def rIf (t : R) (a b : Unit → R) : R := match t with
  | .ok (.bl true) => a ()
  | .ok (.bl false) => b ()
  | .ok _ => .bad
  | .exc n => .exc n
  | .bad => .bad
def e_if (ft fa fb : Env → R) : Env → R := fun env => rIf (ft env) (fun _ => fa env) fun _ => fb env
theorem py_if {t : Expr} {ft : Env → R} (ht : PyT c X E t ft) (ha : PyE c X E fr a fa) (hb : PyE c X E fr b fb) : PyE c X E fr (.IfExp t a b pos) (e_if ft fa fb) := PE.weak (pe_ifExp ht ha hb) fun σ H Q ⟨W, env, sl, sm, p⟩ => by
  refine ⟨W, env, sl, sm, ?_⟩
  unfold e_if at p
  cases q : ft env with
  | bad =>
    rw [q] at p
    exact p
  | exc n =>
    rw [q] at p
    exact p
  | ok d =>
    rw [q] at p
    cases d <;> try exact p.elim
    rename_i k
    have back : ∀ {g : Env → R} {H'}, Same H H' → Post X.K c E fr W H (g env) Q → Post X.K c E fr W H' (g env) Q := fun {g H'} s p => by
      cases q : g env with
      | bad =>
        rw [q] at p
        exact p
      | exc n =>
        rw [q] at p
        exact fun H2 s2 => p H2 (s.trans s2)
      | ok d =>
        rw [q] at p
        exact fun v H2 s2 r => p v H2 (s.trans s2) (r.trans s)
    intro H' s
    cases k with
    | true =>
      show tOf X.K c E fr fa σ H' Q
      exact ⟨W, env, sl, sm.trans s, back s p⟩
    | false =>
      show tOf X.K c E fr fb σ H' Q
      exact ⟨W, env, sl, sm.trans s, back s p⟩
/-- 0 <= x < n -/
def rChain (g g' : D → D → R) (a b : R) (k : Unit → R) : R := match a, b with
  | .ok x, .ok y => (match g x y with
    | .ok (.bl true) => (match k () with
      | .ok z => g' y z
      | .exc n => .exc n
      | .bad => .bad)
    | .ok (.bl false) => .ok (.bl false)
    | _ => .bad)
  | _, _ => .bad
def e_chain (g g' : D → D → R) (fa fb fc : Env → R) : Env → R := fun env => rChain g g' (fa env) (fb env) fun _ => fc env
theorem chain_read {r r' : R2} {g g' : D → D → R} {fc : Env → R} {frc : Bool} (hr : OpG K c fra frb true r g) (hr' : OpG K c frb frc true r' g') {σ : L2.St} {H : Hp} {Q : VK} (h : tOf K c E true (e_chain g g' fa fb fc) σ H Q) :
    tChain r r' (tOf K c E fra fa) (tOf K c E frb fb) (tOf K c E frc fc) σ H Q := by
  obtain ⟨W, env, sl, sm, p⟩ := h
  unfold e_chain rChain at p
  refine ⟨W, env, sl, sm, ?_⟩
  cases qa : fa env with
  | bad =>
    rw [qa] at p
    exact p
  | exc n =>
    rw [qa] at p
    exact p.elim
  | ok x =>
    rw [qa] at p
    intro v1 H1 s1 r1
    refine ⟨W, env, sl, sm.trans s1, ?_⟩
    cases qb : fb env with
    | bad =>
      rw [qb] at p
      exact p.elim
    | exc n =>
      rw [qb] at p
      exact p.elim
    | ok y =>
      rw [qb] at p
      intro v2 H2 s2 r2
      have p : Post K c E true W H (match g x y with
        | .ok (.bl true) => (match fc env with
          | .ok z => g' y z
          | .exc n => .exc n
          | .bad => .bad)
        | .ok (.bl false) => .ok (.bl false)
        | _ => .bad) Q := p
      obtain ⟨nx, k⟩ := hr W H H2 x y v1 v2 (fun z H3 => ∃ k, z = .bl k ∧ (if k = true then tOf K c E frc fc σ H3 fun w' H4 => r' v2 w' H4 Q else Q (.bl false) H3)) sm (s1.trans s2) (r1.later s2) (r2.trans s1)
      refine k ?_
      cases q : g x y with
      | exc n => exact (nx n q).elim
      | bad =>
        rw [q] at p
        exact p.elim
      | ok d =>
        rw [q] at p
        cases d <;> try exact p.elim
        rename_i b
        intro v3 H3 s3 r3
        refine ⟨b, r3.at, ?_⟩
        cases b with
        | false =>
          show Q (.bl false) H3
          exact p _ H3 ((s1.trans s2).trans s3) (Res.scal rfl)
        | true =>
          show tOf K c E frc fc σ H3 fun w' H4 => r' v2 w' H4 Q
          refine ⟨W, env, sl, ((sm.trans s1).trans s2).trans s3, ?_⟩
          cases qc : fc env with
          | bad =>
            rw [qc] at p
            exact p.elim
          | exc n =>
            rw [qc] at p
            exact fun H4 s4 => p H4 (((s1.trans s2).trans s3).trans s4)
          | ok z =>
            rw [qc] at p
            intro v4 H4 s4 r4
            obtain ⟨nx', k'⟩ := hr' W H H4 y z v2 v4 Q sm (((s1.trans s2).trans s3).trans s4) (((r2.trans s1).later s3).later s4) (r4.trans ((s1.trans s2).trans s3))
            refine k' ?_
            cases q' : g' y z with
            | exc n => exact (nx' n q').elim
            | bad =>
              simp only [q'] at p
              exact p.elim
            | ok d =>
              simp only [q'] at p
              exact fun v5 H5 s5 r5 => p v5 H5 ((((s1.trans s2).trans s3).trans s4).trans s5) r5
theorem py_chain {op op' : CmpOp} {r r' : R2} {g g' : D → D → R} {fc : Env → R} {frc : Bool} {cc : Expr} (ho : OpR X (compareOp op) r) (ho' : OpR X (compareOp op') r') (hr : OpG X.K c fra frb true r g) (hr' : OpG X.K c frb frc true r' g')
    (ha : PyE c X E fra a fa) (hb : PyE c X E frb b fb) (hc : PyE c X E frc cc fc) (hm : lastMarks [op, op'] [b, cc] = false := by with_unfolding_all rfl) : PyE c X E true (.Compare a [op, op'] [b, cc] pos) (e_chain g g' fa fb fc) :=
  PE.weak (pe_chain ho ho' ha hb hc hm) fun _ _ _ h => chain_read hr hr' h
theorem pt_pchain {op op' : CmpOp} {r r' : R2} {g g' : D → D → R} {fc : Env → R} {frc : Bool} {cc : Expr} (ho : OpR X (compareOp op) r) (ho' : OpR X (compareOp op') r') (hr : OpG X.K c fra frb true r g) (hr' : OpG X.K c frb frc true r' g')
    (ha : PyE c X E fra a fa) (hb : PyE c X E frb b fb) (hc : PyE c X E frc cc fc) (hm : lastMarks [op, op'] [b, cc] = false := by with_unfolding_all rfl) : PyT c X E (.Compare a [op, op'] [b, cc] pos) (e_chain g g' fa fb fc) :=
  PT.weak (pt_chain ho ho' ha hb hc hm) (tt_of (fr := true) fun _ _ _ h => chain_read hr hr' h)
end
end PyS
set_option maxRecDepth 100000
set_option maxHeartbeats 4000000
/-! Sem3: arguments, displays, built-in functions, subscripts, ==, in, comprehensions, calls. -/
namespace PyS
open PySem PySem.Spec PyProof.Rows L2

section
variable {c : Ct} {X : Cx} {E : XK} {e a b : Expr} {es : List Expr} {f fa fb : Env → R} {fs : Env → RA} {fr fra frb frs : Bool} {pos : Pos} {K : PySem.W.Frag}
/-! ### argument lists, displays -/
def rCons (a : R) (r : Unit → RA) : RA := match a with
  | .ok d => (match r () with
    | .ok ds => .ok (d :: ds)
    | .exc n => .exc n
    | .bad => .bad)
  | .exc n => .exc n
  | .bad => .bad
def a_nil : Env → RA := fun _ => .ok []
def a_cons (fa : Env → R) (fs : Env → RA) : Env → RA := fun env => rCons (fa env) fun _ => fs env
theorem pya_nil : PyA c X E true [] a_nil := PA.weak pa_nil fun σ H Q ⟨W, env, sl, sm, p⟩ => p [] H (Same.refl H) ResA.nil
theorem pya_cons (ha : PyE c X E fra e fa) (hr : PyA c X E frs es fs) (hs : starEach (e :: es) X.env = (false, eval e X.env) :: starEach es X.env := by rfl) : PyA c X E (fra && frs) (e :: es) (a_cons fa fs) :=
  PA.weak (pa_cons ha hr hs) fun σ H Q ⟨W, env, sl, sm, p⟩ => by
    refine ⟨W, env, sl, sm, ?_⟩
    unfold a_cons rCons at p
    cases q : fa env with
    | bad =>
      rw [q] at p
      exact p
    | exc n =>
      rw [q] at p
      exact p
    | ok d =>
      rw [q] at p
      intro v1 H1 s1 r1
      refine ⟨W, env, sl, sm.trans s1, ?_⟩
      cases q2 : fs env with
      | bad =>
        rw [q2] at p
        exact p.elim
      | exc n =>
        rw [q2] at p
        exact fun H' s => p H' (s1.trans s)
      | ok ds =>
        rw [q2] at p
        intro vs H2 s2 r2
        exact p (v1 :: vs) H2 (s1.trans s2) (ResA.cons (r1.later s2) (r2.trans s1))
def aL (k : List D → D) (r : RA) : R := match r with
  | .ok ds => if ds.length ≤ 100000 then .ok (k ds) else .bad
  | .exc n => .exc n
  | .bad => .bad
def e_lst (fs : Env → RA) : Env → R := fun env => aL D.lst (fs env)
def e_tup (fs : Env → RA) : Env → R := fun env => aL D.tup (fs env)
theorem sz {n : Nat} (h : n ≤ 100000) : n ≤ sizeLine := Nat.le_trans h (by decide)
/-- a new object, its parts known -/
theorem Res.newL {W H H1 H2 : Hp} {ds : List D} {vs : List V} {p : Addr} (sW : Same W H) (s : Same H H1) (r : ResA K c fr W H H1 ds vs) (hp : H1 p = none) (s2 : Same H1 H2) (hv : H2 p = some (.lst vs)) : Res K c fr W H H2 (.lst ds) (.ref p) := by
  obtain ⟨W', g, r⟩ := r
  have n' : W' p = none := g.sm.free hp
  cases fr with
  | true => exact ⟨W', g.later s2, p, vs, rfl, s.free hp, n', hv, r⟩
  | false =>
    have st : Same W' H2 := fun a o z => s2 a o (g.sm a o z)
    refine ⟨upd W' p (.lst vs), ⟨upd_same_in st hv, fun a o z => ?_⟩, p, vs, rfl, upd_same, r.mono (same_new n')⟩
    by_cases ha : a = p
    · rw [ha]
      exact .inr (s.free hp)
    · rw [upd_ne ha] at z
      exact g.new a o z
theorem Res.newT {W H H1 H2 : Hp} {ds : List D} {vs : List V} {p : Addr} (sW : Same W H) (s : Same H H1) (r : ResA K c fr W H H1 ds vs) (hp : H1 p = none) (s2 : Same H1 H2) (hv : H2 p = some (.tup vs)) : Res K c fr W H H2 (.tup ds) (.ref p) := by
  obtain ⟨W', g, r⟩ := r
  have n' : W' p = none := g.sm.free hp
  cases fr with
  | true => exact ⟨W', g.later s2, p, vs, rfl, s.free hp, n', hv, r⟩
  | false =>
    have st : Same W' H2 := fun a o z => s2 a o (g.sm a o z)
    refine ⟨upd W' p (.tup vs), ⟨upd_same_in st hv, fun a o z => ?_⟩, p, vs, rfl, upd_same, r.mono (same_new n')⟩
    by_cases ha : a = p
    · rw [ha]
      exact .inr (s.free hp)
    · rw [upd_ne ha] at z
      exact g.new a o z
theorem py_lst (h : PyA c X E fr es fs) : PyE c X E fr (.List es pos) (e_lst fs) := PE.weak (pe_lst h) fun σ H Q ⟨W, env, sl, sm, p⟩ => by
  refine ⟨W, env, sl, sm, ?_⟩
  unfold e_lst aL at p
  cases q : fs env with
  | bad =>
    rw [q] at p
    exact p
  | exc n =>
    rw [q] at p
    exact p
  | ok ds =>
    rw [q] at p
    intro vs H1 s1 r1
    by_cases hl : ds.length ≤ 100000
    · have p' : Post X.K c E fr W H (.ok (.lst ds)) Q := by
        have p2 : Post X.K c E fr W H (if ds.length ≤ 100000 then .ok (.lst ds) else .bad) Q := p
        rw [if_pos hl] at p2
        exact p2
      have el : vs.length = ds.length := r1.at.length
      refine ⟨sz (by omega), fun x hx => p' _ _ (s1.trans (same_new hx)) (Res.newL sm s1 r1 hx (same_new hx) upd_same)⟩
    · have p2 : Post X.K c E fr W H (if ds.length ≤ 100000 then .ok (.lst ds) else .bad) Q := p
      rw [if_neg hl] at p2
      exact p2.elim
theorem py_tup (h : PyA c X E fr es fs) {k : Nat} : PyE c X E fr (.Tuple es k pos) (e_tup fs) := PE.weak (pe_tup h) fun σ H Q ⟨W, env, sl, sm, p⟩ => by
  refine ⟨W, env, sl, sm, ?_⟩
  unfold e_tup aL at p
  cases q : fs env with
  | bad =>
    rw [q] at p
    exact p
  | exc n =>
    rw [q] at p
    exact p
  | ok ds =>
    rw [q] at p
    intro vs H1 s1 r1
    by_cases hl : ds.length ≤ 100000
    · have p' : Post X.K c E fr W H (.ok (.tup ds)) Q := by
        have p2 : Post X.K c E fr W H (if ds.length ≤ 100000 then .ok (.tup ds) else .bad) Q := p
        rw [if_pos hl] at p2
        exact p2
      have el : vs.length = ds.length := r1.at.length
      refine ⟨sz (by omega), fun x hx => p' _ _ (s1.trans (same_new hx)) (Res.newT sm s1 r1 hx (same_new hx) upd_same)⟩
    · have p2 : Post X.K c E fr W H (if ds.length ≤ 100000 then .ok (.tup ds) else .bad) Q := p
      rw [if_neg hl] at p2
      exact p2.elim

/-! ### calls of built-in functions by values -/
def rCall (g : List D → R) (r : RA) : R := match r with
  | .ok ds => g ds
  | .exc n => .exc n
  | .bad => .bad
def e_call (g : List D → R) (fs : Env → RA) : Env → R := fun env => rCall g (fs env)
def CallG (K : PySem.W.Frag) (c : Ct) (frs fr : Bool) (r : List V → Hp → VK → Prop) (g : List D → R) : Prop := ∀ (W H H1 : Hp) (ds : List D) (vs : List V) (Q : VK), Same W H → Same H H1 → ResA K c frs W H H1 ds vs → (∀ n, g ds ≠ .exc n) ∧ (Gives K c fr W H H1 (g ds) Q → r vs H1 Q)
theorem call_read {r : List V → Hp → VK → Prop} {g : List D → R} (hr : CallG K c frs fr r g) {σ : L2.St} {H : Hp} {Q : VK} (h : tOf K c E fr (e_call g fs) σ H Q) : tCB r (tOfA K c E frs fs) σ H Q := by
  obtain ⟨W, env, sl, sm, p⟩ := h
  refine ⟨W, env, sl, sm, ?_⟩
  unfold e_call at p
  cases q : fs env with
  | bad =>
    rw [q] at p
    exact p
  | exc n =>
    rw [q] at p
    exact p
  | ok ds =>
    rw [q] at p
    intro vs H1 s1 r1
    obtain ⟨nx, k⟩ := hr W H H1 ds vs Q sm s1 r1
    refine k ?_
    have p' : Post K c E fr W H (g ds) Q := p
    cases q2 : g ds with
    | ok d =>
      rw [q2] at p'
      exact fun v H' s r => p' v H' (s1.trans s) r
    | exc n => exact (nx n q2).elim
    | bad =>
      rw [q2] at p'
      exact p'
theorem py_callB {x : Str} {id : String} {r : List V → Hp → VK → Prop} {g : List D → R} {p : Pos} (hc : CallR X (.builtin id) r) (hr : CallG X.K c frs fr r g) (hg : Gl X x) (hm : X.mg x = none) (hv : bootBuiltins x = some (.builtin id)) (ha : PyA c X E frs (e :: es) fs) (hn : x ≠ "__name__" := by decide) (hdb : (x == ("__debug__" : Str)) = false := by decide)
    (he : starEach (e :: es) X.env = (false, eval e X.env) :: starEach es X.env := by rfl) (hpl : (backTo pos (starEach es X.env)).any (·.1) = false := by rfl) : PyE c X E fr (.Call (.Name x p) (e :: es) [] pos) (e_call g fs) :=
  PE.weak (pe_callB hc hg hm hv ha hn hdb he hpl) fun _ _ _ h => call_read hr h
theorem py_callTy {x : Str} {T : String} {r : List V → Hp → VK → Prop} {g : List D → R} {p : Pos} (hc : CallR X (.type T) r) (hr : CallG X.K c frs fr r g) (hg : Gl X x) (hm : X.mg x = none) (hv : bootBuiltins x = some (.type T)) (ha : PyA c X E frs (e :: es) fs) (hn : x ≠ "__name__" := by decide) (hdb : (x == ("__debug__" : Str)) = false := by decide)
    (he : starEach (e :: es) X.env = (false, eval e X.env) :: starEach es X.env := by rfl) (hpl : (backTo pos (starEach es X.env)).any (·.1) = false := by rfl) : PyE c X E fr (.Call (.Name x p) (e :: es) [] pos) (e_call g fs) :=
  PE.weak (pe_callTy hc hg hm hv ha hn hdb he hpl) fun _ _ _ h => call_read hr h

/-! ### what is read of a sequence -/
def asL : D → Option (List D)
  | .lst ds => some ds
  | .scr ns => some (ns.map D.int)
  | _ => none
def asSeq : D → Option (List D)
  | .lst ds => some ds
  | .tup ds => some ds
  | .scr ns => some (ns.map D.int)
  | _ => none
theorem asL_rep {W : Hp} {d : D} {ds : List D} {v : V} (h : asL d = some ds) (r : Rep K c W d v) : ∃ a xs, v = .ref a ∧ SqL K W a xs ∧ Reps K c W ds xs := by
  cases d <;> simp only [asL, reduceCtorEq, Option.some.injEq] at h
  · subst h
    obtain ⟨a, xs, e, h1, h2⟩ := r
    exact ⟨a, xs, e, .inl (.inl h1), h2⟩
  · subst h
    obtain ⟨a, e, h1⟩ := r
    exact ⟨a, _, e, h1, Reps.ints _⟩
theorem same_t {H H' : Hp} {x : Addr} {xs : List V} (e : Same H H') (h : SqT K H x xs) : SqT K H' x xs := by
  rcases h with (h | ⟨o, h⟩) | h
  · exact .inl (.inl (e _ _ h))
  · exact .inl (.inr ⟨o, e _ _ h⟩)
  · exact .inr h
theorem asSeq_rep {W : Hp} {d : D} {ds : List D} {v : V} (h : asSeq d = some ds) (r : Rep K c W d v) : ∃ a xs, v = .ref a ∧ (SqL K W a xs ∨ SqT K W a xs) ∧ Reps K c W ds xs := by
  cases d <;> simp only [asSeq, reduceCtorEq, Option.some.injEq] at h
  · subst h
    obtain ⟨a, xs, e, h1, h2⟩ := r
    exact ⟨a, xs, e, .inl (.inl (.inl h1)), h2⟩
  · subst h
    obtain ⟨a, xs, e, h1, h2⟩ := r
    exact ⟨a, xs, e, .inr (.inl (.inl h1)), h2⟩
  · subst h
    obtain ⟨a, e, h1⟩ := r
    exact ⟨a, _, e, .inl h1, Reps.ints _⟩
def asInts : List D → Option (List Int)
  | [] => some []
  | .int i :: r => (asInts r).map (i :: ·)
  | _ :: _ => none
def asBls : List D → Option (List Bool)
  | [] => some []
  | .bl i :: r => (asBls r).map (i :: ·)
  | _ :: _ => none
theorem asInts_eq : ∀ {ds : List D} {ns : List Int}, asInts ds = some ns → ds = ns.map D.int
  | [], ns, h => by
    have e : [] = ns := Option.some.inj h
    rw [← e]
    rfl
  | d :: r, ns, h => by
    cases d <;> simp only [asInts, reduceCtorEq] at h
    obtain ⟨ms, h1, h2⟩ := Option.map_eq_some_iff.mp h
    rw [← h2, List.map_cons, asInts_eq h1]
theorem asBls_eq : ∀ {ds : List D} {ns : List Bool}, asBls ds = some ns → ds = ns.map D.bl
  | [], ns, h => by
    have e : [] = ns := Option.some.inj h
    rw [← e]
    rfl
  | d :: r, ns, h => by
    cases d <;> simp only [asBls, reduceCtorEq] at h
    obtain ⟨ms, h1, h2⟩ := Option.map_eq_some_iff.mp h
    rw [← h2, List.map_cons, asBls_eq h1]
@[simp] theorem asInts_map : ∀ (ns : List Int), asInts (ns.map D.int) = some ns
  | [] => rfl
  | n :: ns => by
    rw [List.map_cons]
    show (asInts (ns.map D.int)).map (n :: ·) = _
    rw [asInts_map ns]
    rfl
@[simp] theorem asBls_map : ∀ (ns : List Bool), asBls (ns.map D.bl) = some ns
  | [] => rfl
  | n :: ns => by
    rw [List.map_cons]
    show (asBls (ns.map D.bl)).map (n :: ·) = _
    rw [asBls_map ns]
    rfl
/-- all parts without parts of their own -/
def scAll : List D → Bool
  | [] => true
  | d :: ds => (sval d).isSome && scAll ds
theorem sc_rep {W W' : Hp} {d : D} {v : V} (h : (sval d).isSome = true) (r : Rep K c W d v) : Rep K c W' d v := by
  cases d <;> simp [sval] at h <;> exact r
theorem scAll_reps {W W' : Hp} : ∀ {ds : List D} {vs : List V}, scAll ds = true → Reps K c W ds vs → Reps K c W' ds vs
  | [], vs, _, r => r
  | d :: ds, vs, h, r => by
    obtain ⟨y, ys, rfl, r1, r2⟩ := r
    have h' := Bool.and_eq_true_iff.mp h
    exact ⟨y, ys, rfl, sc_rep h'.1 r1, scAll_reps h'.2 r2⟩
@[simp] theorem scAll_ints : ∀ (ns : List Int), scAll (ns.map D.int) = true
  | [] => rfl
  | n :: ns => scAll_ints ns
theorem ResA.sc {W H H1 : Hp} {ds : List D} {vs : List V} {f1 : Bool} (h : scAll ds = true) (r : Reps K c H1 ds vs) : ResA K c f1 W H H1 ds vs := ⟨emp, ⟨emp_same _, fun _ _ z => nomatch z⟩, scAll_reps h r⟩

/-! ### len, all, any, sum, max, min, abs -/
def g_len : List D → R
  | [d] => (match asSeq d with
    | some ds => .ok (.int ds.length)
    | none => .bad)
  | _ => .bad
theorem one_of {W H H1 : Hp} {d : D} {vs : List V} (r : ResA K c frs W H H1 [d] vs) : ∃ v, vs = [v] ∧ Res K c false W H H1 d v := by
  obtain ⟨W', g, v, ys, e, r1, r2⟩ := r
  have e2 : ys = [] := r2
  rw [e2] at e
  exact ⟨v, e, W', g.base, r1⟩
theorem two_of {W H H1 : Hp} {d d' : D} {vs : List V} (r : ResA K c frs W H H1 [d, d'] vs) : ∃ v v', vs = [v, v'] ∧ Rep K c H1 d v ∧ Rep K c H1 d' v' := by
  obtain ⟨W', g, v, ys, e, r1, v', zs, e2, r2, r3⟩ := r
  have e3 : zs = [] := r3
  rw [e3] at e2
  rw [e2] at e
  exact ⟨v, v', e, r1.mono g.sm, r2.mono g.sm⟩
theorem callg_len : CallG K c frs true (fun xs H Q => ∃ p ys, xs = [.ref p] ∧ (SqL K H p ys ∨ SqT K H p ys) ∧ Q (.int ys.length) H) g_len := by
  intro W H H1 ds vs Q sW s r
  match ds, r with
  | [], r => exact ⟨fun n h => (nomatch h), fun g => False.elim g⟩
  | [d], r =>
    cases q : asSeq d with
    | none =>
      have e : g_len [d] = .bad := by
        simp only [g_len, q]
      rw [e]
      exact ⟨fun n h => (nomatch h), fun g => False.elim g⟩
    | some ds =>
      have e : g_len [d] = .ok (.int ds.length) := by
        simp only [g_len, q]
      rw [e]
      refine ⟨fun n h => (nomatch h), fun g => ?_⟩
      obtain ⟨v, rfl, rv⟩ := one_of r
      obtain ⟨a, xs, rfl, hs, hr⟩ := asSeq_rep q rv.at
      refine ⟨a, xs, rfl, hs, ?_⟩
      rw [hr.length]
      exact g _ _ (Same.refl _) (Res.scal rfl)
  | _ :: _ :: _, r => exact ⟨fun n h => (nomatch h), fun g => False.elim g⟩
/-- one list of plain things, a plain answer -/
def gOne {α : Type} (as : List D → Option α) (k : α → D) : List D → R
  | [d] => (match asL d with
    | some ds => (match as ds with
      | some x => .ok (k x)
      | none => .bad)
    | none => .bad)
  | _ => .bad
theorem callg_one {α : Type} {as : List D → Option α} {k : α → D} {toV : α → List V} {r : List V → Hp → VK → Prop} (kv : α → V) (hk : ∀ x, sval (k x) = some (kv x)) (has : ∀ {W : Hp} {ds x vs}, as ds = some x → Reps K c W ds vs → vs = toV x)
    (hr : ∀ (H : Hp) (Q : VK) (a : Addr) (x : α), SqL K H a (toV x) → Q (kv x) H → r [.ref a] H Q) : CallG K c frs true r (gOne as k) := by
  intro W H H1 ds vs Q sW s rr
  match ds, rr with
  | [], rr => exact ⟨fun n h => (nomatch h), fun g => False.elim g⟩
  | [d], rr =>
    cases q : asL d with
    | none =>
      have e : gOne as k [d] = .bad := by
        simp only [gOne, q]
      rw [e]
      exact ⟨fun n h => (nomatch h), fun g => False.elim g⟩
    | some ds =>
      cases q2 : as ds with
      | none =>
        have e : gOne as k [d] = .bad := by
          simp only [gOne, q, q2]
        rw [e]
        exact ⟨fun n h => (nomatch h), fun g => False.elim g⟩
      | some x =>
        have e : gOne as k [d] = .ok (k x) := by
          simp only [gOne, q, q2]
        rw [e]
        refine ⟨fun n h => (nomatch h), fun g => ?_⟩
        obtain ⟨v, rfl, rv⟩ := one_of rr
        obtain ⟨a, xs, rfl, hs, hr'⟩ := asL_rep q rv.at
        have ex := has q2 hr'
        rw [ex] at hs
        exact hr H1 Q a x hs (g _ _ (Same.refl _) (Res.scal (hk x)))
  | _ :: _ :: _, rr => exact ⟨fun n h => (nomatch h), fun g => False.elim g⟩
def g_all := gOne asBls fun bs => .bl (bs.all id)
def g_any := gOne asBls fun bs => .bl (bs.any id)
def g_sum := gOne asInts fun ns => .int ns.sum
theorem bls_reps {W : Hp} {ds : List D} {x : List Bool} {vs : List V} (h : asBls ds = some x) (r : Reps K c W ds vs) : vs = x.map V.bl := by
  rw [asBls_eq h] at r
  exact Reps.of_bls r
theorem ints_reps {W : Hp} {ds : List D} {x : List Int} {vs : List V} (h : asInts ds = some x) (r : Reps K c W ds vs) : vs = x.map V.int := by
  rw [asInts_eq h] at r
  exact Reps.of_ints r
theorem callg_all : CallG K c frs true (rAll K) g_all := callg_one (fun bs => .bl (bs.all id)) (fun _ => rfl) bls_reps fun H Q a x hs q => ⟨a, x, rfl, hs, q⟩
theorem callg_any : CallG K c frs true (rAny K) g_any := callg_one (fun bs => .bl (bs.any id)) (fun _ => rfl) bls_reps fun H Q a x hs q => ⟨a, x, rfl, hs, q⟩
theorem callg_sum : CallG K c frs true (rSum K) g_sum := callg_one (fun bs => .int bs.sum) (fun _ => rfl) ints_reps fun H Q a x hs q => ⟨a, x, rfl, hs, q⟩
theorem py_len {p : Pos} (hg : Gl X "len") (hm : X.mg "len" = none) (ha : PyA c X E frs [e] fs) (he : starEach [e] X.env = (false, eval e X.env) :: starEach [] X.env := by rfl) : PyE c X E true (.Call (.Name "len" p) [e] [] pos) (e_call g_len fs) :=
  py_callB call_len_seq callg_len hg hm PySem.boot_len ha (he := he)
theorem py_all {p : Pos} (hc : X.calm = true) (hg : Gl X "all") (hm : X.mg "all" = none) (ha : PyA c X E frs [e] fs) (he : starEach [e] X.env = (false, eval e X.env) :: starEach [] X.env := by rfl) : PyE c X E true (.Call (.Name "all" p) [e] [] pos) (e_call g_all fs) :=
  py_callB (cr_all hc) callg_all hg hm (by decide +kernel) ha (he := he)
theorem py_anyC {p : Pos} (hc : X.calm = true) (hg : Gl X "any") (hm : X.mg "any" = none) (ha : PyA c X E frs [e] fs) (he : starEach [e] X.env = (false, eval e X.env) :: starEach [] X.env := by rfl) : PyE c X E true (.Call (.Name "any" p) [e] [] pos) (e_call g_any fs) :=
  py_callB (cr_any hc) callg_any hg hm (by decide +kernel) ha (he := he)
theorem py_sum {p : Pos} (hc : X.calm = true) (hg : Gl X "sum") (hm : X.mg "sum" = none) (ha : PyA c X E frs [e] fs) (he : starEach [e] X.env = (false, eval e X.env) :: starEach [] X.env := by rfl) : PyE c X E true (.Call (.Name "sum" p) [e] [] pos) (e_call g_sum fs) :=
  py_callB (cr_sum hc) callg_sum hg hm (by decide +kernel) ha (he := he)
def gTwo (k : Int → Int → Int) : List D → R
  | [.int i, .int j] => .ok (.int (k i j))
  | _ => .bad
def g_max := gTwo fun i j => if j > i then j else i
def g_min := gTwo fun i j => if j < i then j else i
theorem callg_two {k : Int → Int → Int} : CallG K c frs true (fun xs H Q => ∃ i j, xs = [.int i, .int j] ∧ Q (.int (k i j)) H) (gTwo k) := by
  intro W H H1 ds vs Q sW s r
  constructor
  · intro n h
    unfold gTwo at h
    split at h <;> cases h
  · intro g
    unfold gTwo at g
    split at g
    · obtain ⟨v, v', rfl, e1, e2⟩ := two_of r
      rename_i i j
      have e1' : v = .int i := e1
      have e2' : v' = .int j := e2
      exact ⟨i, j, by rw [e1', e2'], g _ _ (Same.refl _) (Res.scal rfl)⟩
    · exact False.elim g
theorem py_max {p : Pos} (hc : X.calm = true) (hg : Gl X "max") (hm : X.mg "max" = none) (ha : PyA c X E frs (e :: es) fs) (he : starEach (e :: es) X.env = (false, eval e X.env) :: starEach es X.env := by rfl) (hpl : (backTo pos (starEach es X.env)).any (·.1) = false := by rfl) :
    PyE c X E true (.Call (.Name "max" p) (e :: es) [] pos) (e_call g_max fs) := py_callB (call_max2 hc) callg_two hg hm (by decide +kernel) ha (he := he) (hpl := hpl)
theorem py_min {p : Pos} (hc : X.calm = true) (hg : Gl X "min") (hm : X.mg "min" = none) (ha : PyA c X E frs (e :: es) fs) (he : starEach (e :: es) X.env = (false, eval e X.env) :: starEach es X.env := by rfl) (hpl : (backTo pos (starEach es X.env)).any (·.1) = false := by rfl) :
    PyE c X E true (.Call (.Name "min" p) (e :: es) [] pos) (e_call g_min fs) := py_callB (call_min2 hc) callg_two hg hm (by decide +kernel) ha (he := he) (hpl := hpl)
def g_abs : List D → R
  | [.int i] => .ok (.int (if i < 0 then -i else i))
  | _ => .bad
theorem callg_abs : CallG K c frs true (fun xs H Q => ∃ i, xs = [.int i] ∧ Q (.int (if i < 0 then -i else i)) H) g_abs := by
  intro W H H1 ds vs Q sW s r
  constructor
  · intro n h
    unfold g_abs at h
    split at h <;> cases h
  · intro g
    unfold g_abs at g
    split at g
    · obtain ⟨v, rfl, e1⟩ := one_of r
      rename_i i
      have e1' : v = .int i := e1.at
      exact ⟨i, by rw [e1'], g _ _ (Same.refl _) (Res.scal rfl)⟩
    · exact False.elim g
theorem py_abs {p : Pos} (hg : Gl X "abs") (hm : X.mg "abs" = none) (ha : PyA c X E frs [e] fs) (he : starEach [e] X.env = (false, eval e X.env) :: starEach [] X.env := by rfl) : PyE c X E true (.Call (.Name "abs" p) [e] [] pos) (e_call g_abs fs) :=
  py_callB call_abs callg_abs hg hm (by decide +kernel) ha (he := he)

/-! ### isinstance of built-in classes -/
def tyD : D → Option String
  | .non => some "NoneType"
  | .bl _ => some "bool"
  | .int _ => some "int"
  | .str _ => some "str"
  | .lst _ => some "list"
  | .tup _ => some "tuple"
  | .dk _ => some "dict"
  | .dt _ => some "dict"
  | .scr _ => some "list"
  | .ins _ _ => none
def isTy (T : String) (d : D) : R := match tyD d with
  | some t => .ok (.bl (t == T || (t == "bool" && T == "int")))
  | none => .bad
theorem tyx_of {W : Hp} {d : D} {v : V} {t : String} (h : tyD d = some t) (r : Rep K c W d v) : TyX K W v (.type t) := by
  cases d <;> simp only [tyD, reduceCtorEq, Option.some.injEq] at h
  · subst h
    rw [show v = .non from r]
    exact .base .non
  · subst h
    rename_i x
    rw [show v = .bl x from r]
    exact .base (.bl x)
  · subst h
    rename_i x
    rw [show v = .int x from r]
    exact .base (.int x)
  · subst h
    rename_i x
    rw [show v = .str x from r]
    exact .base (.str x)
  · subst h
    obtain ⟨a, xs, rfl, h1, _⟩ := r
    exact .base (.lst h1)
  · subst h
    obtain ⟨a, xs, rfl, h1, _⟩ := r
    exact .base (.tup h1)
  · subst h
    obtain ⟨a, rfl, h1⟩ := r
    exact .base (.dK h1)
  · subst h
    obtain ⟨a, rfl, h1⟩ := r
    exact .base (.dT h1)
  · subst h
    obtain ⟨a, rfl, h1⟩ := r
    rcases h1 with (h1 | ⟨o, h1⟩) | ⟨o, its, n, h1, h2, _⟩
    · exact .base (.lst h1)
    · exact .base (.frz h1)
    · exact .kList h1 h2
def e_isi (T : String) (fa : Env → R) : Env → R := e_un (isTy T) fa
theorem kit_int {d : D} {t : String} (h : tyD d = some t) : kitB t "int" = some (t == "int" || (t == "bool" && "int" == "int")) := by
  cases d <;> simp only [tyD, reduceCtorEq, Option.some.injEq] at h <;> subst h <;> decide +kernel
theorem kit_bool {d : D} {t : String} (h : tyD d = some t) : kitB t "bool" = some (t == "bool" || (t == "bool" && "bool" == "int")) := by
  cases d <;> simp only [tyD, reduceCtorEq, Option.some.injEq] at h <;> subst h <;> decide +kernel
theorem kit_list {d : D} {t : String} (h : tyD d = some t) : kitB t "list" = some (t == "list" || (t == "bool" && "list" == "int")) := by
  cases d <;> simp only [tyD, reduceCtorEq, Option.some.injEq] at h <;> subst h <;> decide +kernel
theorem kit_tuple {d : D} {t : String} (h : tyD d = some t) : kitB t "tuple" = some (t == "tuple" || (t == "bool" && "tuple" == "int")) := by
  cases d <;> simp only [tyD, reduceCtorEq, Option.some.injEq] at h <;> subst h <;> decide +kernel
/-- isinstance(x, T), T the name of a built-in class -/
theorem py_isi {T : String} {x : Str} {p p2 : Pos} (kt : ∀ {d : D} {t : String}, tyD d = some t → kitB t T = some (t == T || (t == "bool" && T == "int"))) (hg : Gl X "isinstance") (hm : X.mg "isinstance" = none) (ha : PyE c X E fra e fa)
    (hgx : Gl X x) (hmx : X.mg x = none) (hvx : bootBuiltins x = some (.type T)) (hnx : x ≠ "__name__" := by decide) (hdx : (x == ("__debug__" : Str)) = false := by decide)
    (he : starEach (e :: [.Name x p2]) X.env = (false, eval e X.env) :: starEach [.Name x p2] X.env := by rfl) (hpl : (backTo pos (starEach [.Name x p2] X.env)).any (·.1) = false := by rfl) (he2 : starEach (.Name x p2 :: []) X.env = (false, eval (.Name x p2) X.env) :: starEach [] X.env := by rfl) :
    PyE c X E true (.Call (.Name "isinstance" p) [e, .Name x p2] [] pos) (e_isi T fa) := by
  refine PE.weak (pe_callB (x := "isinstance") call_isi hg hm (by decide +kernel) (pa_cons ha (pa_cons (pe_bltn (v := .ty T) hgx hmx hvx rfl hnx hdx) pa_nil he2) he) (he := he) (hpl := hpl)) fun σ H Q ⟨W, env, sl, sm, p⟩ => ?_
  refine ⟨W, env, sl, sm, ?_⟩
  unfold e_isi e_un at p
  cases q : fa env with
  | bad =>
    rw [q] at p
    exact p
  | exc n =>
    rw [q] at p
    exact p
  | ok d =>
    rw [q] at p
    intro v H1 s1 r1
    have p' : Post X.K c E true W H (isTy T d) Q := p
    unfold isTy at p'
    cases q2 : tyD d with
    | none =>
      rw [q2] at p'
      exact p'.elim
    | some t =>
      rw [q2] at p'
      exact ⟨v, .ty T, _, _, _, rfl, .ty T, tyx_of q2 r1.at, kit_ty (kt q2), p' _ H1 s1 (Res.scal rfl)⟩

/-! ### == and in -/
mutual
def toPy : D → PyData
  | .non => .none
  | .bl b => .bool b
  | .int i => .int i
  | .str x => .str x
  | .lst ds => .list (toPys ds)
  | .tup ds => .tuple (toPys ds)
  | .scr ns => .list (ns.map PyData.int)
  | .ins _ _ => .dict []
  | .dk _ => .dict []
  | .dt _ => .dict []
def toPys : List D → List PyData
  | [] => []
  | d :: ds => toPy d :: toPys ds
end
theorem dp_ints {W : Hp} : ∀ (ns : List Int), DpAll K W (ns.map V.int) (ns.map PyData.int)
  | [] => .nil
  | n :: ns => .cons (.int n) (dp_ints ns)
mutual
theorem dp_of {W : Hp} : ∀ (d : D) (v : V), (toPy d).canLay0 = true → Rep K c W d v → Dp K W v (toPy d)
  | .non, v, _, r => by
    rw [show v = .non from r]
    exact .non
  | .bl b, v, _, r => by
    rw [show v = .bl b from r]
    exact .bl b
  | .int b, v, _, r => by
    rw [show v = .int b from r]
    exact .int b
  | .str b, v, _, r => by
    rw [show v = .str b from r]
    exact .str b
  | .lst ds, v, h, r => by
    obtain ⟨a, xs, rfl, h1, h2⟩ := r
    exact .lst (.inl (.inl h1)) (dp_all ds xs (by simpa only [toPy, PyData.canLay0] using h) h2)
  | .tup ds, v, h, r => by
    obtain ⟨a, xs, rfl, h1, h2⟩ := r
    exact .tup (.inl (.inl h1)) (dp_all ds xs (by simpa only [toPy, PyData.canLay0] using h) h2)
  | .scr ns, v, _, r => by
    obtain ⟨a, rfl, h1⟩ := r
    exact .lst h1 (dp_ints ns)
  | .ins _ _, v, h, _ => by
    simp [toPy, PyData.canLay0] at h
  | .dk _, v, h, _ => by
    simp [toPy, PyData.canLay0] at h
  | .dt _, v, h, _ => by
    simp [toPy, PyData.canLay0] at h
theorem dp_all {W : Hp} : ∀ (ds : List D) (vs : List V), PyData.canLayAll0 (toPys ds) = true → Reps K c W ds vs → DpAll K W vs (toPys ds)
  | [], vs, _, r => by
    rw [show vs = [] from r]
    exact .nil
  | d :: ds, vs, h, r => by
    obtain ⟨y, ys, rfl, h1, h2⟩ := r
    have h' : (toPy d).canLay0 = true ∧ PyData.canLayAll0 (toPys ds) = true := by simpa only [toPys, PyData.canLayAll0, Bool.and_eq_true] using h
    exact .cons (dp_of d y h'.1 h1) (dp_all ds ys h'.2 h2)
end
def g_eq (neg : Bool) : D → D → R := fun x y => if SeqAt.shaped (toPy x) && SeqAt.shaped (toPy y) then .ok (.bl (PyData.eqv (toPy x) (toPy y) != neg)) else .bad
theorem can_shaped {d : PyData} (h : SeqAt.shaped d = true) : d.canLay0 = true := (Bool.and_eq_true_iff.mp h).1
theorem opg_eq : OpG K c fra frb true (rEqD K) (g_eq false) := by
  intro W H H1 x y vx vy Q sW s rx ry
  unfold g_eq
  by_cases h : (SeqAt.shaped (toPy x) && SeqAt.shaped (toPy y)) = true
  · rw [if_pos h]
    refine ⟨fun n z => (nomatch z), fun g => ?_⟩
    have h' := Bool.and_eq_true_iff.mp h
    have q := g (.bl (PyData.eqv (toPy x) (toPy y) != false)) H1 (Same.refl _) (Res.scal rfl)
    rw [Bool.bne_false] at q
    exact ⟨_, _, dp_of x vx (can_shaped h'.1) rx.at, dp_of y vy (can_shaped h'.2) ry.at, h'.1, h'.2, q⟩
  · rw [if_neg h]
    exact ⟨fun n z => (nomatch z), fun g => False.elim g⟩
theorem opg_ne : OpG K c fra frb true (rNeD K) (g_eq true) := by
  intro W H H1 x y vx vy Q sW s rx ry
  unfold g_eq
  by_cases h : (SeqAt.shaped (toPy x) && SeqAt.shaped (toPy y)) = true
  · rw [if_pos h]
    refine ⟨fun n z => (nomatch z), fun g => ?_⟩
    have h' := Bool.and_eq_true_iff.mp h
    have q := g (.bl (PyData.eqv (toPy x) (toPy y) != true)) H1 (Same.refl _) (Res.scal rfl)
    rw [Bool.bne_true] at q
    exact ⟨_, _, dp_of x vx (can_shaped h'.1) rx.at, dp_of y vy (can_shaped h'.2) ry.at, h'.1, h'.2, q⟩
  · rw [if_neg h]
    exact ⟨fun n z => (nomatch z), fun g => False.elim g⟩
theorem py_eq (hu : X.A.units + 64 < cLine) (ha : PyE c X E fra a fa) (hb : PyE c X E frb b fb) : PyE c X E true (.Compare a [.Eq] [b] pos) (e_op (g_eq false) fa fb) := py_cmp (op_eqD hu) opg_eq ha hb (nomark _)
theorem py_ne (hu : X.A.units + 64 < cLine) (ha : PyE c X E fra a fa) (hb : PyE c X E frb b fb) : PyE c X E true (.Compare a [.NotEq] [b] pos) (e_op (g_eq true) fa fb) := py_cmp (op_neD hu) opg_ne ha hb (nomark _)
theorem pt_eq (hu : X.A.units + 64 < cLine) (ha : PyE c X E fra a fa) (hb : PyE c X E frb b fb) : PyT c X E (.Compare a [.Eq] [b] pos) (e_op (g_eq false) fa fb) := py_tcmp (op_eqD hu) opg_eq ha hb (nomark _)
theorem pt_ne (hu : X.A.units + 64 < cLine) (ha : PyE c X E fra a fa) (hb : PyE c X E frb b fb) : PyT c X E (.Compare a [.NotEq] [b] pos) (e_op (g_eq true) fa fb) := py_tcmp (op_neD hu) opg_ne ha hb (nomark _)
/-- in a list or tuple of plain things -/
def svals : List D → Option (List V)
  | [] => some []
  | d :: ds => match sval d, svals ds with
    | some v, some vs => some (v :: vs)
    | _, _ => none
theorem svals_reps {W : Hp} : ∀ {ds : List D} {us vs : List V}, svals ds = some us → Reps K c W ds vs → vs = us
  | [], us, vs, h, r => by
    have e : [] = us := Option.some.inj h
    rw [← e]
    exact r
  | d :: ds, us, vs, h, r => by
    obtain ⟨y, ys, rfl, r1, r2⟩ := r
    unfold svals at h
    split at h
    · rename_i v ws h1 h2
      have e : v :: ws = us := Option.some.inj h
      rw [← e, svals_reps h2 r2, sval_rep h1 r1]
    · cases h
theorem sval_flat {d : D} {v : V} (h : sval d = some v) : flatV v = true := by
  cases d <;> simp only [sval, reduceCtorEq, Option.some.injEq] at h <;> subst h <;> rfl
theorem svals_flat : ∀ {ds : List D} {us : List V}, svals ds = some us → us.all flatV = true
  | [], us, h => by
    have e : [] = us := Option.some.inj h
    rw [← e]
    rfl
  | d :: ds, us, h => by
    unfold svals at h
    split at h
    · rename_i v ws h1 h2
      have e : v :: ws = us := Option.some.inj h
      rw [← e, List.all_cons, sval_flat h1, svals_flat h2]
      rfl
    · cases h
def g_in (neg : Bool) : D → D → R := fun x y => match sval x, asSeq y with
  | some v, some ds => (match svals ds with
    | some us => .ok (.bl (inV v us != neg))
    | none => .bad)
  | _, _ => .bad
theorem opg_in {neg : Bool} : OpG K c fra frb true (rIn K neg) (g_in neg) := by
  intro W H H1 x y vx vy Q sW s rx ry
  unfold g_in
  cases q1 : sval x with
  | none => exact ⟨fun n z => (nomatch z), fun g => False.elim g⟩
  | some v =>
    cases q2 : asSeq y with
    | none => exact ⟨fun n z => (nomatch z), fun g => False.elim g⟩
    | some ds =>
      cases q3 : svals ds with
      | none =>
        simp only [q3]
        exact ⟨fun n z => (nomatch z), fun g => False.elim g⟩
      | some us =>
        simp only [q3]
        refine ⟨fun n z => (nomatch z), fun g => ?_⟩
        obtain ⟨p, xs, rfl, hs, hr⟩ := asSeq_rep q2 ry.at
        have ex := svals_reps q3 hr
        subst ex
        obtain rfl := sval_rep q1 rx.at
        have q := g (.bl (inV vx xs != neg)) H1 (Same.refl _) (Res.scal rfl)
        refine ⟨p, xs, rfl, hs, sval_flat q1, svals_flat q3, ?_⟩
        cases neg with
        | false =>
          rw [Bool.bne_false] at q
          exact q
        | true =>
          rw [Bool.bne_true] at q
          exact q
theorem py_in (ha : PyE c X E fra a fa) (hb : PyE c X E frb b fb) (hm : behindInMarks .In b = false := by rfl) : PyE c X E true (.Compare a [.In] [b] pos) (e_op (g_in false) fa fb) := py_cmp op_in_seq opg_in ha hb hm
theorem py_nin (ha : PyE c X E fra a fa) (hb : PyE c X E frb b fb) (hm : behindInMarks .NotIn b = false := by rfl) : PyE c X E true (.Compare a [.NotIn] [b] pos) (e_op (g_in true) fa fb) := py_cmp op_notIn_seq opg_in ha hb hm
theorem pt_in (ha : PyE c X E fra a fa) (hb : PyE c X E frb b fb) (hm : behindInMarks .In b = false := by rfl) : PyT c X E (.Compare a [.In] [b] pos) (e_op (g_in false) fa fb) := py_tcmp op_in_seq opg_in ha hb hm
theorem pt_nin (ha : PyE c X E fra a fa) (hb : PyE c X E frb b fb) (hm : behindInMarks .NotIn b = false := by rfl) : PyT c X E (.Compare a [.NotIn] [b] pos) (e_op (g_in true) fa fb) := py_tcmp op_notIn_seq opg_in ha hb hm

/-! ### subscripts -/
def g_ix : D → D → R := fun x y => match asSeq x, y with
  | some ds, .int i => (match atI ds i with
    | some d => .ok d
    | none => .bad)
  | _, _ => .bad
def g_ixs : D → D → R := fun x y => match g_ix x y with
  | .ok d => scOnly d
  | _ => .bad
theorem atI_reps {W : Hp} {ds : List D} {vs : List V} {i : Int} {d : D} (r : Reps K c W ds vs) (h : atI ds i = some d) : ∃ v, atI vs i = some v ∧ Rep K c W d v := by
  unfold atI at h ⊢
  rw [r.length]
  cases q : ixN ds.length i with
  | none =>
    rw [q] at h
    cases h
  | some j =>
    rw [q] at h
    exact r.get h
def rIxS2 (K : PySem.W.Frag) : R2 := fun x y H Q => rIxL K x y H Q ∨ rIxT K x y H Q
theorem ix_seq2 : IxR X (rIxS2 X.K) := ix_list.or ix_tup
theorem opg_ix : OpG K c fra frb false (rIxS2 K) g_ix := by
  intro W H H1 x y vx vy Q sW s rx ry
  unfold g_ix
  cases q1 : asSeq x with
  | none => exact ⟨fun n z => (nomatch z), fun g => False.elim g⟩
  | some ds =>
    cases y <;> try exact ⟨fun n z => (nomatch z), fun g => False.elim g⟩
    rename_i i
    cases q2 : atI ds i with
    | none =>
      simp only [q2]
      exact ⟨fun n z => (nomatch z), fun g => False.elim g⟩
    | some d =>
      simp only [q2]
      refine ⟨fun n z => ?_, fun g => ?_⟩
      · cases z
      · have ey : vy = .int i := ry.at
        obtain ⟨W', gr, r⟩ := rx.any
        obtain ⟨p, xs, rfl, hs, hr⟩ := asSeq_rep q1 r
        obtain ⟨v, hv, rv⟩ := atI_reps hr q2
        have q := g v H1 (Same.refl _) ⟨W', gr, rv⟩
        rcases hs with hs | hs
        · exact .inl ⟨p, xs, i, v, rfl, ey, gr.sm.seq hs, hv, q⟩
        · exact .inr ⟨p, xs, i, v, rfl, ey, same_t gr.sm hs, hv, q⟩
theorem opg_ixs : OpG K c fra frb true (rIxS2 K) g_ixs := by
  intro W H H1 x y vx vy Q sW s rx ry
  obtain ⟨h1, h2⟩ := opg_ix (fra := fra) (frb := frb) W H H1 x y vx vy Q sW s rx ry
  unfold g_ixs
  cases q : g_ix x y with
  | exc n => exact (h1 n q).elim
  | bad => exact ⟨fun n z => (nomatch z), fun g => False.elim g⟩
  | ok d =>
    cases q2 : scOnly d with
    | exc n => exact (scOnly_exc q2).elim
    | bad =>
      simp only [q2]
      exact ⟨fun n z => (nomatch z), fun g => False.elim g⟩
    | ok d' =>
      simp only [q2]
      obtain ⟨rfl, u, hu⟩ := scOnly_ok q2
      refine ⟨fun n z => ?_, fun g => h2 ?_⟩
      · cases z
      · rw [q]
        intro v H' s' r'
        obtain rfl := sval_rep hu r'.at
        exact g _ H' s' (Res.scal hu)
theorem py_ix (ha : PyE c X E fra a fa) (hb : PyE c X E frb b fb) (hs : PlainIx b := by exact fun _ _ => rfl) : PyE c X E false (.Subscript a b pos) (e_op g_ix fa fb) := PE.weak (pe_ix ix_seq2 ha hb hs) fun _ _ _ h => op_read opg_ix h
theorem py_ixs (ha : PyE c X E fra a fa) (hb : PyE c X E frb b fb) (hs : PlainIx b := by exact fun _ _ => rfl) : PyE c X E true (.Subscript a b pos) (e_op g_ixs fa fb) := PE.weak (pe_ix ix_seq2 ha hb hs) fun _ _ _ h => op_read opg_ixs h
end
end PyS
set_option maxRecDepth 100000
set_option maxHeartbeats 4000000
/-! Sem4: new lists (slices, +, *, list, sorted), what is walked, comprehensions, calls of own defs. -/
namespace PyS
open PySem PySem.Spec PyProof.Rows L2

section
variable {c : Ct} {X : Cx} {E : XK} {e a b : Expr} {es : List Expr} {f fa fb : Env → R} {fs : Env → RA} {fr fra frb frs : Bool} {pos : Pos} {K : PySem.W.Frag}
/-- bits of a power -/
def powOk (i j : Int) : Bool := decide (0 ≤ j) && decide (((i.natAbs.log2 + 1 : Nat) : Int) * j ≤ 134217728)
def g_pow := gI powOk fun i j => .int (i ^ j.toNat)
theorem op_powB : OpR X (binaryOp .Pow) (rI (fun i j => powOk i j = true) fun i j => .int (i ^ j.toNat)) := opI fun i j _ _ _ _ _ hc q => by
  unfold powOk at hc
  rw [Bool.and_eq_true, decide_eq_true_eq, decide_eq_true_eq] at hc
  have b : Builtin.Int.intBits i ≤ i.natAbs.log2 + 1 := by
    unfold Builtin.Int.intBits
    split <;> omega
  refine pow_int hc.1 ?_ q
  have e : (2 : Int) ^ 27 = 134217728 := by decide
  rw [e]
  refine Int.le_trans (Int.mul_le_mul_of_nonneg_right ?_ hc.1) hc.2
  omega
theorem py_pow (ha : PyE c X E fra a fa) (hb : PyE c X E frb b fb) : PyE c X E true (.BinOp a .Pow b pos) (e_op g_pow fa fb) := py_op op_powB (opg_int (fun _ _ h => h) fun _ _ => rfl) ha hb

/-! ### new lists -/
theorem Res.ints {W H H1 H2 : Hp} {ns : List Int} {p : Addr} (sW : Same W H) (s : Same H H1) (hp : H1 p = none) (s2 : Same H1 H2) (hv : H2 p = some (.lst (ns.map V.int))) : Res K c true W H H2 (.lst (ns.map D.int)) (.ref p) :=
  Res.newL (fr := true) sW s (ResA.sc (scAll_ints ns) (Reps.ints ns)) hp s2 hv
/-- xs + ys -/
def g_cat : D → D → R := fun x y => match x, y with
  | .lst xs, .lst ys => if xs.length + ys.length ≤ 100000 then .ok (.lst (xs ++ ys)) else .bad
  | _, _ => .bad
theorem opg_cat : OpG K c fra frb (fra && frb) rCat g_cat := by
  intro W H H1 x y vx vy Q sW s rx ry
  constructor
  · intro n h
    unfold g_cat at h
    split at h
    · split at h <;> cases h
    · cases h
  · intro g
    unfold g_cat at g
    split at g
    · rename_i xs ys
      by_cases hl : xs.length + ys.length ≤ 100000
      · rw [if_pos hl] at g
        have h1 := rx.at
        have h2 := ry.at
        obtain ⟨l, us, rfl, hu, ru⟩ := h1
        obtain ⟨m, ws, rfl, hw, rw'⟩ := h2
        have l1 := ru.length
        have l2 := rw'.length
        -- the parts, in their worlds
        have parts : ∀ {f1 : Bool} {ds : List D} {l : Addr} {us : List V}, Res K c f1 W H H1 (.lst ds) (.ref l) → H1 l = some (.lst us) → ResA K c f1 W H H1 ds us := fun {f1 ds l us} r hu => by
          obtain ⟨W', gr, r⟩ := r
          cases f1 with
          | true =>
            obtain ⟨q, us', e1, _, _, h3, h4⟩ := r
            have e2 : l = q := V.ref.inj e1
            subst e2
            rw [hu] at h3
            have e3 : us = us' := HO.lst.inj (Option.some.inj h3)
            subst e3
            exact ⟨W', gr, h4⟩
          | false =>
            obtain ⟨q, us', e1, h3, h4⟩ := r
            have e2 : l = q := V.ref.inj e1
            subst e2
            have h3' := gr.sm _ _ h3
            rw [hu] at h3'
            have e3 : us = us' := HO.lst.inj (Option.some.inj h3')
            subst e3
            exact ⟨W', gr, h4⟩
        obtain ⟨W1, g1, p1⟩ := parts rx hu
        obtain ⟨W2, g2, p2⟩ := parts ry hw
        have pp : ResA K c (fra && frb) W H H1 (xs ++ ys) (us ++ ws) := ⟨wor W1 W2, g1.or g2, (p1.mono (wor_l _ _)).append (p2.mono (wor_r g1.sm g2.sm))⟩
        exact ⟨l, m, us, ws, rfl, rfl, hu, hw, sz (by omega), fun p hp => g _ _ (same_new hp) (Res.newL sW s pp hp (same_new hp) upd_same)⟩
      · rw [if_neg hl] at g
        exact False.elim g
    · exact False.elim g
theorem py_cat (ha : PyE c X E fra a fa) (hb : PyE c X E frb b fb) : PyE c X E (fra && frb) (.BinOp a .Add b pos) (e_op g_cat fa fb) := py_op op_cat opg_cat ha hb
/-- .. of plain things: new, whatever they come of -/
def g_catS : D → D → R := fun x y => match x, y with
  | .lst xs, .lst ys => if xs.length + ys.length ≤ 100000 ∧ scAll (xs ++ ys) = true then .ok (.lst (xs ++ ys)) else .bad
  | _, _ => .bad
theorem opg_catS : OpG K c fra frb true rCat g_catS := by
  intro W H H1 x y vx vy Q sW s rx ry
  constructor
  · intro n h
    unfold g_catS at h
    split at h
    · split at h <;> cases h
    · cases h
  · intro g
    unfold g_catS at g
    split at g
    · rename_i xs ys
      by_cases hl : xs.length + ys.length ≤ 100000 ∧ scAll (xs ++ ys) = true
      · rw [if_pos hl] at g
        have h1 := rx.at
        have h2 := ry.at
        obtain ⟨l, us, rfl, hu, ru⟩ := h1
        obtain ⟨m, ws, rfl, hw, rw'⟩ := h2
        have l1 := ru.length
        have l2 := rw'.length
        exact ⟨l, m, us, ws, rfl, rfl, hu, hw, sz (by omega), fun p hp => g _ _ (same_new hp) (Res.newL (fr := true) sW s (ResA.sc hl.2 (ru.append rw')) hp (same_new hp) upd_same)⟩
      · rw [if_neg hl] at g
        exact False.elim g
    · exact False.elim g
theorem py_catS (ha : PyE c X E fra a fa) (hb : PyE c X E frb b fb) : PyE c X E true (.BinOp a .Add b pos) (e_op g_catS fa fb) := py_op op_cat opg_catS ha hb
/-- xs * n -/
def g_rep : D → D → R := fun x y => match x, y with
  | .lst xs, .int k => if 0 ≤ k ∧ k ≤ 1000 ∧ xs.length ≤ 100 then .ok (.lst (List.replicate k.toNat xs).flatten) else .bad
  | _, _ => .bad
theorem Reps.flat {W : Hp} : ∀ (n : Nat) {ds : List D} {vs : List V}, Reps K c W ds vs → Reps K c W (List.replicate n ds).flatten (List.replicate n vs).flatten
  | 0, ds, vs, _ => rfl
  | n + 1, ds, vs, r => by
    rw [List.replicate_succ, List.replicate_succ, List.flatten_cons, List.flatten_cons]
    exact r.append (Reps.flat n r)
theorem opg_rep : OpG K c fra frb fra rRep g_rep := by
  intro W H H1 x y vx vy Q sW s rx ry
  constructor
  · intro n h
    unfold g_rep at h
    split at h
    · split at h <;> cases h
    · cases h
  · intro g
    unfold g_rep at g
    split at g
    · rename_i xs k
      by_cases hl : 0 ≤ k ∧ k ≤ 1000 ∧ xs.length ≤ 100
      · rw [if_pos hl] at g
        have h1 := rx.at
        obtain ⟨l, us, rfl, hu, ru⟩ := h1
        have ek : vy = .int k := ry.at
        have l1 := ru.length
        have pp : ResA K c fra W H H1 xs us := by
          obtain ⟨W', gr, r⟩ := rx
          cases fra with
          | true =>
            obtain ⟨q, us', e1, _, _, h3, h4⟩ := r
            have e2 : l = q := V.ref.inj e1
            subst e2
            rw [hu] at h3
            have e3 : us = us' := HO.lst.inj (Option.some.inj h3)
            subst e3
            exact ⟨W', gr, h4⟩
          | false =>
            obtain ⟨q, us', e1, h3, h4⟩ := r
            have e2 : l = q := V.ref.inj e1
            subst e2
            have h3' := gr.sm _ _ h3
            rw [hu] at h3'
            have e3 : us = us' := HO.lst.inj (Option.some.inj h3')
            subst e3
            exact ⟨W', gr, h4⟩
        obtain ⟨W', gr, r⟩ := pp
        have hm : us.length * k.toNat ≤ 100000 := by
          have h1 : us.length * k.toNat ≤ 100 * 1000 := Nat.mul_le_mul (by omega) (by omega)
          omega
        exact ⟨l, k, us, rfl, ek, hu, by omega, by omega, sz hm, fun p hp => g _ _ (same_new hp) (Res.newL sW s ⟨W', gr, Reps.flat k.toNat r⟩ hp (same_new hp) upd_same)⟩
      · rw [if_neg hl] at g
        exact False.elim g
    · exact False.elim g
theorem py_rep (ha : PyE c X E fra a fa) (hb : PyE c X E frb b fb) : PyE c X E fra (.BinOp a .Mult b pos) (e_op g_rep fa fb) := py_op op_rep opg_rep ha hb

/-- list(xs), the parts plain -/
def g_listS : List D → R
  | [d] => (match asSeq d with
    | some ds => if ds.length ≤ 100000 ∧ scAll ds = true then .ok (.lst ds) else .bad
    | none => .bad)
  | _ => .bad
theorem callg_listS : CallG K c frs true (fun xs H Q => ∃ p ys, xs = [.ref p] ∧ (SqL K H p ys ∨ SqT K H p ys) ∧ ∀ l, H l = none → Q (.ref l) (upd H l (.lst ys))) g_listS := by
  intro W H H1 ds vs Q sW s r
  match ds, r with
  | [], r => exact ⟨fun n h => (nomatch h), fun g => False.elim g⟩
  | [d], r =>
    cases q : asSeq d with
    | none =>
      simp only [g_listS, q]
      exact ⟨fun n h => (nomatch h), fun g => False.elim g⟩
    | some ds =>
      simp only [g_listS, q]
      by_cases hl : ds.length ≤ 100000 ∧ scAll ds = true
      · rw [if_pos hl]
        refine ⟨fun n h => (nomatch h), fun g => ?_⟩
        obtain ⟨v, rfl, rv⟩ := one_of r
        obtain ⟨a, xs, rfl, hs, hr⟩ := asSeq_rep q rv.at
        exact ⟨a, xs, rfl, hs, fun l hl' => g _ _ (same_new hl') (Res.newL (fr := true) sW s (ResA.sc hl.2 hr) hl' (same_new hl') upd_same)⟩
      · rw [if_neg hl]
        exact ⟨fun n h => (nomatch h), fun g => False.elim g⟩
  | _ :: _ :: _, r => exact ⟨fun n h => (nomatch h), fun g => False.elim g⟩
theorem py_listS {p : Pos} (hg : Gl X "list") (hm : X.mg "list" = none) (ha : PyA c X E frs [e] fs) (he : starEach [e] X.env = (false, eval e X.env) :: starEach [] X.env := by rfl) : PyE c X E true (.Call (.Name "list" p) [e] [] pos) (e_call g_listS fs) :=
  py_callTy call_list_of callg_listS hg hm (by decide +kernel) ha (he := he)

/-- whole numbers, rising -/
def insI (n : Int) : List Int → List Int
  | [] => [n]
  | m :: r => if n ≤ m then n :: m :: r else m :: insI n r
def sortI : List Int → List Int
  | [] => []
  | n :: r => insI n (sortI r)
theorem insI_perm (n : Int) : ∀ l : List Int, (insI n l).Perm (n :: l)
  | [] => .refl _
  | m :: r => by
    unfold insI
    split
    · exact .refl _
    · exact (List.Perm.cons m (insI_perm n r)).trans (List.Perm.swap n m r)
theorem sortI_perm : ∀ l : List Int, (sortI l).Perm l
  | [] => .refl _
  | n :: r => (insI_perm n _).trans (List.Perm.cons n (sortI_perm r))
theorem insI_sorted (n : Int) : ∀ {l : List Int}, l.Pairwise (· ≤ ·) → (insI n l).Pairwise (· ≤ ·)
  | [], _ => List.pairwise_singleton _ _
  | m :: r, h => by
    obtain ⟨h1, h2⟩ := List.pairwise_cons.mp h
    unfold insI
    split
    · rename_i hn
      refine List.pairwise_cons.mpr ⟨fun x hx => ?_, h⟩
      rcases List.mem_cons.mp hx with z | z
      · rw [z]
        exact hn
      · exact Int.le_trans hn (h1 x z)
    · rename_i hn
      refine List.pairwise_cons.mpr ⟨fun x hx => ?_, insI_sorted n h2⟩
      rcases List.mem_cons.mp ((insI_perm n r).mem_iff.mp hx) with z | z
      · rw [z]
        omega
      · exact h1 x z
theorem sortI_sorted : ∀ l : List Int, (sortI l).Pairwise (· ≤ ·)
  | [] => .nil
  | n :: r => insI_sorted n (sortI_sorted r)
theorem sorted_uniq : ∀ {l m : List Int}, l.Perm m → l.Pairwise (· ≤ ·) → m.Pairwise (· ≤ ·) → l = m
  | [], m, p, _, _ => (List.Perm.nil_eq p)
  | a :: l, m, p, hl, hm => by
    cases m with
    | nil => exact absurd p.length_eq (by simp)
    | cons b m =>
      obtain ⟨h1, h2⟩ := List.pairwise_cons.mp hl
      obtain ⟨h3, h4⟩ := List.pairwise_cons.mp hm
      have ha : a ∈ b :: m := p.mem_iff.mp List.mem_cons_self
      have hb : b ∈ a :: l := p.mem_iff.mpr List.mem_cons_self
      have e : a = b := by
        rcases List.mem_cons.mp ha with z | z
        · exact z
        · rcases List.mem_cons.mp hb with y | y
          · exact y.symm
          · have q1 := h3 a z
            have q2 := h1 b y
            omega
      subst e
      rw [sorted_uniq (List.Perm.cons_inv p) h2 h4]
theorem sortI_uniq {l ns : List Int} (p : l.Perm ns) (h : l.Pairwise (· ≤ ·)) : l = sortI ns := sorted_uniq (p.trans (sortI_perm ns).symm) h (sortI_sorted ns)
def g_sorted : List D → R
  | [d] => (match asL d with
    | some ds => (match asInts ds with
      | some ns => .ok (.lst ((sortI ns).map D.int))
      | none => .bad)
    | none => .bad)
  | _ => .bad
theorem callg_sorted : CallG K c frs true (rSortedI K) g_sorted := by
  intro W H H1 ds vs Q sW s r
  match ds, r with
  | [], r => exact ⟨fun n h => (nomatch h), fun g => False.elim g⟩
  | [d], r =>
    cases q : asL d with
    | none =>
      simp only [g_sorted, q]
      exact ⟨fun n h => (nomatch h), fun g => False.elim g⟩
    | some ds =>
      cases q2 : asInts ds with
      | none =>
        simp only [g_sorted, q, q2]
        exact ⟨fun n h => (nomatch h), fun g => False.elim g⟩
      | some ns =>
        simp only [g_sorted, q, q2]
        refine ⟨fun n h => (nomatch h), fun g => ?_⟩
        obtain ⟨v, rfl, rv⟩ := one_of r
        obtain ⟨a, xs, rfl, hs, hr⟩ := asL_rep q rv.at
        have ex := ints_reps q2 hr
        subst ex
        refine ⟨a, ns, rfl, hs, fun ns' p hp hst hn => ?_⟩
        have es := sortI_uniq hp hst
        subst es
        exact g _ _ (same_new hn) (Res.ints sW s hn (same_new hn) upd_same)
  | _ :: _ :: _, r => exact ⟨fun n h => (nomatch h), fun g => False.elim g⟩
theorem py_sorted {p : Pos} (hg : Gl X "sorted") (hm : X.mg "sorted" = none) (ha : PyA c X E frs [e] fs) (he : starEach [e] X.env = (false, eval e X.env) :: starEach [] X.env := by rfl) : PyE c X E true (.Call (.Name "sorted" p) [e] [] pos) (e_call g_sorted fs) :=
  py_callB cr_sortedI callg_sorted hg hm (by decide +kernel) ha (he := he)

/-! ### slices of a list -/
def cutG {α : Type} (xs : List α) (lo hi : Option Int) : List α := (xs.drop (HT.sIx xs.length 0 lo)).take (HT.sIx xs.length xs.length hi - HT.sIx xs.length 0 lo)
theorem Reps.cut {W : Hp} {ds : List D} {vs : List V} (lo hi : Option Int) (r : Reps K c W ds vs) : Reps K c W (cutG ds lo hi) (cutV vs lo hi) := by
  unfold cutG cutV
  rw [r.length]
  exact (r.drop _).take _
def asPart : R → Option (Option Int)
  | .ok (.int i) => some (some i)
  | .ok .non => some none
  | _ => none
/-- xs[lo:hi]; a part that is left out: e_c .non -/
def rSlice (k : List D → Bool) (x lo hi : R) : R := match x with
  | .ok d => (match asL d, asPart lo, asPart hi with
    | some ds, some l, some u => if k (cutG ds l u) then .ok (.lst (cutG ds l u)) else .bad
    | _, _, _ => .bad)
  | .exc n => .exc n
  | .bad => .bad
def e_slice (fa fl fh : Env → R) : Env → R := fun env => rSlice (fun _ => true) (fa env) (fl env) (fh env)
def e_sliceS (fa fl fh : Env → R) : Env → R := fun env => rSlice scAll (fa env) (fl env) (fh env)
/-- a slice's part -/
def tOfO (K : PySem.W.Frag) (c : Ct) (f : Env → R) : TO := fun σ H Q => ∃ W env, Slots K c W σ env ∧ Same W H ∧ ∃ o, asPart (f env) = some o ∧ ∀ H', Same H H' → Q o H'
abbrev PyO (c : Ct) (X : Cx) (oe : Option Expr) (f : Env → R) : Prop := PO X oe (tOfO X.K c f)
theorem PO.weak {oe : Option Expr} {t t' : TO} (h : PO X oe t) (w : ∀ σ H Q, t' σ H Q → t σ H Q) : PO X oe t' := ⟨fun pins s σ H Q I q => h.run pins s σ H Q I (w _ _ _ q)⟩
theorem pyo_none : PyO c X none (e_c .non) := PO.weak po_none fun σ H Q ⟨W, env, sl, sm, o, h1, h2⟩ => by
  have e : none = o := Option.some.inj h1
  subst e
  exact h2 H (Same.refl H)
def e_part (fa : Env → R) : Env → R := fun env => match fa env with
  | .ok (.int i) => .ok (.int i)
  | _ => .bad
theorem pyo_some (ha : PyE c X E fra a fa) : PyO c X (some a) (e_part fa) := PO.weak (po_some ha) fun σ H Q ⟨W, env, sl, sm, o, h1, h2⟩ => by
  refine ⟨W, env, sl, sm, ?_⟩
  unfold e_part at h1
  cases q : fa env with
  | exc n =>
    rw [q] at h1
    cases h1
  | bad =>
    rw [q] at h1
    cases h1
  | ok d =>
    rw [q] at h1
    intro v H' s r
    cases d <;> simp only [asPart, reduceCtorEq, Option.some.injEq] at h1
    subst h1
    exact ⟨_, r.at, h2 H' s⟩
/-- the parts of what a list is worth -/
theorem parts_of {W H H1 : Hp} {d : D} {ds : List D} {v : V} (h : asL d = some ds) (r : Res K c fr W H H1 d v) : ∃ a xs, v = .ref a ∧ SqL K H1 a xs ∧ ResA K c fr W H H1 ds xs := by
  obtain ⟨W', g, r⟩ := r
  cases d <;> simp only [asL, reduceCtorEq, Option.some.injEq] at h
  · subst h
    cases fr with
    | true =>
      obtain ⟨a, xs, e, _, _, h1, h2⟩ := r
      exact ⟨a, xs, e, .inl (.inl h1), W', g, h2⟩
    | false =>
      obtain ⟨a, xs, e, h1, h2⟩ := r
      exact ⟨a, xs, e, .inl (.inl (g.sm _ _ h1)), W', g, h2⟩
  · subst h
    cases fr with
    | true => exact False.elim r
    | false =>
      obtain ⟨a, e, h1⟩ := r
      exact ⟨a, _, e, g.sm.seq h1, W', g, Reps.ints _⟩
theorem ResA.cut {W H H1 : Hp} {ds : List D} {vs : List V} (lo hi : Option Int) (r : ResA K c fr W H H1 ds vs) : ResA K c fr W H H1 (cutG ds lo hi) (cutV vs lo hi) := by
  obtain ⟨W', g, r⟩ := r
  exact ⟨W', g, r.cut lo hi⟩
theorem py_slice_gen {lo hi : Option Expr} {fl fh : Env → R} {p2 : Pos} {k : List D → Bool} {fr : Bool} (hk : fr = fra ∨ ∀ ds, k ds = true → scAll ds = true) (ha : PyE c X E fra a fa) (hl : PyO c X lo fl) (hh : PyO c X hi fh) :
    PyE c X E fr (.Subscript a (.Slice lo hi none p2) pos) (fun env => rSlice k (fa env) (fl env) (fh env)) := PE.weak (pe_slice sl_list ha hl hh) fun σ H Q ⟨W, env, sl, sm, p⟩ => by
  refine ⟨W, env, sl, sm, ?_⟩
  have p' : Post X.K c E fr W H (rSlice k (fa env) (fl env) (fh env)) Q := p
  unfold rSlice at p'
  cases q : fa env with
  | bad =>
    rw [q] at p'
    exact p'
  | exc n =>
    rw [q] at p'
    exact p'
  | ok d =>
    rw [q] at p'
    intro v1 H1 s1 r1
    cases q1 : asL d with
    | none =>
      simp only [q1] at p'
      exact False.elim p'
    | some ds =>
      cases q2 : asPart (fl env) with
      | none =>
        simp only [q1, q2] at p'
        exact False.elim p'
      | some l =>
        cases q3 : asPart (fh env) with
        | none =>
          simp only [q1, q2, q3] at p'
          exact False.elim p'
        | some u =>
          simp only [q1, q2, q3] at p'
          refine ⟨W, env, sl, sm.trans s1, l, q2, fun H2 s2 => ⟨W, env, sl, (sm.trans s1).trans s2, u, q3, fun H3 s3 => ?_⟩⟩
          by_cases hc : k (cutG ds l u) = true
          · rw [if_pos hc] at p'
            obtain ⟨x, xs, rfl, hx, rx⟩ := parts_of q1 ((r1.later s2).later s3)
            refine ⟨x, xs, rfl, hx, fun y hy => p' _ _ (((s1.trans s2).trans s3).trans (same_new hy)) ?_⟩
            have hp := rx.cut l u
            rcases hk with z | z
            · subst z
              exact Res.newL sm ((s1.trans s2).trans s3) hp hy (same_new hy) upd_same
            · exact Res.newL sm ((s1.trans s2).trans s3) (ResA.sc (z _ hc) hp.at) hy (same_new hy) upd_same
          · rw [if_neg hc] at p'
            exact False.elim p'
theorem py_slice {lo hi : Option Expr} {fl fh : Env → R} {p2 : Pos} (ha : PyE c X E fra a fa) (hl : PyO c X lo fl) (hh : PyO c X hi fh) : PyE c X E fra (.Subscript a (.Slice lo hi none p2) pos) (e_slice fa fl fh) := py_slice_gen (.inl rfl) ha hl hh
/-- .. of plain things -/
theorem py_sliceS {lo hi : Option Expr} {fl fh : Env → R} {p2 : Pos} (ha : PyE c X E fra a fa) (hl : PyO c X lo fl) (hh : PyO c X hi fh) : PyE c X E true (.Subscript a (.Slice lo hi none p2) pos) (e_sliceS fa fl fh) := py_slice_gen (.inr fun _ h => h) ha hl hh
/-- xs[::-1] of plain things -/
def g_rev : D → R := fun d => match asL d with
  | some ds => if scAll ds.reverse then .ok (.lst ds.reverse) else .bad
  | none => .bad
theorem Reps.reverse {W : Hp} : ∀ {ds : List D} {vs : List V}, Reps K c W ds vs → Reps K c W ds.reverse vs.reverse
  | [], vs, r => by
    rw [show vs = [] from r]
    exact rfl
  | d :: ds, vs, r => by
    obtain ⟨y, ys, rfl, r1, r2⟩ := r
    rw [List.reverse_cons, List.reverse_cons]
    exact (Reps.reverse r2).snoc r1
theorem py_revL {k : Nat} {p1 p2 p3 : Pos} (ha : PyE c X E fra a fa) : PyE c X E true (.Subscript a (.Slice none none (some (.UnaryOp .USub (.Constant (.int 1) k p1) p2)) p3) pos) (e_un g_rev fa) := PE.weak (pe_revL ha) fun σ H Q ⟨W, env, sl, sm, p⟩ => by
  refine ⟨W, env, sl, sm, ?_⟩
  unfold e_un at p
  cases q : fa env with
  | bad =>
    rw [q] at p
    exact p
  | exc n =>
    rw [q] at p
    exact p
  | ok d =>
    rw [q] at p
    intro v1 H1 s1 r1
    have p' : Post X.K c E true W H (g_rev d) Q := p
    unfold g_rev at p'
    cases q1 : asL d with
    | none =>
      simp only [q1] at p'
      exact False.elim p'
    | some ds =>
      simp only [q1] at p'
      by_cases hc : scAll ds.reverse = true
      · rw [if_pos hc] at p'
        obtain ⟨x, xs, rfl, hx, rx⟩ := parts_of q1 r1
        exact ⟨x, xs, rfl, hx, fun y hy => p' _ _ (s1.trans (same_new hy)) (Res.newL (fr := true) sm s1 (ResA.sc hc rx.at.reverse) hy (same_new hy) upd_same)⟩
      · rw [if_neg hc] at p'
        exact False.elim p'

/-! ### what is walked -/
structure IterS (K : PySem.W.Frag) (c : Ct) (W' : Hp) (J : It) (ds : List D) : Prop where
  go : ∀ (i : Nat) (H : Hp), Same W' H → i < ds.length → J.go i H
  yld : ∀ (i : Nat) (H : Hp) (x : V) (H' : Hp), Same W' H → i < ds.length → J.yld i H x H' → Same H H' ∧ ∃ d W'', ds[i]? = some d ∧ Grown W' H H' W'' ∧ Rep K c W'' d x
  stop : ∀ (i : Nat) (H : Hp), Same W' H → ds.length ≤ i → J.stop i H
def PostI (K : PySem.W.Frag) (c : Ct) (E : XK) (W H : Hp) (r : RA) (Q : It → Hp → Prop) : Prop := match r with
  | .ok ds => ∀ J H' W', Same H H' → Grown W H H' W' → IterS K c W' J ds → Q J H'
  | .exc n => ∀ H', Same H H' → E (.ref (c.X n)) none H'
  | .bad => False
def tOfI (K : PySem.W.Frag) (c : Ct) (E : XK) (f : Env → RA) : TI := fun σ H Q => ∃ W env, Slots K c W σ env ∧ Same W H ∧ PostI K c E W H (f env) Q
abbrev PyI (c : Ct) (X : Cx) (E : XK) (tg e : Expr) (f : Env → RA) : Prop := PI X tg e (tOfI X.K c E f)
theorem PI.weak {tg : Expr} {t t' : TI} (h : PI X tg e t) (w : ∀ σ H Q, t' σ H Q → t σ H Q) : PI X tg e t' := ⟨fun pins s σ H Q I q => h.run pins s σ H Q I (w _ _ _ q)⟩
variable {tg : Expr}
def asIt (k : D → Option (List D)) (r : R) : RA := match r with
  | .ok d => (match k d with
    | some ds => .ok ds
    | none => .bad)
  | .exc n => .exc n
  | .bad => .bad
/-- over a list -/
def i_list (fa : Env → R) : Env → RA := fun env => asIt asL (fa env)
theorem Res.rep' {W H H1 : Hp} {d : D} {v : V} (r : Res K c fr W H H1 d v) : ∃ W', Grown W H H1 W' ∧ Rep K c W' d v := by
  obtain ⟨W', g, r⟩ := r.rep
  exact ⟨W', g.base, r⟩
theorem pyi_list (ha : PyE c X E fra a fa) : PyI c X E tg a (i_list fa) := PI.weak (pi_list ha) fun σ H Q ⟨W, env, sl, sm, p⟩ => by
  refine ⟨W, env, sl, sm, ?_⟩
  unfold i_list asIt at p
  cases q : fa env with
  | bad =>
    rw [q] at p
    exact p
  | exc n =>
    rw [q] at p
    exact p
  | ok d =>
    rw [q] at p
    intro v H1 s1 r1
    cases q1 : asL d with
    | none =>
      simp only [q1] at p
      exact False.elim p
    | some ds =>
      simp only [q1] at p
      obtain ⟨W', g, r⟩ := r1.rep'
      obtain ⟨x, xs, rfl, hx, rx⟩ := asL_rep q1 r
      refine ⟨x, rfl, ⟨xs, g.sm.seq hx⟩, p _ H1 W' s1 g ⟨fun i H2 s2 hi => ?_, fun i H2 y H3 s2 hi hy => ?_, fun i H2 s2 hi => ⟨xs, s2.seq hx, by rw [rx.length]; exact hi⟩⟩⟩
      · have hi' : i < xs.length := by
          rw [rx.length]
          exact hi
        exact ⟨xs, xs[i], s2.seq hx, List.getElem?_eq_getElem hi'⟩
      · obtain ⟨e1, e2⟩ := hy
        subst e1
        obtain ⟨d, h1, h2⟩ := rx.getV (e2 xs (s2.seq hx))
        exact ⟨Same.refl _, d, W', h1, ⟨s2, fun a o z => .inl z⟩, h2⟩
/-- over a tuple -/
def asTup : D → Option (List D)
  | .tup ds => some ds
  | _ => none
def i_tup (fa : Env → R) : Env → RA := fun env => asIt asTup (fa env)
theorem pyi_tup (ha : PyE c X E fra a fa) : PyI c X E tg a (i_tup fa) := PI.weak (pi_tup ha) fun σ H Q ⟨W, env, sl, sm, p⟩ => by
  refine ⟨W, env, sl, sm, ?_⟩
  unfold i_tup asIt at p
  cases q : fa env with
  | bad =>
    rw [q] at p
    exact p
  | exc n =>
    rw [q] at p
    exact p
  | ok d =>
    rw [q] at p
    intro v H1 s1 r1
    cases d <;> try exact False.elim p
    rename_i ds
    obtain ⟨W', g, r⟩ := r1.rep'
    obtain ⟨x, xs, rfl, hx, rx⟩ := r
    have hq : SqT X.K W' x xs := .inl (.inl hx)
    refine ⟨x, rfl, ⟨xs, same_t g.sm hq⟩, p _ H1 W' s1 g ⟨fun i H2 s2 hi => ?_, fun i H2 y H3 s2 hi hy => ?_, fun i H2 s2 hi => ⟨xs, same_t s2 hq, by rw [rx.length]; exact hi⟩⟩⟩
    · have hi' : i < xs.length := by
        rw [rx.length]
        exact hi
      exact ⟨xs, xs[i], same_t s2 hq, List.getElem?_eq_getElem hi'⟩
    · obtain ⟨e1, e2⟩ := hy
      subst e1
      obtain ⟨d, h1, h2⟩ := rx.getV (e2 xs (same_t s2 hq))
      exact ⟨Same.refl _, d, W', h1, ⟨s2, fun a o z => .inl z⟩, h2⟩
/-- over a range -/
def rgD (a b : Int) : List D := (List.range (b - a).toNat).map fun (i : Nat) => D.int (a + (i : Int))
def rgOk (a b : Int) : Bool := decide (-100000 ≤ a) && decide (a ≤ 100000) && decide (-100000 ≤ b) && decide (b ≤ 100000)
def asRg1 : RA → RA
  | .ok [.int b] => if rgOk 0 b then .ok (rgD 0 b) else .bad
  | .exc n => .exc n
  | _ => .bad
def asRg2 : RA → RA
  | .ok [.int a, .int b] => if rgOk a b then .ok (rgD a b) else .bad
  | .exc n => .exc n
  | _ => .bad
def i_rng1 (fs : Env → RA) : Env → RA := fun env => asRg1 (fs env)
def i_rng2 (fs : Env → RA) : Env → RA := fun env => asRg2 (fs env)
theorem iter_rng {W' : Hp} (a b : Int) : IterS K c W' (Itr a (b - a).toNat) (rgD a b) := by
  have el : (rgD a b).length = (b - a).toNat := by
    unfold rgD
    rw [List.length_map, List.length_range]
  refine ⟨fun i H2 s2 hi => ?_, fun i H2 y H3 s2 hi hy => ?_, fun i H2 s2 hi => ?_⟩
  · rw [el] at hi
    exact hi
  · obtain ⟨e1, e2⟩ := hy
    subst e1 e2
    rw [el] at hi
    refine ⟨Same.refl _, .int (a + i), W', ?_, ⟨s2, fun a o z => .inl z⟩, rfl⟩
    unfold rgD
    rw [List.getElem?_map, List.getElem?_range hi]
    rfl
  · rw [el] at hi
    exact hi
theorem pyi_rng1 {p : Pos} (hg : Gl X "range") (hm : X.mg "range" = none) (ha : PyA c X E frs [a] fs) (hs : starEach [a] X.env = [(false, eval a X.env)] := by rfl) : PyI c X E tg (.Call (.Name "range" p) [a] [] pos) (i_rng1 fs) := PI.weak (pi_range1 hg hm ha hs) fun σ H Q ⟨W, env, sl, sm, p⟩ => by
  refine ⟨W, env, sl, sm, ?_⟩
  unfold i_rng1 at p
  cases q : fs env with
  | bad =>
    rw [q] at p
    exact p
  | exc n =>
    rw [q] at p
    exact p
  | ok ds =>
    rw [q] at p
    intro vs H1 s1 r1
    unfold asRg1 at p
    split at p
    · rename_i b e
      cases e
      obtain ⟨v, rfl, rv⟩ := one_of r1
      have ev : v = .int b := rv.at
      subst ev
      by_cases h : rgOk 0 b = true
      · rw [if_pos h] at p
        simp only [rgOk, Bool.and_eq_true, decide_eq_true_eq] at h
        have it := iter_rng (K := X.K) (c := c) (W' := emp) 0 b
        rw [show b - 0 = b from Int.sub_zero b] at it
        exact ⟨b, rfl, by omega, by omega, p _ H1 emp s1 ⟨emp_same _, fun _ _ z => nomatch z⟩ it⟩
      · rw [if_neg h] at p
        exact False.elim p
    · rename_i e
      cases e
    · exact False.elim p
theorem pyi_rng2 {p : Pos} (hg : Gl X "range") (hm : X.mg "range" = none) (ha : PyA c X E frs [a, b] fs) (hs : starEach [a, b] X.env = [(false, eval a X.env), (false, eval b X.env)] := by rfl) (hs2 : starEach [b] X.env = [(false, eval b X.env)] := by rfl) : PyI c X E tg (.Call (.Name "range" p) [a, b] [] pos) (i_rng2 fs) := PI.weak (pi_range2 hg hm ha hs hs2) fun σ H Q ⟨W, env, sl, sm, p⟩ => by
  refine ⟨W, env, sl, sm, ?_⟩
  unfold i_rng2 at p
  cases q : fs env with
  | bad =>
    rw [q] at p
    exact p
  | exc n =>
    rw [q] at p
    exact p
  | ok ds =>
    rw [q] at p
    intro vs H1 s1 r1
    unfold asRg2 at p
    split at p
    · rename_i a b e
      cases e
      obtain ⟨v, v', rfl, e1, e2⟩ := two_of r1
      have e1' : v = .int a := e1
      have e2' : v' = .int b := e2
      subst e1' e2'
      by_cases h : rgOk a b = true
      · rw [if_pos h] at p
        simp only [rgOk, Bool.and_eq_true, decide_eq_true_eq] at h
        exact ⟨a, b, rfl, by omega, p _ H1 emp s1 ⟨emp_same _, fun _ _ z => nomatch z⟩ (iter_rng a b)⟩
      · rw [if_neg h] at p
        exact False.elim p
    · rename_i e
      cases e
    · exact False.elim p
/-- list(range(..)) -/
def tOfR (K : PySem.W.Frag) (c : Ct) (E : XK) (f : Env → RA) : L2.St → Hp → (Int → Int → Hp → Prop) → Prop := fun σ H Q => ∃ W env, Slots K c W σ env ∧ Same W H ∧ match f env with
  | .ok [.int a, .int b] => ∀ H', Same H H' → Q a b H'
  | .ok _ => False
  | .exc n => ∀ H', Same H H' → E (.ref (c.X n)) none H'
  | .bad => False
theorem PRg.weak {t t' : L2.St → Hp → (Int → Int → Hp → Prop) → Prop} (h : PRg X e t) (w : ∀ σ H Q, t' σ H Q → t σ H Q) : PRg X e t' := fun pins s σ H Q I q => h pins s σ H Q I (w _ _ _ q)
def n_rng1 (fa : Env → R) : Env → RA := a_cons (e_c (.int 0)) (a_cons fa a_nil)
def n_rng2 (fa fb : Env → R) : Env → RA := a_cons fa (a_cons fb a_nil)
theorem pyr_1 {p : Pos} (hg : Gl X "range") (hm : X.mg "range" = none) (ha : PyE c X E fra a fa) (na : starEach [a] X.env = (false, eval a X.env) :: starEach [] X.env := by rfl) : PRg X (.Call (.Name "range" p) [a] [] pos) (tOfR X.K c E (n_rng1 fa)) := PRg.weak (prg_1 hg hm ha na) fun σ H Q ⟨W, env, sl, sm, p⟩ => by
  refine ⟨W, env, sl, sm, ?_⟩
  unfold n_rng1 a_cons a_nil rCons e_c at p
  cases q : fa env with
  | bad =>
    simp only [q, rCons] at p
  | exc n =>
    simp only [q, rCons] at p
    exact p
  | ok d =>
    simp only [q, rCons] at p
    intro v H1 s1 r1
    cases d <;> try exact False.elim p
    exact ⟨_, r1.at, p H1 s1⟩
theorem pyr_2 {p : Pos} (hg : Gl X "range") (hm : X.mg "range" = none) (ha : PyE c X E fra a fa) (hb : PyE c X E frb b fb) (na : starEach [a, b] X.env = (false, eval a X.env) :: starEach [b] X.env := by rfl) (nb : starEach [b] X.env = (false, eval b X.env) :: starEach [] X.env := by rfl) (hp : (backTo pos (starEach [b] X.env)).any (·.1) = false := by rfl) :
    PRg X (.Call (.Name "range" p) [a, b] [] pos) (tOfR X.K c E (n_rng2 fa fb)) := PRg.weak (prg_2 hg hm ha hb na nb hp) fun σ H Q ⟨W, env, sl, sm, p⟩ => by
  refine ⟨W, env, sl, sm, ?_⟩
  unfold n_rng2 a_cons a_nil rCons at p
  cases q : fa env with
  | bad =>
    simp only [q] at p
  | exc n =>
    simp only [q] at p
    exact p
  | ok d =>
    simp only [q] at p
    intro v H1 s1 r1
    refine ⟨W, env, sl, sm.trans s1, ?_⟩
    cases q2 : fb env with
    | bad =>
      simp only [q2, rCons] at p
    | exc n =>
      simp only [q2, rCons] at p
      exact fun H' s => p H' (s1.trans s)
    | ok d2 =>
      simp only [q2, rCons] at p
      intro v2 H2 s2 r2
      cases d <;> try exact False.elim p
      cases d2 <;> try exact False.elim p
      exact ⟨_, _, r1.at, r2.at, p H2 (s1.trans s2)⟩
def asRgL : RA → R
  | .ok [.int a, .int b] => if rgOk a b then .ok (.lst (rgD a b)) else .bad
  | .exc n => .exc n
  | _ => .bad
def e_listRg (f : Env → RA) : Env → R := fun env => asRgL (f env)
theorem rgV_rep {W : Hp} (a b : Int) : Reps K c W (rgD a b) (rgV a b) := by
  have h := Reps.ints (K := K) (c := c) (W := W) ((List.range (b - a).toNat).map fun (i : Nat) => a + (i : Int))
  rw [List.map_map, List.map_map] at h
  exact h
theorem rgD_ints (a b : Int) : rgD a b = ((List.range (b - a).toNat).map fun (i : Nat) => a + (i : Int)).map D.int := by
  rw [List.map_map]
  rfl
theorem py_listRg {f : Env → RA} {p : Pos} (hc : X.calm = true) (hg : Gl X "list") (hm : X.mg "list" = none) (he : PRg X e (tOfR X.K c E f)) (na : starEach [e] X.env = (false, eval e X.env) :: starEach [] X.env := by rfl) : PyE c X E true (.Call (.Name "list" p) [e] [] pos) (e_listRg f) := PE.weak (pe_listRg hc hg hm he na) fun σ H Q ⟨W, env, sl, sm, p⟩ => by
  refine ⟨W, env, sl, sm, ?_⟩
  unfold e_listRg asRgL at p
  split at p
  · rename_i a b q
    rw [q]
    intro H1 s1
    by_cases h : rgOk a b = true
    · rw [if_pos h] at p
      simp only [rgOk, Bool.and_eq_true, decide_eq_true_eq] at h
      refine ⟨⟨by omega, by omega, by omega, by omega, by omega⟩, fun y hy => p _ _ (s1.trans (same_new hy)) (Res.newL (fr := true) sm s1 (ResA.sc ?_ (rgV_rep a b)) hy (same_new hy) upd_same)⟩
      rw [rgD_ints]
      exact scAll_ints _
    · rw [if_neg h] at p
      exact False.elim p
  · rename_i n q
    rw [q]
    exact p
  · exact False.elim p
/-- reversed(range(..)) -/
def asRgV : RA → RA
  | .ok [.int a, .int b] => if rgOk a b then .ok (rgD a b).reverse else .bad
  | .exc n => .exc n
  | _ => .bad
def i_revr (f : Env → RA) : Env → RA := fun env => asRgV (f env)
theorem iter_rev {W' : Hp} (a b : Int) : IterS K c W' (Itc (a + (((b - a).toNat : Nat) : Int) - 1) (-1) (b - a).toNat) (rgD a b).reverse := by
  have el : (rgD a b).length = (b - a).toNat := by
    unfold rgD
    rw [List.length_map, List.length_range]
  refine ⟨fun i H2 s2 hi => ?_, fun i H2 y H3 s2 hi hy => ?_, fun i H2 s2 hi => ?_⟩
  · rw [List.length_reverse, el] at hi
    exact hi
  · obtain ⟨e1, e2⟩ := hy
    subst e1 e2
    rw [List.length_reverse, el] at hi
    refine ⟨Same.refl _, .int (a + (((b - a).toNat : Nat) : Int) - 1 + (i : Int) * (-1)), W', ?_, ⟨s2, fun a o z => .inl z⟩, rfl⟩
    rw [List.getElem?_reverse (by rw [el]; exact hi), el]
    unfold rgD
    rw [List.getElem?_map, List.getElem?_range (by omega)]
    show some (D.int (a + (((b - a).toNat - 1 - i : Nat) : Int))) = _
    congr 2
    omega
  · rw [List.length_reverse, el] at hi
    exact hi
theorem pyi_revr {f : Env → RA} {p : Pos} (hg : Gl X "reversed") (hm : X.mg "reversed" = none) (he : PRg X e (tOfR X.K c E f)) (hs : starEach [e] X.env = (false, eval e X.env) :: starEach [] X.env := by rfl) : PyI c X E tg (.Call (.Name "reversed" p) [e] [] pos) (i_revr f) := PI.weak (pi_revR hg hm he hs) fun σ H Q ⟨W, env, sl, sm, p⟩ => by
  refine ⟨W, env, sl, sm, ?_⟩
  unfold i_revr asRgV at p
  split at p
  · rename_i a b q
    rw [q]
    intro H1 s1
    by_cases h : rgOk a b = true
    · rw [if_pos h] at p
      simp only [rgOk, Bool.and_eq_true, decide_eq_true_eq] at h
      exact ⟨by omega, by omega, by omega, by omega, p _ H1 emp s1 ⟨emp_same _, fun _ _ z => nomatch z⟩ (iter_rev a b)⟩
    · rw [if_neg h] at p
      exact False.elim p
  · rename_i n q
    rw [q]
    exact p
  · exact False.elim p
/-- enumerate(xs) -/
def enumD : Nat → List D → List D
  | _, [] => []
  | n, d :: ds => .tup [.int (n : Int), d] :: enumD (n + 1) ds
theorem enumD_len : ∀ (n : Nat) (ds : List D), (enumD n ds).length = ds.length
  | _, [] => rfl
  | n, d :: ds => by
    show (enumD (n + 1) ds).length + 1 = ds.length + 1
    rw [enumD_len]
theorem enumD_get : ∀ (n i : Nat) (ds : List D) (d : D), ds[i]? = some d → (enumD n ds)[i]? = some (.tup [.int ((n + i : Nat) : Int), d])
  | n, i, [], d, h => by simp at h
  | n, 0, x :: ds, d, h => by
    have e : x = d := Option.some.inj h
    subst e
    rfl
  | n, i + 1, x :: ds, d, h => by
    have q := enumD_get (n + 1) i ds d h
    rw [show n + 1 + i = n + (i + 1) by omega] at q
    exact q
def asEn : RA → RA
  | .ok [d] => (match asL d with
    | some ds => .ok (enumD 0 ds)
    | none => .bad)
  | .exc n => .exc n
  | _ => .bad
def i_enum (f : Env → RA) : Env → RA := fun env => asEn (f env)
theorem pair_rep {W' H : Hp} {T : Addr} {x y : V} {d d' : D} (s : Same W' H) (hT : H T = none) (h1 : Rep K c W' d x) (h2 : Rep K c W' d' y) : Grown W' H (upd H T (.tup [x, y])) (upd W' T (.tup [x, y])) ∧ Rep K c (upd W' T (.tup [x, y])) (.tup [d, d']) (.ref T) := by
  have n' : W' T = none := s.free hT
  have m := same_new (o := HO.tup [x, y]) n'
  refine ⟨⟨upd_same_in (fun a o z => same_new hT a o (s a o z)) upd_same, fun a o z => ?_⟩, T, [x, y], rfl, upd_same, x, [y], rfl, h1.mono m, y, [], rfl, h2.mono m, rfl⟩
  by_cases ha : a = T
  · rw [ha]
    exact .inr hT
  · rw [upd_ne ha] at z
    exact .inl z
theorem pyi_enum {p tpos : Pos} {elts : List Expr} {kk : Nat} (hg : Gl X "enumerate") (hm : X.mg "enumerate" = none) (ha : PyA c X E frs [a] fs) (hs : starEach [a] X.env = [(false, eval a X.env)] := by rfl) : PyI c X E (.Tuple elts kk tpos) (.Call (.Name "enumerate" p) [a] [] pos) (i_enum fs) := PI.weak (pi_enum hg hm ha hs) fun σ H Q ⟨W, env, sl, sm, p⟩ => by
  refine ⟨W, env, sl, sm, ?_⟩
  unfold i_enum at p
  cases q : fs env with
  | bad =>
    rw [q] at p
    exact p
  | exc n =>
    rw [q] at p
    exact p
  | ok ds =>
    rw [q] at p
    intro vs H1 s1 r1
    unfold asEn at p
    split at p
    · rename_i d e
      cases e
      obtain ⟨v, rfl, rv⟩ := one_of r1
      cases q1 : asL d with
      | none =>
        simp only [q1] at p
        exact False.elim p
      | some ds =>
        simp only [q1] at p
        obtain ⟨W', g, r⟩ := rv.rep'
        obtain ⟨x, xs, rfl, hx, rx⟩ := asL_rep q1 r
        refine ⟨x, xs, rfl, g.sm.seq hx, p _ H1 W' s1 g ⟨fun i H2 s2 hi => ?_, fun i H2 y H3 s2 hi hy => ?_, fun i H2 s2 hi => ⟨xs, s2.seq hx, ?_⟩⟩⟩
        · rw [enumD_len] at hi
          have hi' : i < xs.length := by
            rw [rx.length]
            exact hi
          exact ⟨xs, xs[i], s2.seq hx, List.getElem?_eq_getElem hi'⟩
        · obtain ⟨T, z, e1, hT, e2, e3⟩ := hy
          subst e1 e2
          obtain ⟨d, h1, h2⟩ := rx.getV (e3 xs (s2.seq hx))
          obtain ⟨gg, rr⟩ := pair_rep (d := .int (i : Int)) s2 hT rfl h2
          have eg := enumD_get 0 i ds d h1
          rw [Nat.zero_add] at eg
          exact ⟨same_new hT, _, _, eg, gg, rr⟩
        · rw [rx.length]
          rw [enumD_len] at hi
          exact hi
    · rename_i e
      cases e
    · exact False.elim p
/-- zip(xs, ys) -/
def zipD : List D → List D → List D
  | d :: ds, e :: es => .tup [d, e] :: zipD ds es
  | _, _ => []
theorem zipD_len : ∀ (ds es : List D), (zipD ds es).length = min ds.length es.length
  | [], es => by
    rw [zipD]
    · simp
    · intro d ds e es h
      cases h
  | d :: ds, [] => by
    rw [zipD]
    · simp
    · intro d ds e es h h'
      cases h'
  | d :: ds, e :: es => by
    show (zipD ds es).length + 1 = min (ds.length + 1) (es.length + 1)
    rw [zipD_len]
    omega
theorem zipD_get : ∀ (i : Nat) (ds es : List D) (d e : D), ds[i]? = some d → es[i]? = some e → (zipD ds es)[i]? = some (.tup [d, e])
  | i, [], es, d, e, h, _ => by simp at h
  | i, _ :: _, [], d, e, _, h => by simp at h
  | 0, x :: ds, y :: es, d, e, h, h' => by
    have e1 : x = d := Option.some.inj h
    have e2 : y = e := Option.some.inj h'
    subst e1 e2
    rfl
  | i + 1, x :: ds, y :: es, d, e, h, h' => zipD_get i ds es d e h h'
def asZip : RA → RA
  | .ok [d, e] => (match asL d, asL e with
    | some ds, some es => .ok (zipD ds es)
    | _, _ => .bad)
  | .exc n => .exc n
  | _ => .bad
def i_zip (f : Env → RA) : Env → RA := fun env => asZip (f env)
theorem pyi_zip {p tpos : Pos} {elts : List Expr} {kk : Nat} (hg : Gl X "zip") (hm : X.mg "zip" = none) (ha : PyA c X E frs [a, b] fs) (hs : starEach [a, b] X.env = (false, eval a X.env) :: starEach [b] X.env := by rfl) (hpl : (backTo pos (starEach [b] X.env)).any (·.1) = false := by rfl) :
    PyI c X E (.Tuple elts kk tpos) (.Call (.Name "zip" p) [a, b] [] pos) (i_zip fs) := PI.weak (pi_zip hg hm ha hs hpl) fun σ H Q ⟨W, env, sl, sm, p⟩ => by
  refine ⟨W, env, sl, sm, ?_⟩
  unfold i_zip at p
  cases q : fs env with
  | bad =>
    rw [q] at p
    exact p
  | exc n =>
    rw [q] at p
    exact p
  | ok ds =>
    rw [q] at p
    intro vs H1 s1 r1
    unfold asZip at p
    split at p
    · rename_i d e eq
      cases eq
      cases q1 : asL d with
      | none =>
        simp only [q1] at p
        exact False.elim p
      | some ds =>
        cases q2 : asL e with
        | none =>
          simp only [q1, q2] at p
          exact False.elim p
        | some es =>
          simp only [q1, q2] at p
          obtain ⟨W', g, v, ys, e1, r1, v', zs, e2, r2, e3⟩ := r1
          have e3' : zs = [] := e3
          subst e3' e2 e1
          obtain ⟨x, xs, rfl, hx, rx⟩ := asL_rep q1 r1
          obtain ⟨y, ys, rfl, hy, ry⟩ := asL_rep q2 r2
          refine ⟨x, y, xs, ys, rfl, g.sm.seq hx, g.sm.seq hy, p _ H1 W' s1 g.base ⟨fun i H2 s2 hi => ?_, fun i H2 u H3 s2 hi hu => ?_, fun i H2 s2 hi => ⟨xs, ys, s2.seq hx, s2.seq hy, ?_⟩⟩⟩
          · rw [zipD_len] at hi
            have h1 : i < xs.length := by
              rw [rx.length]
              omega
            have h2 : i < ys.length := by
              rw [ry.length]
              omega
            exact ⟨xs, ys, xs[i], ys[i], s2.seq hx, s2.seq hy, List.getElem?_eq_getElem h1, List.getElem?_eq_getElem h2⟩
          · obtain ⟨T, z, w, e1, hT, e2, e3, e4⟩ := hu
            subst e1 e2
            obtain ⟨d1, h1, h2⟩ := rx.getV (e3 xs (s2.seq hx))
            obtain ⟨d2, h3, h4⟩ := ry.getV (e4 ys (s2.seq hy))
            obtain ⟨gg, rr⟩ := pair_rep s2 hT h2 h4
            exact ⟨same_new hT, _, _, zipD_get i ds es d1 d2 h1 h3, gg, rr⟩
          · rw [rx.length, ry.length]
            rw [zipD_len] at hi
            omega
    · rename_i e
      cases e
    · exact False.elim p
end
end PyS
set_option maxRecDepth 100000
set_option maxHeartbeats 4000000
/-! Sem5: targets, comprehensions, calls of own defs. -/
namespace PyS
open PySem PySem.Spec PyProof.Rows L2

/-! ### targets -/
def wipeE (env : Env) : List Nat → Env
  | [] => env
  | v :: vs => (wipeE env vs).set v none
section
variable {K : PySem.W.Frag} {c : Ct} {W : Hp}
theorem Slots.set {σ : L2.St} {env : Env} {i : Nat} {d : D} {v : V} (h : Slots K c W σ env) (r : Rep K c W d v) : Slots K c W (σ.set i (some v)) (env.set i (some d)) := by
  refine ⟨by rw [List.length_set, List.length_set]; exact h.1, fun j d' e => ?_⟩
  by_cases hj : i = j
  · subst hj
    by_cases hi : i < env.length
    · rw [List.getElem?_set_self hi] at e
      have e' : d = d' := Option.some.inj (Option.some.inj e)
      subst e'
      exact ⟨v, by rw [List.getElem?_set_self (by rw [h.1]; exact hi)], r⟩
    · rw [List.getElem?_eq_none (by rw [List.length_set]; omega)] at e
      cases e
  · rw [List.getElem?_set_ne hj] at e
    obtain ⟨u, h1, h2⟩ := h.2 j d' e
    exact ⟨u, by rw [List.getElem?_set_ne hj]; exact h1, h2⟩
theorem Slots.none {σ : L2.St} {env : Env} {i : Nat} (h : Slots K c W σ env) : Slots K c W (σ.set i none) (env.set i none) := by
  refine ⟨by rw [List.length_set, List.length_set]; exact h.1, fun j d' e => ?_⟩
  by_cases hj : i = j
  · subst hj
    by_cases hi : i < env.length
    · rw [List.getElem?_set_self hi] at e
      cases e
    · rw [List.getElem?_eq_none (by rw [List.length_set]; omega)] at e
      cases e
  · rw [List.getElem?_set_ne hj] at e
    obtain ⟨u, h1, h2⟩ := h.2 j d' e
    exact ⟨u, by rw [List.getElem?_set_ne hj]; exact h1, h2⟩
theorem Slots.wipe {σ : L2.St} {env : Env} (h : Slots K c W σ env) : ∀ vs : List Nat, Slots K c W (L2.wipe σ vs) (wipeE env vs)
  | [] => h
  | v :: vs => (h.wipe vs).none
end
theorem set_wipe (σ : L2.St) (i : Nat) (x : Option V) : ∀ {ts : List Nat}, i ∈ ts → L2.wipe (σ.set i x) ts = L2.wipe σ ts
  | [], h => nomatch h
  | t :: ts, h => by
    by_cases hit : i ∈ ts
    · show (L2.wipe (σ.set i x) ts).set t none = (L2.wipe σ ts).set t none
      rw [set_wipe σ i x hit]
    · have e : i = t := (List.mem_cons.mp h).resolve_right hit
      subst e
      show (L2.wipe (σ.set i x) ts).set i none = (L2.wipe σ ts).set i none
      have far : ∀ (us : List Nat), i ∉ us → L2.wipe (σ.set i x) us = (L2.wipe σ us).set i x := by
        intro us
        induction us with
        | nil => exact fun _ => rfl
        | cons u us ih =>
          intro hu
          have hu' : i ≠ u ∧ i ∉ us := ⟨fun z => hu (by rw [z]; exact List.mem_cons_self), fun z => hu (List.mem_cons_of_mem _ z)⟩
          show (L2.wipe (σ.set i x) us).set u none = ((L2.wipe σ us).set u none).set i x
          rw [ih hu'.2, List.set_comm _ _ hu'.1]
      rw [far ts hit, List.set_set]
theorem wipe_wipe (σ : L2.St) : ∀ (us : List Nat) {vs : List Nat}, (∀ u ∈ us, u ∈ vs) → L2.wipe (L2.wipe σ us) vs = L2.wipe σ vs
  | [], vs, _ => rfl
  | u :: us, vs, h => by
    show L2.wipe ((L2.wipe σ us).set u none) vs = _
    rw [set_wipe _ u none (h u List.mem_cons_self), wipe_wipe σ us fun w hw => h w (List.mem_cons_of_mem _ hw)]

section
variable {c : Ct} {X : Cx} {E : XK} {e a b tg : Expr} {es : List Expr} {f fa fb : Env → R} {fs : Env → RA} {fr fra frb frs : Bool} {pos : Pos} {K : PySem.W.Frag}
/-- a target's word: the value goes to its slots ts -/
def tOfG (K : PySem.W.Frag) (c : Ct) (ts : List Nat) (fg : D → Env → Option Env) : TG := fun v σ H Q => ∃ W env d env', Slots K c W σ env ∧ Same W H ∧ Rep K c W d v ∧ fg d env = some env' ∧ ∀ σ', Slots K c W σ' env' → L2.wipe σ' ts = L2.wipe σ ts → Q σ' H
abbrev PyG (c : Ct) (X : Cx) (ts : List Nat) (tg : Expr) (fg : D → Env → Option Env) : Prop := PG X tg (tOfG X.K c ts fg)
theorem PG.weak {t t' : TG} (h : PG X tg t) (w : ∀ v σ H Q, t' v σ H Q → t v σ H Q) : PG X tg t' := ⟨fun pins s σ H v u Q I r q => h.run pins s σ H v u Q I r (w _ _ _ _ q)⟩
def g_name (i : Nat) : D → Env → Option Env := fun d env => some (env.set i (some d))
theorem pyg_name (i : Nat) {x : Str} (hN : X.N.Nodup) (hi : X.N[i]? = some x := by rfl) (hx : Loc X.env.scope x := by first | exact Or.inl rfl | exact Or.inr rfl) (hf : X.fn x = true ∨ X.env.scope.names.lookup x = some .local := by first | exact .inl rfl | exact .inr rfl) : PyG c X [i] (.Name x pos) (g_name i) :=
  PG.weak (pg_name hN hi hx hf) fun v σ H Q ⟨W, env, d, env', sl, sm, r, e, k⟩ => by
    have e' : env.set i (some d) = env' := Option.some.inj e
    subst e'
    exact k _ (sl.set r) (set_wipe σ i (some v) List.mem_cons_self)
/-- a, b, .. -/
def setAll : List Nat → List D → Env → Option Env
  | [], [], env => some env
  | i :: is, d :: ds, env => setAll is ds (env.set i (some d))
  | _, _, _ => none
def g_tup (is : List Nat) : D → Env → Option Env := fun d env => match d with
  | .tup ds => setAll is ds env
  | _ => none
def PyGs (X : Cx) (is : List Nat) (ts : List Expr) : Prop := PGs X ts (is.foldr (fun i t => gCons (gName i) t) gNil)
theorem pygs_nil : PyGs X [] [] := pgs_nil
theorem pygs_cons (i : Nat) {is : List Nat} {x : Str} {ts : List Expr} (hr : PyGs X is ts) (hN : X.N.Nodup) (hi : X.N[i]? = some x := by rfl) (hx : Loc X.env.scope x := by first | exact Or.inl rfl | exact Or.inr rfl) (hf : X.fn x = true ∨ X.env.scope.names.lookup x = some .local := by first | exact .inl rfl | exact .inr rfl)
    (hs : (assignEach (.Name x pos :: ts) X.env).map (·.2) = assign (.Name x pos) X.env :: (assignEach ts X.env).map (·.2) := by rfl) : PyGs X (i :: is) (.Name x pos :: ts) := pgs_cons (pg_name hN hi hx hf) hr hs
theorem gs_read {W : Hp} : ∀ (is : List Nat) (ds : List D) (vs : List V) (σ : L2.St) (env env' : Env) (H : Hp) (Q : L2.St → Hp → Prop), Slots K c W σ env → Reps K c W ds vs → setAll is ds env = some env' → (∀ σ', Slots K c W σ' env' → (∀ ts, (∀ i ∈ is, i ∈ ts) → L2.wipe σ' ts = L2.wipe σ ts) → Q σ' H) →
    is.foldr (fun i t => gCons (gName i) t) gNil vs σ H Q
  | [], [], vs, σ, env, env', H, Q, sl, r, e, k => by
    have e' : env = env' := Option.some.inj e
    subst e'
    exact ⟨r, k σ sl fun _ _ => rfl⟩
  | i :: is, d :: ds, vs, σ, env, env', H, Q, sl, r, e, k => by
    obtain ⟨y, ys, rfl, r1, r2⟩ := r
    refine ⟨y, ys, rfl, gs_read is ds ys (σ.set i (some y)) (env.set i (some d)) env' H Q (sl.set r1) r2 e fun σ' sl' w => k σ' sl' fun ts ht => ?_⟩
    rw [w ts fun j hj => ht j (List.mem_cons_of_mem _ hj), set_wipe σ i (some y) (ht i List.mem_cons_self)]
  | [], _ :: _, vs, σ, env, env', H, Q, sl, r, e, k => by cases e
  | _ :: _, [], vs, σ, env, env', H, Q, sl, r, e, k => by cases e
theorem setAll_len : ∀ {is : List Nat} {ds : List D} {env env' : Env}, setAll is ds env = some env' → is.length = ds.length
  | [], [], _, _, _ => rfl
  | i :: is, d :: ds, env, env', e => by
    rw [List.length_cons, List.length_cons, setAll_len (is := is) (ds := ds) (env := env.set i (some d)) e]
  | [], _ :: _, _, _, e => by cases e
  | _ :: _, [], _, _, e => by cases e
theorem pyg_tup {is : List Nat} {k : Nat} (hc : X.calm = true) (h : PyGs X is es) (hn : (assignEach es X.env).length = is.length := by rfl) (hst : (assignEach es X.env).findIdx? (·.1) = none := by rfl) : PyG c X is (.Tuple es k pos) (g_tup is) :=
  PG.weak (pg_tup hc h hn hst) fun v σ H Q ⟨W, env, d, env', sl, sm, r, e, k⟩ => by
    cases d <;> try (simp [g_tup] at e; done)
    rename_i ds
    obtain ⟨x, xs, rfl, h1, h2⟩ := r
    have hl := setAll_len e
    refine ⟨x, xs, rfl, .inl (.inl (sm _ _ h1)), by rw [h2.length]; exact hl.symm, ?_⟩
    exact gs_read is ds xs σ env env' H Q sl h2 e fun σ' sl' w => k σ' sl' (w is fun _ h => h)

/-! ### comprehensions -/
def lcGo (fg : D → Env → Option Env) (ft fe : Env → R) (env : Env) : List D → Option (List D)
  | [] => some []
  | d :: ds => match fg d env with
    | none => none
    | some env' => match ft env' with
      | .ok (.bl true) => (match fe env' with
        | .ok x => (lcGo fg ft fe env ds).map (x :: ·)
        | _ => none)
      | .ok (.bl false) => lcGo fg ft fe env ds
      | _ => none
theorem lcGo_snoc {fg : D → Env → Option Env} {ft fe : Env → R} {env : Env} {d : D} : ∀ (ds : List D), lcGo fg ft fe env (ds ++ [d]) = (lcGo fg ft fe env ds).bind fun xs => (lcGo fg ft fe env [d]).map (xs ++ ·)
  | [] => by
    show lcGo fg ft fe env [d] = (lcGo fg ft fe env [d]).map ([] ++ ·)
    cases lcGo fg ft fe env [d] <;> rfl
  | y :: ds => by
    have ih := lcGo_snoc (fg := fg) (ft := ft) (fe := fe) (env := env) (d := d) ds
    rw [List.cons_append]
    rw [lcGo, lcGo]
    cases fg y env with
    | none => rfl
    | some env' =>
      simp only
      cases ft env' with
      | exc n => rfl
      | bad => rfl
      | ok t =>
        cases t <;> try rfl
        rename_i k
        cases k with
        | false =>
          simp only
          exact ih
        | true =>
          simp only
          cases fe env' with
          | exc n => rfl
          | bad => rfl
          | ok x =>
            simp only
            rw [ih]
            cases lcGo fg ft fe env ds with
            | none => rfl
            | some xs =>
              cases lcGo fg ft fe env [d] <;> rfl
theorem lcGo_take {fg : D → Env → Option Env} {ft fe : Env → R} {env : Env} {ds xs : List D} (h : lcGo fg ft fe env ds = some xs) : ∀ n, ∃ ys, lcGo fg ft fe env (ds.take n) = some ys ∧ ys.length ≤ n := by
  intro n
  induction n generalizing ds xs with
  | zero => exact ⟨[], by rw [List.take_zero]; rfl, Nat.le_refl _⟩
  | succ n ih =>
    cases ds with
    | nil => exact ⟨[], by rw [List.take_nil]; rfl, Nat.zero_le _⟩
    | cons d ds =>
      rw [List.take_succ_cons]
      rw [lcGo] at h
      rw [lcGo]
      cases q : fg d env with
      | none =>
        rw [q] at h
        cases h
      | some env' =>
        rw [q] at h
        simp only at h ⊢
        cases q2 : ft env' with
        | exc n => rw [q2] at h; cases h
        | bad => rw [q2] at h; cases h
        | ok t =>
          rw [q2] at h
          cases t <;> try (simp at h; done)
          rename_i k
          cases k with
          | false =>
            simp only at h ⊢
            obtain ⟨ys, h1, h2⟩ := ih h
            exact ⟨ys, h1, by omega⟩
          | true =>
            simp only at h ⊢
            cases q3 : fe env' with
            | exc n => rw [q3] at h; cases h
            | bad => rw [q3] at h; cases h
            | ok x =>
              rw [q3] at h
              simp only at h ⊢
              obtain ⟨zs, h1, _⟩ := Option.map_eq_some_iff.mp h
              obtain ⟨ys, h3, h4⟩ := ih h1
              exact ⟨x :: ys, by rw [h3]; rfl, by rw [List.length_cons]; omega⟩
def rLc (i : RA) (k : List D → Option (List D)) : R := match i with
  | .ok ds => if ds.length ≤ 100000 then (match k ds with
    | some xs => .ok (.lst xs)
    | none => .bad) else .bad
  | .exc n => .exc n
  | .bad => .bad
def e_lc (fi : Env → RA) (fg : D → Env → Option Env) (ft fe : Env → R) (vs : List Nat) : Env → R := fun env => rLc (fi env) (lcGo fg ft fe (wipeE env vs))
theorem pts_yes : PTs X [] (tOfT X.K c E (e_c (.bl true))) := ⟨fun pins s σ H Q I ⟨W, env, sl, sm, p⟩ => pts_nil.run pins s σ H Q I (p H (Same.refl H))⟩
theorem pts_if (h : PyT c X E a f) : PTs X [a] (tOfT X.K c E f) := pts_one h
theorem lc_read {fi : Env → RA} {fg : D → Env → Option Env} {ft fe : Env → R} {vs : List Nat} {σ : L2.St} {H : Hp} {Q : VK} (h : tOf K c E fr (e_lc fi fg ft fe vs) σ H Q) : tLc (tOfI K c E fi) (tOfG K c vs fg) (tOfT K c E0 ft) (tOf K c E0 fr fe) vs σ H Q := by
  obtain ⟨W, env, sl, sm, p⟩ := h
  refine ⟨W, env, sl, sm, ?_⟩
  unfold e_lc rLc at p
  cases q : fi env with
  | bad =>
    rw [q] at p
    exact p
  | exc n =>
    rw [q] at p
    exact p
  | ok ds =>
    rw [q] at p
    intro J H1 W1 s1 g1 it Dl hD
    simp only at p
    by_cases hl : ds.length ≤ 100000
    · rw [if_pos hl] at p
      cases q2 : lcGo fg ft fe (wipeE env vs) ds with
      | none =>
        rw [q2] at p
        exact False.elim p
      | some xs =>
        rw [q2] at p
        have hD0 : H Dl = none := s1.free hD
        have hW1D : W1 Dl = none := g1.sm.free hD
        have hWD : W Dl = none := sm.free hD0
        -- the word of the turns
        refine ⟨fun i m Hc => m = ds.length - i ∧ i ≤ ds.length ∧ Same H1 Hc ∧ ∃ acc ys Wa, Hc Dl = some (.lst acc) ∧ acc.length ≤ i ∧ lcGo fg ft fe (wipeE env vs) (ds.take i) = some ys ∧ Reps K c Wa ys acc ∧ Grown (bse fr W) H Hc Wa ∧ Wa Dl = none,
          ⟨ds.length, by omega, Nat.zero_le _, same_new hD, [], [], emp, upd_same, Nat.le_refl _, by rw [List.take_zero]; rfl, rfl, ⟨emp_same _, fun _ _ z => nomatch z⟩, rfl⟩, ?_⟩
        rintro i m Hc ⟨rfl, hi, sc, acc, ys, Wa, hDl, hal, hgo, hr, hg, hWa⟩
        have sW1 : Same W1 Hc := fun a o z => sc a o (g1.sm a o z)
        by_cases hlt : i < ds.length
        · refine .inr ⟨it.go i Hc sW1 hlt, fun H' => Same H1 H' ∧ ∃ acc ys Wa, H' Dl = some (.lst acc) ∧ acc.length ≤ i + 1 ∧ lcGo fg ft fe (wipeE env vs) (ds.take (i + 1)) = some ys ∧ Reps K c Wa ys acc ∧ Grown (bse fr W) H H' Wa ∧ Wa Dl = none, fun H' n => ⟨ds.length - (i + 1), by omega, rfl, hlt, n⟩, fun x H2 hy => ?_⟩
          obtain ⟨s2, d, W2, hd, g2, rx⟩ := it.yld i Hc x H2 sW1 hlt hy
          have sWt1 : Same W H2 := fun a o z => s2 a o (sc a o (s1 a o (sm a o z)))
          obtain ⟨ys', hgo', _⟩ := lcGo_take q2 (i + 1)
          have hsn : lcGo fg ft fe (wipeE env vs) (ds.take (i + 1)) = (some ys).bind fun xs => (lcGo fg ft fe (wipeE env vs) [d]).map (xs ++ ·) := by
            have et : ds.take (i + 1) = ds.take i ++ [d] := by
              rw [List.take_add_one, hd]
              rfl
            rw [et, lcGo_snoc, hgo]
          rw [hgo'] at hsn
          -- one turn
          have one := hsn.symm
          rw [Option.bind_some] at one
          have hone : ∃ zs, lcGo fg ft fe (wipeE env vs) [d] = some zs ∧ ys ++ zs = ys' := by
            cases q3 : lcGo fg ft fe (wipeE env vs) [d] with
            | none =>
              rw [q3] at one
              cases one
            | some zs =>
              rw [q3] at one
              exact ⟨zs, rfl, Option.some.inj one⟩
          obtain ⟨zs, hz, ez⟩ := hone
          rw [lcGo] at hz
          cases qg : fg d (wipeE env vs) with
          | none =>
            rw [qg] at hz
            cases hz
          | some env' =>
            rw [qg] at hz
            simp only at hz
            have sWt : Same (wor W W2) H2 := wor_in sWt1 g2.sm
            refine ⟨wor W W2, wipeE env vs, d, env', (sl.wipe vs).mono (wor_l _ _), sWt, rx.mono (wor_r sWt1 g2.sm), qg, fun σ2 sl2 hw => ⟨?_, ?_⟩⟩
            · rw [hw, wipe_wipe σ vs fun _ h => h]
            · refine ⟨wor W W2, env', sl2, sWt, ?_⟩
              have hDt : wor W W2 Dl = none := by
                refine wor_no hWD ?_
                cases q5 : W2 Dl with
                | none => rfl
                | some o =>
                  rcases g2.new Dl o q5 with z | z
                  · rw [hW1D] at z
                    cases z
                  · rw [hDl] at z
                    cases z
              cases qt : ft env' with
              | exc n => rw [qt] at hz; cases hz
              | bad => rw [qt] at hz; cases hz
              | ok t =>
                rw [qt] at hz
                cases t <;> try (simp at hz; done)
                rename_i k
                intro H3 s3
                cases k with
                | false =>
                  simp only [lcGo] at hz
                  have ezs : [] = zs := Option.some.inj hz
                  subst ezs
                  rw [List.append_nil] at ez
                  subst ez
                  show Same H1 H3 ∧ _
                  have sc3 : Same Hc H3 := s2.trans s3
                  exact ⟨sc.trans sc3, acc, ys, Wa, sc3 _ _ hDl, by omega, hgo', hr, hg.later sc3, hWa⟩
                | true =>
                  simp only at hz
                  show tOf K c E0 fr fe σ2 H3 _
                  have sWt3 : Same (wor W W2) H3 := sWt.trans s3
                  refine ⟨wor W W2, env', sl2, sWt3, ?_⟩
                  cases qe : fe env' with
                  | exc n => rw [qe] at hz; cases hz
                  | bad => rw [qe] at hz; cases hz
                  | ok x0 =>
                    rw [qe] at hz
                    simp only [lcGo] at hz
                    have ezs : [x0] = zs := Option.some.inj hz
                    subst ezs
                    intro y H4 s4 r4
                    have sc4 : Same Hc H4 := (s2.trans s3).trans s4
                    have hD4 : H4 Dl = some (.lst acc) := sc4 _ _ hDl
                    obtain ⟨Wy, gy, ry⟩ := r4.rep
                    -- the new item's world
                    have gy' : Grown (bse fr W) H H4 Wy := by
                      refine ⟨gy.sm, fun a o z => ?_⟩
                      have back : H3 a = none → H a = none := fun hn => s1.free (sc.free ((s2.trans s3).free hn))
                      cases fr with
                      | true =>
                        rcases gy.new a o z with z | z
                        · cases z
                        · exact .inr (back z)
                      | false =>
                        rcases gy.new a o z with z | z
                        · rcases wor_or z with z | z
                          · exact .inl z
                          · rcases g2.new a o z with z | z
                            · exact g1.new a o z
                            · exact .inr (s1.free (sc.free z))
                        · exact .inr (back z)
                    have hWy : Wy Dl = none := by
                      cases q5 : Wy Dl with
                      | none => rfl
                      | some o =>
                        have hb : bse fr (wor W W2) Dl = none := by
                          cases fr with
                          | true => rfl
                          | false => exact hDt
                        rcases gy.new Dl o q5 with z | z
                        · rw [hb] at z
                          cases z
                        · rw [(s2.trans s3) _ _ hDl] at z
                          cases z
                    have ga : Grown (bse fr W) H H4 Wa := hg.later sc4
                    have gn := ga.or gy'
                    have sna : Same (wor Wa Wy) (upd H4 Dl (.lst (acc ++ [y]))) := same_upd gn.sm (wor_no hWa hWy)
                    refine ⟨acc, hD4, Nat.lt_of_le_of_lt hal (Nat.lt_of_lt_of_le (Nat.lt_of_lt_of_le hlt hl) (by decide)), ?_, acc ++ [y], ys ++ [x0], wor Wa Wy, upd_same, by rw [List.length_append]; exact Nat.succ_le_succ hal, by rw [hgo', ez], (hr.mono (wor_l _ _)).snoc (ry.mono (wor_r ga.sm gy'.sm)), ⟨sna, ?_⟩, wor_no hWa hWy⟩
                    · exact same_upd (sc.trans sc4) hD
                    · intro a o z
                      have z' := gn.new a o z
                      cases fr <;> exact z'
        · have ei : i = ds.length := by omega
          subst ei
          refine .inl ⟨it.stop _ Hc sW1 (Nat.le_refl _), ?_⟩
          rw [List.take_length] at hgo
          rw [q2] at hgo
          have exs : xs = ys := Option.some.inj hgo
          subst exs
          refine p _ Hc (s1.trans sc) ?_
          cases fr with
          | true => exact ⟨Wa, hg, Dl, acc, rfl, hD0, hWa, hDl, hr⟩
          | false =>
            refine ⟨upd Wa Dl (.lst acc), ⟨upd_same_in hg.sm hDl, fun a o z => ?_⟩, Dl, acc, rfl, upd_same, hr.mono (same_new hWa)⟩
            by_cases ha : a = Dl
            · rw [ha]
              exact .inr hD0
            · rw [upd_ne ha] at z
              exact hg.new a o z
    · rw [if_neg hl] at p
      exact False.elim p
/-- [elt for target in iter if ..] -/
theorem py_lc {elt tg iter : Expr} {ifs : List Expr} {scope : Scope} {own : List (Str × Nat)} {fi : Env → RA} {fg : D → Env → Option Env} {ft fe : Env → R} (hc : X.calm = true) (hN : X.N.Nodup) (ok : BlkOk X.N X.env.scope scope own) (hi : PyI c X E tg iter fi)
    (hg : ∀ (s : Shared) (H : Hp) (C : Addr) (cl : List (Str × Addr)) (fp : List Addr), PyG c (X.blk s H scope (compEnvC scope cl C X.env) fp) (own.map (·.2)) tg fg) (ht : ∀ (s : Shared) (H : Hp) (C : Addr) (cl : List (Str × Addr)) (fp : List Addr), PTs (X.blk s H scope (compEnvC scope cl C X.env) fp) ifs (tOfT X.K c E0 ft))
    (he : ∀ (s : Shared) (H : Hp) (C : Addr) (cl : List (Str × Addr)) (fp : List Addr), PyE c (X.blk s H scope (compEnvC scope cl C X.env) fp) E0 fr elt fe) (hs : ∀ x, foldedSetIterable iter X.env x = pure x := by intro _; rfl) :
    PyE c X E fr (.ListComp elt [⟨tg, iter, ifs, 0⟩] scope pos) (e_lc fi fg ft fe (own.map (·.2))) := PE.weak (pe_lc hc hN hi ok hg ht he hs) fun _ _ _ h => lc_read h

/-! ### calls of own defs -/
/-- the promise of a def whose worth is m, of n parameters -/
def spM (K : PySem.W.Frag) (c : Ct) (n : Nat) (m : List D → R) : Sp := fun vs H Q E => ∃ ds, ds.length = n ∧ Reps K c H ds vs ∧ Post K c E true emp H (m ds) Q
theorem spM_len {n : Nat} {m : List D → R} {vs : List V} {H : Hp} {Q : VK} {E : XK} (h : spM K c n m vs H Q E) : vs.length = n := by
  obtain ⟨ds, h1, h2, _⟩ := h
  rw [h2.length, h1]
/-- a def of the module that keeps such a promise -/
structure Cal (P : Program) (w : World) (K : PySem.W.Frag) (mg : Str → Option Value) (base : Heap) (c : Ct) (k : Nat) (x : Str) (ps : List Str) (n : Nat) (m : List D → R) : Prop where
  ex : ∃ (f : Addr) (fd : FuncData), FnOk P w K mg base (L2.CX P w) k f fd ps (spM K c n m) ∧ mg x = some (.ref f) ∧ PySem.W.keepIn K (.ref f) = true ∧ Binds K fd ps []
def e_own (n : Nat) (m : List D → R) (fs : Env → RA) : Env → R := e_call (fun ds => if ds.length = n then m ds else .bad) fs
theorem own_read {n : Nat} {m : List D → R} {σ : L2.St} {H : Hp} {Q : VK} (h : tOf K c E true (e_own n m fs) σ H Q) : tCall (spM K c n m) [] E (tOfA K c E frs fs) σ H Q := by
  obtain ⟨W, env, sl, sm, p⟩ := h
  refine ⟨W, env, sl, sm, ?_⟩
  unfold e_own e_call rCall at p
  cases q : fs env with
  | bad =>
    rw [q] at p
    exact p
  | exc n =>
    rw [q] at p
    exact p
  | ok ds =>
    rw [q] at p
    intro vs H1 s1 r1
    have p' : Post K c E true W H (if ds.length = n then m ds else .bad) Q := p
    by_cases hl : ds.length = n
    · rw [if_pos hl] at p'
      refine ⟨ds, hl, by rw [List.append_nil]; exact r1.at, ?_⟩
      cases q2 : m ds with
      | bad =>
        rw [q2] at p'
        exact p'
      | exc n =>
        rw [q2] at p'
        exact fun H' s => p' H' (s1.trans s)
      | ok d =>
        rw [q2] at p'
        exact fun v H' s r => p' v H' (s1.trans s) (r.trans s1)
    · rw [if_neg hl] at p'
      exact False.elim p'
theorem passE {P : Program} {w : World} {W : WX} (tk : Takes X W) (hW : ∀ cls d σ H, E cls d H → W cls d σ H) (hP : X.prog = P) (hw : X.w = w) : Passes (L2.CX P w) X E := by
  subst hP hw
  exact passes_call tk hW
theorem py_own {x : Str} {k j n : Nat} {ps : List Str} {m : List D → R} {p : Pos} (F : Cal X.prog X.w X.K X.mg X.base c k x ps n m) (hr : Room j X.A) (hk : k ≤ j) (hg : Gl X x) (hx : Passes (L2.CX X.prog X.w) X E) (ha : PyA c X E frs (e :: es) fs) (hdb : (x == ("__debug__" : Str)) = false := by decide)
    (he : starEach (e :: es) X.env = (false, eval e X.env) :: starEach es X.env := by rfl) (hpl : (backTo pos (starEach es X.env)).any (·.1) = false := by rfl) : PyE c X E true (.Call (.Name x p) (e :: es) [] pos) (e_own n m fs) := by
  obtain ⟨f, fd, F, hm, kp, b⟩ := F.ex
  exact PE.weak (pe_call F (hr.mono hk) hg hm kp b .nil hx ha hdb he hpl) fun _ _ _ h => own_read h
end
end PyS
set_option maxRecDepth 100000
set_option maxHeartbeats 4000000
/-! Sem6: statements. -/
namespace PyS
open PySem PySem.Spec PyProof.Rows L2

inductive O where
  | nx (env : Env) | rt (d : D) | exc (n : Nat) | bad

section
variable {K : PySem.W.Frag} {c : Ct}
/-- what a changing name holds: an object of its own, new since the def's entry -/
def Own (K : PySem.W.Frag) (c : Ct) (W H0 H : Hp) : D → V → Prop
  | .non, v => v = .non
  | .bl b, v => v = .bl b
  | .int i, v => v = .int i
  | .str x, v => v = .str x
  | .lst ds, v => ∃ Wo a xs, Same Wo W ∧ (∀ b o, Wo b = some o → H0 b = none) ∧ v = .ref a ∧ W a = none ∧ H0 a = none ∧ H a = some (.lst xs) ∧ Reps K c Wo ds xs
  | .dk ks, v => ∃ a, v = .ref a ∧ W a = none ∧ H0 a = none ∧ H a = some (.dK (dkV ks))
  | .dt ks, v => ∃ a, v = .ref a ∧ W a = none ∧ H0 a = none ∧ H a = some (.dT (dtV ks))
  | .tup _, _ => False
  | .ins _ _, _ => False
  | .scr _, _ => False
def ownOk : D → Bool
  | .tup _ => false
  | .ins _ _ => false
  | .scr _ => false
  | _ => true
structure SInv (K : PySem.W.Frag) (c : Ct) (M : List Nat) (H0 W : Hp) (σ : L2.St) (env : Env) (H : Hp) : Prop where
  exW : Same W H
  ex0 : Same H0 H
  len : σ.length = env.length
  sh : ∀ (i : Nat) (d : D), i ∉ M → env[i]? = some (some d) → ∃ v, σ[i]? = some (some v) ∧ Rep K c W d v
  ow : ∀ (i : Nat) (d : D), i ∈ M → env[i]? = some (some d) → ∃ v, σ[i]? = some (some v) ∧ Own K c W H0 H d v
  dj : ∀ (i j : Nat) (d e : D) (p : Addr), i ∈ M → j ∈ M → i ≠ j → env[i]? = some (some d) → env[j]? = some (some e) → σ[i]? = some (some (.ref p)) → σ[j]? = some (some (.ref p)) → False
theorem Own.rep {W H0 H : Hp} (s : Same W H) : ∀ {d : D} {v : V}, Own K c W H0 H d v → Rep K c H d v := by
  intro d v h
  cases d with
  | non => exact h
  | bl b => exact h
  | int i => exact h
  | str x => exact h
  | lst ds =>
    obtain ⟨Wo, a, xs, h1, _, e, _, _, h2, h3⟩ := h
    exact ⟨a, xs, e, h2, h3.mono (h1.trans s)⟩
  | dk ks =>
    obtain ⟨a, e, _, _, h2⟩ := h
    exact ⟨a, e, h2⟩
  | dt ks =>
    obtain ⟨a, e, _, _, h2⟩ := h
    exact ⟨a, e, h2⟩
  | tup _ => exact h.elim
  | ins _ _ => exact h.elim
  | scr _ => exact h.elim
/-- the names that don't change -/
def mask (M : List Nat) (env : Env) : Env := env.mapIdx fun i o => if i ∈ M then none else o
theorem mask_len (M : List Nat) (env : Env) : (mask M env).length = env.length := by
  unfold mask
  rw [List.length_mapIdx]
theorem mask_get {M : List Nat} {env : Env} {i : Nat} {d : D} (h : (mask M env)[i]? = some (some d)) : i ∉ M ∧ env[i]? = some (some d) := by
  unfold mask at h
  rw [List.getElem?_mapIdx] at h
  obtain ⟨o, h1, h2⟩ := Option.map_eq_some_iff.mp h
  split at h2
  · cases h2
  · rename_i hi
    rw [h2] at h1
    exact ⟨hi, h1⟩
theorem mask_in {M : List Nat} {env : Env} {i : Nat} {d : D} (hi : i ∉ M) (h : env[i]? = some (some d)) : (mask M env)[i]? = some (some d) := by
  unfold mask
  rw [List.getElem?_mapIdx, h]
  show some (if i ∈ M then none else some d) = _
  rw [if_neg hi]
theorem SInv.slots {M : List Nat} {H0 W H : Hp} {σ : L2.St} {env : Env} (I : SInv K c M H0 W σ env H) : Slots K c H σ env := ⟨I.len, fun i d e => by
  by_cases hi : i ∈ M
  · obtain ⟨v, h1, h2⟩ := I.ow i d hi e
    exact ⟨v, h1, h2.rep I.exW⟩
  · obtain ⟨v, h1, h2⟩ := I.sh i d hi e
    exact ⟨v, h1, h2.mono I.exW⟩⟩
theorem SInv.slotsW {M : List Nat} {H0 W H : Hp} {σ : L2.St} {env : Env} (I : SInv K c M H0 W σ env H) : Slots K c W σ (mask M env) := ⟨by rw [mask_len]; exact I.len, fun i d e => by
  obtain ⟨hi, e'⟩ := mask_get e
  exact I.sh i d hi e'⟩
/-- a greater heap, a greater world -/
theorem Own.more {W W' H0 H H' : Hp} (sW : Same W W') (hn : ∀ a, W a = none → H a ≠ none → W' a = none) (sH : Same H H') : ∀ {d : D} {v : V}, Own K c W H0 H d v → Own K c W' H0 H' d v := by
  intro d v h
  cases d with
  | non => exact h
  | bl b => exact h
  | int i => exact h
  | str x => exact h
  | lst ds =>
    obtain ⟨Wo, a, xs, h1, h2, e, h3, h4, h5, h6⟩ := h
    exact ⟨Wo, a, xs, h1.trans sW, h2, e, hn a h3 (by rw [h5]; simp), h4, sH _ _ h5, h6⟩
  | dk ks =>
    obtain ⟨a, e, h3, h4, h5⟩ := h
    exact ⟨a, e, hn a h3 (by rw [h5]; simp), h4, sH _ _ h5⟩
  | dt ks =>
    obtain ⟨a, e, h3, h4, h5⟩ := h
    exact ⟨a, e, hn a h3 (by rw [h5]; simp), h4, sH _ _ h5⟩
  | tup _ => exact h.elim
  | ins _ _ => exact h.elim
  | scr _ => exact h.elim
theorem SInv.more {M : List Nat} {H0 W W' H H' : Hp} {σ : L2.St} {env : Env} (I : SInv K c M H0 W σ env H) (sH : Same H H') (sW : Same W W') (sW' : Same W' H') (hn : ∀ a o, W' a = some o → W a = some o ∨ H a = none) : SInv K c M H0 W' σ env H' :=
  have hn' : ∀ a, W a = none → H a ≠ none → W' a = none := fun a h1 h2 => by
    cases q : W' a with
    | none => rfl
    | some o =>
      rcases hn a o q with z | z
      · rw [h1] at z
        cases z
      · exact absurd z h2
  ⟨sW', I.ex0.trans sH, I.len, fun i d hi e => by
    obtain ⟨v, h1, h2⟩ := I.sh i d hi e
    exact ⟨v, h1, h2.mono sW⟩, fun i d hi e => by
    obtain ⟨v, h1, h2⟩ := I.ow i d hi e
    exact ⟨v, h1, h2.more sW hn' sH⟩, I.dj⟩
/-- only the heap grows -/
theorem SInv.heap {M : List Nat} {H0 W H H' : Hp} {σ : L2.St} {env : Env} (I : SInv K c M H0 W σ env H) (sH : Same H H') : SInv K c M H0 W σ env H' := I.more sH (Same.refl W) (I.exW.trans sH) fun a o z => .inl z
theorem get_set_some {env : Env} {i j : Nat} {x d : D} (h : (env.set i (some x))[j]? = some (some d)) : (i = j ∧ x = d ∧ i < env.length) ∨ (i ≠ j ∧ env[j]? = some (some d)) := by
  by_cases hj : i = j
  · subst hj
    by_cases hi : i < env.length
    · rw [List.getElem?_set_self hi] at h
      exact .inl ⟨rfl, Option.some.inj (Option.some.inj h), hi⟩
    · rw [List.getElem?_eq_none (by rw [List.length_set]; omega)] at h
      cases h
  · rw [List.getElem?_set_ne hj] at h
    exact .inr ⟨hj, h⟩
theorem get_set_none {env : Env} {i j : Nat} {d : D} (h : (env.set i none)[j]? = some (some d)) : i ≠ j ∧ env[j]? = some (some d) := by
  by_cases hj : i = j
  · subst hj
    by_cases hi : i < env.length
    · rw [List.getElem?_set_self hi] at h
      cases h
    · rw [List.getElem?_eq_none (by rw [List.length_set]; omega)] at h
      cases h
  · rw [List.getElem?_set_ne hj] at h
    exact ⟨hj, h⟩
/-- a name that doesn't change is given a value of the world -/
theorem SInv.setSh {M : List Nat} {H0 W H : Hp} {σ : L2.St} {env : Env} {i : Nat} {d : D} {v : V} (I : SInv K c M H0 W σ env H) (hi : i ∉ M) (r : Rep K c W d v) : SInv K c M H0 W (σ.set i (some v)) (env.set i (some d)) H := by
  refine ⟨I.exW, I.ex0, by rw [List.length_set, List.length_set]; exact I.len, fun j e hj h => ?_, fun j e hj h => ?_, fun j l e e' p hj hl hne h1 h2 h3 h4 => ?_⟩
  · rcases get_set_some h with ⟨rfl, rfl, hl⟩ | ⟨hne, h⟩
    · exact ⟨v, by rw [List.getElem?_set_self (by rw [I.len]; exact hl)], r⟩
    · obtain ⟨u, h1, h2⟩ := I.sh j e hj h
      exact ⟨u, by rw [List.getElem?_set_ne hne]; exact h1, h2⟩
  · rcases get_set_some h with ⟨rfl, rfl, hl⟩ | ⟨hne, h⟩
    · exact absurd hj hi
    · obtain ⟨u, h1, h2⟩ := I.ow j e hj h
      exact ⟨u, by rw [List.getElem?_set_ne hne]; exact h1, h2⟩
  · have nj : i ≠ j := fun z => hi (z ▸ hj)
    have nl : i ≠ l := fun z => hi (z ▸ hl)
    rw [List.getElem?_set_ne nj] at h1 h3
    rw [List.getElem?_set_ne nl] at h2 h4
    exact I.dj j l e e' p hj hl hne h1 h2 h3 h4
/-- a changing name is given an object that no other one holds -/
theorem SInv.setM {M : List Nat} {H0 W H : Hp} {σ : L2.St} {env : Env} {i : Nat} {d : D} {v : V} (I : SInv K c M H0 W σ env H) (hi : i ∈ M) (r : Own K c W H0 H d v) (far : ∀ p, v = .ref p → ∀ (j : Nat) (e : D), j ∈ M → j ≠ i → env[j]? = some (some e) → σ[j]? = some (some (.ref p)) → False) :
    SInv K c M H0 W (σ.set i (some v)) (env.set i (some d)) H := by
  refine ⟨I.exW, I.ex0, by rw [List.length_set, List.length_set]; exact I.len, fun j e hj h => ?_, fun j e hj h => ?_, fun j l e e' p hj hl hne h1 h2 h3 h4 => ?_⟩
  · rcases get_set_some h with ⟨rfl, rfl, hl⟩ | ⟨hne, h⟩
    · exact absurd hi hj
    · obtain ⟨u, h1, h2⟩ := I.sh j e hj h
      exact ⟨u, by rw [List.getElem?_set_ne hne]; exact h1, h2⟩
  · rcases get_set_some h with ⟨rfl, rfl, hl⟩ | ⟨hne, h⟩
    · exact ⟨v, by rw [List.getElem?_set_self (by rw [I.len]; exact hl)], r⟩
    · obtain ⟨u, h1, h2⟩ := I.ow j e hj h
      exact ⟨u, by rw [List.getElem?_set_ne hne]; exact h1, h2⟩
  · have slot : ∀ {x : D}, (env.set i (some d))[i]? = some (some x) → (σ.set i (some v))[i]? = some (some (.ref p)) → v = .ref p := fun {x} h h' => by
      rcases get_set_some h with ⟨_, _, hl⟩ | ⟨hne, _⟩
      · rw [List.getElem?_set_self (by rw [I.len]; exact hl)] at h'
        exact Option.some.inj (Option.some.inj h')
      · exact absurd rfl hne
    by_cases nj : i = j
    · subst nj
      have ev := slot h1 h3
      rw [List.getElem?_set_ne hne] at h2 h4
      exact far p ev l e' hl (Ne.symm hne) h2 h4
    · by_cases nl : i = l
      · subst nl
        have ev := slot h2 h4
        rw [List.getElem?_set_ne nj] at h1 h3
        exact far p ev j e hj hne h1 h3
      · rw [List.getElem?_set_ne nj] at h1 h3
        rw [List.getElem?_set_ne nl] at h2 h4
        exact I.dj j l e e' p hj hl hne h1 h2 h3 h4
/-- a name is forgotten -/
theorem SInv.drop {M : List Nat} {H0 W H : Hp} {σ : L2.St} {env : Env} (I : SInv K c M H0 W σ env H) (i : Nat) : SInv K c M H0 W σ (env.set i none) H :=
  ⟨I.exW, I.ex0, by rw [List.length_set]; exact I.len, fun j e hj h => I.sh j e hj (get_set_none h).2, fun j e hj h => I.ow j e hj (get_set_none h).2, fun j l e e' p hj hl hne h1 h2 h3 h4 => I.dj j l e e' p hj hl hne (get_set_none h1).2 (get_set_none h2).2 h3 h4⟩
/-- a new object for a changing name -/
theorem Own.of_root {W W' H0 H H' : Hp} {d : D} {v : V} (ok : ownOk d = true) (s0 : Same H0 H) (sW : Same W H) (g : Grown emp H H' W') (r : Root K c W' H H' d v) : Own K c (wor W W') H0 H' d v := by
  have sH : ∀ b o, W' b = some o → H0 b = none := fun b o z => (g.new b o z).elim (fun q => nomatch q) fun q => s0.free q
  cases d with
  | non => exact r
  | bl b => exact r
  | int i => exact r
  | str x => exact r
  | lst ds =>
    obtain ⟨a, xs, e, h1, h2, h3, h4⟩ := r
    have sw : Same W' (wor W W') := fun b o z => by
      have hb : W b = none := sW.free ((g.new b o z).elim (fun q => nomatch q) id)
      show wor W W' b = some o
      unfold wor
      rw [hb]
      exact z
    exact ⟨W', a, xs, sw, sH, e, wor_no (sW.free h1) h2, s0.free h1, h3, h4⟩
  | dk ks =>
    obtain ⟨a, e, h1, h2, h3⟩ := r
    exact ⟨a, e, wor_no (sW.free h1) h2, s0.free h1, h3⟩
  | dt ks =>
    obtain ⟨a, e, h1, h2, h3⟩ := r
    exact ⟨a, e, wor_no (sW.free h1) h2, s0.free h1, h3⟩
  | tup _ => cases ok
  | ins _ _ => cases ok
  | scr _ => cases ok
theorem Root.ref_new {W' H H' : Hp} {d : D} {p : Addr} (r : Root K c W' H H' d (.ref p)) : H p = none := by
  cases d with
  | non => cases r
  | bl b => cases r
  | int i => cases r
  | str x => cases r
  | lst ds =>
    obtain ⟨a, xs, e, h1, _⟩ := r
    cases e
    exact h1
  | tup ds =>
    obtain ⟨a, xs, e, h1, _⟩ := r
    cases e
    exact h1
  | ins n ds =>
    obtain ⟨a, dx, xs, e, h1, _⟩ := r
    cases e
    exact h1
  | dk ks =>
    obtain ⟨a, e, h1, _⟩ := r
    cases e
    exact h1
  | dt ks =>
    obtain ⟨a, e, h1, _⟩ := r
    cases e
    exact h1
  | scr ns => exact r.elim
theorem Own.ref_there {W H0 H : Hp} {d : D} {p : Addr} (r : Own K c W H0 H d (.ref p)) : (∃ o, H p = some o) ∧ W p = none := by
  cases d with
  | non => cases r
  | bl b => cases r
  | int i => cases r
  | str x => cases r
  | lst ds =>
    obtain ⟨Wo, a, xs, _, _, e, h3, _, h5, _⟩ := r
    cases e
    exact ⟨⟨_, h5⟩, h3⟩
  | dk ks =>
    obtain ⟨a, e, h3, _, h5⟩ := r
    cases e
    exact ⟨⟨_, h5⟩, h3⟩
  | dt ks =>
    obtain ⟨a, e, h3, _, h5⟩ := r
    cases e
    exact ⟨⟨_, h5⟩, h3⟩
  | tup _ => exact r.elim
  | ins _ _ => exact r.elim
  | scr _ => exact r.elim
/-- an object of one's own is laid down: its world grows -/
theorem Own.lay {W H0 H : Hp} (sW : Same W H) : ∀ {d : D} {v : V}, Own K c W H0 H d v → ∃ Wn, Same Wn H ∧ (∀ b o, Wn b = some o → H0 b = none) ∧ (∀ b o, Wn b = some o → W b = some o ∨ v = .ref b) ∧ Rep K c Wn d v := by
  intro d v h
  have triv : Rep K c emp d v → ∃ Wn, Same Wn H ∧ (∀ b o, Wn b = some o → H0 b = none) ∧ (∀ b o, Wn b = some o → W b = some o ∨ v = .ref b) ∧ Rep K c Wn d v := fun r => ⟨emp, emp_same _, fun _ _ z => (nomatch z), fun _ _ z => (nomatch z), r⟩
  cases d with
  | non => exact triv h
  | bl b => exact triv h
  | int i => exact triv h
  | str x => exact triv h
  | lst ds =>
    obtain ⟨Wo, a, xs, h1, h2, e, h3, h4, h5, h6⟩ := h
    have n' : Wo a = none := by
      cases q : Wo a with
      | none => rfl
      | some o =>
        rw [h1 a o q] at h3
        cases h3
    refine ⟨upd Wo a (.lst xs), upd_same_in (h1.trans sW) h5, fun b o z => ?_, fun b o z => ?_, a, xs, e, upd_same, h6.mono (same_new n')⟩
    · by_cases hb : b = a
      · rw [hb]
        exact h4
      · rw [upd_ne hb] at z
        exact h2 b o z
    · by_cases hb : b = a
      · rw [hb]
        exact .inr e
      · rw [upd_ne hb] at z
        exact .inl (h1 b o z)
  | dk ks =>
    obtain ⟨a, e, h3, h4, h5⟩ := h
    refine ⟨upd emp a _, upd_same_in (emp_same _) h5, fun b o z => ?_, fun b o z => ?_, a, e, upd_same⟩
    · by_cases hb : b = a
      · rw [hb]
        exact h4
      · rw [upd_ne hb] at z
        cases z
    · by_cases hb : b = a
      · rw [hb]
        exact .inr e
      · rw [upd_ne hb] at z
        cases z
  | dt ks =>
    obtain ⟨a, e, h3, h4, h5⟩ := h
    refine ⟨upd emp a _, upd_same_in (emp_same _) h5, fun b o z => ?_, fun b o z => ?_, a, e, upd_same⟩
    · by_cases hb : b = a
      · rw [hb]
        exact h4
      · rw [upd_ne hb] at z
        cases z
    · by_cases hb : b = a
      · rw [hb]
        exact .inr e
      · rw [upd_ne hb] at z
        cases z
  | tup _ => exact h.elim
  | ins _ _ => exact h.elim
  | scr _ => exact h.elim
end

/-! ### the reading -/
def PostS (K : PySem.W.Frag) (c : Ct) (E : XK) (M : List Nat) (H0 W : Hp) (o : O) (Dn : Ends) : Prop := match o with
  | .nx env' => ∀ W' σ' H', SInv K c M H0 W' σ' env' H' → Same W W' → Dn.nx σ' H'
  | .rt d => ∀ v H', Same H0 H' → Res K c true emp H0 H' d v → Dn.rt v H'
  | .exc n => ∀ H', Same H0 H' → E (.ref (c.X n)) none H'
  | .bad => False
def tOfS (K : PySem.W.Frag) (c : Ct) (E : XK) (M : List Nat) (s : Env → O) : TS := fun Dn σ H => ∃ H0 W env, SInv K c M H0 W σ env H ∧ PostS K c E M H0 W (s env) Dn
abbrev PyS (c : Ct) (X : Cx) (E : XK) (M : List Nat) (st : Stmt) (s : Env → O) : Prop := PS X st (tOfS X.K c E M s)
abbrev PySs (c : Ct) (X : Cx) (E : XK) (M : List Nat) (st : List Stmt) (s : Env → O) : Prop := PSs X st (tOfS X.K c E M s)

section
variable {c : Ct} {X : Cx} {E : XK} {M : List Nat} {e a b : Expr} {f fa fb : Env → R} {s t u : Env → O} {fs : Env → RA} {fr fra frb frs : Bool} {pos : Pos} {K : PySem.W.Frag} {st : Stmt} {rest : List Stmt}
def oSeq (o : O) (k : Env → O) : O := match o with
  | .nx env => k env
  | .rt d => .rt d
  | .exc n => .exc n
  | .bad => .bad
def s_seq (s t : Env → O) : Env → O := fun env => oSeq (s env) t
def s_pass : Env → O := fun env => .nx env
theorem pss_pnil : PySs c X E M [] s_pass := PSs.weak pss_nil fun D σ H ⟨H0, W, env, I, p⟩ => p W σ H I (Same.refl W)
theorem ps_ppass : PyS c X E M (.Pass pos) s_pass := PS.weak ps_pass fun D σ H ⟨H0, W, env, I, p⟩ => p W σ H I (Same.refl W)
theorem pss_pcons (h1 : PyS c X E M st s) (h2 : PySs c X E M rest t) : PySs c X E M (st :: rest) (s_seq s t) := PSs.weak (pss_cons h1 h2) fun D σ H ⟨H0, W, env, I, p⟩ => by
  refine ⟨H0, W, env, I, ?_⟩
  unfold s_seq oSeq at p
  cases q : s env with
  | bad =>
    rw [q] at p
    exact p
  | exc n =>
    rw [q] at p
    exact p
  | rt d =>
    rw [q] at p
    exact p
  | nx env' =>
    rw [q] at p
    intro W' σ' H' I' sW
    refine ⟨H0, W', env', I', ?_⟩
    have p' : PostS X.K c E M H0 W (t env') D := p
    cases q2 : t env' with
    | bad =>
      rw [q2] at p'
      exact p'
    | exc n =>
      rw [q2] at p'
      exact p'
    | rt d =>
      rw [q2] at p'
      exact p'
    | nx env2 =>
      rw [q2] at p'
      exact fun W2 σ2 H2 I2 s2 => p' W2 σ2 H2 I2 (sW.trans s2)
theorem pss_pone (h1 : PyS c X E M st s) : PySs c X E M [st] s := PSs.weak (pss_one h1) fun _ _ _ h => h
/-- behind an exception's way -/
theorem exc_back {H0 H : Hp} {n : Nat} (s0 : Same H0 H) (h : ∀ H', Same H0 H' → E (.ref (c.X n)) none H') : ∀ H', Same H H' → E (.ref (c.X n)) none H' := fun H' s => h H' (s0.trans s)
def oR (r : R) (k : D → O) : O := match r with
  | .ok d => k d
  | .exc n => .exc n
  | .bad => .bad
/-- an expression within a statement, whatever comes of it new -/
theorem sfr_read {te : TE} {D0 : Ends} {σ : L2.St} {H H0 W : Hp} {env : Env} {k : D → O} (I : SInv K c M H0 W σ env H) (p : PostS K c E M H0 W (oR (f env) k) D0) (Q : VK)
    (hQ : ∀ d v H', Same H H' → Res K c true emp H H' d v → PostS K c E M H0 W (k d) D0 → Q v H') : tOf K c E true f σ H Q := by
  refine ⟨H, env, I.slots, Same.refl H, ?_⟩
  unfold oR at p
  cases q : f env with
  | bad =>
    rw [q] at p
    exact p
  | exc n =>
    rw [q] at p
    exact exc_back I.ex0 p
  | ok d =>
    rw [q] at p
    exact fun v H' s r => hQ d v H' s r p
/-- .. of any kind, the changing names not within -/
theorem sany_read {D0 : Ends} {σ : L2.St} {H H0 W : Hp} {env : Env} {k : D → O} (I : SInv K c M H0 W σ env H) (p : PostS K c E M H0 W (oR (f (mask M env)) k) D0) (Q : VK)
    (hQ : ∀ d v H', Same H H' → Res K c false W H H' d v → PostS K c E M H0 W (k d) D0 → Q v H') : tOf K c E fr f σ H Q := by
  refine ⟨W, mask M env, I.slotsW, I.exW, ?_⟩
  unfold oR at p
  cases q : f (mask M env) with
  | bad =>
    rw [q] at p
    exact p
  | exc n =>
    rw [q] at p
    exact exc_back I.ex0 p
  | ok d =>
    rw [q] at p
    exact fun v H' s r => hQ d v H' s r.any p
theorem stest_read {D0 : Ends} {σ : L2.St} {H H0 W : Hp} {env : Env} {k : D → O} (I : SInv K c M H0 W σ env H) (p : PostS K c E M H0 W (oR (f env) k) D0) (Q : Bool → Hp → Prop)
    (hQ : ∀ b H', Same H H' → PostS K c E M H0 W (k (.bl b)) D0 → Q b H') (hk : ∀ d, (∀ b, d ≠ .bl b) → k d = .bad) : tOfT K c E f σ H Q := by
  refine ⟨H, env, I.slots, Same.refl H, ?_⟩
  unfold oR at p
  cases q : f env with
  | bad =>
    rw [q] at p
    exact p
  | exc n =>
    rw [q] at p
    exact exc_back I.ex0 p
  | ok d =>
    rw [q] at p
    cases d with
    | bl b => exact fun H' s => hQ b H' s p
    | _ =>
      have p' : PostS K c E M H0 W (k _) D0 := p
      rw [hk _ (by intro b z; cases z)] at p'
      exact p'.elim
/-! ### x = e -/
def s_set (i : Nat) (f : Env → R) : Env → O := fun env => oR (f env) fun d => .nx (env.set i (some d))
def s_setM (i : Nat) (f : Env → R) : Env → O := fun env => oR (f env) fun d => if ownOk d then .nx (env.set i (some d)) else .bad
def s_setA (M : List Nat) (i : Nat) (f : Env → R) : Env → O := fun env => oR (f (mask M env)) fun d => .nx (env.set i (some d))
/-- a new value goes to a name that doesn't change -/
theorem SInv.takeSh {H0 W H H' : Hp} {σ : L2.St} {env : Env} {i : Nat} {d : D} {v : V} (I : SInv K c M H0 W σ env H) (hi : i ∉ M) (s : Same H H') (r : Res K c false W H H' d v) : ∃ W', SInv K c M H0 W' (σ.set i (some v)) (env.set i (some d)) H' ∧ Same W W' := by
  obtain ⟨W', g, r⟩ := r
  have sw : Same W (wor W W') := wor_l _ _
  refine ⟨wor W W', SInv.setSh (I.more s sw (wor_in (I.exW.trans s) g.sm) fun a o z => ?_) hi (r.mono (wor_r (I.exW.trans s) g.sm)), sw⟩
  rcases wor_or z with z | z
  · exact .inl z
  · exact g.new a o z
theorem SInv.takeM {H0 W H H' : Hp} {σ : L2.St} {env : Env} {i : Nat} {d : D} {v : V} (I : SInv K c M H0 W σ env H) (hi : i ∈ M) (ok : ownOk d = true) (s : Same H H') (r : Res K c true emp H H' d v) : ∃ W', SInv K c M H0 W' (σ.set i (some v)) (env.set i (some d)) H' ∧ Same W W' := by
  obtain ⟨W', g, r⟩ := r
  have sw : Same W (wor W W') := wor_l _ _
  have I' : SInv K c M H0 (wor W W') σ env H' := I.more s sw (wor_in (I.exW.trans s) g.sm) fun a o z => by
    rcases wor_or z with z | z
    · exact .inl z
    · exact .inr ((g.new a o z).elim (fun q => nomatch q) id)
  refine ⟨wor W W', I'.setM hi (Own.of_root ok I.ex0 I.exW g r) fun p ev j e hj hne h1 h2 => ?_, sw⟩
  subst ev
  obtain ⟨u, h3, h4⟩ := I.ow j e hj h1
  rw [h2] at h3
  have eu : V.ref p = u := Option.some.inj (Option.some.inj h3)
  subst eu
  obtain ⟨⟨o, ho⟩, _⟩ := h4.ref_there
  rw [r.ref_new] at ho
  cases ho
theorem py_set (i : Nat) {x : Str} {pos' : Pos} (he : PyE c X E true e f) (hN : X.N.Nodup) (hM : i ∉ M := by decide) (hi : X.N[i]? = some x := by rfl) (hx : Loc X.env.scope x := by first | exact Or.inl rfl | exact Or.inr rfl) (hs : swapsWith e (some (.Name x pos')) pos.line X.env = pure false := by rfl)
    (hf : X.fn x = true ∨ X.env.scope.names.lookup x = some .local := by first | exact .inl rfl | exact .inr rfl) : PyS c X E M (.Assign [.Name x pos'] e pos) (s_set i f) := PS.weak (ps_set hN hi hx he hs hf) fun D0 σ H ⟨H0, W, env, I, p⟩ =>
  sfr_read (te := fun _ _ _ => True) I p _ fun d v H' s r p => by
    have r' : Res X.K c false W H H' d v := by
      obtain ⟨W', g, r⟩ := r.rep
      exact ⟨W', ⟨g.sm, fun a o z => (g.new a o z).elim (fun q => nomatch q) .inr⟩, r⟩
    obtain ⟨W', I', sw⟩ := I.takeSh hM s r'
    exact p W' _ H' I' sw
theorem py_setA (i : Nat) {x : Str} {pos' : Pos} (he : PyE c X E fr e f) (hN : X.N.Nodup) (hM : i ∉ M := by decide) (hi : X.N[i]? = some x := by rfl) (hx : Loc X.env.scope x := by first | exact Or.inl rfl | exact Or.inr rfl) (hs : swapsWith e (some (.Name x pos')) pos.line X.env = pure false := by rfl)
    (hf : X.fn x = true ∨ X.env.scope.names.lookup x = some .local := by first | exact .inl rfl | exact .inr rfl) : PyS c X E M (.Assign [.Name x pos'] e pos) (s_setA M i f) := PS.weak (ps_set hN hi hx he hs hf) fun D0 σ H ⟨H0, W, env, I, p⟩ =>
  sany_read I p _ fun d v H' s r p => by
    obtain ⟨W', I', sw⟩ := I.takeSh hM s r
    exact p W' _ H' I' sw
theorem py_setM (i : Nat) {x : Str} {pos' : Pos} (he : PyE c X E true e f) (hN : X.N.Nodup) (hM : i ∈ M := by decide) (hi : X.N[i]? = some x := by rfl) (hx : Loc X.env.scope x := by first | exact Or.inl rfl | exact Or.inr rfl) (hs : swapsWith e (some (.Name x pos')) pos.line X.env = pure false := by rfl)
    (hf : X.fn x = true ∨ X.env.scope.names.lookup x = some .local := by first | exact .inl rfl | exact .inr rfl) : PyS c X E M (.Assign [.Name x pos'] e pos) (s_setM i f) := PS.weak (ps_set hN hi hx he hs hf) fun D0 σ H ⟨H0, W, env, I, p⟩ =>
  sfr_read (te := fun _ _ _ => True) I p _ fun d v H' s r p => by
    by_cases ok : ownOk d = true
    · rw [if_pos ok] at p
      obtain ⟨W', I', sw⟩ := I.takeM hM ok s r
      exact p W' _ H' I' sw
    · rw [if_neg ok] at p
      exact p.elim
/-- x = y, y a changing name that is given up -/
def s_mv (i j : Nat) : Env → O := fun env => match env[j]? with
  | some (some d) => .nx ((env.set j none).set i (some d))
  | _ => .bad
theorem SInv.moveSh {H0 W H : Hp} {σ : L2.St} {env : Env} {i j : Nat} {d : D} (I : SInv K c M H0 W σ env H) (hi : i ∉ M) (hj : j ∈ M) (h : env[j]? = some (some d)) : ∃ v W', σ[j]? = some (some v) ∧ SInv K c M H0 W' (σ.set i (some v)) ((env.set j none).set i (some d)) H ∧ Same W W' := by
  obtain ⟨v, h1, h2⟩ := I.ow j d hj h
  obtain ⟨Wn, s1, s2, s3, r⟩ := h2.lay I.exW
  have sw : Same W (wor W Wn) := wor_l _ _
  have sin : Same (wor W Wn) H := wor_in I.exW s1
  refine ⟨v, wor W Wn, h1, SInv.setSh ⟨sin, I.ex0, by rw [List.length_set]; exact I.len, fun l e hl z => ?_, fun l e hl z => ?_, fun l m e e' p hl hm hne z1 z2 z3 z4 => I.dj l m e e' p hl hm hne (get_set_none z1).2 (get_set_none z2).2 z3 z4⟩ hi (r.mono (wor_r I.exW s1)), sw⟩
  · obtain ⟨u, q1, q2⟩ := I.sh l e hl (get_set_none z).2
    exact ⟨u, q1, q2.mono sw⟩
  · obtain ⟨nlj, z'⟩ := get_set_none z
    obtain ⟨u, q1, q2⟩ := I.ow l e hl z'
    refine ⟨u, q1, ?_⟩
    -- the other object stands apart from what was laid down
    have far : ∀ p, u = .ref p → W p = none → wor W Wn p = none := fun p ep hp => by
      refine wor_no hp ?_
      cases q : Wn p with
      | none => rfl
      | some o =>
        rcases s3 p o q with y | y
        · rw [hp] at y
          cases y
        · rw [ep] at q1
          rw [y] at h1
          exact (I.dj l j e d p hl hj (Ne.symm nlj) z' h q1 h1).elim
    cases e with
    | non => exact q2
    | bl b => exact q2
    | int i => exact q2
    | str x => exact q2
    | lst ds =>
      obtain ⟨Wo, x, xs, y1, y2, ey, y3, y4, y5, y6⟩ := q2
      exact ⟨Wo, x, xs, y1.trans sw, y2, ey, far x ey y3, y4, y5, y6⟩
    | dk ks =>
      obtain ⟨x, ey, y3, y4, y5⟩ := q2
      exact ⟨x, ey, far x ey y3, y4, y5⟩
    | dt ks =>
      obtain ⟨x, ey, y3, y4, y5⟩ := q2
      exact ⟨x, ey, far x ey y3, y4, y5⟩
    | tup _ => exact q2.elim
    | ins _ _ => exact q2.elim
    | scr _ => exact q2.elim
theorem py_mv (i j : Nat) {x y : Str} {py pos' : Pos} (hN : X.N.Nodup) (hM : i ∉ M := by decide) (hMj : j ∈ M := by decide) (hi : X.N[i]? = some x := by rfl) (hj : X.N[j]? = some y := by rfl) (hx : Loc X.env.scope x := by first | exact Or.inl rfl | exact Or.inr rfl) (hv : Vis X.env.scope y := by first | exact Or.inl rfl | exact Or.inr (Or.inl rfl) | exact Or.inr (Or.inr rfl)) (hd : (y == ("__debug__" : Str)) = false := by decide)
    (hcd : (y == ("__classdict__" : Str)) = false := by decide) (hs : swapsWith (.Name y py) (some (.Name x pos')) pos.line X.env = pure false := by rfl)
    (hf : X.fn x = true ∨ X.env.scope.names.lookup x = some .local := by first | exact .inl rfl | exact .inr rfl) : PyS c X E M (.Assign [.Name x pos'] (.Name y py) pos) (s_mv i j) := PS.weak (ps_set hN hi hx (pe_var hj hv hd hcd) hs hf) fun D0 σ H ⟨H0, W, env, I, p⟩ => by
  unfold s_mv at p
  split at p
  · rename_i d hd
    obtain ⟨v, W', h1, I', sw⟩ := I.moveSh hM hMj hd
    exact ⟨v, h1, p W' _ H I' sw⟩
  · exact p.elim
/-! ### e; return e; if; raise -/
def s_expr (f : Env → R) : Env → O := fun env => oR (f env) fun _ => .nx env
theorem py_expr (he : PyE c X E true e f) (hs : swapsWith e none pos.line X.env = pure false := by rfl) : PyS c X E M (.Expr e pos) (s_expr f) := PS.weak (ps_expr he hs) fun D0 σ H ⟨H0, W, env, I, p⟩ =>
  sfr_read (te := fun _ _ _ => True) I p _ fun d v H' s r p => p W σ H' (I.heap s) (Same.refl W)
def s_ret (f : Env → R) : Env → O := fun env => oR (f env) fun d => .rt d
theorem py_ret (he : PyE c X E true e f) : PyS c X E M (.Return (some e) pos) (s_ret f) := PS.weak (ps_ret he) fun D0 σ H ⟨H0, W, env, I, p⟩ =>
  sfr_read (te := fun _ _ _ => True) I p _ fun d v H' s r p => p v H' (I.ex0.trans s) (r.trans I.ex0)
def s_retM (j : Nat) : Env → O := fun env => match env[j]? with
  | some (some d) => .rt d
  | _ => .bad
theorem Own.res {W H0 H : Hp} (sW : Same W H) : ∀ {d : D} {v : V}, Own K c W H0 H d v → Res K c true emp H0 H d v := by
  intro d v h
  cases d with
  | non => exact Res.scal (by rw [show v = .non from h]; rfl)
  | bl b => exact Res.scal (by rw [show v = .bl b from h]; rfl)
  | int b => exact Res.scal (by rw [show v = .int b from h]; rfl)
  | str b => exact Res.scal (by rw [show v = .str b from h]; rfl)
  | lst ds =>
    obtain ⟨Wo, a, xs, h1, h2, e, h3, h4, h5, h6⟩ := h
    refine ⟨Wo, ⟨h1.trans sW, fun b o z => .inr (h2 b o z)⟩, a, xs, e, h4, ?_, h5, h6⟩
    cases q : Wo a with
    | none => rfl
    | some o =>
      rw [h1 a o q] at h3
      cases h3
  | dk ks =>
    obtain ⟨a, e, h3, h4, h5⟩ := h
    exact ⟨emp, ⟨emp_same _, fun _ _ z => nomatch z⟩, a, e, h4, rfl, h5⟩
  | dt ks =>
    obtain ⟨a, e, h3, h4, h5⟩ := h
    exact ⟨emp, ⟨emp_same _, fun _ _ z => nomatch z⟩, a, e, h4, rfl, h5⟩
  | tup _ => exact h.elim
  | ins _ _ => exact h.elim
  | scr _ => exact h.elim
theorem py_retM (j : Nat) {y : Str} {py : Pos} (hMj : j ∈ M := by decide) (hj : X.N[j]? = some y := by rfl) (hv : Vis X.env.scope y := by first | exact Or.inl rfl | exact Or.inr (Or.inl rfl) | exact Or.inr (Or.inr rfl)) (hd : (y == ("__debug__" : Str)) = false := by decide)
    (hcd : (y == ("__classdict__" : Str)) = false := by decide) : PyS c X E M (.Return (some (.Name y py)) pos) (s_retM j) := PS.weak (ps_ret (pe_var hj hv hd hcd)) fun D0 σ H ⟨H0, W, env, I, p⟩ => by
  unfold s_retM at p
  split at p
  · rename_i d hd
    obtain ⟨v, h1, h2⟩ := I.ow j d hMj hd
    exact ⟨v, h1, p v H I.ex0 (h2.res I.exW)⟩
  · exact p.elim
def oIf (r : R) (t u : Unit → O) : O := oR r fun d => match d with
  | .bl true => t ()
  | .bl false => u ()
  | _ => .bad
def s_if (f : Env → R) (t u : Env → O) : Env → O := fun env => oIf (f env) (fun _ => t env) fun _ => u env
theorem py_ifS {ba bb : List Stmt} (hc : PyT c X E e f) (ha : PySs c X E M ba t) (hb : PySs c X E M bb u) : PyS c X E M (.If e ba bb pos) (s_if f t u) := PS.weak (ps_if hc ha hb) fun D0 σ H ⟨H0, W, env, I, p⟩ =>
  stest_read I p _ (fun b H' s p => by
    cases b with
    | true => exact ⟨H0, W, env, I.heap s, p⟩
    | false => exact ⟨H0, W, env, I.heap s, p⟩) fun d hd => by
      cases d with
      | bl b => exact absurd rfl (hd b)
      | _ => rfl
def s_raise (n : Nat) : Env → O := fun _ => .exc n
theorem py_raise {n : Nat} {x m : Str} {j : Nat} {p p2 pos2 : Pos} {bmB : List Value} {B newId initId : String} (hc : X.calm = true) (tk : Takes X (fun cls d _ H => E cls d H)) (F : ExcBaseFacts B newId initId bmB) (q : PySem.W.excIn X.K (c.X n) bmB newId = true) (gC : X.mg x = some (.ref (c.X n))) (kC : PySem.W.keepIn X.K (.ref (c.X n)) = true) (r : Raises X (.ref (c.X n))) (hg : Gl X x)
    (hdb : (x == ("__debug__" : Str)) = false := by decide) : PyS c X E M (.Raise (some (.Call (.Name x p) [.Constant (.str m) j p2] [] pos)) none pos2) (s_raise n) := PS.weak (ps_raise hc tk (pmk_own F q gC kC r hg hdb)) fun D0 σ H ⟨H0, W, env, I, p⟩ => p H I.ex0
end
end PyS
set_option maxRecDepth 100000
set_option maxHeartbeats 4000000
/-! Sem7: changing lists, loops, several targets. -/
namespace PyS
open PySem PySem.Spec PyProof.Rows L2

section
variable {c : Ct} {X : Cx} {E : XK} {M : List Nat} {e a b : Expr} {f fa fb : Env → R} {s t u : Env → O} {fs : Env → RA} {fr fra frb frs : Bool} {pos : Pos} {K : PySem.W.Frag} {st : Stmt} {rest : List Stmt}
theorem Own.far {W H0 H : Hp} {d : D} {v : V} {p : Addr} {o : HO} (h : Own K c W H0 H d v) (hp : v ≠ .ref p) : Own K c W H0 (upd H p o) d v := by
  cases d with
  | non => exact h
  | bl b => exact h
  | int i => exact h
  | str x => exact h
  | lst ds =>
    obtain ⟨Wo, a, xs, h1, h2, e, h3, h4, h5, h6⟩ := h
    exact ⟨Wo, a, xs, h1, h2, e, h3, h4, by rw [upd_ne (fun z => hp (by rw [e, z]))]; exact h5, h6⟩
  | dk ks =>
    obtain ⟨a, e, h3, h4, h5⟩ := h
    exact ⟨a, e, h3, h4, by rw [upd_ne (fun z => hp (by rw [e, z]))]; exact h5⟩
  | dt ks =>
    obtain ⟨a, e, h3, h4, h5⟩ := h
    exact ⟨a, e, h3, h4, by rw [upd_ne (fun z => hp (by rw [e, z]))]; exact h5⟩
  | tup _ => exact h.elim
  | ins _ _ => exact h.elim
  | scr _ => exact h.elim
/-- a changing name's object is written -/
theorem SInv.write {H0 W H : Hp} {σ : L2.St} {env : Env} {i : Nat} {d d' : D} {p : Addr} {o : HO} (I : SInv K c M H0 W σ env H) (hi : i ∈ M) (he : env[i]? = some (some d)) (hv : σ[i]? = some (some (.ref p))) (h0 : H0 p = none) (hW : W p = none) (hn : Own K c W H0 (upd H p o) d' (.ref p)) :
    SInv K c M H0 W σ (env.set i (some d')) (upd H p o) := by
  refine ⟨same_upd I.exW hW, same_upd I.ex0 h0, by rw [List.length_set]; exact I.len, fun j e hj h => ?_, fun j e hj h => ?_, fun j l e e' q hj hl hne h1 h2 h3 h4 => ?_⟩
  · rcases get_set_some h with ⟨rfl, rfl, hl⟩ | ⟨hne, h⟩
    · exact absurd hi hj
    · exact I.sh j e hj h
  · rcases get_set_some h with ⟨rfl, rfl, hl⟩ | ⟨hne, h⟩
    · exact ⟨_, hv, hn⟩
    · obtain ⟨u, q1, q2⟩ := I.ow j e hj h
      refine ⟨u, q1, q2.far fun z => ?_⟩
      rw [z] at q1
      exact I.dj i j d e p hi hj hne he h hv q1
  · have back : ∀ {l : Nat} {x : D}, (env.set i (some d'))[l]? = some (some x) → ∃ y, env[l]? = some (some y) := fun {l x} h => by
      rcases get_set_some h with ⟨rfl, _, _⟩ | ⟨_, h⟩
      · exact ⟨d, he⟩
      · exact ⟨x, h⟩
    obtain ⟨y1, z1⟩ := back h1
    obtain ⟨y2, z2⟩ := back h2
    exact I.dj j l y1 y2 q hj hl hne z1 z2 h3 h4
/-- a changing list, its parts; what comes beside it of an expression -/
theorem SInv.lst {H0 W H : Hp} {σ : L2.St} {env : Env} {i : Nat} {ds : List D} (I : SInv K c M H0 W σ env H) (hi : i ∈ M) (he : env[i]? = some (some (.lst ds))) : ∃ Wo p xs, σ[i]? = some (some (.ref p)) ∧ Same Wo W ∧ (∀ b o, Wo b = some o → H0 b = none) ∧ W p = none ∧ H0 p = none ∧ H p = some (.lst xs) ∧ Reps K c Wo ds xs := by
  obtain ⟨v, h1, Wo, p, xs, h2, h3, rfl, h4, h5, h6, h7⟩ := I.ow i _ hi he
  exact ⟨Wo, p, xs, h1, h2, h3, h4, h5, h6, h7⟩
/-- new things beside a changing list -/
theorem SInv.beside {H0 W H H' : Hp} {σ : L2.St} {env : Env} {vs : List V} {es : List D} (I : SInv K c M H0 W σ env H) (s : Same H H') (r : ResA K c true emp H H' es vs) : ∃ W' Wn, SInv K c M H0 W' σ env H' ∧ Same W W' ∧ Same Wn W' ∧ (∀ b o, Wn b = some o → H0 b = none) ∧ Reps K c Wn es vs := by
  obtain ⟨Wn, g, r⟩ := r
  have sw : Same W (wor W Wn) := wor_l _ _
  refine ⟨wor W Wn, Wn, I.more s sw (wor_in (I.exW.trans s) g.sm) fun a o z => ?_, sw, wor_r (I.exW.trans s) g.sm, fun b o z => (g.new b o z).elim (fun q => nomatch q) fun q => I.ex0.free q, r⟩
  rcases wor_or z with z | z
  · exact .inl z
  · exact .inr ((g.new a o z).elim (fun q => nomatch q) id)
theorem wor_new {H0 W1 W2 : Hp} (h1 : ∀ b o, W1 b = some o → H0 b = none) (h2 : ∀ b o, W2 b = some o → H0 b = none) : ∀ b o, wor W1 W2 b = some o → H0 b = none := fun b o z => (wor_or z).elim (h1 b o) (h2 b o)
def withL (env : Env) (i : Nat) (k : List D → O) : O := match env[i]? with
  | some (some (.lst ds)) => k ds
  | _ => .bad
theorem withL_ok {env : Env} {i : Nat} {k : List D → O} {H0 W : Hp} {Dn : Ends} (p : PostS K c E M H0 W (withL env i k) Dn) : ∃ ds, env[i]? = some (some (.lst ds)) ∧ PostS K c E M H0 W (k ds) Dn := by
  unfold withL at p
  split at p
  · rename_i ds h
    exact ⟨ds, h, p⟩
  · exact p.elim
/-! ### x.append(e), x.append(y) (y given up), x.extend(e), x[i] = e -/
def s_app (i : Nat) (f : Env → R) : Env → O := fun env => withL env i fun ds => oR (f env) fun d => if ds.length < 100000 then .nx (env.set i (some (.lst (ds ++ [d])))) else .bad
theorem szl {n : Nat} (h : n < 100000) : n < sizeLine := Nat.lt_of_lt_of_le h (by decide)
theorem py_app (i : Nat) (hM : i ∈ M) (he : PE X e (tBM X.K "list" rAppend (tVar i) (tCons (tOf X.K c E true f) tNil))) (hs : swapsWith e none pos.line X.env = pure false := by rfl) : PyS c X E M (.Expr e pos) (s_app i f) := PS.weak (ps_expr he hs) fun D0 σ H ⟨H0, W, env, I, p⟩ => by
  obtain ⟨ds, hds, p⟩ := withL_ok p
  obtain ⟨Wo, l, xs, h1, h2, h3, h4, h5, h6, h7⟩ := I.lst hM hds
  refine ⟨.ref l, h1, .inl ⟨rfl, xs, .inl (.inl h6)⟩, ?_⟩
  refine sfr_read (te := fun _ _ _ => True) I p _ fun d v H' s r p => ?_
  by_cases hl : ds.length < 100000
  · rw [if_pos hl] at p
    have e1 := h7.length
    refine ⟨l, xs, v, rfl, rfl, s _ _ h6, szl (by omega), ?_⟩
    obtain ⟨W', Wn, I', sW, sn, hn, rn⟩ := I.beside s r.one
    have so : Same Wo W' := h2.trans sW
    obtain ⟨y, ys, ey, r1, r2⟩ := rn
    have eys : ys = [] := r2
    subst eys
    have ev : v = y := (List.cons.inj ey).1
    subst ev
    have hW' : W' l = none := by
      obtain ⟨u, q1, q2⟩ := I'.ow i _ hM hds
      rw [h1] at q1
      have eu : V.ref l = u := Option.some.inj (Option.some.inj q1)
      subst eu
      exact q2.ref_there.2
    refine p W' σ _ (I'.write hM hds h1 h5 hW' ?_) sW
    exact ⟨wor Wo Wn, l, xs ++ [v], wor_in so sn, wor_new h3 hn, rfl, hW', h5, upd_same, (h7.mono (wor_l _ _)).snoc (r1.mono (wor_r so sn))⟩
  · rw [if_neg hl] at p
    exact p.elim
def s_appM (i j : Nat) : Env → O := fun env => withL env i fun ds => match env[j]? with
  | some (some d) => if ds.length < 100000 then .nx ((env.set j none).set i (some (.lst (ds ++ [d])))) else .bad
  | _ => .bad
theorem Own.layW {W H0 H : Hp} (sW : Same W H) {d : D} {v : V} (h : Own K c W H0 H d v) : ∃ Wn, Same Wn H ∧ (∀ b o, Wn b = some o → H0 b = none) ∧ (∀ b o, Wn b = some o → W b = some o ∨ v = .ref b) ∧ Rep K c Wn d v := h.lay sW
theorem py_appM (i j : Nat) (hij : i ≠ j) (hM : i ∈ M) (hMj : j ∈ M) (he : PE X e (tBM X.K "list" rAppend (tVar i) (tCons (tVar j) tNil))) (hs : swapsWith e none pos.line X.env = pure false := by rfl) : PyS c X E M (.Expr e pos) (s_appM i j) := PS.weak (ps_expr he hs) fun D0 σ H ⟨H0, W, env, I, p⟩ => by
  obtain ⟨ds, hds, p⟩ := withL_ok p
  obtain ⟨Wo, l, xs, h1, h2, h3, h4, h5, h6, h7⟩ := I.lst hM hds
  refine ⟨.ref l, h1, .inl ⟨rfl, xs, .inl (.inl h6)⟩, ?_⟩
  split at p
  · rename_i d hd
    by_cases hl : ds.length < 100000
    · rw [if_pos hl] at p
      have e1 := h7.length
      -- y is laid down, into a scratch name's place: the move of moveSh without the store
      obtain ⟨v, q1, q2⟩ := I.ow j d hMj hd
      refine ⟨v, q1, l, xs, v, rfl, rfl, h6, szl (by omega), ?_⟩
      obtain ⟨Wn, s1, s2, s3, r⟩ := q2.lay I.exW
      have sw : Same W (wor W Wn) := wor_l _ _
      have sin : Same (wor W Wn) H := wor_in I.exW s1
      have hv : v ≠ .ref l := fun z => by
        rw [z] at q1
        exact I.dj i j _ _ l hM hMj hij hds hd h1 q1
      have hWl : wor W Wn l = none := by
        refine wor_no h4 ?_
        cases q : Wn l with
        | none => rfl
        | some o =>
          rcases s3 l o q with z | z
          · rw [h4] at z
            cases z
          · exact (hv z).elim
      have I' : SInv X.K c M H0 (wor W Wn) σ (env.set j none) H := by
        refine ⟨sin, I.ex0, by rw [List.length_set]; exact I.len, fun m e hm z => ?_, fun m e hm z => ?_, fun m n e e' p hm hn hne z1 z2 z3 z4 => I.dj m n e e' p hm hn hne (get_set_none z1).2 (get_set_none z2).2 z3 z4⟩
        · obtain ⟨u, y1, y2⟩ := I.sh m e hm (get_set_none z).2
          exact ⟨u, y1, y2.mono sw⟩
        · obtain ⟨nmj, z'⟩ := get_set_none z
          obtain ⟨u, y1, y2⟩ := I.ow m e hm z'
          refine ⟨u, y1, ?_⟩
          have far : ∀ p, u = .ref p → W p = none → wor W Wn p = none := fun p ep hp => by
            refine wor_no hp ?_
            cases q : Wn p with
            | none => rfl
            | some o =>
              rcases s3 p o q with y | y
              · rw [hp] at y
                cases y
              · rw [ep] at y1
                rw [y] at q1
                exact (I.dj m j e d p hm hMj (Ne.symm nmj) z' hd y1 q1).elim
          cases e with
          | non => exact y2
          | bl b => exact y2
          | int i => exact y2
          | str x => exact y2
          | lst ds =>
            obtain ⟨Wo, x, xs, y1, y2, ey, y3, y4, y5, y6⟩ := y2
            exact ⟨Wo, x, xs, y1.trans sw, y2, ey, far x ey y3, y4, y5, y6⟩
          | dk ks =>
            obtain ⟨x, ey, y3, y4, y5⟩ := y2
            exact ⟨x, ey, far x ey y3, y4, y5⟩
          | dt ks =>
            obtain ⟨x, ey, y3, y4, y5⟩ := y2
            exact ⟨x, ey, far x ey y3, y4, y5⟩
          | tup _ => exact y2.elim
          | ins _ _ => exact y2.elim
          | scr _ => exact y2.elim
      have hds' : (env.set j none)[i]? = some (some (.lst ds)) := by
        rw [List.getElem?_set_ne (Ne.symm hij)]
        exact hds
      refine p _ σ _ (I'.write hM hds' h1 h5 hWl ?_) sw
      exact ⟨wor Wo Wn, l, xs ++ [v], wor_in (h2.trans sw) (wor_r I.exW s1), wor_new h3 s2, rfl, hWl, h5, upd_same, (h7.mono (wor_l _ _)).snoc (r.mono (wor_r (h2.trans I.exW) s1))⟩
    · rw [if_neg hl] at p
      exact p.elim
  · exact p.elim
def s_ext (i : Nat) (f : Env → R) : Env → O := fun env => withL env i fun ds => oR (f env) fun d => match d with
  | .lst es => if ds.length + es.length ≤ 100000 then .nx (env.set i (some (.lst (ds ++ es)))) else .bad
  | _ => .bad
theorem py_ext (i : Nat) (hM : i ∈ M) (he : PE X e (tBM X.K "list" rExtend (tVar i) (tCons (tOf X.K c E true f) tNil))) (hs : swapsWith e none pos.line X.env = pure false := by rfl) : PyS c X E M (.Expr e pos) (s_ext i f) := PS.weak (ps_expr he hs) fun D0 σ H ⟨H0, W, env, I, p⟩ => by
  obtain ⟨ds, hds, p⟩ := withL_ok p
  obtain ⟨Wo, l, xs, h1, h2, h3, h4, h5, h6, h7⟩ := I.lst hM hds
  refine ⟨.ref l, h1, .inl ⟨rfl, xs, .inl (.inl h6)⟩, ?_⟩
  refine sfr_read (te := fun _ _ _ => True) I p _ fun d v H' s r p => ?_
  cases d <;> try exact p.elim
  rename_i es
  have p : PostS X.K c E M H0 W (if ds.length + es.length ≤ 100000 then .nx (env.set i (some (.lst (ds ++ es)))) else .bad) D0 := p
  by_cases hl : ds.length + es.length ≤ 100000
  · rw [if_pos hl] at p
    have e1 := h7.length
    obtain ⟨Wc, g, b, zs, rfl, g1, g2, g3, g4⟩ := r
    have e2 := g4.length
    refine ⟨l, b, xs, zs, rfl, rfl, s _ _ h6, g3, sz (by omega), ?_⟩
    obtain ⟨W', Wn, I', sW, sn, hn, rn⟩ := I.beside s ⟨Wc, g, g4⟩
    have so : Same Wo W' := h2.trans sW
    have hW' : W' l = none := by
      obtain ⟨u, q1, q2⟩ := I'.ow i _ hM hds
      rw [h1] at q1
      have eu : V.ref l = u := Option.some.inj (Option.some.inj q1)
      subst eu
      exact q2.ref_there.2
    refine p W' σ _ (I'.write hM hds h1 h5 hW' ?_) sW
    exact ⟨wor Wo Wn, l, xs ++ zs, wor_in so sn, wor_new h3 hn, rfl, hW', h5, upd_same, (h7.mono (wor_l _ _)).append (rn.mono (wor_r so sn))⟩
  · rw [if_neg hl] at p
    exact p.elim
def s_put (i : Nat) (fi f : Env → R) : Env → O := fun env => oR (f env) fun d => withL env i fun ds => oR (fi env) fun k => match k with
  | .int k => (match ixN ds.length k with
    | some j => .nx (env.set i (some (.lst (ds.set j d))))
    | none => .bad)
  | _ => .bad
theorem py_put (i : Nat) {tg : Expr} {fi : Env → R} (hM : i ∈ M) (he : PyE c X E true e f) (hg : PG X tg (gSub (tVar i) (tOf X.K c E true fi) rSetL)) (hs : swapsWithSole [tg] e pos.line X.env = pure false := by rfl) (hw : swappedStores [tg] e X.env = pure none := by rfl)
    (h1 : (assignEach [tg] X.env).map (·.2) = [assign tg X.env] := by rfl) : PyS c X E M (.Assign [tg] e pos) (s_put i fi f) := PS.weak (ps_asg he hg hs hw h1) fun D0 σ H ⟨H0, W, env, I, p⟩ =>
  sfr_read (te := fun _ _ _ => True) I p _ fun d v H1 s r p => by
    obtain ⟨ds, hds, p⟩ := withL_ok p
    obtain ⟨W', Wn, I', sW, sn, hn, rn⟩ := I.beside s r.one
    obtain ⟨y, ys, ey, r1, r2⟩ := rn
    have eys : ys = [] := r2
    subst eys
    have ev : v = y := (List.cons.inj ey).1
    subst ev
    obtain ⟨Wo, l, xs, h1, h2, h3, h4, h5, h6, h7⟩ := I'.lst hM hds
    have e1 := h7.length
    refine ⟨.ref l, h1, ?_⟩
    have p' : PostS X.K c E M H0 W' (oR (fi env) fun k => match k with
      | .int k => (match ixN ds.length k with
        | some j => .nx (env.set i (some (.lst (ds.set j d))))
        | none => .bad)
      | _ => .bad) D0 := by
      cases q : fi env with
      | bad =>
        rw [q] at p
        exact p
      | exc n =>
        rw [q] at p
        exact p
      | ok k =>
        rw [q] at p
        cases k <;> try exact p
        rename_i k
        have p : PostS X.K c E M H0 W (match ixN ds.length k with
          | some j => .nx (env.set i (some (.lst (ds.set j d))))
          | none => .bad) D0 := p
        show PostS X.K c E M H0 W' (match ixN ds.length k with
          | some j => .nx (env.set i (some (.lst (ds.set j d))))
          | none => .bad) D0
        cases q2 : ixN ds.length k with
        | none =>
          rw [q2] at p
          exact p
        | some j =>
          rw [q2] at p
          exact fun W2 σ2 H2 I2 s2 => p W2 σ2 H2 I2 (sW.trans s2)
    refine sfr_read (te := fun _ _ _ => True) I' p' _ fun k u H2 s2 rk p => ?_
    cases k <;> try exact p.elim
    rename_i k
    have p : PostS X.K c E M H0 W' (match ixN ds.length k with
      | some j => .nx (env.set i (some (.lst (ds.set j d))))
      | none => .bad) D0 := p
    have ek : u = .int k := rk.at
    subst ek
    cases q2 : ixN ds.length k with
    | none =>
      rw [q2] at p
      exact p.elim
    | some j =>
      rw [q2] at p
      refine ⟨l, xs, k, j, rfl, rfl, s2 _ _ h6, by rw [e1]; exact q2, ?_⟩
      refine p W' σ _ ((I'.heap s2).write hM hds h1 h5 h4 ?_) (Same.refl _)
      exact ⟨wor Wo Wn, l, xs.set j v, wor_in h2 sn, wor_new h3 hn, rfl, h4, h5, upd_same, (h7.mono (wor_l _ _)).set j (r1.mono (wor_r h2 sn))⟩
/-! ### x += e -/
def s_aug (i : Nat) (k : Int → Int → Int) (f : Env → R) : Env → O := fun env => match env[i]? with
  | some (some (.int a)) => oR (f env) fun d => match d with
    | .int b => .nx (env.set i (some (.int (k a b))))
    | _ => .bad
  | _ => .bad
theorem py_aug (i : Nat) {x : Str} {op : Operator} {k : Int → Int → Int} {pos' : Pos} (ho : PIp X op (ipI k)) (he : PyE c X E true e f) (hN : X.N.Nodup) (hM : i ∉ M := by decide) (hi : X.N[i]? = some x := by rfl) (hx : Loc X.env.scope x := by first | exact Or.inl rfl | exact Or.inr rfl) (hf : X.fn x = true ∨ X.env.scope.names.lookup x = some .local := by first | exact .inl rfl | exact .inr rfl) :
    PyS c X E M (.AugAssign (.Name x pos') op e pos) (s_aug i k f) := PS.weak (ps_aug hN hi hx he ho hf) fun D0 σ H ⟨H0, W, env, I, p⟩ => by
  unfold s_aug at p
  split at p
  · rename_i a ha
    obtain ⟨v, h1, h2⟩ := I.sh i _ hM ha
    have ev : v = .int a := h2
    subst ev
    refine ⟨_, h1, sfr_read (te := fun _ _ _ => True) I p _ fun d u H' s r p => ?_⟩
    cases d <;> try exact p.elim
    rename_i b
    have eu : u = .int b := r.at
    subst eu
    exact ⟨a, b, rfl, rfl, p W _ H' (SInv.setSh (I.heap s) hM rfl) (Same.refl W)⟩
  · exact p.elim
/-! ### targets of several names; for; while -/
structure GOk (M ts : List Nat) (fg : D → Env → Option Env) : Prop where
  off : ∀ i ∈ ts, i ∉ M
  mask : ∀ d env env', fg d env = some env' → fg d (mask M env) = some (mask M env')
  len : ∀ d env env', fg d env = some env' → env'.length = env.length
  keep : ∀ d env env', fg d env = some env' → ∀ j, j ∉ ts → env'[j]? = env[j]?
theorem mask_set {i : Nat} {env : Env} {o : Option D} (hi : i ∉ M) : mask M (env.set i o) = (mask M env).set i o := by
  apply List.ext_getElem?
  intro j
  by_cases hj : i = j
  · subst hj
    by_cases hl : i < env.length
    · rw [List.getElem?_set_self (by rw [mask_len]; exact hl)]
      unfold mask
      rw [List.getElem?_mapIdx, List.getElem?_set_self hl]
      show some (if i ∈ M then none else o) = _
      rw [if_neg hi]
    · rw [List.getElem?_eq_none (by rw [mask_len, List.length_set]; omega), List.getElem?_eq_none (by rw [List.length_set, mask_len]; omega)]
  · rw [List.getElem?_set_ne hj]
    unfold mask
    rw [List.getElem?_mapIdx, List.getElem?_mapIdx, List.getElem?_set_ne hj]
theorem gok_name {i : Nat} (hi : i ∉ M) : GOk M [i] (g_name i) := by
  refine ⟨fun j hj => ?_, fun d env env' h => ?_, fun d env env' h => ?_, fun d env env' h j hj => ?_⟩
  · have e : j = i := by simpa using hj
    rw [e]
    exact hi
  all_goals
    have e : env.set i (some d) = env' := Option.some.inj h
    subst e
  · show some _ = _
    rw [mask_set hi]
  · rw [List.length_set]
  · rw [List.getElem?_set_ne]
    intro z
    exact hj (by rw [z]; exact List.mem_cons_self)
theorem gok_all : ∀ (is : List Nat), (∀ i ∈ is, i ∉ M) → ∀ (ds : List D) (env env' : Env), setAll is ds env = some env' → setAll is ds (mask M env) = some (mask M env') ∧ env'.length = env.length ∧ ∀ j, j ∉ is → env'[j]? = env[j]?
  | [], _, [], env, env', h => by
    have e : env = env' := Option.some.inj h
    subst e
    exact ⟨rfl, rfl, fun _ _ => rfl⟩
  | i :: is, hi, d :: ds, env, env', h => by
    obtain ⟨h1, h2, h3⟩ := gok_all is (fun j hj => hi j (List.mem_cons_of_mem _ hj)) ds (env.set i (some d)) env' h
    refine ⟨?_, ?_, fun j hj => ?_⟩
    · show setAll is ds ((mask M env).set i (some d)) = _
      rw [← mask_set (hi i List.mem_cons_self)]
      exact h1
    · rw [h2, List.length_set]
    · rw [h3 j (fun z => hj (List.mem_cons_of_mem _ z)), List.getElem?_set_ne]
      intro z
      exact hj (by rw [z]; exact List.mem_cons_self)
  | [], _, _ :: _, _, _, h => by cases h
  | _ :: _, _, [], _, _, h => by cases h
theorem gok_tup {is : List Nat} (hi : ∀ i ∈ is, i ∉ M) : GOk M is (g_tup is) := by
  refine ⟨hi, fun d env env' h => ?_, fun d env env' h => ?_, fun d env env' h => ?_⟩ <;> cases d <;> try (simp [g_tup] at h; done)
  · exact (gok_all is hi _ env env' h).1
  · exact (gok_all is hi _ env env' h).2.1
  · exact (gok_all is hi _ env env' h).2.2
theorem wipe_get {σ : L2.St} {i : Nat} : ∀ {ts : List Nat}, i ∉ ts → (L2.wipe σ ts)[i]? = σ[i]?
  | [], _ => rfl
  | t :: ts, h => by
    show ((L2.wipe σ ts).set t none)[i]? = _
    rw [List.getElem?_set_ne (fun z => h (by rw [z]; exact List.mem_cons_self)), wipe_get fun z => h (List.mem_cons_of_mem _ z)]
/-- targets that don't change are given a value of the world -/
theorem SInv.target {H0 W H : Hp} {σ : L2.St} {env env' : Env} {ts : List Nat} {fg : D → Env → Option Env} {d : D} {v : V} {Q : L2.St → Hp → Prop} (I : SInv K c M H0 W σ env H) (G : GOk M ts fg) (r : Rep K c W d v) (h : fg d env = some env') (k : ∀ σ', SInv K c M H0 W σ' env' H → Q σ' H) : tOfG K c ts fg v σ H Q := by
  refine ⟨W, mask M env, d, mask M env', I.slotsW, I.exW, r, G.mask d env env' h, fun σ' sl w => k σ' ?_⟩
  have same : ∀ j, j ∈ M → σ'[j]? = σ[j]? := fun j hj => by
    have nj : j ∉ ts := fun z => G.off j z hj
    rw [← wipe_get (σ := σ') nj, w, wipe_get nj]
  have back : ∀ j (e : D), j ∈ M → env'[j]? = some (some e) → env[j]? = some (some e) := fun j e hj z => by
    rw [← G.keep d env env' h j fun y => G.off j y hj]
    exact z
  refine ⟨I.exW, I.ex0, ?_, fun j e hj z => sl.2 j e (mask_in hj z), fun j e hj z => ?_, fun j l e e' p hj hl hne z1 z2 z3 z4 => ?_⟩
  · have := sl.1
    rw [mask_len] at this
    exact this
  · rw [same j hj]
    exact I.ow j e hj (back j e hj z)
  · rw [same j hj] at z3
    rw [same l hl] at z4
    exact I.dj j l e e' p hj hl hne (back j e hj z1) (back l e' hl z2) z3 z4
def forGo (fg : D → Env → Option Env) (s : Env → O) : List D → Env → O
  | [], env => .nx env
  | d :: ds, env => match fg d env with
    | none => .bad
    | some env' => oSeq (s env') (forGo fg s ds)
def oA (r : RA) (k : List D → O) : O := match r with
  | .ok ds => k ds
  | .exc n => .exc n
  | .bad => .bad
def s_for (M : List Nat) (fi : Env → RA) (fg : D → Env → Option Env) (s : Env → O) : Env → O := fun env => oA (fi (mask M env)) fun ds => forGo fg s ds env
theorem PostS.base {H0 W W' : Hp} {o : O} {Dn : Ends} (sW : Same W W') (p : PostS K c E M H0 W o Dn) : PostS K c E M H0 W' o Dn := by
  cases o with
  | nx env => exact fun W2 σ2 H2 I2 s2 => p W2 σ2 H2 I2 (sW.trans s2)
  | rt d => exact p
  | exc n => exact p
  | bad => exact p
theorem py_for {tg iter : Expr} {body : List Stmt} {fi : Env → RA} {fg : D → Env → Option Env} {ts : List Nat} (hp : PassesOwn (model X.prog X.w) X.A X.env X.xe) (hc : X.calm = true) (G : GOk M ts fg) (hi : PyI c X E tg iter fi) (hg : PyG c X ts tg fg) (hb : PySs c X E M body s)
    (hs : ∀ x, foldedSetIterable iter X.env x = pure x := by intro _; rfl) : PyS c X E M (.For tg iter body [] pos) (s_for M fi fg s) := PS.weak (ps_for hp hc hi hg hb hs) fun D0 σ H ⟨H0, W, env, I, p⟩ => by
  refine ⟨W, mask M env, I.slotsW, I.exW, ?_⟩
  unfold s_for oA at p
  cases q : fi (mask M env) with
  | bad =>
    rw [q] at p
    exact p
  | exc n =>
    rw [q] at p
    exact exc_back I.ex0 p
  | ok ds =>
    rw [q] at p
    intro J H1 W1 s1 g1 it
    have p : PostS X.K c E M H0 W (forGo fg s ds env) D0 := p
    have sw : Same W (wor W W1) := wor_l _ _
    have sw1 : Same W1 (wor W W1) := wor_r (I.exW.trans s1) g1.sm
    have I1 : SInv X.K c M H0 (wor W W1) σ env H1 := I.more s1 sw (wor_in (I.exW.trans s1) g1.sm) fun a o z => (wor_or z).elim .inl (g1.new a o)
    refine ⟨fun i m σc Hc => m = ds.length - i ∧ i ≤ ds.length ∧ ∃ Wc envc, SInv X.K c M H0 Wc σc envc Hc ∧ Same (wor W W1) Wc ∧ PostS X.K c E M H0 W (forGo fg s (ds.drop i) envc) D0, ⟨ds.length, by omega, Nat.zero_le _, wor W W1, env, I1, Same.refl _, p⟩, ?_⟩
    rintro i m σc Hc ⟨rfl, hi, Wc, envc, Ic, sc, pc⟩
    have sWc : Same W1 Hc := (sw1.trans sc).trans Ic.exW
    by_cases hlt : i < ds.length
    · refine .inr ⟨it.go i Hc sWc hlt, fun σ' H' => ∃ Wc envc, SInv X.K c M H0 Wc σ' envc H' ∧ Same (wor W W1) Wc ∧ PostS X.K c E M H0 W (forGo fg s (ds.drop (i + 1)) envc) D0, fun σ' H' n => ⟨ds.length - (i + 1), by omega, rfl, hlt, n⟩, fun x H2 hy => ?_⟩
      obtain ⟨s2, d, W2, hd, g2, rx⟩ := it.yld i Hc x H2 sWc hlt hy
      have ed : ds.drop i = d :: ds.drop (i + 1) := by
        rw [List.drop_eq_getElem_cons hlt]
        rw [List.getElem?_eq_getElem hlt] at hd
        rw [Option.some.inj hd]
      rw [ed] at pc
      unfold forGo at pc
      have sw2 : Same Wc (wor Wc W2) := wor_l _ _
      have I2 : SInv X.K c M H0 (wor Wc W2) σc envc H2 := Ic.more s2 sw2 (wor_in (Ic.exW.trans s2) g2.sm) fun a o z => by
        rcases wor_or z with z | z
        · exact .inl z
        · rcases g2.new a o z with z | z
          · exact .inl (sc a o (sw1 a o z))
          · exact .inr z
      cases qg : fg d envc with
      | none =>
        rw [qg] at pc
        exact pc.elim
      | some env' =>
        rw [qg] at pc
        refine I2.target G (rx.mono (wor_r (Ic.exW.trans s2) g2.sm)) qg fun σ' I3 => ⟨H0, wor Wc W2, env', I3, ?_⟩
        have pc : PostS X.K c E M H0 W (oSeq (s env') (forGo fg s (ds.drop (i + 1)))) D0 := pc
        unfold oSeq at pc
        cases qs : s env' with
        | bad =>
          rw [qs] at pc
          exact pc
        | exc n =>
          rw [qs] at pc
          exact pc
        | rt d =>
          rw [qs] at pc
          exact pc
        | nx env2 =>
          rw [qs] at pc
          exact fun W3 σ3 H3 I4 s4 => ⟨W3, env2, I4, sc.trans (sw2.trans s4), pc⟩
    · have ei : i = ds.length := by omega
      subst ei
      rw [List.drop_length] at pc
      exact .inl ⟨it.stop _ Hc sWc (Nat.le_refl _), pc Wc σc Hc Ic (sw.trans sc)⟩
def whileGo (ft : Env → R) (s : Env → O) : Nat → Env → O
  | 0, _ => .bad
  | n + 1, env => oIf (ft env) (fun _ => oSeq (s env) (whileGo ft s n)) fun _ => .nx env
def s_while (n : Env → Nat) (ft : Env → R) (s : Env → O) : Env → O := fun env => whileGo ft s (n env) env
theorem py_while {body : List Stmt} {ft : Env → R} (n : Env → Nat) (hp : PassesOwn (model X.prog X.w) X.A X.env X.xe) (hc : PyT c X E e ft) (hb : PySs c X E M body s) : PyS c X E M (.While e body [] pos) (s_while n ft s) := PS.weak (ps_while hp hc hb) fun D0 σ H ⟨H0, W, env, I, p⟩ => by
  refine ⟨fun m σc Hc => ∃ Wc envc, SInv X.K c M H0 Wc σc envc Hc ∧ PostS X.K c E M H0 Wc (whileGo ft s m envc) D0, ⟨n env, W, env, I, p⟩, ?_⟩
  rintro m σc Hc ⟨Wc, envc, Ic, pc⟩
  cases m with
  | zero => exact pc.elim
  | succ m =>
    refine stest_read Ic (k := fun d => match d with
      | .bl true => oSeq (s envc) (whileGo ft s m)
      | .bl false => .nx envc
      | _ => .bad) pc _ (fun b H' s' pb => ?_) fun d hd => by
        cases d with
        | bl b => exact absurd rfl (hd b)
        | _ => rfl
    cases b with
    | false =>
      have pb : PostS X.K c E M H0 Wc (.nx envc) D0 := pb
      show D0.nx σc H'
      exact pb Wc σc H' (Ic.heap s') (Same.refl _)
    | true =>
      refine ⟨fun σ' H' => ∃ Wc envc, SInv X.K c M H0 Wc σ' envc H' ∧ PostS X.K c E M H0 Wc (whileGo ft s m envc) D0, fun σ' H' n => ⟨m, Nat.lt_succ_self _, n⟩, H0, Wc, envc, Ic.heap s', ?_⟩
      have pb : PostS X.K c E M H0 Wc (oSeq (s envc) (whileGo ft s m)) D0 := pb
      unfold oSeq at pb
      cases qs : s envc with
      | bad =>
        rw [qs] at pb
        exact pb
      | exc n =>
        rw [qs] at pb
        exact pb
      | rt d =>
        rw [qs] at pb
        exact pb
      | nx env2 =>
        rw [qs] at pb
        have pb : PostS X.K c E M H0 Wc (whileGo ft s m env2) D0 := pb
        exact fun W3 σ3 H3 I4 s4 => ⟨W3, env2, I4, pb.base s4⟩
/-! ### a, b = e1, e2 (two local names); a, b, .. = a tuple -/
def setX (M : List Nat) (i : Nat) (d : D) (env : Env) (k : Env → O) : O := if i ∈ M then (if ownOk d then k (env.set i (some d)) else .bad) else k (env.set i (some d))
theorem SInv.take {H0 W H H' : Hp} {σ : L2.St} {env : Env} {i : Nat} {d : D} {v : V} {k : Env → O} {Dn : Ends} (I : SInv K c M H0 W σ env H) (s : Same H H') (r : Res K c true emp H H' d v) (p : PostS K c E M H0 W (setX M i d env k) Dn) : ∃ W', SInv K c M H0 W' (σ.set i (some v)) (env.set i (some d)) H' ∧ Same W W' ∧ PostS K c E M H0 W' (k (env.set i (some d))) Dn := by
  unfold setX at p
  by_cases hi : i ∈ M
  · rw [if_pos hi] at p
    by_cases ok : ownOk d = true
    · rw [if_pos ok] at p
      obtain ⟨W', I', sw⟩ := I.takeM hi ok s r
      exact ⟨W', I', sw, p.base sw⟩
    · rw [if_neg ok] at p
      exact p.elim
  · rw [if_neg hi] at p
    have r' : Res K c false W H H' d v := by
      obtain ⟨W', g, r⟩ := r.rep
      exact ⟨W', ⟨g.sm, fun a o z => (g.new a o z).elim (fun q => nomatch q) .inr⟩, r⟩
    obtain ⟨W', I', sw⟩ := I.takeSh hi s r'
    exact ⟨W', I', sw, p.base sw⟩
def s_par (M : List Nat) (i j : Nat) (fa fb : Env → R) : Env → O := fun env => oR (fa env) fun d => oR (fb env) fun d' => setX M i d env fun env1 => setX M j d' env1 .nx
theorem py_par (i j : Nat) {x y : Str} {px py pt : Pos} {kt k2 : Nat} {pt2 : Pos} (hc : X.calm = true) (hN : X.N.Nodup) (ha : PyE c X E true a fa) (hb : PyE c X E true b fb) (hi : X.N[i]? = some x := by rfl) (hj : X.N[j]? = some y := by rfl) (hij : i ≠ j := by decide)
    (hx : X.env.scope.names.lookup x = some .local := by rfl) (hy : X.env.scope.names.lookup y = some .local := by rfl) (h1 : starEach [a, b] X.env = (false, eval a X.env) :: starEach [b] X.env := by rfl) (h2 : starEach [b] X.env = (false, eval b X.env) :: starEach [] X.env := by rfl)
    (hw : swappedStores [.Tuple [.Name x px, .Name y py] kt pt] (.Tuple [a, b] k2 pt2) X.env = pure (some [x, y]) := by rfl)
    (hs : swapsWithSole [.Tuple [.Name x px, .Name y py] kt pt] (.Tuple [a, b] k2 pt2) pos.line X.env = pure false := by rfl) :
    PyS c X E M (.Assign [.Tuple [.Name x px, .Name y py] kt pt] (.Tuple [a, b] k2 pt2) pos) (s_par M i j fa fb) := PS.weak (ps_par hc hN hi hj hij hx hy (pa_cons ha (pa_cons hb pa_nil h2) h1) hw hs) fun D0 σ H ⟨H0, W, env, I, p⟩ =>
  sfr_read (te := fun _ _ _ => True) I p _ fun d v H1 s1 r1 p => sfr_read (te := fun _ _ _ => True) (I.heap s1) p _ fun d' v' H2 s2 r2 p => by
    obtain ⟨W1, I1, sw1, p1⟩ := I.take s1 r1 p
    obtain ⟨W2, I2, sw2, p2⟩ := I1.take s2 r2 p1
    exact ⟨v, v', rfl, p2 W2 _ H2 I2 (Same.refl _)⟩
/-- targets that don't change, of a value that may be shared -/
def s_tup (M : List Nat) (fg : D → Env → Option Env) (f : Env → R) : Env → O := fun env => oR (f (mask M env)) fun d => match fg d env with
  | some env' => .nx env'
  | none => .bad
theorem py_tupS {tg : Expr} {fg : D → Env → Option Env} {ts : List Nat} (G : GOk M ts fg) (he : PyE c X E fr e f) (hg : PyG c X ts tg fg) (hs : swapsWithSole [tg] e pos.line X.env = pure false := by rfl) (hw : swappedStores [tg] e X.env = pure none := by rfl) (h1 : (assignEach [tg] X.env).map (·.2) = [assign tg X.env] := by rfl) :
    PyS c X E M (.Assign [tg] e pos) (s_tup M fg f) := PS.weak (ps_asg he hg hs hw h1) fun D0 σ H ⟨H0, W, env, I, p⟩ =>
  sany_read I p _ fun d v H' s r p => by
    cases q : fg d env with
    | none =>
      rw [q] at p
      exact p.elim
    | some env' =>
      rw [q] at p
      obtain ⟨W', g, r⟩ := r
      have sw : Same W (wor W W') := wor_l _ _
      have I' : SInv X.K c M H0 (wor W W') σ env H' := I.more s sw (wor_in (I.exW.trans s) g.sm) fun a o z => (wor_or z).elim .inl (g.new a o)
      exact I'.target G (r.mono (wor_r (I.exW.trans s) g.sm)) q fun σ' I2 => p _ σ' H' I2 sw
/-! ### a def's body -/
def startE (n : Nat) (ds : List D) : Env := ds.map some ++ List.replicate (n - ds.length) none
/-- what a def is worth by its body -/
def fin (o : O) : R := match o with
  | .nx _ => .ok .non
  | .rt d => .ok d
  | .exc n => .exc n
  | .bad => .bad
def body (n : Nat) (s : Env → O) (ds : List D) : R := fin (s (startE n ds))
theorem start_slots {W : Hp} {N : List Str} {ds : List D} {vs : List V} (hn : ds.length ≤ N.length) (r : Reps K c W ds vs) : Slots K c W (L2.start N vs) (startE N.length ds) := by
  have e1 := r.length
  refine ⟨by unfold L2.start startE; rw [List.length_append, List.length_append, List.length_map, List.length_map, List.length_replicate, List.length_replicate, e1], fun i d h => ?_⟩
  unfold startE at h
  by_cases hi : i < ds.length
  · rw [List.getElem?_append_left (by rw [List.length_map]; exact hi), List.getElem?_map] at h
    obtain ⟨d', h1, h2⟩ := Option.map_eq_some_iff.mp h
    have e : d' = d := Option.some.inj h2
    subst e
    obtain ⟨v, h3, h4⟩ := r.get h1
    refine ⟨v, ?_, h4⟩
    unfold L2.start
    rw [List.getElem?_append_left (by rw [List.length_map, e1]; exact hi), List.getElem?_map, h3]
    rfl
  · rw [List.getElem?_append_right (by rw [List.length_map]; omega), List.getElem?_replicate] at h
    split at h <;> cases h
theorem start_inv {H : Hp} {N ps : List Str} {ds : List D} {vs : List V} (hp : ps.length ≤ N.length) (hn : ds.length = ps.length) (hM : ∀ i ∈ M, ps.length ≤ i) (r : Reps K c H ds vs) : SInv K c M H H (L2.start N vs) (startE N.length ds) H := by
  have sl := start_slots (N := N) (by omega) r
  have no : ∀ i d, i ∈ M → (startE N.length ds)[i]? = some (some d) → False := fun i d hi h => by
    have h1 := hM i hi
    unfold startE at h
    rw [List.getElem?_append_right (by rw [List.length_map]; omega), List.getElem?_replicate] at h
    split at h <;> cases h
  exact ⟨Same.refl H, Same.refl H, sl.1, fun i d _ h => sl.2 i d h, fun i d hi h => (no i d hi h).elim, fun i j d e p hi _ _ h _ _ _ => (no i d hi h).elim⟩
end
section
variable {P : Program} {w : World} {K : PySem.W.Frag} {mg : Str → Option Value} {base : Heap} {c : Ct}
/-- THE RULE of a def: its body is worth s, so the def is worth «body s» -/
theorem def_ok {x qual : Str} {st : Stmt} {f : Addr} {fd : FuncData} (N ps : List Str) (n np k : Nat) (M : List Nat) (s : Env → O) (F : Fun K x qual st f fd) (S : FnScope N ps (defScope st)) (hN : N.length = n) (hps : ps.length = np) (hp : np ≤ n) (hM : ∀ i ∈ M, np ≤ i)
    (hbody : ∀ (cdv : Value) (A : Around) (outer : List PySem.Env) (s₀ : Shared) (H : Hp) (E : XK), Room k (A.deeper (envOfC qual (defScope st) s₀.heap.objs.size f cdv)) →
      PySs c (cxOf (L2.CX P w) P w K mg base N qual (defScope st) f cdv A outer s₀ H E) E M (defBody st) s) : FnOk P w K mg base (L2.CX P w) (k + 1) f fd ps (spM K c np (body n s)) := by
  subst hN hps
  refine F.okX S (fun vs H Q E h => spM_len h) (fun cdv A outer s₀ H vs Q E hr h => ⟨_, hbody cdv A outer s₀ H E hr, ?_⟩)
  obtain ⟨ds, hl, r, p⟩ := h
  refine ⟨H, H, startE N.length ds, start_inv hp hl hM r, ?_⟩
  unfold body fin at p
  cases q : s (startE N.length ds) with
  | bad =>
    rw [q] at p
    exact p
  | exc n =>
    rw [q] at p
    exact p
  | rt d =>
    rw [q] at p
    exact fun v H' s' r => p v H' s' r
  | nx env =>
    rw [q] at p
    exact fun W' σ' H' I _ => p .non H' I.ex0 (Res.scal rfl)
theorem cal_ok {x qual : Str} {st : Stmt} {f : Addr} {fd : FuncData} {ps : List Str} {k n : Nat} {m : List D → R} (F : Fun K x qual st f fd) (g : mg x = some (.ref f)) (b : Binds K fd ps []) (h : FnOk P w K mg base (L2.CX P w) k f fd ps (spM K c n m)) : Cal P w K mg base c k x ps n m := ⟨f, fd, h, g, F.kp, b⟩
end
end PyS
set_option maxRecDepth 100000
set_option maxHeartbeats 4000000
/-! Sem8: given-up names walked, another set of changing names, lists by order, constants of the module. -/
namespace PyS
open PySem PySem.Spec PyProof.Rows L2

section
variable {c : Ct} {X : Cx} {E : XK} {M : List Nat} {e a b : Expr} {f fa fb : Env → R} {s t u : Env → O} {fs : Env → RA} {fr fra frb frs : Bool} {pos : Pos} {K : PySem.W.Frag} {st : Stmt} {rest : List Stmt}
theorem passO {P : Program} {w : World} {K : PySem.W.Frag} {mg : Str → Option Value} {base : Heap} {N : List Str} {qual : Str} {scope : Scope} {f : Addr} {cd : Value} {A : Around} {outer : List PySem.Env} {s : Shared} {H : Hp} {E : XK}
    (hf : (envOfC qual scope s.heap.objs.size f cd).frame = some (envOfC qual scope s.heap.objs.size f cd).locals := by rfl) :
    Passes (L2.CX P w) (cxOf (L2.CX P w) P w K mg base N qual scope f cd A outer s H E) E := passes_call (takes_of rfl hf rfl rfl) fun _ _ _ _ h => h
/-- a module's whole number -/
theorem py_gintE {x : Str} {i : Int} (hg : Gl X x) (h : ∃ t, X.mg x = some (.int i t)) (hd : (x == ("__debug__" : Str)) = false := by decide) : PyE c X E true (.Name x pos) (e_c (.int i)) := by
  obtain ⟨t, h⟩ := h
  exact py_gint hg h ⟨t, rfl⟩ hd
/-! ### lists of whole numbers by order -/
def rLtL (K : PySem.W.Frag) : R2 := fun x y H Q => ∃ (a b : Addr) (ns ms : List Int), x = .ref a ∧ y = .ref b ∧ SqL K H a (ns.map V.int) ∧ SqL K H b (ms.map V.int) ∧ Q (.bl (decide (ns < ms))) H
theorem op_ltL (hu : X.A.units + 64 < cLine) : OpR X (compareOp .Lt) (rLtL X.K) := by
  intro pins s σ H x y v u Q I rx ry h
  obtain ⟨a, b, ns, ms, rfl, rfl, ha, hb, q⟩ := h
  have d1 : Dp X.K H (.ref a) (.list (ns.map PyData.int)) := .lst ha (dp_ints ns)
  have d2 : Dp X.K H (.ref b) (.list (ms.map PyData.int)) := .lst hb (dp_ints ms)
  obtain ⟨as, q1⟩ := Dp.reads I _ _ _ d1 rx
  obtain ⟨bs, q2⟩ := Dp.reads I _ _ _ d2 ry
  refine PySem.W.lt_data q1 q2 (by rw [PySem.W.alike]; exact PySem.W.alike_ints ns ms) (fun z => by cases z) ?_ ⟨.bl (decide (ns < ms)), H, I, ?_, q⟩
  · have z : PyData.depth (.list (ns.map PyData.int)) ≤ 64 := by
      rw [PyData.depth, PySem.W.depth_ints]
      decide
    have z2 : min (PyData.depth (.list (ns.map PyData.int))) (PyData.depth (.list (ms.map PyData.int))) ≤ PyData.depth (.list (ns.map PyData.int)) := Nat.min_le_left _ _
    omega
  · show Value.bool _ = Value.bool _
    rw [PySem.W.dataLt_list]
    have z := PySem.W.dataLt_ints ns ms
    unfold PySem.W.rowLt at z
    rw [z]
def g_ltL : D → D → R := fun x y => match asL x, asL y with
  | some ds, some es => (match asInts ds, asInts es with
    | some ns, some ms => .ok (.bl (decide (ns < ms)))
    | _, _ => .bad)
  | _, _ => .bad
theorem opg_ltL : OpG K c fra frb true (rLtL K) g_ltL := by
  intro W H H1 x y vx vy Q sW s rx ry
  unfold g_ltL
  cases q1 : asL x with
  | none => exact ⟨fun n z => (nomatch z), fun g => False.elim g⟩
  | some ds =>
    cases q2 : asL y with
    | none => exact ⟨fun n z => (nomatch z), fun g => False.elim g⟩
    | some es =>
      cases q3 : asInts ds with
      | none =>
        simp only [q3]
        exact ⟨fun n z => (nomatch z), fun g => False.elim g⟩
      | some ns =>
        cases q4 : asInts es with
        | none =>
          simp only [q3, q4]
          exact ⟨fun n z => (nomatch z), fun g => False.elim g⟩
        | some ms =>
          simp only [q3, q4]
          refine ⟨fun n z => (nomatch z), fun g => ?_⟩
          obtain ⟨l, xs, rfl, h1, r1⟩ := asL_rep q1 rx.at
          obtain ⟨m, ys, rfl, h2, r2⟩ := asL_rep q2 ry.at
          have e1 := ints_reps q3 r1
          have e2 := ints_reps q4 r2
          subst e1 e2
          exact ⟨l, m, ns, ms, rfl, rfl, h1, h2, g _ H1 (Same.refl _) (Res.scal rfl)⟩
theorem py_ltL (hu : X.A.units + 64 < cLine) (ha : PyE c X E fra a fa) (hb : PyE c X E frb b fb) : PyE c X E true (.Compare a [.Lt] [b] pos) (e_op g_ltL fa fb) := py_cmp (op_ltL hu) opg_ltL ha hb (nomark _)
theorem pt_ltL (hu : X.A.units + 64 < cLine) (ha : PyE c X E fra a fa) (hb : PyE c X E frb b fb) : PyT c X E (.Compare a [.Lt] [b] pos) (e_op g_ltL fa fb) := py_tcmp (op_ltL hu) opg_ltL ha hb (nomark _)
/-! ### a changing name given up -/
theorem SInv.freeze {H0 W H : Hp} {σ : L2.St} {env : Env} {j : Nat} {d : D} (I : SInv K c M H0 W σ env H) (hj : j ∈ M) (h : env[j]? = some (some d)) : ∃ v W', σ[j]? = some (some v) ∧ SInv K c M H0 W' σ (env.set j none) H ∧ Same W W' ∧ Rep K c W' d v := by
  obtain ⟨v, h1, h2⟩ := I.ow j d hj h
  obtain ⟨Wn, s1, s2, s3, r⟩ := h2.lay I.exW
  have sw : Same W (wor W Wn) := wor_l _ _
  have sin : Same (wor W Wn) H := wor_in I.exW s1
  refine ⟨v, wor W Wn, h1, ⟨sin, I.ex0, by rw [List.length_set]; exact I.len, fun l e hl z => ?_, fun l e hl z => ?_, fun l m e e' p hl hm hne z1 z2 z3 z4 => I.dj l m e e' p hl hm hne (get_set_none z1).2 (get_set_none z2).2 z3 z4⟩, sw, r.mono (wor_r I.exW s1)⟩
  · obtain ⟨u, q1, q2⟩ := I.sh l e hl (get_set_none z).2
    exact ⟨u, q1, q2.mono sw⟩
  · obtain ⟨nlj, z'⟩ := get_set_none z
    obtain ⟨u, q1, q2⟩ := I.ow l e hl z'
    refine ⟨u, q1, ?_⟩
    have far : ∀ p, u = .ref p → W p = none → wor W Wn p = none := fun p ep hp => by
      refine wor_no hp ?_
      cases q : Wn p with
      | none => rfl
      | some o =>
        rcases s3 p o q with y | y
        · rw [hp] at y
          cases y
        · rw [ep] at q1
          rw [y] at h1
          exact (I.dj l j e d p hl hj (Ne.symm nlj) z' h q1 h1).elim
    cases e with
    | non => exact q2
    | bl b => exact q2
    | int i => exact q2
    | str x => exact q2
    | lst ds =>
      obtain ⟨Wo, x, xs, y1, y2, ey, y3, y4, y5, y6⟩ := q2
      exact ⟨Wo, x, xs, y1.trans sw, y2, ey, far x ey y3, y4, y5, y6⟩
    | dk ks =>
      obtain ⟨x, ey, y3, y4, y5⟩ := q2
      exact ⟨x, ey, far x ey y3, y4, y5⟩
    | dt ks =>
      obtain ⟨x, ey, y3, y4, y5⟩ := q2
      exact ⟨x, ey, far x ey y3, y4, y5⟩
    | tup _ => exact q2.elim
    | ins _ _ => exact q2.elim
    | scr _ => exact q2.elim
/-- the turns of a for, from where the iterator has come -/
theorem for_turns {H0 W H1 : Hp} {σ : L2.St} {env : Env} {ds : List D} {J : It} {W1 Wb : Hp} {fg : D → Env → Option Env} {ts : List Nat} {D0 : Ends} (G : GOk M ts fg) (I1 : SInv K c M H0 Wb σ env H1) (sW : Same W Wb) (sw1 : Same W1 Wb) (it : IterS K c W1 J ds) (p : PostS K c E M H0 W (forGo fg s ds env) D0) :
    ∃ Wv : Nat → Nat → L2.St → Hp → Prop, (∃ m, Wv 0 m σ H1) ∧ ∀ i m σ H, Wv i m σ H →
      (J.stop i H ∧ D0.nx σ H) ∨ (J.go i H ∧ ∃ N : L2.St → Hp → Prop, (∀ σ' H', N σ' H' → ∃ m', m' < m ∧ Wv (i + 1) m' σ' H') ∧ ∀ x H', J.yld i H x H' → tOfG K c ts fg x σ H' fun σ2 H2 => tOfS K c E M s { D0 with nx := N, ct := N, bk := D0.nx } σ2 H2) := by
  refine ⟨fun i m σc Hc => m = ds.length - i ∧ i ≤ ds.length ∧ ∃ Wc envc, SInv K c M H0 Wc σc envc Hc ∧ Same Wb Wc ∧ PostS K c E M H0 W (forGo fg s (ds.drop i) envc) D0, ⟨ds.length, by omega, Nat.zero_le _, Wb, env, I1, Same.refl _, p⟩, ?_⟩
  rintro i m σc Hc ⟨rfl, hi, Wc, envc, Ic, sc, pc⟩
  have sWc : Same W1 Hc := (sw1.trans sc).trans Ic.exW
  by_cases hlt : i < ds.length
  · refine .inr ⟨it.go i Hc sWc hlt, fun σ' H' => ∃ Wc envc, SInv K c M H0 Wc σ' envc H' ∧ Same Wb Wc ∧ PostS K c E M H0 W (forGo fg s (ds.drop (i + 1)) envc) D0, fun σ' H' n => ⟨ds.length - (i + 1), by omega, rfl, hlt, n⟩, fun x H2 hy => ?_⟩
    obtain ⟨s2, d, W2, hd, g2, rx⟩ := it.yld i Hc x H2 sWc hlt hy
    have ed : ds.drop i = d :: ds.drop (i + 1) := by
      rw [List.drop_eq_getElem_cons hlt]
      rw [List.getElem?_eq_getElem hlt] at hd
      rw [Option.some.inj hd]
    rw [ed] at pc
    unfold forGo at pc
    have sw2 : Same Wc (wor Wc W2) := wor_l _ _
    have I2 : SInv K c M H0 (wor Wc W2) σc envc H2 := Ic.more s2 sw2 (wor_in (Ic.exW.trans s2) g2.sm) fun a o z => by
      rcases wor_or z with z | z
      · exact .inl z
      · rcases g2.new a o z with z | z
        · exact .inl (sc a o (sw1 a o z))
        · exact .inr z
    cases qg : fg d envc with
    | none =>
      rw [qg] at pc
      exact pc.elim
    | some env' =>
      rw [qg] at pc
      refine I2.target G (rx.mono (wor_r (Ic.exW.trans s2) g2.sm)) qg fun σ' I3 => ⟨H0, wor Wc W2, env', I3, ?_⟩
      have pc : PostS K c E M H0 W (oSeq (s env') (forGo fg s (ds.drop (i + 1)))) D0 := pc
      unfold oSeq at pc
      cases qs : s env' with
      | bad =>
        rw [qs] at pc
        exact pc
      | exc n =>
        rw [qs] at pc
        exact pc
      | rt d =>
        rw [qs] at pc
        exact pc
      | nx env2 =>
        rw [qs] at pc
        exact fun W3 σ3 H3 I4 s4 => ⟨W3, env2, I4, sc.trans (sw2.trans s4), pc⟩
  · have ei : i = ds.length := by omega
    subst ei
    rw [List.drop_length] at pc
    exact .inl ⟨it.stop _ Hc sWc (Nat.le_refl _), pc Wc σc Hc Ic (sW.trans sc)⟩
/-- for .. in y, y a changing list that is given up -/
def s_forM (j : Nat) (fg : D → Env → Option Env) (s : Env → O) : Env → O := fun env => withL env j fun ds => forGo fg s ds (env.set j none)
theorem py_forM (j : Nat) {tg : Expr} {body : List Stmt} {fg : D → Env → Option Env} {ts : List Nat} {y : Str} {py : Pos} (hMj : j ∈ M) (hp : PassesOwn (model X.prog X.w) X.A X.env X.xe) (hc : X.calm = true) (G : GOk M ts fg) (hg : PyG c X ts tg fg) (hb : PySs c X E M body s) (hN : X.N[j]? = some y := by rfl)
    (hv : Vis X.env.scope y := by first | exact Or.inl rfl | exact Or.inr (Or.inl rfl) | exact Or.inr (Or.inr rfl)) (hd : (y == ("__debug__" : Str)) = false := by decide) (hcd : (y == ("__classdict__" : Str)) = false := by decide) (hs : ∀ x, foldedSetIterable (.Name y py) X.env x = pure x := by intro _; rfl) :
    PyS c X E M (.For tg (.Name y py) body [] pos) (s_forM j fg s) := PS.weak (ps_for hp hc (pi_list (pe_var hN hv hd hcd)) hg hb hs) fun D0 σ H ⟨H0, W, env, I, p⟩ => by
  obtain ⟨ds, hds, p⟩ := withL_ok p
  obtain ⟨v, W', h1, I', sw, r⟩ := I.freeze hMj hds
  obtain ⟨x, xs, rfl, hx, rx⟩ := r
  refine ⟨_, h1, x, rfl, ⟨xs, .inl (.inl (I'.exW _ _ hx))⟩, for_turns G I' sw (Same.refl W') ?_ p⟩
  have hq : SqL X.K W' x xs := .inl (.inl hx)
  refine ⟨fun i H2 s2 hi => ?_, fun i H2 y H3 s2 hi hy => ?_, fun i H2 s2 hi => ⟨xs, s2.seq hq, by rw [rx.length]; exact hi⟩⟩
  · have hi' : i < xs.length := by
      rw [rx.length]
      exact hi
    exact ⟨xs, xs[i], s2.seq hq, List.getElem?_eq_getElem hi'⟩
  · obtain ⟨e1, e2⟩ := hy
    subst e1
    obtain ⟨d, h1, h2⟩ := rx.getV (e2 xs (s2.seq hq))
    exact ⟨Same.refl _, d, W', h1, ⟨s2, fun a o z => .inl z⟩, h2⟩
/-- x = y, both changing names, y given up -/
theorem py_mvM (i j : Nat) {x y : Str} {py pos' : Pos} (hN : X.N.Nodup) (hij : i ≠ j := by decide) (hM : i ∈ M := by decide) (hMj : j ∈ M := by decide) (hi : X.N[i]? = some x := by rfl) (hj : X.N[j]? = some y := by rfl) (hx : Loc X.env.scope x := by first | exact Or.inl rfl | exact Or.inr rfl) (hv : Vis X.env.scope y := by first | exact Or.inl rfl | exact Or.inr (Or.inl rfl) | exact Or.inr (Or.inr rfl)) (hd : (y == ("__debug__" : Str)) = false := by decide)
    (hcd : (y == ("__classdict__" : Str)) = false := by decide) (hs : swapsWith (.Name y py) (some (.Name x pos')) pos.line X.env = pure false := by rfl)
    (hf : X.fn x = true ∨ X.env.scope.names.lookup x = some .local := by first | exact .inl rfl | exact .inr rfl) : PyS c X E M (.Assign [.Name x pos'] (.Name y py) pos) (s_mv i j) := PS.weak (ps_set hN hi hx (pe_var hj hv hd hcd) hs hf) fun D0 σ H ⟨H0, W, env, I, p⟩ => by
  unfold s_mv at p
  split at p
  · rename_i d hd
    obtain ⟨v, h1, h2⟩ := I.ow j d hMj hd
    refine ⟨v, h1, p W _ H ((I.drop j).setM hM h2 fun q ev l e hl hne z1 z2 => ?_) (Same.refl W)⟩
    obtain ⟨nj, z1'⟩ := get_set_none z1
    rw [ev] at h1
    exact I.dj l j e d q hl hMj (Ne.symm nj) z1' hd z2 h1
  · exact p.elim
/-! ### another set of changing names -/
def forget (is : List Nat) (env : Env) : Env := is.foldl (fun e i => e.set i none) env
theorem forget_get : ∀ (is : List Nat) {env : Env} {j : Nat} {d : D}, (forget is env)[j]? = some (some d) → j ∉ is ∧ env[j]? = some (some d)
  | [], env, j, d, h => ⟨by simp, h⟩
  | i :: is, env, j, d, h => by
    obtain ⟨h1, h2⟩ := forget_get is (env := env.set i none) h
    obtain ⟨h3, h4⟩ := get_set_none h2
    exact ⟨fun z => (List.mem_cons.mp z).elim (fun y => h3 y.symm) h1, h4⟩
theorem forget_len : ∀ (is : List Nat) (env : Env), (forget is env).length = env.length
  | [], env => rfl
  | i :: is, env => by
    show (forget is (env.set i none)).length = _
    rw [forget_len, List.length_set]
theorem SInv.re {M' : List Nat} {H0 W H : Hp} {σ : L2.St} {env : Env} {is : List Nat} (I : SInv K c M H0 W σ env H) (hM : ∀ i, i ∉ is → (i ∈ M ↔ i ∈ M')) : SInv K c M' H0 W σ (forget is env) H :=
  ⟨I.exW, I.ex0, by rw [forget_len]; exact I.len, fun j e hj h => by
    obtain ⟨h1, h2⟩ := forget_get is h
    exact I.sh j e (fun z => hj ((hM j h1).mp z)) h2, fun j e hj h => by
    obtain ⟨h1, h2⟩ := forget_get is h
    exact I.ow j e ((hM j h1).mpr hj) h2, fun j l e e' p hj hl hne z1 z2 z3 z4 => by
    obtain ⟨h1, h2⟩ := forget_get is z1
    obtain ⟨h3, h4⟩ := forget_get is z2
    exact I.dj j l e e' p ((hM j h1).mpr hj) ((hM l h3).mpr hl) hne h2 h4 z3 z4⟩
def s_re (is : List Nat) (s : Env → O) : Env → O := fun env => match s (forget is env) with
  | .nx env' => .nx (forget is env')
  | .rt d => .rt d
  | .exc n => .exc n
  | .bad => .bad
def reOk (M M' is : List Nat) : Bool := (M.all fun i => decide (i ∈ is) || decide (i ∈ M')) && M'.all fun i => decide (i ∈ is) || decide (i ∈ M)
theorem reOk_iff {M M' is : List Nat} (h : reOk M M' is = true) : ∀ i, i ∉ is → (i ∈ M ↔ i ∈ M') := fun i hi => by
  unfold reOk at h
  rw [Bool.and_eq_true, List.all_eq_true, List.all_eq_true] at h
  constructor
  · intro z
    have q := h.1 i z
    rw [Bool.or_eq_true, decide_eq_true_eq, decide_eq_true_eq] at q
    exact q.resolve_left hi
  · intro z
    have q := h.2 i z
    rw [Bool.or_eq_true, decide_eq_true_eq, decide_eq_true_eq] at q
    exact q.resolve_left hi
theorem pss_re (is : List Nat) {M' : List Nat} {sts : List Stmt} (hM : reOk M M' is = true) (h : PySs c X E M' sts s) : PySs c X E M sts (s_re is s) := PSs.weak h fun D0 σ H ⟨H0, W, env, I, p⟩ => by
  refine ⟨H0, W, forget is env, I.re (reOk_iff hM), ?_⟩
  unfold s_re at p
  cases q : s (forget is env) with
  | bad =>
    rw [q] at p
    exact p
  | exc n =>
    rw [q] at p
    exact p
  | rt d =>
    rw [q] at p
    exact p
  | nx env' =>
    rw [q] at p
    exact fun W' σ' H' I' sw => p W' σ' H' (I'.re fun i hi => (reOk_iff hM i hi).symm) sw
/-- what is known of an own error's class -/
structure Xc (K : PySem.W.Frag) (mg : Str → Option Value) (C : Addr) (x : Str) : Prop where
  g : mg x = some (.ref C)
  xI : PySem.W.excIn K C [.type "ValueError", .type "Exception", .type "BaseException", .type "object"] "ValueError.__new__" = true
  k : PySem.W.keepIn K (.ref C) = true
  b : PySem.W.subIn K (.ref C) (.type "BaseException") = some true
  t : PySem.W.typeIn K (.ref C) = some (.type "type")
end
end PyS
set_option maxRecDepth 100000
set_option maxHeartbeats 4000000
namespace PyS
open PySem PySem.Spec PyProof.Rows L2
def s_is_number : Env → O := (s_ret (e_and (e_isi "int" (e_var 0)) (e_not (e_isi "bool" (e_var 0)))))
@[irreducible] def m_is_number : List D → R := body 1 s_is_number

def s_check_row : Env → O := (s_seq (s_if (e_or (e_not (e_isi "list" (e_var 0))) (e_or (e_op g_gt (e_call g_len (a_cons (e_var 0) a_nil)) (e_ivar 1)) (e_not (e_call g_all (a_cons (e_lc (i_list (e_var 0)) (g_name 3) (e_c (.bl true)) (e_own 1 m_is_number (a_cons (e_var 3) a_nil)) [3]) a_nil))))) (s_raise 2)
  s_pass)
  (s_seq (s_if (e_not (e_call g_all (a_cons (e_lc (i_enum (a_cons (e_var 0) a_nil)) (g_tup [2, 3]) (e_c (.bl true)) (e_chain g_le g_le (e_c (.int 0)) (e_var 3) (e_ivar 2)) [2, 3]) a_nil))) (s_raise 2)
  s_pass)
  (s_if (e_not (e_call g_all (a_cons (e_lc (i_zip (a_cons (e_var 0) (a_cons (e_slice (e_var 0) (e_part (e_c (.int 1))) (e_c .non)) a_nil))) (g_tup [3, 4]) (e_c (.bl true)) (e_op g_le (e_var 3) (e_var 4)) [3, 4]) a_nil))) (s_raise 2)
  s_pass)))
@[irreducible] def m_check_row : List D → R := body 5 s_check_row

def s_ways_on : Env → O := (s_seq (s_setM 1 (e_lst (a_cons (e_op g_rep (e_lst (a_cons (e_c (.int 1)) a_nil)) (e_op g_add (e_ivar 0) (e_c (.int 1)))) a_nil)))
  (s_seq (s_for [1, 4] (i_rng2 (a_cons (e_c (.int 1)) (a_cons (e_op g_add (e_ivar 0) (e_c (.int 1))) a_nil))) (g_name 2)
  (s_seq (s_set 3 (e_op g_sub (e_ivar 0) (e_ivar 2)))
  (s_seq (s_setM 4 (e_op g_rep (e_lst (a_cons (e_c (.int 0)) a_nil)) (e_op g_add (e_ivar 0) (e_c (.int 1)))))
  (s_seq (s_for [1, 4] (i_revr (n_rng1 (e_op g_add (e_ivar 3) (e_c (.int 1))))) (g_name 5)
  (s_put 4 (e_ivar 5) (e_op g_add (e_op g_ixs (e_var 4) (e_op g_add (e_ivar 5) (e_c (.int 1)))) (e_op g_ixs (e_op g_ix (e_var 1) (e_un g_neg (e_c (.int 1)))) (e_ivar 5)))))
  (s_appM 1 4)))))
  (s_retM 1)))
@[irreducible] def m_ways_on : List D → R := body 6 s_ways_on

def s_check_many : Env → O := (s_if (e_or (e_not (e_own 1 m_is_number (a_cons (e_var 0) a_nil))) (e_not (e_chain g_le g_le (e_c (.int 0)) (e_var 0) (e_c (.int 100))))) (s_raise 3)
  s_pass)
@[irreducible] def m_check_many : List D → R := body 1 s_check_many

def s_how_many : Env → O := (s_seq (s_expr (e_own 1 m_check_many (a_cons (e_var 0) a_nil)))
  (s_ret (e_op g_ixs (e_op g_ix (e_own 1 m_ways_on (a_cons (e_var 0) a_nil)) (e_var 0)) (e_c (.int 0)))))
@[irreducible] def m_how_many : List D → R := body 1 s_how_many

def s_row_by : Env → O := (s_seq (s_expr (e_own 1 m_check_many (a_cons (e_var 0) a_nil)))
  (s_seq (s_set 2 (e_own 1 m_ways_on (a_cons (e_var 0) a_nil)))
  (s_seq (s_if (e_or (e_not (e_own 1 m_is_number (a_cons (e_var 1) a_nil))) (e_not (e_chain g_le g_lt (e_c (.int 0)) (e_var 1) (e_op g_ixs (e_op g_ix (e_var 2) (e_var 0)) (e_c (.int 0)))))) (s_raise 4)
  s_pass)
  (s_seq (s_setM 3 (e_lst a_nil))
  (s_seq (s_set 4 (e_c (.int 0)))
  (s_seq (s_for [3] (i_revr (n_rng1 (e_var 0))) (g_name 5)
  (s_seq (s_while (fun _ => 1000) (e_op g_ge (e_var 1) (e_op g_ixs (e_op g_ix (e_var 2) (e_ivar 5)) (e_ivar 4)))
  (s_seq (s_aug 1 (fun a b => a - b) (e_op g_ixs (e_op g_ix (e_var 2) (e_ivar 5)) (e_ivar 4)))
  (s_aug 4 (fun a b => a + b) (e_c (.int 1)))))
  (s_app 3 (e_ivar 4))))
  (s_retM 3)))))))
@[irreducible] def m_row_by : List D → R := body 6 s_row_by

def s_number_of : Env → O := (s_seq (s_expr (e_own 2 m_check_row (a_cons (e_var 0) (a_cons (e_c (.int 100)) a_nil))))
  (s_seq (s_set 1 (e_own 1 m_ways_on (a_cons (e_call g_len (a_cons (e_var 0) a_nil)) a_nil)))
  (s_seq (s_set 2 (e_c (.int 0)))
  (s_seq (s_set 3 (e_c (.int 0)))
  (s_seq (s_for [] (i_enum (a_cons (e_var 0) a_nil)) (g_tup [4, 5])
  (s_seq (s_aug 2 (fun a b => a + b) (e_call g_sum (a_cons (e_lc (i_rng2 (a_cons (e_ivar 3) (a_cons (e_ivar 5) a_nil))) (g_name 6) (e_c (.bl true)) (e_op g_ixs (e_op g_ix (e_var 1) (e_op g_sub (e_op g_sub (e_call g_len (a_cons (e_var 0) a_nil)) (e_ivar 4)) (e_c (.int 1)))) (e_ivar 6)) [6]) a_nil)))
  (s_set 3 (e_ivar 5))))
  (s_ret (e_ivar 2)))))))
@[irreducible] def m_number_of : List D → R := body 7 s_number_of

def s_law_cell_at : Env → O := (s_seq (s_if (e_op g_lt (e_ivar 1) (e_call g_len (a_cons (e_var 0) a_nil))) (s_ret (e_op g_ixs (e_var 0) (e_ivar 1)))
  s_pass)
  (s_ret (e_c (.int 0))))
@[irreducible] def m_law_cell_at : List D → R := body 2 s_law_cell_at

def s_law_draw : Env → O := (s_seq (s_set 3 (e_tup (a_cons (e_c (.int 1000003)) (a_cons (e_c (.int 1000033)) (a_cons (e_c (.int 1000037)) (a_cons (e_c (.int 1000039)) (a_cons (e_c (.int 1000081)) (a_cons (e_c (.int 1000099)) (a_cons (e_c (.int 1000117)) (a_cons (e_c (.int 1000121)) (a_cons (e_c (.int 1000133)) (a_cons (e_c (.int 1000151)) (a_cons (e_c (.int 1000159)) (a_cons (e_c (.int 1000171)) (a_cons (e_c (.int 1000183)) (a_cons (e_c (.int 1000187)) (a_cons (e_c (.int 1000193)) (a_cons (e_c (.int 1000199)) a_nil))))))))))))))))))
  (s_ret (e_op g_mod (e_op g_mod (e_op g_add (e_op g_mul (e_ivar 0) (e_c (.int 48271))) (e_op g_mul (e_ivar 1) (e_c (.int 69621)))) (e_op g_ixs (e_var 3) (e_op g_mod (e_ivar 1) (e_c (.int 16))))) (e_ivar 2))))
@[irreducible] def m_law_draw : List D → R := body 4 s_law_draw

def s_law_number : Env → O := (s_seq (s_if (e_op g_ge (e_ivar 0) (e_op g_pow (e_c (.int 10)) (e_c (.int 18)))) (s_ret (e_op g_mod (e_op g_div (e_op g_sub (e_ivar 0) (e_op g_pow (e_c (.int 10)) (e_c (.int 18)))) (e_op g_ixs (e_tup (a_cons (e_c (.int 1)) (a_cons (e_c (.int 7)) (a_cons (e_c (.int 49)) (a_cons (e_c (.int 343)) (a_cons (e_c (.int 2401)) a_nil)))))) (e_op g_mod (e_ivar 1) (e_c (.int 5))))) (e_ivar 2)))
  s_pass)
  (s_ret (e_op g_mod (e_own 3 m_law_draw (a_cons (e_op g_mul (e_op g_add (e_ivar 0) (e_op g_mul (e_c (.int 977)) (e_ivar 1))) (e_op g_add (e_op g_add (e_ivar 0) (e_op g_mul (e_c (.int 31)) (e_ivar 1))) (e_c (.int 5)))) (a_cons (e_op g_add (e_op g_mod (e_ivar 1) (e_c (.int 9))) (e_c (.int 1))) (a_cons (e_c (.int 999983)) a_nil)))) (e_ivar 2))))
@[irreducible] def m_law_number : List D → R := body 3 s_law_number

def s_law_row : Env → O := (s_seq (s_set 3 (e_own 3 m_law_draw (a_cons (e_op g_add (e_own 2 m_law_cell_at (a_cons (e_var 0) (a_cons (e_c (.int 1)) a_nil))) (e_ivar 2)) (a_cons (e_c (.int 5)) (a_cons (e_c (.int 4)) a_nil)))))
  (s_seq (s_par [4] 4 5 (e_lst a_nil) (e_c (.int 0)))
  (s_seq (s_for [4] (i_rng1 (a_cons (e_call g_min (a_cons (e_ivar 1) (a_cons (e_call g_len (a_cons (e_var 0) a_nil)) a_nil))) a_nil)) (g_name 6)
  (s_seq (s_set 7 (e_own 3 m_law_number (a_cons (e_op g_ixs (e_var 0) (e_ivar 6)) (a_cons (e_op g_add (e_ivar 6) (e_ivar 2)) (a_cons (e_op g_add (e_op g_sub (e_ivar 6) (e_ivar 5)) (e_c (.int 1))) a_nil)))))
  (s_seq (s_set 8 (e_call g_max (a_cons (e_c (.int 0)) (a_cons (e_op g_sub (e_op g_sub (e_ivar 6) (e_ivar 5)) (e_op g_div (e_ivar 7) (e_c (.int 4)))) a_nil))))
  (s_seq (s_set 5 (e_op g_add (e_ivar 5) (e_op g_ixs (e_tup (a_cons (e_ivar 7) (a_cons (e_op g_div (e_ivar 7) (e_c (.int 3))) (a_cons (e_ivar 8) (a_cons (e_op g_mul (e_ivar 7) (e_op g_mod (e_ivar 6) (e_c (.int 2)))) a_nil))))) (e_ivar 3))))
  (s_app 4 (e_ivar 5))))))
  (s_retM 4))))
@[irreducible] def m_law_row : List D → R := body 9 s_law_row

def s_law_whole : Env → O := (s_ret (e_and (e_isi "int" (e_var 0)) (e_not (e_isi "bool" (e_var 0)))))
@[irreducible] def m_law_whole : List D → R := body 1 s_law_whole

def s_law_many : Env → O := (s_seq (s_setM 1 (e_lst (a_cons (e_c (.int 1)) a_nil)))
  (s_seq (s_for [1] (i_rng1 (a_cons (e_ivar 0) a_nil)) (g_name 2)
  (s_app 1 (e_call g_sum (a_cons (e_lc (i_rng1 (a_cons (e_op g_add (e_ivar 2) (e_c (.int 1))) a_nil)) (g_name 3) (e_c (.bl true)) (e_op g_mul (e_op g_ixs (e_var 1) (e_ivar 3)) (e_op g_ixs (e_var 1) (e_op g_sub (e_ivar 2) (e_ivar 3)))) [3]) a_nil))))
  (s_ret (e_op g_ixs (e_var 1) (e_ivar 0)))))
@[irreducible] def m_law_many : List D → R := body 4 s_law_many

def s_law_is_row : Env → O := (s_seq (s_if (e_or (e_not (e_isi "list" (e_var 0))) (e_or (e_op (g_eq true) (e_call g_len (a_cons (e_var 0) a_nil)) (e_ivar 1)) (e_not (e_call g_all (a_cons (e_lc (i_list (e_var 0)) (g_name 3) (e_c (.bl true)) (e_own 1 m_law_whole (a_cons (e_ivar 3) a_nil)) [3]) a_nil))))) (s_ret (e_c (.bl false)))
  s_pass)
  (s_ret (e_and (e_call g_all (a_cons (e_lc (i_enum (a_cons (e_var 0) a_nil)) (g_tup [2, 3]) (e_c (.bl true)) (e_chain g_le g_le (e_c (.int 0)) (e_ivar 3) (e_ivar 2)) [2, 3]) a_nil)) (e_op (g_eq false) (e_var 0) (e_call g_sorted (a_cons (e_var 0) a_nil))))))
@[irreducible] def m_law_is_row : List D → R := body 4 s_law_is_row

def s_law_number_right : Env → O := (s_seq (s_setM 2 (e_own 2 m_row_by (a_cons (e_ivar 0) (a_cons (e_ivar 1) a_nil))))
  (s_seq (s_if (e_not (e_own 2 m_law_is_row (a_cons (e_var 2) (a_cons (e_ivar 0) a_nil)))) (s_ret (e_c (.bl false)))
  s_pass)
  (s_seq (s_set 3 (e_call g_listS (a_cons (e_var 2) a_nil)))
  (s_seq (s_set 4 (e_own 1 m_number_of (a_cons (e_var 3) a_nil)))
  (s_seq (s_app 2 (e_c (.int 0)))
  (s_ret (e_and (e_own 1 m_law_whole (a_cons (e_ivar 4) a_nil)) (e_and (e_op (g_eq false) (e_ivar 4) (e_ivar 1)) (e_and (e_op (g_eq false) (e_var 3) (e_sliceS (e_var 2) (e_c .non) (e_part (e_un g_neg (e_c (.int 1)))))) (e_op (g_eq false) (e_own 2 m_row_by (a_cons (e_ivar 0) (a_cons (e_ivar 1) a_nil))) (e_var 3)))))))))))
@[irreducible] def m_law_number_right : List D → R := body 5 s_law_number_right

def s_law_all : Env → O := (s_seq (s_setM 1 (e_lst (a_cons (e_lst a_nil) a_nil)))
  (s_seq (s_for [1, 3] (i_rng1 (a_cons (e_ivar 0) a_nil)) (g_name 2)
  (s_seq (s_setM 3 (e_lst a_nil))
  (s_seq (s_forM 1 (g_name 4)
  (s_ext 3 (e_lc (i_rng2 (a_cons (e_if (e_op (g_eq true) (e_var 4) (e_lst a_nil)) (e_op g_ixs (e_var 4) (e_un g_neg (e_c (.int 1)))) (e_c (.int 0))) (a_cons (e_op g_add (e_ivar 2) (e_c (.int 1))) a_nil))) (g_name 5) (e_c (.bl true)) (e_op g_catS (e_var 4) (e_lst (a_cons (e_ivar 5) a_nil))) [5])))
  (s_mv 1 3))))
  (s_retM 1)))
@[irreducible] def m_law_all : List D → R := body 6 s_law_all

def s_law : Env → O := (s_seq (s_set 1 (e_call g_min (a_cons (e_c (.int 30)) (a_cons (e_call g_len (a_cons (e_var 0) a_nil)) a_nil))))
  (s_seq (s_if (e_op (g_eq false) (e_own 3 m_law_draw (a_cons (e_own 2 m_law_cell_at (a_cons (e_var 0) (a_cons (e_c (.int 2)) a_nil))) (a_cons (e_c (.int 7)) (a_cons (e_c (.int 32)) a_nil)))) (e_c (.int 5))) (s_set 1 (e_c (.int 100)))
  s_pass)
  (s_seq (s_set 2 (e_own 1 m_how_many (a_cons (e_ivar 1) a_nil)))
  (s_seq (s_if (e_or (e_not (e_own 1 m_law_whole (a_cons (e_ivar 2) a_nil))) (e_op (g_eq true) (e_ivar 2) (e_own 1 m_law_many (a_cons (e_ivar 1) a_nil)))) (s_ret (e_c (.bl false)))
  s_pass)
  (s_seq (s_set 3 (e_c (.int 1)))
  (s_seq (s_for [] (i_list (e_op g_cat (e_sliceS (e_var 0) (e_c .non) (e_part (e_c (.int 5)))) (e_lst (a_cons (e_c (.int 7)) a_nil)))) (g_name 4)
  (s_set 3 (e_op g_mod (e_op g_add (e_op g_mul (e_ivar 3) (e_op g_add (e_op g_mod (e_call g_abs (a_cons (e_ivar 4) a_nil)) (e_op g_pow (e_c (.int 10)) (e_c (.int 60)))) (e_c (.int 5)))) (e_c (.int 3))) (e_op g_pow (e_c (.int 10)) (e_c (.int 64))))))
  (s_seq (s_for [] (i_tup (e_tup (a_cons (e_op g_sub (e_ivar 2) (e_c (.int 1))) (a_cons (e_op g_mod (e_op g_pow (e_ivar 3) (e_c (.int 5))) (e_ivar 2)) (a_cons (e_op g_mod (e_op g_div (e_ivar 3) (e_c (.int 7))) (e_ivar 2)) a_nil))))) (g_name 5)
  (s_if (e_not (e_own 2 m_law_number_right (a_cons (e_ivar 1) (a_cons (e_ivar 5) a_nil)))) (s_ret (e_c (.bl false)))
  s_pass))
  (s_seq (s_set 5 (e_op g_mod (e_op g_pow (e_ivar 3) (e_c (.int 3))) (e_ivar 2)))
  (s_seq (s_if (e_and (e_op g_lt (e_op g_add (e_ivar 5) (e_c (.int 1))) (e_ivar 2)) (e_not (e_op g_ltL (e_own 2 m_row_by (a_cons (e_ivar 1) (a_cons (e_ivar 5) a_nil))) (e_own 2 m_row_by (a_cons (e_ivar 1) (a_cons (e_op g_add (e_ivar 5) (e_c (.int 1))) a_nil)))))) (s_ret (e_c (.bl false)))
  s_pass)
  (s_seq (s_for [] (i_tup (e_tup (a_cons (e_c (.int 0)) (a_cons (e_c (.int 1)) a_nil)))) (g_name 6)
  (s_seq (s_set 7 (e_own 3 m_law_row (a_cons (e_var 0) (a_cons (e_c (.int 40)) (a_cons (e_ivar 6) a_nil)))))
  (s_if (e_op (g_eq true) (e_own 2 m_row_by (a_cons (e_call g_len (a_cons (e_var 7) a_nil)) (a_cons (e_own 1 m_number_of (a_cons (e_var 7) a_nil)) a_nil))) (e_var 7)) (s_ret (e_c (.bl false)))
  s_pass)))
  (s_seq (s_set 8 (e_op g_mod (e_ivar 1) (e_c (.int 6))))
  (s_seq (s_if (e_op (g_eq true) (e_lc (i_rng1 (a_cons (e_own 1 m_how_many (a_cons (e_ivar 8) a_nil)) a_nil)) (g_name 5) (e_c (.bl true)) (e_own 2 m_row_by (a_cons (e_ivar 8) (a_cons (e_ivar 5) a_nil))) [5]) (e_own 1 m_law_all (a_cons (e_ivar 8) a_nil))) (s_ret (e_c (.bl false)))
  s_pass)
  (s_seq (s_if (e_op (g_eq true) (e_lc (i_rng1 (a_cons (e_c (.int 5)) a_nil)) (g_name 11) (e_c (.bl true)) (e_own 1 m_how_many (a_cons (e_ivar 11) a_nil)) [11]) (e_lst (a_cons (e_c (.int 1)) (a_cons (e_c (.int 1)) (a_cons (e_c (.int 2)) (a_cons (e_c (.int 5)) (a_cons (e_c (.int 14)) a_nil))))))) (s_ret (e_c (.bl false)))
  s_pass)
  (s_seq (s_if (e_op (g_eq true) (e_lst (a_cons (e_own 1 m_how_many (a_cons (e_c (.int 19)) a_nil)) (a_cons (e_own 1 m_how_many (a_cons (e_c (.int 20)) a_nil)) a_nil))) (e_lst (a_cons (e_c (.int 1767263190)) (a_cons (e_c (.int 6564120420)) a_nil)))) (s_ret (e_c (.bl false)))
  s_pass)
  (s_seq (s_set 9 (e_lst (a_cons (e_tup (a_cons (e_op g_cat (e_lst (a_cons (e_c (.int 0)) (a_cons (e_c (.int 1)) a_nil))) (e_op g_rep (e_lst (a_cons (e_c (.int 1)) a_nil)) (e_c (.int 18)))) (a_cons (e_c (.int 4796857230)) a_nil))) (a_cons (e_tup (a_cons (e_op g_cat (e_lst (a_cons (e_c (.int 0)) (a_cons (e_c (.int 0)) a_nil))) (e_listRg (n_rng2 (e_c (.int 2)) (e_c (.int 20))))) (a_cons (e_c (.int 4796857229)) a_nil))) a_nil))))
  (s_seq (s_for [] (i_list (e_op g_cat (e_var 9) (e_lst (a_cons (e_tup (a_cons (e_op g_cat (e_op g_rep (e_lst (a_cons (e_c (.int 0)) a_nil)) (e_c (.int 99))) (e_lst (a_cons (e_c (.int 99)) a_nil))) (a_cons (e_c (.int 99)) a_nil))) (a_cons (e_tup (a_cons (e_listRg (n_rng1 (e_c (.int 100)))) (a_cons (e_op g_sub (e_own 1 m_how_many (a_cons (e_c (.int 100)) a_nil)) (e_c (.int 1))) a_nil))) a_nil))))) (g_tup [7, 5])
  (s_if (e_or (e_op (g_eq true) (e_own 1 m_number_of (a_cons (e_var 7) a_nil)) (e_ivar 5)) (e_op (g_eq true) (e_own 2 m_row_by (a_cons (e_call g_len (a_cons (e_var 7) a_nil)) (a_cons (e_ivar 5) a_nil))) (e_var 7))) (s_ret (e_c (.bl false)))
  s_pass))
  (s_re [7] (s_seq (s_setM 7 (e_lst (a_cons (e_c (.int 0)) (a_cons (e_c (.int 0)) (a_cons (e_c (.int 1)) a_nil)))))
  (s_seq (s_set 10 (e_lst (a_cons (e_own 1 m_number_of (a_cons (e_var 7) a_nil)) (a_cons (e_own 2 m_row_by (a_cons (e_c (.int 3)) (a_cons (e_c (.int 1)) a_nil))) (a_cons (e_own 2 m_row_by (a_cons (e_c (.int 4)) (a_cons (e_c (.int 1)) a_nil))) a_nil)))))
  (s_seq (s_put 7 (e_c (.int 1)) (e_c (.int 1)))
  (s_seq (s_if (e_or (e_op (g_eq true) (e_var 10) (e_lst (a_cons (e_c (.int 1)) (a_cons (e_lst (a_cons (e_c (.int 0)) (a_cons (e_c (.int 0)) (a_cons (e_c (.int 1)) a_nil)))) (a_cons (e_lst (a_cons (e_c (.int 0)) (a_cons (e_c (.int 0)) (a_cons (e_c (.int 0)) (a_cons (e_c (.int 1)) a_nil))))) a_nil))))) (e_op (g_eq true) (e_own 1 m_number_of (a_cons (e_var 7) a_nil)) (e_c (.int 3)))) (s_ret (e_c (.bl false)))
  s_pass)
  (s_ret (e_and (e_op (g_eq false) (e_own 1 m_number_of (a_cons (e_lst (a_cons (e_c (.int 0)) (a_cons (e_c (.int 1)) (a_cons (e_c (.int 1)) a_nil)))) a_nil)) (e_c (.int 3))) (e_op (g_eq false) (e_own 2 m_row_by (a_cons (e_c (.int 0)) (a_cons (e_c (.int 0)) a_nil))) (e_lst a_nil)))))))))))))))))))))))))
@[irreducible] def m_law : List D → R := body 12 s_law
end PyS
set_option maxRecDepth 100000
set_option maxHeartbeats 4000000
namespace PyS
open PySem PySem.Spec PyProof.Rows L2
def topS (i : Nat) : Stmt := PySem.Challenge.pw_evenstretch_k04_whole_numbers.main.body.getD i (.Pass ⟨0, 0, 0, 0⟩)
structure Bt (K : PySem.W.Frag) (mg : Str → Option Value) (c : Ct) : Prop where
  range : mg "range" = none
  reversed : mg "reversed" = none
  enumerate : mg "enumerate" = none
  list : mg "list" = none
  min : mg "min" = none
  isinstance : mg "isinstance" = none
  int : mg "int" = none
  all : mg "all" = none
  len : mg "len" = none
  sum : mg "sum" = none
  max : mg "max" = none
  bool : mg "bool" = none
  sorted : mg "sorted" = none
  zip : mg "zip" = none
  abs : mg "abs" = none
  c_FARTHEST : ∃ t, mg "FARTHEST" = some (.int 100 t)
  x_BadRow : Xc K mg (c.X 2) "BadRow"
  x_BadMany : Xc K mg (c.X 3) "BadMany"
  x_BadNumber : Xc K mg (c.X 4) "BadNumber"
section
variable {P : Program} {w : World} {K : PySem.W.Frag} {mg : Str → Option Value} {base : Heap} {c : Ct}
abbrev st_is_number : Stmt := topS 6
theorem sc_is_number : FnScope ["thing"] ["thing"] (defScope st_is_number) := ⟨rfl, rfl, rfl, by decide +kernel, rfl, by decide +kernel, by decide +kernel⟩
theorem ok_is_number {f : Addr} {fd : FuncData} (F : Fun K "is_number" "is_number" st_is_number f fd) (T : Bt K mg c)  : FnOk P w K mg base (L2.CX P w) 1 f fd ["thing"] (spM K c 1 m_is_number) := by
  unfold m_is_number
  exact def_ok ["thing"] ["thing"] 1 1 0 [] s_is_number F sc_is_number rfl rfl (by decide) (by decide) fun cdv A outer s₀ H E hr =>
    (pss_pone (py_ret (py_and (py_isi kit_int (by rfl) T.isinstance (py_var 0) (by rfl) T.int (by decide +kernel)) (py_one (py_not (py_isi kit_bool (by rfl) T.isinstance (py_var 0) (by rfl) T.bool (by decide +kernel)))))))

abbrev st_check_row : Stmt := topS 9
theorem sc_check_row : FnScope ["row", "most", "at", "one", "other"] ["row", "most"] (defScope st_check_row) := ⟨rfl, rfl, rfl, by decide +kernel, rfl, by decide +kernel, by decide +kernel⟩
theorem ok_check_row {f : Addr} {fd : FuncData} (F : Fun K "check_row" "check_row" st_check_row f fd) (T : Bt K mg c) (C_is_number : Cal P w K mg base c 1 "is_number" ["thing"] 1 m_is_number) : FnOk P w K mg base (L2.CX P w) 2 f fd ["row", "most"] (spM K c 2 m_check_row) := by
  unfold m_check_row
  exact def_ok ["row", "most", "at", "one", "other"] ["row", "most"] 5 2 1 [] s_check_row F sc_check_row rfl rfl (by decide) (by decide) fun cdv A outer s₀ H E hr =>
    (pss_pcons (py_ifS (PW.pt (pw_por (pt_pnot (py_test (py_isi kit_list (by rfl) T.isinstance (py_var 0) (by rfl) T.list (by decide +kernel)))) (pw_por (pt_gt (py_len (by rfl) T.len (pya_cons (py_var 0) pya_nil)) (py_ivar 1)) (pw_one_or (pt_pnot (py_test (py_all rfl (by rfl) T.all (pya_cons (py_lc (own := [("one", 3)]) rfl sc_check_row.nd (blkOk_by (by kernel_rfl)) (pyi_list (py_var 0)) (fun _ _ _ _ _ => (pyg_name 3 sc_check_row.nd)) (fun _ _ _ _ _ => pts_yes) (fun _ _ _ _ _ => (py_own C_is_number hr (by decide) (by rfl) passL (pya_cons (py_var 3) pya_nil)))) pya_nil)))))))) (pss_pone (py_raise (n := 2) rfl (takes_of rfl rfl rfl rfl) PySem.F.excBase_ValueError T.x_BadRow.xI T.x_BadRow.g T.x_BadRow.k (raises_own T.x_BadRow.b T.x_BadRow.t) (by rfl)))
  pss_pnil)
  (pss_pcons (py_ifS (pt_pnot (py_test (py_all rfl (by rfl) T.all (pya_cons (py_lc (own := [("at", 2), ("one", 3)]) rfl sc_check_row.nd (blkOk_by (by kernel_rfl)) (pyi_enum (by rfl) T.enumerate (pya_cons (py_var 0) pya_nil)) (fun _ _ _ _ _ => (pyg_tup rfl (pygs_cons 2 (pygs_cons 3 pygs_nil sc_check_row.nd) sc_check_row.nd))) (fun _ _ _ _ _ => pts_yes) (fun _ _ _ _ _ => (py_chain op_le op_le (opg_int0 fun _ _ => rfl) (opg_int0 fun _ _ => rfl) py_int (py_var 3) (py_ivar 2)))) pya_nil)))) (pss_pone (py_raise (n := 2) rfl (takes_of rfl rfl rfl rfl) PySem.F.excBase_ValueError T.x_BadRow.xI T.x_BadRow.g T.x_BadRow.k (raises_own T.x_BadRow.b T.x_BadRow.t) (by rfl)))
  pss_pnil)
  (pss_pone (py_ifS (pt_pnot (py_test (py_all rfl (by rfl) T.all (pya_cons (py_lc (own := [("one", 3), ("other", 4)]) rfl sc_check_row.nd (blkOk_by (by kernel_rfl)) (pyi_zip (by rfl) T.zip (pya_cons (py_var 0) (pya_cons (py_slice (py_var 0) (pyo_some (E := E) py_int) pyo_none) pya_nil))) (fun _ _ _ _ _ => (pyg_tup rfl (pygs_cons 3 (pygs_cons 4 pygs_nil sc_check_row.nd) sc_check_row.nd))) (fun _ _ _ _ _ => pts_yes) (fun _ _ _ _ _ => (py_le (py_var 3) (py_var 4)))) pya_nil)))) (pss_pone (py_raise (n := 2) rfl (takes_of rfl rfl rfl rfl) PySem.F.excBase_ValueError T.x_BadRow.xI T.x_BadRow.g T.x_BadRow.k (raises_own T.x_BadRow.b T.x_BadRow.t) (by rfl)))
  pss_pnil))))

abbrev st_ways_on : Stmt := topS 10
theorem sc_ways_on : FnScope ["many", "found", "left", "last", "line", "least"] ["many"] (defScope st_ways_on) := ⟨rfl, rfl, rfl, by decide +kernel, rfl, by decide +kernel, by decide +kernel⟩
theorem ok_ways_on {f : Addr} {fd : FuncData} (F : Fun K "ways_on" "ways_on" st_ways_on f fd) (T : Bt K mg c)  : FnOk P w K mg base (L2.CX P w) 1 f fd ["many"] (spM K c 1 m_ways_on) := by
  unfold m_ways_on
  exact def_ok ["many", "found", "left", "last", "line", "least"] ["many"] 6 1 0 [1, 4] s_ways_on F sc_ways_on rfl rfl (by decide) (by decide) fun cdv A outer s₀ H E hr =>
    (pss_pcons (py_setM 1 (py_lst (pya_cons (py_rep (py_lst (pya_cons py_int pya_nil)) (py_add (py_ivar 0) py_int)) pya_nil)) sc_ways_on.nd)
  (pss_pcons (py_for (passes_of rfl) rfl (gok_name (by decide)) (pyi_rng2 (by rfl) T.range (pya_cons py_int (pya_cons (py_add (py_ivar 0) py_int) pya_nil))) (pyg_name 2 sc_ways_on.nd)
  (pss_pcons (py_set 3 (py_sub (py_ivar 0) (py_ivar 2)) sc_ways_on.nd)
  (pss_pcons (py_setM 4 (py_rep (py_lst (pya_cons py_int pya_nil)) (py_add (py_ivar 0) py_int)) sc_ways_on.nd)
  (pss_pcons (py_for (passes_of rfl) rfl (gok_name (by decide)) (pyi_revr (by rfl) T.reversed (pyr_1 (by rfl) T.range (py_add (py_ivar 3) py_int))) (pyg_name 5 sc_ways_on.nd)
  (pss_pone (py_put 4 (by decide) (py_add (py_ixs (py_var 4) (py_add (py_ivar 5) py_int)) (py_ixs (py_ix (py_var 1) (py_neg py_int)) (py_ivar 5))) (pg_sub (pv 4) (py_ivar 5) set_list))))
  (pss_pone (py_appM 1 4 (by decide) (by decide) (by decide) (pe_bm PySem.F.plainAttrs_list PySem.F.slot_list_append PySem.F.type_list_append mt_append (pv 1) (pa_cons (pv 4) pa_nil))))))))
  (pss_pone (py_retM 1))))

abbrev st_check_many : Stmt := topS 11
theorem sc_check_many : FnScope ["many"] ["many"] (defScope st_check_many) := ⟨rfl, rfl, rfl, by decide +kernel, rfl, by decide +kernel, by decide +kernel⟩
theorem ok_check_many {f : Addr} {fd : FuncData} (F : Fun K "check_many" "check_many" st_check_many f fd) (T : Bt K mg c) (C_is_number : Cal P w K mg base c 1 "is_number" ["thing"] 1 m_is_number) : FnOk P w K mg base (L2.CX P w) 2 f fd ["many"] (spM K c 1 m_check_many) := by
  unfold m_check_many
  exact def_ok ["many"] ["many"] 1 1 1 [] s_check_many F sc_check_many rfl rfl (by decide) (by decide) fun cdv A outer s₀ H E hr =>
    (pss_pone (py_ifS (PW.pt (pw_por (pt_pnot (py_test (py_own C_is_number hr (by decide) (by rfl) passO (pya_cons (py_var 0) pya_nil)))) (pw_one_or (pt_pnot (pt_pchain op_le op_le (opg_int0 fun _ _ => rfl) (opg_int0 fun _ _ => rfl) py_int (py_var 0) (py_gintE (i := 100) (by rfl) T.c_FARTHEST)))))) (pss_pone (py_raise (n := 3) rfl (takes_of rfl rfl rfl rfl) PySem.F.excBase_ValueError T.x_BadMany.xI T.x_BadMany.g T.x_BadMany.k (raises_own T.x_BadMany.b T.x_BadMany.t) (by rfl)))
  pss_pnil))

abbrev st_how_many : Stmt := topS 12
theorem sc_how_many : FnScope ["many"] ["many"] (defScope st_how_many) := ⟨rfl, rfl, rfl, by decide +kernel, rfl, by decide +kernel, by decide +kernel⟩
theorem ok_how_many {f : Addr} {fd : FuncData} (F : Fun K "how_many" "how_many" st_how_many f fd) (T : Bt K mg c) (C_check_many : Cal P w K mg base c 2 "check_many" ["many"] 1 m_check_many) (C_ways_on : Cal P w K mg base c 1 "ways_on" ["many"] 1 m_ways_on) : FnOk P w K mg base (L2.CX P w) 3 f fd ["many"] (spM K c 1 m_how_many) := by
  unfold m_how_many
  exact def_ok ["many"] ["many"] 1 1 2 [] s_how_many F sc_how_many rfl rfl (by decide) (by decide) fun cdv A outer s₀ H E hr =>
    (pss_pcons (py_expr (py_own C_check_many hr (by decide) (by rfl) passO (pya_cons (py_var 0) pya_nil)))
  (pss_pone (py_ret (py_ixs (py_ix (py_own C_ways_on hr (by decide) (by rfl) passO (pya_cons (py_var 0) pya_nil)) (py_var 0)) py_int))))

abbrev st_row_by : Stmt := topS 13
theorem sc_row_by : FnScope ["many", "number", "ways", "row", "least", "left"] ["many", "number"] (defScope st_row_by) := ⟨rfl, rfl, rfl, by decide +kernel, rfl, by decide +kernel, by decide +kernel⟩
theorem ok_row_by {f : Addr} {fd : FuncData} (F : Fun K "row_by" "row_by" st_row_by f fd) (T : Bt K mg c) (C_check_many : Cal P w K mg base c 2 "check_many" ["many"] 1 m_check_many) (C_ways_on : Cal P w K mg base c 1 "ways_on" ["many"] 1 m_ways_on) (C_is_number : Cal P w K mg base c 1 "is_number" ["thing"] 1 m_is_number) : FnOk P w K mg base (L2.CX P w) 3 f fd ["many", "number"] (spM K c 2 m_row_by) := by
  unfold m_row_by
  exact def_ok ["many", "number", "ways", "row", "least", "left"] ["many", "number"] 6 2 2 [3] s_row_by F sc_row_by rfl rfl (by decide) (by decide) fun cdv A outer s₀ H E hr =>
    (pss_pcons (py_expr (py_own C_check_many hr (by decide) (by rfl) passO (pya_cons (py_var 0) pya_nil)))
  (pss_pcons (py_set 2 (py_own C_ways_on hr (by decide) (by rfl) passO (pya_cons (py_var 0) pya_nil)) sc_row_by.nd)
  (pss_pcons (py_ifS (PW.pt (pw_por (pt_pnot (py_test (py_own C_is_number hr (by decide) (by rfl) passO (pya_cons (py_var 1) pya_nil)))) (pw_one_or (pt_pnot (pt_pchain op_le op_lt (opg_int0 fun _ _ => rfl) (opg_int0 fun _ _ => rfl) py_int (py_var 1) (py_ixs (py_ix (py_var 2) (py_var 0)) py_int)))))) (pss_pone (py_raise (n := 4) rfl (takes_of rfl rfl rfl rfl) PySem.F.excBase_ValueError T.x_BadNumber.xI T.x_BadNumber.g T.x_BadNumber.k (raises_own T.x_BadNumber.b T.x_BadNumber.t) (by rfl)))
  pss_pnil)
  (pss_pcons (py_setM 3 (py_lst pya_nil) sc_row_by.nd)
  (pss_pcons (py_set 4 py_int sc_row_by.nd)
  (pss_pcons (py_for (passes_of rfl) rfl (gok_name (by decide)) (pyi_revr (by rfl) T.reversed (pyr_1 (by rfl) T.range (py_var 0))) (pyg_name 5 sc_row_by.nd)
  (pss_pcons (py_while (fun _ => 1000) (passes_of rfl) (pt_ge (py_var 1) (py_ixs (py_ix (py_var 2) (py_ivar 5)) (py_ivar 4)))
  (pss_pcons (py_aug 1 ip_sub (py_ixs (py_ix (py_var 2) (py_ivar 5)) (py_ivar 4)) sc_row_by.nd)
  (pss_pone (py_aug 4 ip_add py_int sc_row_by.nd))))
  (pss_pone (py_app 3 (by decide) (pe_bm PySem.F.plainAttrs_list PySem.F.slot_list_append PySem.F.type_list_append mt_append (pv 3) (pa_cons (py_ivar 4) pa_nil))))))
  (pss_pone (py_retM 3))))))))

abbrev st_number_of : Stmt := topS 14
theorem sc_number_of : FnScope ["row", "ways", "number", "least", "at", "one", "other"] ["row"] (defScope st_number_of) := ⟨rfl, rfl, rfl, by decide +kernel, rfl, by decide +kernel, by decide +kernel⟩
theorem ok_number_of {f : Addr} {fd : FuncData} (F : Fun K "number_of" "number_of" st_number_of f fd) (T : Bt K mg c) (C_check_row : Cal P w K mg base c 2 "check_row" ["row", "most"] 2 m_check_row) (C_ways_on : Cal P w K mg base c 1 "ways_on" ["many"] 1 m_ways_on) : FnOk P w K mg base (L2.CX P w) 3 f fd ["row"] (spM K c 1 m_number_of) := by
  unfold m_number_of
  exact def_ok ["row", "ways", "number", "least", "at", "one", "other"] ["row"] 7 1 2 [] s_number_of F sc_number_of rfl rfl (by decide) (by decide) fun cdv A outer s₀ H E hr =>
    (pss_pcons (py_expr (py_own C_check_row hr (by decide) (by rfl) passO (pya_cons (py_var 0) (pya_cons (py_gintE (i := 100) (by rfl) T.c_FARTHEST) pya_nil))))
  (pss_pcons (py_set 1 (py_own C_ways_on hr (by decide) (by rfl) passO (pya_cons (py_len (by rfl) T.len (pya_cons (py_var 0) pya_nil)) pya_nil)) sc_number_of.nd)
  (pss_pcons (py_set 2 py_int sc_number_of.nd)
  (pss_pcons (py_set 3 py_int sc_number_of.nd)
  (pss_pcons (py_for (passes_of rfl) rfl (gok_tup (by decide)) (pyi_enum (by rfl) T.enumerate (pya_cons (py_var 0) pya_nil)) (pyg_tup rfl (pygs_cons 4 (pygs_cons 5 pygs_nil sc_number_of.nd) sc_number_of.nd))
  (pss_pcons (py_aug 2 ip_add (py_sum rfl (by rfl) T.sum (pya_cons (py_lc (own := [("other", 6)]) rfl sc_number_of.nd (blkOk_by (by kernel_rfl)) (pyi_rng2 (by rfl) T.range (pya_cons (py_ivar 3) (pya_cons (py_ivar 5) pya_nil))) (fun _ _ _ _ _ => (pyg_name 6 sc_number_of.nd)) (fun _ _ _ _ _ => pts_yes) (fun _ _ _ _ _ => (py_ixs (py_ix (py_var 1) (py_sub (py_sub (py_len (by rfl) T.len (pya_cons (py_var 0) pya_nil)) (py_ivar 4)) py_int)) (py_ivar 6)))) pya_nil)) sc_number_of.nd)
  (pss_pone (py_set 3 (py_ivar 5) sc_number_of.nd))))
  (pss_pone (py_ret (py_ivar 2))))))))

abbrev st_law_cell_at : Stmt := topS 16
theorem sc_law_cell_at : FnScope ["_law_script", "_law_k"] ["_law_script", "_law_k"] (defScope st_law_cell_at) := ⟨rfl, rfl, rfl, by decide +kernel, rfl, by decide +kernel, by decide +kernel⟩
theorem ok_law_cell_at {f : Addr} {fd : FuncData} (F : Fun K "_law_cell_at" "_law_cell_at" st_law_cell_at f fd) (T : Bt K mg c)  : FnOk P w K mg base (L2.CX P w) 1 f fd ["_law_script", "_law_k"] (spM K c 2 m_law_cell_at) := by
  unfold m_law_cell_at
  exact def_ok ["_law_script", "_law_k"] ["_law_script", "_law_k"] 2 2 0 [] s_law_cell_at F sc_law_cell_at rfl rfl (by decide) (by decide) fun cdv A outer s₀ H E hr =>
    (pss_pcons (py_ifS (pt_lt (py_ivar 1) (py_len (by rfl) T.len (pya_cons (py_var 0) pya_nil))) (pss_pone (py_ret (py_ixs (py_var 0) (py_ivar 1))))
  pss_pnil)
  (pss_pone (py_ret py_int)))

abbrev st_law_draw : Stmt := topS 17
theorem sc_law_draw : FnScope ["_law_cell", "_law_k", "_law_most", "_law_primes"] ["_law_cell", "_law_k", "_law_most"] (defScope st_law_draw) := ⟨rfl, rfl, rfl, by decide +kernel, rfl, by decide +kernel, by decide +kernel⟩
theorem ok_law_draw {f : Addr} {fd : FuncData} (F : Fun K "_law_draw" "_law_draw" st_law_draw f fd) (T : Bt K mg c)  : FnOk P w K mg base (L2.CX P w) 1 f fd ["_law_cell", "_law_k", "_law_most"] (spM K c 3 m_law_draw) := by
  unfold m_law_draw
  exact def_ok ["_law_cell", "_law_k", "_law_most", "_law_primes"] ["_law_cell", "_law_k", "_law_most"] 4 3 0 [] s_law_draw F sc_law_draw rfl rfl (by decide) (by decide) fun cdv A outer s₀ H E hr =>
    (pss_pcons (py_set 3 (py_tup (pya_cons py_int (pya_cons py_int (pya_cons py_int (pya_cons py_int (pya_cons py_int (pya_cons py_int (pya_cons py_int (pya_cons py_int (pya_cons py_int (pya_cons py_int (pya_cons py_int (pya_cons py_int (pya_cons py_int (pya_cons py_int (pya_cons py_int (pya_cons py_int pya_nil))))))))))))))))) sc_law_draw.nd)
  (pss_pone (py_ret (py_mod (py_mod (py_add (py_mul (py_ivar 0) py_int) (py_mul (py_ivar 1) py_int)) (py_ixs (py_var 3) (py_mod (py_ivar 1) py_int))) (py_ivar 2)))))

abbrev st_law_number : Stmt := topS 18
theorem sc_law_number : FnScope ["_law_cell", "_law_k", "_law_limit"] ["_law_cell", "_law_k", "_law_limit"] (defScope st_law_number) := ⟨rfl, rfl, rfl, by decide +kernel, rfl, by decide +kernel, by decide +kernel⟩
theorem ok_law_number {f : Addr} {fd : FuncData} (F : Fun K "_law_number" "_law_number" st_law_number f fd) (T : Bt K mg c) (C_law_draw : Cal P w K mg base c 1 "_law_draw" ["_law_cell", "_law_k", "_law_most"] 3 m_law_draw) : FnOk P w K mg base (L2.CX P w) 2 f fd ["_law_cell", "_law_k", "_law_limit"] (spM K c 3 m_law_number) := by
  unfold m_law_number
  exact def_ok ["_law_cell", "_law_k", "_law_limit"] ["_law_cell", "_law_k", "_law_limit"] 3 3 1 [] s_law_number F sc_law_number rfl rfl (by decide) (by decide) fun cdv A outer s₀ H E hr =>
    (pss_pcons (py_ifS (pt_ge (py_ivar 0) (py_pow py_int py_int)) (pss_pone (py_ret (py_mod (py_div (py_sub (py_ivar 0) (py_pow py_int py_int)) (py_ixs (py_tup (pya_cons py_int (pya_cons py_int (pya_cons py_int (pya_cons py_int (pya_cons py_int pya_nil)))))) (py_mod (py_ivar 1) py_int))) (py_ivar 2))))
  pss_pnil)
  (pss_pone (py_ret (py_mod (py_own C_law_draw hr (by decide) (by rfl) passO (pya_cons (py_mul (py_add (py_ivar 0) (py_mul py_int (py_ivar 1))) (py_add (py_add (py_ivar 0) (py_mul py_int (py_ivar 1))) py_int)) (pya_cons (py_add (py_mod (py_ivar 1) py_int) py_int) (pya_cons py_int pya_nil)))) (py_ivar 2)))))

abbrev st_law_row : Stmt := topS 19
theorem sc_law_row : FnScope ["_law_script", "_law_most", "_law_by", "_law_kind", "_law_found", "_law_least", "_law_at", "_law_more", "_law_far"] ["_law_script", "_law_most", "_law_by"] (defScope st_law_row) := ⟨rfl, rfl, rfl, by decide +kernel, rfl, by decide +kernel, by decide +kernel⟩
theorem ok_law_row {f : Addr} {fd : FuncData} (F : Fun K "_law_row" "_law_row" st_law_row f fd) (T : Bt K mg c) (C_law_cell_at : Cal P w K mg base c 1 "_law_cell_at" ["_law_script", "_law_k"] 2 m_law_cell_at) (C_law_draw : Cal P w K mg base c 1 "_law_draw" ["_law_cell", "_law_k", "_law_most"] 3 m_law_draw) (C_law_number : Cal P w K mg base c 2 "_law_number" ["_law_cell", "_law_k", "_law_limit"] 3 m_law_number) : FnOk P w K mg base (L2.CX P w) 3 f fd ["_law_script", "_law_most", "_law_by"] (spM K c 3 m_law_row) := by
  unfold m_law_row
  exact def_ok ["_law_script", "_law_most", "_law_by", "_law_kind", "_law_found", "_law_least", "_law_at", "_law_more", "_law_far"] ["_law_script", "_law_most", "_law_by"] 9 3 2 [4] s_law_row F sc_law_row rfl rfl (by decide) (by decide) fun cdv A outer s₀ H E hr =>
    (pss_pcons (py_set 3 (py_own C_law_draw hr (by decide) (by rfl) passO (pya_cons (py_add (py_own C_law_cell_at hr (by decide) (by rfl) passO (pya_cons (py_var 0) (pya_cons py_int pya_nil))) (py_ivar 2)) (pya_cons py_int (pya_cons py_int pya_nil)))) sc_law_row.nd)
  (pss_pcons (py_par 4 5 rfl sc_law_row.nd (py_lst pya_nil) py_int)
  (pss_pcons (py_for (passes_of rfl) rfl (gok_name (by decide)) (pyi_rng1 (by rfl) T.range (pya_cons (py_min rfl (by rfl) T.min (pya_cons (py_ivar 1) (pya_cons (py_len (by rfl) T.len (pya_cons (py_var 0) pya_nil)) pya_nil))) pya_nil)) (pyg_name 6 sc_law_row.nd)
  (pss_pcons (py_set 7 (py_own C_law_number hr (by decide) (by rfl) passO (pya_cons (py_ixs (py_var 0) (py_ivar 6)) (pya_cons (py_add (py_ivar 6) (py_ivar 2)) (pya_cons (py_add (py_sub (py_ivar 6) (py_ivar 5)) py_int) pya_nil)))) sc_law_row.nd)
  (pss_pcons (py_set 8 (py_max rfl (by rfl) T.max (pya_cons py_int (pya_cons (py_sub (py_sub (py_ivar 6) (py_ivar 5)) (py_div (py_ivar 7) py_int)) pya_nil))) sc_law_row.nd)
  (pss_pcons (py_set 5 (py_add (py_ivar 5) (py_ixs (py_tup (pya_cons (py_ivar 7) (pya_cons (py_div (py_ivar 7) py_int) (pya_cons (py_ivar 8) (pya_cons (py_mul (py_ivar 7) (py_mod (py_ivar 6) py_int)) pya_nil))))) (py_ivar 3))) sc_law_row.nd)
  (pss_pone (py_app 4 (by decide) (pe_bm PySem.F.plainAttrs_list PySem.F.slot_list_append PySem.F.type_list_append mt_append (pv 4) (pa_cons (py_ivar 5) pa_nil))))))))
  (pss_pone (py_retM 4)))))

abbrev st_law_whole : Stmt := topS 20
theorem sc_law_whole : FnScope ["_law_number_here"] ["_law_number_here"] (defScope st_law_whole) := ⟨rfl, rfl, rfl, by decide +kernel, rfl, by decide +kernel, by decide +kernel⟩
theorem ok_law_whole {f : Addr} {fd : FuncData} (F : Fun K "_law_whole" "_law_whole" st_law_whole f fd) (T : Bt K mg c)  : FnOk P w K mg base (L2.CX P w) 1 f fd ["_law_number_here"] (spM K c 1 m_law_whole) := by
  unfold m_law_whole
  exact def_ok ["_law_number_here"] ["_law_number_here"] 1 1 0 [] s_law_whole F sc_law_whole rfl rfl (by decide) (by decide) fun cdv A outer s₀ H E hr =>
    (pss_pone (py_ret (py_and (py_isi kit_int (by rfl) T.isinstance (py_var 0) (by rfl) T.int (by decide +kernel)) (py_one (py_not (py_isi kit_bool (by rfl) T.isinstance (py_var 0) (by rfl) T.bool (by decide +kernel)))))))

abbrev st_law_many : Stmt := topS 21
theorem sc_law_many : FnScope ["_law_many_here", "_law_found", "_law_size", "_law_at"] ["_law_many_here"] (defScope st_law_many) := ⟨rfl, rfl, rfl, by decide +kernel, rfl, by decide +kernel, by decide +kernel⟩
theorem ok_law_many {f : Addr} {fd : FuncData} (F : Fun K "_law_many" "_law_many" st_law_many f fd) (T : Bt K mg c)  : FnOk P w K mg base (L2.CX P w) 1 f fd ["_law_many_here"] (spM K c 1 m_law_many) := by
  unfold m_law_many
  exact def_ok ["_law_many_here", "_law_found", "_law_size", "_law_at"] ["_law_many_here"] 4 1 0 [1] s_law_many F sc_law_many rfl rfl (by decide) (by decide) fun cdv A outer s₀ H E hr =>
    (pss_pcons (py_setM 1 (py_lst (pya_cons py_int pya_nil)) sc_law_many.nd)
  (pss_pcons (py_for (passes_of rfl) rfl (gok_name (by decide)) (pyi_rng1 (by rfl) T.range (pya_cons (py_ivar 0) pya_nil)) (pyg_name 2 sc_law_many.nd)
  (pss_pone (py_app 1 (by decide) (pe_bm PySem.F.plainAttrs_list PySem.F.slot_list_append PySem.F.type_list_append mt_append (pv 1) (pa_cons (py_sum rfl (by rfl) T.sum (pya_cons (py_lc (own := [("_law_at", 3)]) rfl sc_law_many.nd (blkOk_by (by kernel_rfl)) (pyi_rng1 (by rfl) T.range (pya_cons (py_add (py_ivar 2) py_int) pya_nil)) (fun _ _ _ _ _ => (pyg_name 3 sc_law_many.nd)) (fun _ _ _ _ _ => pts_yes) (fun _ _ _ _ _ => (py_mul (py_ixs (py_var 1) (py_ivar 3)) (py_ixs (py_var 1) (py_sub (py_ivar 2) (py_ivar 3)))))) pya_nil)) pa_nil)))))
  (pss_pone (py_ret (py_ixs (py_var 1) (py_ivar 0))))))

abbrev st_law_is_row : Stmt := topS 22
theorem sc_law_is_row : FnScope ["_law_found", "_law_many_here", "_law_at", "_law_one"] ["_law_found", "_law_many_here"] (defScope st_law_is_row) := ⟨rfl, rfl, rfl, by decide +kernel, rfl, by decide +kernel, by decide +kernel⟩
theorem ok_law_is_row {f : Addr} {fd : FuncData} (F : Fun K "_law_is_row" "_law_is_row" st_law_is_row f fd) (T : Bt K mg c) (C_law_whole : Cal P w K mg base c 1 "_law_whole" ["_law_number_here"] 1 m_law_whole) : FnOk P w K mg base (L2.CX P w) 2 f fd ["_law_found", "_law_many_here"] (spM K c 2 m_law_is_row) := by
  unfold m_law_is_row
  exact def_ok ["_law_found", "_law_many_here", "_law_at", "_law_one"] ["_law_found", "_law_many_here"] 4 2 1 [] s_law_is_row F sc_law_is_row rfl rfl (by decide) (by decide) fun cdv A outer s₀ H E hr =>
    (pss_pcons (py_ifS (PW.pt (pw_por (pt_pnot (py_test (py_isi kit_list (by rfl) T.isinstance (py_var 0) (by rfl) T.list (by decide +kernel)))) (pw_por (pt_ne hr.units (py_len (by rfl) T.len (pya_cons (py_var 0) pya_nil)) (py_ivar 1)) (pw_one_or (pt_pnot (py_test (py_all rfl (by rfl) T.all (pya_cons (py_lc (own := [("_law_one", 3)]) rfl sc_law_is_row.nd (blkOk_by (by kernel_rfl)) (pyi_list (py_var 0)) (fun _ _ _ _ _ => (pyg_name 3 sc_law_is_row.nd)) (fun _ _ _ _ _ => pts_yes) (fun _ _ _ _ _ => (py_own C_law_whole hr (by decide) (by rfl) passL (pya_cons (py_ivar 3) pya_nil)))) pya_nil)))))))) (pss_pone (py_ret py_bl))
  pss_pnil)
  (pss_pone (py_ret (py_and (py_all rfl (by rfl) T.all (pya_cons (py_lc (own := [("_law_at", 2), ("_law_one", 3)]) rfl sc_law_is_row.nd (blkOk_by (by kernel_rfl)) (pyi_enum (by rfl) T.enumerate (pya_cons (py_var 0) pya_nil)) (fun _ _ _ _ _ => (pyg_tup rfl (pygs_cons 2 (pygs_cons 3 pygs_nil sc_law_is_row.nd) sc_law_is_row.nd))) (fun _ _ _ _ _ => pts_yes) (fun _ _ _ _ _ => (py_chain op_le op_le (opg_int0 fun _ _ => rfl) (opg_int0 fun _ _ => rfl) py_int (py_ivar 3) (py_ivar 2)))) pya_nil)) (py_one (py_eq hr.units (py_var 0) (py_sorted (by rfl) T.sorted (pya_cons (py_var 0) pya_nil))))))))

abbrev st_law_number_right : Stmt := topS 23
theorem sc_law_number_right : FnScope ["_law_many_here", "_law_number_here", "_law_row_here", "_law_handed", "_law_again"] ["_law_many_here", "_law_number_here"] (defScope st_law_number_right) := ⟨rfl, rfl, rfl, by decide +kernel, rfl, by decide +kernel, by decide +kernel⟩
theorem ok_law_number_right {f : Addr} {fd : FuncData} (F : Fun K "_law_number_right" "_law_number_right" st_law_number_right f fd) (T : Bt K mg c) (C_row_by : Cal P w K mg base c 3 "row_by" ["many", "number"] 2 m_row_by) (C_law_is_row : Cal P w K mg base c 2 "_law_is_row" ["_law_found", "_law_many_here"] 2 m_law_is_row) (C_number_of : Cal P w K mg base c 3 "number_of" ["row"] 1 m_number_of) (C_law_whole : Cal P w K mg base c 1 "_law_whole" ["_law_number_here"] 1 m_law_whole) : FnOk P w K mg base (L2.CX P w) 4 f fd ["_law_many_here", "_law_number_here"] (spM K c 2 m_law_number_right) := by
  unfold m_law_number_right
  exact def_ok ["_law_many_here", "_law_number_here", "_law_row_here", "_law_handed", "_law_again"] ["_law_many_here", "_law_number_here"] 5 2 3 [2] s_law_number_right F sc_law_number_right rfl rfl (by decide) (by decide) fun cdv A outer s₀ H E hr =>
    (pss_pcons (py_setM 2 (py_own C_row_by hr (by decide) (by rfl) passO (pya_cons (py_ivar 0) (pya_cons (py_ivar 1) pya_nil))) sc_law_number_right.nd)
  (pss_pcons (py_ifS (pt_pnot (py_test (py_own C_law_is_row hr (by decide) (by rfl) passO (pya_cons (py_var 2) (pya_cons (py_ivar 0) pya_nil))))) (pss_pone (py_ret py_bl))
  pss_pnil)
  (pss_pcons (py_set 3 (py_listS (by rfl) T.list (pya_cons (py_var 2) pya_nil)) sc_law_number_right.nd)
  (pss_pcons (py_set 4 (py_own C_number_of hr (by decide) (by rfl) passO (pya_cons (py_var 3) pya_nil)) sc_law_number_right.nd)
  (pss_pcons (py_app 2 (by decide) (pe_bm PySem.F.plainAttrs_list PySem.F.slot_list_append PySem.F.type_list_append mt_append (pv 2) (pa_cons py_int pa_nil)))
  (pss_pone (py_ret (py_and (py_own C_law_whole hr (by decide) (by rfl) passO (pya_cons (py_ivar 4) pya_nil)) (py_and (py_eq hr.units (py_ivar 4) (py_ivar 1)) (py_and (py_eq hr.units (py_var 3) (py_sliceS (py_var 2) pyo_none (pyo_some (E := E) (py_neg py_int)))) (py_one (py_eq hr.units (py_own C_row_by hr (by decide) (by rfl) passO (pya_cons (py_ivar 0) (pya_cons (py_ivar 1) pya_nil))) (py_var 3)))))))))))))

abbrev st_law_all : Stmt := topS 24
theorem sc_law_all : FnScope ["_law_many_here", "_law_found", "_law_at", "_law_longer", "_law_row_here", "_law_one"] ["_law_many_here"] (defScope st_law_all) := ⟨rfl, rfl, rfl, by decide +kernel, rfl, by decide +kernel, by decide +kernel⟩
theorem ok_law_all {f : Addr} {fd : FuncData} (F : Fun K "_law_all" "_law_all" st_law_all f fd) (T : Bt K mg c)  : FnOk P w K mg base (L2.CX P w) 1 f fd ["_law_many_here"] (spM K c 1 m_law_all) := by
  unfold m_law_all
  exact def_ok ["_law_many_here", "_law_found", "_law_at", "_law_longer", "_law_row_here", "_law_one"] ["_law_many_here"] 6 1 0 [1, 3] s_law_all F sc_law_all rfl rfl (by decide) (by decide) fun cdv A outer s₀ H E hr =>
    (pss_pcons (py_setM 1 (py_lst (pya_cons (py_lst pya_nil) pya_nil)) sc_law_all.nd)
  (pss_pcons (py_for (passes_of rfl) rfl (gok_name (by decide)) (pyi_rng1 (by rfl) T.range (pya_cons (py_ivar 0) pya_nil)) (pyg_name 2 sc_law_all.nd)
  (pss_pcons (py_setM 3 (py_lst pya_nil) sc_law_all.nd)
  (pss_pcons (py_forM 1 (by decide) (passes_of rfl) rfl (gok_name (by decide)) (pyg_name 4 sc_law_all.nd)
  (pss_pone (py_ext 3 (by decide) (pe_bm PySem.F.plainAttrs_list PySem.F.slot_list_extend PySem.F.type_list_extend mt_extend (pv 3) (pa_cons (py_lc (own := [("_law_one", 5)]) rfl sc_law_all.nd (blkOk_by (by kernel_rfl)) (pyi_rng2 (by rfl) T.range (pya_cons (py_if (pt_ne hr.units (py_var 4) (py_lst pya_nil)) (py_ixs (py_var 4) (py_neg py_int)) py_int) (pya_cons (py_add (py_ivar 2) py_int) pya_nil))) (fun _ _ _ _ _ => (pyg_name 5 sc_law_all.nd)) (fun _ _ _ _ _ => pts_yes) (fun _ _ _ _ _ => (py_catS (py_var 4) (py_lst (pya_cons (py_ivar 5) pya_nil))))) pa_nil)))))
  (pss_pone (py_mvM 1 3 sc_law_all.nd)))))
  (pss_pone (py_retM 1))))

abbrev st_law : Stmt := topS 25
theorem sc_law : FnScope ["_law_script", "_law_size", "_law_whole_here", "_law_drawn", "_law_cell", "_law_number_here", "_law_by", "_law_row_here", "_law_few", "_law_rows", "_law_first", "_law_many_here"] ["_law_script"] (defScope st_law) := ⟨rfl, rfl, rfl, by decide +kernel, rfl, by decide +kernel, by decide +kernel⟩
theorem ok_law {f : Addr} {fd : FuncData} (F : Fun K "law" "law" st_law f fd) (T : Bt K mg c) (C_law_cell_at : Cal P w K mg base c 1 "_law_cell_at" ["_law_script", "_law_k"] 2 m_law_cell_at) (C_law_draw : Cal P w K mg base c 1 "_law_draw" ["_law_cell", "_law_k", "_law_most"] 3 m_law_draw) (C_how_many : Cal P w K mg base c 3 "how_many" ["many"] 1 m_how_many) (C_law_many : Cal P w K mg base c 1 "_law_many" ["_law_many_here"] 1 m_law_many) (C_law_whole : Cal P w K mg base c 1 "_law_whole" ["_law_number_here"] 1 m_law_whole) (C_law_number_right : Cal P w K mg base c 4 "_law_number_right" ["_law_many_here", "_law_number_here"] 2 m_law_number_right) (C_row_by : Cal P w K mg base c 3 "row_by" ["many", "number"] 2 m_row_by) (C_law_row : Cal P w K mg base c 3 "_law_row" ["_law_script", "_law_most", "_law_by"] 3 m_law_row) (C_number_of : Cal P w K mg base c 3 "number_of" ["row"] 1 m_number_of) (C_law_all : Cal P w K mg base c 1 "_law_all" ["_law_many_here"] 1 m_law_all) : FnOk P w K mg base (L2.CX P w) 5 f fd ["_law_script"] (spM K c 1 m_law) := by
  unfold m_law
  exact def_ok ["_law_script", "_law_size", "_law_whole_here", "_law_drawn", "_law_cell", "_law_number_here", "_law_by", "_law_row_here", "_law_few", "_law_rows", "_law_first", "_law_many_here"] ["_law_script"] 12 1 4 [] s_law F sc_law rfl rfl (by decide) (by decide) fun cdv A outer s₀ H E hr =>
    (pss_pcons (py_set 1 (py_min rfl (by rfl) T.min (pya_cons py_int (pya_cons (py_len (by rfl) T.len (pya_cons (py_var 0) pya_nil)) pya_nil))) sc_law.nd)
  (pss_pcons (py_ifS (pt_eq hr.units (py_own C_law_draw hr (by decide) (by rfl) passO (pya_cons (py_own C_law_cell_at hr (by decide) (by rfl) passO (pya_cons (py_var 0) (pya_cons py_int pya_nil))) (pya_cons py_int (pya_cons py_int pya_nil)))) py_int) (pss_pone (py_set 1 py_int sc_law.nd))
  pss_pnil)
  (pss_pcons (py_set 2 (py_own C_how_many hr (by decide) (by rfl) passO (pya_cons (py_ivar 1) pya_nil)) sc_law.nd)
  (pss_pcons (py_ifS (PW.pt (pw_por (pt_pnot (py_test (py_own C_law_whole hr (by decide) (by rfl) passO (pya_cons (py_ivar 2) pya_nil)))) (pw_one_or (pt_ne hr.units (py_ivar 2) (py_own C_law_many hr (by decide) (by rfl) passO (pya_cons (py_ivar 1) pya_nil)))))) (pss_pone (py_ret py_bl))
  pss_pnil)
  (pss_pcons (py_set 3 py_int sc_law.nd)
  (pss_pcons (py_for (passes_of rfl) rfl (gok_name (by decide)) (pyi_list (py_cat (py_sliceS (py_var 0) pyo_none (pyo_some (E := E) py_int)) (py_lst (pya_cons py_int pya_nil)))) (pyg_name 4 sc_law.nd)
  (pss_pone (py_set 3 (py_mod (py_add (py_mul (py_ivar 3) (py_add (py_mod (py_abs (by rfl) T.abs (pya_cons (py_ivar 4) pya_nil)) (py_pow py_int py_int)) py_int)) py_int) (py_pow py_int py_int)) sc_law.nd)))
  (pss_pcons (py_for (passes_of rfl) rfl (gok_name (by decide)) (pyi_tup (py_tup (pya_cons (py_sub (py_ivar 2) py_int) (pya_cons (py_mod (py_pow (py_ivar 3) py_int) (py_ivar 2)) (pya_cons (py_mod (py_div (py_ivar 3) py_int) (py_ivar 2)) pya_nil))))) (pyg_name 5 sc_law.nd)
  (pss_pone (py_ifS (pt_pnot (py_test (py_own C_law_number_right hr (by decide) (by rfl) passO (pya_cons (py_ivar 1) (pya_cons (py_ivar 5) pya_nil))))) (pss_pone (py_ret py_bl))
  pss_pnil)))
  (pss_pcons (py_set 5 (py_mod (py_pow (py_ivar 3) py_int) (py_ivar 2)) sc_law.nd)
  (pss_pcons (py_ifS (PW.pt (pw_pand (pt_lt (py_add (py_ivar 5) py_int) (py_ivar 2)) (pw_one_and (pt_pnot (pt_ltL hr.units (py_own C_row_by hr (by decide) (by rfl) passO (pya_cons (py_ivar 1) (pya_cons (py_ivar 5) pya_nil))) (py_own C_row_by hr (by decide) (by rfl) passO (pya_cons (py_ivar 1) (pya_cons (py_add (py_ivar 5) py_int) pya_nil)))))))) (pss_pone (py_ret py_bl))
  pss_pnil)
  (pss_pcons (py_for (passes_of rfl) rfl (gok_name (by decide)) (pyi_tup (py_tup (pya_cons py_int (pya_cons py_int pya_nil)))) (pyg_name 6 sc_law.nd)
  (pss_pcons (py_set 7 (py_own C_law_row hr (by decide) (by rfl) passO (pya_cons (py_var 0) (pya_cons py_int (pya_cons (py_ivar 6) pya_nil)))) sc_law.nd)
  (pss_pone (py_ifS (pt_ne hr.units (py_own C_row_by hr (by decide) (by rfl) passO (pya_cons (py_len (by rfl) T.len (pya_cons (py_var 7) pya_nil)) (pya_cons (py_own C_number_of hr (by decide) (by rfl) passO (pya_cons (py_var 7) pya_nil)) pya_nil))) (py_var 7)) (pss_pone (py_ret py_bl))
  pss_pnil))))
  (pss_pcons (py_set 8 (py_mod (py_ivar 1) py_int) sc_law.nd)
  (pss_pcons (py_ifS (pt_ne hr.units (py_lc (own := [("_law_number_here", 5)]) rfl sc_law.nd (blkOk_by (by kernel_rfl)) (pyi_rng1 (by rfl) T.range (pya_cons (py_own C_how_many hr (by decide) (by rfl) passO (pya_cons (py_ivar 8) pya_nil)) pya_nil)) (fun _ _ _ _ _ => (pyg_name 5 sc_law.nd)) (fun _ _ _ _ _ => pts_yes) (fun _ _ _ _ _ => (py_own C_row_by hr (by decide) (by rfl) passL (pya_cons (py_ivar 8) (pya_cons (py_ivar 5) pya_nil))))) (py_own C_law_all hr (by decide) (by rfl) passO (pya_cons (py_ivar 8) pya_nil))) (pss_pone (py_ret py_bl))
  pss_pnil)
  (pss_pcons (py_ifS (pt_ne hr.units (py_lc (own := [("_law_many_here", 11)]) rfl sc_law.nd (blkOk_by (by kernel_rfl)) (pyi_rng1 (by rfl) T.range (pya_cons py_int pya_nil)) (fun _ _ _ _ _ => (pyg_name 11 sc_law.nd)) (fun _ _ _ _ _ => pts_yes) (fun _ _ _ _ _ => (py_own C_how_many hr (by decide) (by rfl) passL (pya_cons (py_ivar 11) pya_nil)))) (py_lst (pya_cons py_int (pya_cons py_int (pya_cons py_int (pya_cons py_int (pya_cons py_int pya_nil))))))) (pss_pone (py_ret py_bl))
  pss_pnil)
  (pss_pcons (py_ifS (pt_ne hr.units (py_lst (pya_cons (py_own C_how_many hr (by decide) (by rfl) passO (pya_cons py_int pya_nil)) (pya_cons (py_own C_how_many hr (by decide) (by rfl) passO (pya_cons py_int pya_nil)) pya_nil))) (py_lst (pya_cons py_int (pya_cons py_int pya_nil)))) (pss_pone (py_ret py_bl))
  pss_pnil)
  (pss_pcons (py_set 9 (py_lst (pya_cons (py_tup (pya_cons (py_cat (py_lst (pya_cons py_int (pya_cons py_int pya_nil))) (py_rep (py_lst (pya_cons py_int pya_nil)) py_int)) (pya_cons py_int pya_nil))) (pya_cons (py_tup (pya_cons (py_cat (py_lst (pya_cons py_int (pya_cons py_int pya_nil))) (py_listRg rfl (by rfl) T.list (pyr_2 (by rfl) T.range py_int py_int))) (pya_cons py_int pya_nil))) pya_nil))) sc_law.nd)
  (pss_pcons (py_for (passes_of rfl) rfl (gok_tup (by decide)) (pyi_list (py_cat (py_var 9) (py_lst (pya_cons (py_tup (pya_cons (py_cat (py_rep (py_lst (pya_cons py_int pya_nil)) py_int) (py_lst (pya_cons py_int pya_nil))) (pya_cons py_int pya_nil))) (pya_cons (py_tup (pya_cons (py_listRg rfl (by rfl) T.list (pyr_1 (by rfl) T.range py_int)) (pya_cons (py_sub (py_own C_how_many hr (by decide) (by rfl) passO (pya_cons py_int pya_nil)) py_int) pya_nil))) pya_nil))))) (pyg_tup rfl (pygs_cons 7 (pygs_cons 5 pygs_nil sc_law.nd) sc_law.nd))
  (pss_pone (py_ifS (PW.pt (pw_por (pt_ne hr.units (py_own C_number_of hr (by decide) (by rfl) passO (pya_cons (py_var 7) pya_nil)) (py_ivar 5)) (pw_one_or (pt_ne hr.units (py_own C_row_by hr (by decide) (by rfl) passO (pya_cons (py_len (by rfl) T.len (pya_cons (py_var 7) pya_nil)) (pya_cons (py_ivar 5) pya_nil))) (py_var 7))))) (pss_pone (py_ret py_bl))
  pss_pnil)))
  (pss_re [7] (M' := [7]) (by decide) (pss_pcons (py_setM 7 (py_lst (pya_cons py_int (pya_cons py_int (pya_cons py_int pya_nil)))) sc_law.nd)
  (pss_pcons (py_set 10 (py_lst (pya_cons (py_own C_number_of hr (by decide) (by rfl) passO (pya_cons (py_var 7) pya_nil)) (pya_cons (py_own C_row_by hr (by decide) (by rfl) passO (pya_cons py_int (pya_cons py_int pya_nil))) (pya_cons (py_own C_row_by hr (by decide) (by rfl) passO (pya_cons py_int (pya_cons py_int pya_nil))) pya_nil)))) sc_law.nd)
  (pss_pcons (py_put 7 (by decide) py_int (pg_sub (pv 7) py_int set_list))
  (pss_pcons (py_ifS (PW.pt (pw_por (pt_ne hr.units (py_var 10) (py_lst (pya_cons py_int (pya_cons (py_lst (pya_cons py_int (pya_cons py_int (pya_cons py_int pya_nil)))) (pya_cons (py_lst (pya_cons py_int (pya_cons py_int (pya_cons py_int (pya_cons py_int pya_nil))))) pya_nil))))) (pw_one_or (pt_ne hr.units (py_own C_number_of hr (by decide) (by rfl) passO (pya_cons (py_var 7) pya_nil)) py_int)))) (pss_pone (py_ret py_bl))
  pss_pnil)
  (pss_pone (py_ret (py_and (py_eq hr.units (py_own C_number_of hr (by decide) (by rfl) passO (pya_cons (py_lst (pya_cons py_int (pya_cons py_int (pya_cons py_int pya_nil)))) pya_nil)) py_int) (py_one (py_eq hr.units (py_own C_row_by hr (by decide) (by rfl) passO (pya_cons py_int (pya_cons py_int pya_nil))) (py_lst pya_nil)))))))))))))))))))))))))))
end
end PyS
set_option maxRecDepth 100000
set_option maxHeartbeats 4000000
namespace PyS
open PySem PySem.Spec PyProof.Rows L2

def spLaw (K : PySem.W.Frag) (m : List D → R) : Sp := fun vs H Q _ => ∃ (a : Addr) (ns : List Int), vs = [.ref a] ∧ SqL K H a (ns.map V.int) ∧ m [.scr ns] = .ok (.bl true) ∧ ∀ H', Q (.bl true) H'
theorem sp_law {K : PySem.W.Frag} {c : Ct} {m : List D → R} {vs : List V} {H : Hp} {Q : VK} {E : XK} (h : spLaw K m vs H Q E) : spM K c 1 m vs H Q E := by
  obtain ⟨a, ns, rfl, hS, e, q⟩ := h
  refine ⟨[.scr ns], rfl, ⟨.ref a, [], rfl, ⟨a, rfl, hS⟩, rfl⟩, ?_⟩
  rw [e]
  intro v H' _ r
  rw [show v = .bl true from r.at]
  exact q H'
def tblX (l : List (Nat × Addr)) (i : Nat) : Addr := match l.lookup i with
  | some a => a
  | none => 0
theorem all_mk {l : PySem.W.OpenLaw} {w : World} {K : PySem.W.Frag} {h : Heap} {mg : Str → Option Value} {fa : Addr} (X : K.In h) (G : h.Ns mainGlobals mg) (hfa : mg "law" = some (.ref fa))
    {f_is_number f_check_row f_ways_on f_check_many f_how_many f_row_by f_number_of f_law_cell_at f_law_draw f_law_number f_law_row f_law_whole f_law_many f_law_is_row f_law_number_right f_law_all f_law C_BadRow C_BadMany C_BadNumber : Addr} {od_is_number an_is_number od_check_row an_check_row od_ways_on an_ways_on od_check_many an_check_many od_how_many an_how_many od_row_by an_row_by od_number_of an_number_of od_law_cell_at an_law_cell_at od_law_draw an_law_draw od_law_number an_law_number od_law_row an_law_row od_law_whole an_law_whole od_law_many an_law_many od_law_is_row an_law_is_row od_law_number_right an_law_number_right od_law_all an_law_all od_law an_law : Option Addr} {sl_is_number sl_check_row sl_ways_on sl_check_many sl_how_many sl_row_by sl_number_of sl_law_cell_at sl_law_draw sl_law_number sl_law_row sl_law_whole sl_law_many sl_law_is_row sl_law_number_right sl_law_all sl_law : Array (Option Value)} {oc_is_number kV_is_number dc_is_number pm_is_number cd_is_number ct_is_number oc_check_row kV_check_row dc_check_row pm_check_row cd_check_row ct_check_row oc_ways_on kV_ways_on dc_ways_on pm_ways_on cd_ways_on ct_ways_on oc_check_many kV_check_many dc_check_many pm_check_many cd_check_many ct_check_many oc_how_many kV_how_many dc_how_many pm_how_many cd_how_many ct_how_many oc_row_by kV_row_by dc_row_by pm_row_by cd_row_by ct_row_by oc_number_of kV_number_of dc_number_of pm_number_of cd_number_of ct_number_of oc_law_cell_at kV_law_cell_at dc_law_cell_at pm_law_cell_at cd_law_cell_at ct_law_cell_at oc_law_draw kV_law_draw dc_law_draw pm_law_draw cd_law_draw ct_law_draw oc_law_number kV_law_number dc_law_number pm_law_number cd_law_number ct_law_number oc_law_row kV_law_row dc_law_row pm_law_row cd_law_row ct_law_row oc_law_whole kV_law_whole dc_law_whole pm_law_whole cd_law_whole ct_law_whole oc_law_many kV_law_many dc_law_many pm_law_many cd_law_many ct_law_many oc_law_is_row kV_law_is_row dc_law_is_row pm_law_is_row cd_law_is_row ct_law_is_row oc_law_number_right kV_law_number_right dc_law_number_right pm_law_number_right cd_law_number_right ct_law_number_right oc_law_all kV_law_all dc_law_all pm_law_all cd_law_all ct_law_all oc_law kV_law dc_law pm_law cd_law ct_law : Value} {t_FARTHEST : Tok}
    (a_is_number : PySem.W.nsIn K mainGlobals "is_number" = some (some (.ref f_is_number)))
    (l_is_number : K.lookup f_is_number = some ⟨oc_is_number, od_is_number, .func (PySem.W.fnOf "is_number" "is_number" (defArgs st_is_number) (defBody st_is_number) (defScope st_is_number) .none kV_is_number dc_is_number pm_is_number an_is_number cd_is_number ct_is_number), sl_is_number⟩)
    (c_is_number : PySem.W.codeIn K cd_is_number "is_number" = true)
    (k_is_number : PySem.W.keepIn K (.ref f_is_number) = true)
    (a_check_row : PySem.W.nsIn K mainGlobals "check_row" = some (some (.ref f_check_row)))
    (l_check_row : K.lookup f_check_row = some ⟨oc_check_row, od_check_row, .func (PySem.W.fnOf "check_row" "check_row" (defArgs st_check_row) (defBody st_check_row) (defScope st_check_row) .none kV_check_row dc_check_row pm_check_row an_check_row cd_check_row ct_check_row), sl_check_row⟩)
    (c_check_row : PySem.W.codeIn K cd_check_row "check_row" = true)
    (k_check_row : PySem.W.keepIn K (.ref f_check_row) = true)
    (a_ways_on : PySem.W.nsIn K mainGlobals "ways_on" = some (some (.ref f_ways_on)))
    (l_ways_on : K.lookup f_ways_on = some ⟨oc_ways_on, od_ways_on, .func (PySem.W.fnOf "ways_on" "ways_on" (defArgs st_ways_on) (defBody st_ways_on) (defScope st_ways_on) .none kV_ways_on dc_ways_on pm_ways_on an_ways_on cd_ways_on ct_ways_on), sl_ways_on⟩)
    (c_ways_on : PySem.W.codeIn K cd_ways_on "ways_on" = true)
    (k_ways_on : PySem.W.keepIn K (.ref f_ways_on) = true)
    (a_check_many : PySem.W.nsIn K mainGlobals "check_many" = some (some (.ref f_check_many)))
    (l_check_many : K.lookup f_check_many = some ⟨oc_check_many, od_check_many, .func (PySem.W.fnOf "check_many" "check_many" (defArgs st_check_many) (defBody st_check_many) (defScope st_check_many) .none kV_check_many dc_check_many pm_check_many an_check_many cd_check_many ct_check_many), sl_check_many⟩)
    (c_check_many : PySem.W.codeIn K cd_check_many "check_many" = true)
    (k_check_many : PySem.W.keepIn K (.ref f_check_many) = true)
    (a_how_many : PySem.W.nsIn K mainGlobals "how_many" = some (some (.ref f_how_many)))
    (l_how_many : K.lookup f_how_many = some ⟨oc_how_many, od_how_many, .func (PySem.W.fnOf "how_many" "how_many" (defArgs st_how_many) (defBody st_how_many) (defScope st_how_many) .none kV_how_many dc_how_many pm_how_many an_how_many cd_how_many ct_how_many), sl_how_many⟩)
    (c_how_many : PySem.W.codeIn K cd_how_many "how_many" = true)
    (k_how_many : PySem.W.keepIn K (.ref f_how_many) = true)
    (a_row_by : PySem.W.nsIn K mainGlobals "row_by" = some (some (.ref f_row_by)))
    (l_row_by : K.lookup f_row_by = some ⟨oc_row_by, od_row_by, .func (PySem.W.fnOf "row_by" "row_by" (defArgs st_row_by) (defBody st_row_by) (defScope st_row_by) .none kV_row_by dc_row_by pm_row_by an_row_by cd_row_by ct_row_by), sl_row_by⟩)
    (c_row_by : PySem.W.codeIn K cd_row_by "row_by" = true)
    (k_row_by : PySem.W.keepIn K (.ref f_row_by) = true)
    (a_number_of : PySem.W.nsIn K mainGlobals "number_of" = some (some (.ref f_number_of)))
    (l_number_of : K.lookup f_number_of = some ⟨oc_number_of, od_number_of, .func (PySem.W.fnOf "number_of" "number_of" (defArgs st_number_of) (defBody st_number_of) (defScope st_number_of) .none kV_number_of dc_number_of pm_number_of an_number_of cd_number_of ct_number_of), sl_number_of⟩)
    (c_number_of : PySem.W.codeIn K cd_number_of "number_of" = true)
    (k_number_of : PySem.W.keepIn K (.ref f_number_of) = true)
    (a_law_cell_at : PySem.W.nsIn K mainGlobals "_law_cell_at" = some (some (.ref f_law_cell_at)))
    (l_law_cell_at : K.lookup f_law_cell_at = some ⟨oc_law_cell_at, od_law_cell_at, .func (PySem.W.fnOf "_law_cell_at" "_law_cell_at" (defArgs st_law_cell_at) (defBody st_law_cell_at) (defScope st_law_cell_at) .none kV_law_cell_at dc_law_cell_at pm_law_cell_at an_law_cell_at cd_law_cell_at ct_law_cell_at), sl_law_cell_at⟩)
    (c_law_cell_at : PySem.W.codeIn K cd_law_cell_at "_law_cell_at" = true)
    (k_law_cell_at : PySem.W.keepIn K (.ref f_law_cell_at) = true)
    (a_law_draw : PySem.W.nsIn K mainGlobals "_law_draw" = some (some (.ref f_law_draw)))
    (l_law_draw : K.lookup f_law_draw = some ⟨oc_law_draw, od_law_draw, .func (PySem.W.fnOf "_law_draw" "_law_draw" (defArgs st_law_draw) (defBody st_law_draw) (defScope st_law_draw) .none kV_law_draw dc_law_draw pm_law_draw an_law_draw cd_law_draw ct_law_draw), sl_law_draw⟩)
    (c_law_draw : PySem.W.codeIn K cd_law_draw "_law_draw" = true)
    (k_law_draw : PySem.W.keepIn K (.ref f_law_draw) = true)
    (a_law_number : PySem.W.nsIn K mainGlobals "_law_number" = some (some (.ref f_law_number)))
    (l_law_number : K.lookup f_law_number = some ⟨oc_law_number, od_law_number, .func (PySem.W.fnOf "_law_number" "_law_number" (defArgs st_law_number) (defBody st_law_number) (defScope st_law_number) .none kV_law_number dc_law_number pm_law_number an_law_number cd_law_number ct_law_number), sl_law_number⟩)
    (c_law_number : PySem.W.codeIn K cd_law_number "_law_number" = true)
    (k_law_number : PySem.W.keepIn K (.ref f_law_number) = true)
    (a_law_row : PySem.W.nsIn K mainGlobals "_law_row" = some (some (.ref f_law_row)))
    (l_law_row : K.lookup f_law_row = some ⟨oc_law_row, od_law_row, .func (PySem.W.fnOf "_law_row" "_law_row" (defArgs st_law_row) (defBody st_law_row) (defScope st_law_row) .none kV_law_row dc_law_row pm_law_row an_law_row cd_law_row ct_law_row), sl_law_row⟩)
    (c_law_row : PySem.W.codeIn K cd_law_row "_law_row" = true)
    (k_law_row : PySem.W.keepIn K (.ref f_law_row) = true)
    (a_law_whole : PySem.W.nsIn K mainGlobals "_law_whole" = some (some (.ref f_law_whole)))
    (l_law_whole : K.lookup f_law_whole = some ⟨oc_law_whole, od_law_whole, .func (PySem.W.fnOf "_law_whole" "_law_whole" (defArgs st_law_whole) (defBody st_law_whole) (defScope st_law_whole) .none kV_law_whole dc_law_whole pm_law_whole an_law_whole cd_law_whole ct_law_whole), sl_law_whole⟩)
    (c_law_whole : PySem.W.codeIn K cd_law_whole "_law_whole" = true)
    (k_law_whole : PySem.W.keepIn K (.ref f_law_whole) = true)
    (a_law_many : PySem.W.nsIn K mainGlobals "_law_many" = some (some (.ref f_law_many)))
    (l_law_many : K.lookup f_law_many = some ⟨oc_law_many, od_law_many, .func (PySem.W.fnOf "_law_many" "_law_many" (defArgs st_law_many) (defBody st_law_many) (defScope st_law_many) .none kV_law_many dc_law_many pm_law_many an_law_many cd_law_many ct_law_many), sl_law_many⟩)
    (c_law_many : PySem.W.codeIn K cd_law_many "_law_many" = true)
    (k_law_many : PySem.W.keepIn K (.ref f_law_many) = true)
    (a_law_is_row : PySem.W.nsIn K mainGlobals "_law_is_row" = some (some (.ref f_law_is_row)))
    (l_law_is_row : K.lookup f_law_is_row = some ⟨oc_law_is_row, od_law_is_row, .func (PySem.W.fnOf "_law_is_row" "_law_is_row" (defArgs st_law_is_row) (defBody st_law_is_row) (defScope st_law_is_row) .none kV_law_is_row dc_law_is_row pm_law_is_row an_law_is_row cd_law_is_row ct_law_is_row), sl_law_is_row⟩)
    (c_law_is_row : PySem.W.codeIn K cd_law_is_row "_law_is_row" = true)
    (k_law_is_row : PySem.W.keepIn K (.ref f_law_is_row) = true)
    (a_law_number_right : PySem.W.nsIn K mainGlobals "_law_number_right" = some (some (.ref f_law_number_right)))
    (l_law_number_right : K.lookup f_law_number_right = some ⟨oc_law_number_right, od_law_number_right, .func (PySem.W.fnOf "_law_number_right" "_law_number_right" (defArgs st_law_number_right) (defBody st_law_number_right) (defScope st_law_number_right) .none kV_law_number_right dc_law_number_right pm_law_number_right an_law_number_right cd_law_number_right ct_law_number_right), sl_law_number_right⟩)
    (c_law_number_right : PySem.W.codeIn K cd_law_number_right "_law_number_right" = true)
    (k_law_number_right : PySem.W.keepIn K (.ref f_law_number_right) = true)
    (a_law_all : PySem.W.nsIn K mainGlobals "_law_all" = some (some (.ref f_law_all)))
    (l_law_all : K.lookup f_law_all = some ⟨oc_law_all, od_law_all, .func (PySem.W.fnOf "_law_all" "_law_all" (defArgs st_law_all) (defBody st_law_all) (defScope st_law_all) .none kV_law_all dc_law_all pm_law_all an_law_all cd_law_all ct_law_all), sl_law_all⟩)
    (c_law_all : PySem.W.codeIn K cd_law_all "_law_all" = true)
    (k_law_all : PySem.W.keepIn K (.ref f_law_all) = true)
    (a_law : PySem.W.nsIn K mainGlobals "law" = some (some (.ref f_law)))
    (l_law : K.lookup f_law = some ⟨oc_law, od_law, .func (PySem.W.fnOf "law" "law" (defArgs st_law) (defBody st_law) (defScope st_law) .none kV_law dc_law pm_law an_law cd_law ct_law), sl_law⟩)
    (c_law : PySem.W.codeIn K cd_law "law" = true)
    (k_law : PySem.W.keepIn K (.ref f_law) = true)
    (z_range : PySem.W.nsIn K mainGlobals "range" = some none)
    (z_reversed : PySem.W.nsIn K mainGlobals "reversed" = some none)
    (z_enumerate : PySem.W.nsIn K mainGlobals "enumerate" = some none)
    (z_list : PySem.W.nsIn K mainGlobals "list" = some none)
    (z_min : PySem.W.nsIn K mainGlobals "min" = some none)
    (z_isinstance : PySem.W.nsIn K mainGlobals "isinstance" = some none)
    (z_int : PySem.W.nsIn K mainGlobals "int" = some none)
    (z_all : PySem.W.nsIn K mainGlobals "all" = some none)
    (z_len : PySem.W.nsIn K mainGlobals "len" = some none)
    (z_sum : PySem.W.nsIn K mainGlobals "sum" = some none)
    (z_max : PySem.W.nsIn K mainGlobals "max" = some none)
    (z_bool : PySem.W.nsIn K mainGlobals "bool" = some none)
    (z_sorted : PySem.W.nsIn K mainGlobals "sorted" = some none)
    (z_zip : PySem.W.nsIn K mainGlobals "zip" = some none)
    (z_abs : PySem.W.nsIn K mainGlobals "abs" = some none)
    (e_BadRow : PySem.W.nsIn K mainGlobals "BadRow" = some (some (.ref C_BadRow)))
    (e1_BadRow : PySem.W.excIn K C_BadRow [.type "ValueError", .type "Exception", .type "BaseException", .type "object"] "ValueError.__new__" = true)
    (e2_BadRow : PySem.W.keepIn K (.ref C_BadRow) = true)
    (e3_BadRow : PySem.W.subIn K (.ref C_BadRow) (.type "BaseException") = some true)
    (e4_BadRow : PySem.W.typeIn K (.ref C_BadRow) = some (.type "type"))
    (e_BadMany : PySem.W.nsIn K mainGlobals "BadMany" = some (some (.ref C_BadMany)))
    (e1_BadMany : PySem.W.excIn K C_BadMany [.type "ValueError", .type "Exception", .type "BaseException", .type "object"] "ValueError.__new__" = true)
    (e2_BadMany : PySem.W.keepIn K (.ref C_BadMany) = true)
    (e3_BadMany : PySem.W.subIn K (.ref C_BadMany) (.type "BaseException") = some true)
    (e4_BadMany : PySem.W.typeIn K (.ref C_BadMany) = some (.type "type"))
    (e_BadNumber : PySem.W.nsIn K mainGlobals "BadNumber" = some (some (.ref C_BadNumber)))
    (e1_BadNumber : PySem.W.excIn K C_BadNumber [.type "ValueError", .type "Exception", .type "BaseException", .type "object"] "ValueError.__new__" = true)
    (e2_BadNumber : PySem.W.keepIn K (.ref C_BadNumber) = true)
    (e3_BadNumber : PySem.W.subIn K (.ref C_BadNumber) (.type "BaseException") = some true)
    (e4_BadNumber : PySem.W.typeIn K (.ref C_BadNumber) = some (.type "type"))
    (q_FARTHEST : PySem.W.nsIn K mainGlobals "FARTHEST" = some (some (.int 100 t_FARTHEST))) :
    ∃ (fd : FuncData), (∀ (s : Shared) (v : Value), BindsTo s fd ⟨[v], []⟩ [("_law_script", v)]) ∧ ∀ base : Heap, K.In base → base.Ns mainGlobals mg → FnOk l.prog w K mg base (L2.CX l.prog w) 5 fa fd ["_law_script"] (spLaw K m_law) := by
  have e := hfa.symm.trans (PySem.W.mg_of X G a_law)
  cases e
  have T : Bt K mg ⟨fun _ => 0, tblX [(2, C_BadRow), (3, C_BadMany), (4, C_BadNumber)]⟩ := ⟨PySem.W.mg_none_of X G z_range, PySem.W.mg_none_of X G z_reversed, PySem.W.mg_none_of X G z_enumerate, PySem.W.mg_none_of X G z_list, PySem.W.mg_none_of X G z_min, PySem.W.mg_none_of X G z_isinstance, PySem.W.mg_none_of X G z_int, PySem.W.mg_none_of X G z_all, PySem.W.mg_none_of X G z_len, PySem.W.mg_none_of X G z_sum, PySem.W.mg_none_of X G z_max, PySem.W.mg_none_of X G z_bool, PySem.W.mg_none_of X G z_sorted, PySem.W.mg_none_of X G z_zip, PySem.W.mg_none_of X G z_abs, ⟨_, PySem.W.mg_of X G q_FARTHEST⟩, ⟨PySem.W.mg_of X G e_BadRow, e1_BadRow, e2_BadRow, e3_BadRow, e4_BadRow⟩, ⟨PySem.W.mg_of X G e_BadMany, e1_BadMany, e2_BadMany, e3_BadMany, e4_BadMany⟩, ⟨PySem.W.mg_of X G e_BadNumber, e1_BadNumber, e2_BadNumber, e3_BadNumber, e4_BadNumber⟩⟩
  have F_is_number := fun_mk (st := st_is_number) l_is_number c_is_number k_is_number
  have b_is_number := F_is_number.binds (ps := ["thing"]) fun _ _ _ _ _ _ us hl => match us, hl with | [_], _ => rfl
  have F_check_row := fun_mk (st := st_check_row) l_check_row c_check_row k_check_row
  have b_check_row := F_check_row.binds (ps := ["row", "most"]) fun _ _ _ _ _ _ us hl => match us, hl with | [_, _], _ => rfl
  have F_ways_on := fun_mk (st := st_ways_on) l_ways_on c_ways_on k_ways_on
  have b_ways_on := F_ways_on.binds (ps := ["many"]) fun _ _ _ _ _ _ us hl => match us, hl with | [_], _ => rfl
  have F_check_many := fun_mk (st := st_check_many) l_check_many c_check_many k_check_many
  have b_check_many := F_check_many.binds (ps := ["many"]) fun _ _ _ _ _ _ us hl => match us, hl with | [_], _ => rfl
  have F_how_many := fun_mk (st := st_how_many) l_how_many c_how_many k_how_many
  have b_how_many := F_how_many.binds (ps := ["many"]) fun _ _ _ _ _ _ us hl => match us, hl with | [_], _ => rfl
  have F_row_by := fun_mk (st := st_row_by) l_row_by c_row_by k_row_by
  have b_row_by := F_row_by.binds (ps := ["many", "number"]) fun _ _ _ _ _ _ us hl => match us, hl with | [_, _], _ => rfl
  have F_number_of := fun_mk (st := st_number_of) l_number_of c_number_of k_number_of
  have b_number_of := F_number_of.binds (ps := ["row"]) fun _ _ _ _ _ _ us hl => match us, hl with | [_], _ => rfl
  have F_law_cell_at := fun_mk (st := st_law_cell_at) l_law_cell_at c_law_cell_at k_law_cell_at
  have b_law_cell_at := F_law_cell_at.binds (ps := ["_law_script", "_law_k"]) fun _ _ _ _ _ _ us hl => match us, hl with | [_, _], _ => rfl
  have F_law_draw := fun_mk (st := st_law_draw) l_law_draw c_law_draw k_law_draw
  have b_law_draw := F_law_draw.binds (ps := ["_law_cell", "_law_k", "_law_most"]) fun _ _ _ _ _ _ us hl => match us, hl with | [_, _, _], _ => rfl
  have F_law_number := fun_mk (st := st_law_number) l_law_number c_law_number k_law_number
  have b_law_number := F_law_number.binds (ps := ["_law_cell", "_law_k", "_law_limit"]) fun _ _ _ _ _ _ us hl => match us, hl with | [_, _, _], _ => rfl
  have F_law_row := fun_mk (st := st_law_row) l_law_row c_law_row k_law_row
  have b_law_row := F_law_row.binds (ps := ["_law_script", "_law_most", "_law_by"]) fun _ _ _ _ _ _ us hl => match us, hl with | [_, _, _], _ => rfl
  have F_law_whole := fun_mk (st := st_law_whole) l_law_whole c_law_whole k_law_whole
  have b_law_whole := F_law_whole.binds (ps := ["_law_number_here"]) fun _ _ _ _ _ _ us hl => match us, hl with | [_], _ => rfl
  have F_law_many := fun_mk (st := st_law_many) l_law_many c_law_many k_law_many
  have b_law_many := F_law_many.binds (ps := ["_law_many_here"]) fun _ _ _ _ _ _ us hl => match us, hl with | [_], _ => rfl
  have F_law_is_row := fun_mk (st := st_law_is_row) l_law_is_row c_law_is_row k_law_is_row
  have b_law_is_row := F_law_is_row.binds (ps := ["_law_found", "_law_many_here"]) fun _ _ _ _ _ _ us hl => match us, hl with | [_, _], _ => rfl
  have F_law_number_right := fun_mk (st := st_law_number_right) l_law_number_right c_law_number_right k_law_number_right
  have b_law_number_right := F_law_number_right.binds (ps := ["_law_many_here", "_law_number_here"]) fun _ _ _ _ _ _ us hl => match us, hl with | [_, _], _ => rfl
  have F_law_all := fun_mk (st := st_law_all) l_law_all c_law_all k_law_all
  have b_law_all := F_law_all.binds (ps := ["_law_many_here"]) fun _ _ _ _ _ _ us hl => match us, hl with | [_], _ => rfl
  have F_law := fun_mk (st := st_law) l_law c_law k_law
  refine ⟨PySem.W.fnOf "law" "law" (defArgs st_law) (defBody st_law) (defScope st_law) .none kV_law dc_law pm_law an_law cd_law ct_law, fun s v => .of_eq rfl, fun base _ _ => ?_⟩
  have C_is_number := cal_ok (P := l.prog) (w := w) (base := base) F_is_number (PySem.W.mg_of X G a_is_number) b_is_number (ok_is_number F_is_number T )
  have C_check_row := cal_ok (P := l.prog) (w := w) (base := base) F_check_row (PySem.W.mg_of X G a_check_row) b_check_row (ok_check_row F_check_row T C_is_number)
  have C_ways_on := cal_ok (P := l.prog) (w := w) (base := base) F_ways_on (PySem.W.mg_of X G a_ways_on) b_ways_on (ok_ways_on F_ways_on T )
  have C_check_many := cal_ok (P := l.prog) (w := w) (base := base) F_check_many (PySem.W.mg_of X G a_check_many) b_check_many (ok_check_many F_check_many T C_is_number)
  have C_how_many := cal_ok (P := l.prog) (w := w) (base := base) F_how_many (PySem.W.mg_of X G a_how_many) b_how_many (ok_how_many F_how_many T C_check_many C_ways_on)
  have C_row_by := cal_ok (P := l.prog) (w := w) (base := base) F_row_by (PySem.W.mg_of X G a_row_by) b_row_by (ok_row_by F_row_by T C_check_many C_ways_on C_is_number)
  have C_number_of := cal_ok (P := l.prog) (w := w) (base := base) F_number_of (PySem.W.mg_of X G a_number_of) b_number_of (ok_number_of F_number_of T C_check_row C_ways_on)
  have C_law_cell_at := cal_ok (P := l.prog) (w := w) (base := base) F_law_cell_at (PySem.W.mg_of X G a_law_cell_at) b_law_cell_at (ok_law_cell_at F_law_cell_at T )
  have C_law_draw := cal_ok (P := l.prog) (w := w) (base := base) F_law_draw (PySem.W.mg_of X G a_law_draw) b_law_draw (ok_law_draw F_law_draw T )
  have C_law_number := cal_ok (P := l.prog) (w := w) (base := base) F_law_number (PySem.W.mg_of X G a_law_number) b_law_number (ok_law_number F_law_number T C_law_draw)
  have C_law_row := cal_ok (P := l.prog) (w := w) (base := base) F_law_row (PySem.W.mg_of X G a_law_row) b_law_row (ok_law_row F_law_row T C_law_cell_at C_law_draw C_law_number)
  have C_law_whole := cal_ok (P := l.prog) (w := w) (base := base) F_law_whole (PySem.W.mg_of X G a_law_whole) b_law_whole (ok_law_whole F_law_whole T )
  have C_law_many := cal_ok (P := l.prog) (w := w) (base := base) F_law_many (PySem.W.mg_of X G a_law_many) b_law_many (ok_law_many F_law_many T )
  have C_law_is_row := cal_ok (P := l.prog) (w := w) (base := base) F_law_is_row (PySem.W.mg_of X G a_law_is_row) b_law_is_row (ok_law_is_row F_law_is_row T C_law_whole)
  have C_law_number_right := cal_ok (P := l.prog) (w := w) (base := base) F_law_number_right (PySem.W.mg_of X G a_law_number_right) b_law_number_right (ok_law_number_right F_law_number_right T C_row_by C_law_is_row C_number_of C_law_whole)
  have C_law_all := cal_ok (P := l.prog) (w := w) (base := base) F_law_all (PySem.W.mg_of X G a_law_all) b_law_all (ok_law_all F_law_all T )
  exact (ok_law F_law T C_law_cell_at C_law_draw C_how_many C_law_many C_law_whole C_law_number_right C_row_by C_law_row C_number_of C_law_all).imp fun vs H Q E h => sp_law h
theorem law_end {K : PySem.W.Frag} {H : Hp} {a : Addr} {ns : List Int} {m : List D → R} (h : m [.scr ns] = .ok (.bl true)) (hS : SqL K H a (ns.map V.int)) : spLaw K m [.ref a] H (fun v _ => v = .bl true) fun _ _ _ => False := ⟨a, ns, rfl, hS, h, fun _ => rfl⟩
theorem cx_false {P : Program} {w : World} {H : Hp} {s : Shared} {e : Value} {s' : Shared} (h : L2.CX P w [] H s (fun _ _ _ => False) e s') : False := by
  obtain ⟨_, _, _, _, _, _, _, _, _, _, _, _, z⟩ := h
  exact z

end PyS
/-! M1: counting rows of rising places (plain Lean). -/
namespace PyS
def sfx : List Nat → List Nat
  | [] => []
  | x :: xs => (x + (sfx xs).headD 0) :: sfx xs
def rowL (n : Nat) : Nat → List Nat
  | 0 => List.replicate (n + 1) 1
  | l + 1 => sfx ((rowL n l).take (n - l)) ++ List.replicate (l + 1) 0
def w (n l k : Nat) : Nat := (rowL n l).getD k 0
def S (f : Nat → Nat) (k : Nat) : Nat → Nat
  | 0 => 0
  | m + 1 => f k + S f (k + 1) m
theorem sfx_len : ∀ xs : List Nat, (sfx xs).length = xs.length
  | [] => rfl
  | x :: xs => by rw [sfx, List.length_cons, List.length_cons, sfx_len xs]
theorem sfx_get : ∀ (xs : List Nat) (k : Nat), k < xs.length → (sfx xs).getD k 0 = xs.getD k 0 + (sfx xs).getD (k + 1) 0
  | [], k, h => by simp at h
  | x :: xs, 0, _ => by
    rw [sfx]
    simp only [List.getD_cons_zero, List.getD_cons_succ]
    cases sfx xs <;> rfl
  | x :: xs, k + 1, h => by
    rw [sfx]
    simp only [List.getD_cons_succ]
    exact sfx_get xs k (by simpa using h)
theorem rowL_len (n : Nat) : ∀ l : Nat, l ≤ n → (rowL n l).length = n + 1
  | 0, _ => by simp [rowL]
  | l + 1, h => by
    have := rowL_len n l (by omega)
    simp [rowL, sfx_len, this]
    omega
theorem getD_pad (xs : List Nat) (m k : Nat) : (xs ++ List.replicate m 0).getD k 0 = xs.getD k 0 := by
  simp only [List.getD_eq_getElem?_getD, List.getElem?_append]
  split
  · rfl
  · rename_i h
    rw [List.getElem?_eq_none (l := xs) (by omega)]
    simp only [List.getElem?_replicate]
    split <;> rfl
theorem w_zero (n k : Nat) (h : k ≤ n) : w n 0 k = 1 := by
  unfold w rowL
  rw [List.getD_eq_getElem?_getD, List.getElem?_replicate, if_pos (by omega)]
  rfl
theorem w_zero_le (n k : Nat) : w n 0 k ≤ 1 := by
  unfold w rowL
  rw [List.getD_eq_getElem?_getD, List.getElem?_replicate]
  split <;> simp
theorem w_sfx (n l k : Nat) : w n (l + 1) k = (sfx ((rowL n l).take (n - l))).getD k 0 := by
  unfold w
  rw [rowL, getD_pad]
theorem w_step (n l k : Nat) (hl : l + 1 ≤ n) (hk : k < n - l) : w n (l + 1) k = w n l k + w n (l + 1) (k + 1) := by
  have hlen := rowL_len n l (by omega)
  rw [w_sfx, w_sfx, sfx_get _ _ (by rw [List.length_take, hlen]; omega)]
  congr 1
  unfold w
  simp only [List.getD_eq_getElem?_getD]
  rw [List.getElem?_take_of_lt hk]
theorem w_end (n l k : Nat) (hl : l + 1 ≤ n) (hk : n - l ≤ k) : w n (l + 1) k = 0 := by
  have hlen := rowL_len n l (by omega)
  rw [w_sfx, List.getD_eq_getElem?_getD, List.getElem?_eq_none (by rw [sfx_len, List.length_take, hlen]; omega)]
  rfl
theorem w_sum (n l : Nat) (hl : l + 1 ≤ n) : ∀ (m k : Nat), n - l - k = m → w n (l + 1) k = S (w n l) k m
  | 0, k, h => by rw [w_end n l k hl (by omega)]; rfl
  | m + 1, k, h => by
    rw [w_step n l k hl (by omega), S, w_sum n l hl m (k + 1) (by omega)]
theorem S_add (f : Nat → Nat) : ∀ (a k b : Nat), S f k (a + b) = S f k a + S f (k + a) b
  | 0, k, b => by simp [S]
  | a + 1, k, b => by
    rw [show a + 1 + b = (a + b) + 1 by omega, S, S, S_add f a (k + 1) b, show k + 1 + a = k + (a + 1) by omega]
    omega
theorem S_succ (f : Nat → Nat) (k a : Nat) : S f k (a + 1) = S f k a + f (k + a) := by
  rw [S_add]
  simp [S]
theorem S_mono (f : Nat → Nat) (k a b : Nat) (h : a ≤ b) : S f k a ≤ S f k b := by
  obtain ⟨c, rfl⟩ := Nat.exists_eq_add_of_le h
  rw [S_add]
  omega
/-! ### rank, seek, unrank -/
def rank (n : Nat) : Nat → List Nat → Nat
  | _, [] => 0
  | k, p :: ps => S (w n ps.length) k (p - k) + rank n p ps
def seek (f : Nat → Nat) : Nat → Nat → Nat → Nat × Nat
  | 0, k, x => (k, x)
  | m + 1, k, x => if f k ≤ x then seek f m (k + 1) (x - f k) else (k, x)
def unrank (n : Nat) : Nat → Nat → Nat → List Nat
  | 0, _, _ => []
  | l + 1, k, x => (seek (w n l) (n - l - k) k x).1 :: unrank n l (seek (w n l) (n - l - k) k x).1 (seek (w n l) (n - l - k) k x).2
def Vd (n : Nat) : Nat → List Nat → Prop
  | _, [] => True
  | k, p :: ps => k ≤ p ∧ p + ps.length < n ∧ Vd n p ps
theorem seek_spec (f : Nat → Nat) : ∀ (m k x : Nat), x < S f k m → k ≤ (seek f m k x).1 ∧ (seek f m k x).1 < k + m ∧ (seek f m k x).2 < f (seek f m k x).1 ∧ x = S f k ((seek f m k x).1 - k) + (seek f m k x).2
  | 0, k, x, h => by simp [S] at h
  | m + 1, k, x, h => by
    unfold seek
    split
    · rename_i hx
      obtain ⟨h1, h2, h3, h4⟩ := seek_spec f m (k + 1) (x - f k) (by rw [S] at h; omega)
      refine ⟨by omega, by omega, h3, ?_⟩
      rw [show (seek f m (k + 1) (x - f k)).1 - k = ((seek f m (k + 1) (x - f k)).1 - (k + 1)) + 1 by omega, S]
      omega
    · rename_i hx
      refine ⟨Nat.le_refl _, by omega, by simpa using hx, ?_⟩
      simp [S]
theorem unrank_spec (n : Nat) : ∀ (l k x : Nat), l ≤ n → x < w n l k → (unrank n l k x).length = l ∧ Vd n k (unrank n l k x) ∧ rank n k (unrank n l k x) = x
  | 0, k, x, hl, h => by
    have := w_zero_le n k
    exact ⟨rfl, trivial, by simp [unrank, rank]; omega⟩
  | l + 1, k, x, hl, h => by
    rw [w_sum n l hl _ k rfl] at h
    obtain ⟨h1, h2, h3, h4⟩ := seek_spec _ _ _ _ h
    obtain ⟨i1, i2, i3⟩ := unrank_spec n l _ _ (by omega) h3
    refine ⟨by rw [unrank, List.length_cons, i1], ⟨h1, by rw [i1]; omega, i2⟩, ?_⟩
    rw [unrank, rank, i1, i3]
    exact h4.symm
theorem rank_lt (n : Nat) : ∀ (k : Nat) (ps : List Nat), ps.length ≤ n → k ≤ n → Vd n k ps → rank n k ps < w n ps.length k
  | k, [], hl, hk, _ => by
    rw [List.length_nil, w_zero n k hk]
    exact Nat.one_pos
  | k, p :: ps, hl, hk, ⟨h1, h2, h3⟩ => by
    rw [List.length_cons] at hl ⊢
    rw [w_sum n ps.length hl _ k rfl, rank]
    have := rank_lt n p ps (by omega) (by omega) h3
    have e : n - ps.length - k = (p - k) + ((n - ps.length - p - 1) + 1) := by omega
    rw [e, S_add, S, show k + (p - k) = p by omega]
    omega
theorem rank_cons_lt (n k p q : Nat) (ps qs : List Nat) (hl : ps.length + 1 ≤ n) (hpq : p < q) (e : ps.length = qs.length) (h1 : Vd n k (p :: ps)) : rank n k (p :: ps) < rank n k (q :: qs) := by
  obtain ⟨a, b, c⟩ := h1
  have := rank_lt n p ps (by omega) (by omega) c
  rw [rank, rank, ← e]
  have m := S_mono (w n ps.length) k (p - k + 1) (q - k) (by omega)
  rw [S_succ, show k + (p - k) = p by omega] at m
  omega
theorem rank_inj (n : Nat) : ∀ (k : Nat) (ps qs : List Nat), ps.length ≤ n → ps.length = qs.length → Vd n k ps → Vd n k qs → rank n k ps = rank n k qs → ps = qs
  | k, [], [], _, _, _, _, _ => rfl
  | k, [], q :: qs, _, e, _, _, _ => by simp at e
  | k, p :: ps, [], _, e, _, _, _ => by simp at e
  | k, p :: ps, q :: qs, hl, e, h1, h2, h => by
    have e' : ps.length = qs.length := by simpa using e
    have hl' : ps.length + 1 ≤ n := hl
    rcases Nat.lt_trichotomy p q with z | z | z
    · have := rank_cons_lt n k p q ps qs hl' z e' h1
      omega
    · subst z
      rw [rank, rank, e'] at h
      rw [rank_inj n p ps qs (by omega) e' h1.2.2 h2.2.2 (by omega)]
    · have := rank_cons_lt n k q p qs ps (by omega) z e'.symm h2
      omega
theorem rank_rfl (n : Nat) : ∀ (k : Nat) (ps qs : List Nat), ps.length ≤ n → ps.length = qs.length → Vd n k ps → Vd n k qs → rank n k ps < rank n k qs → ps.map (fun (i : Nat) => (i : Int)) < qs.map (fun (i : Nat) => (i : Int))
  | k, [], [], _, _, _, _, h => by simp [rank] at h
  | k, [], q :: qs, _, e, _, _, _ => by simp at e
  | k, p :: ps, [], _, e, _, _, _ => by simp at e
  | k, p :: ps, q :: qs, hl, e, h1, h2, h => by
    have e' : ps.length = qs.length := by simpa using e
    have hl' : ps.length + 1 ≤ n := hl
    rw [List.map_cons, List.map_cons, List.cons_lt_cons_iff]
    rcases Nat.lt_trichotomy p q with z | z | z
    · exact .inl (by omega)
    · subst z
      rw [rank, rank, e'] at h
      exact .inr ⟨rfl, rank_rfl n p ps qs (by omega) e' h1.2.2 h2.2.2 (by omega)⟩
    · have := rank_cons_lt n k q p qs ps (by omega) z e'.symm h2
      omega
theorem unrank_rank (n k : Nat) (ps : List Nat) (hl : ps.length ≤ n) (hk : k ≤ n) (h : Vd n k ps) : unrank n ps.length k (rank n k ps) = ps := by
  obtain ⟨h1, h2, h3⟩ := unrank_spec n ps.length k (rank n k ps) hl (rank_lt n k ps hl hk h)
  exact rank_inj n k _ _ (by omega) h1 h2 h h3
/-! ### the numbers -/
def catL : Nat → List Nat
  | 0 => [1]
  | n + 1 => catL n ++ [((List.range (n + 1)).map fun i => (catL n).getD i 0 * (catL n).getD (n - i) 0).sum]
def cat (n : Nat) : Nat := (catL n).getD n 0
end PyS
set_option maxRecDepth 100000
namespace PyS
theorem cat_small : ∀ n, n < 31 → w n n 0 = cat n := by decide +kernel
theorem cat_100 : w 100 100 0 = cat 100 := by decide +kernel
theorem w_small : (w 0 0 0, w 1 1 0, w 2 2 0, w 3 3 0, w 4 4 0, w 19 19 0, w 20 20 0) = (1,1,2,5,14,1767263190,6564120420) := by decide +kernel
theorem rank_c1 : rank 20 0 ([0,1] ++ List.replicate 18 1) = 4796857230 := by decide +kernel
theorem rank_c2 : rank 20 0 ([0,0] ++ (List.range 18).map (· + 2)) = 4796857229 := by decide +kernel
theorem rank_c3 : rank 100 0 (List.replicate 99 0 ++ [99]) = 99 := by decide +kernel
theorem rank_c4 : rank 100 0 (List.range 100) = w 100 100 0 - 1 := by decide +kernel
end PyS
set_option maxRecDepth 100000
set_option maxHeartbeats 4000000
namespace PyS
open PySem PySem.Spec PyProof.Rows L2
/-! M3: reckoning with the mirrors. -/
theorem forGo_inv {fg : D → Env → Option Env} {s : Env → O} (I : Nat → Env → Prop) : ∀ (ds : List D) (i0 : Nat) (env : Env), I i0 env → (∀ i d, ds[i]? = some d → ∀ env, I (i0 + i) env → ∃ e1 e2, fg d env = some e1 ∧ s e1 = .nx e2 ∧ I (i0 + i + 1) e2) → ∃ e', forGo fg s ds env = .nx e' ∧ I (i0 + ds.length) e'
  | [], i0, env, h0, _ => ⟨env, rfl, h0⟩
  | d :: ds, i0, env, h0, h => by
    obtain ⟨e1, e2, h1, h2, h3⟩ := h 0 d rfl env h0
    obtain ⟨e', h4, h5⟩ := forGo_inv I ds (i0 + 1) e2 h3 fun i d hd env hi => by
      have := h (i + 1) d (by simpa using hd) env (by rw [show i0 + (i + 1) = i0 + 1 + i by omega]; exact hi)
      rw [show i0 + (i + 1) + 1 = i0 + 1 + i + 1 by omega] at this
      exact this
    refine ⟨e', ?_, by rw [List.length_cons, show i0 + (ds.length + 1) = i0 + 1 + ds.length by omega]; exact h5⟩
    rw [forGo]
    simp only [h1, h2, oSeq, h4]
theorem while_inv {ft : Env → R} {s : Env → O} (I : Nat → Env → Prop) (J : Env → Prop) (h : ∀ m env, I m env → (ft env = .ok (.bl false) ∧ J env) ∨ (ft env = .ok (.bl true) ∧ ∃ m' e', m' < m ∧ s env = .nx e' ∧ I m' e')) : ∀ (fuel m : Nat) (env : Env), m < fuel → I m env → ∃ e', whileGo ft s fuel env = .nx e' ∧ J e'
  | 0, m, env, hm, _ => by omega
  | fuel + 1, m, env, hm, hi => by
    rcases h m env hi with ⟨h1, h2⟩ | ⟨h1, m', e', h2, h3, h4⟩
    · exact ⟨env, by simp only [whileGo, h1, oIf, oR], h2⟩
    · obtain ⟨e2, h5, h6⟩ := while_inv I J h fuel m' e' (by omega) h4
      exact ⟨e2, by simp only [whileGo, h1, oIf, oR, h3, oSeq, h5], h6⟩
theorem lcGo_map {fg : D → Env → Option Env} {fe : Env → R} {env : Env} (k : D → D) : ∀ (ds : List D), (∀ d ∈ ds, ∃ e', fg d env = some e' ∧ fe e' = .ok (k d)) → lcGo fg (e_c (.bl true)) fe env ds = some (ds.map k)
  | [], _ => rfl
  | d :: ds, h => by
    obtain ⟨e', h1, h2⟩ := h d List.mem_cons_self
    rw [lcGo]
    have := lcGo_map (fe := fe) (fg := fg) k ds fun d hd => h d (List.mem_cons_of_mem _ hd)
    simp only [h1, h2, List.map_cons, this]
    rfl
theorem g_add_ap (i j : Int) : g_add (.int i) (.int j) = .ok (.int (i + j)) := rfl
theorem g_sub_ap (i j : Int) : g_sub (.int i) (.int j) = .ok (.int (i - j)) := rfl
theorem g_lt_ap (i j : Int) : g_lt (.int i) (.int j) = .ok (.bl (decide (i < j))) := rfl
theorem g_le_ap (i j : Int) : g_le (.int i) (.int j) = .ok (.bl (decide (i ≤ j))) := rfl
theorem g_gt_ap (i j : Int) : g_gt (.int i) (.int j) = .ok (.bl (decide (j < i))) := rfl
theorem g_ge_ap (i j : Int) : g_ge (.int i) (.int j) = .ok (.bl (decide (j ≤ i))) := rfl
theorem g_mul_ap (i j : Int) (h : mulOk i j = true) : g_mul (.int i) (.int j) = .ok (.int (i * j)) := if_pos h
theorem g_div_ap (i j : Int) (h : divOk i j = true) : g_div (.int i) (.int j) = .ok (.int (i / j)) := if_pos h
theorem g_mod_ap (i j : Int) (h : 0 < j) : g_mod (.int i) (.int j) = .ok (.int (i % j)) := if_pos (decide_eq_true h)
theorem g_pow_ap (i j : Int) (h : powOk i j = true) : g_pow (.int i) (.int j) = .ok (.int (i ^ j.toNat)) := if_pos h
theorem n_rng1_ap (fa : Env → R) (env : Env) : n_rng1 fa env = a_cons (e_c (.int 0)) (a_cons fa a_nil) env := rfl
theorem n_rng2_ap (fa fb : Env → R) (env : Env) : n_rng2 fa fb env = a_cons fa (a_cons fb a_nil) env := rfl
theorem e_not_ap (fa : Env → R) (env : Env) : e_not fa env = e_un g_not fa env := rfl
theorem e_isi_ap (T : String) (fa : Env → R) (env : Env) : e_isi T fa env = e_un (isTy T) fa env := rfl
theorem e_own_ap (n : Nat) (m : List D → R) (fs : Env → RA) (env : Env) : e_own n m fs env = e_call (fun ds => if ds.length = n then m ds else .bad) fs env := rfl
/-- a list of places -/
def nn (xs : List Nat) : List D := xs.map fun (k : Nat) => D.int (k : Int)
def dn (xs : List Nat) : D := .lst (nn xs)
@[simp] theorem nn_len (xs : List Nat) : (nn xs).length = xs.length := by simp [nn]
theorem rgD_nat (a b : Nat) : rgD (a : Int) (b : Int) = nn ((List.range (b - a)).map (a + ·)) := by
  unfold rgD nn
  rw [List.map_map]
  have : ((b : Int) - (a : Int)).toNat = b - a := by omega
  rw [this]
  apply List.map_congr_left
  intro i _
  simp
theorem rgD_zero (b : Nat) : rgD 0 (b : Int) = nn (List.range b) := by
  have := rgD_nat 0 b
  simpa using this
theorem rgD_rev_get (b i : Nat) (d : D) (h : (rgD 0 (b : Int)).reverse[i]? = some d) : i < b ∧ d = .int ((b - 1 - i : Nat) : Int) := by
  rw [rgD_zero] at h
  have hl : i < (nn (List.range b)).reverse.length := (List.getElem?_eq_some_iff.mp h).1
  simp at hl
  rw [List.getElem?_reverse (by simpa using hl)] at h
  refine ⟨hl, ?_⟩
  simp [nn] at h
  obtain ⟨a, h1, h2⟩ := h
  rw [List.getElem?_range (by omega)] at h1
  simp at h1
  subst h1
  exact h2.symm
theorem ixN_nat (n k : Nat) (h : k < n) : ixN n (k : Int) = some k := by
  unfold ixN
  simp
  omega
theorem atI_nat {xs : List D} {k : Nat} {d : D} (h : xs[k]? = some d) : atI xs (k : Int) = some d := by
  have hl := (List.getElem?_eq_some_iff.mp h).1
  unfold atI
  rw [ixN_nat _ _ hl]
  exact h
@[simp] theorem g_ixs_nn {xs : List Nat} {k : Nat} (h : k < xs.length) : g_ixs (.lst (nn xs)) (.int (k : Int)) = .ok (.int ((xs.getD k 0 : Nat) : Int)) := by
  have e : (nn xs)[k]? = some (.int ((xs.getD k 0 : Nat) : Int)) := by
    simp [nn, List.getElem?_eq_getElem h]
  have := atI_nat e
  simp only [g_ixs, g_ix, asSeq, this, scOnly]
theorem m_is_number_int (i : Int) : m_is_number [.int i] = .ok (.bl true) := by
  unfold m_is_number
  rfl
theorem m_law_whole_int (i : Int) : m_law_whole [.int i] = .ok (.bl true) := by
  unfold m_law_whole
  rfl
theorem m_check_many_nat (n : Nat) (h : n ≤ 100) : m_check_many [.int n] = .ok .non := by
  unfold m_check_many
  simp [body, s_check_many, s_if, e_or, e_not, e_own, e_call, a_cons, a_nil, rCons, rCall, e_var, startE, e_un, r1, m_is_number_int, g_not, rOr, e_chain, rChain, e_c, g_le, gI, oIf, oR, fin, s_pass]
  have h1 : (0 : Int) ≤ n := by omega
  have h2 : (n : Int) ≤ 100 := by omega
  simp [h1, h2, oR]
end PyS
set_option maxRecDepth 100000
set_option maxHeartbeats 4000000
namespace PyS
open PySem PySem.Spec PyProof.Rows L2
def rows (n m : Nat) : List D := (List.range m).map fun l => dn (rowL n l)
theorem rows_succ (n m : Nat) : rows n (m + 1) = rows n m ++ [dn (rowL n m)] := by
  unfold rows
  rw [List.range_succ, List.map_append]
  rfl
@[simp] theorem rows_len (n m : Nat) : (rows n m).length = m := by simp [rows]
theorem g_ix_last (ds : List D) (d : D) : g_ix (.lst (ds ++ [d])) (.int (-1)) = .ok d := by
  have e : atI (ds ++ [d]) (-1) = some d := by
    unfold atI ixN
    simp
    rw [if_pos (by omega)]
    simp
    have : ((-1 : Int) + ((ds.length : Int) + 1)).toNat = ds.length := by omega
    rw [this]
    simp
  simp only [g_ix, asSeq, e]
def zr (n l j : Nat) : List Nat := (List.range (n + 1)).map fun i => if i < j then 0 else w n (l + 1) i
@[simp] theorem zr_len (n l j : Nat) : (zr n l j).length = n + 1 := by simp [zr]
theorem zr_zero (n l : Nat) (h : l + 1 ≤ n) : zr n l 0 = rowL n (l + 1) := by
  apply List.ext_getElem
  · rw [zr_len, rowL_len n _ h]
  · intro i h1 h2
    simp [zr, w, List.getElem?_eq_getElem h2]
theorem zr_top (n l : Nat) (h : l + 1 ≤ n) : zr n l (n - l) = List.replicate (n + 1) 0 := by
  apply List.ext_getElem
  · simp
  · intro i h1 h2
    simp [zr]
    intro h3
    exact w_end n l i h (by omega)
theorem zr_set (n l k : Nat) (h : k < n + 1) : (zr n l (k + 1)).set k (w n (l + 1) k) = zr n l k := by
  apply List.ext_getElem
  · simp
  · intro i h1 h2
    rw [List.getElem_set]
    simp only [zr, List.getElem_map, List.getElem_range]
    by_cases hi : k = i
    · subst hi
      simp
    · rw [if_neg hi]
      have : i < k + 1 ↔ i < k := by omega
      simp only [this]
theorem zr_get (n l j k : Nat) (h : k < n + 1) (hj : j ≤ k) : (zr n l j).getD k 0 = w n (l + 1) k := by
  rw [List.getD_eq_getElem?_getD, List.getElem?_eq_getElem (by simpa using h)]
  simp [zr]
  omega
theorem nn_set (xs : List Nat) (k v : Nat) : (nn xs).set k (.int (v : Int)) = nn (xs.set k v) := by
  unfold nn
  rw [List.map_set]
theorem rep_nn (n v : Nat) (h : n ≤ 1000) : g_rep (.lst [.int (v : Int)]) (.int (n : Int)) = .ok (dn (List.replicate n v)) := by
  simp only [g_rep, List.length_cons, List.length_nil]
  rw [if_pos (by omega)]
  simp [dn, nn]
theorem mask_14 (a b c d e f : Option D) : mask [1, 4] [a, b, c, d, e, f] = [a, none, c, d, none, f] := rfl
theorem ways_inner (n l k : Nat) (hn : n ≤ 100) (hl : l + 1 ≤ n) (hk : k < n - l) (c : Option D) (x : Option D) :
    s_put 4 (e_ivar 5) (e_op g_add (e_op g_ixs (e_var 4) (e_op g_add (e_ivar 5) (e_c (.int 1)))) (e_op g_ixs (e_op g_ix (e_var 1) (e_un g_neg (e_c (.int 1)))) (e_ivar 5)))
      [some (.int n), some (.lst (rows n (l + 1))), c, x, some (dn (zr n l (k + 1))), some (.int k)]
    = .nx [some (.int n), some (.lst (rows n (l + 1))), c, x, some (dn (zr n l k)), some (.int k)] := by
  have e1 : (k : Int) + 1 = ((k + 1 : Nat) : Int) := by omega
  have e2 := g_ix_last (rows n l) (dn (rowL n l))
  rw [← rows_succ] at e2
  have e3 := g_ixs_nn (xs := rowL n l) (k := k) (by rw [rowL_len n l (by omega)]; omega)
  have e4 := g_ixs_nn (xs := zr n l (k + 1)) (k := k + 1) (by rw [zr_len]; omega)
  rw [zr_get n l _ _ (by omega) (by omega)] at e4
  have e5 := ixN_nat (n + 1) k (by omega)
  have e6 : (w n (l + 1) (k + 1) : Int) + ((rowL n l).getD k 0 : Nat) = ((w n (l + 1) k : Nat) : Int) := by
    rw [w_step n l k hl hk]
    unfold w
    omega
  simp only [s_seq, oSeq, s_pass, s_set, s_setM, s_setA, s_mv, s_expr, s_ret, s_retM, oIf, s_if, s_raise, withL, s_app, s_appM, s_ext, s_put, s_aug, oR, oA, s_par, setX, e_and, e_or, e_not_ap, e_own_ap, e_call, a_cons, a_nil, rCons, rCall, e_var, e_ivar, e_c, e_un, r1, r2, e_op, e_lst, e_tup, aL, g_not, rOr, rAnd, e_chain, rChain, g_le_ap, g_lt_ap, g_ge_ap, g_gt_ap, g_add_ap, g_sub_ap, scOnly, e_if, rIf, ownOk, g_name, g_tup, setAll, e_isi_ap, isTy, tyD, g_len, asSeq, asL, fin, g_neg, i_rng1, i_rng2, i_list, i_tup, i_enum, i_zip, i_revr, asRg1, asRg2, asRgV, asIt, asTup, asEn, asZip, n_rng1_ap, n_rng2_ap, List.getElem?_cons_zero, List.getElem?_cons_succ, List.set_cons_zero, List.set_cons_succ, List.length_cons, List.length_nil, reduceIte, if_true, if_false, Bool.false_eq_true, Bool.not_true, Bool.not_false, e1, e2, dn, e3, e4, e5, nn_len, zr_len, e6, nn_set, zr_set n l k (by omega)]
theorem ways_mid (n l : Nat) (hn : n ≤ 100) (hl : l + 1 ≤ n) (x y z : Option D) :
    ∃ x' y' z', (s_seq (s_set 3 (e_op g_sub (e_ivar 0) (e_ivar 2)))
  (s_seq (s_setM 4 (e_op g_rep (e_lst (a_cons (e_c (.int 0)) a_nil)) (e_op g_add (e_ivar 0) (e_c (.int 1)))))
  (s_seq (s_for [1, 4] (i_revr (n_rng1 (e_op g_add (e_ivar 3) (e_c (.int 1))))) (g_name 5)
  (s_put 4 (e_ivar 5) (e_op g_add (e_op g_ixs (e_var 4) (e_op g_add (e_ivar 5) (e_c (.int 1)))) (e_op g_ixs (e_op g_ix (e_var 1) (e_un g_neg (e_c (.int 1)))) (e_ivar 5)))))
  (s_appM 1 4))))
      [some (.int n), some (.lst (rows n (l + 1))), some (.int ((1 + l : Nat) : Int)), x, y, z]
    = .nx [some (.int n), some (.lst (rows n (l + 2))), some (.int ((1 + l : Nat) : Int)), x', y', z'] := by
  have e1 : (n : Int) - ((1 + l : Nat) : Int) = ((n - (l + 1) : Nat) : Int) := by omega
  have e2 := rep_nn (n + 1) 0 (by omega)
  have e3 : (n : Int) + 1 = ((n + 1 : Nat) : Int) := by omega
  have e4 : (((n - (l + 1) : Nat) : Int) + 1) = ((n - l : Nat) : Int) := by omega
  have e5 : rgOk 0 ((n - l : Nat) : Int) = true := by
    simp [rgOk]
    omega
  obtain ⟨e', h1, x', h2⟩ := forGo_inv (fg := g_name 5) (s := s_put 4 (e_ivar 5) (e_op g_add (e_op g_ixs (e_var 4) (e_op g_add (e_ivar 5) (e_c (.int 1)))) (e_op g_ixs (e_op g_ix (e_var 1) (e_un g_neg (e_c (.int 1)))) (e_ivar 5))))
    (fun i env => ∃ z, env = [some (.int n), some (.lst (rows n (l + 1))), some (.int ((1 + l : Nat) : Int)), some (.int ((n - (l + 1) : Nat) : Int)), some (dn (zr n l (n - l - i))), z])
    (rgD 0 ((n - l : Nat) : Int)).reverse 0 [some (.int n), some (.lst (rows n (l + 1))), some (.int ((1 + l : Nat) : Int)), some (.int ((n - (l + 1) : Nat) : Int)), some (dn (zr n l (n - l))), z] ⟨z, rfl⟩
    (by
      rintro i d hd env ⟨z, rfl⟩
      obtain ⟨hi, rfl⟩ := rgD_rev_get _ _ _ hd
      refine ⟨_, _, rfl, ?_, some (.int ((n - l - 1 - i : Nat) : Int)), rfl⟩
      have := ways_inner n l (n - l - 1 - i) hn hl (by omega) (some (.int ((1 + l : Nat) : Int))) (some (.int ((n - (l + 1) : Nat) : Int)))
      rw [show n - l - (0 + i) = n - l - 1 - i + 1 by omega, show n - l - (0 + i + 1) = n - l - 1 - i by omega]
      exact this)
  have hlen : (rgD 0 ((n - l : Nat) : Int)).reverse.length = n - l := by
    rw [rgD_zero]
    simp
  rw [hlen, show n - l - (0 + (n - l)) = 0 by omega, zr_zero n l hl] at h2
  subst h2
  refine ⟨some (.int ((n - (l + 1) : Nat) : Int)), none, x', ?_⟩
  have e6 : (rows n (l + 1)).length < 100000 := by
    rw [rows_len]
    omega
  have e7 : rows n (l + 2) = rows n (l + 1) ++ [dn (rowL n (l + 1))] := rows_succ n (l + 1)
  rw [zr_top n l hl] at h1
  have e8 : ((0 : Nat) : Int) = 0 := rfl
  rw [e8] at e2
  simp only [dn] at h1 e2
  simp only [s_for, s_seq, oSeq, s_pass, s_set, s_setM, s_setA, s_mv, s_expr, s_ret, s_retM, oIf, s_if, s_raise, withL, s_app, s_appM, s_ext, s_put, s_aug, oR, oA, s_par, setX, e_and, e_or, e_not_ap, e_own_ap, e_call, a_cons, a_nil, rCons, rCall, e_var, e_ivar, e_c, e_un, r1, r2, e_op, e_lst, e_tup, aL, g_not, rOr, rAnd, e_chain, rChain, g_le_ap, g_lt_ap, g_ge_ap, g_gt_ap, g_add_ap, g_sub_ap, scOnly, e_if, rIf, ownOk, g_name, g_tup, setAll, e_isi_ap, isTy, tyD, g_len, asSeq, asL, fin, g_neg, i_rng1, i_rng2, i_list, i_tup, i_enum, i_zip, i_revr, asRg1, asRg2, asRgV, asIt, asTup, asEn, asZip, n_rng1_ap, n_rng2_ap, List.getElem?_cons_zero, List.getElem?_cons_succ, List.set_cons_zero, List.set_cons_succ, List.length_cons, List.length_nil, reduceIte, if_true, if_false, Bool.false_eq_true, Bool.not_true, Bool.not_false, e1, e3, e2, e4, e5, mask_14, h1, e6, e7, dn, Nat.zero_add, Nat.reduceLeDiff]
theorem m_ways (n : Nat) (hn : n ≤ 100) : m_ways_on [.int n] = .ok (.lst (rows n (n + 1))) := by
  unfold m_ways_on
  have e2 := rep_nn (n + 1) 1 (by omega)
  have e3 : (n : Int) + 1 = ((n + 1 : Nat) : Int) := by omega
  have e5 : rgOk 1 ((n + 1 : Nat) : Int) = true := by
    simp [rgOk]
    omega
  have e1 : rgD 1 ((n + 1 : Nat) : Int) = nn ((List.range n).map (1 + ·)) := by
    have := rgD_nat 1 (n + 1)
    simpa using this
  have e8 : ((1 : Nat) : Int) = 1 := rfl
  rw [e8] at e2
  have key := fun x y z => forGo_inv (fg := g_name 2) (s := (s_seq (s_set 3 (e_op g_sub (e_ivar 0) (e_ivar 2)))
  (s_seq (s_setM 4 (e_op g_rep (e_lst (a_cons (e_c (.int 0)) a_nil)) (e_op g_add (e_ivar 0) (e_c (.int 1)))))
  (s_seq (s_for [1, 4] (i_revr (n_rng1 (e_op g_add (e_ivar 3) (e_c (.int 1))))) (g_name 5)
  (s_put 4 (e_ivar 5) (e_op g_add (e_op g_ixs (e_var 4) (e_op g_add (e_ivar 5) (e_c (.int 1)))) (e_op g_ixs (e_op g_ix (e_var 1) (e_un g_neg (e_c (.int 1)))) (e_ivar 5)))))
  (s_appM 1 4)))))
    (fun i env => ∃ a x y z, env = [some (.int n), some (.lst (rows n (i + 1))), a, x, y, z])
    (nn ((List.range n).map (1 + ·))) 0 [some (.int n), some (.lst (rows n 1)), none, x, y, z] ⟨none, x, y, z, rfl⟩
    (by
      rintro i d hd env ⟨a, x, y, z, rfl⟩
      have hi : i < n := by
        have := (List.getElem?_eq_some_iff.mp hd).1
        simpa using this
      have ed : d = .int ((1 + i : Nat) : Int) := by
        simp [nn, List.getElem?_map, List.getElem?_range hi] at hd
        rw [← hd]
        simp
      subst ed
      obtain ⟨x', y', z', h⟩ := ways_mid n i hn hi x y z
      rw [show 0 + i + 1 = i + 1 by omega, show i + 1 + 1 = i + 2 by omega]
      exact ⟨_, _, rfl, h, _, x', y', z', rfl⟩)
  obtain ⟨e', h1, a, x', y', z', h2⟩ := key none none none
  rw [nn_len, List.length_map, List.length_range, Nat.zero_add] at h2
  subst h2
  have er : rows n 1 = [.lst (nn (List.replicate (n + 1) 1))] := rfl
  rw [er] at h1
  simp only [dn] at h1 e2
  have hs : startE 6 [.int (n : Int)] = [some (.int (n : Int)), none, none, none, none, none] := rfl
  simp only [body, s_ways_on, hs, s_for, s_seq, oSeq, s_pass, s_set, s_setM, s_setA, s_mv, s_expr, s_ret, s_retM, oIf, s_if, s_raise, withL, s_app, s_appM, s_ext, s_put, s_aug, oR, oA, s_par, setX, e_and, e_or, e_not_ap, e_own_ap, e_call, a_cons, a_nil, rCons, rCall, e_var, e_ivar, e_c, e_un, r1, r2, e_op, e_lst, e_tup, aL, g_not, rOr, rAnd, e_chain, rChain, g_le_ap, g_lt_ap, g_ge_ap, g_gt_ap, g_add_ap, g_sub_ap, scOnly, e_if, rIf, ownOk, g_name, g_tup, setAll, e_isi_ap, isTy, tyD, g_len, asSeq, asL, fin, g_neg, i_rng1, i_rng2, i_list, i_tup, i_enum, i_zip, i_revr, asRg1, asRg2, asRgV, asIt, asTup, asEn, asZip, n_rng1_ap, n_rng2_ap, List.getElem?_cons_zero, List.getElem?_cons_succ, List.set_cons_zero, List.set_cons_succ, List.length_cons, List.length_nil, reduceIte, if_true, if_false, Bool.false_eq_true, Bool.not_true, Bool.not_false, e3, e2, e1, e5, mask_14, h1, Nat.zero_add, Nat.reduceLeDiff]
end PyS
set_option maxRecDepth 100000
set_option maxHeartbeats 4000000
namespace PyS
open PySem PySem.Spec PyProof.Rows L2
theorem g_ix_rows (n m l : Nat) (h : l < m) : g_ix (.lst (rows n m)) (.int (l : Int)) = .ok (.lst (nn (rowL n l))) := by
  have e : (rows n m)[l]? = some (.lst (nn (rowL n l))) := by
    simp [rows, List.getElem?_map, List.getElem?_range h, dn]
  have := atI_nat e
  simp only [g_ix, asSeq, this]
theorem g_row_at (n l k : Nat) (h : l ≤ n) (hk : k ≤ n) : g_ixs (.lst (nn (rowL n l))) (.int (k : Int)) = .ok (.int (w n l k : Nat)) :=
  g_ixs_nn (by rw [rowL_len n l h]; omega)
theorem g_row_0 (n l : Nat) (h : l ≤ n) : g_ixs (.lst (nn (rowL n l))) (.int 0) = .ok (.int (w n l 0 : Nat)) := g_row_at n l 0 h (by omega)
theorem m_many (n : Nat) (hn : n ≤ 100) : m_how_many [.int n] = .ok (.int (w n n 0 : Nat)) := by
  unfold m_how_many
  have e1 := g_ix_rows n (n + 1) n (by omega)
  have e2 := g_row_0 n n (by omega)
  have hs : startE 1 [.int (n : Int)] = [some (.int (n : Int))] := rfl
  simp only [body, hs, s_how_many, s_seq, oSeq, s_pass, s_set, s_setM, s_setA, s_mv, s_expr, s_ret, s_retM, oIf, s_if, s_raise, withL, s_app, s_appM, s_ext, s_put, s_aug, oR, oA, s_par, setX, e_and, e_or, e_not_ap, e_own_ap, e_call, a_cons, a_nil, rCons, rCall, e_var, e_ivar, e_c, e_un, r1, r2, e_op, e_lst, e_tup, aL, g_not, rOr, rAnd, e_chain, rChain, g_le_ap, g_lt_ap, g_ge_ap, g_gt_ap, g_add_ap, g_sub_ap, scOnly, e_if, rIf, ownOk, g_name, g_tup, setAll, e_isi_ap, isTy, tyD, g_len, asSeq, asL, fin, g_neg, i_rng1, i_rng2, i_list, i_tup, i_enum, i_zip, i_revr, asRg1, asRg2, asRgV, asIt, asTup, asEn, asZip, n_rng1_ap, n_rng2_ap, List.getElem?_cons_zero, List.getElem?_cons_succ, List.set_cons_zero, List.set_cons_succ, List.length_cons, List.length_nil, reduceIte, if_true, if_false, Bool.false_eq_true, Bool.not_true, Bool.not_false, m_check_many_nat n hn, m_ways n hn, e1, e2]
theorem m_by (n x : Nat) (hn : n ≤ 100) (hx : x < w n n 0) : m_row_by [.int n, .int x] = .ok (dn (unrank n n 0 x)) := by
  unfold m_row_by
  have e1 := g_ix_rows n (n + 1) n (by omega)
  have e2 := g_row_0 n n (by omega)
  have hs : startE 6 [.int (n : Int), .int (x : Int)] = [some (.int (n : Int)), some (.int (x : Int)), none, none, none, none] := rfl
  have h1 : decide ((0 : Int) ≤ (x : Int)) = true := by
    simp
  have h2 : decide ((x : Int) < ((w n n 0 : Nat) : Int)) = true := by
    simpa using hx
  have e5 : rgOk 0 (n : Int) = true := by
    simp [rgOk]
    omega
  have turn : ∀ (l k x : Nat) (acc : List Nat) (z : Option D), l + 1 ≤ n → x < S (w n l) k (n - l - k) → acc.length ≤ 100 → 
      (s_seq (s_while (fun _ => 1000) (e_op g_ge (e_var 1) (e_op g_ixs (e_op g_ix (e_var 2) (e_ivar 5)) (e_ivar 4)))
  (s_seq (s_aug 1 (fun a b => a - b) (e_op g_ixs (e_op g_ix (e_var 2) (e_ivar 5)) (e_ivar 4)))
  (s_aug 4 (fun a b => a + b) (e_c (.int 1)))))
  (s_app 3 (e_ivar 4))) [some (.int n), some (.int x), some (.lst (rows n (n + 1))), some (.lst (nn acc)), some (.int k), some (.int l)]
      = .nx [some (.int n), some (.int (seek (w n l) (n - l - k) k x).2), some (.lst (rows n (n + 1))), some (.lst (nn (acc ++ [(seek (w n l) (n - l - k) k x).1]))), some (.int (seek (w n l) (n - l - k) k x).1), some (.int l)] := by
    intro l k x acc z hl hx ha
    obtain ⟨e', h3, h4⟩ := while_inv (ft := (e_op g_ge (e_var 1) (e_op g_ixs (e_op g_ix (e_var 2) (e_ivar 5)) (e_ivar 4)))) (s := (s_seq (s_aug 1 (fun a b => a - b) (e_op g_ixs (e_op g_ix (e_var 2) (e_ivar 5)) (e_ivar 4)))
  (s_aug 4 (fun a b => a + b) (e_c (.int 1)))))
      (fun m env => ∃ k' x', m + k' = n - l ∧ x' < S (w n l) k' m ∧ seek (w n l) m k' x' = seek (w n l) (n - l - k) k x ∧ env = [some (.int n), some (.int (x' : Nat)), some (.lst (rows n (n + 1))), some (.lst (nn acc)), some (.int (k' : Nat)), some (.int l)])
      (fun env => env = [some (.int n), some (.int (seek (w n l) (n - l - k) k x).2), some (.lst (rows n (n + 1))), some (.lst (nn acc)), some (.int (seek (w n l) (n - l - k) k x).1), some (.int l)])
      (by
        rintro m env ⟨k', x', q1, q2, q3, rfl⟩
        cases m with
        | zero => simp [S] at q2
        | succ m =>
          have f1 := g_ix_rows n (n + 1) l (by omega)
          have f2 := g_row_at n l k' (by omega) (by omega)
          by_cases hc : w n l k' ≤ x'
          · right
            have f3 : decide (((w n l k' : Nat) : Int) ≤ (x' : Int)) = true := by simpa using hc
            refine ⟨by simp only [s_seq, oSeq, s_pass, s_set, s_setM, s_setA, s_mv, s_expr, s_ret, s_retM, oIf, s_if, s_raise, withL, s_app, s_appM, s_ext, s_put, s_aug, oR, oA, s_par, setX, e_and, e_or, e_not_ap, e_own_ap, e_call, a_cons, a_nil, rCons, rCall, e_var, e_ivar, e_c, e_un, r1, r2, e_op, e_lst, e_tup, aL, g_not, rOr, rAnd, e_chain, rChain, g_le_ap, g_lt_ap, g_ge_ap, g_gt_ap, g_add_ap, g_sub_ap, scOnly, e_if, rIf, ownOk, g_name, g_tup, setAll, e_isi_ap, isTy, tyD, g_len, asSeq, asL, fin, g_neg, i_rng1, i_rng2, i_list, i_tup, i_enum, i_zip, i_revr, asRg1, asRg2, asRgV, asIt, asTup, asEn, asZip, n_rng1_ap, n_rng2_ap, List.getElem?_cons_zero, List.getElem?_cons_succ, List.set_cons_zero, List.set_cons_succ, List.length_cons, List.length_nil, reduceIte, if_true, if_false, Bool.false_eq_true, Bool.not_true, Bool.not_false, f1, f2, f3], m, _, Nat.lt_succ_self _, ?_, k' + 1, x' - w n l k', by omega, by rw [S] at q2; omega, ?_, rfl⟩
            · have f4 : (x' : Int) - ((w n l k' : Nat) : Int) = ((x' - w n l k' : Nat) : Int) := by omega
              have f5 : (k' : Int) + 1 = ((k' + 1 : Nat) : Int) := by omega
              simp only [s_seq, oSeq, s_pass, s_set, s_setM, s_setA, s_mv, s_expr, s_ret, s_retM, oIf, s_if, s_raise, withL, s_app, s_appM, s_ext, s_put, s_aug, oR, oA, s_par, setX, e_and, e_or, e_not_ap, e_own_ap, e_call, a_cons, a_nil, rCons, rCall, e_var, e_ivar, e_c, e_un, r1, r2, e_op, e_lst, e_tup, aL, g_not, rOr, rAnd, e_chain, rChain, g_le_ap, g_lt_ap, g_ge_ap, g_gt_ap, g_add_ap, g_sub_ap, scOnly, e_if, rIf, ownOk, g_name, g_tup, setAll, e_isi_ap, isTy, tyD, g_len, asSeq, asL, fin, g_neg, i_rng1, i_rng2, i_list, i_tup, i_enum, i_zip, i_revr, asRg1, asRg2, asRgV, asIt, asTup, asEn, asZip, n_rng1_ap, n_rng2_ap, List.getElem?_cons_zero, List.getElem?_cons_succ, List.set_cons_zero, List.set_cons_succ, List.length_cons, List.length_nil, reduceIte, if_true, if_false, Bool.false_eq_true, Bool.not_true, Bool.not_false, f1, f2, f4, f5]
            · rw [seek, if_pos hc] at q3
              exact q3
          · left
            have f3 : decide (((w n l k' : Nat) : Int) ≤ (x' : Int)) = false := by simpa using hc
            refine ⟨by simp only [s_seq, oSeq, s_pass, s_set, s_setM, s_setA, s_mv, s_expr, s_ret, s_retM, oIf, s_if, s_raise, withL, s_app, s_appM, s_ext, s_put, s_aug, oR, oA, s_par, setX, e_and, e_or, e_not_ap, e_own_ap, e_call, a_cons, a_nil, rCons, rCall, e_var, e_ivar, e_c, e_un, r1, r2, e_op, e_lst, e_tup, aL, g_not, rOr, rAnd, e_chain, rChain, g_le_ap, g_lt_ap, g_ge_ap, g_gt_ap, g_add_ap, g_sub_ap, scOnly, e_if, rIf, ownOk, g_name, g_tup, setAll, e_isi_ap, isTy, tyD, g_len, asSeq, asL, fin, g_neg, i_rng1, i_rng2, i_list, i_tup, i_enum, i_zip, i_revr, asRg1, asRg2, asRgV, asIt, asTup, asEn, asZip, n_rng1_ap, n_rng2_ap, List.getElem?_cons_zero, List.getElem?_cons_succ, List.set_cons_zero, List.set_cons_succ, List.length_cons, List.length_nil, reduceIte, if_true, if_false, Bool.false_eq_true, Bool.not_true, Bool.not_false, f1, f2, f3], ?_⟩
            rw [seek, if_neg hc] at q3
            rw [← q3])
      1000 (n - l - k) _ (by omega) ⟨k, x, (by
        rcases Nat.eq_zero_or_pos (n - l - k) with z | z
        · rw [z] at hx
          simp [S] at hx
        · omega), hx, rfl, rfl⟩
    subst h4
    have f6 : (nn acc).length < 100000 := by
      rw [nn_len]
      omega
    have f7 : ∀ p : Nat, nn acc ++ [.int (p : Int)] = nn (acc ++ [p]) := fun p => by simp [nn]
    simp only [s_while, h3, s_seq, oSeq, s_pass, s_set, s_setM, s_setA, s_mv, s_expr, s_ret, s_retM, oIf, s_if, s_raise, withL, s_app, s_appM, s_ext, s_put, s_aug, oR, oA, s_par, setX, e_and, e_or, e_not_ap, e_own_ap, e_call, a_cons, a_nil, rCons, rCall, e_var, e_ivar, e_c, e_un, r1, r2, e_op, e_lst, e_tup, aL, g_not, rOr, rAnd, e_chain, rChain, g_le_ap, g_lt_ap, g_ge_ap, g_gt_ap, g_add_ap, g_sub_ap, scOnly, e_if, rIf, ownOk, g_name, g_tup, setAll, e_isi_ap, isTy, tyD, g_len, asSeq, asL, fin, g_neg, i_rng1, i_rng2, i_list, i_tup, i_enum, i_zip, i_revr, asRg1, asRg2, asRgV, asIt, asTup, asEn, asZip, n_rng1_ap, n_rng2_ap, List.getElem?_cons_zero, List.getElem?_cons_succ, List.set_cons_zero, List.set_cons_succ, List.length_cons, List.length_nil, reduceIte, if_true, if_false, Bool.false_eq_true, Bool.not_true, Bool.not_false, f6, f7]
  obtain ⟨e', h3, h4⟩ := forGo_inv (fg := g_name 5) (s := (s_seq (s_while (fun _ => 1000) (e_op g_ge (e_var 1) (e_op g_ixs (e_op g_ix (e_var 2) (e_ivar 5)) (e_ivar 4)))
  (s_seq (s_aug 1 (fun a b => a - b) (e_op g_ixs (e_op g_ix (e_var 2) (e_ivar 5)) (e_ivar 4)))
  (s_aug 4 (fun a b => a + b) (e_c (.int 1)))))
  (s_app 3 (e_ivar 4))))
    (fun i env => i ≤ n → ∃ (k' x' : Nat) (acc : List Nat) (z : Option D), acc.length = i ∧ x' < w n (n - i) k' ∧ acc ++ unrank n (n - i) k' x' = unrank n n 0 x ∧ env = [some (.int n), some (.int x'), some (.lst (rows n (n + 1))), some (.lst (nn acc)), some (.int k'), z])
    (rgD 0 (n : Int)).reverse 0 [some (.int n), some (.int x), some (.lst (rows n (n + 1))), some (.lst []), some (.int 0), none] (fun _ => ⟨0, x, [], none, rfl, hx, rfl, rfl⟩)
    (by
      rintro i d hd env hI
      obtain ⟨hi, rfl⟩ := rgD_rev_get _ _ _ hd
      obtain ⟨k', x', acc, z, q1, q2, q3, rfl⟩ := hI (by omega)
      have el : n - (0 + i) = (n - 1 - i) + 1 := by omega
      rw [el] at q2 q3
      have hl : (n - 1 - i) + 1 ≤ n := by omega
      rw [w_sum n _ hl _ k' rfl] at q2
      refine ⟨_, _, rfl, turn (n - 1 - i) k' x' acc none hl q2 (by omega), fun _ => ⟨_, _, _, _, ?_, ?_, ?_, rfl⟩⟩
      · rw [List.length_append, q1]
        rfl
      · have := (seek_spec _ _ _ _ q2).2.2.1
        rw [show n - (0 + i + 1) = n - 1 - i by omega]
        exact this
      · rw [show n - (0 + i + 1) = n - 1 - i by omega, ← q3, unrank, List.append_assoc]
        rfl)
  have hlen : (rgD 0 (n : Int)).reverse.length = n := by
    rw [rgD_zero]
    simp
  rw [hlen, Nat.zero_add] at h4
  obtain ⟨k', x', acc, z, q1, q2, q3, rfl⟩ := h4 (Nat.le_refl _)
  rw [Nat.sub_self, unrank, List.append_nil] at q3
  subst q3
  have hm : mask [3] [some (.int (n : Int)), some (.int (x : Int)), some (.lst (rows n (n + 1))), some (.lst []), some (.int 0), none] = [some (.int (n : Int)), some (.int (x : Int)), some (.lst (rows n (n + 1))), none, some (.int 0), none] := rfl
  simp only [body, hs, s_row_by, s_for, s_seq, oSeq, s_pass, s_set, s_setM, s_setA, s_mv, s_expr, s_ret, s_retM, oIf, s_if, s_raise, withL, s_app, s_appM, s_ext, s_put, s_aug, oR, oA, s_par, setX, e_and, e_or, e_not_ap, e_own_ap, e_call, a_cons, a_nil, rCons, rCall, e_var, e_ivar, e_c, e_un, r1, r2, e_op, e_lst, e_tup, aL, g_not, rOr, rAnd, e_chain, rChain, g_le_ap, g_lt_ap, g_ge_ap, g_gt_ap, g_add_ap, g_sub_ap, scOnly, e_if, rIf, ownOk, g_name, g_tup, setAll, e_isi_ap, isTy, tyD, g_len, asSeq, asL, fin, g_neg, i_rng1, i_rng2, i_list, i_tup, i_enum, i_zip, i_revr, asRg1, asRg2, asRgV, asIt, asTup, asEn, asZip, n_rng1_ap, n_rng2_ap, List.getElem?_cons_zero, List.getElem?_cons_succ, List.set_cons_zero, List.set_cons_succ, List.length_cons, List.length_nil, reduceIte, if_true, if_false, Bool.false_eq_true, Bool.not_true, Bool.not_false, m_check_many_nat n hn, m_is_number_int, m_ways n hn, e1, e2, h1, h2, hm, e5, h3, dn, Nat.zero_le, Nat.reduceLeDiff]
theorem lc_all {fi : Env → RA} {fg : D → Env → Option Env} {fe : Env → R} {vs : List Nat} {env : Env} {ds : List D} (h1 : fi env = .ok ds) (h2 : ds.length ≤ 100000) (h3 : ∀ d ∈ ds, ∃ e', fg d (wipeE env vs) = some e' ∧ fe e' = .ok (.bl true)) :
    e_call g_all (a_cons (e_lc fi fg (e_c (.bl true)) fe vs) a_nil) env = .ok (.bl true) := by
  have h4 := lcGo_map (fun _ => .bl true) ds h3
  have h5 : ∀ xs : List D, asBls (xs.map fun _ => D.bl true) = some (xs.map fun _ => true) := fun xs => by
    have := asBls_map (xs.map fun _ => true)
    rw [List.map_map] at this
    exact this
  simp only [e_call, a_cons, a_nil, e_lc, h1, rLc, if_pos h2, h4, rCons, rCall, g_all, gOne, asL, h5]
  simp
theorem lc_sum {fi : Env → RA} {fg : D → Env → Option Env} {fe : Env → R} {vs : List Nat} {env : Env} {ds : List D} (k : D → Int) (h1 : fi env = .ok ds) (h2 : ds.length ≤ 100000) (h3 : ∀ d ∈ ds, ∃ e', fg d (wipeE env vs) = some e' ∧ fe e' = .ok (.int (k d))) :
    e_call g_sum (a_cons (e_lc fi fg (e_c (.bl true)) fe vs) a_nil) env = .ok (.int (ds.map k).sum) := by
  have h4 := lcGo_map (fun d => .int (k d)) ds h3
  have h5 : asInts (ds.map fun d => D.int (k d)) = some (ds.map k) := by
    have := asInts_map (ds.map k)
    rw [List.map_map] at this
    exact this
  simp only [e_call, a_cons, a_nil, e_lc, h1, rLc, if_pos h2, h4, rCons, rCall, g_sum, gOne, asL, h5]
end PyS
set_option maxRecDepth 100000
set_option maxHeartbeats 4000000
namespace PyS
open PySem PySem.Spec PyProof.Rows L2
theorem mask_nil (x : Env) : mask [] x = x := by
  apply List.ext_getElem?
  intro i
  simp [mask, List.getElem?_mapIdx]
/-- a row: place by place at most its index, rising -/
def Row (ps : List Nat) : Prop := Vd ps.length 0 ps
theorem Vd_le (n : Nat) : ∀ (k : Nat) (ps : List Nat) (i p : Nat), Vd n k ps → ps[i]? = some p → k ≤ p ∧ p + (ps.length - i) ≤ n
  | k, [], i, p, _, h => by simp at h
  | k, q :: ps, 0, p, ⟨h1, h2, h3⟩, h => by
    have e : q = p := by simpa using h
    subst e
    rw [List.length_cons]
    omega
  | k, q :: ps, i + 1, p, ⟨h1, h2, h3⟩, h => by
    obtain ⟨a, b⟩ := Vd_le n q ps i p h3 (by simpa using h)
    rw [List.length_cons]
    omega
theorem Vd_rise (n : Nat) : ∀ (k : Nat) (ps : List Nat) (i p q : Nat), Vd n k ps → ps[i]? = some p → ps[i + 1]? = some q → p ≤ q
  | k, [], i, p, q, _, h, _ => by simp at h
  | k, a :: ps, 0, p, q, ⟨h1, h2, h3⟩, h, h' => by
    have e : a = p := by simpa using h
    subst e
    exact (Vd_le n a ps 0 q h3 (by simpa using h')).1
  | k, a :: ps, i + 1, p, q, ⟨h1, h2, h3⟩, h, h' => Vd_rise n a ps i p q h3 (by simpa using h) (by simpa using h')
theorem nn_get {ps : List Nat} {i : Nat} {d : D} (h : (nn ps)[i]? = some d) : ∃ p, ps[i]? = some p ∧ d = .int (p : Int) := by
  unfold nn at h
  rw [List.getElem?_map] at h
  obtain ⟨p, h1, h2⟩ := Option.map_eq_some_iff.mp h
  exact ⟨p, h1, h2.symm⟩
theorem enumD_at {n i : Nat} {ds : List D} {x : D} (h : (enumD n ds)[i]? = some x) : ∃ d, ds[i]? = some d ∧ x = .tup [.int ((n + i : Nat) : Int), d] := by
  have hl := (List.getElem?_eq_some_iff.mp h).1
  rw [enumD_len] at hl
  have := enumD_get n i ds ds[i] (List.getElem?_eq_getElem hl)
  rw [this] at h
  exact ⟨ds[i], List.getElem?_eq_getElem hl, (Option.some.inj h).symm⟩
theorem zipD_at {i : Nat} {ds es : List D} {x : D} (h : (zipD ds es)[i]? = some x) : ∃ d e, ds[i]? = some d ∧ es[i]? = some e ∧ x = .tup [d, e] := by
  have hl := (List.getElem?_eq_some_iff.mp h).1
  rw [zipD_len] at hl
  have := zipD_get i ds es ds[i] es[i] (List.getElem?_eq_getElem (by omega)) (List.getElem?_eq_getElem (by omega))
  rw [this] at h
  exact ⟨_, _, List.getElem?_eq_getElem (by omega), List.getElem?_eq_getElem (by omega), (Option.some.inj h).symm⟩
theorem cut_1 (ds : List D) : cutG ds (some 1) none = ds.drop 1 := by
  unfold cutG HT.sIx
  cases ds with
  | nil => rfl
  | cons d ds =>
    simp
theorem m_check (ps : List Nat) (m : Nat) (hm : m ≤ 1000) (hl : ps.length ≤ m) (h : Row ps) : m_check_row [dn ps, .int m] = .ok .non := by
  unfold m_check_row
  have hs : startE 5 [dn ps, .int (m : Int)] = [some (.lst (nn ps)), some (.int (m : Int)), none, none, none] := rfl
  have h1 : decide ((m : Int) < ((nn ps).length : Int)) = false := by
    rw [nn_len]
    simpa using hl
  have hlen : (nn ps).length ≤ 100000 := by
    rw [nn_len]
    omega
  have a1 := lc_all (fi := (i_list (e_var 0))) (fg := g_name 3) (fe := (e_own 1 m_is_number (a_cons (e_var 3) a_nil))) (vs := [3]) (env := [some (.lst (nn ps)), some (.int (m : Int)), none, none, none]) (ds := nn ps) rfl hlen (by
    intro d hd
    obtain ⟨i, hi⟩ := List.mem_iff_getElem?.mp hd
    obtain ⟨p, _, rfl⟩ := nn_get hi
    refine ⟨_, rfl, ?_⟩
    simp only [wipeE, s_seq, oSeq, s_pass, s_set, s_setM, s_setA, s_mv, s_expr, s_ret, s_retM, oIf, s_if, s_raise, withL, s_app, s_appM, s_ext, s_put, s_aug, oR, oA, s_par, setX, e_and, e_or, e_not_ap, e_own_ap, e_call, a_cons, a_nil, rCons, rCall, e_var, e_ivar, e_c, e_un, r1, r2, e_op, e_lst, e_tup, aL, g_not, rOr, rAnd, e_chain, rChain, g_le_ap, g_lt_ap, g_ge_ap, g_gt_ap, g_add_ap, g_sub_ap, scOnly, e_if, rIf, ownOk, g_name, g_tup, setAll, e_isi_ap, isTy, tyD, g_len, asSeq, asL, fin, g_neg, i_rng1, i_rng2, i_list, i_tup, i_enum, i_zip, i_revr, asRg1, asRg2, asRgV, asIt, asTup, asEn, asZip, n_rng1_ap, n_rng2_ap, List.getElem?_cons_zero, List.getElem?_cons_succ, List.set_cons_zero, List.set_cons_succ, List.length_cons, List.length_nil, reduceIte, if_true, if_false, Bool.false_eq_true, Bool.not_true, Bool.not_false, m_is_number_int])
  have a2 := lc_all (fi := (i_enum (a_cons (e_var 0) a_nil))) (fg := g_tup [2, 3]) (fe := (e_chain g_le g_le (e_c (.int 0)) (e_var 3) (e_ivar 2))) (vs := [2, 3]) (env := [some (.lst (nn ps)), some (.int (m : Int)), none, none, none]) (ds := enumD 0 (nn ps)) rfl (by rw [enumD_len]; exact hlen) (by
    intro d hd
    obtain ⟨i, hi⟩ := List.mem_iff_getElem?.mp hd
    obtain ⟨d, h1, rfl⟩ := enumD_at hi
    obtain ⟨p, h2, rfl⟩ := nn_get h1
    refine ⟨_, rfl, ?_⟩
    have := (Vd_le _ _ _ _ _ h h2).2
    have hil := (List.getElem?_eq_some_iff.mp h2).1
    have q1 : decide ((0 : Int) ≤ (p : Int)) = true := by simp
    have q2 : decide ((p : Int) ≤ ((0 + i : Nat) : Int)) = true := by
      rw [decide_eq_true_eq]
      omega
    simp only [wipeE, s_seq, oSeq, s_pass, s_set, s_setM, s_setA, s_mv, s_expr, s_ret, s_retM, oIf, s_if, s_raise, withL, s_app, s_appM, s_ext, s_put, s_aug, oR, oA, s_par, setX, e_and, e_or, e_not_ap, e_own_ap, e_call, a_cons, a_nil, rCons, rCall, e_var, e_ivar, e_c, e_un, r1, r2, e_op, e_lst, e_tup, aL, g_not, rOr, rAnd, e_chain, rChain, g_le_ap, g_lt_ap, g_ge_ap, g_gt_ap, g_add_ap, g_sub_ap, scOnly, e_if, rIf, ownOk, g_name, g_tup, setAll, e_isi_ap, isTy, tyD, g_len, asSeq, asL, fin, g_neg, i_rng1, i_rng2, i_list, i_tup, i_enum, i_zip, i_revr, asRg1, asRg2, asRgV, asIt, asTup, asEn, asZip, n_rng1_ap, n_rng2_ap, List.getElem?_cons_zero, List.getElem?_cons_succ, List.set_cons_zero, List.set_cons_succ, List.length_cons, List.length_nil, reduceIte, if_true, if_false, Bool.false_eq_true, Bool.not_true, Bool.not_false, q1, q2])
  have a3 := lc_all (fi := (i_zip (a_cons (e_var 0) (a_cons (e_slice (e_var 0) (e_part (e_c (.int 1))) (e_c .non)) a_nil)))) (fg := g_tup [3, 4]) (fe := (e_op g_le (e_var 3) (e_var 4))) (vs := [3, 4]) (env := [some (.lst (nn ps)), some (.int (m : Int)), none, none, none]) (ds := zipD (nn ps) ((nn ps).drop 1))
    (by simp only [s_seq, oSeq, s_pass, s_set, s_setM, s_setA, s_mv, s_expr, s_ret, s_retM, oIf, s_if, s_raise, withL, s_app, s_appM, s_ext, s_put, s_aug, oR, oA, s_par, setX, e_and, e_or, e_not_ap, e_own_ap, e_call, a_cons, a_nil, rCons, rCall, e_var, e_ivar, e_c, e_un, r1, r2, e_op, e_lst, e_tup, aL, g_not, rOr, rAnd, e_chain, rChain, g_le_ap, g_lt_ap, g_ge_ap, g_gt_ap, g_add_ap, g_sub_ap, scOnly, e_if, rIf, ownOk, g_name, g_tup, setAll, e_isi_ap, isTy, tyD, g_len, asSeq, asL, fin, g_neg, i_rng1, i_rng2, i_list, i_tup, i_enum, i_zip, i_revr, asRg1, asRg2, asRgV, asIt, asTup, asEn, asZip, n_rng1_ap, n_rng2_ap, List.getElem?_cons_zero, List.getElem?_cons_succ, List.set_cons_zero, List.set_cons_succ, List.length_cons, List.length_nil, reduceIte, if_true, if_false, Bool.false_eq_true, Bool.not_true, Bool.not_false, e_slice, rSlice, e_part, asPart, cut_1]) (by rw [zipD_len]; omega) (by
    intro d hd
    obtain ⟨i, hi⟩ := List.mem_iff_getElem?.mp hd
    obtain ⟨d, e, h1, h2, rfl⟩ := zipD_at hi
    rw [List.getElem?_drop] at h2
    obtain ⟨p, h3, rfl⟩ := nn_get h1
    obtain ⟨q, h4, rfl⟩ := nn_get h2
    refine ⟨_, rfl, ?_⟩
    have := Vd_rise _ _ _ _ _ _ h h3 (by rw [Nat.add_comm]; exact h4)
    have q2 : decide ((p : Int) ≤ (q : Int)) = true := by
      rw [decide_eq_true_eq]
      omega
    simp only [wipeE, s_seq, oSeq, s_pass, s_set, s_setM, s_setA, s_mv, s_expr, s_ret, s_retM, oIf, s_if, s_raise, withL, s_app, s_appM, s_ext, s_put, s_aug, oR, oA, s_par, setX, e_and, e_or, e_not_ap, e_own_ap, e_call, a_cons, a_nil, rCons, rCall, e_var, e_ivar, e_c, e_un, r1, r2, e_op, e_lst, e_tup, aL, g_not, rOr, rAnd, e_chain, rChain, g_le_ap, g_lt_ap, g_ge_ap, g_gt_ap, g_add_ap, g_sub_ap, scOnly, e_if, rIf, ownOk, g_name, g_tup, setAll, e_isi_ap, isTy, tyD, g_len, asSeq, asL, fin, g_neg, i_rng1, i_rng2, i_list, i_tup, i_enum, i_zip, i_revr, asRg1, asRg2, asRgV, asIt, asTup, asEn, asZip, n_rng1_ap, n_rng2_ap, List.getElem?_cons_zero, List.getElem?_cons_succ, List.set_cons_zero, List.set_cons_succ, List.length_cons, List.length_nil, reduceIte, if_true, if_false, Bool.false_eq_true, Bool.not_true, Bool.not_false, q2])
  have t : ("list" == "list" || ("list" == "bool" && "list" == "int")) = true := by decide
  simp only [body, hs, s_check_row, ↓a1, ↓a2, ↓a3, s_seq, oSeq, s_pass, s_set, s_setM, s_setA, s_mv, s_expr, s_ret, s_retM, oIf, s_if, s_raise, withL, s_app, s_appM, s_ext, s_put, s_aug, oR, oA, s_par, setX, e_and, e_or, e_not_ap, e_own_ap, e_call, a_cons, a_nil, rCons, rCall, e_var, e_ivar, e_c, e_un, r1, r2, e_op, e_lst, e_tup, aL, g_not, rOr, rAnd, e_chain, rChain, g_le_ap, g_lt_ap, g_ge_ap, g_gt_ap, g_add_ap, g_sub_ap, scOnly, e_if, rIf, ownOk, g_name, g_tup, setAll, e_isi_ap, isTy, tyD, g_len, asSeq, asL, fin, g_neg, i_rng1, i_rng2, i_list, i_tup, i_enum, i_zip, i_revr, asRg1, asRg2, asRgV, asIt, asTup, asEn, asZip, n_rng1_ap, n_rng2_ap, List.getElem?_cons_zero, List.getElem?_cons_succ, List.set_cons_zero, List.set_cons_succ, List.length_cons, List.length_nil, reduceIte, if_true, if_false, Bool.false_eq_true, Bool.not_true, Bool.not_false, h1, t]
theorem sum_cast : ∀ xs : List Nat, (xs.map fun (i : Nat) => (i : Int)).sum = ((xs.sum : Nat) : Int)
  | [] => rfl
  | x :: xs => by
    rw [List.map_cons, List.sum_cons, List.sum_cons, sum_cast xs]
    omega
theorem sum_S (f : Nat → Nat) : ∀ (m k : Nat), ((List.range m).map fun i => f (k + i)).sum = S f k m
  | 0, k => rfl
  | m + 1, k => by
    rw [List.range_succ, List.map_append, List.sum_append, sum_S f m k, S_succ]
    simp
theorem m_num (ps : List Nat) (hl : ps.length ≤ 100) (h : Row ps) : m_number_of [dn ps] = .ok (.int (rank ps.length 0 ps : Nat)) := by
  unfold m_number_of
  have hs : startE 7 [dn ps] = [some (.lst (nn ps)), none, none, none, none, none, none] := rfl
  have c1 := m_check ps 100 (by omega) hl h
  simp only [dn] at c1
  have c2 : ((100 : Nat) : Int) = 100 := rfl
  rw [c2] at c1
  have c3 := m_ways ps.length hl
  obtain ⟨e', h3, h4⟩ := forGo_inv (fg := g_tup [4, 5]) (s := (s_seq (s_aug 2 (fun a b => a + b) (e_call g_sum (a_cons (e_lc (i_rng2 (a_cons (e_ivar 3) (a_cons (e_ivar 5) a_nil))) (g_name 6) (e_c (.bl true)) (e_op g_ixs (e_op g_ix (e_var 1) (e_op g_sub (e_op g_sub (e_call g_len (a_cons (e_var 0) a_nil)) (e_ivar 4)) (e_c (.int 1)))) (e_ivar 6)) [6]) a_nil)))
  (s_set 3 (e_ivar 5))))
    (fun i env => ∃ (num low : Nat) (a b c : Option D), Vd ps.length low (ps.drop i) ∧ num + rank ps.length low (ps.drop i) = rank ps.length 0 ps ∧ env = [some (.lst (nn ps)), some (.lst (rows ps.length (ps.length + 1))), some (.int num), some (.int low), a, b, c])
    (enumD 0 (nn ps)) 0 [some (.lst (nn ps)), some (.lst (rows ps.length (ps.length + 1))), some (.int 0), some (.int 0), none, none, none] ⟨0, 0, none, none, none, h, by simp, rfl⟩
    (by
      rintro i d hd env ⟨num, low, a, b, c, q1, q2, rfl⟩
      obtain ⟨d, z1, rfl⟩ := enumD_at hd
      obtain ⟨p, z2, rfl⟩ := nn_get z1
      have hil := (List.getElem?_eq_some_iff.mp z2).1
      have ep : ps[i] = p := (List.getElem?_eq_some_iff.mp z2).2
      rw [Nat.zero_add] at q1 q2
      rw [List.drop_eq_getElem_cons hil, ep] at q1 q2
      obtain ⟨v1, v2, v3⟩ := q1
      rw [rank] at q2
      rw [List.length_drop] at v2 q2
      have er : rgOk (low : Int) (p : Int) = true := by
        simp [rgOk]
        omega
      have es := lc_sum (fi := i_rng2 (a_cons (e_ivar 3) (a_cons (e_ivar 5) a_nil))) (fg := g_name 6) (fe := (e_op g_ixs (e_op g_ix (e_var 1) (e_op g_sub (e_op g_sub (e_call g_len (a_cons (e_var 0) a_nil)) (e_ivar 4)) (e_c (.int 1)))) (e_ivar 6))) (vs := [6])
        (env := [some (.lst (nn ps)), some (.lst (rows ps.length (ps.length + 1))), some (.int num), some (.int low), some (.int ((0 + i : Nat) : Int)), some (.int (p : Int)), c]) (ds := nn ((List.range (p - low)).map (low + ·)))
        (fun d => match d with | .int z => ((w ps.length (ps.length - (i + 1)) z.toNat : Nat) : Int) | _ => 0)
        (by simp only [s_seq, oSeq, s_pass, s_set, s_setM, s_setA, s_mv, s_expr, s_ret, s_retM, oIf, s_if, s_raise, withL, s_app, s_appM, s_ext, s_put, s_aug, oR, oA, s_par, setX, e_and, e_or, e_not_ap, e_own_ap, e_call, a_cons, a_nil, rCons, rCall, e_var, e_ivar, e_c, e_un, r1, r2, e_op, e_lst, e_tup, aL, g_not, rOr, rAnd, e_chain, rChain, g_le_ap, g_lt_ap, g_ge_ap, g_gt_ap, g_add_ap, g_sub_ap, scOnly, e_if, rIf, ownOk, g_name, g_tup, setAll, e_isi_ap, isTy, tyD, g_len, asSeq, asL, fin, g_neg, i_rng1, i_rng2, i_list, i_tup, i_enum, i_zip, i_revr, asRg1, asRg2, asRgV, asIt, asTup, asEn, asZip, n_rng1_ap, n_rng2_ap, List.getElem?_cons_zero, List.getElem?_cons_succ, List.set_cons_zero, List.set_cons_succ, List.length_cons, List.length_nil, reduceIte, if_true, if_false, Bool.false_eq_true, Bool.not_true, Bool.not_false, er, rgD_nat]) (by simp; omega) (by
          intro d hd
          obtain ⟨j, hj⟩ := List.mem_iff_getElem?.mp hd
          obtain ⟨q, hq, rfl⟩ := nn_get hj
          refine ⟨_, rfl, ?_⟩
          have hjl := (List.getElem?_eq_some_iff.mp hq).1
          simp at hjl
          have eq : q = low + j := by
            rw [List.getElem?_map, List.getElem?_range hjl] at hq
            simpa using hq.symm
          have f0 : ((nn ps).length : Int) - ((0 + i : Nat) : Int) - 1 = ((ps.length - (i + 1) : Nat) : Int) := by
            rw [nn_len]
            omega
          have f1 := g_ix_rows ps.length (ps.length + 1) (ps.length - (i + 1)) (by omega)
          have f2 := g_row_at ps.length (ps.length - (i + 1)) q (by omega) (by omega)
          simp only [wipeE, s_seq, oSeq, s_pass, s_set, s_setM, s_setA, s_mv, s_expr, s_ret, s_retM, oIf, s_if, s_raise, withL, s_app, s_appM, s_ext, s_put, s_aug, oR, oA, s_par, setX, e_and, e_or, e_not_ap, e_own_ap, e_call, a_cons, a_nil, rCons, rCall, e_var, e_ivar, e_c, e_un, r1, r2, e_op, e_lst, e_tup, aL, g_not, rOr, rAnd, e_chain, rChain, g_le_ap, g_lt_ap, g_ge_ap, g_gt_ap, g_add_ap, g_sub_ap, scOnly, e_if, rIf, ownOk, g_name, g_tup, setAll, e_isi_ap, isTy, tyD, g_len, asSeq, asL, fin, g_neg, i_rng1, i_rng2, i_list, i_tup, i_enum, i_zip, i_revr, asRg1, asRg2, asRgV, asIt, asTup, asEn, asZip, n_rng1_ap, n_rng2_ap, List.getElem?_cons_zero, List.getElem?_cons_succ, List.set_cons_zero, List.set_cons_succ, List.length_cons, List.length_nil, reduceIte, if_true, if_false, Bool.false_eq_true, Bool.not_true, Bool.not_false, f0, f1, f2, Int.toNat_natCast])
      refine ⟨[some (.lst (nn ps)), some (.lst (rows ps.length (ps.length + 1))), some (.int num), some (.int low), some (.int ((0 + i : Nat) : Int)), some (.int (p : Int)), c], _, rfl, (by simp only [↓es, s_seq, oSeq, s_pass, s_set, s_setM, s_setA, s_mv, s_expr, s_ret, s_retM, oIf, s_if, s_raise, withL, s_app, s_appM, s_ext, s_put, s_aug, oR, oA, s_par, setX, e_and, e_or, e_not_ap, e_own_ap, e_call, a_cons, a_nil, rCons, rCall, e_var, e_ivar, e_c, e_un, r1, r2, e_op, e_lst, e_tup, aL, g_not, rOr, rAnd, e_chain, rChain, g_le_ap, g_lt_ap, g_ge_ap, g_gt_ap, g_add_ap, g_sub_ap, scOnly, e_if, rIf, ownOk, g_name, g_tup, setAll, e_isi_ap, isTy, tyD, g_len, asSeq, asL, fin, g_neg, i_rng1, i_rng2, i_list, i_tup, i_enum, i_zip, i_revr, asRg1, asRg2, asRgV, asIt, asTup, asEn, asZip, n_rng1_ap, n_rng2_ap, List.getElem?_cons_zero, List.getElem?_cons_succ, List.set_cons_zero, List.set_cons_succ, List.length_cons, List.length_nil, reduceIte, if_true, if_false, Bool.false_eq_true, Bool.not_true, Bool.not_false]; rfl), num + S (w ps.length (ps.length - (i + 1))) low (p - low), p, some (.int ((0 + i : Nat) : Int)), some (.int (p : Int)), c, ?_, ?_, ?_⟩
      · rw [show 0 + i + 1 = i + 1 by omega]
        exact v3
      · rw [show 0 + i + 1 = i + 1 by omega]
        omega
      · have g1 : ((nn ((List.range (p - low)).map (low + ·))).map (fun d => match d with | .int z => ((w ps.length (ps.length - (i + 1)) z.toNat : Nat) : Int) | _ => 0)).sum = ((S (w ps.length (ps.length - (i + 1))) low (p - low) : Nat) : Int) := by
          rw [← sum_S, ← sum_cast]
          congr 1
          simp [nn, List.map_map]
          intro a ha
          rw [show ((low : Int) + (a : Int)).toNat = low + a by omega]
        rw [g1]
        congr 4)
  have hlen : (enumD 0 (nn ps)).length = ps.length := by
    rw [enumD_len, nn_len]
  rw [hlen, Nat.zero_add, List.drop_length] at h4
  obtain ⟨num, low, a, b, c, q1, q2, rfl⟩ := h4
  have q3 : num = rank ps.length 0 ps := by
    simpa [rank] using q2
  subst q3
  simp only [body, hs, s_number_of, s_for, mask_nil, s_seq, oSeq, s_pass, s_set, s_setM, s_setA, s_mv, s_expr, s_ret, s_retM, oIf, s_if, s_raise, withL, s_app, s_appM, s_ext, s_put, s_aug, oR, oA, s_par, setX, e_and, e_or, e_not_ap, e_own_ap, e_call, a_cons, a_nil, rCons, rCall, e_var, e_ivar, e_c, e_un, r1, r2, e_op, e_lst, e_tup, aL, g_not, rOr, rAnd, e_chain, rChain, g_le_ap, g_lt_ap, g_ge_ap, g_gt_ap, g_add_ap, g_sub_ap, scOnly, e_if, rIf, ownOk, g_name, g_tup, setAll, e_isi_ap, isTy, tyD, g_len, asSeq, asL, fin, g_neg, i_rng1, i_rng2, i_list, i_tup, i_enum, i_zip, i_revr, asRg1, asRg2, asRgV, asIt, asTup, asEn, asZip, n_rng1_ap, n_rng2_ap, List.getElem?_cons_zero, List.getElem?_cons_succ, List.set_cons_zero, List.set_cons_succ, List.length_cons, List.length_nil, reduceIte, if_true, if_false, Bool.false_eq_true, Bool.not_true, Bool.not_false, c1, nn_len, c3, h3, Nat.reduceAdd]
end PyS
set_option maxRecDepth 100000
set_option maxHeartbeats 4000000
namespace PyS
open PySem PySem.Spec PyProof.Rows L2
/-! sizes -/
def Lt2 (z : Int) (k : Nat) : Prop := z.natAbs < 2 ^ k
theorem Lt2.add {a b : Int} {j k m : Nat} (h1 : Lt2 a j) (h2 : Lt2 b k) (hj : j + 1 ≤ m) (hk : k + 1 ≤ m) : Lt2 (a + b) m := by
  unfold Lt2 at *
  obtain ⟨p, rfl⟩ := Nat.exists_eq_add_of_le' (show 1 ≤ m by omega)
  have e1 : 2 ^ j ≤ 2 ^ p := Nat.pow_le_pow_right (by omega) (by omega)
  have e2 : 2 ^ k ≤ 2 ^ p := Nat.pow_le_pow_right (by omega) (by omega)
  rw [Nat.pow_succ]
  generalize 2 ^ j = A at *
  generalize 2 ^ k = B at *
  generalize 2 ^ p = C at *
  omega
theorem Lt2.neg {a : Int} {j : Nat} (h : Lt2 a j) : Lt2 (-a) j := by
  unfold Lt2 at *
  rw [Int.natAbs_neg]
  exact h
theorem Lt2.sub {a b : Int} {j k m : Nat} (h1 : Lt2 a j) (h2 : Lt2 b k) (hj : j + 1 ≤ m) (hk : k + 1 ≤ m) : Lt2 (a - b) m := by
  rw [Int.sub_eq_add_neg]
  exact h1.add h2.neg hj hk
theorem Lt2.mul {a b : Int} {j k m : Nat} (h1 : Lt2 a j) (h2 : Lt2 b k) (hj : j + k ≤ m) : Lt2 (a * b) m := by
  unfold Lt2 at *
  rw [Int.natAbs_mul]
  refine Nat.lt_of_lt_of_le ?_ (Nat.pow_le_pow_right (by omega) hj)
  rw [Nat.pow_add]
  exact Nat.mul_lt_mul'' h1 h2
theorem Lt2.mono {a : Int} {j k : Nat} (h : Lt2 a j) (hk : j ≤ k) : Lt2 a k := Nat.lt_of_lt_of_le h (Nat.pow_le_pow_right (by omega) hk)
theorem Lt2.log {a : Int} {k : Nat} (h : Lt2 a k) : a.natAbs.log2 ≤ k := by
  unfold Lt2 at h
  by_cases z : a.natAbs = 0
  · rw [z]
    exact Nat.zero_le _
  · exact Nat.le_of_lt ((Nat.log2_lt z).mpr h)
theorem Lt2.bits {z : Int} {k : Nat} (h : Builtin.Int.intBits z ≤ k) : Lt2 z (k + 1) := by
  unfold Lt2
  by_cases e : z.natAbs = 0
  · rw [e]
    exact Nat.two_pow_pos _
  · have : z.natAbs.log2 < k + 1 := by
      unfold Builtin.Int.intBits at h
      split at h
      · rename_i z0
        rw [eq_of_beq z0] at e
        exact absurd rfl e
      · omega
    exact (Nat.log2_lt e).mp this
theorem Lt2.nat {z : Int} {k : Nat} (h0 : 0 ≤ z) (h : z < 2 ^ k) : Lt2 z k := by
  unfold Lt2
  have : ((z.natAbs : Nat) : Int) < ((2 ^ k : Nat) : Int) := by
    rw [Int.natCast_pow]
    have : ((z.natAbs : Nat) : Int) = z := by omega
    rw [this]
    exact h
  omega
theorem mulOk_of {a b : Int} {j k : Nat} (h1 : Lt2 a j) (h2 : Lt2 b k) (h : j + k < 134000000) : mulOk a b = true := by
  have := h1.log
  have := h2.log
  unfold mulOk
  rw [decide_eq_true_eq]
  omega
/-! drawing -/
def primes : List D := [.int 1000003, .int 1000033, .int 1000037, .int 1000039, .int 1000081, .int 1000099, .int 1000117, .int 1000121, .int 1000133, .int 1000151, .int 1000159, .int 1000171, .int 1000183, .int 1000187, .int 1000193, .int 1000199]
theorem prime_at (z : Int) (h0 : 0 ≤ z) (h : z < 16) : ∃ p, 0 < p ∧ g_ixs (.tup primes) (.int z) = .ok (.int p) := by
  have : z = 0 ∨ z = 1 ∨ z = 2 ∨ z = 3 ∨ z = 4 ∨ z = 5 ∨ z = 6 ∨ z = 7 ∨ z = 8 ∨ z = 9 ∨ z = 10 ∨ z = 11 ∨ z = 12 ∨ z = 13 ∨ z = 14 ∨ z = 15 := by omega
  rcases this with rfl | rfl | rfl | rfl | rfl | rfl | rfl | rfl | rfl | rfl | rfl | rfl | rfl | rfl | rfl | rfl <;> exact ⟨_, by decide, rfl⟩
theorem m_draw (a b c : Int) (ha : Lt2 a 4000000) (hb : Lt2 b 100) (hc : 0 < c) : ∃ r, m_law_draw [.int a, .int b, .int c] = .ok (.int r) ∧ 0 ≤ r ∧ r < c := by
  unfold m_law_draw
  have h1 := mulOk_of ha (show Lt2 48271 16 by unfold Lt2; decide) (by omega)
  have h2 := mulOk_of hb (show Lt2 69621 17 by unfold Lt2; decide) (by omega)
  have z0 : (0 : Int) < 16 := by decide
  obtain ⟨p, h3, h4⟩ := prime_at (b % 16) (Int.emod_nonneg _ (by decide)) (Int.emod_lt_of_pos _ (by decide))
  refine ⟨(a * 48271 + b * 69621) % p % c, ?_, Int.emod_nonneg _ (by omega), Int.emod_lt_of_pos _ hc⟩
  have hs : startE 4 [.int a, .int b, .int c] = [some (.int a), some (.int b), some (.int c), none] := rfl
  unfold primes at h4
  simp only [body, hs, s_law_draw, s_seq, oSeq, s_pass, s_set, s_setM, s_setA, s_mv, s_expr, s_ret, s_retM, oIf, s_if, s_raise, withL, s_app, s_appM, s_ext, s_put, s_aug, oR, oA, s_par, setX, e_and, e_or, e_not_ap, e_own_ap, e_call, a_cons, a_nil, rCons, rCall, e_var, e_ivar, e_c, e_un, r1, r2, e_op, e_lst, e_tup, aL, g_not, rOr, rAnd, e_chain, rChain, g_le_ap, g_lt_ap, g_ge_ap, g_gt_ap, g_add_ap, g_sub_ap, scOnly, e_if, rIf, ownOk, g_name, g_tup, setAll, e_isi_ap, isTy, tyD, g_len, asSeq, asL, fin, g_neg, i_rng1, i_rng2, i_list, i_tup, i_enum, i_zip, i_revr, asRg1, asRg2, asRgV, asIt, asTup, asEn, asZip, n_rng1_ap, n_rng2_ap, List.getElem?_cons_zero, List.getElem?_cons_succ, List.set_cons_zero, List.set_cons_succ, List.length_cons, List.length_nil, reduceIte, if_true, if_false, Bool.false_eq_true, Bool.not_true, Bool.not_false, g_mul_ap _ _ h1, g_mul_ap _ _ h2, g_mod_ap _ _ z0, h4, g_mod_ap _ _ h3, g_mod_ap _ _ hc, Nat.zero_le, Nat.reduceLeDiff]
theorem seven_at (z : Int) (h0 : 0 ≤ z) (h : z < 5) : ∃ p, (0 < p ∧ ∀ x, divOk x p = true) ∧ g_ixs (.tup [.int 1, .int 7, .int 49, .int 343, .int 2401]) (.int z) = .ok (.int p) := by
  have : z = 0 ∨ z = 1 ∨ z = 2 ∨ z = 3 ∨ z = 4 := by omega
  rcases this with rfl | rfl | rfl | rfl | rfl <;> exact ⟨_, ⟨by decide, fun _ => by unfold divOk; decide⟩, rfl⟩
theorem m_numb (a at' c : Int) (ha : Lt2 a 1048577) (h0 : 0 ≤ at') (h1 : at' < 1000) (hc : 0 < c) : ∃ r, m_law_number [.int a, .int at', .int c] = .ok (.int r) ∧ 0 ≤ r ∧ r < c := by
  unfold m_law_number
  have hp : powOk 10 18 = true := by decide
  have z5 : (0 : Int) < 5 := by decide
  have z9 : (0 : Int) < 9 := by decide
  have hat : Lt2 at' 10 := Lt2.nat h0 (by omega)
  have m1 := mulOk_of (show Lt2 977 10 by unfold Lt2; decide) hat (by omega)
  have m2 := mulOk_of (show Lt2 31 10 by unfold Lt2; decide) hat (by omega)
  have b1 : Lt2 (a + 977 * at') 1048600 := ha.add ((show Lt2 977 10 by unfold Lt2; decide).mul hat (Nat.le_refl 20)) (by omega) (by omega)
  have b2 : Lt2 (a + 31 * at' + 5) 1048700 := (ha.add (m := 1048600) ((show Lt2 31 10 by unfold Lt2; decide).mul hat (Nat.le_refl 20)) (by omega) (by omega)).add (show Lt2 5 10 by unfold Lt2; decide) (by omega) (by omega)
  have m3 := mulOk_of b1 b2 (by omega)
  obtain ⟨r, d1, d2, d3⟩ := m_draw ((a + 977 * at') * (a + 31 * at' + 5)) (at' % 9 + 1) 999983 (b1.mul b2 (by omega)) (Lt2.nat (k := 100) (by have := Int.emod_nonneg at' (show (9 : Int) ≠ 0 by decide); omega) (by have := Int.emod_lt_of_pos at' z9; omega)) (by decide)
  obtain ⟨p, ⟨h3, h4⟩, h5⟩ := seven_at (at' % 5) (Int.emod_nonneg _ (by decide)) (Int.emod_lt_of_pos _ (by decide))
  have hs : startE 3 [.int a, .int at', .int c] = [some (.int a), some (.int at'), some (.int c)] := rfl
  by_cases hb : (10 : Int) ^ ((18 : Int).toNat) ≤ a
  · have hd := decide_eq_true hb
    refine ⟨(a - 10 ^ ((18 : Int).toNat)) / p % c, ?_, Int.emod_nonneg _ (by omega), Int.emod_lt_of_pos _ hc⟩
    simp only [body, hs, s_law_number, s_seq, oSeq, s_pass, s_set, s_setM, s_setA, s_mv, s_expr, s_ret, s_retM, oIf, s_if, s_raise, withL, s_app, s_appM, s_ext, s_put, s_aug, oR, oA, s_par, setX, e_and, e_or, e_not_ap, e_own_ap, e_call, a_cons, a_nil, rCons, rCall, e_var, e_ivar, e_c, e_un, r1, r2, e_op, e_lst, e_tup, aL, g_not, rOr, rAnd, e_chain, rChain, g_le_ap, g_lt_ap, g_ge_ap, g_gt_ap, g_add_ap, g_sub_ap, scOnly, e_if, rIf, ownOk, g_name, g_tup, setAll, e_isi_ap, isTy, tyD, g_len, asSeq, asL, fin, g_neg, i_rng1, i_rng2, i_list, i_tup, i_enum, i_zip, i_revr, asRg1, asRg2, asRgV, asIt, asTup, asEn, asZip, n_rng1_ap, n_rng2_ap, List.getElem?_cons_zero, List.getElem?_cons_succ, List.set_cons_zero, List.set_cons_succ, List.length_cons, List.length_nil, reduceIte, if_true, if_false, Bool.false_eq_true, Bool.not_true, Bool.not_false, g_pow_ap _ _ hp, hd, g_mod_ap _ _ z5, h5, g_div_ap _ _ (h4 _), g_mod_ap _ _ hc, Nat.zero_le, Nat.reduceLeDiff]
  · have hd := decide_eq_false hb
    refine ⟨r % c, ?_, Int.emod_nonneg _ (by omega), Int.emod_lt_of_pos _ hc⟩
    simp only [body, hs, s_law_number, s_seq, oSeq, s_pass, s_set, s_setM, s_setA, s_mv, s_expr, s_ret, s_retM, oIf, s_if, s_raise, withL, s_app, s_appM, s_ext, s_put, s_aug, oR, oA, s_par, setX, e_and, e_or, e_not_ap, e_own_ap, e_call, a_cons, a_nil, rCons, rCall, e_var, e_ivar, e_c, e_un, r1, r2, e_op, e_lst, e_tup, aL, g_not, rOr, rAnd, e_chain, rChain, g_le_ap, g_lt_ap, g_ge_ap, g_gt_ap, g_add_ap, g_sub_ap, scOnly, e_if, rIf, ownOk, g_name, g_tup, setAll, e_isi_ap, isTy, tyD, g_len, asSeq, asL, fin, g_neg, i_rng1, i_rng2, i_list, i_tup, i_enum, i_zip, i_revr, asRg1, asRg2, asRgV, asIt, asTup, asEn, asZip, n_rng1_ap, n_rng2_ap, List.getElem?_cons_zero, List.getElem?_cons_succ, List.set_cons_zero, List.set_cons_succ, List.length_cons, List.length_nil, reduceIte, if_true, if_false, Bool.false_eq_true, Bool.not_true, Bool.not_false, g_pow_ap _ _ hp, hd, g_mul_ap _ _ m1, g_mul_ap _ _ m2, g_mul_ap _ _ m3, g_mod_ap _ _ z9, d1, g_mod_ap _ _ hc, Nat.reduceAdd]
end PyS
set_option maxRecDepth 100000
set_option maxHeartbeats 4000000
namespace PyS
open PySem PySem.Spec PyProof.Rows L2
theorem ints_at {ns : List Int} {k : Nat} {z : Int} (h : ns[k]? = some z) : g_ixs (.scr ns) (.int (k : Int)) = .ok (.int z) := by
  have e : (ns.map D.int)[k]? = some (.int z) := by
    rw [List.getElem?_map, h]
    rfl
  have := atI_nat e
  simp only [g_ixs, g_ix, asSeq, this, scOnly]
theorem m_cell (ns : List Int) (k : Nat) : m_law_cell_at [.scr ns, .int k] = .ok (.int (ns.getD k 0)) := by
  unfold m_law_cell_at
  have hs : startE 2 [.scr ns, .int (k : Int)] = [some (.scr ns), some (.int (k : Int))] := rfl
  by_cases h : k < ns.length
  · have h1 : decide ((k : Int) < ((ns.map D.int).length : Int)) = true := by
      rw [List.length_map]
      simpa using h
    have h2 := ints_at (List.getElem?_eq_getElem h)
    have h3 : ns.getD k 0 = ns[k] := by
      rw [List.getD_eq_getElem?_getD, List.getElem?_eq_getElem h]
      rfl
    simp only [body, hs, s_law_cell_at, s_seq, oSeq, s_pass, s_set, s_setM, s_setA, s_mv, s_expr, s_ret, s_retM, oIf, s_if, s_raise, withL, s_app, s_appM, s_ext, s_put, s_aug, oR, oA, s_par, setX, e_and, e_or, e_not_ap, e_own_ap, e_call, a_cons, a_nil, rCons, rCall, e_var, e_ivar, e_c, e_un, r1, r2, e_op, e_lst, e_tup, aL, g_not, rOr, rAnd, e_chain, rChain, g_le_ap, g_lt_ap, g_ge_ap, g_gt_ap, g_add_ap, g_sub_ap, scOnly, e_if, rIf, ownOk, g_name, g_tup, setAll, e_isi_ap, isTy, tyD, g_len, asSeq, asL, fin, g_neg, i_rng1, i_rng2, i_list, i_tup, i_enum, i_zip, i_revr, asRg1, asRg2, asRgV, asIt, asTup, asEn, asZip, n_rng1_ap, n_rng2_ap, List.getElem?_cons_zero, List.getElem?_cons_succ, List.set_cons_zero, List.set_cons_succ, List.length_cons, List.length_nil, reduceIte, if_true, if_false, Bool.false_eq_true, Bool.not_true, Bool.not_false, h1, h2, h3]
  · have h1 : decide ((k : Int) < ((ns.map D.int).length : Int)) = false := by
      rw [List.length_map]
      simpa using h
    have h3 : ns.getD k 0 = 0 := by
      rw [List.getD_eq_getElem?_getD, List.getElem?_eq_none (by omega)]
      rfl
    simp only [body, hs, s_law_cell_at, s_seq, oSeq, s_pass, s_set, s_setM, s_setA, s_mv, s_expr, s_ret, s_retM, oIf, s_if, s_raise, withL, s_app, s_appM, s_ext, s_put, s_aug, oR, oA, s_par, setX, e_and, e_or, e_not_ap, e_own_ap, e_call, a_cons, a_nil, rCons, rCall, e_var, e_ivar, e_c, e_un, r1, r2, e_op, e_lst, e_tup, aL, g_not, rOr, rAnd, e_chain, rChain, g_le_ap, g_lt_ap, g_ge_ap, g_gt_ap, g_add_ap, g_sub_ap, scOnly, e_if, rIf, ownOk, g_name, g_tup, setAll, e_isi_ap, isTy, tyD, g_len, asSeq, asL, fin, g_neg, i_rng1, i_rng2, i_list, i_tup, i_enum, i_zip, i_revr, asRg1, asRg2, asRgV, asIt, asTup, asEn, asZip, n_rng1_ap, n_rng2_ap, List.getElem?_cons_zero, List.getElem?_cons_succ, List.set_cons_zero, List.set_cons_succ, List.length_cons, List.length_nil, reduceIte, if_true, if_false, Bool.false_eq_true, Bool.not_true, Bool.not_false, h1, h3]
theorem getD_small {ns : List Int} (hb : ∀ z ∈ ns, Builtin.Int.intBits z ≤ 1048576) (k : Nat) : Lt2 (ns.getD k 0) 1048577 := by
  rw [List.getD_eq_getElem?_getD]
  cases h : ns[k]? with
  | none => exact Lt2.nat (k := 1048577) (Int.le_refl 0) (Int.pow_pos (by decide))
  | some z => exact Lt2.bits (hb z (List.mem_of_getElem? h))
theorem Vd_of (n : Nat) : ∀ (k : Nat) (ps : List Nat), (∀ p ∈ ps, k ≤ p) → ps.Pairwise (· ≤ ·) → (∀ i p, ps[i]? = some p → p + (ps.length - i) ≤ n) → Vd n k ps
  | k, [], _, _, _ => trivial
  | k, p :: ps, h1, h2, h3 => by
    obtain ⟨q1, q2⟩ := List.pairwise_cons.mp h2
    have := h3 0 p rfl
    rw [List.length_cons] at this
    refine ⟨h1 p List.mem_cons_self, by omega, Vd_of n p ps q1 q2 fun i q hq => ?_⟩
    have := h3 (i + 1) q (by simpa using hq)
    rw [List.length_cons] at this
    omega
theorem row_of {ps : List Nat} (h2 : ps.Pairwise (· ≤ ·)) (h3 : ∀ (i p : Nat), ps[i]? = some p → p ≤ i) : Row ps := Vd_of _ _ _ (fun _ _ => Nat.zero_le _) h2 fun i p h => by
  have := h3 i p h
  have := (List.getElem?_eq_some_iff.mp h).1
  omega
theorem four_at (a b c d z : Int) (h0 : 0 ≤ z) (h : z < 4) : ∃ p, (p = a ∨ p = b ∨ p = c ∨ p = d) ∧ g_ixs (.tup [.int a, .int b, .int c, .int d]) (.int z) = .ok (.int p) := by
  have : z = 0 ∨ z = 1 ∨ z = 2 ∨ z = 3 := by omega
  rcases this with rfl | rfl | rfl | rfl
  · exact ⟨a, .inl rfl, rfl⟩
  · exact ⟨b, .inr (.inl rfl), rfl⟩
  · exact ⟨c, .inr (.inr (.inl rfl)), rfl⟩
  · exact ⟨d, .inr (.inr (.inr rfl)), rfl⟩
theorem m_row (ns : List Int) (hb : ∀ z ∈ ns, Builtin.Int.intBits z ≤ 1048576) (t : Nat) (ht : t ≤ 1) : ∃ ps : List Nat, m_law_row [.scr ns, .int 40, .int t] = .ok (dn ps) ∧ ps.length ≤ 40 ∧ Row ps := by
  unfold m_law_row
  have hs : startE 9 [.scr ns, .int 40, .int (t : Int)] = [some (.scr ns), some (.int 40), some (.int (t : Int)), none, none, none, none, none, none] := rfl
  have c1 := m_cell ns 1
  have e1 : ((1 : Nat) : Int) = 1 := rfl
  rw [e1] at c1
  obtain ⟨kind, d1, d2, d3⟩ := m_draw (ns.getD 1 0 + (t : Int)) 5 4 ((getD_small hb 1).add (k := 10) (m := 4000000) (Lt2.nat (by omega) (by omega)) (by omega) (by omega)) (by unfold Lt2; decide) (by decide)
  have hmin : ∃ m : Nat, m ≤ 40 ∧ m ≤ ns.length ∧ (if (((ns.map D.int).length : Nat) : Int) < 40 then (((ns.map D.int).length : Nat) : Int) else 40) = (m : Int) := by
    rw [List.length_map]
    refine ⟨min 40 ns.length, by omega, by omega, ?_⟩
    split <;> omega
  obtain ⟨m, m1, m2, m3⟩ := hmin
  have er : rgOk 0 (m : Int) = true := by
    simp [rgOk]
    omega
  obtain ⟨e', h3, h4⟩ := forGo_inv (fg := g_name 6) (s := (s_seq (s_set 7 (e_own 3 m_law_number (a_cons (e_op g_ixs (e_var 0) (e_ivar 6)) (a_cons (e_op g_add (e_ivar 6) (e_ivar 2)) (a_cons (e_op g_add (e_op g_sub (e_ivar 6) (e_ivar 5)) (e_c (.int 1))) a_nil)))))
  (s_seq (s_set 8 (e_call g_max (a_cons (e_c (.int 0)) (a_cons (e_op g_sub (e_op g_sub (e_ivar 6) (e_ivar 5)) (e_op g_div (e_ivar 7) (e_c (.int 4)))) a_nil))))
  (s_seq (s_set 5 (e_op g_add (e_ivar 5) (e_op g_ixs (e_tup (a_cons (e_ivar 7) (a_cons (e_op g_div (e_ivar 7) (e_c (.int 3))) (a_cons (e_ivar 8) (a_cons (e_op g_mul (e_ivar 7) (e_op g_mod (e_ivar 6) (e_c (.int 2)))) a_nil))))) (e_ivar 3))))
  (s_app 4 (e_ivar 5))))))
    (fun i env => ∃ (low : Nat) (acc : List Nat) (a b c : Option D), acc.length = i ∧ low ≤ i ∧ acc.Pairwise (· ≤ ·) ∧ (∀ p ∈ acc, p ≤ low) ∧ (∀ (j q : Nat), acc[j]? = some q → q ≤ j) ∧ env = [some (.scr ns), some (.int 40), some (.int (t : Int)), some (.int kind), some (.lst (nn acc)), some (.int low), a, b, c])
    (nn (List.range m)) 0 [some (.scr ns), some (.int 40), some (.int (t : Int)), some (.int kind), some (.lst []), some (.int 0), none, none, none] ⟨0, [], none, none, none, rfl, Nat.le_refl _, .nil, fun _ h => absurd h List.not_mem_nil, (by intro i p h; cases i <;> cases h), rfl⟩
    (by
      rintro i d hd env ⟨low, acc, a, b, c, q1, q2, q3, q4, q5, rfl⟩
      obtain ⟨p, hp, rfl⟩ := nn_get hd
      have hi : i < m := by
        have := (List.getElem?_eq_some_iff.mp hp).1
        simpa using this
      have ep : p = i := by
        rw [List.getElem?_range hi] at hp
        exact (Option.some.inj hp).symm
      subst ep
      have hi2 : p < ns.length := by omega
      have f1 := ints_at (List.getElem?_eq_getElem hi2)
      obtain ⟨r, n1, n2, n3⟩ := m_numb ns[p] ((p : Int) + (t : Int)) ((p : Int) - (low : Int) + 1) (Lt2.bits (hb _ (List.getElem_mem hi2))) (by omega) (by omega) (by omega)
      have k4 : divOk r 4 = true := by
        unfold divOk
        decide
      have k3 : divOk r 3 = true := by
        unfold divOk
        decide
      have z2 : (0 : Int) < 2 := by decide
      have km : mulOk r ((p : Int) % 2) = true := mulOk_of (j := 100) (k := 100) (Lt2.nat n2 (by omega)) (Lt2.nat (Int.emod_nonneg _ (by decide)) (by have := Int.emod_lt_of_pos (p : Int) z2; omega)) (by omega)
      have hmx : ∃ hi : Int, 0 ≤ hi ∧ hi ≤ (p : Int) - (low : Int) ∧ g_max [.int 0, .int ((p : Int) - (low : Int) - r / 4)] = .ok (.int hi) := by
        have := Int.ediv_nonneg n2 (show (0 : Int) ≤ 4 by decide)
        unfold g_max gTwo
        simp only
        split
        · exact ⟨_, by omega, by omega, rfl⟩
        · exact ⟨_, by omega, by omega, rfl⟩
      obtain ⟨hi', x1, x2, x3⟩ := hmx
      obtain ⟨δ, y1, y2⟩ := four_at r (r / 3) hi' (r * ((p : Int) % 2)) kind d2 d3
      have y3 : 0 ≤ δ ∧ δ ≤ (p : Int) - (low : Int) := by
        rcases y1 with rfl | rfl | rfl | rfl
        · omega
        · omega
        · omega
        · have := Int.emod_two_eq (p : Int)
          rcases this with z | z <;> rw [z] <;> omega
      have y4 : (low : Int) + δ = ((low + δ.toNat : Nat) : Int) := by omega
      have f6 : (nn acc).length < 100000 := by
        rw [nn_len]
        omega
      have f7 : nn acc ++ [.int ((low + δ.toNat : Nat) : Int)] = nn (acc ++ [low + δ.toNat]) := by simp [nn]
      refine ⟨[some (.scr ns), some (.int 40), some (.int (t : Int)), some (.int kind), some (.lst (nn acc)), some (.int low), some (.int p), b, c], _, rfl, (by simp only [s_seq, oSeq, s_pass, s_set, s_setM, s_setA, s_mv, s_expr, s_ret, s_retM, oIf, s_if, s_raise, withL, s_app, s_appM, s_ext, s_put, s_aug, oR, oA, s_par, setX, e_and, e_or, e_not_ap, e_own_ap, e_call, a_cons, a_nil, rCons, rCall, e_var, e_ivar, e_c, e_un, r1, r2, e_op, e_lst, e_tup, aL, g_not, rOr, rAnd, e_chain, rChain, g_le_ap, g_lt_ap, g_ge_ap, g_gt_ap, g_add_ap, g_sub_ap, scOnly, e_if, rIf, ownOk, g_name, g_tup, setAll, e_isi_ap, isTy, tyD, g_len, asSeq, asL, fin, g_neg, i_rng1, i_rng2, i_list, i_tup, i_enum, i_zip, i_revr, asRg1, asRg2, asRgV, asIt, asTup, asEn, asZip, n_rng1_ap, n_rng2_ap, List.getElem?_cons_zero, List.getElem?_cons_succ, List.set_cons_zero, List.set_cons_succ, List.length_cons, List.length_nil, reduceIte, if_true, if_false, Bool.false_eq_true, Bool.not_true, Bool.not_false, f1, n1, g_div_ap _ _ k4, x3, g_div_ap _ _ k3, g_mod_ap _ _ z2, g_mul_ap _ _ km, y2, y4, f6, f7, Nat.zero_le, Nat.reduceLeDiff, Nat.reduceAdd]; rfl), low + δ.toNat, acc ++ [low + δ.toNat], _, _, _, ?_, ?_, ?_, ?_, ?_, rfl⟩
      · rw [List.length_append, q1]
        rfl
      · omega
      · refine List.pairwise_append.mpr ⟨q3, List.pairwise_singleton _ _, fun x hx y hy => ?_⟩
        rw [List.mem_singleton.mp hy]
        have := q4 x hx
        omega
      · intro x hx
        rcases List.mem_append.mp hx with z | z
        · have := q4 x z
          omega
        · rw [List.mem_singleton.mp z]
          exact Nat.le_refl _
      · intro j x hx
        rw [List.getElem?_append] at hx
        split at hx
        · exact q5 j x hx
        · rename_i hj
          have : x ∈ [low + δ.toNat] := List.mem_of_getElem? hx
          rw [List.mem_singleton.mp this]
          omega)
  rw [nn_len, List.length_range, Nat.zero_add] at h4
  obtain ⟨low, acc, a, b, c, q1, q2, q3, q4, q5, rfl⟩ := h4
  refine ⟨acc, ?_, by omega, row_of q3 q5⟩
  have hm : mask [4] [some (.scr ns), some (.int 40), some (.int (t : Int)), some (.int kind), some (.lst []), some (.int 0), none, none, none] = [some (.scr ns), some (.int 40), some (.int (t : Int)), some (.int kind), none, some (.int 0), none, none, none] := rfl
  have h44 : (4 : Nat) ∈ [4] := by decide
  have h54 : ¬ (5 : Nat) ∈ [4] := by decide
  simp only [body, hs, s_law_row, s_for, hm, g_min, gTwo, m3, rgD_zero, er, h44, h54, s_seq, oSeq, s_pass, s_set, s_setM, s_setA, s_mv, s_expr, s_ret, s_retM, oIf, s_if, s_raise, withL, s_app, s_appM, s_ext, s_put, s_aug, oR, oA, s_par, setX, e_and, e_or, e_not_ap, e_own_ap, e_call, a_cons, a_nil, rCons, rCall, e_var, e_ivar, e_c, e_un, r1, r2, e_op, e_lst, e_tup, aL, g_not, rOr, rAnd, e_chain, rChain, g_le_ap, g_lt_ap, g_ge_ap, g_gt_ap, g_add_ap, g_sub_ap, scOnly, e_if, rIf, ownOk, g_name, g_tup, setAll, e_isi_ap, isTy, tyD, g_len, asSeq, asL, fin, g_neg, i_rng1, i_rng2, i_list, i_tup, i_enum, i_zip, i_revr, asRg1, asRg2, asRgV, asIt, asTup, asEn, asZip, n_rng1_ap, n_rng2_ap, List.getElem?_cons_zero, List.getElem?_cons_succ, List.set_cons_zero, List.set_cons_succ, List.length_cons, List.length_nil, reduceIte, if_true, if_false, Bool.false_eq_true, Bool.not_true, Bool.not_false, c1, d1, h3, dn, Nat.reduceAdd, Nat.zero_le, Nat.reduceLeDiff]
end PyS
set_option maxRecDepth 100000
set_option maxHeartbeats 4000000
namespace PyS
open PySem PySem.Spec PyProof.Rows L2
theorem g_eq_self (neg : Bool) (d : D) (h : SeqAt.shaped (toPy d) = true) : g_eq neg d d = .ok (.bl (!neg)) := by
  unfold g_eq
  rw [h, SeqAt.eqv_refl _ (can_shaped h)]
  cases neg <;> rfl
theorem toPys_ints : ∀ ns : List Int, toPys (ns.map D.int) = ns.map PyData.int
  | [] => rfl
  | n :: ns => by
    rw [List.map_cons, List.map_cons, toPys, toPys_ints ns]
    rfl
theorem nn_ints (ps : List Nat) : nn ps = (ps.map fun (i : Nat) => (i : Int)).map D.int := by
  unfold nn
  rw [List.map_map]
  rfl
theorem shaped_nn (ps : List Nat) : SeqAt.shaped (toPy (.lst (nn ps))) = true := by
  rw [nn_ints, toPy, toPys_ints]
  exact PySem.W.ke_shaped_ints _
theorem eq_nn (neg : Bool) (ps : List Nat) : g_eq neg (.lst (nn ps)) (.lst (nn ps)) = .ok (.bl (!neg)) := g_eq_self _ _ (shaped_nn ps)
theorem eq_int (neg : Bool) (i : Int) : g_eq neg (.int i) (.int i) = .ok (.bl (!neg)) := g_eq_self _ _ rfl
theorem rise_ints {ps : List Nat} (h : ps.Pairwise (· ≤ ·)) : (ps.map fun (i : Nat) => (i : Int)).Pairwise (· ≤ ·) := by
  rw [List.pairwise_map]
  exact h.imp fun h => by omega
theorem Vd_pair (n : Nat) : ∀ (k : Nat) (ps : List Nat), Vd n k ps → (∀ p ∈ ps, k ≤ p) ∧ ps.Pairwise (· ≤ ·)
  | k, [], _ => ⟨fun _ h => absurd h List.not_mem_nil, .nil⟩
  | k, p :: ps, ⟨h1, h2, h3⟩ => by
    obtain ⟨a, b⟩ := Vd_pair n p ps h3
    refine ⟨fun x hx => ?_, List.pairwise_cons.mpr ⟨a, b⟩⟩
    rcases List.mem_cons.mp hx with z | z
    · rw [z]
      exact h1
    · exact Nat.le_trans h1 (a x z)
theorem m_isrow (ps : List Nat) (hl : ps.length ≤ 1000) (h : Row ps) : m_law_is_row [dn ps, .int (ps.length : Int)] = .ok (.bl true) := by
  unfold m_law_is_row
  have hs : startE 4 [dn ps, .int (ps.length : Int)] = [some (.lst (nn ps)), some (.int (ps.length : Int)), none, none] := rfl
  have hlen : (nn ps).length ≤ 100000 := by
    rw [nn_len]
    omega
  have a1 := lc_all (fi := (i_list (e_var 0))) (fg := g_name 3) (fe := (e_own 1 m_law_whole (a_cons (e_ivar 3) a_nil))) (vs := [3]) (env := [some (.lst (nn ps)), some (.int (ps.length : Int)), none, none]) (ds := nn ps) rfl hlen (by
    intro d hd
    obtain ⟨i, hi⟩ := List.mem_iff_getElem?.mp hd
    obtain ⟨p, _, rfl⟩ := nn_get hi
    refine ⟨_, rfl, ?_⟩
    simp only [wipeE, s_seq, oSeq, s_pass, s_set, s_setM, s_setA, s_mv, s_expr, s_ret, s_retM, oIf, s_if, s_raise, withL, s_app, s_appM, s_ext, s_put, s_aug, oR, oA, s_par, setX, e_and, e_or, e_not_ap, e_own_ap, e_call, a_cons, a_nil, rCons, rCall, e_var, e_ivar, e_c, e_un, r1, r2, e_op, e_lst, e_tup, aL, g_not, rOr, rAnd, e_chain, rChain, g_le_ap, g_lt_ap, g_ge_ap, g_gt_ap, g_add_ap, g_sub_ap, scOnly, e_if, rIf, ownOk, g_name, g_tup, setAll, e_isi_ap, isTy, tyD, g_len, asSeq, asL, fin, g_neg, i_rng1, i_rng2, i_list, i_tup, i_enum, i_zip, i_revr, asRg1, asRg2, asRgV, asIt, asTup, asEn, asZip, n_rng1_ap, n_rng2_ap, List.getElem?_cons_zero, List.getElem?_cons_succ, List.set_cons_zero, List.set_cons_succ, List.length_cons, List.length_nil, reduceIte, if_true, if_false, Bool.false_eq_true, Bool.not_true, Bool.not_false, m_law_whole_int])
  have a2 := lc_all (fi := (i_enum (a_cons (e_var 0) a_nil))) (fg := g_tup [2, 3]) (fe := (e_chain g_le g_le (e_c (.int 0)) (e_ivar 3) (e_ivar 2))) (vs := [2, 3]) (env := [some (.lst (nn ps)), some (.int (ps.length : Int)), none, none]) (ds := enumD 0 (nn ps)) rfl (by rw [enumD_len]; exact hlen) (by
    intro d hd
    obtain ⟨i, hi⟩ := List.mem_iff_getElem?.mp hd
    obtain ⟨d, h1, rfl⟩ := enumD_at hi
    obtain ⟨p, h2, rfl⟩ := nn_get h1
    refine ⟨_, rfl, ?_⟩
    have := (Vd_le _ _ _ _ _ h h2).2
    have hil := (List.getElem?_eq_some_iff.mp h2).1
    have q1 : decide ((0 : Int) ≤ (p : Int)) = true := by simp
    have q2 : decide ((p : Int) ≤ ((0 + i : Nat) : Int)) = true := by
      rw [decide_eq_true_eq]
      omega
    simp only [wipeE, s_seq, oSeq, s_pass, s_set, s_setM, s_setA, s_mv, s_expr, s_ret, s_retM, oIf, s_if, s_raise, withL, s_app, s_appM, s_ext, s_put, s_aug, oR, oA, s_par, setX, e_and, e_or, e_not_ap, e_own_ap, e_call, a_cons, a_nil, rCons, rCall, e_var, e_ivar, e_c, e_un, r1, r2, e_op, e_lst, e_tup, aL, g_not, rOr, rAnd, e_chain, rChain, g_le_ap, g_lt_ap, g_ge_ap, g_gt_ap, g_add_ap, g_sub_ap, scOnly, e_if, rIf, ownOk, g_name, g_tup, setAll, e_isi_ap, isTy, tyD, g_len, asSeq, asL, fin, g_neg, i_rng1, i_rng2, i_list, i_tup, i_enum, i_zip, i_revr, asRg1, asRg2, asRgV, asIt, asTup, asEn, asZip, n_rng1_ap, n_rng2_ap, List.getElem?_cons_zero, List.getElem?_cons_succ, List.set_cons_zero, List.set_cons_succ, List.length_cons, List.length_nil, reduceIte, if_true, if_false, Bool.false_eq_true, Bool.not_true, Bool.not_false, q1, q2])
  have so : g_sorted [.lst (nn ps)] = .ok (.lst (nn ps)) := by
    have e : asInts (nn ps) = some (ps.map fun (i : Nat) => (i : Int)) := by
      rw [nn_ints]
      exact asInts_map _
    simp only [g_sorted, asL, e]
    rw [← sortI_uniq (.refl _) (rise_ints (Vd_pair _ _ _ h).2), ← nn_ints]
  have t : ("list" == "list" || ("list" == "bool" && "list" == "int")) = true := by decide
  simp only [body, hs, s_law_is_row, ↓a1, ↓a2, s_seq, oSeq, s_pass, s_set, s_setM, s_setA, s_mv, s_expr, s_ret, s_retM, oIf, s_if, s_raise, withL, s_app, s_appM, s_ext, s_put, s_aug, oR, oA, s_par, setX, e_and, e_or, e_not_ap, e_own_ap, e_call, a_cons, a_nil, rCons, rCall, e_var, e_ivar, e_c, e_un, r1, r2, e_op, e_lst, e_tup, aL, g_not, rOr, rAnd, e_chain, rChain, g_le_ap, g_lt_ap, g_ge_ap, g_gt_ap, g_add_ap, g_sub_ap, scOnly, e_if, rIf, ownOk, g_name, g_tup, setAll, e_isi_ap, isTy, tyD, g_len, asSeq, asL, fin, g_neg, i_rng1, i_rng2, i_list, i_tup, i_enum, i_zip, i_revr, asRg1, asRg2, asRgV, asIt, asTup, asEn, asZip, n_rng1_ap, n_rng2_ap, List.getElem?_cons_zero, List.getElem?_cons_succ, List.set_cons_zero, List.set_cons_succ, List.length_cons, List.length_nil, reduceIte, if_true, if_false, Bool.false_eq_true, Bool.not_true, Bool.not_false, t, nn_len, eq_int, so, eq_nn]
theorem cut_init (ds : List D) (d : D) : cutG (ds ++ [d]) none (some (-1)) = ds := by
  unfold cutG HT.sIx
  simp
  have : ((-1 : Int) + ((ds.length : Int) + 1)).toNat = ds.length := by omega
  rw [this]
  simp
theorem m_right (n x : Nat) (hn : n ≤ 100) (hx : x < w n n 0) : m_law_number_right [.int n, .int x] = .ok (.bl true) := by
  unfold m_law_number_right
  obtain ⟨u1, u2, u3⟩ := unrank_spec n n 0 x (Nat.le_refl _) hx
  have c1 := m_by n x hn hx
  generalize unrank n n 0 x = ps at *
  have hr : Row ps := by
    unfold Row
    rw [u1]
    exact u2
  have c2 := m_isrow ps (by omega) hr
  have c3 := m_num ps (by omega) hr
  rw [u1] at c2 c3
  rw [u3] at c3
  simp only [dn] at c1 c2 c3
  have hs : startE 5 [.int (n : Int), .int (x : Int)] = [some (.int (n : Int)), some (.int (x : Int)), none, none, none] := rfl
  have f1 : g_listS [.lst (nn ps)] = .ok (.lst (nn ps)) := by
    have : (nn ps).length ≤ 100000 ∧ scAll (nn ps) = true := ⟨by rw [nn_len]; omega, by rw [nn_ints]; exact scAll_ints _⟩
    simp only [g_listS, asSeq, if_pos this]
  have f2 : (nn ps).length < 100000 := by
    rw [nn_len]
    omega
  have f3 : scAll (nn ps) = true := by
    rw [nn_ints]
    exact scAll_ints _
  have n1 : (0 : Int) - 1 = -1 := by decide
  simp only [body, hs, s_law_number_right, e_sliceS, rSlice, e_part, asPart, cut_init, s_seq, oSeq, s_pass, s_set, s_setM, s_setA, s_mv, s_expr, s_ret, s_retM, oIf, s_if, s_raise, withL, s_app, s_appM, s_ext, s_put, s_aug, oR, oA, s_par, setX, e_and, e_or, e_not_ap, e_own_ap, e_call, a_cons, a_nil, rCons, rCall, e_var, e_ivar, e_c, e_un, r1, r2, e_op, e_lst, e_tup, aL, g_not, rOr, rAnd, e_chain, rChain, g_le_ap, g_lt_ap, g_ge_ap, g_gt_ap, g_add_ap, g_sub_ap, scOnly, e_if, rIf, ownOk, g_name, g_tup, setAll, e_isi_ap, isTy, tyD, g_len, asSeq, asL, fin, g_neg, i_rng1, i_rng2, i_list, i_tup, i_enum, i_zip, i_revr, asRg1, asRg2, asRgV, asIt, asTup, asEn, asZip, n_rng1_ap, n_rng2_ap, List.getElem?_cons_zero, List.getElem?_cons_succ, List.set_cons_zero, List.set_cons_succ, List.length_cons, List.length_nil, reduceIte, if_true, if_false, Bool.false_eq_true, Bool.not_true, Bool.not_false, c1, c2, c3, f1, f2, f3, m_law_whole_int, eq_int, eq_nn, Nat.reduceAdd]
end PyS
set_option maxRecDepth 100000
set_option maxHeartbeats 4000000
namespace PyS
open PySem PySem.Spec PyProof.Rows L2
/-! what the kernel reckons -/
def isI (r : R) (n : Nat) : Bool := match r with
  | .ok (.int (.ofNat m)) => m == n
  | _ => false
theorem isI_eq {r : R} {n : Nat} (h : isI r n = true) : r = .ok (.int (n : Int)) := by
  unfold isI at h
  split at h
  · rw [eq_of_beq h]
    rfl
  · cases h
theorem many30 : ∀ n : Nat, n < 31 → isI (m_law_many [.int (n : Int)]) (cat n) = true := by decide +kernel
theorem many100 : isI (m_law_many [.int ((100 : Nat) : Int)]) (cat 100) = true := by decide +kernel
theorem m_lawmany (n : Nat) (h : n ≤ 30 ∨ n = 100) : m_law_many [.int n] = .ok (.int (w n n 0 : Nat)) := by
  rcases h with h | rfl
  · rw [cat_small n (by omega)]
    exact isI_eq (many30 n (by omega))
  · rw [cat_100]
    exact isI_eq many100
def isRows (ds : List D) (n : Nat) : Bool := ds.length == w n n 0 && (List.range (w n n 0)).all fun x => match ds[x]? with
  | some (.lst xs) => asInts xs == some ((unrank n n 0 x).map fun (i : Nat) => (i : Int))
  | _ => false
def isAll (n : Nat) : Bool := match m_law_all [.int (n : Int)] with
  | .ok (.lst ds) => isRows ds n && (SeqAt.shaped (toPy (.lst ds)) && decide (w n n 0 ≤ 100000))
  | _ => false
theorem all5 : ∀ n : Nat, n < 6 → isAll n = true := by decide +kernel
theorem m_all (n : Nat) (h : n < 6) : m_law_all [.int n] = .ok (.lst ((List.range (w n n 0)).map fun x => dn (unrank n n 0 x))) ∧ SeqAt.shaped (toPy (.lst ((List.range (w n n 0)).map fun x => dn (unrank n n 0 x)))) = true ∧ w n n 0 ≤ 100000 := by
  have q := all5 n h
  unfold isAll at q
  split at q
  · rename_i ds hd
    rw [Bool.and_eq_true, Bool.and_eq_true, decide_eq_true_eq] at q
    obtain ⟨q1, q2, q3⟩ := q
    have e : ds = (List.range (w n n 0)).map fun x => dn (unrank n n 0 x) := by
      unfold isRows at q1
      rw [Bool.and_eq_true, List.all_eq_true] at q1
      obtain ⟨r1, r2⟩ := q1
      have r1 := eq_of_beq r1
      apply List.ext_getElem
      · rw [List.length_map, List.length_range, r1]
      · intro i h1 h2
        have := r2 i (List.mem_range.mpr (by omega))
        split at this
        · rename_i xs hx
          have hx2 := asInts_eq (eq_of_beq this)
          rw [List.getElem_map, List.getElem_range]
          rw [List.getElem?_eq_getElem h1] at hx
          rw [Option.some.inj hx, hx2]
          unfold dn
          rw [nn_ints]
        · cases this
    rw [← e]
    exact ⟨hd, q2, q3⟩
  · cases q
theorem seq_nx {s t : Env → O} {e e' : Env} (h : s e = .nx e') : s_seq s t e = t e' := by simp only [s_seq, h, oSeq]
def vdB (n : Nat) : Nat → List Nat → Bool
  | _, [] => true
  | k, p :: ps => decide (k ≤ p) && decide (p + ps.length < n) && vdB n p ps
theorem vdB_ok (n : Nat) : ∀ (k : Nat) (ps : List Nat), vdB n k ps = true → Vd n k ps
  | _, [], _ => trivial
  | k, p :: ps, h => by
    unfold vdB at h
    rw [Bool.and_eq_true, Bool.and_eq_true, decide_eq_true_eq, decide_eq_true_eq] at h
    exact ⟨h.1.1, h.1.2, vdB_ok n p ps h.2⟩
theorem both (ps : List Nat) (hl : ps.length ≤ 100) (h : Row ps) : m_number_of [.lst (nn ps)] = .ok (.int (rank ps.length 0 ps : Nat)) ∧ m_row_by [.int (ps.length : Nat), .int (rank ps.length 0 ps : Nat)] = .ok (.lst (nn ps)) := by
  refine ⟨m_num ps hl h, ?_⟩
  have hx := rank_lt ps.length 0 ps (Nat.le_refl _) (Nat.zero_le _) h
  have := m_by ps.length (rank ps.length 0 ps) hl hx
  rw [unrank_rank ps.length 0 ps (Nat.le_refl _) (Nat.zero_le _) h] at this
  exact this
theorem bothB (ps : List Nat) (n r : Nat) (hn : ps.length = n) (hl : n ≤ 100) (h : vdB n 0 ps = true) (hr : rank n 0 ps = r) : m_number_of [.lst (nn ps)] = .ok (.int (r : Nat)) ∧ m_row_by [.int (n : Nat), .int (r : Nat)] = .ok (.lst (nn ps)) := by
  subst hn hr
  exact both ps hl (vdB_ok _ _ _ h)
end PyS
set_option maxRecDepth 100000
set_option maxHeartbeats 4000000
namespace PyS
open PySem PySem.Spec PyProof.Rows L2
def s_tail (mh mn mr : List D → R) : Env → O := (s_seq (s_if (e_op (g_eq true) (e_lc (i_rng1 (a_cons (e_c (.int 5)) a_nil)) (g_name 11) (e_c (.bl true)) (e_own 1 mh (a_cons (e_ivar 11) a_nil)) [11]) (e_lst (a_cons (e_c (.int 1)) (a_cons (e_c (.int 1)) (a_cons (e_c (.int 2)) (a_cons (e_c (.int 5)) (a_cons (e_c (.int 14)) a_nil))))))) (s_ret (e_c (.bl false)))
  s_pass)
  (s_seq (s_if (e_op (g_eq true) (e_lst (a_cons (e_own 1 mh (a_cons (e_c (.int 19)) a_nil)) (a_cons (e_own 1 mh (a_cons (e_c (.int 20)) a_nil)) a_nil))) (e_lst (a_cons (e_c (.int 1767263190)) (a_cons (e_c (.int 6564120420)) a_nil)))) (s_ret (e_c (.bl false)))
  s_pass)
  (s_seq (s_set 9 (e_lst (a_cons (e_tup (a_cons (e_op g_cat (e_lst (a_cons (e_c (.int 0)) (a_cons (e_c (.int 1)) a_nil))) (e_op g_rep (e_lst (a_cons (e_c (.int 1)) a_nil)) (e_c (.int 18)))) (a_cons (e_c (.int 4796857230)) a_nil))) (a_cons (e_tup (a_cons (e_op g_cat (e_lst (a_cons (e_c (.int 0)) (a_cons (e_c (.int 0)) a_nil))) (e_listRg (n_rng2 (e_c (.int 2)) (e_c (.int 20))))) (a_cons (e_c (.int 4796857229)) a_nil))) a_nil))))
  (s_seq (s_for [] (i_list (e_op g_cat (e_var 9) (e_lst (a_cons (e_tup (a_cons (e_op g_cat (e_op g_rep (e_lst (a_cons (e_c (.int 0)) a_nil)) (e_c (.int 99))) (e_lst (a_cons (e_c (.int 99)) a_nil))) (a_cons (e_c (.int 99)) a_nil))) (a_cons (e_tup (a_cons (e_listRg (n_rng1 (e_c (.int 100)))) (a_cons (e_op g_sub (e_own 1 mh (a_cons (e_c (.int 100)) a_nil)) (e_c (.int 1))) a_nil))) a_nil))))) (g_tup [7, 5])
  (s_if (e_or (e_op (g_eq true) (e_own 1 mn (a_cons (e_var 7) a_nil)) (e_ivar 5)) (e_op (g_eq true) (e_own 2 mr (a_cons (e_call g_len (a_cons (e_var 7) a_nil)) (a_cons (e_ivar 5) a_nil))) (e_var 7))) (s_ret (e_c (.bl false)))
  s_pass))
  (s_re [7] (s_seq (s_setM 7 (e_lst (a_cons (e_c (.int 0)) (a_cons (e_c (.int 0)) (a_cons (e_c (.int 1)) a_nil)))))
  (s_seq (s_set 10 (e_lst (a_cons (e_own 1 mn (a_cons (e_var 7) a_nil)) (a_cons (e_own 2 mr (a_cons (e_c (.int 3)) (a_cons (e_c (.int 1)) a_nil))) (a_cons (e_own 2 mr (a_cons (e_c (.int 4)) (a_cons (e_c (.int 1)) a_nil))) a_nil)))))
  (s_seq (s_put 7 (e_c (.int 1)) (e_c (.int 1)))
  (s_seq (s_if (e_or (e_op (g_eq true) (e_var 10) (e_lst (a_cons (e_c (.int 1)) (a_cons (e_lst (a_cons (e_c (.int 0)) (a_cons (e_c (.int 0)) (a_cons (e_c (.int 1)) a_nil)))) (a_cons (e_lst (a_cons (e_c (.int 0)) (a_cons (e_c (.int 0)) (a_cons (e_c (.int 0)) (a_cons (e_c (.int 1)) a_nil))))) a_nil))))) (e_op (g_eq true) (e_own 1 mn (a_cons (e_var 7) a_nil)) (e_c (.int 3)))) (s_ret (e_c (.bl false)))
  s_pass)
  (s_ret (e_and (e_op (g_eq false) (e_own 1 mn (a_cons (e_lst (a_cons (e_c (.int 0)) (a_cons (e_c (.int 1)) (a_cons (e_c (.int 1)) a_nil)))) a_nil)) (e_c (.int 3))) (e_op (g_eq false) (e_own 2 mr (a_cons (e_c (.int 0)) (a_cons (e_c (.int 0)) a_nil))) (e_lst a_nil)))))))))))))
theorem hm (n v : Nat) (hn : n ≤ 100) (h : w n n 0 = v) : m_how_many [.int n] = .ok (.int v) := by
  rw [m_many n hn, h]
def c1 : List Nat := [0, 1] ++ List.replicate 18 1
def c2 : List Nat := [0, 0] ++ (List.range 18).map (· + 2)
def c3 : List Nat := List.replicate 99 0 ++ [99]
def c4 : List Nat := List.range 100
def turnOk (mn mr : List D → R) (ps : List Nat) (n r : Nat) : Prop := ps.length = n ∧ mn [.lst (nn ps)] = .ok (.int (r : Nat)) ∧ mr [.int (n : Nat), .int (r : Nat)] = .ok (.lst (nn ps))
theorem turnOk_of (ps : List Nat) (n r : Nat) (hn : ps.length = n) (hl : n ≤ 100) (h : vdB n 0 ps = true) (hr : rank n 0 ps = r) : turnOk m_number_of m_row_by ps n r := ⟨hn, bothB ps n r hn hl h hr⟩
theorem turn4 (mn mr : List D → R) (a0 a1 a2 a3 a4 a6 a8 a9 a10 a11 : Option D) (ps : List Nat) (n r : Nat) (t : turnOk mn mr ps n r) :
    (s_if (e_or (e_op (g_eq true) (e_own 1 mn (a_cons (e_var 7) a_nil)) (e_ivar 5)) (e_op (g_eq true) (e_own 2 mr (a_cons (e_call g_len (a_cons (e_var 7) a_nil)) (a_cons (e_ivar 5) a_nil))) (e_var 7))) (s_ret (e_c (.bl false)))
  s_pass) [a0, a1, a2, a3, a4, some (.int r), a6, some (.lst (nn ps)), a8, a9, a10, a11] = .nx [a0, a1, a2, a3, a4, some (.int r), a6, some (.lst (nn ps)), a8, a9, a10, a11] := by
  obtain ⟨hn, h1, h2⟩ := t
  simp only [s_seq, oSeq, s_pass, s_set, s_setM, s_setA, s_mv, s_expr, s_ret, s_retM, oIf, s_if, s_raise, withL, s_app, s_appM, s_ext, s_put, s_aug, oR, oA, s_par, setX, e_and, e_or, e_not_ap, e_own_ap, e_call, a_cons, a_nil, rCons, rCall, e_var, e_ivar, e_c, e_un, r1, r2, e_op, e_lst, e_tup, aL, g_not, rOr, rAnd, e_chain, rChain, g_le_ap, g_lt_ap, g_ge_ap, g_gt_ap, g_add_ap, g_sub_ap, scOnly, e_if, rIf, ownOk, g_name, g_tup, setAll, e_isi_ap, isTy, tyD, g_len, asSeq, asL, fin, g_neg, i_rng1, i_rng2, i_list, i_tup, i_enum, i_zip, i_revr, asRg1, asRg2, asRgV, asIt, asTup, asEn, asZip, n_rng1_ap, n_rng2_ap, List.getElem?_cons_zero, List.getElem?_cons_succ, List.set_cons_zero, List.set_cons_succ, List.length_cons, List.length_nil, reduceIte, if_true, if_false, Bool.false_eq_true, Bool.not_true, Bool.not_false, h1, h2, eq_int, eq_nn, nn_len, hn]
theorem k1 : turnOk m_number_of m_row_by c1 20 4796857230 := turnOk_of c1 20 _ rfl (by omega) (by decide +kernel) rank_c1
theorem k2 : turnOk m_number_of m_row_by c2 20 4796857229 := turnOk_of c2 20 _ rfl (by omega) (by decide +kernel) rank_c2
theorem k3 : turnOk m_number_of m_row_by c3 100 99 := turnOk_of c3 100 _ rfl (by omega) (by decide +kernel) rank_c3
theorem k4 : turnOk m_number_of m_row_by c4 100 (w 100 100 0 - 1) := turnOk_of c4 100 _ (by decide +kernel) (by omega) (by decide +kernel) rank_c4
theorem w100 : 0 < w 100 100 0 := by decide +kernel
theorem sm3 : turnOk m_number_of m_row_by [0, 0, 1] 3 1 := turnOk_of _ _ _ rfl (by omega) (by decide) (by decide)
theorem sm4 : turnOk m_number_of m_row_by [0, 1, 1] 3 3 := turnOk_of _ _ _ rfl (by omega) (by decide) (by decide)
theorem sm5 : turnOk m_number_of m_row_by [0, 0, 0, 1] 4 1 := turnOk_of _ _ _ rfl (by omega) (by decide) (by decide)
theorem sm0 : turnOk m_number_of m_row_by [] 0 0 := turnOk_of _ _ _ rfl (by omega) (by decide) (by decide)
theorem hms : m_how_many [.int 0] = .ok (.int 1) ∧ m_how_many [.int 1] = .ok (.int 1) ∧ m_how_many [.int 2] = .ok (.int 2) ∧ m_how_many [.int 3] = .ok (.int 5) ∧ m_how_many [.int 4] = .ok (.int 14) ∧ m_how_many [.int 19] = .ok (.int 1767263190) ∧ m_how_many [.int 20] = .ok (.int 6564120420) ∧ m_how_many [.int 100] = .ok (.int (w 100 100 0 : Nat)) := by
  have w' := w_small
  simp only [Prod.mk.injEq] at w'
  obtain ⟨w0, w1, w2, w3, w4, w19, w20⟩ := w'
  exact ⟨hm 0 1 (by omega) w0, hm 1 1 (by omega) w1, hm 2 2 (by omega) w2, hm 3 5 (by omega) w3, hm 4 14 (by omega) w4, hm 19 _ (by omega) w19, hm 20 _ (by omega) w20, m_many 100 (by omega)⟩
theorem tail_W (mh mn mr : List D → R) (W : Nat) (hW : 0 < W) (hms : mh [.int 0] = .ok (.int 1) ∧ mh [.int 1] = .ok (.int 1) ∧ mh [.int 2] = .ok (.int 2) ∧ mh [.int 3] = .ok (.int 5) ∧ mh [.int 4] = .ok (.int 14) ∧ mh [.int 19] = .ok (.int 1767263190) ∧ mh [.int 20] = .ok (.int 6564120420) ∧ mh [.int 100] = .ok (.int (W : Nat)))
    (k1 : turnOk mn mr c1 20 4796857230) (k2 : turnOk mn mr c2 20 4796857229) (k3 : turnOk mn mr c3 100 99) (k4 : turnOk mn mr c4 100 (W - 1)) (sm3 : turnOk mn mr [0, 0, 1] 3 1) (sm4 : turnOk mn mr [0, 1, 1] 3 3) (sm5 : turnOk mn mr [0, 0, 0, 1] 4 1) (sm0 : turnOk mn mr [] 0 0) (a0 a1 a2 a3 a4 a5 a6 a7 a8 a9 a10 a11 : Option D) : s_tail mh mn mr [a0, a1, a2, a3, a4, a5, a6, a7, a8, a9, a10, a11] = .rt (.bl true) := by
  obtain ⟨h0, h1, h2, h3, h4, h19, h20, h100⟩ := hms
  unfold s_tail
  refine (seq_nx (e' := [a0, a1, a2, a3, a4, a5, a6, a7, a8, a9, a10, a11]) ?_).trans ?_
  · have e1 : g_eq true (.lst [.int 1, .int 1, .int 2, .int 5, .int 14]) (.lst [.int 1, .int 1, .int 2, .int 5, .int 14]) = .ok (.bl (!true)) := g_eq_self _ _ rfl
    have e2 : rgD 0 5 = [.int 0, .int 1, .int 2, .int 3, .int 4] := rfl
    have e3 : rgOk 0 5 = true := rfl
    simp only [e_lc, rLc, lcGo, wipeE, s_seq, oSeq, s_pass, s_set, s_setM, s_setA, s_mv, s_expr, s_ret, s_retM, oIf, s_if, s_raise, withL, s_app, s_appM, s_ext, s_put, s_aug, oR, oA, s_par, setX, e_and, e_or, e_not_ap, e_own_ap, e_call, a_cons, a_nil, rCons, rCall, e_var, e_ivar, e_c, e_un, r1, r2, e_op, e_lst, e_tup, aL, g_not, rOr, rAnd, e_chain, rChain, g_le_ap, g_lt_ap, g_ge_ap, g_gt_ap, g_add_ap, g_sub_ap, scOnly, e_if, rIf, ownOk, g_name, g_tup, setAll, e_isi_ap, isTy, tyD, g_len, asSeq, asL, fin, g_neg, i_rng1, i_rng2, i_list, i_tup, i_enum, i_zip, i_revr, asRg1, asRg2, asRgV, asIt, asTup, asEn, asZip, n_rng1_ap, n_rng2_ap, List.getElem?_cons_zero, List.getElem?_cons_succ, List.set_cons_zero, List.set_cons_succ, List.length_cons, List.length_nil, reduceIte, if_true, if_false, Bool.false_eq_true, Bool.not_true, Bool.not_false, e2, e3, h0, h1, h2, h3, h4, e1, Option.map_some, Nat.reduceAdd, Nat.reduceLeDiff]
  refine (seq_nx (e' := [a0, a1, a2, a3, a4, a5, a6, a7, a8, a9, a10, a11]) ?_).trans ?_
  · have e1 : g_eq true (.lst [.int 1767263190, .int 6564120420]) (.lst [.int 1767263190, .int 6564120420]) = .ok (.bl (!true)) := g_eq_self _ _ rfl
    simp only [s_seq, oSeq, s_pass, s_set, s_setM, s_setA, s_mv, s_expr, s_ret, s_retM, oIf, s_if, s_raise, withL, s_app, s_appM, s_ext, s_put, s_aug, oR, oA, s_par, setX, e_and, e_or, e_not_ap, e_own_ap, e_call, a_cons, a_nil, rCons, rCall, e_var, e_ivar, e_c, e_un, r1, r2, e_op, e_lst, e_tup, aL, g_not, rOr, rAnd, e_chain, rChain, g_le_ap, g_lt_ap, g_ge_ap, g_gt_ap, g_add_ap, g_sub_ap, scOnly, e_if, rIf, ownOk, g_name, g_tup, setAll, e_isi_ap, isTy, tyD, g_len, asSeq, asL, fin, g_neg, i_rng1, i_rng2, i_list, i_tup, i_enum, i_zip, i_revr, asRg1, asRg2, asRgV, asIt, asTup, asEn, asZip, n_rng1_ap, n_rng2_ap, List.getElem?_cons_zero, List.getElem?_cons_succ, List.set_cons_zero, List.set_cons_succ, List.length_cons, List.length_nil, reduceIte, if_true, if_false, Bool.false_eq_true, Bool.not_true, Bool.not_false, h19, h20, e1, Nat.reduceAdd, Nat.reduceLeDiff]
  have g1 : g_rep (.lst [.int 1]) (.int 18) = .ok (.lst (nn (List.replicate 18 1))) := rfl
  have g2 : g_cat (.lst [.int 0, .int 1]) (.lst (nn (List.replicate 18 1))) = .ok (.lst (nn c1)) := rfl
  have g3 : rgOk 2 20 = true := rfl
  have g4 : g_cat (.lst [.int 0, .int 0]) (.lst (rgD 2 20)) = .ok (.lst (nn c2)) := rfl
  refine (seq_nx (e' := [a0, a1, a2, a3, a4, a5, a6, a7, a8, some (.lst [.tup [.lst (nn c1), .int 4796857230], .tup [.lst (nn c2), .int 4796857229]]), a10, a11]) ?_).trans ?_
  · simp only [e_listRg, asRgL, s_seq, oSeq, s_pass, s_set, s_setM, s_setA, s_mv, s_expr, s_ret, s_retM, oIf, s_if, s_raise, withL, s_app, s_appM, s_ext, s_put, s_aug, oR, oA, s_par, setX, e_and, e_or, e_not_ap, e_own_ap, e_call, a_cons, a_nil, rCons, rCall, e_var, e_ivar, e_c, e_un, r1, r2, e_op, e_lst, e_tup, aL, g_not, rOr, rAnd, e_chain, rChain, g_le_ap, g_lt_ap, g_ge_ap, g_gt_ap, g_add_ap, g_sub_ap, scOnly, e_if, rIf, ownOk, g_name, g_tup, setAll, e_isi_ap, isTy, tyD, g_len, asSeq, asL, fin, g_neg, i_rng1, i_rng2, i_list, i_tup, i_enum, i_zip, i_revr, asRg1, asRg2, asRgV, asIt, asTup, asEn, asZip, n_rng1_ap, n_rng2_ap, List.getElem?_cons_zero, List.getElem?_cons_succ, List.set_cons_zero, List.set_cons_succ, List.length_cons, List.length_nil, reduceIte, if_true, if_false, Bool.false_eq_true, Bool.not_true, Bool.not_false, g1, g2, g3, g4, Nat.reduceAdd, Nat.reduceLeDiff]
  have g5 : g_rep (.lst [.int 0]) (.int 99) = .ok (.lst (nn (List.replicate 99 0))) := rfl
  have g6 : g_cat (.lst (nn (List.replicate 99 0))) (.lst [.int 99]) = .ok (.lst (nn c3)) := rfl
  have g7 : rgOk 0 100 = true := rfl
  have g8 : rgD 0 100 = nn c4 := rgD_zero 100
  have g9 : (W : Int) - 1 = ((W - 1 : Nat) : Int) := by
    omega
  have i1 : (4796857230 : Int) = ((4796857230 : Nat) : Int) := rfl
  have i2 : (4796857229 : Int) = ((4796857229 : Nat) : Int) := rfl
  have i3 : (99 : Int) = ((99 : Nat) : Int) := rfl
  have t1 := turn4 mn mr a0 a1 a2 a3 a4 a6 a8 (some (.lst [.tup [.lst (nn c1), .int 4796857230], .tup [.lst (nn c2), .int 4796857229]])) a10 a11 _ _ _ k1
  have t2 := turn4 mn mr a0 a1 a2 a3 a4 a6 a8 (some (.lst [.tup [.lst (nn c1), .int 4796857230], .tup [.lst (nn c2), .int 4796857229]])) a10 a11 _ _ _ k2
  have t3 := turn4 mn mr a0 a1 a2 a3 a4 a6 a8 (some (.lst [.tup [.lst (nn c1), .int 4796857230], .tup [.lst (nn c2), .int 4796857229]])) a10 a11 _ _ _ k3
  have t4 := turn4 mn mr a0 a1 a2 a3 a4 a6 a8 (some (.lst [.tup [.lst (nn c1), .int 4796857230], .tup [.lst (nn c2), .int 4796857229]])) a10 a11 _ _ _ k4
  rw [← i1] at t1
  rw [← i2] at t2
  rw [← i3] at t3
  generalize hB : (s_if (e_or (e_op (g_eq true) (e_own 1 mn (a_cons (e_var 7) a_nil)) (e_ivar 5)) (e_op (g_eq true) (e_own 2 mr (a_cons (e_call g_len (a_cons (e_var 7) a_nil)) (a_cons (e_ivar 5) a_nil))) (e_var 7))) (s_ret (e_c (.bl false)))
  s_pass) = B at *
  have g10 : g_cat (.lst [.tup [.lst (nn c1), .int 4796857230], .tup [.lst (nn c2), .int 4796857229]]) (.lst [.tup [.lst (nn c3), .int 99], .tup [.lst (nn c4), .int ((W - 1 : Nat) : Int)]]) = .ok (.lst [.tup [.lst (nn c1), .int 4796857230], .tup [.lst (nn c2), .int 4796857229], .tup [.lst (nn c3), .int 99], .tup [.lst (nn c4), .int ((W - 1 : Nat) : Int)]]) := rfl
  generalize nn c1 = N1 at *
  generalize nn c2 = N2 at *
  generalize nn c3 = N3 at *
  generalize nn c4 = N4 at *
  generalize nn (List.replicate 99 0) = N0 at *
  generalize ((W - 1 : Nat) : Int) = X at *
  refine (seq_nx (e' := [a0, a1, a2, a3, a4, some (.int X), a6, some (.lst (N4)), a8, some (.lst [.tup [.lst (N1), .int 4796857230], .tup [.lst (N2), .int 4796857229]]), a10, a11]) ?_).trans ?_
  · simp only [s_for, mask_nil, forGo, e_listRg, asRgL, s_seq, oSeq, s_pass, s_set, s_setM, s_setA, s_mv, s_expr, s_ret, s_retM, oIf, s_if, s_raise, withL, s_app, s_appM, s_ext, s_put, s_aug, oR, oA, s_par, setX, e_and, e_or, e_not_ap, e_own_ap, e_call, a_cons, a_nil, rCons, rCall, e_var, e_ivar, e_c, e_un, r1, r2, e_op, e_lst, e_tup, aL, g_not, rOr, rAnd, e_chain, rChain, g_le_ap, g_lt_ap, g_ge_ap, g_gt_ap, g_add_ap, g_sub_ap, scOnly, e_if, rIf, ownOk, g_name, g_tup, setAll, e_isi_ap, isTy, tyD, g_len, asSeq, asL, fin, g_neg, i_rng1, i_rng2, i_list, i_tup, i_enum, i_zip, i_revr, asRg1, asRg2, asRgV, asIt, asTup, asEn, asZip, n_rng1_ap, n_rng2_ap, List.getElem?_cons_zero, List.getElem?_cons_succ, List.set_cons_zero, List.set_cons_succ, List.length_cons, List.length_nil, reduceIte, if_true, if_false, Bool.false_eq_true, Bool.not_true, Bool.not_false, g5, g6, g7, g8, g9, g10, h100, t1, t2, t3, t4, Nat.reduceAdd, Nat.reduceLeDiff]
  clear t1 t2 t3 t4
  have b1 := sm3.2
  have b2 := sm4.2
  have b3 := sm5.2
  have b4 := sm0.2
  have n1 : mn [.lst [.int 0, .int 0, .int 1]] = .ok (.int 1) := b1.1
  have n2 : mn [.lst [.int 0, .int 1, .int 1]] = .ok (.int 3) := b2.1
  have r1 : mr [.int 3, .int 1] = .ok (.lst [.int 0, .int 0, .int 1]) := b1.2
  have r3 : mr [.int 4, .int 1] = .ok (.lst [.int 0, .int 0, .int 0, .int 1]) := b3.2
  have r4 : mr [.int 0, .int 0] = .ok (.lst []) := b4.2
  have e1 : g_eq true (.lst [.int 1, .lst [.int 0, .int 0, .int 1], .lst [.int 0, .int 0, .int 0, .int 1]]) (.lst [.int 1, .lst [.int 0, .int 0, .int 1], .lst [.int 0, .int 0, .int 0, .int 1]]) = .ok (.bl (!true)) := g_eq_self _ _ rfl
  have e2 : g_eq true (.int 3) (.int 3) = .ok (.bl (!true)) := eq_int _ _
  have e3 : g_eq false (.int 3) (.int 3) = .ok (.bl (!false)) := eq_int _ _
  have e4 : g_eq false (.lst []) (.lst []) = .ok (.bl (!false)) := g_eq_self _ _ rfl
  have e5 : ixN 3 1 = some 1 := rfl
  have e6 : forget [7] [a0, a1, a2, a3, a4, some (.int X), a6, some (.lst (N4)), a8, some (.lst [.tup [.lst (N1), .int 4796857230], .tup [.lst (N2), .int 4796857229]]), a10, a11] = [a0, a1, a2, a3, a4, some (.int X), a6, none, a8, some (.lst [.tup [.lst (N1), .int 4796857230], .tup [.lst (N2), .int 4796857229]]), a10, a11] := rfl
  simp only [s_re, e6, s_seq, oSeq, s_pass, s_set, s_setM, s_setA, s_mv, s_expr, s_ret, s_retM, oIf, s_if, s_raise, withL, s_app, s_appM, s_ext, s_put, s_aug, oR, oA, s_par, setX, e_and, e_or, e_not_ap, e_own_ap, e_call, a_cons, a_nil, rCons, rCall, e_var, e_ivar, e_c, e_un, r1, r2, e_op, e_lst, e_tup, aL, g_not, rOr, rAnd, e_chain, rChain, g_le_ap, g_lt_ap, g_ge_ap, g_gt_ap, g_add_ap, g_sub_ap, scOnly, e_if, rIf, ownOk, g_name, g_tup, setAll, e_isi_ap, isTy, tyD, g_len, asSeq, asL, fin, g_neg, i_rng1, i_rng2, i_list, i_tup, i_enum, i_zip, i_revr, asRg1, asRg2, asRgV, asIt, asTup, asEn, asZip, n_rng1_ap, n_rng2_ap, List.getElem?_cons_zero, List.getElem?_cons_succ, List.set_cons_zero, List.set_cons_succ, List.length_cons, List.length_nil, reduceIte, if_true, if_false, Bool.false_eq_true, Bool.not_true, Bool.not_false, n1, n2, r1, r3, r4, e1, e2, e3, e4, e5, Nat.reduceAdd, Nat.reduceLeDiff]
theorem tail_ok (a0 a1 a2 a3 a4 a5 a6 a7 a8 a9 a10 a11 : Option D) : s_tail m_how_many m_number_of m_row_by [a0, a1, a2, a3, a4, a5, a6, a7, a8, a9, a10, a11] = .rt (.bl true) :=
  tail_W m_how_many m_number_of m_row_by (w 100 100 0) w100 hms k1 k2 k3 k4 sm3 sm4 sm5 sm0 ..
end PyS
set_option maxRecDepth 100000
set_option maxHeartbeats 4000000
namespace PyS
open PySem PySem.Spec PyProof.Rows L2
theorem asInts_nn (ps : List Nat) : asInts (nn ps) = some (ps.map fun (i : Nat) => (i : Int)) := by
  rw [nn_ints]
  exact asInts_map _
theorem w_pos (n : Nat) (hn : n ≤ 30 ∨ n = 100) : 0 < w n n 0 := by
  rcases hn with h | rfl
  · have : ∀ n, n < 31 → 0 < w n n 0 := by decide +kernel
    exact this n (by omega)
  · exact w100
theorem draw_ok (ns : List Int) (h : ns.length ≤ 63) (n W : Nat) : ∃ (v : Nat) (z : Option D), (v : Int) < 10 ^ 64 ∧ s_for [] (i_list (e_op g_cat (e_sliceS (e_var 0) (e_c .non) (e_part (e_c (.int 5)))) (e_lst (a_cons (e_c (.int 7)) a_nil)))) (g_name 4) (s_set 3 (e_op g_mod (e_op g_add (e_op g_mul (e_ivar 3) (e_op g_add (e_op g_mod (e_call g_abs (a_cons (e_ivar 4) a_nil)) (e_op g_pow (e_c (.int 10)) (e_c (.int 60)))) (e_c (.int 5)))) (e_c (.int 3))) (e_op g_pow (e_c (.int 10)) (e_c (.int 64)))))
      [some (.scr ns), some (.int (n : Int)), some (.int (W : Int)), some (.int 1), none, none, none, none, none, none, none, none] = .nx [some (.scr ns), some (.int (n : Int)), some (.int (W : Int)), some (.int (v : Int)), z, none, none, none, none, none, none, none] := by
  have p1 : g_pow (.int 10) (.int 60) = .ok (.int (10 ^ 60)) := rfl
  have p2 : g_pow (.int 10) (.int 64) = .ok (.int (10 ^ 64)) := rfl
  have z1 : (0 : Int) < 10 ^ 60 := by decide
  have z2 : (0 : Int) < 10 ^ 64 := by decide
  have hcut : ∃ xs : List Int, cutG (ns.map D.int) none (some 5) = xs.map D.int ∧ xs.length ≤ 63 := by
    refine ⟨cutG ns none (some 5), ?_, ?_⟩
    · unfold cutG
      rw [List.map_take, List.map_drop, List.length_map]
    · unfold cutG
      rw [List.length_take, List.length_drop]
      omega
  obtain ⟨xs, x1, x2⟩ := hcut
  have x3 : g_cat (.lst (xs.map D.int)) (.lst [.int 7]) = .ok (.lst ((xs ++ [7]).map D.int)) := by
    unfold g_cat
    simp only [List.length_map, List.length_cons, List.length_nil]
    rw [if_pos (by omega), List.map_append]
    rfl
  obtain ⟨e', h3, v, z, h4, h5⟩ := forGo_inv (fg := g_name 4) (s := (s_set 3 (e_op g_mod (e_op g_add (e_op g_mul (e_ivar 3) (e_op g_add (e_op g_mod (e_call g_abs (a_cons (e_ivar 4) a_nil)) (e_op g_pow (e_c (.int 10)) (e_c (.int 60)))) (e_c (.int 5)))) (e_c (.int 3))) (e_op g_pow (e_c (.int 10)) (e_c (.int 64))))))
    (fun i env => ∃ (v : Nat) (z : Option D), (v : Int) < 10 ^ 64 ∧ env = [some (.scr ns), some (.int (n : Int)), some (.int (W : Int)), some (.int (v : Int)), z, none, none, none, none, none, none, none])
    ((xs ++ [7]).map D.int) 0 [some (.scr ns), some (.int (n : Int)), some (.int (W : Int)), some (.int 1), none, none, none, none, none, none, none, none] ⟨1, none, by decide, rfl⟩
    (by
      rintro i d hd env ⟨v, z, q1, rfl⟩
      rw [List.getElem?_map] at hd
      obtain ⟨c, _, rfl⟩ := Option.map_eq_some_iff.mp hd
      have ha : ∃ a : Int, g_abs [.int c] = .ok (.int a) := ⟨_, rfl⟩
      obtain ⟨a, ha⟩ := ha
      have rr1 := Int.emod_nonneg a (show (10 ^ 60 : Int) ≠ 0 by decide)
      have rr2 := Int.emod_lt_of_pos a z1
      have km : mulOk (v : Int) (a % 10 ^ 60 + 5) = true := mulOk_of (j := 220) (k := 220) (Lt2.nat (by omega) (Int.lt_of_lt_of_le q1 (by decide))) (Lt2.nat (by omega) (Int.lt_of_lt_of_le (show a % 10 ^ 60 + 5 < 10 ^ 60 + 5 by omega) (by decide))) (by omega)
      have rr3 := Int.emod_nonneg ((v : Int) * (a % 10 ^ 60 + 5) + 3) (show (10 ^ 64 : Int) ≠ 0 by decide)
      have rr4 := Int.emod_lt_of_pos ((v : Int) * (a % 10 ^ 60 + 5) + 3) z2
      refine ⟨[some (.scr ns), some (.int (n : Int)), some (.int (W : Int)), some (.int (v : Int)), some (.int c), none, none, none, none, none, none, none], [some (.scr ns), some (.int (n : Int)), some (.int (W : Int)), some (.int (((v : Int) * (a % 10 ^ 60 + 5) + 3) % 10 ^ 64)), some (.int c), none, none, none, none, none, none, none], rfl, ?_, (((v : Int) * (a % 10 ^ 60 + 5) + 3) % 10 ^ 64).toNat, some (.int c), ?_, ?_⟩
      · simp only [s_seq, oSeq, s_pass, s_set, s_setM, s_setA, s_mv, s_expr, s_ret, s_retM, oIf, s_if, s_raise, withL, s_app, s_appM, s_ext, s_put, s_aug, oR, oA, s_par, setX, e_and, e_or, e_not_ap, e_own_ap, e_call, a_cons, a_nil, rCons, rCall, e_var, e_ivar, e_c, e_un, r1, r2, e_op, e_lst, e_tup, aL, g_not, rOr, rAnd, e_chain, rChain, g_le_ap, g_lt_ap, g_ge_ap, g_gt_ap, g_add_ap, g_sub_ap, scOnly, e_if, rIf, ownOk, g_name, g_tup, setAll, e_isi_ap, isTy, tyD, g_len, asSeq, asL, fin, g_neg, i_rng1, i_rng2, i_list, i_tup, i_enum, i_zip, i_revr, asRg1, asRg2, asRgV, asIt, asTup, asEn, asZip, n_rng1_ap, n_rng2_ap, List.getElem?_cons_zero, List.getElem?_cons_succ, List.set_cons_zero, List.set_cons_succ, List.length_cons, List.length_nil, reduceIte, if_true, if_false, Bool.false_eq_true, Bool.not_true, Bool.not_false, ha, p1, p2, g_mod_ap _ _ z1, g_mul_ap _ _ km, g_mod_ap _ _ z2]
      · rw [Int.toNat_of_nonneg rr3]
        exact rr4
      · rw [Int.toNat_of_nonneg rr3])
  subst h5
  refine ⟨v, z, h4, ?_⟩
  simp only [s_for, mask_nil, e_sliceS, rSlice, e_part, asPart, s_seq, oSeq, s_pass, s_set, s_setM, s_setA, s_mv, s_expr, s_ret, s_retM, oIf, s_if, s_raise, withL, s_app, s_appM, s_ext, s_put, s_aug, oR, oA, s_par, setX, e_and, e_or, e_not_ap, e_own_ap, e_call, a_cons, a_nil, rCons, rCall, e_var, e_ivar, e_c, e_un, r1, r2, e_op, e_lst, e_tup, aL, g_not, rOr, rAnd, e_chain, rChain, g_le_ap, g_lt_ap, g_ge_ap, g_gt_ap, g_add_ap, g_sub_ap, scOnly, e_if, rIf, ownOk, g_name, g_tup, setAll, e_isi_ap, isTy, tyD, g_len, asSeq, asL, fin, g_neg, i_rng1, i_rng2, i_list, i_tup, i_enum, i_zip, i_revr, asRg1, asRg2, asRgV, asIt, asTup, asEn, asZip, n_rng1_ap, n_rng2_ap, List.getElem?_cons_zero, List.getElem?_cons_succ, List.set_cons_zero, List.set_cons_succ, List.length_cons, List.length_nil, reduceIte, if_true, if_false, Bool.false_eq_true, Bool.not_true, Bool.not_false, x1, scAll_ints, x3, h3, Nat.reduceAdd, Nat.reduceLeDiff]

theorem pow_ex (v j : Int) (h : Lt2 v 220) (h0 : 0 ≤ j) (h1 : j ≤ 10) : ∃ z, g_pow (.int v) (.int j) = .ok (.int z) := by
  have := h.log
  refine ⟨_, g_pow_ap v j ?_⟩
  unfold powOk
  rw [Bool.and_eq_true, decide_eq_true_eq, decide_eq_true_eq]
  refine ⟨h0, ?_⟩
  have : ((v.natAbs.log2 + 1 : Nat) : Int) * j ≤ 221 * 10 := Int.mul_le_mul (by omega) h1 h0 (by omega)
  omega
theorem div_ex (v : Int) : ∃ z, g_div (.int v) (.int 7) = .ok (.int z) := ⟨_, g_div_ap v 7 (by
  unfold divOk
  decide)⟩
theorem st7a (gp gd gm : D → D → R) (ns : List Int) (n W v x1 x2 : Nat) (V5 V7 : Int) (z4 : Option D) (p5 : gp (.int v) (.int 5) = .ok (.int V5)) (y1 : gm (.int V5) (.int W) = .ok (.int (x1 : Nat))) (p7 : gd (.int v) (.int 7) = .ok (.int V7)) (y2 : gm (.int V7) (.int W) = .ok (.int (x2 : Nat))) (y0 : (W : Int) - 1 = ((W - 1 : Nat) : Int)) :
  (i_tup (e_tup (a_cons (e_op g_sub (e_ivar 2) (e_c (.int 1))) (a_cons (e_op gm (e_op gp (e_ivar 3) (e_c (.int 5))) (e_ivar 2)) (a_cons (e_op gm (e_op gd (e_ivar 3) (e_c (.int 7))) (e_ivar 2)) a_nil))))) [some (.scr ns), some (.int (n : Int)), some (.int (W : Int)), some (.int (v : Int)), z4, none, none, none, none, none, none, none] = .ok [.int ((W - 1 : Nat) : Int), .int (x1 : Nat), .int (x2 : Nat)] := by
  simp only [s_seq, oSeq, s_pass, s_set, s_setM, s_setA, s_mv, s_expr, s_ret, s_retM, oIf, s_if, s_raise, withL, s_app, s_appM, s_ext, s_put, s_aug, oR, oA, s_par, setX, e_and, e_or, e_not_ap, e_own_ap, e_call, a_cons, a_nil, rCons, rCall, e_var, e_ivar, e_c, e_un, r1, r2, e_op, e_lst, e_tup, aL, g_not, rOr, rAnd, e_chain, rChain, g_le_ap, g_lt_ap, g_ge_ap, g_gt_ap, g_add_ap, g_sub_ap, scOnly, e_if, rIf, ownOk, g_name, g_tup, setAll, e_isi_ap, isTy, tyD, g_len, asSeq, asL, fin, g_neg, i_rng1, i_rng2, i_list, i_tup, i_enum, i_zip, i_revr, asRg1, asRg2, asRgV, asIt, asTup, asEn, asZip, n_rng1_ap, n_rng2_ap, List.getElem?_cons_zero, List.getElem?_cons_succ, List.set_cons_zero, List.set_cons_succ, List.length_cons, List.length_nil, reduceIte, if_true, if_false, Bool.false_eq_true, Bool.not_true, Bool.not_false, p5, y0, y1, p7, y2, Nat.reduceAdd, Nat.reduceLeDiff]
theorem st7b (mnr : List D → R) (ns : List Int) (n W v x1 x2 : Nat) (z4 : Option D) (n0 : mnr [.int n, .int ((W - 1 : Nat) : Int)] = .ok (.bl true)) (n1 : mnr [.int n, .int x1] = .ok (.bl true)) (n2 : mnr [.int n, .int x2] = .ok (.bl true)) : forGo (g_name 5) (s_if (e_not (e_own 2 mnr (a_cons (e_ivar 1) (a_cons (e_ivar 5) a_nil)))) (s_ret (e_c (.bl false))) s_pass) [.int ((W - 1 : Nat) : Int), .int (x1 : Nat), .int (x2 : Nat)] [some (.scr ns), some (.int (n : Int)), some (.int (W : Int)), some (.int (v : Int)), z4, none, none, none, none, none, none, none] = .nx [some (.scr ns), some (.int (n : Int)), some (.int (W : Int)), some (.int (v : Int)), z4, some (.int (x2 : Int)), none, none, none, none, none, none] := by
  simp only [forGo, s_seq, oSeq, s_pass, s_set, s_setM, s_setA, s_mv, s_expr, s_ret, s_retM, oIf, s_if, s_raise, withL, s_app, s_appM, s_ext, s_put, s_aug, oR, oA, s_par, setX, e_and, e_or, e_not_ap, e_own_ap, e_call, a_cons, a_nil, rCons, rCall, e_var, e_ivar, e_c, e_un, r1, r2, e_op, e_lst, e_tup, aL, g_not, rOr, rAnd, e_chain, rChain, g_le_ap, g_lt_ap, g_ge_ap, g_gt_ap, g_add_ap, g_sub_ap, scOnly, e_if, rIf, ownOk, g_name, g_tup, setAll, e_isi_ap, isTy, tyD, g_len, asSeq, asL, fin, g_neg, i_rng1, i_rng2, i_list, i_tup, i_enum, i_zip, i_revr, asRg1, asRg2, asRgV, asIt, asTup, asEn, asZip, n_rng1_ap, n_rng2_ap, List.getElem?_cons_zero, List.getElem?_cons_succ, List.set_cons_zero, List.set_cons_succ, List.length_cons, List.length_nil, reduceIte, if_true, if_false, Bool.false_eq_true, Bool.not_true, Bool.not_false, n0, n1, n2, Nat.reduceAdd, Nat.reduceLeDiff]
theorem for_ok {M : List Nat} {fi : Env → RA} {fg : D → Env → Option Env} {s : Env → O} {env e' : Env} {ds : List D} (h1 : fi (mask M env) = .ok ds) (h2 : forGo fg s ds env = .nx e') : s_for M fi fg s env = .nx e' := by
  simp only [s_for, h1, oA, h2]
theorem set_ok {i : Nat} {f : Env → R} {env : Env} {d : D} (h : f env = .ok d) : s_set i f env = .nx (env.set i (some d)) := by
  simp only [s_set, h, oR]
theorem st8 (gp gm : D → D → R) (ns : List Int) (n W v x2 x3 : Nat) (V3 : Int) (z4 : Option D) (p3 : gp (.int v) (.int 3) = .ok (.int V3)) (y3 : gm (.int V3) (.int W) = .ok (.int (x3 : Nat))) : (e_op gm (e_op gp (e_ivar 3) (e_c (.int 3))) (e_ivar 2)) [some (.scr ns), some (.int (n : Int)), some (.int (W : Int)), some (.int (v : Int)), z4, some (.int (x2 : Int)), none, none, none, none, none, none] = .ok (.int x3) := by
  simp only [s_seq, oSeq, s_pass, s_set, s_setM, s_setA, s_mv, s_expr, s_ret, s_retM, oIf, s_if, s_raise, withL, s_app, s_appM, s_ext, s_put, s_aug, oR, oA, s_par, setX, e_and, e_or, e_not_ap, e_own_ap, e_call, a_cons, a_nil, rCons, rCall, e_var, e_ivar, e_c, e_un, r1, r2, e_op, e_lst, e_tup, aL, g_not, rOr, rAnd, e_chain, rChain, g_le_ap, g_lt_ap, g_ge_ap, g_gt_ap, g_add_ap, g_sub_ap, scOnly, e_if, rIf, ownOk, g_name, g_tup, setAll, e_isi_ap, isTy, tyD, g_len, asSeq, asL, fin, g_neg, i_rng1, i_rng2, i_list, i_tup, i_enum, i_zip, i_revr, asRg1, asRg2, asRgV, asIt, asTup, asEn, asZip, n_rng1_ap, n_rng2_ap, List.getElem?_cons_zero, List.getElem?_cons_succ, List.set_cons_zero, List.set_cons_succ, List.length_cons, List.length_nil, reduceIte, if_true, if_false, Bool.false_eq_true, Bool.not_true, Bool.not_false, p3, y3]
def s_rest (mh mn mr ma ml mnr mro mw : List D → R) : Env → O := (s_seq (s_set 2 (e_own 1 mh (a_cons (e_ivar 1) a_nil)))
  (s_seq (s_if (e_or (e_not (e_own 1 mw (a_cons (e_ivar 2) a_nil))) (e_op (g_eq true) (e_ivar 2) (e_own 1 ml (a_cons (e_ivar 1) a_nil)))) (s_ret (e_c (.bl false)))
  s_pass)
  (s_seq (s_set 3 (e_c (.int 1)))
  (s_seq (s_for [] (i_list (e_op g_cat (e_sliceS (e_var 0) (e_c .non) (e_part (e_c (.int 5)))) (e_lst (a_cons (e_c (.int 7)) a_nil)))) (g_name 4)
  (s_set 3 (e_op g_mod (e_op g_add (e_op g_mul (e_ivar 3) (e_op g_add (e_op g_mod (e_call g_abs (a_cons (e_ivar 4) a_nil)) (e_op g_pow (e_c (.int 10)) (e_c (.int 60)))) (e_c (.int 5)))) (e_c (.int 3))) (e_op g_pow (e_c (.int 10)) (e_c (.int 64))))))
  (s_seq (s_for [] (i_tup (e_tup (a_cons (e_op g_sub (e_ivar 2) (e_c (.int 1))) (a_cons (e_op g_mod (e_op g_pow (e_ivar 3) (e_c (.int 5))) (e_ivar 2)) (a_cons (e_op g_mod (e_op g_div (e_ivar 3) (e_c (.int 7))) (e_ivar 2)) a_nil))))) (g_name 5)
  (s_if (e_not (e_own 2 mnr (a_cons (e_ivar 1) (a_cons (e_ivar 5) a_nil)))) (s_ret (e_c (.bl false)))
  s_pass))
  (s_seq (s_set 5 (e_op g_mod (e_op g_pow (e_ivar 3) (e_c (.int 3))) (e_ivar 2)))
  (s_seq (s_if (e_and (e_op g_lt (e_op g_add (e_ivar 5) (e_c (.int 1))) (e_ivar 2)) (e_not (e_op g_ltL (e_own 2 mr (a_cons (e_ivar 1) (a_cons (e_ivar 5) a_nil))) (e_own 2 mr (a_cons (e_ivar 1) (a_cons (e_op g_add (e_ivar 5) (e_c (.int 1))) a_nil)))))) (s_ret (e_c (.bl false)))
  s_pass)
  (s_seq (s_for [] (i_tup (e_tup (a_cons (e_c (.int 0)) (a_cons (e_c (.int 1)) a_nil)))) (g_name 6)
  (s_seq (s_set 7 (e_own 3 mro (a_cons (e_var 0) (a_cons (e_c (.int 40)) (a_cons (e_ivar 6) a_nil)))))
  (s_if (e_op (g_eq true) (e_own 2 mr (a_cons (e_call g_len (a_cons (e_var 7) a_nil)) (a_cons (e_own 1 mn (a_cons (e_var 7) a_nil)) a_nil))) (e_var 7)) (s_ret (e_c (.bl false)))
  s_pass)))
  (s_seq (s_set 8 (e_op g_mod (e_ivar 1) (e_c (.int 6))))
  (s_seq (s_if (e_op (g_eq true) (e_lc (i_rng1 (a_cons (e_own 1 mh (a_cons (e_ivar 8) a_nil)) a_nil)) (g_name 5) (e_c (.bl true)) (e_own 2 mr (a_cons (e_ivar 8) (a_cons (e_ivar 5) a_nil))) [5]) (e_own 1 ma (a_cons (e_ivar 8) a_nil))) (s_ret (e_c (.bl false)))
  s_pass)
  (s_seq (s_if (e_op (g_eq true) (e_lc (i_rng1 (a_cons (e_c (.int 5)) a_nil)) (g_name 11) (e_c (.bl true)) (e_own 1 mh (a_cons (e_ivar 11) a_nil)) [11]) (e_lst (a_cons (e_c (.int 1)) (a_cons (e_c (.int 1)) (a_cons (e_c (.int 2)) (a_cons (e_c (.int 5)) (a_cons (e_c (.int 14)) a_nil))))))) (s_ret (e_c (.bl false)))
  s_pass)
  (s_seq (s_if (e_op (g_eq true) (e_lst (a_cons (e_own 1 mh (a_cons (e_c (.int 19)) a_nil)) (a_cons (e_own 1 mh (a_cons (e_c (.int 20)) a_nil)) a_nil))) (e_lst (a_cons (e_c (.int 1767263190)) (a_cons (e_c (.int 6564120420)) a_nil)))) (s_ret (e_c (.bl false)))
  s_pass)
  (s_seq (s_set 9 (e_lst (a_cons (e_tup (a_cons (e_op g_cat (e_lst (a_cons (e_c (.int 0)) (a_cons (e_c (.int 1)) a_nil))) (e_op g_rep (e_lst (a_cons (e_c (.int 1)) a_nil)) (e_c (.int 18)))) (a_cons (e_c (.int 4796857230)) a_nil))) (a_cons (e_tup (a_cons (e_op g_cat (e_lst (a_cons (e_c (.int 0)) (a_cons (e_c (.int 0)) a_nil))) (e_listRg (n_rng2 (e_c (.int 2)) (e_c (.int 20))))) (a_cons (e_c (.int 4796857229)) a_nil))) a_nil))))
  (s_seq (s_for [] (i_list (e_op g_cat (e_var 9) (e_lst (a_cons (e_tup (a_cons (e_op g_cat (e_op g_rep (e_lst (a_cons (e_c (.int 0)) a_nil)) (e_c (.int 99))) (e_lst (a_cons (e_c (.int 99)) a_nil))) (a_cons (e_c (.int 99)) a_nil))) (a_cons (e_tup (a_cons (e_listRg (n_rng1 (e_c (.int 100)))) (a_cons (e_op g_sub (e_own 1 mh (a_cons (e_c (.int 100)) a_nil)) (e_c (.int 1))) a_nil))) a_nil))))) (g_tup [7, 5])
  (s_if (e_or (e_op (g_eq true) (e_own 1 mn (a_cons (e_var 7) a_nil)) (e_ivar 5)) (e_op (g_eq true) (e_own 2 mr (a_cons (e_call g_len (a_cons (e_var 7) a_nil)) (a_cons (e_ivar 5) a_nil))) (e_var 7))) (s_ret (e_c (.bl false)))
  s_pass))
  (s_re [7] (s_seq (s_setM 7 (e_lst (a_cons (e_c (.int 0)) (a_cons (e_c (.int 0)) (a_cons (e_c (.int 1)) a_nil)))))
  (s_seq (s_set 10 (e_lst (a_cons (e_own 1 mn (a_cons (e_var 7) a_nil)) (a_cons (e_own 2 mr (a_cons (e_c (.int 3)) (a_cons (e_c (.int 1)) a_nil))) (a_cons (e_own 2 mr (a_cons (e_c (.int 4)) (a_cons (e_c (.int 1)) a_nil))) a_nil)))))
  (s_seq (s_put 7 (e_c (.int 1)) (e_c (.int 1)))
  (s_seq (s_if (e_or (e_op (g_eq true) (e_var 10) (e_lst (a_cons (e_c (.int 1)) (a_cons (e_lst (a_cons (e_c (.int 0)) (a_cons (e_c (.int 0)) (a_cons (e_c (.int 1)) a_nil)))) (a_cons (e_lst (a_cons (e_c (.int 0)) (a_cons (e_c (.int 0)) (a_cons (e_c (.int 0)) (a_cons (e_c (.int 1)) a_nil))))) a_nil))))) (e_op (g_eq true) (e_own 1 mn (a_cons (e_var 7) a_nil)) (e_c (.int 3)))) (s_ret (e_c (.bl false)))
  s_pass)
  (s_ret (e_and (e_op (g_eq false) (e_own 1 mn (a_cons (e_lst (a_cons (e_c (.int 0)) (a_cons (e_c (.int 1)) (a_cons (e_c (.int 1)) a_nil)))) a_nil)) (e_c (.int 3))) (e_op (g_eq false) (e_own 2 mr (a_cons (e_c (.int 0)) (a_cons (e_c (.int 0)) a_nil))) (e_lst a_nil)))))))))))))))))))))))
theorem law_F (mh mn mr ma ml mnr mro mw : List D → R) (ns : List Int) (h : ns.length ≤ 63) (n W : Nat) (hn100 : n ≤ 100) (hW : 0 < W) (hm1 : mh [.int n] = .ok (.int (W : Nat))) (hm2 : ml [.int n] = .ok (.int (W : Nat))) (hwh : ∀ i : Int, mw [.int i] = .ok (.bl true))
    (hnum : ∀ x, x < W → mnr [.int n, .int x] = .ok (.bl true))
    (hlt : ∀ x, x + 1 < W → ∃ ps qs : List Nat, mr [.int n, .int x] = .ok (.lst (nn ps)) ∧ mr [.int n, .int ((x + 1 : Nat) : Int)] = .ok (.lst (nn qs)) ∧ g_ltL (.lst (nn ps)) (.lst (nn qs)) = .ok (.bl true))
    (hrow : ∀ t : Nat, t ≤ 1 → ∃ ps : List Nat, mro [.scr ns, .int 40, .int t] = .ok (.lst (nn ps)) ∧ ∃ r : Int, mn [.lst (nn ps)] = .ok (.int r) ∧ mr [.int (ps.length : Int), .int r] = .ok (.lst (nn ps)))
    (hall : ∀ f : Nat, f < 6 → ∃ ds : List D, ma [.int f] = .ok (.lst ds) ∧ g_eq true (.lst ds) (.lst ds) = .ok (.bl false) ∧ ∃ v : Nat, v ≤ 100000 ∧ mh [.int f] = .ok (.int v) ∧ ∃ k : Nat → D, ds = (List.range v).map k ∧ ∀ x, x < v → mr [.int f, .int x] = .ok (k x))
    (htail : ∀ a0 a1 a2 a3 a4 a5 a6 a7 a8 a9 a10 a11 : Option D, s_tail mh mn mr [a0, a1, a2, a3, a4, a5, a6, a7, a8, a9, a10, a11] = .rt (.bl true)) :
    s_rest mh mn mr ma ml mnr mro mw [some (.scr ns), some (.int n), none, none, none, none, none, none, none, none, none, none] = .rt (.bl true) := by
  unfold s_rest
  refine (seq_nx (e' := [some (.scr ns), some (.int (n : Int)), some (.int (W : Int)), none, none, none, none, none, none, none, none, none]) (by
    simp only [s_seq, oSeq, s_pass, s_set, s_setM, s_setA, s_mv, s_expr, s_ret, s_retM, oIf, s_if, s_raise, withL, s_app, s_appM, s_ext, s_put, s_aug, oR, oA, s_par, setX, e_and, e_or, e_not_ap, e_own_ap, e_call, a_cons, a_nil, rCons, rCall, e_var, e_ivar, e_c, e_un, r1, r2, e_op, e_lst, e_tup, aL, g_not, rOr, rAnd, e_chain, rChain, g_le_ap, g_lt_ap, g_ge_ap, g_gt_ap, g_add_ap, g_sub_ap, scOnly, e_if, rIf, ownOk, g_name, g_tup, setAll, e_isi_ap, isTy, tyD, g_len, asSeq, asL, fin, g_neg, i_rng1, i_rng2, i_list, i_tup, i_enum, i_zip, i_revr, asRg1, asRg2, asRgV, asIt, asTup, asEn, asZip, n_rng1_ap, n_rng2_ap, List.getElem?_cons_zero, List.getElem?_cons_succ, List.set_cons_zero, List.set_cons_succ, List.length_cons, List.length_nil, reduceIte, if_true, if_false, Bool.false_eq_true, Bool.not_true, Bool.not_false, hm1, Nat.reduceAdd])).trans ?_
  refine (seq_nx (e' := [some (.scr ns), some (.int (n : Int)), some (.int (W : Int)), none, none, none, none, none, none, none, none, none]) (by
    simp only [s_seq, oSeq, s_pass, s_set, s_setM, s_setA, s_mv, s_expr, s_ret, s_retM, oIf, s_if, s_raise, withL, s_app, s_appM, s_ext, s_put, s_aug, oR, oA, s_par, setX, e_and, e_or, e_not_ap, e_own_ap, e_call, a_cons, a_nil, rCons, rCall, e_var, e_ivar, e_c, e_un, r1, r2, e_op, e_lst, e_tup, aL, g_not, rOr, rAnd, e_chain, rChain, g_le_ap, g_lt_ap, g_ge_ap, g_gt_ap, g_add_ap, g_sub_ap, scOnly, e_if, rIf, ownOk, g_name, g_tup, setAll, e_isi_ap, isTy, tyD, g_len, asSeq, asL, fin, g_neg, i_rng1, i_rng2, i_list, i_tup, i_enum, i_zip, i_revr, asRg1, asRg2, asRgV, asIt, asTup, asEn, asZip, n_rng1_ap, n_rng2_ap, List.getElem?_cons_zero, List.getElem?_cons_succ, List.set_cons_zero, List.set_cons_succ, List.length_cons, List.length_nil, reduceIte, if_true, if_false, Bool.false_eq_true, Bool.not_true, Bool.not_false, hm2, hwh, eq_int, Nat.reduceAdd])).trans ?_
  refine (seq_nx (e' := [some (.scr ns), some (.int (n : Int)), some (.int (W : Int)), some (.int 1), none, none, none, none, none, none, none, none]) (by
    simp only [s_seq, oSeq, s_pass, s_set, s_setM, s_setA, s_mv, s_expr, s_ret, s_retM, oIf, s_if, s_raise, withL, s_app, s_appM, s_ext, s_put, s_aug, oR, oA, s_par, setX, e_and, e_or, e_not_ap, e_own_ap, e_call, a_cons, a_nil, rCons, rCall, e_var, e_ivar, e_c, e_un, r1, r2, e_op, e_lst, e_tup, aL, g_not, rOr, rAnd, e_chain, rChain, g_le_ap, g_lt_ap, g_ge_ap, g_gt_ap, g_add_ap, g_sub_ap, scOnly, e_if, rIf, ownOk, g_name, g_tup, setAll, e_isi_ap, isTy, tyD, g_len, asSeq, asL, fin, g_neg, i_rng1, i_rng2, i_list, i_tup, i_enum, i_zip, i_revr, asRg1, asRg2, asRgV, asIt, asTup, asEn, asZip, n_rng1_ap, n_rng2_ap, List.getElem?_cons_zero, List.getElem?_cons_succ, List.set_cons_zero, List.set_cons_succ, List.length_cons, List.length_nil, reduceIte, if_true, if_false, Bool.false_eq_true, Bool.not_true, Bool.not_false])).trans ?_
  -- what is drawn
  have hdr := draw_ok ns h n W
  obtain ⟨v, z4, hv, hdr⟩ := hdr
  refine (seq_nx hdr).trans ?_
  have zW : (0 : Int) < (W : Int) := by omega
  have hmod : ∀ y : Int, ∃ x : Nat, x < W ∧ g_mod (.int y) (.int (W : Int)) = .ok (.int (x : Int)) := fun y => by
    have rr1 := Int.emod_nonneg y (show (W : Int) ≠ 0 by omega)
    have rr2 := Int.emod_lt_of_pos y zW
    exact ⟨(y % (W : Int)).toNat, by omega, by rw [g_mod_ap _ _ zW, Int.toNat_of_nonneg rr1]⟩
  have hl : Lt2 (v : Int) 220 := Lt2.nat (by omega) (Int.lt_of_lt_of_le hv (by decide +kernel))
  obtain ⟨V5, p5⟩ := pow_ex (v : Int) 5 hl (by omega) (by omega)
  obtain ⟨V3, p3⟩ := pow_ex (v : Int) 3 hl (by omega) (by omega)
  obtain ⟨V7, p7⟩ := div_ex (v : Int)
  obtain ⟨x1, hx1, y1⟩ := hmod V5
  obtain ⟨x2, hx2, y2⟩ := hmod V7
  obtain ⟨x3, hx3, y3⟩ := hmod V3
  have y0 : (W : Int) - 1 = ((W - 1 : Nat) : Int) := by omega
  have h6 : g_mod (.int (n : Int)) (.int 6) = .ok (.int ((n % 6 : Nat) : Int)) := by
    rw [g_mod_ap _ _ (by decide)]
    rfl
  clear hmod
  have n0 := hnum (W - 1) (by omega)
  have n1 := hnum x1 hx1
  have n2 := hnum x2 hx2
  refine (seq_nx (for_ok (ds := [.int ((W - 1 : Nat) : Int), .int (x1 : Nat), .int (x2 : Nat)]) (by
    rw [mask_nil]
    exact st7a g_pow g_div g_mod ns n W v x1 x2 V5 V7 z4 p5 y1 p7 y2 y0) (st7b mnr ns n W v x1 x2 z4 n0 n1 n2))).trans ?_
  refine (seq_nx (set_ok (st8 g_pow g_mod ns n W v x2 x3 V3 z4 p3 y3))).trans ?_
  simp only [List.set_cons_zero, List.set_cons_succ]
  have y4 : (x3 : Int) + 1 = ((x3 + 1 : Nat) : Int) := by omega
  refine (seq_nx (e' := [some (.scr ns), some (.int (n : Int)), some (.int (W : Int)), some (.int (v : Int)), z4, some (.int (x3 : Int)), none, none, none, none, none, none]) (by
    by_cases hx : x3 + 1 < W
    · obtain ⟨ps, qs, l1, l2, l3⟩ := hlt x3 hx
      have hd : decide (((x3 + 1 : Nat) : Int) < (W : Int)) = true := decide_eq_true (by omega)
      simp only [s_seq, oSeq, s_pass, s_set, s_setM, s_setA, s_mv, s_expr, s_ret, s_retM, oIf, s_if, s_raise, withL, s_app, s_appM, s_ext, s_put, s_aug, oR, oA, s_par, setX, e_and, e_or, e_not_ap, e_own_ap, e_call, a_cons, a_nil, rCons, rCall, e_var, e_ivar, e_c, e_un, r1, r2, e_op, e_lst, e_tup, aL, g_not, rOr, rAnd, e_chain, rChain, g_le_ap, g_lt_ap, g_ge_ap, g_gt_ap, g_add_ap, g_sub_ap, scOnly, e_if, rIf, ownOk, g_name, g_tup, setAll, e_isi_ap, isTy, tyD, g_len, asSeq, asL, fin, g_neg, i_rng1, i_rng2, i_list, i_tup, i_enum, i_zip, i_revr, asRg1, asRg2, asRgV, asIt, asTup, asEn, asZip, n_rng1_ap, n_rng2_ap, List.getElem?_cons_zero, List.getElem?_cons_succ, List.set_cons_zero, List.set_cons_succ, List.length_cons, List.length_nil, reduceIte, if_true, if_false, Bool.false_eq_true, Bool.not_true, Bool.not_false, y4, hd, l1, l2, l3, Nat.reduceAdd]
    · have hd : decide (((x3 + 1 : Nat) : Int) < (W : Int)) = false := decide_eq_false (by omega)
      simp only [s_seq, oSeq, s_pass, s_set, s_setM, s_setA, s_mv, s_expr, s_ret, s_retM, oIf, s_if, s_raise, withL, s_app, s_appM, s_ext, s_put, s_aug, oR, oA, s_par, setX, e_and, e_or, e_not_ap, e_own_ap, e_call, a_cons, a_nil, rCons, rCall, e_var, e_ivar, e_c, e_un, r1, r2, e_op, e_lst, e_tup, aL, g_not, rOr, rAnd, e_chain, rChain, g_le_ap, g_lt_ap, g_ge_ap, g_gt_ap, g_add_ap, g_sub_ap, scOnly, e_if, rIf, ownOk, g_name, g_tup, setAll, e_isi_ap, isTy, tyD, g_len, asSeq, asL, fin, g_neg, i_rng1, i_rng2, i_list, i_tup, i_enum, i_zip, i_revr, asRg1, asRg2, asRgV, asIt, asTup, asEn, asZip, n_rng1_ap, n_rng2_ap, List.getElem?_cons_zero, List.getElem?_cons_succ, List.set_cons_zero, List.set_cons_succ, List.length_cons, List.length_nil, reduceIte, if_true, if_false, Bool.false_eq_true, Bool.not_true, Bool.not_false, y4, hd, Nat.reduceAdd])).trans ?_
  -- the law's own rows
  obtain ⟨ps, a1, r, a2, a3⟩ := hrow 0 (by omega)
  obtain ⟨qs, b1, r', b2, b3⟩ := hrow 1 (by omega)
  have i0 : ((0 : Nat) : Int) = 0 := rfl
  have i1 : ((1 : Nat) : Int) = 1 := rfl
  rw [i0] at a1
  rw [i1] at b1
  refine (seq_nx (e' := [some (.scr ns), some (.int (n : Int)), some (.int (W : Int)), some (.int (v : Int)), z4, some (.int (x3 : Int)), some (.int 1), some (.lst (nn qs)), none, none, none, none]) (by
    simp only [s_for, mask_nil, forGo, s_seq, oSeq, s_pass, s_set, s_setM, s_setA, s_mv, s_expr, s_ret, s_retM, oIf, s_if, s_raise, withL, s_app, s_appM, s_ext, s_put, s_aug, oR, oA, s_par, setX, e_and, e_or, e_not_ap, e_own_ap, e_call, a_cons, a_nil, rCons, rCall, e_var, e_ivar, e_c, e_un, r1, r2, e_op, e_lst, e_tup, aL, g_not, rOr, rAnd, e_chain, rChain, g_le_ap, g_lt_ap, g_ge_ap, g_gt_ap, g_add_ap, g_sub_ap, scOnly, e_if, rIf, ownOk, g_name, g_tup, setAll, e_isi_ap, isTy, tyD, g_len, asSeq, asL, fin, g_neg, i_rng1, i_rng2, i_list, i_tup, i_enum, i_zip, i_revr, asRg1, asRg2, asRgV, asIt, asTup, asEn, asZip, n_rng1_ap, n_rng2_ap, List.getElem?_cons_zero, List.getElem?_cons_succ, List.set_cons_zero, List.set_cons_succ, List.length_cons, List.length_nil, reduceIte, if_true, if_false, Bool.false_eq_true, Bool.not_true, Bool.not_false, a1, a2, a3, b1, b2, b3, nn_len, eq_nn, Nat.reduceAdd, Nat.reduceLeDiff])).trans ?_
  obtain ⟨ds, f1, f2, V, f3, f4, k, rfl, f5⟩ := hall (n % 6) (Nat.mod_lt _ (by decide))
  generalize n % 6 = f at *
  refine (seq_nx (e' := [some (.scr ns), some (.int (n : Int)), some (.int (W : Int)), some (.int (v : Int)), z4, some (.int (x3 : Int)), some (.int 1), some (.lst (nn qs)), some (.int (f : Int)), none, none, none]) (by
    simp only [s_seq, oSeq, s_pass, s_set, s_setM, s_setA, s_mv, s_expr, s_ret, s_retM, oIf, s_if, s_raise, withL, s_app, s_appM, s_ext, s_put, s_aug, oR, oA, s_par, setX, e_and, e_or, e_not_ap, e_own_ap, e_call, a_cons, a_nil, rCons, rCall, e_var, e_ivar, e_c, e_un, r1, r2, e_op, e_lst, e_tup, aL, g_not, rOr, rAnd, e_chain, rChain, g_le_ap, g_lt_ap, g_ge_ap, g_gt_ap, g_add_ap, g_sub_ap, scOnly, e_if, rIf, ownOk, g_name, g_tup, setAll, e_isi_ap, isTy, tyD, g_len, asSeq, asL, fin, g_neg, i_rng1, i_rng2, i_list, i_tup, i_enum, i_zip, i_revr, asRg1, asRg2, asRgV, asIt, asTup, asEn, asZip, n_rng1_ap, n_rng2_ap, List.getElem?_cons_zero, List.getElem?_cons_succ, List.set_cons_zero, List.set_cons_succ, List.length_cons, List.length_nil, reduceIte, if_true, if_false, Bool.false_eq_true, Bool.not_true, Bool.not_false, h6])).trans ?_
  have er : rgOk 0 (V : Int) = true := by
    simp [rgOk]
    omega
  have hlc := lcGo_map (fg := g_name 5) (fe := (e_own 2 mr (a_cons (e_ivar 8) (a_cons (e_ivar 5) a_nil)))) (env := [some (.scr ns), some (.int (n : Int)), some (.int (W : Int)), some (.int (v : Int)), z4, none, some (.int 1), some (.lst (nn qs)), some (.int (f : Int)), none, none, none]) (fun d => match d with | .int i => k i.toNat | d => d) (nn (List.range V)) (by
    intro d hd
    obtain ⟨i, hi⟩ := List.mem_iff_getElem?.mp hd
    obtain ⟨p, hp, rfl⟩ := nn_get hi
    have hpV : p < V := List.mem_range.mp (List.mem_of_getElem? hp)
    have := f5 p hpV
    refine ⟨[some (.scr ns), some (.int (n : Int)), some (.int (W : Int)), some (.int (v : Int)), z4, some (.int (p : Int)), some (.int 1), some (.lst (nn qs)), some (.int (f : Int)), none, none, none], rfl, ?_⟩
    simp only [s_seq, oSeq, s_pass, s_set, s_setM, s_setA, s_mv, s_expr, s_ret, s_retM, oIf, s_if, s_raise, withL, s_app, s_appM, s_ext, s_put, s_aug, oR, oA, s_par, setX, e_and, e_or, e_not_ap, e_own_ap, e_call, a_cons, a_nil, rCons, rCall, e_var, e_ivar, e_c, e_un, r1, r2, e_op, e_lst, e_tup, aL, g_not, rOr, rAnd, e_chain, rChain, g_le_ap, g_lt_ap, g_ge_ap, g_gt_ap, g_add_ap, g_sub_ap, scOnly, e_if, rIf, ownOk, g_name, g_tup, setAll, e_isi_ap, isTy, tyD, g_len, asSeq, asL, fin, g_neg, i_rng1, i_rng2, i_list, i_tup, i_enum, i_zip, i_revr, asRg1, asRg2, asRgV, asIt, asTup, asEn, asZip, n_rng1_ap, n_rng2_ap, List.getElem?_cons_zero, List.getElem?_cons_succ, List.set_cons_zero, List.set_cons_succ, List.length_cons, List.length_nil, reduceIte, if_true, if_false, Bool.false_eq_true, Bool.not_true, Bool.not_false, this, Int.toNat_natCast, Nat.reduceAdd])
  have hk : (nn (List.range V)).map (fun d => match d with | .int i => k i.toNat | d => d) = (List.range V).map k := by
    simp [nn]
  rw [hk] at hlc
  have hVl : (nn (List.range V)).length ≤ 100000 := by
    rw [nn_len, List.length_range]
    exact f3
  refine (seq_nx (e' := [some (.scr ns), some (.int (n : Int)), some (.int (W : Int)), some (.int (v : Int)), z4, some (.int (x3 : Int)), some (.int 1), some (.lst (nn qs)), some (.int (f : Int)), none, none, none]) (by
    simp only [e_lc, rLc, wipeE, s_seq, oSeq, s_pass, s_set, s_setM, s_setA, s_mv, s_expr, s_ret, s_retM, oIf, s_if, s_raise, withL, s_app, s_appM, s_ext, s_put, s_aug, oR, oA, s_par, setX, e_and, e_or, e_not_ap, e_own_ap, e_call, a_cons, a_nil, rCons, rCall, e_var, e_ivar, e_c, e_un, r1, r2, e_op, e_lst, e_tup, aL, g_not, rOr, rAnd, e_chain, rChain, g_le_ap, g_lt_ap, g_ge_ap, g_gt_ap, g_add_ap, g_sub_ap, scOnly, e_if, rIf, ownOk, g_name, g_tup, setAll, e_isi_ap, isTy, tyD, g_len, asSeq, asL, fin, g_neg, i_rng1, i_rng2, i_list, i_tup, i_enum, i_zip, i_revr, asRg1, asRg2, asRgV, asIt, asTup, asEn, asZip, n_rng1_ap, n_rng2_ap, List.getElem?_cons_zero, List.getElem?_cons_succ, List.set_cons_zero, List.set_cons_succ, List.length_cons, List.length_nil, reduceIte, if_true, if_false, Bool.false_eq_true, Bool.not_true, Bool.not_false, f4, er, rgD_zero, hVl, hlc, f1, f2, Nat.reduceAdd])).trans ?_
  exact htail ..
theorem law_true (ns : List Int) (h : ns.length ≤ 63) (hb : ∀ z ∈ ns, Builtin.Int.intBits z ≤ 1048576) : m_law [.scr ns] = .ok (.bl true) := by
  unfold m_law
  show fin (s_law [some (.scr ns), none, none, none, none, none, none, none, none, none, none, none]) = .ok (.bl true)
  suffices q : s_law [some (.scr ns), none, none, none, none, none, none, none, none, none, none, none] = .rt (.bl true) by
    rw [q]
    rfl
  unfold s_law
  -- the width
  have hmin : ∃ m : Nat, m ≤ 30 ∧ (if (((ns.map D.int).length : Nat) : Int) < 30 then (((ns.map D.int).length : Nat) : Int) else 30) = (m : Int) := by
    rw [List.length_map]
    refine ⟨min 30 ns.length, by omega, ?_⟩
    split <;> omega
  obtain ⟨m, m1, m3⟩ := hmin
  refine (seq_nx (e' := [some (.scr ns), some (.int (m : Int)), none, none, none, none, none, none, none, none, none, none]) (by
    simp only [g_min, gTwo, m3, s_seq, oSeq, s_pass, s_set, s_setM, s_setA, s_mv, s_expr, s_ret, s_retM, oIf, s_if, s_raise, withL, s_app, s_appM, s_ext, s_put, s_aug, oR, oA, s_par, setX, e_and, e_or, e_not_ap, e_own_ap, e_call, a_cons, a_nil, rCons, rCall, e_var, e_ivar, e_c, e_un, r1, r2, e_op, e_lst, e_tup, aL, g_not, rOr, rAnd, e_chain, rChain, g_le_ap, g_lt_ap, g_ge_ap, g_gt_ap, g_add_ap, g_sub_ap, scOnly, e_if, rIf, ownOk, g_name, g_tup, setAll, e_isi_ap, isTy, tyD, g_len, asSeq, asL, fin, g_neg, i_rng1, i_rng2, i_list, i_tup, i_enum, i_zip, i_revr, asRg1, asRg2, asRgV, asIt, asTup, asEn, asZip, n_rng1_ap, n_rng2_ap, List.getElem?_cons_zero, List.getElem?_cons_succ, List.set_cons_zero, List.set_cons_succ, List.length_cons, List.length_nil, reduceIte, if_true, if_false, Bool.false_eq_true, Bool.not_true, Bool.not_false])).trans ?_
  have c1 := m_cell ns 2
  have e1 : ((2 : Nat) : Int) = 2 := rfl
  rw [e1] at c1
  obtain ⟨kind, d1, d2, d3⟩ := m_draw (ns.getD 2 0) 7 32 ((getD_small hb 2).mono (by omega)) (by unfold Lt2; decide) (by decide)
  have hstep : ∃ n : Nat, (n ≤ 30 ∨ n = 100) ∧ (s_if (e_op (g_eq false) (e_own 3 m_law_draw (a_cons (e_own 2 m_law_cell_at (a_cons (e_var 0) (a_cons (e_c (.int 2)) a_nil))) (a_cons (e_c (.int 7)) (a_cons (e_c (.int 32)) a_nil)))) (e_c (.int 5))) (s_set 1 (e_c (.int 100)))
  s_pass) [some (.scr ns), some (.int (m : Int)), none, none, none, none, none, none, none, none, none, none] = .nx [some (.scr ns), some (.int (n : Int)), none, none, none, none, none, none, none, none, none, none] := by
    have g : ∀ z : Int, ∃ b : Bool, g_eq false (.int z) (.int 5) = .ok (.bl b) := fun z => ⟨_, rfl⟩
    obtain ⟨b, hb⟩ := g kind
    cases b with
    | true =>
      have e100 : ((100 : Nat) : Int) = 100 := rfl
      exact ⟨100, .inr rfl, by simp only [s_seq, oSeq, s_pass, s_set, s_setM, s_setA, s_mv, s_expr, s_ret, s_retM, oIf, s_if, s_raise, withL, s_app, s_appM, s_ext, s_put, s_aug, oR, oA, s_par, setX, e_and, e_or, e_not_ap, e_own_ap, e_call, a_cons, a_nil, rCons, rCall, e_var, e_ivar, e_c, e_un, r1, r2, e_op, e_lst, e_tup, aL, g_not, rOr, rAnd, e_chain, rChain, g_le_ap, g_lt_ap, g_ge_ap, g_gt_ap, g_add_ap, g_sub_ap, scOnly, e_if, rIf, ownOk, g_name, g_tup, setAll, e_isi_ap, isTy, tyD, g_len, asSeq, asL, fin, g_neg, i_rng1, i_rng2, i_list, i_tup, i_enum, i_zip, i_revr, asRg1, asRg2, asRgV, asIt, asTup, asEn, asZip, n_rng1_ap, n_rng2_ap, List.getElem?_cons_zero, List.getElem?_cons_succ, List.set_cons_zero, List.set_cons_succ, List.length_cons, List.length_nil, reduceIte, if_true, if_false, Bool.false_eq_true, Bool.not_true, Bool.not_false, c1, d1, hb, e100, Nat.reduceAdd]⟩
    | false => exact ⟨m, .inl m1, by simp only [s_seq, oSeq, s_pass, s_set, s_setM, s_setA, s_mv, s_expr, s_ret, s_retM, oIf, s_if, s_raise, withL, s_app, s_appM, s_ext, s_put, s_aug, oR, oA, s_par, setX, e_and, e_or, e_not_ap, e_own_ap, e_call, a_cons, a_nil, rCons, rCall, e_var, e_ivar, e_c, e_un, r1, r2, e_op, e_lst, e_tup, aL, g_not, rOr, rAnd, e_chain, rChain, g_le_ap, g_lt_ap, g_ge_ap, g_gt_ap, g_add_ap, g_sub_ap, scOnly, e_if, rIf, ownOk, g_name, g_tup, setAll, e_isi_ap, isTy, tyD, g_len, asSeq, asL, fin, g_neg, i_rng1, i_rng2, i_list, i_tup, i_enum, i_zip, i_revr, asRg1, asRg2, asRgV, asIt, asTup, asEn, asZip, n_rng1_ap, n_rng2_ap, List.getElem?_cons_zero, List.getElem?_cons_succ, List.set_cons_zero, List.set_cons_succ, List.length_cons, List.length_nil, reduceIte, if_true, if_false, Bool.false_eq_true, Bool.not_true, Bool.not_false, c1, d1, hb, Nat.reduceAdd]⟩
  obtain ⟨n, hn, hstep⟩ := hstep
  refine (seq_nx hstep).trans ?_
  have hn100 : n ≤ 100 := by omega
  have hm1 := m_many n hn100
  have hm2 := m_lawmany n hn
  have hW := w_pos n hn
  have hnum : ∀ x, x < w n n 0 → m_law_number_right [.int n, .int x] = .ok (.bl true) := fun x hx => m_right n x hn100 hx
  have hlt : ∀ x, x + 1 < w n n 0 → ∃ ps qs : List Nat, m_row_by [.int n, .int x] = .ok (.lst (nn ps)) ∧ m_row_by [.int n, .int ((x + 1 : Nat) : Int)] = .ok (.lst (nn qs)) ∧ g_ltL (.lst (nn ps)) (.lst (nn qs)) = .ok (.bl true) := by
    intro x hx
    obtain ⟨u1, u2, u3⟩ := unrank_spec n n 0 x (Nat.le_refl _) (by omega)
    obtain ⟨v1, v2, v3⟩ := unrank_spec n n 0 (x + 1) (Nat.le_refl _) hx
    refine ⟨_, _, m_by n x hn100 (by omega), m_by n (x + 1) hn100 hx, ?_⟩
    have := rank_rfl n 0 (unrank n n 0 x) (unrank n n 0 (x + 1)) (by omega) (by omega) u2 v2 (by omega)
    simp only [g_ltL, asL, asInts_nn, this, decide_true]
  have hrow : ∀ t : Nat, t ≤ 1 → ∃ ps : List Nat, m_law_row [.scr ns, .int 40, .int t] = .ok (.lst (nn ps)) ∧ ∃ r : Int, m_number_of [.lst (nn ps)] = .ok (.int r) ∧ m_row_by [.int (ps.length : Int), .int r] = .ok (.lst (nn ps)) := by
    intro t ht
    obtain ⟨ps, h1, h2, h3⟩ := m_row ns hb t ht
    obtain ⟨h4, h5⟩ := both ps (by omega) h3
    exact ⟨ps, h1, _, h4, h5⟩
  have hall : ∀ f : Nat, f < 6 → ∃ ds : List D, m_law_all [.int f] = .ok (.lst ds) ∧ g_eq true (.lst ds) (.lst ds) = .ok (.bl false) ∧ ∃ v : Nat, v ≤ 100000 ∧ m_how_many [.int f] = .ok (.int v) ∧ ∃ k : Nat → D, ds = (List.range v).map k ∧ ∀ x, x < v → m_row_by [.int f, .int x] = .ok (k x) := by
    intro f hf
    obtain ⟨h1, h2, h3⟩ := m_all f hf
    exact ⟨_, h1, g_eq_self _ _ h2, w f f 0, h3, m_many f (by omega), _, rfl, fun x hx => m_by f x (by omega) hx⟩
  have htail := tail_ok
  have hwh := m_law_whole_int
  exact law_F m_how_many m_number_of m_row_by m_law_all m_law_many m_law_number_right m_law_row m_law_whole ns h n (w n n 0) hn100 hW hm1 hm2 hwh hnum hlt hrow hall htail
end PyS
set_option maxRecDepth 100000
set_option maxHeartbeats 4000000
open PySem PySem.W PyProof.Rows
set_option maxHeartbeats 0 in
theorem PySem.Challenge.cw_evenstretch_k04_whole_numbers_holds : PySem.Challenge.rw_evenstretch_k04_whole_numbers.Holds := by
  w_on; o_law; k_head; (case hw => w_witness2)
  k_fill
  refine L2.walk_ofB (l := PySem.Challenge.rw_evenstretch_k04_whole_numbers) (n := 63) (k := 5) (x := "_law_script") (CX := fun w => L2.CX PySem.Challenge.rw_evenstretch_k04_whole_numbers.prog w) (sp := fun w => PyS.spLaw _ (PyS.m_law)) rfl (by decide) rfl ⟨rfl, by decide, by decide⟩ (fun w h Y => PySem.W.kIn_of Y) ?F (fun _ _ a ns hl hb _ hS => PyS.law_end (PyS.law_true ns hl hb) hS) (fun _ _ _ _ _ h => PyS.cx_false h)
  case F =>
    intro w mg fa h KX G hmg
    refine' PyS.all_mk KX G hmg ?a_is_number ?l_is_number ?c_is_number ?k_is_number ?a_check_row ?l_check_row ?c_check_row ?k_check_row ?a_ways_on ?l_ways_on ?c_ways_on ?k_ways_on ?a_check_many ?l_check_many ?c_check_many ?k_check_many ?a_how_many ?l_how_many ?c_how_many ?k_how_many ?a_row_by ?l_row_by ?c_row_by ?k_row_by ?a_number_of ?l_number_of ?c_number_of ?k_number_of ?a_law_cell_at ?l_law_cell_at ?c_law_cell_at ?k_law_cell_at ?a_law_draw ?l_law_draw ?c_law_draw ?k_law_draw ?a_law_number ?l_law_number ?c_law_number ?k_law_number ?a_law_row ?l_law_row ?c_law_row ?k_law_row ?a_law_whole ?l_law_whole ?c_law_whole ?k_law_whole ?a_law_many ?l_law_many ?c_law_many ?k_law_many ?a_law_is_row ?l_law_is_row ?c_law_is_row ?k_law_is_row ?a_law_number_right ?l_law_number_right ?c_law_number_right ?k_law_number_right ?a_law_all ?l_law_all ?c_law_all ?k_law_all ?a_law ?l_law ?c_law ?k_law ?z_range ?z_reversed ?z_enumerate ?z_list ?z_min ?z_isinstance ?z_int ?z_all ?z_len ?z_sum ?z_max ?z_bool ?z_sorted ?z_zip ?z_abs ?e_BadRow ?e1_BadRow ?e2_BadRow ?e3_BadRow ?e4_BadRow ?e_BadMany ?e1_BadMany ?e2_BadMany ?e3_BadMany ?e4_BadMany ?e_BadNumber ?e1_BadNumber ?e2_BadNumber ?e3_BadNumber ?e4_BadNumber ?q_FARTHEST
    (case a_is_number => k_is)
    (case l_is_number => k_is)
    (case c_is_number => k_is)
    (case k_is_number => k_is)
    (case a_check_row => k_is)
    (case l_check_row => k_is)
    (case c_check_row => k_is)
    (case k_check_row => k_is)
    (case a_ways_on => k_is)
    (case l_ways_on => k_is)
    (case c_ways_on => k_is)
    (case k_ways_on => k_is)
    (case a_check_many => k_is)
    (case l_check_many => k_is)
    (case c_check_many => k_is)
    (case k_check_many => k_is)
    (case a_how_many => k_is)
    (case l_how_many => k_is)
    (case c_how_many => k_is)
    (case k_how_many => k_is)
    (case a_row_by => k_is)
    (case l_row_by => k_is)
    (case c_row_by => k_is)
    (case k_row_by => k_is)
    (case a_number_of => k_is)
    (case l_number_of => k_is)
    (case c_number_of => k_is)
    (case k_number_of => k_is)
    (case a_law_cell_at => k_is)
    (case l_law_cell_at => k_is)
    (case c_law_cell_at => k_is)
    (case k_law_cell_at => k_is)
    (case a_law_draw => k_is)
    (case l_law_draw => k_is)
    (case c_law_draw => k_is)
    (case k_law_draw => k_is)
    (case a_law_number => k_is)
    (case l_law_number => k_is)
    (case c_law_number => k_is)
    (case k_law_number => k_is)
    (case a_law_row => k_is)
    (case l_law_row => k_is)
    (case c_law_row => k_is)
    (case k_law_row => k_is)
    (case a_law_whole => k_is)
    (case l_law_whole => k_is)
    (case c_law_whole => k_is)
    (case k_law_whole => k_is)
    (case a_law_many => k_is)
    (case l_law_many => k_is)
    (case c_law_many => k_is)
    (case k_law_many => k_is)
    (case a_law_is_row => k_is)
    (case l_law_is_row => k_is)
    (case c_law_is_row => k_is)
    (case k_law_is_row => k_is)
    (case a_law_number_right => k_is)
    (case l_law_number_right => k_is)
    (case c_law_number_right => k_is)
    (case k_law_number_right => k_is)
    (case a_law_all => k_is)
    (case l_law_all => k_is)
    (case c_law_all => k_is)
    (case k_law_all => k_is)
    (case a_law => k_is)
    (case l_law => k_is)
    (case c_law => k_is)
    (case k_law => k_is)
    (case z_range => k_is)
    (case z_reversed => k_is)
    (case z_enumerate => k_is)
    (case z_list => k_is)
    (case z_min => k_is)
    (case z_isinstance => k_is)
    (case z_int => k_is)
    (case z_all => k_is)
    (case z_len => k_is)
    (case z_sum => k_is)
    (case z_max => k_is)
    (case z_bool => k_is)
    (case z_sorted => k_is)
    (case z_zip => k_is)
    (case z_abs => k_is)
    (case e_BadRow => k_is)
    (case e1_BadRow => k_exc)
    (case e2_BadRow => k_is)
    (case e3_BadRow => k_is)
    (case e4_BadRow => k_is)
    (case e_BadMany => k_is)
    (case e1_BadMany => k_exc)
    (case e2_BadMany => k_is)
    (case e3_BadMany => k_is)
    (case e4_BadMany => k_is)
    (case e_BadNumber => k_is)
    (case e1_BadNumber => k_exc)
    (case e2_BadNumber => k_is)
    (case e3_BadNumber => k_is)
    (case e4_BadNumber => k_is)
    (case q_FARTHEST => k_is)
