import PyProof.Rows.All
import Wide.All
import OpenK.AllK
import Wide.FinOn
import HandS.ForMost
import HandS.Exc
import HandS.WordsExc
import HandS.IsInst
import HandS.Conv
import Lean
import KE.KStateDown
import HandS.Defaults
import HandS.Head0
import HandS.Head1
import HandS.Head2
import HandS.HeadEnd
import HandS.HeadHook1
import HandS.HeadHook2
import HandS.HeadHook3
import HandS.HeadHook4
import PySem.Challenge.RW_postroad_k12_spots
set_option Elab.async false
set_option linter.all false
set_option maxRecDepth 100000
set_option maxHeartbeats 2000000
/-! Frozen data, owned cells, states: a small separation logic over the layer's readings. -/
namespace Sx
open PySem L2

/-! ### heaps -/
/-- B knows all that A knows -/
def Ex (A B : Hp) : Prop := ∀ x u, A x = some u → B x = some u
theorem Ex.rf {A : Hp} : Ex A A := fun _ _ q => q
theorem Ex.tr {A B C : Hp} (p : Ex A B) (q : Ex B C) : Ex A C := fun x u z => q x u (p x u z)
theorem Ex.mut {A B : Hp} {q : Addr} {u : HO} (s : Ex A B) (n : A q = none) : Ex A (upd B q u) := fun x v z => (upd_ne (ne_of_none z n)).trans (s x v z)
theorem Ex.new {A : Hp} {q : Addr} {u : HO} (n : A q = none) : Ex A (upd A q u) := Ex.rf.mut n
theorem Ex.free {A B : Hp} (s : Ex A B) {q : Addr} (n : B q = none) : A q = none := Option.eq_none_iff_forall_ne_some.mpr fun u z => by
  rw [s q u z] at n; cases n
theorem Ex.upd2 {A B : Hp} {q : Addr} {u : HO} (s : Ex A B) : Ex (upd A q u) (upd B q u) := fun x v z => by
  by_cases k : x = q
  · subst k; rw [upd_same] at z ⊢; exact z
  · rw [upd_ne k] at z ⊢; exact s x v z
theorem ex_rd {A B : Hp} {x : Addr} {u : HO} (s : Ex A B) : Rd A x u → Rd B x u := Or.imp (s x _) fun ⟨o, z⟩ => ⟨o, s x _ z⟩
theorem ex_l {K : PySem.W.Frag} {A B : Hp} {x : Addr} {vs : List V} (s : Ex A B) : SqL K A x vs → SqL K B x vs := Or.imp (ex_rd s) id
theorem ex_t {K : PySem.W.Frag} {A B : Hp} {x : Addr} {vs : List V} (s : Ex A B) : SqT K A x vs → SqT K B x vs := Or.imp (ex_rd s) id
def emp : Hp := fun _ => none
def one (p : Addr) (o : HO) : Hp := upd emp p o
def join (A B : Hp) : Hp := fun a => match A a with | some o => some o | none => B a
theorem join_l {A B : Hp} {a : Addr} {o : HO} (h : A a = some o) : join A B a = some o := by unfold join; rw [h]
theorem join_r {A B : Hp} {a : Addr} (h : A a = none) : join A B a = B a := by unfold join; rw [h]
theorem join_emp (A : Hp) : join A emp = A := by
  funext a; unfold join emp; cases A a <;> rfl
theorem emp_join (A : Hp) : join emp A = A := by
  funext a; unfold join emp; rfl
theorem join_some {A B : Hp} {a : Addr} {o : HO} (h : join A B a = some o) : A a = some o ∨ (A a = none ∧ B a = some o) := by
  unfold join at h
  cases q : A a with
  | some u => rw [q] at h; exact .inl h
  | none => rw [q] at h; exact .inr ⟨rfl, h⟩
theorem join_none {A B : Hp} {a : Addr} (h : join A B a = none) : A a = none ∧ B a = none := by
  unfold join at h
  cases q : A a with
  | some u => rw [q] at h; cases h
  | none => rw [q] at h; exact ⟨rfl, h⟩
theorem join_assoc (A B C : Hp) : join (join A B) C = join A (join B C) := by
  funext a; unfold join; cases A a <;> rfl
/-- nothing in common -/
def Dj (A B : Hp) : Prop := ∀ a o, A a = some o → B a = none
theorem Dj.sym {A B : Hp} (h : Dj A B) : Dj B A := fun a o e => by
  cases q : A a with
  | none => rfl
  | some u => rw [h a u q] at e; cases e
theorem Dj.comm {A B : Hp} (h : Dj A B) : join A B = join B A := by
  funext a
  unfold join
  cases q : A a with
  | none => cases B a <;> rfl
  | some u => rw [h a u q]
theorem Dj.emp (A : Hp) : Dj A emp := fun _ _ _ => rfl
theorem Dj.l {A B C : Hp} (h : Dj (join A B) C) : Dj A C := fun a o e => h a o (join_l e)
theorem Dj.r {A B C : Hp} (d : Dj A B) (h : Dj (join A B) C) : Dj B C := fun a o e => h a o (by rw [join_r (d.sym a o e)]; exact e)
theorem Dj.joinL {A B C : Hp} (h : Dj A C) (k : Dj B C) : Dj (join A B) C := fun a o e => by
  rcases join_some e with q | ⟨_, q⟩
  · exact h a o q
  · exact k a o q
theorem Ex.joinL {A B H : Hp} (h : Ex (join A B) H) : Ex A H := fun a o e => h a o (join_l e)
theorem Ex.joinR {A B H : Hp} (d : Dj A B) (h : Ex (join A B) H) : Ex B H := fun a o e => h a o (by rw [join_r (d.sym a o e)]; exact e)
theorem Ex.join {A B H : Hp} (h : Ex A H) (k : Ex B H) : Ex (join A B) H := fun a o e => by
  rcases join_some e with q | ⟨_, q⟩
  · exact h a o q
  · exact k a o q
theorem one_same {p : Addr} {o : HO} : one p o p = some o := upd_same
theorem one_some {p a : Addr} {o u : HO} (h : one p o a = some u) : a = p ∧ u = o := by
  unfold one upd emp at h
  by_cases e : a = p
  · rw [if_pos e] at h; exact ⟨e, (Option.some.inj h).symm⟩
  · rw [if_neg e] at h; cases h
theorem one_ne {p a : Addr} {o : HO} (h : a ≠ p) : one p o a = none := by
  unfold one; rw [upd_ne h]; rfl
theorem upd_one {p : Addr} {o u : HO} : upd (one p o) p u = one p u := upd_upd

/-! ### frozen data -/
inductive D where
  | non | bl (b : Bool) | int (i : Int) | str (x : Str) | adr (a : Addr) | ty (n : String)
  | lst (ds : List D) | tup (ds : List D) | ins (C : Addr) (fs : List (Str × D))

mutual
inductive Fd (K : PySem.W.Frag) (F : Hp) : V → D → Prop
  | non : Fd K F .non .non
  | bl (b : Bool) : Fd K F (.bl b) (.bl b)
  | int (i : Int) : Fd K F (.int i) (.int i)
  | str (x : Str) : Fd K F (.str x) (.str x)
  | adr (a : Addr) : Fd K F (.ref a) (.adr a)
  | ty (n : String) : Fd K F (.ty n) (.ty n)
  | lst {a : Addr} {vs : List V} {ds : List D} : SqL K F a vs → FdAll K F vs ds → Fd K F (.ref a) (.lst ds)
  | tup {a : Addr} {vs : List V} {ds : List D} : SqT K F a vs → FdAll K F vs ds → Fd K F (.ref a) (.tup ds)
  | ins {a C dx : Addr} {vs : List (Str × V)} {fs : List (Str × D)} : F a = some (.ins C dx vs) → FdFs K F vs fs → Fd K F (.ref a) (.ins C fs)
inductive FdAll (K : PySem.W.Frag) (F : Hp) : List V → List D → Prop
  | nil : FdAll K F [] []
  | cons {v : V} {vs : List V} {d : D} {ds : List D} : Fd K F v d → FdAll K F vs ds → FdAll K F (v :: vs) (d :: ds)
inductive FdFs (K : PySem.W.Frag) (F : Hp) : List (Str × V) → List (Str × D) → Prop
  | nil : FdFs K F [] []
  | cons {n : Str} {v : V} {vs : List (Str × V)} {d : D} {ds : List (Str × D)} : Fd K F v d → FdFs K F vs ds → FdFs K F ((n, v) :: vs) ((n, d) :: ds)
end

section
variable {K : PySem.W.Frag} {F F' : Hp}
mutual
theorem Fd.mono (e : Ex F F') : ∀ (d : D) {v : V}, Fd K F v d → Fd K F' v d
  | .non, _, h => by cases h; exact .non
  | .bl _, _, h => by cases h; exact .bl _
  | .int _, _, h => by cases h; exact .int _
  | .str _, _, h => by cases h; exact .str _
  | .adr _, _, h => by cases h; exact .adr _
  | .ty _, _, h => by cases h; exact .ty _
  | .lst ds, _, h => by cases h with | lst s a => exact .lst (ex_l e s) (FdAll.mono e ds a)
  | .tup ds, _, h => by cases h with | tup s a => exact .tup (ex_t e s) (FdAll.mono e ds a)
  | .ins C fs, _, h => by cases h with | ins s a => exact .ins (e _ _ s) (FdFs.mono e fs a)
theorem FdAll.mono (e : Ex F F') : ∀ (ds : List D) {vs : List V}, FdAll K F vs ds → FdAll K F' vs ds
  | [], _, h => by cases h; exact .nil
  | d :: ds, _, h => by cases h with | cons a b => exact .cons (Fd.mono e d a) (FdAll.mono e ds b)
theorem FdFs.mono (e : Ex F F') : ∀ (ds : List (Str × D)) {vs : List (Str × V)}, FdFs K F vs ds → FdFs K F' vs ds
  | [], _, h => by cases h; exact .nil
  | (_, d) :: ds, _, h => by cases h with | cons a b => exact .cons (Fd.mono e d a) (FdFs.mono e ds b)
end
theorem FdAll.length : ∀ {vs : List V} {ds : List D}, FdAll K F vs ds → vs.length = ds.length
  | _, _, .nil => rfl
  | _, _, .cons _ t => by rw [List.length_cons, List.length_cons, FdAll.length t]
theorem FdAll.get : ∀ {vs : List V} {ds : List D} {i : Nat} {d : D}, FdAll K F vs ds → ds[i]? = some d → ∃ v, vs[i]? = some v ∧ Fd K F v d
  | _, _, i, _, .nil, e => by simp at e
  | _, _, 0, _, .cons h _, e => by simp at e; subst e; exact ⟨_, rfl, h⟩
  | _, _, i + 1, _, .cons _ t, e => by
    obtain ⟨v, h1, h2⟩ := FdAll.get (i := i) t (by simpa using e)
    exact ⟨v, by simpa using h1, h2⟩
theorem FdAll.getV : ∀ {vs : List V} {ds : List D} {i : Nat} {v : V}, FdAll K F vs ds → vs[i]? = some v → ∃ d, ds[i]? = some d ∧ Fd K F v d
  | _, _, i, _, .nil, e => by simp at e
  | _, _, 0, _, .cons h _, e => by simp at e; subst e; exact ⟨_, rfl, h⟩
  | _, _, i + 1, _, .cons _ t, e => by
    obtain ⟨v, h1, h2⟩ := FdAll.getV (i := i) t (by simpa using e)
    exact ⟨v, by simpa using h1, h2⟩
theorem FdAll.app : ∀ {vs ws : List V} {ds es : List D}, FdAll K F vs ds → FdAll K F ws es → FdAll K F (vs ++ ws) (ds ++ es)
  | _, _, _, _, .nil, h => h
  | _, _, _, _, .cons h t, k => .cons h (FdAll.app t k)
theorem FdAll.take : ∀ {vs : List V} {ds : List D} (n : Nat), FdAll K F vs ds → FdAll K F (vs.take n) (ds.take n)
  | _, _, 0, _ => by simp; exact .nil
  | _, _, _ + 1, .nil => by simp; exact .nil
  | _, _, n + 1, .cons h t => .cons h (FdAll.take n t)
theorem FdAll.drop : ∀ {vs : List V} {ds : List D} (n : Nat), FdAll K F vs ds → FdAll K F (vs.drop n) (ds.drop n)
  | _, _, 0, h => h
  | _, _, _ + 1, .nil => by simp; exact .nil
  | _, _, n + 1, .cons _ t => FdAll.drop n t
theorem FdAll.set : ∀ {vs : List V} {ds : List D} (n : Nat) {v : V} {d : D}, FdAll K F vs ds → Fd K F v d → FdAll K F (vs.set n v) (ds.set n d)
  | _, _, _, _, _, .nil, _ => .nil
  | _, _, 0, _, _, .cons _ t, k => .cons k t
  | _, _, n + 1, _, _, .cons h t, k => .cons h (FdAll.set n t k)
theorem FdAll.rev : ∀ {vs : List V} {ds : List D}, FdAll K F vs ds → FdAll K F vs.reverse ds.reverse
  | _, _, .nil => .nil
  | _, _, .cons h t => by rw [List.reverse_cons, List.reverse_cons]; exact (FdAll.rev t).app (.cons h .nil)
theorem FdAll.replicate {v : V} {d : D} (h : Fd K F v d) : ∀ n, FdAll K F (List.replicate n v) (List.replicate n d)
  | 0 => .nil
  | n + 1 => .cons h (FdAll.replicate h n)
theorem FdFs.names : ∀ {vs : List (Str × V)} {ds : List (Str × D)}, FdFs K F vs ds → vs.map (·.1) = ds.map (·.1)
  | _, _, .nil => rfl
  | _, _, .cons _ t => by rw [List.map_cons, List.map_cons, FdFs.names t]
theorem FdFs.length {vs : List (Str × V)} {ds : List (Str × D)} (h : FdFs K F vs ds) : vs.length = ds.length := by
  have e := congrArg List.length h.names
  rw [List.length_map, List.length_map] at e
  exact e
theorem FdFs.look {f : Str} {d : D} : ∀ {vs : List (Str × V)} {ds : List (Str × D)}, FdFs K F vs ds → ds.lookup f = some d → ∃ v, vs.lookup f = some v ∧ Fd K F v d
  | _, _, .nil, e => by simp at e
  | _, _, .cons (n := n) h t, e => by
    rw [List.lookup_cons] at e ⊢
    cases q : (f == n) with
    | true => rw [q] at e; cases e; exact ⟨_, rfl, h⟩
    | false => rw [q] at e; exact FdFs.look t e
theorem FdFs.nolook {f : Str} : ∀ {vs : List (Str × V)} {ds : List (Str × D)}, FdFs K F vs ds → ds.lookup f = none → vs.lookup f = none
  | _, _, .nil, _ => rfl
  | _, _, .cons (n := n) h t, e => by
    rw [List.lookup_cons] at e ⊢
    cases q : (f == n) with
    | true => rw [q] at e; cases e
    | false => rw [q] at e; exact FdFs.nolook t e
def putD (f : Str) (d : D) : List (Str × D) → List (Str × D)
  | [] => [(f, d)]
  | (g, x) :: r => if g = f then (g, d) :: r else (g, x) :: putD f d r
theorem FdFs.put {f : Str} {v : V} {d : D} (k : Fd K F v d) : ∀ {vs : List (Str × V)} {ds : List (Str × D)}, FdFs K F vs ds → FdFs K F (putF f v vs) (putD f d ds)
  | _, _, .nil => .cons k .nil
  | _, _, .cons (n := n) h t => by
    unfold putF putD
    by_cases e : n = f
    · rw [if_pos e, if_pos e]; exact .cons k t
    · rw [if_neg e, if_neg e]; exact .cons h (FdFs.put k t)
theorem FdAll.ints : ∀ {vs : List V} {ns : List Int}, FdAll K F vs (ns.map D.int) → vs = ns.map V.int
  | _, [], h => by cases h; rfl
  | _, n :: ns, h => by cases h with | cons a b => cases a; rw [List.map_cons, FdAll.ints b]
theorem FdAll.strs : ∀ {vs : List V} {ns : List Str}, FdAll K F vs (ns.map D.str) → vs = ns.map V.str
  | _, [], h => by cases h; rfl
  | _, n :: ns, h => by cases h with | cons a b => cases a; rw [List.map_cons, FdAll.strs b]
theorem FdAll.bls : ∀ {vs : List V} {ns : List Bool}, FdAll K F vs (ns.map D.bl) → vs = ns.map V.bl
  | _, [], h => by cases h; rfl
  | _, n :: ns, h => by cases h with | cons a b => cases a; rw [List.map_cons, FdAll.bls b]
theorem FdAll.ofInts : ∀ (ns : List Int), FdAll K F (ns.map V.int) (ns.map D.int)
  | [] => .nil
  | n :: ns => .cons (.int n) (FdAll.ofInts ns)
theorem FdAll.ofStrs : ∀ (ns : List Str), FdAll K F (ns.map V.str) (ns.map D.str)
  | [] => .nil
  | n :: ns => .cons (.str n) (FdAll.ofStrs ns)
end

/-! ### owned cells -/
structure Res where
  P : Hp → Hp → Prop
  mono : ∀ {F F' M : Hp}, Ex F F' → P F M → P F' M
def Rs : List Res → Hp → Hp → Prop
  | [], _, M => M = emp
  | r :: l, F, M => ∃ A B, M = join A B ∧ Dj A B ∧ r.P F A ∧ Rs l F B
theorem Rs.mono {F F' : Hp} (e : Ex F F') : ∀ {l : List Res} {M : Hp}, Rs l F M → Rs l F' M
  | [], _, h => h
  | r :: l, _, ⟨A, B, h1, h2, h3, h4⟩ => ⟨A, B, h1, h2, r.mono e h3, Rs.mono e h4⟩
theorem Rs.split {F : Hp} : ∀ {l k : List Res} {M : Hp}, Rs (l ++ k) F M → ∃ A B, M = join A B ∧ Dj A B ∧ Rs l F A ∧ Rs k F B
  | [], _, M, h => ⟨emp, M, (emp_join M).symm, (Dj.emp M).sym, rfl, h⟩
  | r :: l, k, M, ⟨A, B, h1, h2, h3, h4⟩ => by
    obtain ⟨A', B', g1, g2, g3, g4⟩ := Rs.split h4
    subst g1
    refine ⟨join A A', B', by rw [h1, join_assoc], ?_, ⟨A, A', rfl, (Dj.l h2.sym).sym, h3, g3⟩, g4⟩
    exact Dj.joinL ((Dj.r g2 h2.sym).sym) g2
theorem Rs.app {F : Hp} : ∀ {l k : List Res} {A B : Hp}, Rs l F A → Rs k F B → Dj A B → Rs (l ++ k) F (join A B)
  | [], _, _, _, h, g, _ => by
    have e : _ = emp := h
    subst e
    rw [emp_join]; exact g
  | r :: l, k, _, B, ⟨A1, A2, h1, h2, h3, h4⟩, g, d => by
    subst h1
    rw [join_assoc]
    refine ⟨A1, join A2 B, rfl, ?_, h3, Rs.app h4 g (Dj.r h2 d)⟩
    exact (Dj.joinL h2.sym (Dj.l d).sym).sym
/-- the k-th one apart -/
theorem Rs.at {F : Hp} : ∀ {l : List Res} {k : Nat} {r : Res} {M : Hp}, l[k]? = some r → Rs l F M → ∃ A B, M = join A B ∧ Dj A B ∧ r.P F A ∧ ∀ r' A' F', Ex F F' → r'.P F' A' → Dj A' B → Rs (l.set k r') F' (join A' B)
  | [], k, r, M, e, _ => by simp at e
  | r0 :: l, 0, r, M, e, ⟨A, B, h1, h2, h3, h4⟩ => by
    simp at e; subst e
    exact ⟨A, B, h1, h2, h3, fun r' A' F' x p d => ⟨A', B, rfl, d, p, Rs.mono x h4⟩⟩
  | r0 :: l, k + 1, r, M, e, ⟨A, B, h1, h2, h3, h4⟩ => by
    obtain ⟨A2, B2, g1, g2, g3, g4⟩ := Rs.at (k := k) (r := r) (by simpa using e) h4
    subst g1
    refine ⟨A2, join A B2, ?_, ?_, g3, fun r' A' F' x p d => ?_⟩
    · rw [h1, ← join_assoc, ← join_assoc, (Dj.l h2.sym).comm]
    · exact (Dj.joinL (Dj.l h2.sym).sym g2.sym).sym
    · rw [List.set_cons_succ]
      have dA : Dj A A' := Dj.l d.sym
      have dAB : Dj A B2 := (Dj.r g2 h2.sym).sym
      have dB : Dj A' B2 := (Dj.r dAB d.sym).sym
      refine ⟨A, join A' B2, ?_, ?_, r0.mono x h3, g4 r' A' F' x p dB⟩
      · rw [← join_assoc, ← join_assoc, dA.comm]
      · exact (Dj.joinL dA.sym dAB.sym).sym

/-! ### states -/
structure Tm where
  P : Hp → Prop
  mono : ∀ {F F' : Hp}, Ex F F' → P F → P F'
def Tm.tt : Tm := ⟨fun _ => True, fun _ _ => trivial⟩
def Tm.and (K : PySem.W.Frag) (T : Tm) (v : V) (d : D) : Tm := ⟨fun F => Fd K F v d ∧ T.P F, fun e h => ⟨Fd.mono e d h.1, T.mono e h.2⟩⟩
def Tm.ands (K : PySem.W.Frag) (T : Tm) (vs : List V) (ds : List D) : Tm := ⟨fun F => FdAll K F vs ds ∧ T.P F, fun e h => ⟨FdAll.mono e ds h.1, T.mono e h.2⟩⟩
def Tm.ex (T : Tm) (F0 : Hp) : Tm := ⟨fun F => Ex F0 F ∧ T.P F, fun e h => ⟨h.1.tr e, T.mono e h.2⟩⟩
abbrev Gm := List (Option D)
def nth : Gm → Nat → Option D
  | [], _ => none
  | d :: _, 0 => d
  | _ :: r, i + 1 => nth r i
inductive Sl (K : PySem.W.Frag) (F : Hp) : Gm → St → Prop
  | nil : Sl K F [] []
  | any {o : Option V} {g : Gm} {σ : St} : Sl K F g σ → Sl K F (none :: g) (o :: σ)
  | cons {v : V} {d : D} {g : Gm} {σ : St} : Fd K F v d → Sl K F g σ → Sl K F (some d :: g) (some v :: σ)
section
variable {K : PySem.W.Frag} {F F' : Hp}
theorem Sl.mono (e : Ex F F') : ∀ {g : Gm} {σ : St}, Sl K F g σ → Sl K F' g σ
  | _, _, .nil => .nil
  | _, _, .any h => .any (Sl.mono e h)
  | _, _, .cons a h => .cons (Fd.mono e _ a) (Sl.mono e h)
theorem Sl.nth : ∀ {g : Gm} {σ : St} {i : Nat} {d : D}, Sl K F g σ → Sx.nth g i = some d → ∃ v, σ[i]? = some (some v) ∧ Fd K F v d
  | _, _, _, _, .nil, e => by cases e
  | _, _, 0, _, .any _, e => by cases e
  | _, _, i + 1, d, .any h, e => by
    obtain ⟨v, h1, h2⟩ := Sl.nth (i := i) (d := d) h e
    exact ⟨v, by simpa using h1, h2⟩
  | _, _, 0, _, .cons a _, e => by cases e; exact ⟨_, rfl, a⟩
  | _, _, i + 1, d, .cons _ h, e => by
    obtain ⟨v, h1, h2⟩ := Sl.nth (i := i) (d := d) h e
    exact ⟨v, by simpa using h1, h2⟩
theorem Sl.set : ∀ {g : Gm} {σ : St} (i : Nat) {v : V} {d : D}, Sl K F g σ → Fd K F v d → Sl K F (g.set i (some d)) (σ.set i (some v))
  | _, _, _, _, _, .nil, _ => .nil
  | _, _, 0, _, _, .any h, k => .cons k h
  | _, _, i + 1, _, _, .any h, k => .any (Sl.set i h k)
  | _, _, 0, _, _, .cons _ h, k => .cons k h
  | _, _, i + 1, _, _, .cons a h, k => .cons a (Sl.set i h k)
theorem Sl.clear : ∀ {g : Gm} {σ : St} (i : Nat) {o : Option V}, Sl K F g σ → Sl K F (g.set i none) (σ.set i o)
  | _, _, _, _, .nil => .nil
  | _, _, 0, _, .any h => .any h
  | _, _, i + 1, _, .any h => .any (Sl.clear i h)
  | _, _, 0, _, .cons _ h => .any h
  | _, _, i + 1, _, .cons a h => .cons a (Sl.clear i h)
/-- forgetting -/
inductive Wk : Gm → Gm → Prop
  | nil : Wk [] []
  | any {o : Option D} {g g' : Gm} : Wk g g' → Wk (o :: g) (none :: g')
  | keep {o : Option D} {g g' : Gm} : Wk g g' → Wk (o :: g) (o :: g')
theorem Wk.rf : ∀ {g : Gm}, Wk g g
  | [] => .nil
  | _ :: _ => .keep Wk.rf
theorem Sl.weak : ∀ {g g' : Gm} {σ : St}, Wk g g' → Sl K F g σ → Sl K F g' σ
  | _, _, _, .nil, h => h
  | _, _, _, .any w, .any h => .any (Sl.weak w h)
  | _, _, _, .any w, .cons _ h => .any (Sl.weak w h)
  | _, _, _, .keep w, .any h => .any (Sl.weak w h)
  | _, _, _, .keep w, .cons a h => .cons a (Sl.weak w h)
theorem Sl.len : ∀ {g : Gm} {σ : St}, Sl K F g σ → g.length = σ.length
  | _, _, .nil => rfl
  | _, _, .any h => by rw [List.length_cons, List.length_cons, Sl.len h]
  | _, _, .cons _ h => by rw [List.length_cons, List.length_cons, Sl.len h]
theorem Sl.nones : ∀ n, Sl K F (List.replicate n none) (List.replicate n none)
  | 0 => .nil
  | n + 1 => .any (Sl.nones n)
theorem Sl.args : ∀ {vs : List V} {ds : List D} (n : Nat), FdAll K F vs ds → Sl K F (ds.map some ++ List.replicate n none) (vs.map some ++ List.replicate n none)
  | _, _, n, .nil => Sl.nones n
  | _, _, n, .cons a h => .cons a (Sl.args n h)
end
/-- a def's entry: what was frozen, what was owned, the heap -/
structure En where
  F : Hp
  M : Hp
  H : Hp
structure At (K : PySem.W.Frag) (e : En) (g : Gm) (T : Tm) (l : List Res) (σ : St) (H F M : Hp) : Prop where
  exF : Ex F H
  exM : Ex M H
  dj : Dj F M
  eF : Ex e.F F
  nF : ∀ a o, F a = some o → e.F a = some o ∨ e.H a = none ∨ ∃ u, e.M a = some u
  nM : ∀ a o, M a = some o → e.H a = none ∨ ∃ u, e.M a = some u
  fr : ∀ a o, e.H a = some o → e.M a = none → H a = some o
  sl : Sl K F g σ
  tm : T.P F
  rs : Rs l F M
def S (K : PySem.W.Frag) (e : En) (g : Gm) (T : Tm) (l : List Res) (σ : St) (H : Hp) : Prop := ∃ F M, At K e g T l σ H F M
/-- something new is frozen -/
structure New (F H F' H' : Hp) : Prop where
  f : Ex F F'
  h : Ex H H'
  i : Ex F' H'
  n : ∀ a o, F' a = some o → F a = some o ∨ H a = none
theorem New.rf {F H : Hp} (e : Ex F H) : New F H F H := ⟨.rf, .rf, e, fun _ _ h => .inl h⟩
theorem New.tr {F H F1 H1 F2 H2 : Hp} (a : New F H F1 H1) (b : New F1 H1 F2 H2) : New F H F2 H2 :=
  ⟨a.f.tr b.f, a.h.tr b.h, b.i, fun x o h => by
    rcases b.n x o h with q | q
    · exact a.n x o q
    · exact .inr (a.h.free q)⟩
theorem New.upd {F H : Hp} {p : Addr} {o : HO} (e : Ex F H) (h : H p = none) : New F H (upd F p o) (L2.upd H p o) :=
  ⟨.new (e.free h), .new h, e.upd2, fun a u q => by
    by_cases z : a = p
    · subst z; exact .inr h
    · rw [upd_ne z] at q; exact .inl q⟩
/-- the heap grows without being frozen -/
theorem New.grow {F H H' : Hp} (e : Ex F H) (h : Ex H H') : New F H F H' := ⟨.rf, h, e.tr h, fun _ _ q => .inl q⟩
section
variable {K : PySem.W.Frag} {e : En} {g g' : Gm} {T T' : Tm} {l l' : List Res} {σ σ' : St} {H H' F F' M M' : Hp}
theorem At.new (a : At K e g T l σ H F M) (n : New F H F' H') : At K e g T l σ H' F' M :=
  ⟨n.i, a.exM.tr n.h, fun x o h => by
    rcases n.n x o h with q | q
    · exact a.dj x o q
    · exact a.exM.free q,
   a.eF.tr n.f, fun x o h => by
    rcases n.n x o h with q | q
    · exact a.nF x o q
    · by_cases z : e.M x = none
      · right; left
        cases w : e.H x with
        | none => rfl
        | some u => rw [a.fr x u w z] at q; cases q
      · right; right
        cases w : e.M x with
        | none => exact absurd w z
        | some u => exact ⟨u, rfl⟩,
   a.nM, fun x o h1 h2 => n.h x o (a.fr x o h1 h2), a.sl.mono n.f, T.mono n.f a.tm, a.rs.mono n.f⟩
theorem At.tmp (a : At K e g T l σ H F M) (h : T'.P F) : At K e g T' l σ H F M := ⟨a.exF, a.exM, a.dj, a.eF, a.nF, a.nM, a.fr, a.sl, h, a.rs⟩
theorem At.slots (a : At K e g T l σ H F M) (h : Sl K F g' σ') : At K e g' T l σ' H F M := ⟨a.exF, a.exM, a.dj, a.eF, a.nF, a.nM, a.fr, h, a.tm, a.rs⟩
theorem At.entry (ef : Ex F H) (em : Ex M H) (d : Dj F M) (s : Sl K F g σ) (t : T.P F) (r : Rs l F M) : At K ⟨F, M, H⟩ g T l σ H F M :=
  ⟨ef, em, d, .rf, fun _ _ h => .inl h, fun _ o h => .inr ⟨o, h⟩, fun _ _ h _ => h, s, t, r⟩
/-- a part of the state apart: what runs on F, A (of M = join A B) gives back the whole -/
theorem At.frame {A B : Hp} {lA lB : List Res} (a : At K e g T l σ H F (join A B)) (d : Dj A B) (rB : Rs lB F B) {g2 : Gm} {σ2 : St} {T2 : Tm} {F2 M2 : Hp} (b : At K ⟨F, A, H⟩ g2 T2 lA σ2 H' F2 M2) :
    At K e g T (lA ++ lB) σ H' F2 (join M2 B) := by
  have eB : Ex B H' := fun x o h => b.fr x o (a.exM x o (by rw [join_r (d.sym x o h)]; exact h)) (d.sym x o h)
  have dB : Dj M2 B := fun x o h => by
    cases q : B x with
    | none => rfl
    | some u =>
      rcases b.nM x o h with z | ⟨w, z⟩
      · have := a.exM x u (by rw [join_r (d.sym x u q)]; exact q)
        rw [show H x = none from z] at this; cases this
      · rw [d x w z] at q; cases q
  refine ⟨b.exF, b.exM.join eB, ?_, a.eF.tr b.eF, ?_, ?_, ?_, a.sl.mono b.eF, T.mono b.eF a.tm, Rs.app b.rs (rB.mono b.eF) dB⟩
  · intro x o h
    cases q : join M2 B x with
    | none => rfl
    | some u =>
      rcases join_some q with z | ⟨_, z⟩
      · rw [b.dj x o h] at z; cases z
      · rcases b.nF x o h with w | w | ⟨w, y⟩
        · have := a.dj x o w
          rw [join_r (d.sym x u z), z] at this; cases this
        · have := a.exM x u (by rw [join_r (d.sym x u z)]; exact z)
          rw [show H x = none from w] at this; cases this
        · rw [d x w y] at z; cases z
  · intro x o h
    rcases b.nF x o h with w | w | ⟨w, y⟩
    · exact a.nF x o w
    · cases q : e.H x with
      | none => exact .inr (.inl rfl)
      | some u =>
        cases z : e.M x with
        | some y => exact .inr (.inr ⟨y, rfl⟩)
        | none =>
          have w' : H x = none := w
          rw [a.fr x u q z] at w'; cases w'
    · rcases a.nM x w (join_l y) with q | q
      · exact .inr (.inl q)
      · exact .inr (.inr q)
  · intro x o h
    rcases join_some h with z | ⟨_, z⟩
    · rcases b.nM x o z with w | ⟨w, y⟩
      · cases q : e.H x with
        | none => exact .inl rfl
        | some u =>
          cases k : e.M x with
          | some y => exact .inr ⟨y, rfl⟩
          | none =>
            have w' : H x = none := w
            rw [a.fr x u q k] at w'; cases w'
      · exact a.nM x w (join_l y)
    · exact a.nM x o (by rw [join_r (d.sym x o z)]; exact z)
  · intro x o h1 h2
    refine b.fr x o (a.fr x o h1 h2) ?_
    show A x = none
    cases q : A x with
    | none => rfl
    | some u =>
      rcases a.nM x u (join_l q) with z | ⟨w, z⟩
      · rw [h1] at z; cases z
      · rw [h2] at z; cases z
theorem S.weak (s : S K e g T l σ H) (w : Wk g g') : S K e g' T l σ H := let ⟨F, M, a⟩ := s; ⟨F, M, a.slots (a.sl.weak w)⟩
end
end Sx
set_option Elab.async false
set_option linter.all false
set_option maxRecDepth 100000
set_option maxHeartbeats 2000000
/-! Judgements: expressions, tests, arguments, blocks over states. -/
namespace Sx
open PySem L2

/-! ### the weakest readings -/
def wpE (X : Cx) (e : Expr) : TE := fun σ H Q => ∀ pins s, Inv X pins σ H s → wpAny (model X.prog X.w) X.A (eval e X.env) (EP X pins σ Q) X.xe s
def wpT (X : Cx) (e : Expr) : TT := fun σ H Q => ∀ pins s, Inv X pins σ H s → wpAny (model X.prog X.w) X.A (isTrue e X.env (eval e X.env)) (TP X pins σ Q) X.xe s
def wpW (X : Cx) (e : Expr) : TT := fun σ H Q => ∀ whole pins s, Inv X pins σ H s → wpAny (model X.prog X.w) X.A (isTrue e X.env whole) (TP X pins σ Q) X.xe s
def wpA (X : Cx) (es : List Expr) : TA := fun σ H Q => ∀ pos pins s, Inv X pins σ H s → wpAny (model X.prog X.w) X.A (spliced (backTo pos (starEach es X.env))) (AP X pins σ Q) X.xe s
def wpS (X : Cx) (sts : List Stmt) : TS := fun D σ H => ∀ pins s, Inv X pins σ H s → wpAny (model X.prog X.w) X.A (execs sts X.env) (SP X pins D) X.xe s
section
variable {X : Cx} {σ : L2.St} {H : Hp}
theorem pe_wp {e : Expr} : PE X e (wpE X e) := ⟨fun pins s _ _ _ I h => h pins s I⟩
theorem pt_wp {e : Expr} : PT X e (wpT X e) := ⟨fun pins s _ _ _ I h => h pins s I⟩
theorem pw_wp {e : Expr} : PW X e (wpW X e) := ⟨fun whole pins s _ _ _ I h => h whole pins s I⟩
theorem pa_wp {es : List Expr} : PA X es (wpA X es) := ⟨fun pos pins s _ _ _ I h => h pos pins s I⟩
theorem pss_wp {sts : List Stmt} : PSs X sts (wpS X sts) := ⟨fun pins s _ _ _ I h => h pins s I⟩
theorem wpE_of {e : Expr} {t : TE} {Q : VK} (h : PE X e t) (q : t σ H Q) : wpE X e σ H Q := fun pins s I => h.run pins s σ H Q I q
theorem wpT_of {e : Expr} {t : TT} {Q : Bool → Hp → Prop} (h : PT X e t) (q : t σ H Q) : wpT X e σ H Q := fun pins s I => h.run pins s σ H Q I q
theorem wpW_of {e : Expr} {t : TT} {Q : Bool → Hp → Prop} (h : PW X e t) (q : t σ H Q) : wpW X e σ H Q := fun whole pins s I => h.run whole pins s σ H Q I q
theorem wpA_of {es : List Expr} {t : TA} {Q : List V → Hp → Prop} (h : PA X es t) (q : t σ H Q) : wpA X es σ H Q := fun pos pins s I => h.run pos pins s σ H Q I q
theorem wpS_of {sts : List Stmt} {t : TS} {D : Ends} (h : PSs X sts t) (q : t D σ H) : wpS X sts D σ H := fun pins s I => h.run pins s σ H D I q
end

/-! ### judgements -/
/-- e evaluates to the datum d, changing nothing that is owned -/
def Px (X : Cx) (e : Expr) (g : Gm) (l : List Res) (d : D) : Prop := ∀ en T σ H (Q : VK), S X.K en g T l σ H → (∀ v H', S X.K en g (T.and X.K v d) l σ H' → Q v H') → wpE X e σ H Q
/-- e evaluates to one of the data that Psi tells, with what is owned then -/
def Ev (X : Cx) (e : Expr) (g : Gm) (l : List Res) (Psi : D → List Res → Prop) : Prop := ∀ en T σ H (Q : VK), S X.K en g T l σ H → (∀ v d l' H', Psi d l' → S X.K en g (T.and X.K v d) l' σ H' → Q v H') → wpE X e σ H Q
def Pa (X : Cx) (es : List Expr) (g : Gm) (l : List Res) (ds : List D) : Prop := ∀ en T σ H (Q : List V → Hp → Prop), S X.K en g T l σ H → (∀ vs H', S X.K en g (T.ands X.K vs ds) l σ H' → Q vs H') → wpA X es σ H Q
def Ts (X : Cx) (e : Expr) (g : Gm) (l : List Res) (b : Bool) : Prop := ∀ en T σ H (Q : Bool → Hp → Prop), S X.K en g T l σ H → (∀ H', S X.K en g T l σ H' → Q b H') → wpT X e σ H Q
def Tw (X : Cx) (e : Expr) (g : Gm) (l : List Res) (b : Bool) : Prop := ∀ en T σ H (Q : Bool → Hp → Prop), S X.K en g T l σ H → (∀ H', S X.K en g T l σ H' → Q b H') → wpW X e σ H Q
/-- operations on values -/
def Op1 (K : PySem.W.Frag) (l : List Res) (r : V → Hp → VK → Prop) (a d : D) : Prop := ∀ F M H v (Q : VK), Ex F H → Ex M H → Dj F M → Rs l F M → Fd K F v a → (∀ v F' H', New F H F' H' → Fd K F' v d → Q v H') → r v H Q
def Op2 (K : PySem.W.Frag) (l : List Res) (r : R2) (a b d : D) : Prop := ∀ F M H v u (Q : VK), Ex F H → Ex M H → Dj F M → Rs l F M → Fd K F v a → Fd K F u b → (∀ v F' H', New F H F' H' → Fd K F' v d → Q v H') → r v u H Q
def OpN (K : PySem.W.Frag) (l : List Res) (r : List V → Hp → VK → Prop) (as : List D) (d : D) : Prop := ∀ F M H vs (Q : VK), Ex F H → Ex M H → Dj F M → Rs l F M → FdAll K F vs as → (∀ v F' H', New F H F' H' → Fd K F' v d → Q v H') → r vs H Q
def OpM (K : PySem.W.Frag) (l : List Res) (r : V → List V → Hp → VK → Prop) (a : D) (as : List D) (d : D) : Prop := ∀ F M H v vs (Q : VK), Ex F H → Ex M H → Dj F M → Rs l F M → Fd K F v a → FdAll K F vs as → (∀ v F' H', New F H F' H' → Fd K F' v d → Q v H') → r v vs H Q

/-- what is wanted behind a block -/
structure Po where
  nx : Gm → List Res → Prop
  rt : D → List Res → Prop
  bk : Gm → List Res → Prop := fun _ _ => False
  ct : Gm → List Res → Prop := fun _ _ => False
  ex : Value → Option Addr → Gm → List Res → Prop := fun _ _ _ _ => False
structure Mt (K : PySem.W.Frag) (W : L2.WX) (en : En) (T : Tm) (Φ : Po) (D : Ends) : Prop where
  nx : ∀ g l σ H, Φ.nx g l → S K en g T l σ H → D.nx σ H
  rt : ∀ d l v H, Φ.rt d l → S K en [] (T.and K v d) l [] H → D.rt v H
  bk : ∀ g l σ H, Φ.bk g l → S K en g T l σ H → D.bk σ H
  ct : ∀ g l σ H, Φ.ct g l → S K en g T l σ H → D.ct σ H
  ex : ∀ cls d g l σ H, Φ.ex cls d g l → S K en g T l σ H → W cls d σ H
def Blk (X : Cx) (W : WX) (sts : List Stmt) (g : Gm) (l : List Res) (Φ : Po) : Prop := ∀ en T σ H D, S X.K en g T l σ H → Mt X.K W en T Φ D → wpS X sts D σ H

section
variable {X : Cx} {W : WX} {g g' : Gm} {l l' : List Res} {Φ : Po} {e e2 a b c o : Expr} {es : List Expr} {d d1 d2 d3 : D} {pos p : Pos}

theorem Tm.and_of {K : PySem.W.Frag} {T : Tm} {v : V} {d : D} {F : Hp} (h : (T.and K v d).P F) : Fd K F v d ∧ T.P F := h
theorem S.drop {K : PySem.W.Frag} {en : En} {T : Tm} {σ : L2.St} {H : Hp} {v : V} {d : D} (s : S K en g (T.and K v d) l σ H) : S K en g T l σ H := let ⟨F, M, a⟩ := s; ⟨F, M, a.tmp a.tm.2⟩
theorem S.slotless {K : PySem.W.Frag} {en : En} {T : Tm} {σ : L2.St} {H : Hp} (s : S K en g T l σ H) : S K en [] T l [] H := let ⟨F, M, a⟩ := s; ⟨F, M, a.slots .nil⟩

/-! ### expressions -/
theorem px_var {i : Nat} (h : PE X e (tVar i)) (hd : nth g i = some d) : Px X e g l d := fun en T σ H Q s k => wpE_of h (by
  obtain ⟨F, M, a⟩ := s
  obtain ⟨v, h1, h2⟩ := a.sl.nth hd
  exact ⟨v, h1, k v H ⟨F, M, a.tmp ⟨h2, a.tm⟩⟩⟩)
theorem px_c {v : V} (h : PE X e (tC v)) (hd : ∀ F, Fd X.K F v d) : Px X e g l d := fun en T σ H Q s k => wpE_of h (by
  obtain ⟨F, M, a⟩ := s
  exact k v H ⟨F, M, a.tmp ⟨hd F, a.tm⟩⟩)
theorem px_int {i : Int} {j} : Px X (.Constant (.int i) j pos) g l (.int i) := px_c pe_int fun _ => .int _
theorem px_bl {b : Bool} {j} : Px X (.Constant (.bool b) j pos) g l (.bl b) := px_c pe_bl fun _ => .bl _
theorem px_non {j} : Px X (.Constant .none j pos) g l .non := px_c pe_non fun _ => .non
theorem px_str {x : Str} {j} : Px X (.Constant (.str x) j pos) g l (.str x) := px_c pe_str fun _ => .str _
theorem Px.to (h : Px X e g l d) (q : d = d1) : Px X e g l d1 := q ▸ h
theorem Px.ev (h : Px X e g l d) : Ev X e g l (fun d' l' => d' = d ∧ l' = l) := fun en T σ H Q s k => h en T σ H Q s fun v H' s' => k v d l H' ⟨rfl, rfl⟩ s'
theorem Ev.imp {Psi Chi : D → List Res → Prop} (h : Ev X e g l Psi) (i : ∀ d l', Psi d l' → Chi d l') : Ev X e g l Chi := fun en T σ H Q s k => h en T σ H Q s fun v d l' H' p s' => k v d l' H' (i _ _ p) s'
theorem Ev.px (h : Ev X e g l (fun d' l' => d' = d ∧ l' = l)) : Px X e g l d := fun en T σ H Q s k => h en T σ H Q s fun v d' l' H' p s' => k v H' (by obtain ⟨rfl, rfl⟩ := p; exact s')
theorem px_1 {r : V → Hp → VK → Prop} (he : PE X e2 (tUn r (wpE X a))) (hr : Op1 X.K l r d1 d) (ha : Px X a g l d1) : Px X e2 g l d := fun en T σ H Q s k => wpE_of he (by
  refine ha en T σ H _ s fun v H1 s1 => ?_
  obtain ⟨F, M, q⟩ := s1
  exact hr F M H1 v Q q.exF q.exM q.dj q.rs q.tm.1 fun u F' H' n f => k u H' ⟨F', M, (q.new n).tmp ⟨f, T.mono n.f q.tm.2⟩⟩)
theorem px_2 {r : R2} (he : PE X e2 (tOp r (wpE X a) (wpE X b))) (hr : Op2 X.K l r d1 d2 d) (ha : Px X a g l d1) (hb : Px X b g l d2) : Px X e2 g l d := fun en T σ H Q s k => wpE_of he (by
  refine ha en T σ H _ s fun v H1 s1 => ?_
  refine hb en _ σ H1 _ s1 fun u H2 s2 => ?_
  obtain ⟨F, M, q⟩ := s2
  exact hr F M H2 v u Q q.exF q.exM q.dj q.rs q.tm.2.1 q.tm.1 fun w F' H' n f => k w H' ⟨F', M, (q.new n).tmp ⟨f, T.mono n.f q.tm.2.2⟩⟩)
theorem px_op {op : Operator} {r : R2} (ho : OpR X (binaryOp op) r) (ha : Px X a g l d1) (hb : Px X b g l d2) (hr : Op2 X.K l r d1 d2 d) : Px X (.BinOp a op b pos) g l d := px_2 (pe_op ho pe_wp pe_wp) hr ha hb
theorem px_un {op : UnaryOp} {r : V → Hp → VK → Prop} (ho : UnR X (unaryOp op) r) (ha : Px X a g l d1) (hr : Op1 X.K l r d1 d) : Px X (.UnaryOp op a pos) g l d := px_1 (pe_un ho pe_wp) hr ha
theorem px_cmp {op : CmpOp} {r : R2} (ho : OpR X (compareOp op) r) (ha : Px X a g l d1) (hb : Px X b g l d2) (hr : Op2 X.K l r d1 d2 d) (hm : behindInMarks op b = false := by first | exact nomark _ | rfl) : Px X (.Compare a [op] [b] pos) g l d := px_2 (pe_cmpR ho pe_wp pe_wp hm) hr ha hb
theorem px_ix {r : R2} (hi : IxR X r) (ha : Px X a g l d1) (hb : Px X b g l d2) (hr : Op2 X.K l r d1 d2 d) (hs : PlainIx b := by intro _ _; rfl) : Px X (.Subscript a b pos) g l d := px_2 (pe_ix hi pe_wp pe_wp hs) hr ha hb
theorem px_chain {op op' : CmpOp} {r r' : R2} {k k' : Bool} (ho : OpR X (compareOp op) r) (ho' : OpR X (compareOp op') r') (ha : Px X a g l d1) (hb : Px X b g l d2) (hr : Op2 X.K l r d1 d2 (.bl k)) (hc : Px X c g l d3) (hr' : k = true → Op2 X.K l r' d2 d3 (.bl k'))
    (hm : lastMarks [op, op'] [b, c] = false := by with_unfolding_all rfl) : Px X (.Compare a [op, op'] [b, c] pos) g l (.bl (k && k')) := fun en T σ H Q s kk => wpE_of (pe_chain ho ho' pe_wp pe_wp pe_wp hm) (by
  refine ha en T σ H _ s fun v H1 s1 => ?_
  refine hb en _ σ H1 _ s1 fun u H2 s2 => ?_
  obtain ⟨F, M, q⟩ := s2
  refine hr F M H2 v u _ q.exF q.exM q.dj q.rs q.tm.2.1 q.tm.1 fun w F' H' n f => ?_
  cases f
  refine ⟨k, rfl, ?_⟩
  have q' := q.new n
  cases k with
  | false => exact kk _ H' ⟨F', M, q'.tmp ⟨.bl _, T.mono n.f q.tm.2.2⟩⟩
  | true =>
    show wpE X c σ H' _
    refine hc en _ σ H' _ ⟨F', M, q'⟩ fun w H3 s3 => ?_
    obtain ⟨F3, M3, q3⟩ := s3
    exact hr' rfl F3 M3 H3 u w Q q3.exF q3.exM q3.dj q3.rs q3.tm.2.1 q3.tm.1 fun w F' H' n f => kk w H' ⟨F', M3, (q3.new n).tmp ⟨f, T.mono n.f q3.tm.2.2.2⟩⟩)
/-- a new list, frozen; a new tuple -/
theorem px_lst {ds : List D} (h : Pa X es g l ds) (hz : ds.length ≤ sizeLine := by first | decide | exact Nat.le_of_ble_eq_true rfl) : Px X (.List es pos) g l (.lst ds) := fun en T σ H Q s k => wpE_of (pe_lst pa_wp) (by
  refine h en T σ H _ s fun vs H1 s1 => ?_
  obtain ⟨F, M, q⟩ := s1
  refine ⟨by rw [q.tm.1.length]; exact hz, fun p hp => ?_⟩
  have n := New.upd (o := .lst vs) q.exF hp
  exact k _ _ ⟨_, M, (q.new n).tmp ⟨.lst (SqL.of upd_same) (FdAll.mono n.f _ q.tm.1), T.mono n.f q.tm.2⟩⟩)
theorem px_tup {ds : List D} {x1} (h : Pa X es g l ds) (hz : ds.length ≤ sizeLine := by first | decide | exact Nat.le_of_ble_eq_true rfl) : Px X (.Tuple es x1 pos) g l (.tup ds) := fun en T σ H Q s k => wpE_of (pe_tup pa_wp) (by
  refine h en T σ H _ s fun vs H1 s1 => ?_
  obtain ⟨F, M, q⟩ := s1
  refine ⟨by rw [q.tm.1.length]; exact hz, fun p hp => ?_⟩
  have n := New.upd (o := .tup vs) q.exF hp
  exact k _ _ ⟨_, M, (q.new n).tmp ⟨.tup (SqT.of upd_same) (FdAll.mono n.f _ q.tm.1), T.mono n.f q.tm.2⟩⟩)
theorem pa_n : Pa X [] g l [] := fun en T σ H Q s k => wpA_of pa_nil (by
  obtain ⟨F, M, a⟩ := s
  exact k [] H ⟨F, M, a.tmp ⟨.nil, a.tm⟩⟩)
theorem pa_c {ds : List D} (he : Px X e g l d) (h : Pa X es g l ds) (hs : starEach (e :: es) X.env = (false, eval e X.env) :: starEach es X.env := by rfl) : Pa X (e :: es) g l (d :: ds) := fun en T σ H Q s k => wpA_of (pa_cons pe_wp pa_wp hs) (by
  refine he en T σ H _ s fun v H1 s1 => ?_
  refine h en _ σ H1 _ s1 fun vs H2 s2 => ?_
  obtain ⟨F, M, a⟩ := s2
  exact k _ H2 ⟨F, M, a.tmp ⟨.cons a.tm.2.1 a.tm.1, a.tm.2.2⟩⟩)
/-- e if c else e' -/
theorem px_if {k : Bool} (hc : Ts X c g l k) (ha : k = true → Px X a g l d1) (hb : k = false → Px X b g l d2) : Px X (.IfExp c a b pos) g l (if k = true then d1 else d2) := fun en T σ H Q s kk => wpE_of (pe_ifExp pt_wp pe_wp pe_wp) (by
  refine hc en T σ H _ s fun H1 s1 => ?_
  cases k with
  | true => exact ha rfl en T σ H1 Q s1 kk
  | false => exact hb rfl en T σ H1 Q s1 kk)
theorem px_and {rest : List Expr} {k k' : Bool} (ha : Px X a g l (.bl k)) (hb : k = true → Px X (.BoolOp .And (b :: rest) pos) g l (.bl k')) : Px X (.BoolOp .And (a :: b :: rest) pos) g l (.bl (k && k')) := fun en T σ H Q s kk => wpE_of (pe_and pe_wp pe_wp) (by
  refine ha en T σ H _ s fun v H1 s1 => ?_
  obtain ⟨F, M, q⟩ := s1
  have f := q.tm.1
  cases f
  refine ⟨k, rfl, ?_⟩
  cases k with
  | true => exact hb rfl en T σ H1 Q ⟨F, M, q.tmp q.tm.2⟩ kk
  | false => exact kk _ H1 ⟨F, M, q⟩)
theorem px_or {rest : List Expr} {k k' : Bool} (ha : Px X a g l (.bl k)) (hb : k = false → Px X (.BoolOp .Or (b :: rest) pos) g l (.bl k')) : Px X (.BoolOp .Or (a :: b :: rest) pos) g l (.bl (k || k')) := fun en T σ H Q s kk => wpE_of (pe_or pe_wp pe_wp) (by
  refine ha en T σ H _ s fun v H1 s1 => ?_
  obtain ⟨F, M, q⟩ := s1
  have f := q.tm.1
  cases f
  refine ⟨k, rfl, ?_⟩
  cases k with
  | false => exact hb rfl en T σ H1 Q ⟨F, M, q.tmp q.tm.2⟩ kk
  | true => exact kk _ H1 ⟨F, M, q⟩)
theorem px_one {op} (h : Px X a g l d) : Px X (.BoolOp op [a] pos) g l d := fun en T σ H Q s k => wpE_of (pe_one pe_wp) (h en T σ H Q s k)
theorem px_not {k : Bool} (h : Px X a g l (.bl k)) : Px X (.UnaryOp .Not a pos) g l (.bl (!k)) := fun en T σ H Q s kk => wpE_of (pe_not pe_wp) (by
  refine h en T σ H _ s fun v H1 s1 => ?_
  obtain ⟨F, M, q⟩ := s1
  have f := q.tm.1
  cases f
  exact ⟨k, rfl, kk _ H1 ⟨F, M, q.tmp ⟨.bl _, q.tm.2⟩⟩⟩)
/-- an attribute of a frozen instance -/
theorem px_fld {C : Addr} {fs : List (Str × D)} {f : Str} (ho : Px X o g l (.ins C fs)) (hc : Cls X.K C) (hn : NoAttr X.K C f) (hl : fs.lookup f = some d) (hb : attributeBase o f X.env (eval o X.env) = eval o X.env := by rfl) : Px X (.Attribute o f pos) g l d := fun en T σ H Q s k => wpE_of (pe_fld pe_wp hb) (by
  refine ho en T σ H _ s fun v H1 s1 => ?_
  obtain ⟨F, M, q⟩ := s1
  obtain ⟨hf, ht⟩ := q.tm
  cases hf with
  | ins h1 h2 =>
    obtain ⟨v, e1, e2⟩ := h2.look hl
    exact ⟨_, C, _, _, v, rfl, q.exF _ _ h1, hc, hn, e1, k v H1 ⟨F, M, q.tmp ⟨e2, ht⟩⟩⟩)
/-! ### calls of what is built in -/
theorem px_b {r : List V → Hp → VK → Prop} {ds : List D} (he : PE X e2 (tCB r (wpA X es))) (hr : OpN X.K l r ds d) (ha : Pa X es g l ds) : Px X e2 g l d := fun en T σ H Q s k => wpE_of he (by
  refine ha en T σ H _ s fun vs H1 s1 => ?_
  obtain ⟨F, M, q⟩ := s1
  exact hr F M H1 vs Q q.exF q.exM q.dj q.rs q.tm.1 fun u F' H' n f => k u H' ⟨F', M, (q.new n).tmp ⟨f, T.mono n.f q.tm.2⟩⟩)
theorem px_m {r : V → List V → Hp → VK → Prop} {Tn : String} {ds : List D} (he : PE X e2 (tBM X.K Tn r (wpE X o) (wpA X es))) (ho : Px X o g l d1) (ha : Pa X es g l ds) (hr : OpM X.K l r d1 ds d)
    (ht : ∀ F M H v, Ex F H → Ex M H → Dj F M → Rs l F M → Fd X.K F v d1 → tyV X.K Tn v H) : Px X e2 g l d := fun en T σ H Q s k => wpE_of he (by
  refine ho en T σ H _ s fun v H1 s1 => ?_
  have s1' := s1
  obtain ⟨F, M, q⟩ := s1
  refine ⟨ht F M H1 v q.exF q.exM q.dj q.rs q.tm.1, ?_⟩
  refine ha en _ σ H1 _ s1' fun vs H2 s2 => ?_
  obtain ⟨F, M, q⟩ := s2
  exact hr F M H2 v vs Q q.exF q.exM q.dj q.rs q.tm.2.1 q.tm.1 fun u F' H' n f => k u H' ⟨F', M, (q.new n).tmp ⟨f, T.mono n.f q.tm.2.2⟩⟩)
/-! ### tests -/
theorem ts_val {k : Bool} (h : Px X e g l (.bl k)) (he : ∀ whole, isTrue e X.env whole = (do let v ← whole; standAt e.pos; holding [v] (truthy v)) := by intro _; rfl) : Ts X e g l k := fun en T σ H Q s kk => wpT_of (pt_val pe_wp he) (by
  refine h en T σ H _ s fun v H1 s1 => ?_
  obtain ⟨F, M, q⟩ := s1
  have f := q.tm.1
  cases f
  exact ⟨k, rfl, kk H1 ⟨F, M, q.tmp q.tm.2⟩⟩)
theorem ts_cmp {op : CmpOp} {r : R2} {k : Bool} (ho : OpR X (compareOp op) r) (ha : Px X a g l d1) (hb : Px X b g l d2) (hr : Op2 X.K l r d1 d2 (.bl k)) (hm : behindInMarks op b = false := by first | exact nomark _ | rfl) : Ts X (.Compare a [op] [b] pos) g l k := fun en T σ H Q s kk => wpT_of (pt_cmpR ho pe_wp pe_wp hm) (by
  refine ha en T σ H _ s fun v H1 s1 => ?_
  refine hb en _ σ H1 _ s1 fun u H2 s2 => ?_
  obtain ⟨F, M, q⟩ := s2
  refine hr F M H2 v u _ q.exF q.exM q.dj q.rs q.tm.2.1 q.tm.1 fun w F' H' n f => ?_
  cases f
  exact ⟨k, rfl, kk H' ⟨F', M, (q.new n).tmp (T.mono n.f q.tm.2.2)⟩⟩)
theorem ts_chain {op op' : CmpOp} {r r' : R2} {k k' : Bool} (ho : OpR X (compareOp op) r) (ho' : OpR X (compareOp op') r') (ha : Px X a g l d1) (hb : Px X b g l d2) (hr : Op2 X.K l r d1 d2 (.bl k)) (hc : Px X c g l d3) (hr' : k = true → Op2 X.K l r' d2 d3 (.bl k'))
    (hm : lastMarks [op, op'] [b, c] = false := by with_unfolding_all rfl) : Ts X (.Compare a [op, op'] [b, c] pos) g l (k && k') := fun en T σ H Q s kk => wpT_of (pt_chain ho ho' pe_wp pe_wp pe_wp hm) (by
  refine ha en T σ H _ s fun v H1 s1 => ?_
  refine hb en _ σ H1 _ s1 fun u H2 s2 => ?_
  obtain ⟨F, M, q⟩ := s2
  refine hr F M H2 v u _ q.exF q.exM q.dj q.rs q.tm.2.1 q.tm.1 fun w F' H' n f => ?_
  cases f
  refine ⟨k, rfl, ?_⟩
  have q' := q.new n
  cases k with
  | false => exact ⟨false, rfl, kk H' ⟨F', M, q'.tmp (T.mono n.f q.tm.2.2)⟩⟩
  | true =>
    show wpE X c σ H' _
    refine hc en _ σ H' _ ⟨F', M, q'⟩ fun w H3 s3 => ?_
    obtain ⟨F3, M3, q3⟩ := s3
    refine hr' rfl F3 M3 H3 u w _ q3.exF q3.exM q3.dj q3.rs q3.tm.2.1 q3.tm.1 fun w F' H' n f => ?_
    cases f
    exact ⟨k', rfl, kk H' ⟨F', M3, (q3.new n).tmp (T.mono n.f q3.tm.2.2.2)⟩⟩)
theorem ts_not {k : Bool} (h : Ts X a g l k) : Ts X (.UnaryOp .Not a pos) g l (!k) := fun en T σ H Q s kk => wpT_of (pt_not pt_wp) (h en T σ H _ s kk)
theorem tw_and1 {k : Bool} (h : Ts X a g l k) : Tw X (.BoolOp .And [a] pos) g l k := fun en T σ H Q s kk => wpW_of (pw_and1 pt_wp) (h en T σ H _ s kk)
theorem tw_or1 {k : Bool} (h : Ts X a g l k) : Tw X (.BoolOp .Or [a] pos) g l k := fun en T σ H Q s kk => wpW_of (pw_or1 pt_wp) (h en T σ H _ s kk)
theorem tw_and {rest : List Expr} {k k' : Bool} (ha : Ts X a g l k) (hb : k = true → Tw X (.BoolOp .And (b :: rest) pos) g l k') : Tw X (.BoolOp .And (a :: b :: rest) pos) g l (k && k') := fun en T σ H Q s kk => wpW_of (pw_and pt_wp pw_wp) (by
  refine ha en T σ H _ s fun H1 s1 => ?_
  cases k with
  | true => exact hb rfl en T σ H1 _ s1 kk
  | false => exact kk H1 s1)
theorem tw_or {rest : List Expr} {k k' : Bool} (ha : Ts X a g l k) (hb : k = false → Tw X (.BoolOp .Or (b :: rest) pos) g l k') : Tw X (.BoolOp .Or (a :: b :: rest) pos) g l (k || k') := fun en T σ H Q s kk => wpW_of (pw_or pt_wp pw_wp) (by
  refine ha en T σ H _ s fun H1 s1 => ?_
  cases k with
  | false => exact hb rfl en T σ H1 _ s1 kk
  | true => exact kk H1 s1)
theorem ts_w {k : Bool} (h : Tw X e g l k) : Ts X e g l k := fun en T σ H Q s kk => wpT_of (pw_wp).pt (h en T σ H _ s kk)
theorem Ts.to {k k' : Bool} (h : Ts X e g l k) (q : k = k') : Ts X e g l k' := q ▸ h

/-! ### blocks -/
theorem Blk.imp {Ψ : Po} {sts : List Stmt} (h : Blk X W sts g l Φ) (n : ∀ g l, Φ.nx g l → Ψ.nx g l) (r : ∀ d l, Φ.rt d l → Ψ.rt d l) (b : ∀ g l, Φ.bk g l → Ψ.bk g l) (c : ∀ g l, Φ.ct g l → Ψ.ct g l) (x : ∀ c d g l, Φ.ex c d g l → Ψ.ex c d g l) : Blk X W sts g l Ψ := fun en T σ H D s m =>
  h en T σ H D s ⟨fun g l σ H p => m.nx g l σ H (n _ _ p), fun d l v H p => m.rt d l v H (r _ _ p), fun g l σ H p => m.bk g l σ H (b _ _ p), fun g l σ H p => m.ct g l σ H (c _ _ p), fun c d g l σ H p => m.ex c d g l σ H (x _ _ _ _ p)⟩
theorem Blk.weak {sts : List Stmt} (w : Wk g g') (h : Blk X W sts g' l Φ) : Blk X W sts g l Φ := fun en T σ H D s m => h en T σ H D (s.weak w) m
theorem blk_nil (h : Φ.nx g l) : Blk X W [] g l Φ := fun en T σ H D s m => wpS_of pss_nil (m.nx g l σ H h s)
variable {rest : List Stmt}
theorem blk_ret (he : Px X e g l d) (h : Φ.rt d l) : Blk X W (.Return (some e) pos :: rest) g l Φ := fun en T σ H D s m => wpS_of (pss_cons (ps_ret pe_wp) pss_wp) (he en T σ H _ s fun v H' s' => m.rt d l v H' h s'.slotless)
theorem blk_retX {Psi : D → List Res → Prop} (he : Ev X e g l Psi) (h : ∀ d l', Psi d l' → Φ.rt d l') : Blk X W (.Return (some e) pos :: rest) g l Φ := fun en T σ H D s m => wpS_of (pss_cons (ps_ret pe_wp) pss_wp) (he en T σ H _ s fun v d l' H' p s' => m.rt d l' v H' (h d l' p) s'.slotless)
theorem blk_retN (h : Φ.rt .non l) : Blk X W (.Return none pos :: rest) g l Φ := fun en T σ H D s m => wpS_of (pss_cons ps_retN pss_wp) (by
  obtain ⟨F, M, a⟩ := s
  exact m.rt .non l _ H h ⟨F, M, (a.tmp (T' := T.and X.K .non .non) ⟨.non, a.tm⟩).slots .nil⟩)
theorem blk_brk (h : Φ.bk g l) : Blk X W (.Break pos :: rest) g l Φ := fun en T σ H D s m => wpS_of (pss_cons ps_break pss_wp) (m.bk g l σ H h s)
theorem blk_cont (h : Φ.ct g l) : Blk X W (.Continue pos :: rest) g l Φ := fun en T σ H D s m => wpS_of (pss_cons ps_continue pss_wp) (m.ct g l σ H h s)
theorem blk_pass (h : Blk X W rest g l Φ) : Blk X W (.Pass pos :: rest) g l Φ := fun en T σ H D s m => wpS_of (pss_cons ps_pass pss_wp) (h en T σ H D s m)
theorem Mt.seq {K : PySem.W.Frag} {en : En} {T : Tm} {D : Ends} (m : Mt K W en T Φ D) {nx : Gm → List Res → Prop} {n : St → Hp → Prop} (h : ∀ g l σ H, nx g l → S K en g T l σ H → n σ H) : Mt K W en T { Φ with nx := nx } { D with nx := n } := ⟨h, m.rt, m.bk, m.ct, m.ex⟩
theorem blk_if {k : Bool} {A B : List Stmt} (hc : Ts X c g l k) (h1 : k = true → Blk X W A g l { Φ with nx := fun g' l' => Blk X W rest g' l' Φ }) (h2 : k = false → Blk X W B g l { Φ with nx := fun g' l' => Blk X W rest g' l' Φ }) : Blk X W (.If c A B pos :: rest) g l Φ := fun en T σ H D s m =>
  wpS_of (pss_cons (ps_if pt_wp pss_wp pss_wp) pss_wp) (by
    refine hc en T σ H _ s fun H1 s1 => ?_
    have mm : Mt X.K W en T { Φ with nx := fun g' l' => Blk X W rest g' l' Φ } { D with nx := wpS X rest D } := m.seq fun g' l' σ' H' p s' => p en T σ' H' D s' m
    cases k with
    | true => exact h1 rfl en T σ H1 _ s1 mm
    | false => exact h2 rfl en T σ H1 _ s1 mm)
/-- .. the ways meet at Mid -/
theorem blk_ifJ {k : Bool} {A B : List Stmt} (Mid : Gm → List Res → Prop) (hc : Ts X c g l k) (h1 : k = true → Blk X W A g l { Φ with nx := Mid }) (h2 : k = false → Blk X W B g l { Φ with nx := Mid }) (hm : ∀ g' l', Mid g' l' → Blk X W rest g' l' Φ) : Blk X W (.If c A B pos :: rest) g l Φ :=
  blk_if hc (fun e => (h1 e).imp (fun g' l' p => hm g' l' p) (fun _ _ p => p) (fun _ _ p => p) (fun _ _ p => p) (fun _ _ _ _ p => p)) (fun e => (h2 e).imp (fun g' l' p => hm g' l' p) (fun _ _ p => p) (fun _ _ p => p) (fun _ _ p => p) (fun _ _ _ _ p => p))
theorem blk_expr {Psi : D → List Res → Prop} (he : Ev X e g l Psi) (h : ∀ d l', Psi d l' → Blk X W rest g l' Φ) (hs : swapsWith e none pos.line X.env = pure false := by rfl) : Blk X W (.Expr e pos :: rest) g l Φ := fun en T σ H D s m => wpS_of (pss_cons (ps_expr pe_wp hs) pss_wp) (he en T σ H _ s fun v d l' H' p s' => h d l' p en T σ H' D s'.drop m)
theorem blk_set {i : Nat} {x : Str} {pos' : Pos} (hN : X.N.Nodup) (hi : X.N[i]? = some x) (hx : Loc X.env.scope x) (he : Px X e g l d) (h : Blk X W rest (g.set i (some d)) l Φ) (hs : swapsWith e (some (.Name x pos')) pos.line X.env = pure false := by rfl) (hf : X.fn x = true ∨ X.env.scope.names.lookup x = some .local := by first | exact .inl rfl | exact .inr rfl | assumption) :
    Blk X W (.Assign [.Name x pos'] e pos :: rest) g l Φ := fun en T σ H D s m => wpS_of (pss_cons (ps_set hN hi hx pe_wp hs hf) pss_wp) (he en T σ H _ s fun v H' s' => by
      obtain ⟨F, M, a⟩ := s'
      exact h en T (σ.set i (some v)) H' D ⟨F, M, (a.tmp a.tm.2).slots (a.sl.set i a.tm.1)⟩ m)
theorem blk_setX {Psi : D → List Res → Prop} {i : Nat} {x : Str} {pos' : Pos} (hN : X.N.Nodup) (hi : X.N[i]? = some x) (hx : Loc X.env.scope x) (he : Ev X e g l Psi) (h : ∀ d l', Psi d l' → Blk X W rest (g.set i (some d)) l' Φ) (hs : swapsWith e (some (.Name x pos')) pos.line X.env = pure false := by rfl) (hf : X.fn x = true ∨ X.env.scope.names.lookup x = some .local := by first | exact .inl rfl | exact .inr rfl | assumption) :
    Blk X W (.Assign [.Name x pos'] e pos :: rest) g l Φ := fun en T σ H D s m => wpS_of (pss_cons (ps_set hN hi hx pe_wp hs hf) pss_wp) (he en T σ H _ s fun v d l' H' p s' => by
      obtain ⟨F, M, a⟩ := s'
      exact h d l' p en T (σ.set i (some v)) H' D ⟨F, M, (a.tmp a.tm.2).slots (a.sl.set i a.tm.1)⟩ m)
/-- what the proof never comes to -/
theorem blk_absurd {sts : List Stmt} (h : False) : Blk X W sts g l Φ := h.elim
end

/-! ### owned lists, instances -/
def ownL (K : PySem.W.Frag) (p : Addr) (ds : List D) : Res := ⟨fun F M => ∃ vs, FdAll K F vs ds ∧ M = one p (.lst vs), fun e ⟨vs, h, m⟩ => ⟨vs, FdAll.mono e _ h, m⟩⟩
def ownI (K : PySem.W.Frag) (p C : Addr) (fs : List (Str × D)) : Res := ⟨fun F M => ∃ vs dx, dx ≠ p ∧ FdFs K F vs fs ∧ M = join (one p (.ins C dx vs)) (one dx (.own p)), fun e ⟨vs, dx, n, h, m⟩ => ⟨vs, dx, n, FdFs.mono e _ h, m⟩⟩
section
variable {K : PySem.W.Frag} {F H M : Hp} {l : List Res}
theorem Rs.own {k : Nat} {p : Addr} {ds : List D} (h : Rs l F M) (e : l[k]? = some (ownL K p ds)) (m : Ex M H) : ∃ vs, FdAll K F vs ds ∧ H p = some (.lst vs) := by
  obtain ⟨A, B, rfl, dj, ⟨vs, f, rfl⟩, _⟩ := Rs.at e h
  exact ⟨vs, f, m p _ (join_l one_same)⟩
theorem Rs.ins {k : Nat} {p C : Addr} {fs : List (Str × D)} (h : Rs l F M) (e : l[k]? = some (ownI K p C fs)) (m : Ex M H) : ∃ dx vs, FdFs K F vs fs ∧ H p = some (.ins C dx vs) := by
  obtain ⟨A, B, rfl, dj, ⟨vs, dx, n, f, rfl⟩, _⟩ := Rs.at e h
  exact ⟨dx, vs, f, m p _ (join_l (join_l one_same))⟩
variable {en : En} {g : Gm} {T : Tm} {σ : L2.St}
/-- an owned list is written -/
theorem At.putL {k : Nat} {p : Addr} {ds ds' : List D} {vs' : List V} (a : At K en g T l σ H F M) (e : l[k]? = some (ownL K p ds)) (f : FdAll K F vs' ds') : ∃ M', At K en g T (l.set k (ownL K p ds')) σ (upd H p (.lst vs')) F M' := by
  obtain ⟨A, B, rfl, dj, ⟨vs, f0, rfl⟩, put⟩ := Rs.at e a.rs
  have hp : H p = some (.lst vs) := a.exM p _ (join_l one_same)
  have hF : F p = none := a.dj.sym p (.lst vs) (join_l one_same)
  have dB : ∀ u, Dj (one p u) B := fun u x o h => by
    obtain ⟨rfl, _⟩ := one_some h
    exact dj x _ one_same
  have hB : B p = none := dj p _ one_same
  have pM : en.H p = none ∨ ∃ u, en.M p = some u := a.nM p _ (join_l one_same)
  refine ⟨join (one p (.lst vs')) B, a.exF.mut hF, ?_, ?_, a.eF, a.nF, ?_, ?_, a.sl, a.tm, put _ _ F .rf ⟨vs', f, rfl⟩ (dB _)⟩
  · intro x o h
    rcases join_some h with q | ⟨n, q⟩
    · obtain ⟨rfl, rfl⟩ := one_some q
      exact upd_same
    · have ne : x ≠ p := fun z => by rw [z, hB] at q; cases q
      rw [upd_ne ne]
      exact a.exM x o (by rw [join_r (one_ne ne)]; exact q)
  · intro x o h
    have ne : x ≠ p := fun z => by rw [z, hF] at h; cases h
    have := a.dj x o h
    rw [join_r (one_ne ne)] at this ⊢
    exact this
  · intro x o h
    rcases join_some h with q | ⟨n, q⟩
    · obtain ⟨rfl, rfl⟩ := one_some q
      exact pM
    · have ne : x ≠ p := fun z => by rw [z, hB] at q; cases q
      exact a.nM x o (by rw [join_r (one_ne ne)]; exact q)
  · intro x o h1 h2
    have ne : x ≠ p := fun z => by
      subst z
      rcases pM with q | ⟨u, q⟩
      · rw [h1] at q; cases q
      · rw [h2] at q; cases q
    rw [upd_ne ne]
    exact a.fr x o h1 h2
/-- an owned instance's attribute is written -/
theorem At.putI {k : Nat} {p C dx : Addr} {fs fs' : List (Str × D)} {vs vs' : List (Str × V)} (a : At K en g T l σ H F M) (e : l[k]? = some (ownI K p C fs)) (hp : H p = some (.ins C dx vs)) (f : FdFs K F vs' fs') : ∃ M', At K en g T (l.set k (ownI K p C fs')) σ (upd H p (.ins C dx vs')) F M' := by
  obtain ⟨A, B, rfl, dj, ⟨vs0, dx0, nd, f0, rfl⟩, put⟩ := Rs.at e a.rs
  have hp0 : H p = some (.ins C dx0 vs0) := a.exM p _ (join_l (join_l one_same))
  rw [hp] at hp0
  obtain ⟨rfl, rfl⟩ : dx = dx0 ∧ vs = vs0 := by injection hp0 with z; injection z with z1 z2 z3; exact ⟨z2, z3⟩
  have hF : F p = none := a.dj.sym p _ (join_l (join_l one_same))
  have dB : ∀ u, Dj (join (one p u) (one dx (.own p))) B := fun u x o h => by
    rcases join_some h with q | ⟨_, q⟩
    · obtain ⟨rfl, _⟩ := one_some q
      exact dj x _ (join_l one_same)
    · obtain ⟨rfl, _⟩ := one_some q
      exact dj x _ (by rw [join_r (one_ne nd)]; exact one_same)
  have hB : B p = none := dj p _ (join_l one_same)
  have pM : en.H p = none ∨ ∃ u, en.M p = some u := a.nM p _ (join_l (join_l one_same))
  refine ⟨join (join (one p (.ins C dx vs')) (one dx (.own p))) B, a.exF.mut hF, ?_, ?_, a.eF, a.nF, ?_, ?_, a.sl, a.tm, put _ _ F .rf ⟨vs', dx, nd, f, rfl⟩ (dB _)⟩
  · intro x o h
    rcases join_some h with q | ⟨n, q⟩
    · rcases join_some q with q | ⟨n, q⟩
      · obtain ⟨rfl, rfl⟩ := one_some q
        exact upd_same
      · obtain ⟨rfl, rfl⟩ := one_some q
        rw [upd_ne nd]
        exact a.exM x _ (join_l (by rw [join_r (one_ne nd)]; exact one_same))
    · have ne : x ≠ p := fun z => by rw [z, hB] at q; cases q
      rw [upd_ne ne]
      have nx : x ≠ dx := fun z => by
        rw [z, join_r (one_ne nd), one_same] at n; cases n
      exact a.exM x o (by rw [join_r (by rw [join_r (one_ne ne)]; exact one_ne nx)]; exact q)
  · intro x o h
    have ne : x ≠ p := fun z => by rw [z, hF] at h; cases h
    have := a.dj x o h
    obtain ⟨q1, q2⟩ := join_none this
    obtain ⟨q3, q4⟩ := join_none q1
    rw [join_r (by rw [join_r (one_ne ne)]; exact q4)]
    exact q2
  · intro x o h
    rcases join_some h with q | ⟨n, q⟩
    · rcases join_some q with q | ⟨n, q⟩
      · obtain ⟨rfl, rfl⟩ := one_some q
        exact pM
      · obtain ⟨rfl, rfl⟩ := one_some q
        exact a.nM x (.own p) (join_l (by rw [join_r (one_ne nd)]; exact one_same))
    · have ne : x ≠ p := fun z => by rw [z, hB] at q; cases q
      have nx : x ≠ dx := fun z => by
        rw [z, join_r (one_ne nd), one_same] at n; cases n
      exact a.nM x o (by rw [join_r (by rw [join_r (one_ne ne)]; exact one_ne nx)]; exact q)
  · intro x o h1 h2
    have ne : x ≠ p := fun z => by
      subst z
      rcases pM with q | ⟨u, q⟩
      · rw [h1] at q; cases q
      · rw [h2] at q; cases q
    rw [upd_ne ne]
    exact a.fr x o h1 h2
/-- something new, owned -/
theorem At.newO {r : Res} {A H' : Hp} (a : At K en g T l σ H F M) (h : Ex H H') (hA : Ex A H') (n : ∀ x o, A x = some o → H x = none) (p : r.P F A) : At K en g T (r :: l) σ H' F (join A M) := by
  have dA : Dj A M := fun x o q => by
    cases z : M x with
    | none => rfl
    | some u => have := a.exM x u z; rw [n x o q] at this; cases this
  refine ⟨a.exF.tr h, hA.join (a.exM.tr h), fun x o q => ?_, a.eF, a.nF, fun x o q => ?_, fun x o h1 h2 => h x o (a.fr x o h1 h2), a.sl, a.tm, ⟨A, M, rfl, dA, p, a.rs⟩⟩
  · cases z : join A M x with
    | none => rfl
    | some u =>
      rcases join_some z with y | ⟨_, y⟩
      · have := a.exF x o q; rw [n x u y] at this; cases this
      · rw [a.dj x o q] at y; cases y
  · rcases join_some q with y | ⟨_, y⟩
    · cases w : en.H x with
      | none => exact .inl rfl
      | some u =>
        cases z : en.M x with
        | some y => exact .inr ⟨y, rfl⟩
        | none => have := a.fr x u w z; rw [n x o y] at this; cases this
    · exact a.nM x o y
/-- what is owned at the front is frozen -/
theorem At.frz {r : Res} {P : Hp → Prop} (a : At K en g T (r :: l) σ H F M) (f : ∀ A, r.P F A → P (join F A)) : ∃ F' M', At K en g T l σ H F' M' ∧ P F' ∧ Ex F F' := by
  obtain ⟨A, B, rfl, dj, p, rs⟩ := a.rs
  have dF : Dj F A := fun x o h => (join_none (a.dj x o h)).1
  have eF : Ex F (join F A) := fun x o h => join_l h
  refine ⟨join F A, B, ⟨a.exF.join a.exM.joinL, a.exM.joinR dj, ?_, a.eF.tr eF, ?_, fun x o h => a.nM x o (by rw [join_r (dj.sym x o h)]; exact h), a.fr, a.sl.mono eF, T.mono eF a.tm, rs.mono eF⟩, f A p, eF⟩
  · intro x o h
    rcases join_some h with q | ⟨_, q⟩
    · exact (join_none (a.dj x o q)).2
    · exact dj x o q
  · intro x o h
    rcases join_some h with q | ⟨_, q⟩
    · exact a.nF x o q
    · rcases a.nM x o (join_l q) with z | z
      · exact .inr (.inl z)
      · exact .inr (.inr z)
theorem Rs.perm {F : Hp} : ∀ {l k : List Res}, l.Perm k → ∀ {M : Hp}, Rs l F M → Rs k F M := by
  intro l k h
  induction h with
  | nil => exact fun h => h
  | cons x _ ih => exact fun ⟨A, B, h1, h2, h3, h4⟩ => ⟨A, B, h1, h2, h3, ih h4⟩
  | swap x y l =>
    rintro M ⟨A, B, h1, h2, h3, ⟨A', B', g1, g2, g3, g4⟩⟩
    subst g1; subst h1
    have dAA : Dj A A' := (Dj.l h2.sym).sym
    have dAB : Dj A B' := (Dj.r g2 h2.sym).sym
    exact ⟨A', join A B', by rw [← join_assoc, ← join_assoc, dAA.comm], (Dj.joinL dAA g2.sym).sym, g3, A, B', rfl, dAB, h3, g4⟩
  | trans _ _ h1 h2 => exact fun h => h2 (h1 h)
theorem S.perm {l' : List Res} (h : l.Perm l') (s : S K en g T l σ H) : S K en g T l' σ H := let ⟨F, M, a⟩ := s; ⟨F, M, a.exF, a.exM, a.dj, a.eF, a.nF, a.nM, a.fr, a.sl, a.tm, a.rs.perm h⟩
end

section
variable {X : Cx} {W : WX} {g g' : Gm} {l l' : List Res} {Φ : Po} {e a b c o : Expr} {es : List Expr} {d d1 d2 d3 : D} {pos p : Pos} {rest : List Stmt}
theorem Blk.perm {sts : List Stmt} (h : l.Perm l') (k : Blk X W sts g l' Φ) : Blk X W sts g l Φ := fun en T σ H D s m => k en T σ H D (s.perm h) m
/-- a new list, owned -/
theorem ev_lst {ds : List D} (h : Pa X es g l ds) (hz : ds.length ≤ sizeLine := by first | decide | exact Nat.le_of_ble_eq_true rfl) : Ev X (.List es pos) g l (fun d' l' => ∃ p, d' = .adr p ∧ l' = ownL X.K p ds :: l) := fun en T σ H Q s k => wpE_of (pe_lst pa_wp) (by
  refine h en T σ H _ s fun vs H1 s1 => ?_
  obtain ⟨F, M, q⟩ := s1
  refine ⟨by rw [q.tm.1.length]; exact hz, fun p hp => ?_⟩
  have q2 := q.tmp (T' := T) q.tm.2
  have q3 := q2.newO (r := ownL X.K p ds) (A := one p (.lst vs)) (H' := upd H1 p (.lst vs)) (.new hp) (fun x o z => by obtain ⟨rfl, rfl⟩ := one_some z; exact upd_same) (fun x o z => by obtain ⟨rfl, rfl⟩ := one_some z; exact hp) ⟨vs, q.tm.1, rfl⟩
  exact k _ (.adr p) _ _ ⟨p, rfl, rfl⟩ ⟨F, _, q3.tmp ⟨.adr p, q.tm.2⟩⟩)
/-- a list just made is frozen -/
theorem Ev.frz {ds : List D} (h : Ev X e g l (fun d' l' => ∃ p, d' = .adr p ∧ l' = ownL X.K p ds :: l)) : Px X e g l (.lst ds) := fun en T σ H Q s k => h en T σ H Q s fun v d l' H' p s' => by
  obtain ⟨p, rfl, rfl⟩ := p
  obtain ⟨F, M, q⟩ := s'
  have hv := q.tm.1
  cases hv
  obtain ⟨F', M', q', f, _⟩ := q.frz (P := fun F' => Fd X.K F' (.ref p) (.lst ds)) fun A hA => by
    obtain ⟨vs, f, rfl⟩ := hA
    have hF : F p = none := by
      obtain ⟨A, B, rfl, _, ⟨_, _, rfl⟩, _⟩ := q.rs
      exact q.dj.sym p _ (join_l one_same)
    exact .lst (SqL.of (by rw [join_r hF]; exact one_same)) (FdAll.mono (fun x o h => join_l h) _ f)
  exact k _ H' ⟨F', M', q'.tmp ⟨f, q'.tm.2⟩⟩
/-- a slot's owned list (at the front) is frozen -/
theorem Blk.frz {sts : List Stmt} {p : Addr} {ds : List D} {i : Nat} (hi : nth g i = some (.adr p)) (k : Blk X W sts (g.set i (some (.lst ds))) l Φ) : Blk X W sts g (ownL X.K p ds :: l) Φ := fun en T σ H D s m => by
  obtain ⟨F, M, q⟩ := s
  obtain ⟨v, hv, fv⟩ := q.sl.nth hi
  cases fv
  obtain ⟨F', M', q', f, _⟩ := q.frz (P := fun F' => Fd X.K F' (.ref p) (.lst ds)) fun A hA => by
    obtain ⟨vs, f, rfl⟩ := hA
    have hF : F p = none := by
      obtain ⟨A, B, rfl, _, ⟨_, _, rfl⟩, _⟩ := q.rs
      exact q.dj.sym p _ (join_l one_same)
    exact .lst (SqL.of (by rw [join_r hF]; exact one_same)) (FdAll.mono (fun x o h => join_l h) _ f)
  refine k en T σ H D ⟨F', M', q'.slots ?_⟩ m
  have w := q'.sl.set i f
  have e : σ.set i (some (.ref p)) = σ := by
    apply List.ext_getElem?
    intro j
    by_cases z : j = i
    · subst z
      obtain ⟨h1, h2⟩ := List.getElem?_eq_some_iff.mp hv
      rw [List.getElem?_set_self h1, hv]
    · rw [List.getElem?_set_ne (Ne.symm z)]
  rw [e] at w
  exact w
/-- x.append(e), x an owned list -/
theorem blk_app {k : Nat} {p : Addr} {ds : List D} {apos cpos : Pos} (ho : Px X o g l (.adr p)) (he : Px X e g l d) (hk : l[k]? = some (ownL X.K p ds)) (hz : ds.length < sizeLine) (h : Blk X W rest g (l.set k (ownL X.K p (ds ++ [d]))) Φ)
    (hp : PS X (.Expr (.Call (.Attribute o "append" apos) [e] [] cpos) pos) (tDrop (tBM X.K "list" rAppend (wpE X o) (tCons (wpE X e) tNil)))) : Blk X W (.Expr (.Call (.Attribute o "append" apos) [e] [] cpos) pos :: rest) g l Φ := fun en T σ H D s m => wpS_of (pss_cons hp pss_wp) (by
  refine ho en T σ H _ s fun v H1 s1 => ?_
  obtain ⟨F1, M1, q1⟩ := id s1
  have fv := q1.tm.1
  cases fv
  obtain ⟨vs1, _, hp1⟩ := q1.rs.own hk q1.exM
  refine ⟨.inl ⟨rfl, _, SqL.of hp1⟩, ?_⟩
  refine he en _ σ H1 _ s1 fun u H2 s2 => ?_
  obtain ⟨F, M, q⟩ := s2
  obtain ⟨vs, fvs, hp⟩ := q.rs.own hk q.exM
  refine ⟨p, vs, u, rfl, rfl, hp, by rw [fvs.length]; exact hz, ?_⟩
  obtain ⟨M', q'⟩ := (q.tmp (T' := T) q.tm.2.2).putL hk (fvs.app (.cons q.tm.1 .nil))
  exact h en T σ _ D ⟨F, M', q'⟩ m)
end
end Sx
set_option Elab.async false
set_option linter.all false
set_option maxRecDepth 100000
set_option maxHeartbeats 2000000
/-! Operations by value, calls, loops, comprehensions. -/
namespace Sx
open PySem L2

/-! ### operations -/
section
variable {K : PySem.W.Frag} {l : List Res} {d d1 d2 d3 : D} {i j : Int}
theorem o2_I0 {g : Int → Int → V} (h : ∀ F, Fd K F (g i j) d) : Op2 K l (rI0 g) (.int i) (.int j) d := fun F M H v u Q eF eM dj rs f1 f2 k => by
  cases f1; cases f2
  exact ⟨i, j, rfl, rfl, k _ F H (.rf eF) (h F)⟩
theorem o2_I {C : Int → Int → Prop} {g : Int → Int → V} (hc : C i j) (h : ∀ F, Fd K F (g i j) d) : Op2 K l (rI C g) (.int i) (.int j) d := fun F M H v u Q eF eM dj rs f1 f2 k => by
  cases f1; cases f2
  exact ⟨i, j, rfl, rfl, hc, k _ F H (.rf eF) (h F)⟩
theorem o_add : Op2 K l (rI0 fun i j => .int (i + j)) (.int i) (.int j) (.int (i + j)) := o2_I0 fun _ => .int _
theorem o_sub : Op2 K l (rI0 fun i j => .int (i - j)) (.int i) (.int j) (.int (i - j)) := o2_I0 fun _ => .int _
theorem o_mul (hc : CMul i j) : Op2 K l (rI CMul fun i j => .int (i * j)) (.int i) (.int j) (.int (i * j)) := o2_I hc fun _ => .int _
theorem o_mulR (h1 : -(2 ^ 64) < j := by decide) (h2 : j < 2 ^ 64 := by decide) : Op2 K l (rI CMul fun i j => .int (i * j)) (.int i) (.int j) (.int (i * j)) := o_mul (.inr ⟨h1, h2⟩)
theorem o_mulL (h1 : -(2 ^ 64) < i := by decide) (h2 : i < 2 ^ 64 := by decide) : Op2 K l (rI CMul fun i j => .int (i * j)) (.int i) (.int j) (.int (i * j)) := o_mul (.inl ⟨h1, h2⟩)
theorem o_mod (hc : 0 < j := by decide) : Op2 K l (rI (fun _ j => 0 < j) fun i j => .int (i % j)) (.int i) (.int j) (.int (i % j)) := o2_I hc fun _ => .int _
theorem o_fdiv (h1 : 0 < j := by decide) (h2 : j < 1073741824 := by decide) : Op2 K l (rI CDiv fun i j => .int (i / j)) (.int i) (.int j) (.int (i / j)) := o2_I ⟨h1, h2⟩ fun _ => .int _
theorem o_pow (hc : CPow i j := by exact ⟨by decide, by decide, by decide⟩) : Op2 K l (rI CPow fun i j => .int (i ^ j.toNat)) (.int i) (.int j) (.int (i ^ j.toNat)) := o2_I hc fun _ => .int _
theorem o_lt : Op2 K l (rI0 fun i j => .bl (decide (i < j))) (.int i) (.int j) (.bl (decide (i < j))) := o2_I0 fun _ => .bl _
theorem o_le : Op2 K l (rI0 fun i j => .bl (decide (i ≤ j))) (.int i) (.int j) (.bl (decide (i ≤ j))) := o2_I0 fun _ => .bl _
theorem o_gt : Op2 K l (rI0 fun i j => .bl (decide (j < i))) (.int i) (.int j) (.bl (decide (j < i))) := o2_I0 fun _ => .bl _
theorem o_ge : Op2 K l (rI0 fun i j => .bl (decide (j ≤ i))) (.int i) (.int j) (.bl (decide (j ≤ i))) := o2_I0 fun _ => .bl _
theorem o_neg : Op1 K l (rU fun i => .int (-i)) (.int i) (.int (-i)) := fun F M H v Q eF eM dj rs f1 k => by
  cases f1
  exact ⟨i, rfl, k _ F H (.rf eF) (.int _)⟩
/-- scalars -/
def D.v : D → Option V
  | .non => some .non | .bl b => some (.bl b) | .int i => some (.int i) | .str x => some (.str x) | .ty n => some (.ty n) | _ => none
theorem D.v_eq {F : Hp} {d : D} {v w : V} (f : Fd K F v d) (h : d.v = some w) : v = w := by
  cases f <;> first | (cases h; rfl) | cases h
theorem o_eq {v1 v2 : V} (h1 : d1.v = some v1) (h2 : d2.v = some v2) (hs : scal v1 v2 = true := by rfl) : Op2 K l rEq d1 d2 (.bl (decide (v1 = v2))) := fun F M H v u Q eF eM dj rs f1 f2 k => by
  have e1 := D.v_eq f1 h1
  have e2 := D.v_eq f2 h2
  subst e1; subst e2
  exact ⟨hs, k _ F H (.rf eF) (.bl _)⟩
theorem o_ne {v1 v2 : V} (h1 : d1.v = some v1) (h2 : d2.v = some v2) (hs : scal v1 v2 = true := by rfl) : Op2 K l rNe d1 d2 (.bl (!decide (v1 = v2))) := fun F M H v u Q eF eM dj rs f1 f2 k => by
  have e1 := D.v_eq f1 h1
  have e2 := D.v_eq f2 h2
  subst e1; subst e2
  exact ⟨hs, k _ F H (.rf eF) (.bl _)⟩
theorem int_dec (i j : Int) : decide (V.int i = V.int j) = decide (i = j) := by
  by_cases e : i = j
  · subst e; simp
  · have : ¬ V.int i = V.int j := fun q => e (V.int.inj q)
    rw [decide_eq_false e, decide_eq_false this]
theorem str_dec (i j : Str) : decide (V.str i = V.str j) = decide (i = j) := by
  by_cases e : i = j
  · subst e; simp
  · have : ¬ V.str i = V.str j := fun q => e (V.str.inj q)
    rw [decide_eq_false e, decide_eq_false this]
theorem o_eqI : Op2 K l rEq (.int i) (.int j) (.bl (decide (i = j))) := by
  rw [← int_dec]; exact o_eq rfl rfl
theorem o_neI : Op2 K l rNe (.int i) (.int j) (.bl (!decide (i = j))) := by
  rw [← int_dec]; exact o_ne rfl rfl
theorem o_eqS {x y : Str} : Op2 K l rEq (.str x) (.str y) (.bl (decide (x = y))) := by
  rw [← str_dec]; exact o_eq rfl rfl
theorem o_neS {x y : Str} : Op2 K l rNe (.str x) (.str y) (.bl (!decide (x = y))) := by
  rw [← str_dec]; exact o_ne rfl rfl
/-- is None -/
def D.isNon : D → Bool
  | .non => true | _ => false
theorem D.isNon_eq {F : Hp} {d : D} {v : V} (f : Fd K F v d) : decide (v = .non) = d.isNon := by
  cases f <;> simp [D.isNon]
theorem o_isN : Op2 K l (fun x y H Q => y = .non ∧ Q (.bl (decide (x = .non))) H) d .non (.bl d.isNon) := fun F M H v u Q eF eM dj rs f1 f2 k => by
  cases f2
  refine ⟨rfl, ?_⟩
  rw [D.isNon_eq f1]
  exact k _ F H (.rf eF) (.bl _)
theorem o_notN : Op2 K l (fun x y H Q => y = .non ∧ Q (.bl (!decide (x = .non))) H) d .non (.bl (!d.isNon)) := fun F M H v u Q eF eM dj rs f1 f2 k => by
  cases f2
  refine ⟨rfl, ?_⟩
  rw [D.isNon_eq f1]
  exact k _ F H (.rf eF) (.bl _)
theorem o_addS {x y : Str} (h : x.length + y.length ≤ sizeLine) : Op2 K l (fun x y H Q => ∃ i j, x = .str i ∧ y = .str j ∧ i.length + j.length ≤ sizeLine ∧ Q (.str (i ++ j)) H) (.str x) (.str y) (.str (x ++ y)) := fun F M H v u Q eF eM dj rs f1 f2 k => by
  cases f1; cases f2
  exact ⟨x, y, rfl, rfl, h, k _ F H (.rf eF) (.str _)⟩
/-- indices -/
theorem atI_of {α : Type} {xs : List α} {i : Int} {n : Nat} (h : ixN xs.length i = some n) : atI xs i = xs[n]? := by
  unfold atI; rw [h]; rfl
theorem atI_fd {F : Hp} {vs : List V} {ds : List D} (f : FdAll K F vs ds) (h : atI ds i = some d) : ∃ v, atI vs i = some v ∧ Fd K F v d := by
  unfold atI at h ⊢
  rw [f.length]
  cases e : ixN ds.length i with
  | none => rw [e] at h; cases h
  | some n =>
    rw [e] at h
    exact f.get h
theorem o_ixT {ds : List D} (h : atI ds i = some d) : Op2 K l (rIxT K) (.tup ds) (.int i) d := fun F M H v u Q eF eM dj rs f1 f2 k => by
  cases f2
  cases f1 with
  | tup s a =>
    obtain ⟨w, h1, h2⟩ := atI_fd a h
    exact ⟨_, _, i, w, rfl, rfl, ex_t eF s, h1, k w F H (.rf eF) h2⟩
theorem o_ixL {ds : List D} (h : atI ds i = some d) : Op2 K l (rIxL K) (.lst ds) (.int i) d := fun F M H v u Q eF eM dj rs f1 f2 k => by
  cases f2
  cases f1 with
  | lst s a =>
    obtain ⟨w, h1, h2⟩ := atI_fd a h
    exact ⟨_, _, i, w, rfl, rfl, ex_l eF s, h1, k w F H (.rf eF) h2⟩
theorem o_ixO {k : Nat} {p : Addr} {ds : List D} (hk : l[k]? = some (ownL K p ds)) (h : atI ds i = some d) : Op2 K l (rIxL K) (.adr p) (.int i) d := fun F M H v u Q eF eM dj rs f1 f2 kk => by
  cases f2
  cases f1
  obtain ⟨vs, f, hp⟩ := rs.own hk eM
  obtain ⟨w, h1, h2⟩ := atI_fd f h
  exact ⟨_, _, i, w, rfl, rfl, SqL.of hp, h1, kk w F H (.rf eF) h2⟩
theorem o_ixS {x : Str} {c : Nat} (h : x.length ≤ sizeLine) (ha : atI x.cps.toList i = some c) : Op2 K l rIxS (.str x) (.int i) (.str ⟨#[c]⟩) := fun F M H v u Q eF eM dj rs f1 f2 k => by
  cases f1; cases f2
  exact ⟨x, i, c, rfl, rfl, h, ha, k _ F H (.rf eF) (.str _)⟩
/-- x in xs, flat things -/
def D.flat (d : D) : Bool := match d.v with | some v => flatV v | none => false
def D.vv (d : D) : V := d.v.getD .non
theorem D.vv_eq {F : Hp} {d : D} {v : V} (f : Fd K F v d) (h : d.flat = true) : v = d.vv ∧ flatV v = true := by
  cases f <;> first | exact ⟨rfl, h⟩ | cases h
theorem D.vvs {F : Hp} : ∀ {vs : List V} {ds : List D}, FdAll K F vs ds → ds.all D.flat = true → vs = ds.map D.vv ∧ vs.all flatV = true
  | _, _, .nil, _ => ⟨rfl, rfl⟩
  | _, _, .cons a b, h => by
    rw [List.all_cons, Bool.and_eq_true] at h
    obtain ⟨q1, q2⟩ := D.vv_eq a h.1
    obtain ⟨r1, r2⟩ := D.vvs b h.2
    refine ⟨by rw [List.map_cons, ← q1, ← r1], by rw [List.all_cons, q2, r2]; rfl⟩
theorem o_in {neg : Bool} {ds : List D} {d0 : D} (hd : d0 = .lst ds ∨ d0 = .tup ds) (hx : d.flat = true) (hs : ds.all D.flat = true) : Op2 K l (rIn K neg) d d0 (.bl (if neg then !inV d.vv (ds.map D.vv) else inV d.vv (ds.map D.vv))) := fun F M H v u Q eF eM dj rs f1 f2 k => by
  obtain ⟨q1, q2⟩ := D.vv_eq f1 hx
  subst q1
  have kk := k (.bl (if neg then !inV d.vv (ds.map D.vv) else inV d.vv (ds.map D.vv))) F H (.rf eF) (.bl _)
  rcases hd with rfl | rfl
  · cases f2 with
    | lst s a =>
      obtain ⟨r1, r2⟩ := D.vvs a hs
      subst r1
      exact ⟨_, _, rfl, .inl (ex_l eF s), q2, r2, kk⟩
  · cases f2 with
    | tup s a =>
      obtain ⟨r1, r2⟩ := D.vvs a hs
      subst r1
      exact ⟨_, _, rfl, .inr (ex_t eF s), q2, r2, kk⟩
theorem o_inO {neg : Bool} {k : Nat} {p : Addr} {ds : List D} (hk : l[k]? = some (ownL K p ds)) (hx : d.flat = true) (hs : ds.all D.flat = true) : Op2 K l (rIn K neg) d (.adr p) (.bl (if neg then !inV d.vv (ds.map D.vv) else inV d.vv (ds.map D.vv))) := fun F M H v u Q eF eM dj rs f1 f2 kk => by
  obtain ⟨q1, q2⟩ := D.vv_eq f1 hx
  subst q1
  cases f2
  obtain ⟨vs, f, hp⟩ := rs.own hk eM
  obtain ⟨r1, r2⟩ := D.vvs f hs
  subst r1
  exact ⟨_, _, rfl, .inl (SqL.of hp), q2, r2, kk _ F H (.rf eF) (.bl _)⟩
theorem inV_str {x : Str} {xs : List Str} : inV (.str x) (xs.map V.str) = decide (x ∈ xs) := by
  induction xs with
  | nil => rfl
  | cons y r ih =>
    have e : inV (.str x) ((y :: r).map V.str) = ((y == x) || inV (.str x) (r.map V.str)) := rfl
    rw [e, ih]
    by_cases q : y = x
    · subst q; simp
    · have q' : ¬ x = y := fun z => q z.symm
      simp [q, q']
theorem inV_int {x : Int} {xs : List Int} : inV (.int x) (xs.map V.int) = decide (x ∈ xs) := by
  induction xs with
  | nil => rfl
  | cons y r ih =>
    have e : inV (.int x) ((y :: r).map V.int) = ((y == x) || inV (.int x) (r.map V.int)) := rfl
    rw [e, ih]
    by_cases q : y = x
    · subst q; simp
    · have q' : ¬ x = y := fun z => q z.symm
      simp [q, q']
theorem flat_strs {xs : List Str} : (xs.map D.str).all D.flat = true := by
  induction xs with
  | nil => rfl
  | cons y r ih => rw [List.map_cons, List.all_cons, ih]; rfl
theorem vv_strs {xs : List Str} : (xs.map D.str).map D.vv = xs.map V.str := by
  rw [List.map_map]; rfl
theorem flat_ints {xs : List Int} : (xs.map D.int).all D.flat = true := by
  induction xs with
  | nil => rfl
  | cons y r ih => rw [List.map_cons, List.all_cons, ih]; rfl
theorem vv_ints {xs : List Int} : (xs.map D.int).map D.vv = xs.map V.int := by
  rw [List.map_map]; rfl
theorem o_inS {x : Str} {xs : List Str} {d0 : D} (hd : d0 = .lst (xs.map D.str) ∨ d0 = .tup (xs.map D.str)) : Op2 K l (rIn K false) (.str x) d0 (.bl (decide (x ∈ xs))) := by
  have h := o_in (K := K) (l := l) (neg := false) hd (d := .str x) rfl flat_strs
  rw [vv_strs] at h
  have e : (if false = true then !inV (D.str x).vv (xs.map V.str) else inV (D.str x).vv (xs.map V.str)) = decide (x ∈ xs) := inV_str
  rw [e] at h; exact h
theorem o_ninS {x : Str} {xs : List Str} {d0 : D} (hd : d0 = .lst (xs.map D.str) ∨ d0 = .tup (xs.map D.str)) : Op2 K l (rIn K true) (.str x) d0 (.bl (!decide (x ∈ xs))) := by
  have h := o_in (K := K) (l := l) (neg := true) hd (d := .str x) rfl flat_strs
  rw [vv_strs] at h
  have e : (if true = true then !inV (D.str x).vv (xs.map V.str) else inV (D.str x).vv (xs.map V.str)) = !decide (x ∈ xs) := congrArg (!·) inV_str
  rw [e] at h; exact h
/- == of data -/
mutual
def D.py : D → Option PyData
  | .non => some .none | .bl b => some (.bool b) | .int i => some (.int i) | .str x => some (.str x)
  | .lst ds => (D.pys ds).map .list
  | .tup ds => (D.pys ds).map .tuple
  | .adr _ => none | .ty _ => none | .ins _ _ => none
def D.pys : List D → Option (List PyData)
  | [] => some []
  | d :: r => (D.py d).bind fun a => (D.pys r).map fun b => a :: b
end
mutual
theorem Fd.dp {F H : Hp} (e : Ex F H) : ∀ (d : D) {v : V} {p : PyData}, Fd K F v d → D.py d = some p → Dp K H v p
  | .non, _, _, h, q => by cases h; cases q; exact .non
  | .bl _, _, _, h, q => by cases h; cases q; exact .bl _
  | .int _, _, _, h, q => by cases h; cases q; exact .int _
  | .str _, _, _, h, q => by cases h; cases q; exact .str _
  | .lst ds, _, _, h, q => by
    unfold D.py at q
    obtain ⟨ps, h1, rfl⟩ := Option.map_eq_some_iff.mp q
    cases h with
    | lst s a => exact .lst (ex_l e s) (FdAll.dp e ds a h1)
  | .tup ds, _, _, h, q => by
    unfold D.py at q
    obtain ⟨ps, h1, rfl⟩ := Option.map_eq_some_iff.mp q
    cases h with
    | tup s a => exact .tup (ex_t e s) (FdAll.dp e ds a h1)
  | .adr _, _, _, h, q => by cases q
  | .ty _, _, _, h, q => by cases q
  | .ins _ _, _, _, h, q => by cases q
theorem FdAll.dp {F H : Hp} (e : Ex F H) : ∀ (ds : List D) {vs : List V} {ps : List PyData}, FdAll K F vs ds → D.pys ds = some ps → DpAll K H vs ps
  | [], _, _, h, q => by cases h; cases q; exact .nil
  | d :: r, _, _, h, q => by
    unfold D.pys at q
    obtain ⟨a, h1, q⟩ := Option.bind_eq_some_iff.mp q
    obtain ⟨b, h2, rfl⟩ := Option.map_eq_some_iff.mp q
    cases h with
    | cons x y => exact .cons (Fd.dp e d x h1) (FdAll.dp e r y h2)
end
theorem o_eqD {p q : PyData} (h1 : d1.py = some p) (h2 : d2.py = some q) (s1 : SeqAt.shaped p = true) (s2 : SeqAt.shaped q = true) : Op2 K l (rEqD K) d1 d2 (.bl (PyData.eqv p q)) := fun F M H v u Q eF eM dj rs f1 f2 k =>
  ⟨p, q, Fd.dp eF _ f1 h1, Fd.dp eF _ f2 h2, s1, s2, k _ F H (.rf eF) (.bl _)⟩
theorem o_neD {p q : PyData} (h1 : d1.py = some p) (h2 : d2.py = some q) (s1 : SeqAt.shaped p = true) (s2 : SeqAt.shaped q = true) : Op2 K l (rNeD K) d1 d2 (.bl (!PyData.eqv p q)) := fun F M H v u Q eF eM dj rs f1 f2 k =>
  ⟨p, q, Fd.dp eF _ f1 h1, Fd.dp eF _ f2 h2, s1, s2, k _ F H (.rf eF) (.bl _)⟩
end

/-! ### a def's promise -/
/-- called with the data args a (owned: own a), where ok a holds, it gives back what post tells, or raises what epost tells -/
def FnX (K : PySem.W.Frag) {α : Type} (ok : α → Prop) (args : α → List D) (own : α → List Res) (post : α → D → List Res → Prop) (epost : α → Value → Option Addr → List Res → Prop) : Sp := fun vs H Q E =>
  ∃ (a : α) (F M : Hp), ok a ∧ Ex F H ∧ Ex M H ∧ Dj F M ∧ FdAll K F vs (args a) ∧ Rs (own a) F M ∧
    (∀ v d l' H', post a d l' → S K ⟨F, M, H⟩ [] (Tm.tt.and K v d) l' [] H' → Q v H') ∧ (∀ cls d l' H', epost a cls d l' → S K ⟨F, M, H⟩ [] Tm.tt l' [] H' → E cls d H')
abbrev noE {α : Type} : α → Value → Option Addr → List Res → Prop := fun _ _ _ _ => False
/-- a def that changes nothing and gives back f a -/
abbrev Pu (K : PySem.W.Frag) {α : Type} (ok : α → Prop) (args : α → List D) (f : α → D) : Sp := FnX K ok args (fun _ => []) (fun a d l' => d = f a ∧ l' = []) noE
section
variable {P : Program} {w : World} {K : PySem.W.Frag} {mg : Str → Option Value} {base : Heap}
theorem fn_ok {α : Type} {ok : α → Prop} {args : α → List D} {own : α → List Res} {post : α → D → List Res → Prop} {epost : α → Value → Option Addr → List Res → Prop} {x qual : Str} {st : Stmt} {f : Addr} {fd : FuncData} {N ps : List Str} {k : Nat}
    (F : Fun K x qual st f fd) (Sc : FnScope N ps (defScope st)) (hlen : ∀ a, (args a).length = ps.length)
    (hbody : ∀ (cdv : Value) (A : Around) (outer : List Env) (s : Shared) (H : Hp) (E : XK) (a : α), Room k (A.deeper (PyProof.Rows.envOfC qual (defScope st) s.heap.objs.size f cdv)) → ok a →
      Blk (cxOf CX0 P w K mg base N qual (defScope st) f cdv A outer s H E).nox (fun _ _ _ _ => False) (defBody st) ((args a).map some ++ List.replicate (N.length - (args a).length) none) (own a) { nx := fun _ l' => post a .non l', rt := post a }) :
    FnOk P w K mg base CX0 (k + 1) f fd ps (FnX K ok args own post epost) := by
  refine F.ok Sc (fun vs H Q E h => ?_) (fun cdv A outer s H vs Q E hr h => ⟨wpS _ (defBody st), pss_wp, ?_⟩)
  · obtain ⟨a, _, _, _, _, _, _, h, _⟩ := h
    rw [h.length, hlen]
  · obtain ⟨a, F, M, hok, eF, eM, dj, fa, rs, hq, _⟩ := h
    have e : vs.length = (args a).length := fa.length
    refine hbody cdv A outer s H E a hr hok ⟨F, M, H⟩ Tm.tt _ H _ ⟨F, M, At.entry eF eM dj ?_ trivial rs⟩ ⟨fun g l σ H' p s' => ?_, fun d l v H' p s' => hq v d l H' p s', fun _ _ _ _ h => h.elim, fun _ _ _ _ h => h.elim, fun _ _ _ _ _ _ h => h.elim⟩
    · unfold L2.start
      rw [e]
      exact Sl.args _ fa
    · obtain ⟨F', M', q⟩ := s'
      exact hq .non .non l H' p ⟨F', M', (q.tmp (T' := Tm.tt.and K .non .non) ⟨.non, trivial⟩).slots .nil⟩
theorem fn_okX {α : Type} {ok : α → Prop} {args : α → List D} {own : α → List Res} {post : α → D → List Res → Prop} {epost : α → Value → Option Addr → List Res → Prop} {x qual : Str} {st : Stmt} {f : Addr} {fd : FuncData} {N ps : List Str} {k : Nat}
    (F : Fun K x qual st f fd) (Sc : FnScope N ps (defScope st)) (hlen : ∀ a, (args a).length = ps.length)
    (hbody : ∀ (cdv : Value) (A : Around) (outer : List Env) (s : Shared) (H : Hp) (E : XK) (a : α), Room k (A.deeper (PyProof.Rows.envOfC qual (defScope st) s.heap.objs.size f cdv)) → ok a →
      Blk (cxOf (L2.CX P w) P w K mg base N qual (defScope st) f cdv A outer s H E) (fun cls d _ H => E cls d H) (defBody st) ((args a).map some ++ List.replicate (N.length - (args a).length) none) (own a) { nx := fun _ l' => post a .non l', rt := post a, ex := fun cls d _ l' => epost a cls d l' }) :
    FnOk P w K mg base (L2.CX P w) (k + 1) f fd ps (FnX K ok args own post epost) := by
  refine F.okX Sc (fun vs H Q E h => ?_) (fun cdv A outer s H vs Q E hr h => ⟨wpS _ (defBody st), pss_wp, ?_⟩)
  · obtain ⟨a, _, _, _, _, _, _, h, _⟩ := h
    rw [h.length, hlen]
  · obtain ⟨a, F, M, hok, eF, eM, dj, fa, rs, hq, he⟩ := h
    have e : vs.length = (args a).length := fa.length
    refine hbody cdv A outer s H E a hr hok ⟨F, M, H⟩ Tm.tt _ H _ ⟨F, M, At.entry eF eM dj ?_ trivial rs⟩ ⟨fun g l σ H' p s' => ?_, fun d l v H' p s' => hq v d l H' p s', fun _ _ _ _ h => h.elim, fun _ _ _ _ h => h.elim, fun cls d g l σ H' p s' => he cls d l H' p s'.slotless⟩
    · unfold L2.start
      rw [e]
      exact Sl.args _ fa
    · obtain ⟨F', M', q⟩ := s'
      exact hq .non .non l H' p ⟨F', M', (q.tmp (T' := Tm.tt.and K .non .non) ⟨.non, trivial⟩).slots .nil⟩
/-- a def of the module under its name, with its promise -/
def Glo (P : Program) (w : World) (K : PySem.W.Frag) (mg : Str → Option Value) (base : Heap) (k : Nat) (x : Str) (ps : List Str) (sp : Sp) : Prop :=
  ∃ f fd, FnOk P w K mg base CX0 k f fd ps sp ∧ mg x = some (.ref f) ∧ PySem.W.keepIn K (.ref f) = true ∧ Binds K fd ps []
/-- a class's method, with its promise -/
def GloM (P : Program) (w : World) (K : PySem.W.Frag) (mg : Str → Option Value) (base : Heap) (k : Nat) (C : Addr) (m : Str) (ps : List Str) (sp : Sp) : Prop :=
  ∃ f fd, FnOk P w K mg base CX0 k f fd ps sp ∧ Cls K C ∧ Meth K C m f ∧ Binds K fd ps []
/-- a class under its name with its __init__ -/
def GloC (P : Program) (w : World) (K : PySem.W.Frag) (mg : Str → Option Value) (base : Heap) (k : Nat) (C : Addr) (x : Str) (ps : List Str) (sp : Sp) : Prop :=
  ∃ f fd, FnOk P w K mg base CX0 k f fd ps sp ∧ Mk K C f ∧ mg x = some (.ref C) ∧ Binds K fd ps []
end

section
variable {X : Cx} {W : WX} {g g' : Gm} {l l' : List Res} {Φ : Po} {e e2 a b c o : Expr} {es : List Expr} {d d1 d2 d3 : D} {pos p p2 : Pos} {rest : List Stmt}
/-- o.m(es) is got as a method -/
abbrev MthE (X : Cx) (o : Expr) (m : Str) (apos pos : Pos) (es : List Expr) (pl : Sem Bool) : Prop := eval (.Call (.Attribute o m apos) es [] pos) X.env = (do let ov ← eval o X.env; standAt apos.atName; let (f, r) ← holding [ov] (getMethod ov m pl); callWith pos f r (backTo pos (starEach es X.env)) (backToKw pos (keywordEach [] X.env)))
/-- what a promise gives where the state is known -/
theorem FnX.use {α : Type} {ok : α → Prop} {args : α → List D} {own : α → List Res} {post : α → D → List Res → Prop} {epost : α → Value → Option Addr → List Res → Prop} {K : PySem.W.Frag} {en : En} {T : Tm} {σ : L2.St} {H : Hp} {vs : List V} {lr : List Res} {Q : VK} {E : XK}
    (a : α) (hok : ok a) (s : S K en g (T.ands K vs (args a)) (own a ++ lr) σ H) (hq : ∀ v d l' H', post a d l' → S K en g (T.and K v d) (l' ++ lr) σ H' → Q v H') (he : ∀ cls d l' H', epost a cls d l' → S K en g T (l' ++ lr) σ H' → E cls d H') :
    FnX K ok args own post epost vs H Q E := by
  obtain ⟨F, M, q⟩ := s
  obtain ⟨A, B, rfl, dj, r1, r2⟩ := q.rs.split
  refine ⟨a, F, A, hok, q.exF, q.exM.joinL, (Dj.l q.dj.sym).sym, q.tm.1, r1, fun v d l' H' hp s' => ?_, fun cls d l' H' hp s' => ?_⟩
  · obtain ⟨F2, M2, b⟩ := s'
    have z := (q.tmp (T' := T) q.tm.2).frame dj r2 b
    exact hq v d l' H' hp ⟨F2, _, z.tmp ⟨b.tm.1, z.tm⟩⟩
  · obtain ⟨F2, M2, b⟩ := s'
    have z := (q.tmp (T' := T) q.tm.2).frame dj r2 b
    exact he cls d l' H' hp ⟨F2, _, z⟩
theorem ev_call {α : Type} {ok : α → Prop} {args : α → List D} {own : α → List Res} {post : α → D → List Res → Prop} {x : Str} {ps : List Str} {k j : Nat} {lr : List Res} {Psi : D → List Res → Prop}
    (G : Glo X.prog X.w X.K X.mg X.base k x ps (FnX X.K ok args own post noE)) (hr : Room j X.A) (hj : k ≤ j) (a : α) (hok : ok a) (ha : Pa X (e :: es) g (own a ++ lr) (args a)) (hq : ∀ d l', post a d l' → Psi d (l' ++ lr))
    (hg : Gl X x := by rfl) (hdb : (x == ("__debug__" : Str)) = false := by decide) (he : starEach (e :: es) X.env = (false, eval e X.env) :: starEach es X.env := by rfl) (hpl : (backTo pos (starEach es X.env)).any (·.1) = false := by rfl) :
    Ev X (.Call (.Name x p) (e :: es) [] pos) g (own a ++ lr) Psi := fun en T σ H Q s kk => by
  obtain ⟨f, fd, F, hm, hk, hb⟩ := G
  refine wpE_of (pe_call F (hr.mono hj) hg hm hk hb .nil pass0 pa_wp hdb he hpl) ?_
  refine ha en T σ H _ s fun vs H1 s1 => ?_
  rw [List.append_nil]
  exact FnX.use a hok s1 (fun v d l' H' hp s' => kk v d _ H' (hq d l' hp) s') fun _ _ _ _ h => h.elim
theorem ev_call0 {α : Type} {ok : α → Prop} {args : α → List D} {own : α → List Res} {post : α → D → List Res → Prop} {x : Str} {ps : List Str} {k j : Nat} {lr : List Res} {Psi : D → List Res → Prop}
    (G : Glo X.prog X.w X.K X.mg X.base k x ps (FnX X.K ok args own post noE)) (hr : Room j X.A) (hj : k ≤ j) (a : α) (hok : ok a) (ha : args a = []) (hq : ∀ d l', post a d l' → Psi d (l' ++ lr))
    (hg : Gl X x := by rfl) (hdb : (x == ("__debug__" : Str)) = false := by decide) :
    Ev X (.Call (.Name x p) [] [] pos) g (own a ++ lr) Psi := fun en T σ H Q s kk => by
  obtain ⟨f, fd, F, hm, hk, hb⟩ := G
  refine wpE_of (pe_call0 F (hr.mono hj) hg hm hk hb .nil pass0 hdb) ?_
  show FnX _ _ _ _ _ _ ([] ++ []) H Q _
  have s1 : S X.K en g (T.ands X.K [] (args a)) (own a ++ lr) σ H := by
    obtain ⟨F, M, q⟩ := s
    exact ⟨F, M, q.tmp ⟨by rw [ha]; exact .nil, q.tm⟩⟩
  exact FnX.use a hok s1 (fun v d l' H' hp s' => kk v d _ H' (hq d l' hp) s') fun _ _ _ _ h => h.elim
/-- a def that changes nothing -/
theorem px_call {α : Type} {ok : α → Prop} {args : α → List D} {f : α → D} {x : Str} {ps : List Str} {k j : Nat} 
    (G : Glo X.prog X.w X.K X.mg X.base k x ps (Pu X.K ok args f)) (hr : Room j X.A) (hj : k ≤ j) (a : α) (hok : ok a) (ha : Pa X (e :: es) g l (args a))
    (hg : Gl X x := by rfl) (hdb : (x == ("__debug__" : Str)) = false := by decide) (he : starEach (e :: es) X.env = (false, eval e X.env) :: starEach es X.env := by rfl) (hpl : (backTo pos (starEach es X.env)).any (·.1) = false := by rfl) :
    Px X (.Call (.Name x p) (e :: es) [] pos) g l (f a) :=
  Ev.px (ev_call (lr := l) (own := fun _ => []) G hr hj a hok ha (fun d l' h => ⟨h.1, by rw [h.2]; rfl⟩) hg hdb he hpl)
/-- o.m(..) -/
theorem ev_meth {α : Type} {ok : α → Prop} {args : α → List D} {own : α → List Res} {post : α → D → List Res → Prop} {C : Addr} {m : Str} {ps : List Str} {k j : Nat} {lr : List Res} {Psi : D → List Res → Prop} {ds : List D} {apos : Pos} {pl : Sem Bool}
    (G : GloM X.prog X.w X.K X.mg X.base k C m ps (FnX X.K ok args own post noE)) (hr : Room j X.A) (hj : k ≤ j) (a : α) (hok : ok a) (ho : Px X o g (own a ++ lr) d1)
    (hd : ∀ F M H v, Ex F H → Ex M H → Rs (own a ++ lr) F M → Fd X.K F v d1 → ∃ q dx fs, v = .ref q ∧ H q = some (.ins C dx fs) ∧ fs.lookup m = none)
    (ha : Pa X (e :: es) g (own a ++ lr) ds) (hds : args a = d1 :: ds) (hq : ∀ d l', post a d l' → Psi d (l' ++ lr))
    (hst : starEach (e :: es) X.env = (false, eval e X.env) :: starEach es X.env := by rfl) (hpl : (backTo pos (starEach es X.env)).any (·.1) = false := by rfl)
    (ht : MthE X o m apos pos (e :: es) pl := by rfl) :
    Ev X (.Call (.Attribute o m apos) (e :: es) [] pos) g (own a ++ lr) Psi := fun en T σ H Q s kk => by
  obtain ⟨f, fd, F, hc, hm, hb⟩ := G
  refine wpE_of (pe_meth pe_wp hc hm F (hr.mono hj) hb .nil pass0 pa_wp hst hpl ht) ?_
  refine ho en T σ H _ s fun v H1 s1 => ?_
  have s1' := s1
  obtain ⟨F1, M1, q1⟩ := s1
  obtain ⟨q, dx, fs, rfl, h1, h2⟩ := hd F1 M1 H1 v q1.exF q1.exM q1.rs q1.tm.1
  refine ⟨q, dx, fs, rfl, h1, h2, ?_⟩
  refine ha en _ σ H1 _ s1' fun vs H2 s2 => ?_
  rw [List.append_nil]
  refine FnX.use a hok (T := T) (g := g) (en := en) (σ := σ) (lr := lr) ?_ (fun v d l' H' hp s' => kk v d _ H' (hq d l' hp) s') fun _ _ _ _ h => h.elim
  obtain ⟨F, M, q⟩ := s2
  exact ⟨F, M, q.tmp ⟨by rw [hds]; exact .cons q.tm.2.1 q.tm.1, q.tm.2.2⟩⟩
theorem ev_meth0 {α : Type} {ok : α → Prop} {args : α → List D} {own : α → List Res} {post : α → D → List Res → Prop} {C : Addr} {m : Str} {ps : List Str} {k j : Nat} {lr : List Res} {Psi : D → List Res → Prop} {apos : Pos} {pl : Sem Bool}
    (G : GloM X.prog X.w X.K X.mg X.base k C m ps (FnX X.K ok args own post noE)) (hr : Room j X.A) (hj : k ≤ j) (a : α) (hok : ok a) (ho : Px X o g (own a ++ lr) d1)
    (hd : ∀ F M H v, Ex F H → Ex M H → Rs (own a ++ lr) F M → Fd X.K F v d1 → ∃ q dx fs, v = .ref q ∧ H q = some (.ins C dx fs) ∧ fs.lookup m = none)
    (hds : args a = [d1]) (hq : ∀ d l', post a d l' → Psi d (l' ++ lr))
    (ht : MthE X o m apos pos [] pl := by rfl) :
    Ev X (.Call (.Attribute o m apos) [] [] pos) g (own a ++ lr) Psi := fun en T σ H Q s kk => by
  obtain ⟨f, fd, F, hc, hm, hb⟩ := G
  refine wpE_of (pe_meth0 pe_wp hc hm F (hr.mono hj) hb .nil pass0 ht) ?_
  refine ho en T σ H _ s fun v H1 s1 => ?_
  have s1' := s1
  obtain ⟨F1, M1, q1⟩ := s1
  obtain ⟨q, dx, fs, rfl, h1, h2⟩ := hd F1 M1 H1 v q1.exF q1.exM q1.rs q1.tm.1
  refine ⟨q, dx, fs, rfl, h1, h2, ?_⟩
  show FnX _ _ _ _ _ _ (V.ref q :: ([] ++ [])) H1 Q _
  refine FnX.use a hok (T := T) (g := g) (en := en) (σ := σ) (lr := lr) ?_ (fun v d l' H' hp s' => kk v d _ H' (hq d l' hp) s') fun _ _ _ _ h => h.elim
  exact ⟨F1, M1, q1.tmp ⟨by rw [hds]; exact .cons q1.tm.1 .nil, q1.tm.2⟩⟩
/-- the receiver: a frozen instance, an owned one -/
theorem rc_ins {K : PySem.W.Frag} {C : Addr} {fs : List (Str × D)} {m : Str} (h : fs.lookup m = none) : ∀ F M H v, Ex F H → Ex M H → Rs l F M → Fd K F v (.ins C fs) → ∃ q dx fs, v = .ref q ∧ H q = some (.ins C dx fs) ∧ fs.lookup m = none := fun F M H v eF eM rs f => by
  cases f with
  | ins h1 h2 => exact ⟨_, _, _, rfl, eF _ _ h1, h2.nolook h⟩
theorem rc_own {K : PySem.W.Frag} {C p : Addr} {fs : List (Str × D)} {m : Str} {k : Nat} (hk : l[k]? = some (ownI K p C fs)) (h : fs.lookup m = none) : ∀ F M H v, Ex F H → Ex M H → Rs l F M → Fd K F v (.adr p) → ∃ q dx fs, v = .ref q ∧ H q = some (.ins C dx fs) ∧ fs.lookup m = none := fun F M H v eF eM rs f => by
  cases f
  obtain ⟨dx, vs, f, hp⟩ := rs.ins hk eM
  exact ⟨p, dx, vs, rfl, hp, f.nolook h⟩
theorem px_meth {α : Type} {ok : α → Prop} {args : α → List D} {f : α → D} {C : Addr} {m : Str} {ps : List Str} {k j : Nat} {ds : List D} {apos : Pos} {pl : Sem Bool} {fs : List (Str × D)}
    (G : GloM X.prog X.w X.K X.mg X.base k C m ps (Pu X.K ok args f)) (hr : Room j X.A) (hj : k ≤ j) (a : α) (hok : ok a) (ho : Px X o g l (.ins C fs)) (hfs : fs.lookup m = none) (ha : Pa X (e :: es) g l ds) (hds : args a = .ins C fs :: ds)
    (hst : starEach (e :: es) X.env = (false, eval e X.env) :: starEach es X.env := by rfl) (hpl : (backTo pos (starEach es X.env)).any (·.1) = false := by rfl)
    (ht : MthE X o m apos pos (e :: es) pl := by rfl) : Px X (.Call (.Attribute o m apos) (e :: es) [] pos) g l (f a) :=
  Ev.px (ev_meth (lr := l) (own := fun _ => []) G hr hj a hok ho (rc_ins hfs) ha hds (fun d l' h => ⟨h.1, by rw [h.2]; rfl⟩) hst hpl ht)
theorem px_meth0 {α : Type} {ok : α → Prop} {args : α → List D} {f : α → D} {C : Addr} {m : Str} {ps : List Str} {k j : Nat} {apos : Pos} {pl : Sem Bool} {fs : List (Str × D)}
    (G : GloM X.prog X.w X.K X.mg X.base k C m ps (Pu X.K ok args f)) (hr : Room j X.A) (hj : k ≤ j) (a : α) (hok : ok a) (ho : Px X o g l (.ins C fs)) (hfs : fs.lookup m = none) (hds : args a = [.ins C fs])
    (ht : MthE X o m apos pos [] pl := by rfl) : Px X (.Call (.Attribute o m apos) [] [] pos) g l (f a) :=
  Ev.px (ev_meth0 (lr := l) (own := fun _ => []) G hr hj a hok ho (rc_ins hfs) hds (fun d l' h => ⟨h.1, by rw [h.2]; rfl⟩) ht)
/-- C(..), C with an own __init__ -/
theorem ev_make {α : Type} {ok : α → Prop} {args : α → List D} {own : α → List Res} {post : α → D → List Res → Prop} {C : Addr} {x : Str} {ps : List Str} {k j : Nat} {lr : List Res} {Psi : D → List Res → Prop} {ds : List D}
    (G : GloC X.prog X.w X.K X.mg X.base k C x ps (FnX X.K ok args own post noE)) (hr : Room j X.A) (hj : k + 1 ≤ j) (a : Addr → α) (hok : ∀ q, ok (a q)) (ha : Pa X (e :: es) g lr ds)
    (hds : ∀ q, args (a q) = .adr q :: ds) (hown : ∀ q, own (a q) = [ownI X.K q C []]) (hq : ∀ q d l', post (a q) d l' → d = .non ∧ Psi (.adr q) (l' ++ lr))
    (hg : Gl X x := by rfl) (hdb : (x == ("__debug__" : Str)) = false := by decide) (he : starEach (e :: es) X.env = (false, eval e X.env) :: starEach es X.env := by rfl) (hpl : (backTo pos (starEach es X.env)).any (·.1) = false := by rfl) :
    Ev X (.Call (.Name x p) (e :: es) [] pos) g lr Psi := fun en T σ H Q s kk => by
  obtain ⟨f, fd, F, M, hm, hb⟩ := G
  refine wpE_of (pe_make M F (hr.mono hj) hg hm hb .nil pass0 pa_wp hdb he hpl) ?_
  refine ha en T σ H _ s fun vs H1 s1 => ?_
  intro x dx nx ndx ne
  rw [List.append_nil]
  obtain ⟨F1, M1, q1⟩ := s1
  have n2 : (upd H1 dx (.own x)) x = none := by rw [upd_ne (Ne.symm ne)]; exact nx
  have q2 := q1.newO (r := ownI X.K x C []) (A := join (one x (.ins C dx [])) (one dx (.own x))) (H' := upd (upd H1 dx (.own x)) x (.ins C dx [])) ((Ex.new ndx).tr (.new n2))
    (fun y o z => by
      rcases join_some z with w | ⟨w, w'⟩
      · obtain ⟨rfl, rfl⟩ := one_some w; exact upd_same
      · obtain ⟨rfl, rfl⟩ := one_some w'
        rw [upd_ne ne, upd_same])
    (fun y o z => by
      rcases join_some z with w | ⟨w, w'⟩
      · obtain ⟨rfl, rfl⟩ := one_some w; exact nx
      · obtain ⟨rfl, rfl⟩ := one_some w'; exact ndx) ⟨[], dx, ne, .nil, rfl⟩
  have s2 : S X.K en g ((T.and X.K (.ref x) (.adr x)).ands X.K (.ref x :: vs) (args (a x))) (own (a x) ++ lr) σ (upd (upd H1 dx (.own x)) x (.ins C dx [])) := by
    rw [hown]
    exact ⟨F1, _, q2.tmp ⟨by rw [hds]; exact .cons (.adr x) q1.tm.1, .adr x, q1.tm.2⟩⟩
  refine FnX.use (a x) (hok x) s2 (fun v d l' H' hp s' => ?_) fun _ _ _ _ h => h.elim
  · obtain ⟨e1, e2⟩ := hq x d l' hp
    subst e1
    obtain ⟨F3, M3, q3⟩ := s'
    have f3 := q3.tm.1
    cases f3
    exact ⟨rfl, kk _ _ _ H' e2 ⟨F3, M3, q3.tmp q3.tm.2⟩⟩
/-- an instance just made is frozen -/
theorem Ev.frzI {C : Addr} {fs : List (Str × D)} (h : Ev X e g l (fun d' l' => ∃ p, d' = .adr p ∧ l' = ownI X.K p C fs :: l)) : Px X e g l (.ins C fs) := fun en T σ H Q s k => h en T σ H Q s fun v d l' H' p s' => by
  obtain ⟨p, rfl, rfl⟩ := p
  obtain ⟨F, M, q⟩ := s'
  have hv := q.tm.1
  cases hv
  obtain ⟨F', M', q', f, _⟩ := q.frz (P := fun F' => Fd X.K F' (.ref p) (.ins C fs)) fun A hA => by
    obtain ⟨vs, dx, n, f, rfl⟩ := hA
    have hF : F p = none := by
      obtain ⟨A, B, rfl, _, ⟨_, dx, n, _, rfl⟩, _⟩ := q.rs
      exact q.dj.sym p _ (join_l (join_l one_same))
    exact .ins (by rw [join_r hF]; exact join_l one_same) (FdFs.mono (fun x o h => join_l h) _ f)
  exact k _ H' ⟨F', M', q'.tmp ⟨f, q'.tm.2⟩⟩
/-- self.f = e, self an owned instance -/
theorem blk_fld {k : Nat} {C q : Addr} {fs : List (Str × D)} {f : Str} {pos' : Pos} (he : Px X e g l d) (ho : Px X o g l (.adr q)) (hk : l[k]? = some (ownI X.K q C fs)) (hc : Cls X.K C) (hn : NoAttr X.K C f) (hz : fs.length < 1000)
    (h : Blk X W rest g (l.set k (ownI X.K q C (putD f d fs))) Φ) (hs : swapsWith e (some (.Attribute o f pos')) pos.line X.env = pure false := by rfl) : Blk X W (.Assign [.Attribute o f pos'] e pos :: rest) g l Φ := fun en T σ H D s m => wpS_of (pss_cons (ps_fld pe_wp pe_wp hs) pss_wp) (by
  refine he en T σ H _ s fun v H1 s1 => ?_
  refine ho en _ σ H1 _ s1 fun u H2 s2 => ?_
  obtain ⟨F, M, q2⟩ := s2
  have fu := q2.tm.1
  cases fu
  obtain ⟨dx, vs, ff, hp⟩ := q2.rs.ins hk q2.exM
  refine ⟨q, C, dx, vs, rfl, hp, hc, hn, by rw [ff.length]; exact hz, ?_⟩
  obtain ⟨M', q'⟩ := (q2.tmp (T' := T) q2.tm.2.2).putI hk hp (ff.put q2.tm.2.1)
  exact h en T σ _ D ⟨F, M', q'⟩ m)
/-- an attribute of an owned instance -/
theorem px_fldO {k : Nat} {C q : Addr} {fs : List (Str × D)} {f : Str} (ho : Px X o g l (.adr q)) (hk : l[k]? = some (ownI X.K q C fs)) (hc : Cls X.K C) (hn : NoAttr X.K C f) (hl : fs.lookup f = some d) (hb : attributeBase o f X.env (eval o X.env) = eval o X.env := by rfl) : Px X (.Attribute o f pos) g l d := fun en T σ H Q s kk => wpE_of (pe_fld pe_wp hb) (by
  refine ho en T σ H _ s fun v H1 s1 => ?_
  obtain ⟨F, M, q1⟩ := s1
  obtain ⟨hf, ht⟩ := q1.tm
  cases hf
  obtain ⟨dx, vs, ff, hp⟩ := q1.rs.ins hk q1.exM
  obtain ⟨v, e1, e2⟩ := ff.look hl
  exact ⟨_, C, _, _, v, rfl, hp, hc, hn, e1, kk v H1 ⟨F, M, q1.tmp ⟨e2, ht⟩⟩⟩)

/-! ### targets -/
def setsV (σ : L2.St) : List Nat → List V → L2.St
  | i :: is, v :: vs => setsV (σ.set i (some v)) is vs
  | _, _ => σ
def sets (g : Gm) : List Nat → List D → Gm
  | i :: is, d :: ds => sets (g.set i (some d)) is ds
  | _, _ => g
theorem Sl.sets {K : PySem.W.Frag} {F : Hp} : ∀ {is : List Nat} {g : Gm} {σ : L2.St} {vs : List V} {ds : List D}, Sl K F g σ → FdAll K F vs ds → Sl K F (sets g is ds) (setsV σ is vs)
  | [], _, _, _, _, h, .nil => h
  | [], _, _, _, _, h, .cons _ _ => h
  | _ :: _, _, _, _, _, h, .nil => h
  | i :: is, _, _, _, _, h, .cons a b => Sl.sets (is := is) (h.set i a) b
/-- a target takes a datum apart into the slots is -/
def Tg (K : PySem.W.Frag) (t : TG) (is : List Nat) (d : D) (ds : List D) : Prop := ∀ F H v σ (Q : L2.St → Hp → Prop), Ex F H → Fd K F v d → (∀ vs, FdAll K F vs ds → Q (setsV σ is vs) H) → t v σ H Q
theorem tg_name {K : PySem.W.Frag} {i : Nat} : Tg K (gName i) [i] d [d] := fun F H v σ Q e f k => k [v] (.cons f .nil)
theorem tg_seq {K : PySem.W.Frag} : ∀ {is : List Nat} {ds : List D} {vs : List V} {F H : Hp} {σ : L2.St} {Q : L2.St → Hp → Prop}, is.length = ds.length → FdAll K F vs ds → Q (setsV σ is vs) H → (is.foldr (fun i t => gCons (gName i) t) gNil) vs σ H Q
  | [], [], _, _, _, _, _, _, .nil, h => ⟨rfl, h⟩
  | i :: is, d :: ds, _, _, _, σ, _, e, .cons (v := v) a b, h => ⟨_, _, rfl, tg_seq (is := is) (by simpa using e) b h⟩
  | [], _ :: _, _, _, _, _, _, e, _, _ => by cases e
  | _ :: _, [], _, _, _, _, _, e, _, _ => by cases e
theorem tg_tup {K : PySem.W.Frag} {is : List Nat} {ds : List D} {n : Nat} (h : is.length = ds.length) (hn : ds.length = n) : Tg K (gTup K n (is.foldr (fun i t => gCons (gName i) t) gNil)) is (.tup ds) ds := fun F H v σ Q e f k => by
  cases f with
  | tup s a => exact ⟨_, _, rfl, ex_t e s, by rw [a.length]; exact hn, tg_seq h a (k _ a)⟩
/-! ### walks -/
/-- the iterator J gives the data ds, one after another, while F stands -/
def JG (K : PySem.W.Frag) (F : Hp) (J : It) (ds : List D) : Prop := ∀ F' H, Ex F F' → Ex F' H → (∀ i, i < ds.length → J.go i H) ∧ J.stop ds.length H ∧ ∀ i d x H', ds[i]? = some d → J.yld i H x H' → ∃ F'', New F' H F'' H' ∧ Fd K F'' x d
def Itw (X : Cx) (tg iter : Expr) (g : Gm) (l : List Res) (ds : List D) : Prop := ∃ wi, PI X tg iter wi ∧ ∀ en T σ H (R : It → Hp → Prop), S X.K en g T l σ H → (∀ J H1 F M, At X.K en g T l σ H1 F M → JG X.K F J ds → R J H1) → wi σ H R
theorem jg_list {K : PySem.W.Frag} {F : Hp} {a : Addr} {vs : List V} {ds : List D} (s : SqL K F a vs) (f : FdAll K F vs ds) : JG K F (Itl K a) ds := fun F' H e1 e2 => by
  have s2 : SqL K H a vs := ex_l (e1.tr e2) s
  refine ⟨fun i hi => ?_, ⟨vs, s2, by rw [f.length]; exact Nat.le_refl _⟩, fun i d x H' hd hy => ?_⟩
  · have q : i < vs.length := by rw [f.length]; exact hi
    exact ⟨vs, vs[i], s2, List.getElem?_eq_getElem q⟩
  · obtain ⟨rfl, h⟩ := hy
    obtain ⟨v, h1, h2⟩ := f.get hd
    have e := h vs s2
    rw [h1] at e
    cases e
    exact ⟨F', .rf e2, h2.mono e1⟩
theorem jg_tup {K : PySem.W.Frag} {F : Hp} {a : Addr} {vs : List V} {ds : List D} (s : SqT K F a vs) (f : FdAll K F vs ds) : JG K F (Itt K a) ds := fun F' H e1 e2 => by
  have s2 : SqT K H a vs := ex_t (e1.tr e2) s
  refine ⟨fun i hi => ?_, ⟨vs, s2, by rw [f.length]; exact Nat.le_refl _⟩, fun i d x H' hd hy => ?_⟩
  · have q : i < vs.length := by rw [f.length]; exact hi
    exact ⟨vs, vs[i], s2, List.getElem?_eq_getElem q⟩
  · obtain ⟨rfl, h⟩ := hy
    obtain ⟨v, h1, h2⟩ := f.get hd
    have e := h vs s2
    rw [h1] at e
    cases e
    exact ⟨F', .rf e2, h2.mono e1⟩
theorem it_list {tg : Expr} {ds : List D} (h : Px X e g l (.lst ds)) : Itw X tg e g l ds := ⟨_, pi_list pe_wp, fun en T σ H R s k => h en T σ H _ s fun v H1 s1 => by
  obtain ⟨F, M, q⟩ := s1
  obtain ⟨f, t⟩ := q.tm
  cases f with
  | lst sq a => exact ⟨_, rfl, ⟨_, ex_l q.exF sq⟩, k _ H1 F M (q.tmp t) (jg_list sq a)⟩⟩
theorem it_tup {tg : Expr} {ds : List D} (h : Px X e g l (.tup ds)) : Itw X tg e g l ds := ⟨_, pi_tup pe_wp, fun en T σ H R s k => h en T σ H _ s fun v H1 s1 => by
  obtain ⟨F, M, q⟩ := s1
  obtain ⟨f, t⟩ := q.tm
  cases f with
  | tup sq a => exact ⟨_, rfl, ⟨_, ex_t q.exF sq⟩, k _ H1 F M (q.tmp t) (jg_tup sq a)⟩⟩
def rng (lo : Int) (n : Nat) : List D := (List.range n).map fun i : Nat => D.int (lo + (i : Int))
theorem rng_len {lo : Int} {n : Nat} : (rng lo n).length = n := by unfold rng; rw [List.length_map, List.length_range]
theorem rng_get {lo : Int} {n i : Nat} {d : D} (h : (rng lo n)[i]? = some d) : i < n ∧ d = .int (lo + (i : Int)) := by
  unfold rng at h
  rw [List.getElem?_map] at h
  cases q : (List.range n)[i]? with
  | none => rw [q] at h; cases h
  | some j =>
    rw [q] at h
    obtain ⟨h1, h2⟩ := List.getElem?_eq_some_iff.mp q
    rw [List.length_range] at h1
    rw [List.getElem_range] at h2
    subst h2
    exact ⟨h1, (Option.some.inj h).symm⟩
theorem jg_range {K : PySem.W.Frag} {F : Hp} {lo : Int} {n : Nat} : JG K F (L2.Itr lo n) (rng lo n) := fun F' H e1 e2 => by
  refine ⟨fun i hi => by rw [rng_len] at hi; exact hi, by show n ≤ _; rw [rng_len]; exact Nat.le_refl _, fun i d x H' hd hy => ?_⟩
  obtain ⟨rfl, rfl⟩ := hy
  obtain ⟨_, rfl⟩ := rng_get hd
  exact ⟨F', .rf e2, .int _⟩
theorem it_range {tg : Expr} {j : Int} {pp : Pos} (h : Px X e g l (.int j)) (h1 : -(2 ^ 62) ≤ j) (h2 : j < 2 ^ 62) (hm : X.mg "range" = none) (hg : Gl X "range" := by rfl) (hs : starEach [e] X.env = [(false, eval e X.env)] := by rfl) : Itw X tg (.Call (.Name "range" p) [e] [] pp) g l (rng 0 j.toNat) :=
  ⟨_, pi_range1 hg hm (pa_wp (es := [e])) hs, fun en T σ H R s k => pa_c h pa_n hs en T σ H _ s fun vs H1 s1 => by
  obtain ⟨F, M, q⟩ := s1
  obtain ⟨f, t⟩ := q.tm
  cases f with
  | cons a b =>
    cases a; cases b
    exact ⟨j, rfl, h1, h2, k _ H1 F M (q.tmp t) jg_range⟩⟩
theorem it_range2 {tg : Expr} {i j : Int} {pp : Pos} (h : Px X e g l (.int i)) (h' : Px X e2 g l (.int j)) (h1 : -(2 ^ 62) ≤ i ∧ i < 2 ^ 62 ∧ -(2 ^ 62) ≤ j ∧ j < 2 ^ 62) (hm : X.mg "range" = none) (hg : Gl X "range" := by rfl)
    (hs : starEach [e, e2] X.env = [(false, eval e X.env), (false, eval e2 X.env)] := by rfl) (hs2 : starEach [e2] X.env = [(false, eval e2 X.env)] := by rfl) : Itw X tg (.Call (.Name "range" p) [e, e2] [] pp) g l (rng i (j - i).toNat) :=
  ⟨_, pi_range2 hg hm (pa_wp (es := [e, e2])) hs hs2, fun en T σ H R s k => pa_c h (pa_c h' pa_n hs2) (by rw [hs, hs2]) en T σ H _ s fun vs H1 s1 => by
  obtain ⟨F, M, q⟩ := s1
  obtain ⟨f, t⟩ := q.tm
  cases f with
  | cons a b =>
    cases b with
    | cons b c =>
      cases a; cases b; cases c
      exact ⟨i, j, rfl, h1, k _ H1 F M (q.tmp t) jg_range⟩⟩
/-- pairs of a number and an item -/
def enumD (ds : List D) : List D := ds.zipIdx.map fun q => D.tup [.int (q.2 : Nat), q.1]
theorem enumD_len {ds : List D} : (enumD ds).length = ds.length := by unfold enumD; rw [List.length_map, List.length_zipIdx]
theorem enumD_get {ds : List D} {i : Nat} {d : D} (h : (enumD ds)[i]? = some d) : ∃ d', ds[i]? = some d' ∧ d = .tup [.int (i : Nat), d'] := by
  unfold enumD at h
  rw [List.getElem?_map, List.getElem?_zipIdx] at h
  cases q : ds[i]? with
  | none => rw [q] at h; cases h
  | some d' =>
    rw [q] at h
    refine ⟨d', rfl, ?_⟩
    have e := Option.some.inj h
    rw [← e]
    simp
theorem jg_enum {K : PySem.W.Frag} {F : Hp} {a : Addr} {vs : List V} {ds : List D} (s : SqL K F a vs) (f : FdAll K F vs ds) : JG K F (Ite K a) (enumD ds) := fun F' H e1 e2 => by
  have s2 : SqL K H a vs := ex_l (e1.tr e2) s
  refine ⟨fun i hi => ?_, ⟨vs, s2, by rw [enumD_len, f.length]; exact Nat.le_refl _⟩, fun i d x H' hd hy => ?_⟩
  · have q : i < vs.length := by rw [f.length]; rw [enumD_len] at hi; exact hi
    exact ⟨vs, vs[i], s2, List.getElem?_eq_getElem q⟩
  · obtain ⟨T, y, rfl, hT, rfl, h⟩ := hy
    obtain ⟨d', hd', rfl⟩ := enumD_get hd
    obtain ⟨v, h1, h2⟩ := f.get hd'
    have e := Option.some.inj (h1.symm.trans (h vs s2))
    subst e
    have n := New.upd (o := .tup [.int (i : Nat), v]) e2 hT
    exact ⟨_, n, .tup (SqT.of upd_same) (.cons (.int _) (.cons (h2.mono (e1.tr n.f)) .nil))⟩
theorem it_enum {elts : List Expr} {kk : Nat} {tpos pp : Pos} {ds : List D} (h : Px X e g l (.lst ds)) (hm : X.mg "enumerate" = none) (hg : Gl X "enumerate" := by rfl) (hs : starEach [e] X.env = [(false, eval e X.env)] := by rfl) : Itw X (.Tuple elts kk tpos) (.Call (.Name "enumerate" p) [e] [] pp) g l (enumD ds) :=
  ⟨_, pi_enum hg hm (pa_wp (es := [e])) hs, fun en T σ H R s k => pa_c h pa_n hs en T σ H _ s fun vs H1 s1 => by
  obtain ⟨F, M, q⟩ := s1
  obtain ⟨f, t⟩ := q.tm
  cases f with
  | cons a b =>
    cases b
    cases a with
    | lst sq a => exact ⟨_, _, rfl, ex_l q.exF sq, k _ H1 F M (q.tmp t) (jg_enum sq a)⟩⟩
def zipD (ds es : List D) : List D := (ds.zip es).map fun q => D.tup [q.1, q.2]
theorem zipD_len {ds es : List D} : (zipD ds es).length = min ds.length es.length := by unfold zipD; rw [List.length_map, List.length_zip]
theorem zipD_get {ds es : List D} {i : Nat} {d : D} (h : (zipD ds es)[i]? = some d) : ∃ a b, ds[i]? = some a ∧ es[i]? = some b ∧ d = .tup [a, b] := by
  unfold zipD at h
  rw [List.getElem?_map] at h
  cases q : (ds.zip es)[i]? with
  | none => rw [q] at h; cases h
  | some r =>
    rw [q] at h
    obtain ⟨h1, h2⟩ := List.getElem?_zip_eq_some.mp q
    exact ⟨r.1, r.2, h1, h2, (Option.some.inj h).symm⟩
theorem jg_zip {K : PySem.W.Frag} {F : Hp} {a b : Addr} {vs ws : List V} {ds es : List D} (s : SqL K F a vs) (f : FdAll K F vs ds) (s' : SqL K F b ws) (f' : FdAll K F ws es) : JG K F (Itz K a b) (zipD ds es) := fun F' H e1 e2 => by
  have s2 : SqL K H a vs := ex_l (e1.tr e2) s
  have s3 : SqL K H b ws := ex_l (e1.tr e2) s'
  refine ⟨fun i hi => ?_, ⟨vs, ws, s2, s3, by rw [zipD_len, f.length, f'.length]; omega⟩, fun i d x H' hd hy => ?_⟩
  · rw [zipD_len] at hi
    have q : i < vs.length := by rw [f.length]; omega
    have q' : i < ws.length := by rw [f'.length]; omega
    exact ⟨vs, ws, vs[i], ws[i], s2, s3, List.getElem?_eq_getElem q, List.getElem?_eq_getElem q'⟩
  · obtain ⟨T, y, z, rfl, hT, rfl, h, h'⟩ := hy
    obtain ⟨a', b', ha, hb, rfl⟩ := zipD_get hd
    obtain ⟨v, h1, h2⟩ := f.get ha
    obtain ⟨v', h1', h2'⟩ := f'.get hb
    have e := Option.some.inj (h1.symm.trans (h vs s2))
    subst e
    have e := Option.some.inj (h1'.symm.trans (h' ws s3))
    subst e
    have n := New.upd (o := .tup [v, v']) e2 hT
    exact ⟨_, n, .tup (SqT.of upd_same) (.cons (h2.mono (e1.tr n.f)) (.cons (h2'.mono (e1.tr n.f)) .nil))⟩
theorem it_zip {elts : List Expr} {kk : Nat} {tpos pp : Pos} {ds es' : List D} (h : Px X e g l (.lst ds)) (h' : Px X e2 g l (.lst es')) (hm : X.mg "zip" = none) (hg : Gl X "zip" := by rfl) (hs : starEach [e, e2] X.env = (false, eval e X.env) :: starEach [e2] X.env := by rfl) (hs2 : starEach [e2] X.env = [(false, eval e2 X.env)] := by rfl)
    (hpl : (backTo pp (starEach [e2] X.env)).any (·.1) = false := by rfl) : Itw X (.Tuple elts kk tpos) (.Call (.Name "zip" p) [e, e2] [] pp) g l (zipD ds es') :=
  ⟨_, pi_zip hg hm (pa_wp (es := [e, e2])) hs hpl, fun en T σ H R s k => pa_c h (pa_c h' pa_n hs2) hs en T σ H _ s fun vs H1 s1 => by
  obtain ⟨F, M, q⟩ := s1
  obtain ⟨f, t⟩ := q.tm
  cases f with
  | cons a b =>
    cases b with
    | cons b c =>
      cases c
      cases a with
      | lst sq a =>
        cases b with
        | lst sq' b => exact ⟨_, _, _, _, rfl, ex_l q.exF sq, ex_l q.exF sq', k _ H1 F M (q.tmp t) (jg_zip sq a sq' b)⟩⟩
/-- text, sign by sign -/
def signs (x : Str) : List D := x.cps.toList.map fun c => D.str ⟨#[c]⟩
theorem it_str {tg : Expr} {x : Str} (h : Px X e g l (.str x)) : Itw X tg e g l (signs x) := ⟨_, pi_str pe_wp, fun en T σ H R s k => h en T σ H _ s fun v H1 s1 => by
  obtain ⟨F, M, q⟩ := s1
  obtain ⟨f, t⟩ := q.tm
  cases f
  refine ⟨x, rfl, k _ H1 F M (q.tmp t) fun F' H' e1 e2 => ?_⟩
  have el : (signs x).length = x.cps.size := by unfold signs; rw [List.length_map, Array.length_toList]
  refine ⟨fun i hi => by rw [el] at hi; exact hi, by show x.cps.size ≤ _; rw [el]; exact Nat.le_refl _, fun i d y H'' hd hy => ?_⟩
  obtain ⟨rfl, c, hc, rfl⟩ := hy
  unfold signs at hd
  rw [List.getElem?_map, Array.getElem?_toList, hc] at hd
  cases hd
  exact ⟨F', .rf e2, .str _⟩⟩
/-- for target in ..: body -/
theorem blk_for {tg iter : Expr} {body : List Stmt} {gt : TG} {is : List Nat} {ds : List D} (I : Nat → Gm → List Res → Prop) (hp : PassesOwn (model X.prog X.w) X.A X.env X.xe) (hc : X.calm = true) (hi : Itw X tg iter g l ds) (hg : PG X tg gt) (h0 : I 0 g l)
    (hs : ∀ i d g' l', ds[i]? = some d → I i g' l' → ∃ es, Tg X.K gt is d es ∧ Blk X W body (sets g' is es) l' { nx := I (i + 1), ct := I (i + 1), bk := fun g2 l2 => Blk X W rest g2 l2 Φ, rt := Φ.rt, ex := Φ.ex })
    (hd : ∀ g' l', I ds.length g' l' → Blk X W rest g' l' Φ) (hf : ∀ x, foldedSetIterable iter X.env x = pure x := by intro _; rfl) : Blk X W (.For tg iter body [] pos :: rest) g l Φ := fun en T σ H D s m => by
  obtain ⟨wi, pi, hw⟩ := hi
  refine wpS_of (pss_cons (ps_for hp hc pi hg pss_wp hf) pss_wp) ?_
  refine hw en T σ H _ s fun J H1 F0 M0 q0 jg => ?_
  refine ⟨fun i m σ' H' => i + m = ds.length ∧ ∃ g' l', I i g' l' ∧ S X.K en g' (T.ex F0) l' σ' H', ⟨ds.length, by simp, g, l, h0, F0, M0, q0.tmp ⟨.rf, q0.tm⟩⟩, fun i n σ' H' hW => ?_⟩
  obtain ⟨em, g', l', hI, F, M, q⟩ := hW
  obtain ⟨jgo, jst, jy⟩ := jg F H' q.tm.1 q.exF
  cases n with
  | zero =>
    have e : i = ds.length := by omega
    subst e
    exact .inl ⟨jst, hd g' l' hI en T σ' H' D ⟨F, M, q.tmp q.tm.2⟩ m⟩
  | succ n =>
    have hi : i < ds.length := by omega
    refine .inr ⟨jgo i hi, fun σ2 H2 => ∃ g2 l2, I (i + 1) g2 l2 ∧ S X.K en g2 (T.ex F0) l2 σ2 H2, fun σ2 H2 ⟨g2, l2, h1, h2⟩ => ⟨n, by omega, by omega, g2, l2, h1, h2⟩, fun x H2 hy => ?_⟩
    obtain ⟨es, htg, hb⟩ := hs i ds[i] g' l' (List.getElem?_eq_getElem hi) hI
    obtain ⟨F2, nw, fx⟩ := jy i ds[i] x H2 (List.getElem?_eq_getElem hi) hy
    have q2 := q.new nw
    refine htg F2 H2 x σ' _ q2.exF fx fun vs fvs => ?_
    refine hb en (T.ex F0) _ H2 _ ⟨F2, M, q2.slots (q2.sl.sets fvs)⟩ ⟨fun g2 l2 σ2 H2 h s2 => ⟨g2, l2, h, s2⟩, fun d l v H h s2 => ?_, fun g2 l2 σ2 H2 h s2 => ?_, fun g2 l2 σ2 H2 h s2 => ⟨g2, l2, h, s2⟩, fun cls d g l σ H h s2 => ?_⟩
    · obtain ⟨F, M, q⟩ := s2
      exact m.rt d l v H h ⟨F, M, q.tmp ⟨q.tm.1, q.tm.2.2⟩⟩
    · obtain ⟨F, M, q⟩ := s2
      exact h en T σ2 H2 D ⟨F, M, q.tmp q.tm.2⟩ m
    · obtain ⟨F, M, q⟩ := s2
      exact m.ex cls d g l σ H h ⟨F, M, q.tmp q.tm.2⟩
/-- while -/
theorem blk_while {c : Expr} {body : List Stmt} (I : Nat → Gm → List Res → Prop) (hp : PassesOwn (model X.prog X.w) X.A X.env X.xe) (n0 : Nat) (h0 : I n0 g l)
    (hs : ∀ n g' l', I n g' l' → ∃ b, Ts X c g' l' b ∧ (b = true → Blk X W body g' l' { nx := fun g2 l2 => ∃ m, m < n ∧ I m g2 l2, ct := fun g2 l2 => ∃ m, m < n ∧ I m g2 l2, bk := fun g2 l2 => Blk X W rest g2 l2 Φ, rt := Φ.rt, ex := Φ.ex }) ∧ (b = false → Blk X W rest g' l' Φ)) :
    Blk X W (.While c body [] pos :: rest) g l Φ := fun en T σ H D s m => by
  refine wpS_of (pss_cons (ps_while hp pt_wp pss_wp) pss_wp) ?_
  refine ⟨fun n σ' H' => ∃ g' l', I n g' l' ∧ S X.K en g' T l' σ' H', ⟨n0, g, l, h0, s⟩, fun n σ' H' hW => ?_⟩
  obtain ⟨g', l', hI, s'⟩ := hW
  obtain ⟨b, hc, h1, h2⟩ := hs n g' l' hI
  refine hc en T σ' H' _ s' fun H2 s2 => ?_
  cases b with
  | true =>
    refine ⟨fun σ2 H2 => ∃ k, k < n ∧ ∃ g2 l2, I k g2 l2 ∧ S X.K en g2 T l2 σ2 H2, fun σ2 H2 h => h, ?_⟩
    refine h1 rfl en T σ' H2 _ s2 ⟨fun g2 l2 σ2 H2 ⟨k, hk, h⟩ s2 => ⟨k, hk, g2, l2, h, s2⟩, m.rt, fun g2 l2 σ2 H2 h s2 => h en T σ2 H2 D s2 m, fun g2 l2 σ2 H2 ⟨k, hk, h⟩ s2 => ⟨k, hk, g2, l2, h, s2⟩, m.ex⟩
  | false => exact h2 rfl en T σ' H2 D s2 m
end
end Sx
set_option Elab.async false
set_option linter.all false
set_option maxRecDepth 100000
set_option maxHeartbeats 2000000
/-! List comprehensions. -/
namespace Sx
open PySem L2

theorem wipe_at {σ : L2.St} {j : Nat} : ∀ {vs : List Nat}, (wipe σ vs)[j]? = if j ∈ vs then (σ[j]?).map (fun _ => none) else σ[j]?
  | [] => by simp [wipe]
  | v :: vs => by
    unfold wipe
    by_cases e : v = j
    · subst e
      rw [if_pos List.mem_cons_self]
      by_cases h : v < σ.length
      · rw [List.getElem?_set_self (by rw [wipe_length]; exact h), List.getElem?_eq_getElem h]; rfl
      · rw [List.getElem?_eq_none (by rw [List.length_set, wipe_length]; omega), List.getElem?_eq_none (by omega)]; rfl
    · rw [List.getElem?_set_ne e, wipe_at (vs := vs)]
      have q : j ∈ v :: vs ↔ j ∈ vs := by
        rw [List.mem_cons]
        exact ⟨fun h => h.elim (fun z => absurd z.symm e) id, .inr⟩
      by_cases z : j ∈ vs
      · rw [if_pos z, if_pos (q.mpr z)]
      · rw [if_neg z, if_neg (fun y => z (q.mp y))]
theorem wipe_set {σ : L2.St} {vs : List Nat} {i : Nat} {x : Option V} (h : i ∈ vs) : wipe (σ.set i x) vs = wipe σ vs := by
  apply List.ext_getElem?
  intro j
  rw [wipe_at, wipe_at]
  by_cases z : j ∈ vs
  · rw [if_pos z, if_pos z]
    by_cases e : i = j
    · subst e
      by_cases q : i < σ.length
      · rw [List.getElem?_set_self q, List.getElem?_eq_getElem q]; rfl
      · rw [List.getElem?_eq_none (by rw [List.length_set]; omega), List.getElem?_eq_none (by omega)]
    · rw [List.getElem?_set_ne e]
  · rw [if_neg z, if_neg z]
    rw [List.getElem?_set_ne (fun e => z (by rw [← e]; exact h))]
theorem wipe_wipe {σ : L2.St} {vs : List Nat} : wipe (wipe σ vs) vs = wipe σ vs := by
  apply List.ext_getElem?
  intro j
  rw [wipe_at, wipe_at]
  by_cases z : j ∈ vs
  · rw [if_pos z, if_pos z]; cases σ[j]? <;> rfl
  · rw [if_neg z, if_neg z]
theorem wipe_sets {vs : List Nat} : ∀ {is : List Nat} {ws : List V} {σ : L2.St}, (∀ i ∈ is, i ∈ vs) → wipe (setsV σ is ws) vs = wipe σ vs
  | [], _, _, _ => by unfold setsV; rfl
  | _ :: _, [], _, _ => by unfold setsV; rfl
  | i :: is, w :: ws, σ, h => by
    unfold setsV
    rw [wipe_sets (is := is) fun j hj => h j (List.mem_cons_of_mem _ hj), wipe_set (h i List.mem_cons_self)]
def wipeG (g : Gm) : List Nat → Gm
  | [] => g
  | v :: vs => (wipeG g vs).set v none
theorem Sl.wipe {K : PySem.W.Frag} {F : Hp} {g : Gm} {σ : L2.St} (h : Sl K F g σ) : ∀ vs, Sl K F (wipeG g vs) (L2.wipe σ vs)
  | [] => h
  | v :: vs => by
    unfold wipeG L2.wipe
    exact (Sl.wipe h vs).clear v
section
variable {X : Cx} {W : WX} {g g' : Gm} {l l' : List Res} {Φ : Po} {e e2 a b c o : Expr} {es : List Expr} {d d1 d2 d3 : D} {pos p p2 : Pos} {rest : List Stmt}
/-- a part that is owned and not touched -/
theorem S.fr {K : PySem.W.Frag} {en : En} {T : Tm} {r : Res} {σ : L2.St} {H : Hp} (s : S K en g T (r :: l) σ H) : ∃ en', S K en' g T l σ H ∧ ∀ {T' : Tm} {H' : Hp} {g' : Gm} {σ' : L2.St}, S K en' g' T' l σ' H' → S K en g' T' (r :: l) σ' H' := by
  obtain ⟨F, M, q⟩ := s
  obtain ⟨A, B, rfl, dj, p, rs⟩ := q.rs
  refine ⟨⟨F, B, H⟩, ⟨F, B, At.entry q.exF (q.exM.joinR dj) (Dj.r dj q.dj.sym).sym q.sl q.tm rs⟩, fun {T'} {H'} {g'} {σ'} ⟨F2, M2, b⟩ => ?_⟩
  have e : join A B = join B A := dj.comm
  rw [e] at q
  have z := q.frame (lB := [r]) dj.sym ⟨A, emp, (join_emp A).symm, Dj.emp A, p, rfl⟩ b
  have z2 : At K en g' T' (l ++ [r]) σ' H' F2 (join M2 A) := (z.tmp b.tm).slots b.sl
  exact S.perm (List.perm_append_singleton r l) ⟨F2, _, z2⟩
theorem Px.fr {r : Res} (h : Px X e g l d) : Px X e g (r :: l) d := fun en T σ H Q s k => by
  obtain ⟨en', s', back⟩ := s.fr
  exact h en' T σ H Q s' fun v H' s2 => k v H' (back s2)
theorem Ts.fr {r : Res} {k : Bool} (h : Ts X e g l k) : Ts X e g (r :: l) k := fun en T σ H Q s kk => by
  obtain ⟨en', s', back⟩ := s.fr
  exact h en' T σ H Q s' fun H' s2 => kk H' (back s2)
/-- the slots as they stood -/
def Tm.sl (K : PySem.W.Frag) (T : Tm) (g : Gm) (σ : L2.St) : Tm := ⟨fun F => Sl K F g σ ∧ T.P F, fun e h => ⟨h.1.mono e, T.mono e h.2⟩⟩
/-- what is kept -/
def keepL (rs : List (Option D)) : List D := rs.filterMap id
theorem keepL_some {rs : List D} : keepL (rs.map some) = rs := by
  unfold keepL
  rw [List.filterMap_map]
  show List.filterMap (fun x => some x) rs = rs
  rw [List.filterMap_some]
theorem keepL_len {rs : List (Option D)} : (keepL rs).length ≤ rs.length := List.length_filterMap_le _ _
abbrev Blkc (X : Cx) (scope : Scope) (Pp : Cx → Prop) : Prop := ∀ (s : Shared) (H : Hp) (C : Addr) (cl : List (Str × Addr)) (fp : List Addr), Pp (X.blk s H scope (compEnvC scope cl C X.env) fp)
/-- the reading of a comprehension -/
theorem lc_read {own : List (Str × Nat)} {gt : TG} {is : List Nat} {ds : List D} {rs : List (Option D)} {wi : TI} {te : TE} {tt : TT}
    (hw : ∀ en T σ H (R : It → Hp → Prop), S X.K en g T l σ H → (∀ J H1 F M, At X.K en g T l σ H1 F M → JG X.K F J ds → R J H1) → wi σ H R)
    (his : ∀ i ∈ is, i ∈ own.map (·.2)) (hlen : rs.length = ds.length) (hz : rs.length ≤ sizeLine)
    (hs : ∀ (i : Nat) (d : D), ds[i]? = some d → ∃ es k r, Tg X.K gt is d es ∧ rs[i]? = some (if k = true then some r else none) ∧
      (∀ r0 en T σ H (Q : Bool → Hp → Prop), S X.K en (sets (wipeG g (own.map (·.2))) is es) T (r0 :: l) σ H → (∀ H', S X.K en (sets (wipeG g (own.map (·.2))) is es) T (r0 :: l) σ H' → Q k H') → tt σ H Q) ∧
      (k = true → ∀ r0 en T σ H (Q : VK), S X.K en (sets (wipeG g (own.map (·.2))) is es) T (r0 :: l) σ H → (∀ v H', S X.K en (sets (wipeG g (own.map (·.2))) is es) (T.and X.K v r) (r0 :: l) σ H' → Q v H') → te σ H Q))
    {en : En} {T : Tm} {σ : L2.St} {H : Hp} {Q : VK} (s : S X.K en g T l σ H) (kk : ∀ p H', S X.K en g T (ownL X.K p (keepL rs) :: l) σ H' → Q (.ref p) H') : tLc wi gt tt te (own.map (·.2)) σ H Q := by
  refine hw en T σ H _ s fun J H1 F0 M0 q0 jg => ?_
  intro Dl hD
  refine ⟨fun i m H' => i + m = ds.length ∧ S X.K en (wipeG g (own.map (·.2))) ((T.sl X.K g σ).ex F0) (ownL X.K Dl (keepL (rs.take i)) :: l) (L2.wipe σ (own.map (·.2))) H', ⟨ds.length, by simp, ?_⟩, fun i m H' hW => ?_⟩
  · have q1 := q0.newO (r := ownL X.K Dl []) (A := one Dl (.lst [])) (H' := upd H1 Dl (.lst [])) (.new hD) (fun x o z => by obtain ⟨rfl, rfl⟩ := one_some z; exact upd_same) (fun x o z => by obtain ⟨rfl, rfl⟩ := one_some z; exact hD) ⟨[], .nil, rfl⟩
    rw [List.take_zero]
    exact ⟨F0, _, (q1.tmp (T' := (T.sl X.K g σ).ex F0) ⟨.rf, q0.sl, q0.tm⟩).slots (q0.sl.wipe _)⟩
  · obtain ⟨em, F, M, q⟩ := hW
    obtain ⟨jgo, jst, jy⟩ := jg F H' q.tm.1 q.exF
    cases m with
    | zero =>
      have e : i = ds.length := by omega
      subst e
      refine .inl ⟨jst, kk Dl H' ⟨F, M, ?_⟩⟩
      rw [List.take_of_length_le (by omega)] at q
      exact (q.tmp (T' := T) q.tm.2.2).slots q.tm.2.1
    | succ m =>
      have hi : i < ds.length := by omega
      refine .inr ⟨jgo i hi, fun H2 => S X.K en (wipeG g (own.map (·.2))) ((T.sl X.K g σ).ex F0) (ownL X.K Dl (keepL (rs.take (i + 1))) :: l) (L2.wipe σ (own.map (·.2))) H2, fun H2 h => ⟨m, by omega, by omega, h⟩, fun x H2 hy => ?_⟩
      obtain ⟨es, b, r, htg, hr, ht, he⟩ := hs i ds[i] (List.getElem?_eq_getElem hi)
      obtain ⟨F2, nw, fx⟩ := jy i ds[i] x H2 (List.getElem?_eq_getElem hi) hy
      have q2 := q.new nw
      refine htg F2 H2 x _ _ q2.exF fx fun vs fvs => ?_
      refine ⟨by rw [wipe_sets his, wipe_wipe], ?_⟩
      have et : rs.take (i + 1) = rs.take i ++ [if b = true then some r else none] := by
        rw [List.take_add_one, hr]; rfl
      refine ht _ en ((((T.sl X.K g σ).ex F0)).sl X.K (wipeG g (own.map (·.2))) (L2.wipe σ (own.map (·.2)))) _ H2 _ ⟨F2, M, (q2.tmp (T' := (((T.sl X.K g σ).ex F0)).sl X.K (wipeG g (own.map (·.2))) (L2.wipe σ (own.map (·.2)))) ⟨q2.sl, q2.tm⟩).slots (q2.sl.sets fvs)⟩ fun H3 s3 => ?_
      cases b with
      | false =>
        show S X.K en _ _ _ _ H3
        obtain ⟨F3, M3, q3⟩ := s3
        rw [et]
        have e2 : keepL (rs.take i ++ [if false = true then some r else none]) = keepL (rs.take i) := by
          unfold keepL
          rw [List.filterMap_append]
          show _ ++ [] = _
          rw [List.append_nil]
        rw [e2]
        exact ⟨F3, M3, (q3.tmp q3.tm.2).slots q3.tm.1⟩
      | true =>
        show te _ H3 _
        refine he rfl _ en _ _ H3 _ s3 fun v H4 s4 => ?_
        obtain ⟨F4, M4, q4⟩ := s4
        obtain ⟨ws, fw, hp⟩ := q4.rs.own (k := 0) rfl q4.exM
        refine ⟨ws, hp, ?_, ?_⟩
        · rw [fw.length]
          have h1 := keepL_len (rs := rs.take i)
          rw [List.length_take] at h1
          omega
        · obtain ⟨M5, q5⟩ := (q4.tmp q4.tm.2).putL (k := 0) rfl (fw.app (.cons q4.tm.1 .nil))
          rw [et]
          have e2 : keepL (rs.take i ++ [if true = true then some r else none]) = keepL (rs.take i) ++ [r] := by
            unfold keepL
            rw [List.filterMap_append]
            rfl
          rw [e2]
          exact ⟨F4, M5, (q5.tmp q5.tm.2).slots q5.tm.1⟩
def teB (X : Cx) (scope : Scope) (e : Expr) : TE := fun σ H Q => Blkc X scope fun Y => wpE Y e σ H Q
def ttB (X : Cx) (scope : Scope) (e : Expr) : TT := fun σ H Q => Blkc X scope fun Y => wpT Y e σ H Q
theorem teB_pe {scope : Scope} : ∀ (s : Shared) (H : Hp) (C : Addr) (cl : List (Str × Addr)) (fp : List Addr), PE (X.blk s H scope (compEnvC scope cl C X.env) fp) e (teB X scope e) := fun s H C cl fp => ⟨fun pins s' σ H' Q I h => h s H C cl fp pins s' I⟩
theorem ttB_pt {scope : Scope} : ∀ (s : Shared) (H : Hp) (C : Addr) (cl : List (Str × Addr)) (fp : List Addr), PT (X.blk s H scope (compEnvC scope cl C X.env) fp) e (ttB X scope e) := fun s H C cl fp => ⟨fun pins s' σ H' Q I h => h s H C cl fp pins s' I⟩
/-- [elt for tg in iter], a new list -/
theorem ev_lc {tg iter elt : Expr} {scope : Scope} {own : List (Str × Nat)} {gt : TG} {is : List Nat} {ds rs : List D} (hc : X.calm = true) (hN : X.N.Nodup) (hi : Itw X tg iter g l ds) (ok : BlkOk X.N X.env.scope scope own)
    (hg : Blkc X scope fun Y => PG Y tg gt) (his : ∀ i ∈ is, i ∈ own.map (·.2)) (hlen : rs.length = ds.length) (hz : rs.length ≤ sizeLine)
    (hs : ∀ (i : Nat) (d : D), ds[i]? = some d → ∃ es r, Tg X.K gt is d es ∧ rs[i]? = some r ∧ Blkc X scope fun Y => Px Y elt (sets (wipeG g (own.map (·.2))) is es) l r) (hf : ∀ x, foldedSetIterable iter X.env x = pure x := by intro _; rfl) :
    Ev X (.ListComp elt [⟨tg, iter, [], 0⟩] scope pos) g l (fun d' l' => ∃ p, d' = .adr p ∧ l' = ownL X.K p rs :: l) := fun en T σ H Q s k => by
  obtain ⟨wi, pi, hw⟩ := hi
  refine wpE_of (pe_lc hc hN pi ok hg (fun _ _ _ _ _ => pts_nil) teB_pe hf) ?_
  refine lc_read (rs := rs.map some) hw his (by rw [List.length_map]; exact hlen) (by rw [List.length_map]; exact hz) (fun i d hd => ?_) s fun p H' s' => ?_
  · obtain ⟨es, r, h1, h2, h3⟩ := hs i d hd
    refine ⟨es, true, r, h1, by rw [List.getElem?_map, h2]; rfl, fun r0 en T σ H Q s kk => kk H s, fun _ r0 en T σ H Q s kk => ?_⟩
    intro s0 H0 C cl fp
    exact (h3 s0 H0 C cl fp).fr en T σ H Q s kk
  · rw [keepL_some] at s'
    obtain ⟨F, M, q⟩ := s'
    exact k _ _ _ H' ⟨p, rfl, rfl⟩ ⟨F, M, q.tmp ⟨.adr p, q.tm⟩⟩
theorem px_lc {tg iter elt : Expr} {scope : Scope} {own : List (Str × Nat)} {gt : TG} {is : List Nat} {ds rs : List D} (hc : X.calm = true) (hN : X.N.Nodup) (hi : Itw X tg iter g l ds) (ok : BlkOk X.N X.env.scope scope own)
    (hg : Blkc X scope fun Y => PG Y tg gt) (his : ∀ i ∈ is, i ∈ own.map (·.2)) (hlen : rs.length = ds.length) (hz : rs.length ≤ sizeLine)
    (hs : ∀ (i : Nat) (d : D), ds[i]? = some d → ∃ es r, Tg X.K gt is d es ∧ rs[i]? = some r ∧ Blkc X scope fun Y => Px Y elt (sets (wipeG g (own.map (·.2))) is es) l r) (hf : ∀ x, foldedSetIterable iter X.env x = pure x := by intro _; rfl) :
    Px X (.ListComp elt [⟨tg, iter, [], 0⟩] scope pos) g l (.lst rs) := (ev_lc hc hN hi ok hg his hlen hz hs hf).frz
/-- [elt for tg in iter if c] -/
theorem ev_lcIf {tg iter elt : Expr} {scope : Scope} {own : List (Str × Nat)} {gt : TG} {is : List Nat} {ds : List D} {rs : List (Option D)} (hc : X.calm = true) (hN : X.N.Nodup) (hi : Itw X tg iter g l ds) (ok : BlkOk X.N X.env.scope scope own)
    (hg : Blkc X scope fun Y => PG Y tg gt) (his : ∀ i ∈ is, i ∈ own.map (·.2)) (hlen : rs.length = ds.length) (hz : rs.length ≤ sizeLine)
    (hs : ∀ (i : Nat) (d : D), ds[i]? = some d → ∃ es k r, Tg X.K gt is d es ∧ rs[i]? = some (if k = true then some r else none) ∧ (Blkc X scope fun Y => Ts Y c (sets (wipeG g (own.map (·.2))) is es) l k) ∧ (k = true → Blkc X scope fun Y => Px Y elt (sets (wipeG g (own.map (·.2))) is es) l r)) (hf : ∀ x, foldedSetIterable iter X.env x = pure x := by intro _; rfl) :
    Ev X (.ListComp elt [⟨tg, iter, [c], 0⟩] scope pos) g l (fun d' l' => ∃ p, d' = .adr p ∧ l' = ownL X.K p (keepL rs) :: l) := fun en T σ H Q s k => by
  obtain ⟨wi, pi, hw⟩ := hi
  refine wpE_of (pe_lc hc hN pi ok hg (fun s H C cl fp => pts_one (ttB_pt s H C cl fp)) teB_pe hf) ?_
  refine lc_read (rs := rs) hw his hlen hz (fun i d hd => ?_) s fun p H' s' => ?_
  · obtain ⟨es, b, r, h1, h2, h3, h4⟩ := hs i d hd
    refine ⟨es, b, r, h1, h2, fun r0 en T σ H Q s kk => ?_, fun hb r0 en T σ H Q s kk => ?_⟩
    · intro s0 H0 C cl fp
      exact (h3 s0 H0 C cl fp).fr en T σ H Q s kk
    · intro s0 H0 C cl fp
      exact (h4 hb s0 H0 C cl fp).fr en T σ H Q s kk
  · obtain ⟨F, M, q⟩ := s'
    exact k _ _ _ H' ⟨p, rfl, rfl⟩ ⟨F, M, q.tmp ⟨.adr p, q.tm⟩⟩
theorem px_lcIf {tg iter elt : Expr} {scope : Scope} {own : List (Str × Nat)} {gt : TG} {is : List Nat} {ds : List D} {rs : List (Option D)} (hc : X.calm = true) (hN : X.N.Nodup) (hi : Itw X tg iter g l ds) (ok : BlkOk X.N X.env.scope scope own)
    (hg : Blkc X scope fun Y => PG Y tg gt) (his : ∀ i ∈ is, i ∈ own.map (·.2)) (hlen : rs.length = ds.length) (hz : rs.length ≤ sizeLine)
    (hs : ∀ (i : Nat) (d : D), ds[i]? = some d → ∃ es k r, Tg X.K gt is d es ∧ rs[i]? = some (if k = true then some r else none) ∧ (Blkc X scope fun Y => Ts Y c (sets (wipeG g (own.map (·.2))) is es) l k) ∧ (k = true → Blkc X scope fun Y => Px Y elt (sets (wipeG g (own.map (·.2))) is es) l r)) (hf : ∀ x, foldedSetIterable iter X.env x = pure x := by intro _; rfl) :
    Px X (.ListComp elt [⟨tg, iter, [c], 0⟩] scope pos) g l (.lst (keepL rs)) := (ev_lcIf hc hN hi ok hg his hlen hz hs hf).frz
/-- x = [..] on one line, x a local name -/
theorem blk_setLcX {tg iter elt : Expr} {ifs : List Expr} {scope : Scope} {own : List (Str × Nat)} {i : Nat} {y : Str} {py spos : Pos} {Psi : D → List Res → Prop} {wi : TI} {gt : TG} {tt : TT} {te : TE}
    (hps : PS X (.Assign [.Name y py] (.ListComp elt [⟨tg, iter, ifs, 0⟩] scope pos) spos) (tAsg (tLc wi gt tt te (own.map (·.2))) (gName i)))
    (hr : ∀ en T σ H (Q : VK), S X.K en g T l σ H → (∀ v d l' H', Psi d l' → S X.K en g (T.and X.K v d) l' σ H' → Q v H') → tLc wi gt tt te (own.map (·.2)) σ H Q)
    (h : ∀ d l', Psi d l' → Blk X W rest (g.set i (some d)) l' Φ) : Blk X W (.Assign [.Name y py] (.ListComp elt [⟨tg, iter, ifs, 0⟩] scope pos) spos :: rest) g l Φ := fun en T σ H D s m => wpS_of (pss_cons hps pss_wp) (by
  show tLc wi gt tt te (own.map (·.2)) σ H (fun x H1 => gName i x σ H1 (wpS X rest D))
  refine hr en T σ H _ s fun v d l' H' p s' => ?_
  obtain ⟨F, M, a⟩ := s'
  exact h d l' p en T (σ.set i (some v)) H' D ⟨F, M, (a.tmp a.tm.2).slots (a.sl.set i a.tm.1)⟩ m)
theorem blk_setLcO {tg iter elt : Expr} {scope : Scope} {own : List (Str × Nat)} {gt : TG} {is : List Nat} {ds rs : List D} {i : Nat} {y : Str} {py spos : Pos} (hc : X.calm = true) (hN : X.N.Nodup) (hy : X.N[i]? = some y) (hyl : X.env.scope.names.lookup y = some .local)
    (hsw : swapsWith (.ListComp elt [⟨tg, iter, [], 0⟩] scope pos) (some (.Name y py)) spos.line X.env = pure true) (hi : Itw X tg iter g l ds) (ok : BlkOk X.N X.env.scope scope own)
    (hg : Blkc X scope fun Y => PG Y tg gt) (his : ∀ i ∈ is, i ∈ own.map (·.2)) (hlen : rs.length = ds.length) (hz : rs.length ≤ sizeLine)
    (hs : ∀ (i : Nat) (d : D), ds[i]? = some d → ∃ es r, Tg X.K gt is d es ∧ rs[i]? = some r ∧ Blkc X scope fun Y => Px Y elt (sets (wipeG g (own.map (·.2))) is es) l r)
    (h : ∀ p, Blk X W rest (g.set i (some (.adr p))) (ownL X.K p rs :: l) Φ) (hf : ∀ x, foldedSetIterable iter X.env x = pure x := by intro _; rfl) : Blk X W (.Assign [.Name y py] (.ListComp elt [⟨tg, iter, [], 0⟩] scope pos) spos :: rest) g l Φ := by
  obtain ⟨wi, pi, hw⟩ := hi
  refine blk_setLcX (Psi := fun d' l' => ∃ p, d' = .adr p ∧ l' = ownL X.K p rs :: l) (ps_setLc hc hN hy hyl hsw pi ok hg (fun _ _ _ _ _ => pts_nil) teB_pe hf) (fun en T σ H Q s k => ?_) fun d l' ⟨p, e1, e2⟩ => by subst e1; subst e2; exact h p
  refine lc_read (rs := rs.map some) hw his (by rw [List.length_map]; exact hlen) (by rw [List.length_map]; exact hz) (fun i d hd => ?_) s fun p H' s' => ?_
  · obtain ⟨es, r, h1, h2, h3⟩ := hs i d hd
    refine ⟨es, true, r, h1, by rw [List.getElem?_map, h2]; rfl, fun r0 en T σ H Q s kk => kk H s, fun _ r0 en T σ H Q s kk => ?_⟩
    intro s0 H0 C cl fp
    exact (h3 s0 H0 C cl fp).fr en T σ H Q s kk
  · rw [keepL_some] at s'
    obtain ⟨F, M, q⟩ := s'
    exact k _ _ _ H' ⟨p, rfl, rfl⟩ ⟨F, M, q.tmp ⟨.adr p, q.tm⟩⟩
theorem blk_setLcIfO {tg iter elt : Expr} {scope : Scope} {own : List (Str × Nat)} {gt : TG} {is : List Nat} {ds : List D} {rs : List (Option D)} {i : Nat} {y : Str} {py spos : Pos} (hc : X.calm = true) (hN : X.N.Nodup) (hy : X.N[i]? = some y) (hyl : X.env.scope.names.lookup y = some .local)
    (hsw : swapsWith (.ListComp elt [⟨tg, iter, [c], 0⟩] scope pos) (some (.Name y py)) spos.line X.env = pure true) (hi : Itw X tg iter g l ds) (ok : BlkOk X.N X.env.scope scope own)
    (hg : Blkc X scope fun Y => PG Y tg gt) (his : ∀ i ∈ is, i ∈ own.map (·.2)) (hlen : rs.length = ds.length) (hz : rs.length ≤ sizeLine)
    (hs : ∀ (i : Nat) (d : D), ds[i]? = some d → ∃ es k r, Tg X.K gt is d es ∧ rs[i]? = some (if k = true then some r else none) ∧ (Blkc X scope fun Y => Ts Y c (sets (wipeG g (own.map (·.2))) is es) l k) ∧ (k = true → Blkc X scope fun Y => Px Y elt (sets (wipeG g (own.map (·.2))) is es) l r))
    (h : ∀ p, Blk X W rest (g.set i (some (.adr p))) (ownL X.K p (keepL rs) :: l) Φ) (hf : ∀ x, foldedSetIterable iter X.env x = pure x := by intro _; rfl) : Blk X W (.Assign [.Name y py] (.ListComp elt [⟨tg, iter, [c], 0⟩] scope pos) spos :: rest) g l Φ := by
  obtain ⟨wi, pi, hw⟩ := hi
  refine blk_setLcX (Psi := fun d' l' => ∃ p, d' = .adr p ∧ l' = ownL X.K p (keepL rs) :: l) (ps_setLc hc hN hy hyl hsw pi ok hg (fun s H C cl fp => pts_one (ttB_pt s H C cl fp)) teB_pe hf) (fun en T σ H Q s k => ?_) fun d l' ⟨p, e1, e2⟩ => by subst e1; subst e2; exact h p
  refine lc_read (rs := rs) hw his hlen hz (fun i d hd => ?_) s fun p H' s' => ?_
  · obtain ⟨es, b, r, h1, h2, h3, h4⟩ := hs i d hd
    refine ⟨es, b, r, h1, h2, fun r0 en T σ H Q s kk => ?_, fun hb r0 en T σ H Q s kk => ?_⟩
    · intro s0 H0 C cl fp
      exact (h3 s0 H0 C cl fp).fr en T σ H Q s kk
    · intro s0 H0 C cl fp
      exact (h4 hb s0 H0 C cl fp).fr en T σ H Q s kk
  · obtain ⟨F, M, q⟩ := s'
    exact k _ _ _ H' ⟨p, rfl, rfl⟩ ⟨F, M, q.tmp ⟨.adr p, q.tm⟩⟩
end
end Sx
set_option Elab.async false
set_option linter.all false
set_option maxRecDepth 100000
set_option maxHeartbeats 2000000
/-! What a text's top has written; a law's own end. -/
namespace Sx
open PySem L2
/-- a def of the module | a method | a class | a class with its __init__ -/
def Dfn (K : PySem.W.Frag) (mg : Str → Option Value) (x : Str) (st : Stmt) : Prop := ∃ f fd, Fun K x x st f fd ∧ mg x = some (.ref f)
def Dmt (K : PySem.W.Frag) (C : Addr) (m qual : Str) (st : Stmt) : Prop := ∃ f fd, Fun K m qual st f fd ∧ Meth K C m f
def Din (K : PySem.W.Frag) (C : Addr) (qual : Str) (st : Stmt) : Prop := ∃ f fd, Fun K "__init__" qual st f fd ∧ Mk K C f
structure Dcl (K : PySem.W.Frag) (mg : Str → Option Value) (x : Str) (C : Addr) : Prop where
  mg : mg x = some (.ref C)
  cl : Cls K C
  kp : PySem.W.keepIn K (.ref C) = true
/-- an own class that isinstance may be asked about -/
structure Isi (K : PySem.W.Frag) (C : Addr) : Prop where
  (ha : PySem.W.findIn K (.ref C) "__class__" = some (some (.builtin "object.__class__"))) (hn : PySem.W.specialIn K (.builtin "object.__class__") "__get__" = some (some (.builtin "getset_descriptor.__get__")))
  (htk : PySem.W.takesIn K (.builtin "object.__class__") = some true) (hm : PySem.W.mroIn K C (.type "object") = some true)
section
variable {K : PySem.W.Frag} {h : Heap} {mg : Str → Option Value} {C f : Addr} {x m qual : Str} {st : Stmt} {oc kV doc pm cdv ct : Value} {od an : Option Addr} {osl : Array (Option Value)}
theorem dfn_mk (X : K.In h) (G : h.Ns mainGlobals mg) (a : PySem.W.nsIn K mainGlobals x = some (some (.ref f))) (l : K.lookup f = some ⟨oc, od, .func (PySem.W.fnOf x x (defArgs st) (defBody st) (defScope st) .none kV doc pm an cdv ct), osl⟩) (c : PySem.W.codeIn K cdv x = true) (k : PySem.W.keepIn K (.ref f) = true) : Dfn K mg x st :=
  ⟨f, _, fun_mk l c k, PySem.W.mg_of X G a⟩
theorem dmt_mk (a : PySem.W.findIn K (.ref C) m = some (some (.ref f))) (i : PySem.W.isFn K (.ref f) = true) (l : K.lookup f = some ⟨oc, od, .func (PySem.W.fnOf m qual (defArgs st) (defBody st) (defScope st) .none kV doc pm an cdv ct), osl⟩) (c : PySem.W.codeIn K cdv qual = true) (k : PySem.W.keepIn K (.ref f) = true) : Dmt K C m qual st :=
  ⟨f, _, fun_mk l c k, ⟨a, i, k⟩⟩
theorem din_mk (mk : PySem.W.makesIn K C = true) (kc : PySem.W.keepIn K (.ref C) = true) (a : PySem.W.findIn K (.ref C) "__init__" = some (some (.ref f))) (i : PySem.W.isFn K (.ref f) = true) (l : K.lookup f = some ⟨oc, od, .func (PySem.W.fnOf "__init__" qual (defArgs st) (defBody st) (defScope st) .none kV doc pm an cdv ct), osl⟩) (c : PySem.W.codeIn K cdv qual = true) (k : PySem.W.keepIn K (.ref f) = true) : Din K C qual st :=
  ⟨f, _, fun_mk l c k, ⟨mk, a, i, kc⟩⟩
theorem dcl_mk (X : K.In h) (G : h.Ns mainGlobals mg) (a : PySem.W.nsIn K mainGlobals x = some (some (.ref C))) (pg : PySem.W.plainGet K C Str.empty = true) (hd : PySem.W.hasDictIn K C = true) (po : PySem.W.plainOver K C = true) (sa : PySem.W.findIn K (.ref C) "__setattr__" = some (some (.builtin "object.__setattr__"))) (k : PySem.W.keepIn K (.ref C) = true) : Dcl K mg x C :=
  ⟨PySem.W.mg_of X G a, ⟨pg, hd, po, sa⟩, k⟩
end
section
variable {P : Program} {w : World} {K : PySem.W.Frag} {mg : Str → Option Value} {base : Heap} {k : Nat} {x m qual : Str} {st : Stmt} {ps : List Str} {sp : Sp} {C : Addr}
abbrev Bnd (x qual : Str) (st : Stmt) (ps : List Str) : Prop := ∀ (kV doc pm : Value) (an : Option Addr) (cdv ct : Value) (us : List Value), us.length = ps.length → bindArgs (PySem.W.fnOf x qual (defArgs st) (defBody st) (defScope st) .none kV doc pm an cdv ct) ⟨us, []⟩ = pure (ps.zip us)
theorem glo_of (d : Dfn K mg x st) (b : Bnd x x st ps) (h : ∀ f fd, Fun K x x st f fd → FnOk P w K mg base CX0 k f fd ps sp) : Glo P w K mg base k x ps sp := by
  obtain ⟨f, fd, F, hm⟩ := d
  exact ⟨f, fd, h f fd F, hm, F.kp, F.binds b⟩
theorem glom_of (d : Dmt K C m qual st) (c : Cls K C) (b : Bnd m qual st ps) (h : ∀ f fd, Fun K m qual st f fd → FnOk P w K mg base CX0 k f fd ps sp) : GloM P w K mg base k C m ps sp := by
  obtain ⟨f, fd, F, hm⟩ := d
  exact ⟨f, fd, h f fd F, c, hm, F.binds b⟩
theorem gloc_of (d : Din K C qual st) (c : Dcl K mg x C) (b : Bnd "__init__" qual st ps) (h : ∀ f fd, Fun K "__init__" qual st f fd → FnOk P w K mg base CX0 k f fd ps sp) : GloC P w K mg base k C x ps sp := by
  obtain ⟨f, fd, F, hm⟩ := d
  exact ⟨f, fd, h f fd F, hm, c.mg, F.binds b⟩
theorem Glo.mono {j : Nat} (g : Glo P w K mg base k x ps sp) (h : k ≤ j) : Glo P w K mg base j x ps sp := let ⟨f, fd, F, r⟩ := g; ⟨f, fd, F.mono h, r⟩
/-- the law: any script of at most 63 ints, True comes out -/
abbrev spL (K : PySem.W.Frag) : Sp := Pu K (fun ns : List Int => ns.length ≤ 63) (fun ns => [.lst (ns.map .int)]) (fun _ => .bl true)
def spLaw (K : PySem.W.Frag) : Sp := fun vs Hh Q _ => ∃ (q : Addr) (ns : List Int), vs = [.ref q] ∧ SqL K Hh q (ns.map V.int) ∧ ns.length ≤ 63 ∧ ∀ H2, Q (.bl true) H2
theorem law_imp {f : Addr} {fd : FuncData} (F : FnOk P w K mg base CX0 k f fd ps (spL K)) : FnOk P w K mg base CX0 k f fd ps (spLaw K) := F.imp fun vs H Q E h => by
  obtain ⟨a, ns, rfl, hS, hl, q⟩ := h
  refine ⟨ns, H, emp, hl, .rf, fun _ _ z => (by cases z), .emp _, .cons (.lst hS (FdAll.ofInts ns)) .nil, rfl, fun v d l' H' hp s => ?_, fun _ _ _ _ z => z.elim⟩
  obtain ⟨rfl, rfl⟩ := hp
  obtain ⟨F, M, a⟩ := s
  have f := a.tm.1
  cases f
  exact q H'
/-- as walk_of asks it -/
theorem law_end {pn : Str} {fa : Addr} {st : Stmt} (d : Dfn K mg "law" st) (hfa : mg "law" = some (.ref fa)) (hb : ∀ (kV doc pm : Value) (an : Option Addr) (cdv ct : Value) (s : Shared) (v : Value), BindsTo s (PySem.W.fnOf "law" "law" (defArgs st) (defBody st) (defScope st) .none kV doc pm an cdv ct) ⟨[v], []⟩ [(pn, v)])
    (h : ∀ base : Heap, K.In base → base.Ns mainGlobals mg → ∀ f fd, Fun K "law" "law" st f fd → FnOk P w K mg base CX0 k f fd [pn] (spL K)) :
    ∃ fd : FuncData, (∀ (s : Shared) (v : Value), BindsTo s fd ⟨[v], []⟩ [(pn, v)]) ∧ ∀ base : Heap, K.In base → base.Ns mainGlobals mg → FnOk P w K mg base CX0 k fa fd [pn] (spLaw K) := by
  obtain ⟨f, fd, F, hm⟩ := d
  rw [hfa] at hm
  cases hm
  obtain ⟨oc, od, kV, doc, pm, an, cdv, ct, osl, rfl, lk, hcd⟩ := id F.ex
  exact ⟨_, hb kV doc pm an cdv ct, fun base h1 h2 => law_imp (h base h1 h2 fa _ F)⟩
end
section
variable {X : Cx} {g : Gm} {l : List Res} {e c : Expr} {d : D} {p pos : Pos}
/-- isinstance(x, C) of a frozen instance of the class at D0 -/
theorem o_isi {C D0 : Addr} {fs : List (Str × D)} {b : Bool} (hc : Cls X.K D0) (hi : Isi X.K D0) (hk : PySem.W.kitOne X.K (.ref D0) (.ref C) = some b) : OpN X.K l (rIsi X.K) [.ins D0 fs, .adr C] (.bl b) := fun F M H vs Q eF eM dj rs f k => by
  cases f with
  | cons f1 f2 =>
    cases f2 with
    | cons f2 f3 =>
      cases f2; cases f3
      cases f1 with
      | ins h1 h2 =>
        exact ⟨_, _, _, _, b, rfl, .own C, .base (.ins (eF _ _ h1) hc hi.ha hi.hn hi.htk hi.hm), hk, k _ F H (.rf eF) (.bl _)⟩
/-- .. of flat things, lists and tuples, against a built-in class -/
def D.tyv : D → Option String
  | .non => some "NoneType" | .bl _ => some "bool" | .int _ => some "int" | .str _ => some "str" | .lst _ => some "list" | .tup _ => some "tuple" | _ => none
theorem tyx_l {K : PySem.W.Frag} {H : Hp} {a : Addr} {xs : List V} (s : SqL K H a xs) : TyX K H (.ref a) (.type "list") := by
  rcases s with (s | ⟨o, s⟩) | ⟨o, its, n, h1, h2, _⟩
  · exact .base (.lst s)
  · exact .base (.frz s)
  · exact .kList h1 h2
theorem tyx_t {K : PySem.W.Frag} {H : Hp} {a : Addr} {xs : List V} (s : SqT K H a xs) : TyX K H (.ref a) (.type "tuple") := by
  rcases s with (s | ⟨o, s⟩) | ⟨o, its, n, h1, h2, _⟩
  · exact .base (.tup s)
  · exact .fTuple s
  · exact .kTuple h1 h2
theorem Fd.tyx {K : PySem.W.Frag} {F H : Hp} {v : V} {d : D} {t : String} (e : Ex F H) (f : Fd K F v d) (h : d.tyv = some t) : TyX K H v (.type t) := by
  cases f with
  | non => cases h; exact .base .non
  | bl b => cases h; exact .base (.bl b)
  | int i => cases h; exact .base (.int i)
  | str x => cases h; exact .base (.str x)
  | lst s a => cases h; exact tyx_l (ex_l e s)
  | tup s a => cases h; exact tyx_t (ex_t e s)
  | adr a => cases h
  | ty n => cases h
  | ins a b => cases h
theorem o_isiT {t n : String} {b : Bool} (ht : d.tyv = some t) (hk : kitB t n = some b) : OpN X.K l (rIsi X.K) [d, .ty n] (.bl b) := fun F M H vs Q eF eM dj rs f k => by
  cases f with
  | cons f1 f2 =>
    cases f2 with
    | cons f2 f3 =>
      cases f2; cases f3
      exact ⟨_, _, _, _, b, rfl, .ty n, f1.tyx eF ht, kit_ty hk, k _ F H (.rf eF) (.bl _)⟩
theorem o_isiO {n : String} {b : Bool} {k : Nat} {p : Addr} {ds : List D} (hk : l[k]? = some (ownL X.K p ds)) (hb : kitB "list" n = some b) : OpN X.K l (rIsi X.K) [.adr p, .ty n] (.bl b) := fun F M H vs Q eF eM dj rs f kk => by
  cases f with
  | cons f1 f2 =>
    cases f2 with
    | cons f2 f3 =>
      cases f2; cases f3; cases f1
      obtain ⟨ws, _, hp⟩ := rs.own hk eM
      exact ⟨_, _, _, _, b, rfl, .ty n, tyx_l (SqL.of hp), kit_ty hb, kk _ F H (.rf eF) (.bl _)⟩
theorem px_bi {id : String} {x : Str} {r : List V → Hp → VK → Prop} {e1 : Expr} {e2 : List Expr} {ds : List D} (hc : CallR X (.builtin id) r) (hm : X.mg x = none) (ha : Pa X (e1 :: e2) g l ds) (hr : OpN X.K l r ds d) (hg : Gl X x := by rfl) (hv : bootBuiltins x = some (.builtin id) := by decide +kernel) (hn : x ≠ "__name__" := by decide) (hdb : (x == ("__debug__" : Str)) = false := by decide)
    (hs : starEach (e1 :: e2) X.env = (false, eval e1 X.env) :: starEach e2 X.env := by rfl) (hpl : (backTo pos (starEach e2 X.env)).any (·.1) = false := by rfl) : Px X (.Call (.Name x p) (e1 :: e2) [] pos) g l d := px_b (ds := ds) (pe_callB hc hg hm hv pa_wp hn hdb hs hpl) hr ha
theorem px_ty {T : String} {x : Str} {r : List V → Hp → VK → Prop} {e1 : Expr} {e2 : List Expr} {ds : List D} (hc : CallR X (.type T) r) (hm : X.mg x = none) (ha : Pa X (e1 :: e2) g l ds) (hr : OpN X.K l r ds d) (hg : Gl X x := by rfl) (hv : bootBuiltins x = some (.type T) := by decide +kernel) (hn : x ≠ "__name__" := by decide) (hdb : (x == ("__debug__" : Str)) = false := by decide)
    (hs : starEach (e1 :: e2) X.env = (false, eval e1 X.env) :: starEach e2 X.env := by rfl) (hpl : (backTo pos (starEach e2 X.env)).any (·.1) = false := by rfl) : Px X (.Call (.Name x p) (e1 :: e2) [] pos) g l d := px_b (ds := ds) (pe_callTy hc hg hm hv pa_wp hn hdb hs hpl) hr ha
/-- a class of the module, a built-in class, as a value -/
theorem px_cls {C : Addr} {x : Str} (h : X.mg x = some (.ref C)) (hg : Gl X x := by rfl) (hd : (x == ("__debug__" : Str)) = false := by decide) : Px X (.Name x pos) g l (.adr C) := px_c (pe_glob (v := .ref C) hg h rfl hd) fun _ => .adr C
theorem px_tyn {x : Str} {n : String} (hm : X.mg x = none) (hv : bootBuiltins x = some (.type n) := by decide +kernel) (hg : Gl X x := by rfl) (hn : x ≠ "__name__" := by decide) (hd : (x == ("__debug__" : Str)) = false := by decide) : Px X (.Name x pos) g l (.ty n) := px_c (pe_bltn (v := .ty n) hg hm hv rfl hn hd) fun _ => .ty n
theorem px_gi {x : Str} {i : Int} (h : ∃ t, X.mg x = some (.int i t)) (hg : Gl X x := by rfl) (hd : (x == ("__debug__" : Str)) = false := by decide) : Px X (.Name x pos) g l (.int i) := by
  obtain ⟨t, h⟩ := h
  exact px_c (pe_glob (v := .int i) hg h ⟨t, rfl⟩ hd) fun _ => .int i
theorem px_gs {x z : Str} (h : ∃ t, X.mg x = some (.str z t)) (hg : Gl X x := by rfl) (hd : (x == ("__debug__" : Str)) = false := by decide) : Px X (.Name x pos) g l (.str z) := by
  obtain ⟨t, h⟩ := h
  exact px_c (pe_glob (v := .str z) hg h ⟨t, rfl⟩ hd) fun _ => .str z
theorem px_isT (n t : String) (b : Bool) {x : Str} {p2 : Pos} (z : X.mg "isinstance" = none) (zx : X.mg x = none) (h : Px X e g l d) (ht : d.tyv = some t := by rfl) (hk : kitB t n = some b := by decide +kernel) (hv : bootBuiltins x = some (.type n) := by decide +kernel)
    (hg : Gl X "isinstance" := by rfl) (hgx : Gl X x := by rfl) (hn : x ≠ "__name__" := by decide) (hd : (x == ("__debug__" : Str)) = false := by decide)
    (hs : starEach [e, .Name x p2] X.env = (false, eval e X.env) :: starEach [.Name x p2] X.env := by rfl) (hs2 : starEach [.Name x p2] X.env = [(false, eval (.Name x p2) X.env)] := by rfl) (hpl : (backTo pos (starEach [.Name x p2] X.env)).any (·.1) = false := by rfl) :
    Px X (.Call (.Name "isinstance" p) [e, .Name x p2] [] pos) g l (.bl b) := px_bi call_isi z (pa_c h (pa_c (px_tyn zx hv hgx hn hd) pa_n hs2) hs) (o_isiT ht hk) hg (by decide +kernel) (by decide) (by decide) hs hpl
theorem px_isC {C D0 : Addr} {fs : List (Str × D)} {b : Bool} {x : Str} {p2 : Pos} (z : X.mg "isinstance" = none) (zx : X.mg x = some (.ref C)) (h : Px X e g l (.ins D0 fs)) (hc : Cls X.K D0) (hi : Isi X.K D0) (hk : PySem.W.kitOne X.K (.ref D0) (.ref C) = some b)
    (hg : Gl X "isinstance" := by rfl) (hgx : Gl X x := by rfl) (hd : (x == ("__debug__" : Str)) = false := by decide)
    (hs : starEach [e, .Name x p2] X.env = (false, eval e X.env) :: starEach [.Name x p2] X.env := by rfl) (hs2 : starEach [.Name x p2] X.env = [(false, eval (.Name x p2) X.env)] := by rfl) (hpl : (backTo pos (starEach [.Name x p2] X.env)).any (·.1) = false := by rfl) :
    Px X (.Call (.Name "isinstance" p) [e, .Name x p2] [] pos) g l (.bl b) := px_bi call_isi z (pa_c h (pa_c (px_cls zx hgx hd) pa_n hs2) hs) (o_isi hc hi hk) hg (by decide +kernel) (by decide) (by decide) hs hpl
end
section
variable {K : PySem.W.Frag} {l : List Res} {d : D}
/-- len, str, int, list, tuple, max, min -/
abbrev rLen1 (K : PySem.W.Frag) : List V → Hp → VK → Prop := fun xs H Q => ∃ p ys, xs = [.ref p] ∧ (SqL K H p ys ∨ SqT K H p ys) ∧ Q (.int ys.length) H
theorem o_len {ds : List D} {d0 : D} (h : d0 = .lst ds ∨ d0 = .tup ds) : OpN K l (rLen1 K) [d0] (.int ds.length) := fun F M H vs Q eF eM dj rs f k => by
  cases f with
  | cons f1 f2 =>
    cases f2
    rcases h with rfl | rfl
    · cases f1 with
      | lst s a =>
        refine ⟨_, _, rfl, .inl (ex_l eF s), ?_⟩
        rw [a.length]
        exact k _ F H (.rf eF) (.int _)
    · cases f1 with
      | tup s a =>
        refine ⟨_, _, rfl, .inr (ex_t eF s), ?_⟩
        rw [a.length]
        exact k _ F H (.rf eF) (.int _)
theorem o_lenL {ds : List D} : OpN K l (rLen1 K) [.lst ds] (.int ds.length) := o_len (.inl rfl)
theorem o_lenT {ds : List D} : OpN K l (rLen1 K) [.tup ds] (.int ds.length) := o_len (.inr rfl)
theorem o_lenO {k : Nat} {p : Addr} {ds : List D} (hk : l[k]? = some (ownL K p ds)) : OpN K l (rLen1 K) [.adr p] (.int ds.length) := fun F M H vs Q eF eM dj rs f kk => by
  cases f with
  | cons f1 f2 =>
    cases f2; cases f1
    obtain ⟨ws, fw, hp⟩ := rs.own hk eM
    refine ⟨_, _, rfl, .inl (SqL.of hp), ?_⟩
    rw [fw.length]
    exact kk _ F H (.rf eF) (.int _)
theorem o_lenS {x : Str} (h : x.length ≤ sizeLine) : OpN K l (fun xs H Q => ∃ z, xs = [.str z] ∧ z.length ≤ sizeLine ∧ Q (.int z.length) H) [.str x] (.int x.length) := fun F M H vs Q eF eM dj rs f k => by
  cases f with
  | cons f1 f2 =>
    cases f2; cases f1
    exact ⟨x, rfl, h, k _ F H (.rf eF) (.int _)⟩
theorem o_str {i : Int} (h : i.natAbs.log2 < 1920) : OpN K l (fun xs H Q => ∃ i, xs = [.int i] ∧ i.natAbs.log2 < 1920 ∧ Q (.str (toString i)) H) [.int i] (.str (toString i)) := fun F M H vs Q eF eM dj rs f k => by
  cases f with
  | cons f1 f2 =>
    cases f2; cases f1
    exact ⟨i, rfl, h, k _ F H (.rf eF) (.str _)⟩
theorem o_max2 {i j : Int} : OpN K l (fun xs H Q => ∃ i j, xs = [.int i, .int j] ∧ Q (.int (if j > i then j else i)) H) [.int i, .int j] (.int (max i j)) := fun F M H vs Q eF eM dj rs f k => by
  cases f with
  | cons f1 f2 =>
    cases f2 with
    | cons f2 f3 =>
      cases f3; cases f1; cases f2
      refine ⟨i, j, rfl, ?_⟩
      have e : (if j > i then j else i) = max i j := by
        by_cases q : j > i
        · rw [if_pos q, Int.max_eq_right (by omega)]
        · rw [if_neg q, Int.max_eq_left (by omega)]
      rw [e]
      exact k _ F H (.rf eF) (.int _)
theorem o_min2 {i j : Int} : OpN K l (fun xs H Q => ∃ i j, xs = [.int i, .int j] ∧ Q (.int (if j < i then j else i)) H) [.int i, .int j] (.int (min i j)) := fun F M H vs Q eF eM dj rs f k => by
  cases f with
  | cons f1 f2 =>
    cases f2 with
    | cons f2 f3 =>
      cases f3; cases f1; cases f2
      refine ⟨i, j, rfl, ?_⟩
      have e : (if j < i then j else i) = min i j := by
        by_cases q : j < i
        · rw [if_pos q, Int.min_eq_right (by omega)]
        · rw [if_neg q, Int.min_eq_left (by omega)]
      rw [e]
      exact k _ F H (.rf eF) (.int _)
/-- an item at a place that lies in it -/
theorem atI_in {α : Type} {xs : List α} {i : Int} {x0 : α} (h0 : 0 ≤ i) (h1 : i < xs.length) : atI xs i = some (xs.getD i.toNat x0) := by
  have h2 : i.toNat < xs.length := by omega
  unfold atI ixN
  rw [if_pos h0, if_pos h1]
  show xs[i.toNat]? = _
  rw [List.getElem?_eq_getElem h2, List.getD_eq_getElem?_getD, List.getElem?_eq_getElem h2]
  rfl
theorem atI_map {α β : Type} {f : α → β} {xs : List α} {i : Int} {y : α} (h : atI xs i = some y) : atI (xs.map f) i = some (f y) := by
  unfold atI at h ⊢
  rw [List.length_map]
  cases e : ixN xs.length i with
  | none => rw [e] at h; cases h
  | some n =>
    rw [e] at h
    show (xs.map f)[n]? = some (f y)
    have h' : xs[n]? = some y := h
    rw [List.getElem?_map, h']
    rfl
end
/-- a class without an __init__ of its own -/
structure Mk0 (K : PySem.W.Frag) (C : Addr) : Prop where
  (makes : PySem.W.makesIn K C = true) (kp : PySem.W.keepIn K (.ref C) = true) (init : PySem.W.findIn K (.ref C) "__init__" = some (some (.builtin "object.__init__")))
section
open PySem.W in
theorem make_plain {prog : Program} {w : World} {A : Around} {K : PySem.W.Frag} {C : Addr} {R : Result → Shared → Prop} {s : Shared} (X : K.In s.heap) (m : Mk0 K C)
    (h : R (.ok (.ret (.ref (s.heap.objs.size + 1)))) { s with heap := (s.heap.push emptyDict).push (instObj C s.heap.objs.size) }) : codeAny (model prog w) A (.call (.ref C) ⟨[], []⟩) R s := by
  obtain ⟨hh, g, d, t, os⟩ := s
  have Y := makes_of (M := model prog w) X m.makes
  have hx : ((hh.push emptyDict).push (instObj C hh.objs.size)).get? (hh.objs.size + 1) = some (instObj C hh.objs.size) := by heap_get
  refine make_core Y (looks_findIn X m.init) (fun self => Looks.of_pure (oi_bind self)) (.inr ⟨rfl, rfl⟩) ?_
  refine codeAny_call_builtin oi_plain entry_oi (@check_slot (model prog w) _ _ _ "object.__init__" "object" "__init__" (.ref (hh.objs.size + 1)) [] [] _ oi_kind oi_split
    (((Looks.ld hx).andThen .now : Looks (model prog w) _ (typeOf (.ref (hh.objs.size + 1))) (.ref C)).andThen (Y.top.keeps fun _ _ q => Heap.get?_push_of_some _ (Heap.get?_push_of_some _ q))) (oi_args _) (by rw [oi_run]; exact wpAny_pure ⟨rfl, h⟩))
end
section
variable {X : Cx} {g : Gm} {l : List Res} {p pos : Pos} {C : Addr} {x : Str}
theorem pe_makeN (m : Mk0 X.K C) (hg : Gl X x) (hm : X.mg x = some (.ref C)) (hdb : (x == ("__debug__" : Str)) = false := by decide) :
    PE X (.Call (.Name x p) [] [] pos) (fun _ H Q => ∀ q dx, H q = none → H dx = none → dx ≠ q → Q (.ref q) (upd (upd H dx (.own q)) q (.ins C dx []))) := by
  refine ⟨fun pins st sg Hh Q iv h => wpAny_Call_Name_kw (ld_glob iv hg hm (PySem.W.callWith_K0 iv.kIn m.kp (wpAny_call (make_plain iv.kIn m ⟨V.ref (st.heap.objs.size + 1), _, Inv.made (C := C) iv, rfl, ?_⟩))) hdb)⟩
  exact h _ _ (iv.hok.fresh (Nat.le_succ _)) (iv.hok.fresh (Nat.le_refl _)) (Nat.ne_of_lt (Nat.lt_succ_self _))
/-- C(), frozen -/
theorem px_make0 (m : Mk0 X.K C) (hm : X.mg x = some (.ref C)) (hg : Gl X x := by rfl) (hdb : (x == ("__debug__" : Str)) = false := by decide) : Px X (.Call (.Name x p) [] [] pos) g l (.ins C []) := fun en T σ H Q s k => wpE_of (pe_makeN m hg hm hdb) (by
  intro q dx nx ndx ne
  obtain ⟨F, M, a⟩ := s
  have n1 := New.upd (o := .own q) a.exF ndx
  have nq : (upd H dx (.own q)) q = none := by rw [upd_ne (Ne.symm ne)]; exact nx
  have n2 := New.upd (o := .ins C dx []) n1.i nq
  have n := n1.tr n2
  exact k _ _ ⟨_, M, (a.new n).tmp ⟨.ins upd_same .nil, T.mono n.f a.tm⟩⟩)
end
end Sx
set_option Elab.async false
set_option linter.all false
set_option maxRecDepth 100000
set_option maxHeartbeats 2000000
/-! The head: what the top has written, told by names. -/
namespace Sx
open PySem L2
def isiB (K : PySem.W.Frag) (C : Addr) : Bool := decide (PySem.W.findIn K (.ref C) "__class__" = some (some (.builtin "object.__class__"))) && (decide (PySem.W.specialIn K (.builtin "object.__class__") "__get__" = some (some (.builtin "getset_descriptor.__get__"))) && (decide (PySem.W.takesIn K (.builtin "object.__class__") = some true) && decide (PySem.W.mroIn K C (.type "object") = some true)))
theorem isiB_ok {K : PySem.W.Frag} {C : Addr} (h : isiB K C = true) : Isi K C := by
  obtain ⟨h1, h⟩ := He.ba h
  obtain ⟨h2, h⟩ := He.ba h
  obtain ⟨h3, h4⟩ := He.ba h
  exact ⟨of_decide_eq_true h1, of_decide_eq_true h2, of_decide_eq_true h3, of_decide_eq_true h4⟩
/-- one more fact -/
inductive Fb where
  | isi (x : Str)
  | kit (x y : Str) (b : Bool)
  | mk0 (x : Str)
def Fb.ok (K : PySem.W.Frag) : Fb → Bool
  | .isi x => isiB K (He.ga K x)
  | .kit x y b => decide (PySem.W.kitOne K (.ref (He.ga K x)) (.ref (He.ga K y)) = some b)
  | .mk0 x => PySem.W.makesIn K (He.ga K x) && decide (PySem.W.findIn K (.ref (He.ga K x)) "__init__" = some (some (.builtin "object.__init__")))
def exB (fb : List Fb) (K : PySem.W.Frag) : Bool := fb.all fun f => f.ok K
section
variable {K : PySem.W.Frag} {h : Heap} {mg : Str → Option Value} {fb : List Fb} {w : World} {fa : List He.Fa} {fn : List He.DefD}
theorem fb_at (c : exB fb K = true) (i : Nat) {f : Fb} (h : fb[i]? = some f := by rfl) : f.ok K = true := List.all_eq_true.mp c f (List.mem_of_getElem? h)
theorem kit_ok {x y : Str} {b : Bool} (h : (Fb.kit x y b).ok K = true) : PySem.W.kitOne K (.ref (He.ga K x)) (.ref (He.ga K y)) = some b := of_decide_eq_true h
theorem mk0_ok {x : Str} (h : (Fb.mk0 x).ok K = true) (k : (He.Fa.keep x).ok K = true) : Mk0 K (He.ga K x) := by
  obtain ⟨h1, h2⟩ := He.ba h
  exact ⟨h1, He.keep_ok k, of_decide_eq_true h2⟩
theorem fun_of {x qual : Str} {st : Stmt} {f : Addr} {fd : FuncData} (F : FunD K x qual (defArgs st) (defBody st) (defScope st) [] [] f fd) : Fun K x qual st f fd := by
  obtain ⟨oc, od, dV, kV, doc, pm, an, cdv, ct, osl, e, lk, hcd, hD, hK⟩ := F.ex
  rcases hD with ⟨_, rfl⟩ | ⟨z, _⟩
  · exact ⟨⟨oc, od, kV, doc, pm, an, cdv, ct, osl, e, lk, hcd⟩, F.kp⟩
  · exact absurd rfl z
abbrev dD (x : Str) (st : Stmt) : He.DefD := ⟨(x, none), x, x, defArgs st, defBody st, defScope st, [], []⟩
abbrev dM (C m qual : Str) (st : Stmt) : He.DefD := ⟨(C, some m), m, qual, defArgs st, defBody st, defScope st, [], []⟩
theorem dfn_of {x : Str} {st : Stmt} (c : He.SaysD fa fn K) (G : mg x = some (.ref (He.ga K x))) (i : Nat) (e : fn[i]? = some (dD x st) := by rfl) : Dfn K mg x st := by
  obtain ⟨fd, F⟩ := c.def_ i e
  exact ⟨_, fd, fun_of F, G⟩
theorem dmt_of {C m qual : Str} {st : Stmt} (c : He.SaysD fa fn K) (M : Meth K (He.ga K C) m (He.ma K (He.ga K C) m)) (i : Nat) (e : fn[i]? = some (dM C m qual st) := by rfl) : Dmt K (He.ga K C) m qual st := by
  obtain ⟨fd, F⟩ := c.def_ i e
  exact ⟨_, fd, fun_of F, M⟩
theorem din_of {C qual : Str} {st : Stmt} (c : He.SaysD fa fn K) (M : Mk K (He.ga K C) (He.ma K (He.ga K C) "__init__")) (i : Nat) (e : fn[i]? = some (dM C "__init__" qual st) := by rfl) : Din K (He.ga K C) qual st := by
  obtain ⟨fd, F⟩ := c.def_ i e
  exact ⟨_, fd, fun_of F, M⟩
end
end Sx
set_option Elab.async false
set_option linter.all false
set_option maxRecDepth 100000
set_option maxHeartbeats 4000000
namespace Lw
open PySem L2 Sx
def top (i : Nat) : Stmt := PySem.Challenge.pw_postroad_k12_spots.main.body.getD i (.Pass ⟨0, 0, 0, 0⟩)
abbrev s_law_cell_at : Stmt := top 7
abbrev s_law_name : Stmt := top 8
abbrev s_law_kinds : Stmt := top 9
abbrev s_law_line : Stmt := top 10
abbrev s_law_number : Stmt := top 11
abbrev s_law : Stmt := top 12
abbrev s_Spot_line : Stmt := inClass (top 1) 0
abbrev s_NotYet_line : Stmt := inClass (top 2) 0
abbrev s_AtHouse_init : Stmt := inClass (top 3) 0
abbrev s_AtHouse_line : Stmt := inClass (top 3) 1
abbrev s_OnRoad_init : Stmt := inClass (top 4) 0
abbrev s_OnRoad_line : Stmt := inClass (top 4) 1
abbrev s_AtHome_init : Stmt := inClass (top 5) 0
abbrev s_AtHome_line : Stmt := inClass (top 5) 1
abbrev ns_law_cell_at : List Str := ["_law_script", "_law_k"]
theorem cs_law_cell_at : FnScope ns_law_cell_at ["_law_script", "_law_k"] (defScope s_law_cell_at) := ⟨rfl, rfl, rfl, by decide +kernel, rfl, by decide +kernel, by decide +kernel⟩
abbrev ns_law_name : List Str := ["_law_cell", "_law_n", "_law_name_here", "_law_k"]
theorem cs_law_name : FnScope ns_law_name ["_law_cell"] (defScope s_law_name) := ⟨rfl, rfl, rfl, by decide +kernel, rfl, by decide +kernel, by decide +kernel⟩
abbrev ns_law_kinds : List Str := ["_law_spot"]
theorem cs_law_kinds : FnScope ns_law_kinds ["_law_spot"] (defScope s_law_kinds) := ⟨rfl, rfl, rfl, by decide +kernel, rfl, by decide +kernel, by decide +kernel⟩
abbrev ns_law_line : List Str := ["_law_spot", "_law_due", "_law_found"]
theorem cs_law_line : FnScope ns_law_line ["_law_spot", "_law_due"] (defScope s_law_line) := ⟨rfl, rfl, rfl, by decide +kernel, rfl, by decide +kernel, by decide +kernel⟩
abbrev ns_law_number : List Str := ["_law_found", "_law_due"]
theorem cs_law_number : FnScope ns_law_number ["_law_found", "_law_due"] (defScope s_law_number) := ⟨rfl, rfl, rfl, by decide +kernel, rfl, by decide +kernel, by decide +kernel⟩
abbrev ns_law : List Str := ["_law_script", "_law_name_here", "_law_turn", "_law_other", "_law_road", "_law_spots", "_law_k", "_law_beside", "_law_j"]
theorem cs_law : FnScope ns_law ["_law_script"] (defScope s_law) := ⟨rfl, rfl, rfl, by decide +kernel, rfl, by decide +kernel, by decide +kernel⟩
abbrev ns_Spot_line : List Str := ["self"]
theorem cs_Spot_line : FnScope ns_Spot_line ["self"] (defScope s_Spot_line) := ⟨rfl, rfl, rfl, by decide +kernel, rfl, by decide +kernel, by decide +kernel⟩
abbrev ns_NotYet_line : List Str := ["self"]
theorem cs_NotYet_line : FnScope ns_NotYet_line ["self"] (defScope s_NotYet_line) := ⟨rfl, rfl, rfl, by decide +kernel, rfl, by decide +kernel, by decide +kernel⟩
abbrev ns_AtHouse_init : List Str := ["self", "at", "since"]
theorem cs_AtHouse_init : FnScope ns_AtHouse_init ["self", "at", "since"] (defScope s_AtHouse_init) := ⟨rfl, rfl, rfl, by decide +kernel, rfl, by decide +kernel, by decide +kernel⟩
abbrev ns_AtHouse_line : List Str := ["self"]
theorem cs_AtHouse_line : FnScope ns_AtHouse_line ["self"] (defScope s_AtHouse_line) := ⟨rfl, rfl, rfl, by decide +kernel, rfl, by decide +kernel, by decide +kernel⟩
abbrev ns_OnRoad_init : List Str := ["self", "by", "due"]
theorem cs_OnRoad_init : FnScope ns_OnRoad_init ["self", "by", "due"] (defScope s_OnRoad_init) := ⟨rfl, rfl, rfl, by decide +kernel, rfl, by decide +kernel, by decide +kernel⟩
abbrev ns_OnRoad_line : List Str := ["self"]
theorem cs_OnRoad_line : FnScope ns_OnRoad_line ["self"] (defScope s_OnRoad_line) := ⟨rfl, rfl, rfl, by decide +kernel, rfl, by decide +kernel, by decide +kernel⟩
abbrev ns_AtHome_init : List Str := ["self", "since"]
theorem cs_AtHome_init : FnScope ns_AtHome_init ["self", "since"] (defScope s_AtHome_init) := ⟨rfl, rfl, rfl, by decide +kernel, rfl, by decide +kernel, by decide +kernel⟩
abbrev ns_AtHome_line : List Str := ["self"]
theorem cs_AtHome_line : FnScope ns_AtHome_line ["self"] (defScope s_AtHome_line) := ⟨rfl, rfl, rfl, by decide +kernel, rfl, by decide +kernel, by decide +kernel⟩
structure Cs where
  (Spot NotYet AtHouse OnRoad AtHome : Addr)
structure Top (K : PySem.W.Frag) (mg : Str → Option Value) (c : Cs) : Prop where
  z_range : mg "range" = none
  z_len : mg "len" = none
  z_isinstance : mg "isinstance" = none
  z_str : mg "str" = none
  z_int : mg "int" = none
  z_bool : mg "bool" = none
  d_law_cell_at : Dfn K mg "_law_cell_at" s_law_cell_at
  d_law_name : Dfn K mg "_law_name" s_law_name
  d_law_kinds : Dfn K mg "_law_kinds" s_law_kinds
  d_law_line : Dfn K mg "_law_line" s_law_line
  d_law_number : Dfn K mg "_law_number" s_law_number
  d_law : Dfn K mg "law" s_law
  c_Spot : Dcl K mg "Spot" c.Spot
  i_Spot : Isi K c.Spot
  d_Spot_line : Dmt K c.Spot "line" "Spot.line" s_Spot_line
  m_Spot : Mk0 K c.Spot
  c_NotYet : Dcl K mg "NotYet" c.NotYet
  i_NotYet : Isi K c.NotYet
  d_NotYet_line : Dmt K c.NotYet "line" "NotYet.line" s_NotYet_line
  m_NotYet : Mk0 K c.NotYet
  c_AtHouse : Dcl K mg "AtHouse" c.AtHouse
  i_AtHouse : Isi K c.AtHouse
  d_AtHouse_init : Din K c.AtHouse "AtHouse.__init__" s_AtHouse_init
  d_AtHouse_line : Dmt K c.AtHouse "line" "AtHouse.line" s_AtHouse_line
  n_AtHouse_at : NoAttr K c.AtHouse "at"
  n_AtHouse_since : NoAttr K c.AtHouse "since"
  c_OnRoad : Dcl K mg "OnRoad" c.OnRoad
  i_OnRoad : Isi K c.OnRoad
  d_OnRoad_init : Din K c.OnRoad "OnRoad.__init__" s_OnRoad_init
  d_OnRoad_line : Dmt K c.OnRoad "line" "OnRoad.line" s_OnRoad_line
  n_OnRoad_by : NoAttr K c.OnRoad "by"
  n_OnRoad_due : NoAttr K c.OnRoad "due"
  c_AtHome : Dcl K mg "AtHome" c.AtHome
  i_AtHome : Isi K c.AtHome
  d_AtHome_init : Din K c.AtHome "AtHome.__init__" s_AtHome_init
  d_AtHome_line : Dmt K c.AtHome "line" "AtHome.line" s_AtHome_line
  n_AtHome_since : NoAttr K c.AtHome "since"
  j_Spot_Spot : PySem.W.kitOne K (.ref c.Spot) (.ref c.Spot) = some true
  j_NotYet_Spot : PySem.W.kitOne K (.ref c.NotYet) (.ref c.Spot) = some true
  j_AtHouse_Spot : PySem.W.kitOne K (.ref c.AtHouse) (.ref c.Spot) = some true
  j_OnRoad_Spot : PySem.W.kitOne K (.ref c.OnRoad) (.ref c.Spot) = some true
  j_AtHome_Spot : PySem.W.kitOne K (.ref c.AtHome) (.ref c.Spot) = some true
  j_Spot_NotYet : PySem.W.kitOne K (.ref c.Spot) (.ref c.NotYet) = some false
  j_NotYet_NotYet : PySem.W.kitOne K (.ref c.NotYet) (.ref c.NotYet) = some true
  j_AtHouse_NotYet : PySem.W.kitOne K (.ref c.AtHouse) (.ref c.NotYet) = some false
  j_OnRoad_NotYet : PySem.W.kitOne K (.ref c.OnRoad) (.ref c.NotYet) = some false
  j_AtHome_NotYet : PySem.W.kitOne K (.ref c.AtHome) (.ref c.NotYet) = some false
  j_Spot_AtHouse : PySem.W.kitOne K (.ref c.Spot) (.ref c.AtHouse) = some false
  j_NotYet_AtHouse : PySem.W.kitOne K (.ref c.NotYet) (.ref c.AtHouse) = some false
  j_AtHouse_AtHouse : PySem.W.kitOne K (.ref c.AtHouse) (.ref c.AtHouse) = some true
  j_OnRoad_AtHouse : PySem.W.kitOne K (.ref c.OnRoad) (.ref c.AtHouse) = some false
  j_AtHome_AtHouse : PySem.W.kitOne K (.ref c.AtHome) (.ref c.AtHouse) = some false
  j_Spot_OnRoad : PySem.W.kitOne K (.ref c.Spot) (.ref c.OnRoad) = some false
  j_NotYet_OnRoad : PySem.W.kitOne K (.ref c.NotYet) (.ref c.OnRoad) = some false
  j_AtHouse_OnRoad : PySem.W.kitOne K (.ref c.AtHouse) (.ref c.OnRoad) = some false
  j_OnRoad_OnRoad : PySem.W.kitOne K (.ref c.OnRoad) (.ref c.OnRoad) = some true
  j_AtHome_OnRoad : PySem.W.kitOne K (.ref c.AtHome) (.ref c.OnRoad) = some false
  j_Spot_AtHome : PySem.W.kitOne K (.ref c.Spot) (.ref c.AtHome) = some false
  j_NotYet_AtHome : PySem.W.kitOne K (.ref c.NotYet) (.ref c.AtHome) = some false
  j_AtHouse_AtHome : PySem.W.kitOne K (.ref c.AtHouse) (.ref c.AtHome) = some false
  j_OnRoad_AtHome : PySem.W.kitOne K (.ref c.OnRoad) (.ref c.AtHome) = some false
  j_AtHome_AtHome : PySem.W.kitOne K (.ref c.AtHome) (.ref c.AtHome) = some true
section
variable {P : Program} {w : World} {K : PySem.W.Frag} {mg : Str → Option Value} {base : Heap} {c : Cs}
/-! ### an item of the script, or nought -/
def cellAt (ns : List Int) (k : Int) : Int := if k < (ns.length : Int) then ns.getD k.toNat 0 else 0
theorem g_cell_at (T : Top K mg c) : Glo P w K mg base 1 "_law_cell_at" ["_law_script", "_law_k"] (Pu K (fun a : List Int × Int => 0 ≤ a.2) (fun a => [.lst (a.1.map .int), .int a.2]) (fun a => .int (cellAt a.1 a.2))) :=
  glo_of T.d_law_cell_at (fun _ _ _ _ _ _ us hl => match us, hl with | [_, _], _ => rfl) fun f fd F => fn_ok F cs_law_cell_at (fun _ => rfl) fun cdv A outer s H E a hr hok => by
    obtain ⟨ns, k⟩ := a
    have hk : 0 ≤ k := hok
    refine blk_if (ts_cmp op_lt (px_var (pv 1) rfl) (px_bi call_len_seq T.z_len (pa_c (px_var (pv 0) rfl) pa_n) o_lenL) o_lt) (fun h => ?_) (fun h => ?_)
    · have h1 : k < (ns.length : Int) := by
        have := of_decide_eq_true h
        rwa [List.length_map] at this
      refine blk_ret (px_ix ix_list (px_var (pv 0) rfl) (px_var (pv 1) rfl) (o_ixL (d := .int (ns.getD k.toNat 0)) (atI_map (atI_in hk h1)))) ⟨?_, rfl⟩
      show D.int _ = D.int (cellAt ns k)
      unfold cellAt
      rw [if_pos h1]
    · have h1 : ¬ k < (ns.length : Int) := by
        have := of_decide_eq_false h
        rwa [List.length_map] at this
      refine blk_nil (blk_ret px_int ⟨?_, rfl⟩)
      show D.int _ = D.int (cellAt ns k)
      unfold cellAt
      rw [if_neg h1]
/-! ### a name -/
def abc : Str := "abcdefghijklmnopqrstuvwxyz"
def letter (i : Int) : Str := ⟨#[abc.cps.toList.getD i.toNat 0]⟩
def nameStep (s : Int × Str) (k : Nat) : Int × Str := (s.1 / 26 + 7 * (k : Int), s.2 ++ letter (s.1 / 8 % 26))
def nameSt (n0 : Int) (i : Nat) : Int × Str := (List.range i).foldl nameStep (n0, "")
theorem nameSt_succ (n0 : Int) (i : Nat) : nameSt n0 (i + 1) = nameStep (nameSt n0 i) i := by
  unfold nameSt
  rw [List.range_succ, List.foldl_append]
  rfl
theorem nameSt_len (n0 : Int) : ∀ i, (nameSt n0 i).2.length = i
  | 0 => rfl
  | i + 1 => by
    rw [nameSt_succ]
    show ((nameSt n0 i).2 ++ letter _).length = i + 1
    rw [Str.length_append, nameSt_len n0 i]
    rfl
def num0 (cell : Int) : Int := cell * 1099087573 % 10000000000037
def lawName (cell : Int) : Str := (nameSt (num0 cell) (1 + num0 cell % 8).toNat).2
theorem lawName_len (cell : Int) : (lawName cell).length ≤ 8 := by
  unfold lawName
  rw [nameSt_len]
  omega
theorem g_name (T : Top K mg c) : Glo P w K mg base 1 "_law_name" ["_law_cell"] (Pu K (fun _ : Int => True) (fun a => [.int a]) (fun a => .str (lawName a))) :=
  glo_of T.d_law_name (fun _ _ _ _ _ _ us hl => match us, hl with | [_], _ => rfl) fun f fd F => fn_ok F cs_law_name (fun _ => rfl) fun cdv A outer s H E a hr hok => by
    refine blk_set cs_law_name.nd (i := 1) rfl (.inl rfl) (px_op op_mod (px_op op_mul (px_var (pv 0) rfl) px_int o_mulR) px_int o_mod) ?_
    refine blk_set cs_law_name.nd (i := 2) rfl (.inl rfl) px_str ?_
    refine blk_for (is := [3]) (fun i g l => (∃ o, g = [some (.int a), some (.int (nameSt (num0 a) i).1), some (.str (nameSt (num0 a) i).2), o]) ∧ l = []) PassesOwn.never rfl
      (it_range (px_op op_add px_int (px_op op_mod (px_var (pv 1) rfl) px_int o_mod) o_add) (by show -(2 ^ 62) ≤ 1 + num0 a % 8; omega) (by show 1 + num0 a % 8 < 2 ^ 62; omega) T.z_range) (pg_name (i := 3) cs_law_name.nd rfl (.inl rfl))
      ⟨⟨none, rfl⟩, rfl⟩ (fun i d g l hd hI => ?_) (fun g l hI => ?_)
    · obtain ⟨⟨o, rfl⟩, rfl⟩ := hI
      obtain ⟨hi, rfl⟩ := rng_get hd
      have hi8 : i < 9 := by
        have : i < (1 + num0 a % 8).toNat := hi
        omega
      have hm : 0 ≤ (nameSt (num0 a) i).1 / 8 % 26 ∧ (nameSt (num0 a) i).1 / 8 % 26 < 26 := by omega
      refine ⟨[.int (0 + (i : Int))], tg_name, ?_⟩
      refine blk_set cs_law_name.nd (i := 2) rfl (.inl rfl) (px_op op_add_str (px_var (pv 2) rfl) (px_ix ix_str px_str (px_op op_mod (px_op op_fdiv (px_var (pv 1) rfl) px_int o_fdiv) px_int o_mod) (o_ixS (c := abc.cps.toList.getD ((nameSt (num0 a) i).1 / 8 % 26).toNat 0) (by decide) (atI_in hm.1 hm.2))) (o_addS ?_)) ?_
      · rw [nameSt_len]
        show i + 1 ≤ sizeLine
        exact Nat.le_trans (show i + 1 ≤ 100 by omega) (by decide)
      refine blk_set cs_law_name.nd (i := 1) rfl (.inl rfl) (px_op op_add (px_op op_fdiv (px_var (pv 1) rfl) px_int o_fdiv) (px_op op_mul px_int (px_var (pv 3) rfl) o_mulL) o_add) ?_
      refine blk_nil ⟨⟨some (.int (0 + (i : Int))), ?_⟩, rfl⟩
      rw [nameSt_succ]
      show [_, some (D.int ((nameSt (num0 a) i).1 / 26 + 7 * (0 + (i : Int)))), _, _] = [_, some (D.int ((nameSt (num0 a) i).1 / 26 + 7 * (i : Int))), _, _]
      rw [Int.zero_add]
      rfl
    · obtain ⟨⟨o, rfl⟩, rfl⟩ := hI
      rw [rng_len]
      exact blk_ret (px_var (pv 2) rfl) ⟨rfl, rfl⟩
/-! ### numbers as texts -/
def numS (i : Int) : Str := Str.ofString (toString i)
theorem log2_of {i : Int} (h0 : 0 ≤ i) (h1 : i < 10 ^ 12) : i.natAbs.log2 < 1920 := by
  have h : i.natAbs < 10 ^ 12 := by omega
  rcases Nat.eq_zero_or_pos i.natAbs with z | z
  · rw [z]; decide
  · have := (Nat.log2_lt (k := 40) (show i.natAbs ≠ 0 by omega)).mpr (Nat.lt_of_lt_of_le h (by decide))
    omega
theorem numS_len {i : Int} (h0 : 0 ≤ i) (h1 : i < 10 ^ 12) : (numS i).length ≤ 12 := by
  obtain ⟨n, rfl⟩ : ∃ n : Nat, i = (n : Int) := ⟨i.toNat, by omega⟩
  have e : (numS (n : Int)).cps.toList = TL.numL n := TL.tl_num n
  have l : (numS (n : Int)).length = (TL.numL n).length := by
    rw [← e]
    show (numS (n : Int)).cps.size = _
    rw [Array.length_toList]
  rw [l]
  exact TL.numL_len (by decide) (by omega)
/-! ### spots -/
abbrev mk2 (C : Addr) (a b : Str) (d1 d2 : D) : D := .ins C [(a, d1), (b, d2)]
theorem ne_as : ¬ (("at" : Str) = "since") := by decide +kernel
theorem ne_bd : ¬ (("by" : Str) = "due") := by decide +kernel
theorem put2 {a b : Str} {d1 d2 : D} (h : ¬ a = b) : putD b d2 (putD a d1 []) = [(a, d1), (b, d2)] := by
  show (if a = b then _ else (a, d1) :: putD b d2 []) = _
  rw [if_neg h]
  rfl
theorem look1 {a b : Str} {d1 d2 : D} : List.lookup a [(a, d1), (b, d2)] = some d1 := by
  rw [List.lookup_cons, beq_self_eq_true]
theorem look2 {a b : Str} {d1 d2 : D} (h : ¬ a = b) : List.lookup b [(a, d1), (b, d2)] = some d2 := by
  rw [List.lookup_cons, show (b == a) = false from by
    cases q : (b == a) with
    | false => rfl
    | true => exact absurd (eq_of_beq q).symm h, List.lookup_cons, beq_self_eq_true]
theorem lookN {m a : Str} {d1 : D} {r : List (Str × D)} (h : ¬ m = a) : List.lookup m ((a, d1) :: r) = List.lookup m r := by
  rw [List.lookup_cons, show (m == a) = false from by
    cases q : (m == a) with
    | false => rfl
    | true => exact absurd (eq_of_beq q) h]
theorem g_AtHouse (T : Top K mg c) : GloC P w K mg base 1 c.AtHouse "AtHouse" ["self", "at", "since"] (FnX K (fun _ : Addr × D × D => True) (fun a => [.adr a.1, a.2.1, a.2.2]) (fun a => [ownI K a.1 c.AtHouse []]) (fun a d l => d = .non ∧ l = [ownI K a.1 c.AtHouse [("at", a.2.1), ("since", a.2.2)]]) noE) :=
  gloc_of T.d_AtHouse_init T.c_AtHouse (fun _ _ _ _ _ _ us hl => match us, hl with | [_, _, _], _ => rfl) fun f fd F => fn_ok F cs_AtHouse_init (fun _ => rfl) fun cdv A outer s H E a hr hok => by
    obtain ⟨q, d1, d2⟩ := a
    refine blk_fld (k := 0) (px_var (pv 1) rfl) (px_var (pv 0) rfl) rfl T.c_AtHouse.cl T.n_AtHouse_at (by decide) ?_
    refine blk_fld (k := 0) (px_var (pv 2) rfl) (px_var (pv 0) rfl) rfl T.c_AtHouse.cl T.n_AtHouse_since (by show 1 < 1000; decide) ?_
    exact blk_nil ⟨rfl, by show [ownI K q _ (putD _ _ (putD _ _ []))] = _; rw [put2 ne_as]⟩
theorem g_OnRoad (T : Top K mg c) : GloC P w K mg base 1 c.OnRoad "OnRoad" ["self", "by", "due"] (FnX K (fun _ : Addr × D × D => True) (fun a => [.adr a.1, a.2.1, a.2.2]) (fun a => [ownI K a.1 c.OnRoad []]) (fun a d l => d = .non ∧ l = [ownI K a.1 c.OnRoad [("by", a.2.1), ("due", a.2.2)]]) noE) :=
  gloc_of T.d_OnRoad_init T.c_OnRoad (fun _ _ _ _ _ _ us hl => match us, hl with | [_, _, _], _ => rfl) fun f fd F => fn_ok F cs_OnRoad_init (fun _ => rfl) fun cdv A outer s H E a hr hok => by
    obtain ⟨q, d1, d2⟩ := a
    refine blk_fld (k := 0) (px_var (pv 1) rfl) (px_var (pv 0) rfl) rfl T.c_OnRoad.cl T.n_OnRoad_by (by decide) ?_
    refine blk_fld (k := 0) (px_var (pv 2) rfl) (px_var (pv 0) rfl) rfl T.c_OnRoad.cl T.n_OnRoad_due (by show 1 < 1000; decide) ?_
    exact blk_nil ⟨rfl, by show [ownI K q _ (putD _ _ (putD _ _ []))] = _; rw [put2 ne_bd]⟩
theorem g_AtHome (T : Top K mg c) : GloC P w K mg base 1 c.AtHome "AtHome" ["self", "since"] (FnX K (fun _ : Addr × D => True) (fun a => [.adr a.1, a.2]) (fun a => [ownI K a.1 c.AtHome []]) (fun a d l => d = .non ∧ l = [ownI K a.1 c.AtHome [("since", a.2)]]) noE) :=
  gloc_of T.d_AtHome_init T.c_AtHome (fun _ _ _ _ _ _ us hl => match us, hl with | [_, _], _ => rfl) fun f fd F => fn_ok F cs_AtHome_init (fun _ => rfl) fun cdv A outer s H E a hr hok => by
    obtain ⟨q, d1⟩ := a
    refine blk_fld (k := 0) (px_var (pv 1) rfl) (px_var (pv 0) rfl) rfl T.c_AtHome.cl T.n_AtHome_since (by decide) ?_
    exact blk_nil ⟨rfl, rfl⟩
section
variable {X : Cx} {g : Gm} {l : List Res} {e1 e2 : Expr} {d1 d2 : D} {p pos : Pos} {j : Nat}
theorem px_AtHouse (T : Top X.K X.mg c) (hr : Room j X.A) (hj : 2 ≤ j) (h1 : Px X e1 g l d1) (h2 : Px X e2 g l d2) (hg : Gl X "AtHouse" := by rfl) (he : starEach [e1, e2] X.env = (false, eval e1 X.env) :: starEach [e2] X.env := by rfl) (hs2 : starEach [e2] X.env = [(false, eval e2 X.env)] := by rfl) (hpl : (backTo pos (starEach [e2] X.env)).any (·.1) = false := by rfl) :
    Px X (.Call (.Name "AtHouse" p) [e1, e2] [] pos) g l (.ins c.AtHouse [("at", d1), ("since", d2)]) :=
  (ev_make (g_AtHouse T) hr hj (fun q => (q, d1, d2)) (fun _ => trivial) (pa_c h1 (pa_c h2 pa_n hs2) he) (fun _ => rfl) (fun _ => rfl) (fun q d l' h => ⟨h.1, q, rfl, by rw [h.2]; rfl⟩) hg (by decide) he hpl).frzI
theorem px_OnRoad (T : Top X.K X.mg c) (hr : Room j X.A) (hj : 2 ≤ j) (h1 : Px X e1 g l d1) (h2 : Px X e2 g l d2) (hg : Gl X "OnRoad" := by rfl) (he : starEach [e1, e2] X.env = (false, eval e1 X.env) :: starEach [e2] X.env := by rfl) (hs2 : starEach [e2] X.env = [(false, eval e2 X.env)] := by rfl) (hpl : (backTo pos (starEach [e2] X.env)).any (·.1) = false := by rfl) :
    Px X (.Call (.Name "OnRoad" p) [e1, e2] [] pos) g l (.ins c.OnRoad [("by", d1), ("due", d2)]) :=
  (ev_make (g_OnRoad T) hr hj (fun q => (q, d1, d2)) (fun _ => trivial) (pa_c h1 (pa_c h2 pa_n hs2) he) (fun _ => rfl) (fun _ => rfl) (fun q d l' h => ⟨h.1, q, rfl, by rw [h.2]; rfl⟩) hg (by decide) he hpl).frzI
theorem px_AtHome (T : Top X.K X.mg c) (hr : Room j X.A) (hj : 2 ≤ j) (h1 : Px X e1 g l d1) (hg : Gl X "AtHome" := by rfl) (he : starEach [e1] X.env = [(false, eval e1 X.env)] := by rfl) :
    Px X (.Call (.Name "AtHome" p) [e1] [] pos) g l (.ins c.AtHome [("since", d1)]) :=
  (ev_make (g_AtHome T) hr hj (fun q => (q, d1)) (fun _ => trivial) (pa_c h1 pa_n he) (fun _ => rfl) (fun _ => rfl) (fun q d l' h => ⟨h.1, q, rfl, by rw [h.2]; rfl⟩) hg (by decide) he rfl).frzI
end
/-! ### a spot's line -/
def SmallI (i : Int) : Prop := 0 ≤ i ∧ i < 10 ^ 12
theorem szS {n : Nat} (h : n ≤ 10000) : n ≤ sizeLine := Nat.le_trans h (by decide)
theorem g_NotYet_line (T : Top K mg c) : GloM P w K mg base 1 c.NotYet "line" ["self"] (Pu K (fun _ : Unit => True) (fun _ => [.ins c.NotYet []]) (fun _ => .str "not yet")) :=
  glom_of T.d_NotYet_line T.c_NotYet.cl (fun _ _ _ _ _ _ us hl => match us, hl with | [_], _ => rfl) fun f fd F => fn_ok F cs_NotYet_line (fun _ => rfl) fun cdv A outer s H E a hr hok => by
    exact blk_ret px_str ⟨rfl, rfl⟩
theorem g_AtHouse_line (T : Top K mg c) : GloM P w K mg base 1 c.AtHouse "line" ["self"] (Pu K (fun a : Str × Int => a.1.length ≤ 100 ∧ SmallI a.2) (fun a => [.ins c.AtHouse [("at", .str a.1), ("since", .int a.2)]]) (fun a => .str ("at " ++ a.1 ++ " since " ++ numS a.2))) :=
  glom_of T.d_AtHouse_line T.c_AtHouse.cl (fun _ _ _ _ _ _ us hl => match us, hl with | [_], _ => rfl) fun f fd F => fn_ok F cs_AtHouse_line (fun _ => rfl) fun cdv A outer s H E a hr hok => by
    obtain ⟨h, t⟩ := a
    obtain ⟨hl, ht⟩ := hok
    have hl : h.length ≤ 100 := hl
    have ht : SmallI t := ht
    have l3 : (numS t).length ≤ 12 := numS_len ht.1 ht.2
    have l1 : (("at " : Str) ++ h).length ≤ 103 := by rw [Str.length_append]; exact Nat.add_le_add (show (3 : Nat) ≤ 3 from Nat.le_refl _) hl
    have l2 : (("at " : Str) ++ h ++ " since ").length ≤ 110 := by rw [Str.length_append]; exact Nat.add_le_add l1 (show (7 : Nat) ≤ 7 from Nat.le_refl _)
    refine blk_ret (px_op op_add_str (px_op op_add_str (px_op op_add_str px_str (px_fld (px_var (pv 0) rfl) T.c_AtHouse.cl T.n_AtHouse_at look1) (o_addS ?_)) px_str (o_addS ?_)) (px_ty call_str_int T.z_str (pa_c (px_fld (px_var (pv 0) rfl) T.c_AtHouse.cl T.n_AtHouse_since (look2 ne_as)) pa_n) (o_str (log2_of ht.1 ht.2))) (o_addS ?_)) ⟨rfl, rfl⟩
    · exact szS (Nat.le_trans (Nat.add_le_add (show (3 : Nat) ≤ 3 from Nat.le_refl _) hl) (by decide))
    · exact szS (Nat.le_trans (Nat.add_le_add l1 (show (7 : Nat) ≤ 7 from Nat.le_refl _)) (by decide))
    · exact szS (Nat.le_trans (Nat.add_le_add l2 l3) (by decide))
theorem g_OnRoad_line (T : Top K mg c) : GloM P w K mg base 1 c.OnRoad "line" ["self"] (Pu K (fun a : Int × Int => SmallI a.1 ∧ SmallI a.2) (fun a => [.ins c.OnRoad [("by", .int a.1), ("due", .int a.2)]]) (fun a => .str ("on " ++ numS a.1 ++ " until " ++ numS a.2))) :=
  glom_of T.d_OnRoad_line T.c_OnRoad.cl (fun _ _ _ _ _ _ us hl => match us, hl with | [_], _ => rfl) fun f fd F => fn_ok F cs_OnRoad_line (fun _ => rfl) fun cdv A outer s H E a hr hok => by
    obtain ⟨h, t⟩ := a
    obtain ⟨hl, ht⟩ := hok
    have hl : SmallI h := hl
    have ht : SmallI t := ht
    have l0 : (numS h).length ≤ 12 := numS_len hl.1 hl.2
    have l3 : (numS t).length ≤ 12 := numS_len ht.1 ht.2
    have l1 : (("on " : Str) ++ numS h).length ≤ 103 := by rw [Str.length_append]; exact Nat.add_le_add (show (3 : Nat) ≤ 3 from Nat.le_refl _) (Nat.le_trans l0 (show 12 ≤ 100 by decide))
    have l2 : (("on " : Str) ++ numS h ++ " until ").length ≤ 110 := by rw [Str.length_append]; exact Nat.add_le_add l1 (show (7 : Nat) ≤ 7 from Nat.le_refl _)
    refine blk_ret (px_op op_add_str (px_op op_add_str (px_op op_add_str px_str (px_ty call_str_int T.z_str (pa_c (px_fld (px_var (pv 0) rfl) T.c_OnRoad.cl T.n_OnRoad_by look1) pa_n) (o_str (log2_of hl.1 hl.2))) (o_addS ?_)) px_str (o_addS ?_)) (px_ty call_str_int T.z_str (pa_c (px_fld (px_var (pv 0) rfl) T.c_OnRoad.cl T.n_OnRoad_due (look2 ne_bd)) pa_n) (o_str (log2_of ht.1 ht.2))) (o_addS ?_)) ⟨rfl, rfl⟩
    · exact szS (Nat.le_trans (Nat.add_le_add (show (3 : Nat) ≤ 3 from Nat.le_refl _) l0) (by decide))
    · exact szS (Nat.le_trans (Nat.add_le_add l1 (show (7 : Nat) ≤ 7 from Nat.le_refl _)) (by decide))
    · exact szS (Nat.le_trans (Nat.add_le_add l2 l3) (by decide))
theorem g_AtHome_line (T : Top K mg c) : GloM P w K mg base 1 c.AtHome "line" ["self"] (Pu K (fun a : Int => SmallI a) (fun a => [.ins c.AtHome [("since", .int a)]]) (fun a => .str ("home since " ++ numS a))) :=
  glom_of T.d_AtHome_line T.c_AtHome.cl (fun _ _ _ _ _ _ us hl => match us, hl with | [_], _ => rfl) fun f fd F => fn_ok F cs_AtHome_line (fun _ => rfl) fun cdv A outer s H E t hr ht => by
    have ht : SmallI t := ht
    have l3 : (numS t).length ≤ 12 := numS_len ht.1 ht.2
    refine blk_ret (px_op op_add_str px_str (px_ty call_str_int T.z_str (pa_c (px_fld (px_var (pv 0) rfl) T.c_AtHome.cl T.n_AtHome_since rfl) pa_n) (o_str (log2_of ht.1 ht.2))) (o_addS ?_)) ⟨rfl, rfl⟩
    exact szS (Nat.le_trans (Nat.add_le_add (show (11 : Nat) ≤ 11 from Nat.le_refl _) l3) (by decide))
/-! ### the law's own defs -/
structure Kinds (K : PySem.W.Frag) (c : Cs) (C : Addr) (b1 b2 b3 b4 : Bool) : Prop where
  cl : Cls K C
  is : Isi K C
  k0 : PySem.W.kitOne K (.ref C) (.ref c.Spot) = some true
  k1 : PySem.W.kitOne K (.ref C) (.ref c.NotYet) = some b1
  k2 : PySem.W.kitOne K (.ref C) (.ref c.AtHouse) = some b2
  k3 : PySem.W.kitOne K (.ref C) (.ref c.OnRoad) = some b3
  k4 : PySem.W.kitOne K (.ref C) (.ref c.AtHome) = some b4
structure KArg where
  C : Addr
  fs : List (Str × D)
  (b1 b2 b3 b4 : Bool)
theorem g_kinds (T : Top K mg c) : Glo P w K mg base 1 "_law_kinds" ["_law_spot"] (Pu K (fun a : KArg => Kinds K c a.C a.b1 a.b2 a.b3 a.b4) (fun a => [.ins a.C a.fs]) (fun a => .lst [.bl a.b1, .bl a.b2, .bl a.b3, .bl a.b4])) :=
  glo_of T.d_law_kinds (fun _ _ _ _ _ _ us hl => match us, hl with | [_], _ => rfl) fun f fd F => fn_ok F cs_law_kinds (fun _ => rfl) fun cdv A outer s H E a hr hok => by
    obtain ⟨C, fs, b1, b2, b3, b4⟩ := a
    have hk : Kinds K c C b1 b2 b3 b4 := hok
    refine blk_if (ts_not (ts_val (px_isC T.z_isinstance T.c_Spot.mg (px_var (pv 0) rfl) hk.cl hk.is hk.k0))) (fun h => by cases h) (fun h => ?_)
    refine blk_nil (blk_ret (px_lst (pa_c ?_ (pa_c ?_ (pa_c ?_ (pa_c ?_ pa_n))))) ⟨rfl, rfl⟩)
    · exact px_isC T.z_isinstance T.c_NotYet.mg (px_var (pv 0) rfl) hk.cl hk.is hk.k1
    · exact px_isC T.z_isinstance T.c_AtHouse.mg (px_var (pv 0) rfl) hk.cl hk.is hk.k2
    · exact px_isC T.z_isinstance T.c_OnRoad.mg (px_var (pv 0) rfl) hk.cl hk.is hk.k3
    · exact px_isC T.z_isinstance T.c_AtHome.mg (px_var (pv 0) rfl) hk.cl hk.is hk.k4
/-- a spot that has the line x -/
inductive LineOf (c : Cs) : D → Str → Prop where
  | notYet : LineOf c (.ins c.NotYet []) "not yet"
  | atHouse (h : Str) (t : Int) : h.length ≤ 100 → SmallI t → LineOf c (.ins c.AtHouse [("at", .str h), ("since", .int t)]) ("at " ++ h ++ " since " ++ numS t)
  | onRoad (b t : Int) : SmallI b → SmallI t → LineOf c (.ins c.OnRoad [("by", .int b), ("due", .int t)]) ("on " ++ numS b ++ " until " ++ numS t)
  | atHome (t : Int) : SmallI t → LineOf c (.ins c.AtHome [("since", .int t)]) ("home since " ++ numS t)
structure LArg where
  d : D
  x : Str
theorem ne_la : ¬ (("line" : Str) = "at") := by decide +kernel
theorem ne_ls : ¬ (("line" : Str) = "since") := by decide +kernel
theorem ne_lb : ¬ (("line" : Str) = "by") := by decide +kernel
theorem ne_ld : ¬ (("line" : Str) = "due") := by decide +kernel
theorem g_line (T : Top K mg c) : Glo P w K mg base 2 "_law_line" ["_law_spot", "_law_due"] (Pu K (fun a : LArg => LineOf c a.d a.x) (fun a => [a.d, .str a.x]) (fun a => .bl true)) :=
  glo_of T.d_law_line (fun _ _ _ _ _ _ us hl => match us, hl with | [_, _], _ => rfl) fun f fd F => fn_ok F cs_law_line (fun _ => rfl) fun cdv A outer s H E a hr hok => by
    obtain ⟨d, x⟩ := a
    have hl : LineOf c d x := hok
    cases hl with
    | notYet =>
      refine blk_set cs_law_line.nd (i := 2) rfl (.inl rfl) (px_meth0 (g_NotYet_line T) hr (by decide) () trivial (px_var (pv 0) rfl) rfl rfl) ?_
      refine blk_ret (px_and (px_isT "str" "str" true T.z_isinstance T.z_str (px_var (pv 2) rfl)) fun _ => px_one (px_cmp op_eq (px_var (pv 2) rfl) (px_var (pv 1) rfl) o_eqS)) ⟨?_, rfl⟩
      simp
    | atHouse h t h1 h2 =>
      refine blk_set cs_law_line.nd (i := 2) rfl (.inl rfl) (px_meth0 (g_AtHouse_line T) hr (by decide) (h, t) ⟨h1, h2⟩ (px_var (pv 0) rfl) (by rw [lookN ne_la, lookN ne_ls]; rfl) rfl) ?_
      refine blk_ret (px_and (px_isT "str" "str" true T.z_isinstance T.z_str (px_var (pv 2) rfl)) fun _ => px_one (px_cmp op_eq (px_var (pv 2) rfl) (px_var (pv 1) rfl) o_eqS)) ⟨?_, rfl⟩
      simp
    | onRoad h t h1 h2 =>
      refine blk_set cs_law_line.nd (i := 2) rfl (.inl rfl) (px_meth0 (g_OnRoad_line T) hr (by decide) (h, t) ⟨h1, h2⟩ (px_var (pv 0) rfl) (by rw [lookN ne_lb, lookN ne_ld]; rfl) rfl) ?_
      refine blk_ret (px_and (px_isT "str" "str" true T.z_isinstance T.z_str (px_var (pv 2) rfl)) fun _ => px_one (px_cmp op_eq (px_var (pv 2) rfl) (px_var (pv 1) rfl) o_eqS)) ⟨?_, rfl⟩
      simp
    | atHome t h =>
      refine blk_set cs_law_line.nd (i := 2) rfl (.inl rfl) (px_meth0 (g_AtHome_line T) hr (by decide) t h (px_var (pv 0) rfl) (by rw [lookN ne_ls]; rfl) rfl) ?_
      refine blk_ret (px_and (px_isT "str" "str" true T.z_isinstance T.z_str (px_var (pv 2) rfl)) fun _ => px_one (px_cmp op_eq (px_var (pv 2) rfl) (px_var (pv 1) rfl) o_eqS)) ⟨?_, rfl⟩
      simp
theorem g_number (T : Top K mg c) : Glo P w K mg base 1 "_law_number" ["_law_found", "_law_due"] (Pu K (fun a : Int × Int => True) (fun a => [.int a.1, .int a.2]) (fun a => .bl (decide (a.1 = a.2)))) :=
  glo_of T.d_law_number (fun _ _ _ _ _ _ us hl => match us, hl with | [_, _], _ => rfl) fun f fd F => fn_ok F cs_law_number (fun _ => rfl) fun cdv A outer s H E a hr hok => by
    obtain ⟨i, j⟩ := a
    refine blk_ret (px_and (px_isT "int" "int" true T.z_isinstance T.z_int (px_var (pv 0) rfl)) fun _ => px_and (px_not (px_isT "bool" "int" false T.z_isinstance T.z_bool (px_var (pv 0) rfl))) fun _ => px_one (px_cmp op_eq (px_var (pv 0) rfl) (px_var (pv 1) rfl) o_eqI)) ⟨?_, rfl⟩
    rfl
end
end Lw
set_option Elab.async false
set_option linter.all false
set_option maxRecDepth 100000
set_option maxHeartbeats 4000000
namespace Lw
open PySem L2 Sx
section
variable {P : Program} {w : World} {K : PySem.W.Frag} {mg : Str → Option Value} {base : Heap} {c : Cs}
/-! ### the law -/
abbrev lvl : Nat := 4
theorem nat_int {i j : Nat} : decide ((0 + (i : Int)) = 0 + (j : Int)) = decide (i = j) := by
  by_cases h : i = j
  · subst h; simp
  · have : ¬ (0 + (i : Int)) = 0 + (j : Int) := by omega
    rw [decide_eq_false h, decide_eq_false this]
theorem mod9 (i : Int) : SmallI (i % 1000000000) := ⟨by omega, Int.lt_trans (show i % 1000000000 < 1000000000 by omega) (by decide)⟩
theorem px_cell {X : Cx} {g : Gm} {l : List Res} {e : Expr} {p pos p2 : Pos} {j n : Nat} {ns : List Int} {k : Int} (T : Top X.K X.mg c) (hr : Room j X.A) (hj : 1 ≤ j) (h : Px X e g l (.lst (ns.map .int))) (hk : 0 ≤ k := by decide) (hg : Gl X "_law_cell_at" := by rfl)
    (hs : starEach [e, .Constant (.int k) n p2] X.env = (false, eval e X.env) :: starEach [.Constant (.int k) n p2] X.env := by rfl) (hs2 : starEach [.Constant (.int k) n p2] X.env = [(false, eval (.Constant (.int k) n p2) X.env)] := by rfl) (hpl : (backTo pos (starEach [.Constant (.int k) n p2] X.env)).any (·.1) = false := by rfl) :
    Px X (.Call (.Name "_law_cell_at" p) [e, .Constant (.int k) n p2] [] pos) g l (.int (cellAt ns k)) :=
  px_call (g_cell_at T) hr hj (ns, k) hk (pa_c h (pa_c px_int pa_n hs2) hs) hg (by decide) hs hpl
theorem atI_nat' {α : Type} {xs : List α} {i : Nat} {y : α} (h : xs[i]? = some y) : atI xs (0 + (i : Int)) = some y := by
  rw [Int.zero_add]
  exact atI_nat h
theorem ok_law (T : Top K mg c) {f : Addr} {fd : FuncData} (F : Fun K "law" "law" s_law f fd) : FnOk P w K mg base CX0 lvl f fd ["_law_script"] (spL K) :=
  fn_ok F cs_law (fun _ => rfl) fun cdv A outer s H E ns hr hok => by
    have nd := cs_law.nd
    refine blk_set nd (i := 1) rfl (.inl rfl) (px_call (g_name T) hr (by decide) _ trivial (pa_c (px_cell T hr (by decide) (px_var (pv 0) rfl)) pa_n)) ?_
    generalize hN : lawName (cellAt ns 0) = N
    have lN : N.length ≤ 8 := by rw [← hN]; exact lawName_len _
    refine blk_set nd (i := 2) (d := .int (cellAt ns 1 % 1000000000)) rfl (.inl rfl) (px_op op_mod (px_cell T hr (by decide) (px_var (pv 0) rfl)) (px_op op_pow px_int px_int o_pow) o_mod) ?_
    refine blk_set nd (i := 3) (d := .int (cellAt ns 2 % 1000000000)) rfl (.inl rfl) (px_op op_mod (px_cell T hr (by decide) (px_var (pv 0) rfl)) (px_op op_pow px_int px_int o_pow) o_mod) ?_
    refine blk_set nd (i := 4) (d := .int (cellAt ns 3 % 1000000000)) rfl (.inl rfl) (px_op op_mod (px_cell T hr (by decide) (px_var (pv 0) rfl)) (px_op op_pow px_int px_int o_pow) o_mod) ?_
    have ht : SmallI (cellAt ns 1 % 1000000000) := mod9 _
    have ho : SmallI (cellAt ns 2 % 1000000000) := mod9 _
    have hd : SmallI (cellAt ns 3 % 1000000000) := mod9 _
    generalize cellAt ns 1 % 1000000000 = t at ht ⊢
    generalize cellAt ns 2 % 1000000000 = o at ho ⊢
    generalize cellAt ns 3 % 1000000000 = r at hd ⊢
    refine blk_set nd (i := 5) rfl (.inl rfl) (px_lst (pa_c (px_make0 T.m_NotYet T.c_NotYet.mg) (pa_c (px_AtHouse T hr (by decide) (px_var (pv 1) rfl) (px_var (pv 2) rfl)) (pa_c (px_OnRoad T hr (by decide) (px_var (pv 4) rfl) (px_var (pv 3) rfl)) (pa_c (px_AtHome T hr (by decide) (px_var (pv 2) rfl)) pa_n))))) ?_
    refine blk_for (is := [6]) (fun i g l => (∃ o', g = [some (.lst (ns.map .int)), some (.str N), some (.int t), some (.int o), some (.int r), some (.lst [.ins c.NotYet [], .ins c.AtHouse [("at", .str N), ("since", .int t)], .ins c.OnRoad [("by", .int r), ("due", .int o)], .ins c.AtHome [("since", .int t)]]), o', none, none]) ∧ l = []) PassesOwn.never rfl
      (it_range px_int (by decide) (by decide) T.z_range) (pg_name (i := 6) nd rfl (.inr rfl)) ⟨⟨none, rfl⟩, rfl⟩ (fun i d g l hd hI => ?_) (fun g l hI => ?_)
    · obtain ⟨⟨o', rfl⟩, rfl⟩ := hI
      obtain ⟨hi, rfl⟩ := rng_get hd
      refine ⟨_, tg_name, ?_⟩
      have hi : i < 4 := hi
      have turn : ∃ C fs b1 b2 b3 b4, Kinds K c C b1 b2 b3 b4 ∧ ([.ins c.NotYet [], .ins c.AtHouse [("at", .str N), ("since", .int t)], .ins c.OnRoad [("by", .int r), ("due", .int o)], .ins c.AtHome [("since", .int t)]] : List D)[i]? = some (.ins C fs) ∧ [b1, b2, b3, b4] = (List.range 4).map fun j => decide (j = i) := by
        rcases (show i = 0 ∨ i = 1 ∨ i = 2 ∨ i = 3 by omega) with rfl | rfl | rfl | rfl
        · exact ⟨_, _, true, false, false, false, ⟨T.c_NotYet.cl, T.i_NotYet, T.j_NotYet_Spot, T.j_NotYet_NotYet, T.j_NotYet_AtHouse, T.j_NotYet_OnRoad, T.j_NotYet_AtHome⟩, rfl, rfl⟩
        · exact ⟨_, _, false, true, false, false, ⟨T.c_AtHouse.cl, T.i_AtHouse, T.j_AtHouse_Spot, T.j_AtHouse_NotYet, T.j_AtHouse_AtHouse, T.j_AtHouse_OnRoad, T.j_AtHouse_AtHome⟩, rfl, rfl⟩
        · exact ⟨_, _, false, false, true, false, ⟨T.c_OnRoad.cl, T.i_OnRoad, T.j_OnRoad_Spot, T.j_OnRoad_NotYet, T.j_OnRoad_AtHouse, T.j_OnRoad_OnRoad, T.j_OnRoad_AtHome⟩, rfl, rfl⟩
        · exact ⟨_, _, false, false, false, true, ⟨T.c_AtHome.cl, T.i_AtHome, T.j_AtHome_Spot, T.j_AtHome_NotYet, T.j_AtHome_AtHouse, T.j_AtHome_OnRoad, T.j_AtHome_AtHome⟩, rfl, rfl⟩
      obtain ⟨C, fs, b1, b2, b3, b4, hk, hs, hb⟩ := turn
      refine blk_if (ts_cmp (op_neD hr.units) (px_call (g_kinds T) hr (by decide) ⟨C, fs, b1, b2, b3, b4⟩ hk (pa_c (px_ix ix_list (px_var (pv 5) rfl) (px_var (pv 6) rfl) (o_ixL (atI_nat' hs))) pa_n))
        (px_lc (own := [("_law_j", 8)]) (is := [8]) (rs := (List.range 4).map fun j => .bl (decide (j = i))) rfl nd (it_range px_int (by decide) (by decide) T.z_range) (blkOk_by (N := ns_law) (sc := defScope s_law) (by decide +kernel)) (fun _ _ _ _ _ => pg_name (i := 8) nd rfl (.inl rfl)) (by decide) rfl (szS (by simp)) (fun j d' hj => ?_))
        (o_neD (p := .list [.bool b1, .bool b2, .bool b3, .bool b4]) (q := .list ((List.range 4).map fun j => .bool (decide (j = i)))) rfl rfl ?_ ?_)) (fun h => ?_) (fun h => ?_)
      · obtain ⟨hj4, rfl⟩ := rng_get hj
        refine ⟨_, .bl (decide (j = i)), tg_name, ?_, fun _ _ _ _ _ => ?_⟩
        · have hj4 : j < 4 := hj4
          rw [List.getElem?_map, List.getElem?_range hj4]
          rfl
        · refine (px_cmp op_eq (px_var (pv 8) rfl) (px_var (pv 6) rfl) o_eqI).to ?_
          rw [nat_int]
      · cases b1 <;> cases b2 <;> cases b3 <;> cases b4 <;> decide
      · rcases (show i = 0 ∨ i = 1 ∨ i = 2 ∨ i = 3 by omega) with rfl | rfl | rfl | rfl <;> decide
      · have e : (List.range 4).map (fun j => PyData.bool (decide (j = i))) = [.bool b1, .bool b2, .bool b3, .bool b4] := by
          have e2 : (List.range 4).map (fun j => PyData.bool (decide (j = i))) = ((List.range 4).map fun j => decide (j = i)).map PyData.bool := by rw [List.map_map]; rfl
          rw [e2, ← hb]
          rfl
        rw [e] at h
        exact absurd h (by cases b1 <;> cases b2 <;> cases b3 <;> cases b4 <;> decide)
      · exact blk_nil (blk_nil ⟨⟨_, rfl⟩, rfl⟩)
    · obtain ⟨⟨o', rfl⟩, rfl⟩ := hI
      have lt : (numS t).length ≤ 12 := numS_len ht.1 ht.2
      have lo : (numS o).length ≤ 12 := numS_len ho.1 ho.2
      have lr : (numS r).length ≤ 12 := numS_len hd.1 hd.2
      have cat3 : ∀ {x y : Str} {a b : Nat}, x.length ≤ a → y.length ≤ b → (x ++ y).length ≤ a + b := fun h1 h2 => by rw [Str.length_append]; exact Nat.add_le_add h1 h2
      refine blk_set nd (i := 7) rfl (.inl rfl) (px_lst (pa_c (px_AtHouse T hr (by decide) px_str (px_var (pv 3) rfl)) (pa_c (px_OnRoad T hr (by decide) (px_var (pv 2) rfl) (px_var (pv 4) rfl)) (pa_c (px_AtHome T hr (by decide) (px_var (pv 3) rfl)) pa_n)))) ?_
      have lz : (("z" : Str)).length ≤ 100 := by decide
      -- lines
      refine blk_if (ts_w (tw_or (ts_not (ts_val (px_call (g_line T) hr (by decide) ⟨_, _⟩ .notYet (pa_c (px_ix ix_list (px_var (pv 5) rfl) px_int (o_ixL rfl)) (pa_c px_str pa_n))))) fun _ => tw_or1 (ts_not (ts_val (px_call (g_line T) hr (by decide) ⟨_, _⟩ (.atHouse N t (by omega) ht) (pa_c (px_ix ix_list (px_var (pv 5) rfl) px_int (o_ixL rfl)) (pa_c
        (px_op op_add_str (px_op op_add_str (px_op op_add_str px_str (px_var (pv 1) rfl) (o_addS ?_)) px_str (o_addS ?_)) (px_ty call_str_int T.z_str (pa_c (px_var (pv 2) rfl) pa_n) (o_str (log2_of ht.1 ht.2))) (o_addS ?_)) pa_n))))))) (fun h => by cases h) (fun h => ?_)
      · exact szS (Nat.le_trans (Nat.add_le_add (show (3 : Nat) ≤ 3 from Nat.le_refl _) lN) (by decide))
      · exact szS (Nat.le_trans (Nat.add_le_add (cat3 (show (3 : Nat) ≤ 3 from Nat.le_refl _) lN) (show (7 : Nat) ≤ 7 from Nat.le_refl _)) (by decide))
      · exact szS (Nat.le_trans (Nat.add_le_add (cat3 (cat3 (show (3 : Nat) ≤ 3 from Nat.le_refl _) lN) (show (7 : Nat) ≤ 7 from Nat.le_refl _)) lt) (by decide))
      refine blk_nil ?_
      refine blk_if (ts_not (ts_val (px_call (g_line T) hr (by decide) ⟨_, _⟩ (.onRoad r o hd ho) (pa_c (px_ix ix_list (px_var (pv 5) rfl) px_int (o_ixL rfl)) (pa_c
        (px_op op_add_str (px_op op_add_str (px_op op_add_str px_str (px_ty call_str_int T.z_str (pa_c (px_var (pv 4) rfl) pa_n) (o_str (log2_of hd.1 hd.2))) (o_addS ?_)) px_str (o_addS ?_)) (px_ty call_str_int T.z_str (pa_c (px_var (pv 3) rfl) pa_n) (o_str (log2_of ho.1 ho.2))) (o_addS ?_)) pa_n))))) (fun h => by cases h) (fun h => ?_)
      · exact szS (Nat.le_trans (Nat.add_le_add (show (3 : Nat) ≤ 3 from Nat.le_refl _) lr) (by decide))
      · exact szS (Nat.le_trans (Nat.add_le_add (cat3 (show (3 : Nat) ≤ 3 from Nat.le_refl _) lr) (show (7 : Nat) ≤ 7 from Nat.le_refl _)) (by decide))
      · exact szS (Nat.le_trans (Nat.add_le_add (cat3 (cat3 (show (3 : Nat) ≤ 3 from Nat.le_refl _) lr) (show (7 : Nat) ≤ 7 from Nat.le_refl _)) lo) (by decide))
      refine blk_nil ?_
      refine blk_if (ts_w (tw_or (ts_not (ts_val (px_call (g_line T) hr (by decide) ⟨_, _⟩ (.atHome t ht) (pa_c (px_ix ix_list (px_var (pv 5) rfl) px_int (o_ixL rfl)) (pa_c
        (px_op op_add_str px_str (px_ty call_str_int T.z_str (pa_c (px_var (pv 2) rfl) pa_n) (o_str (log2_of ht.1 ht.2))) (o_addS ?_)) pa_n))))) fun _ => tw_or1 (ts_not (ts_val (px_call (g_line T) hr (by decide) ⟨_, _⟩ (.atHouse "z" o lz ho) (pa_c (px_ix ix_list (px_var (pv 7) rfl) px_int (o_ixL rfl)) (pa_c
        (px_op op_add_str px_str (px_ty call_str_int T.z_str (pa_c (px_var (pv 3) rfl) pa_n) (o_str (log2_of ho.1 ho.2))) (o_addS ?_)) pa_n))))))) (fun h => by cases h) (fun h => ?_)
      · exact szS (Nat.le_trans (Nat.add_le_add (show (11 : Nat) ≤ 11 from Nat.le_refl _) lt) (by decide))
      · exact szS (Nat.le_trans (Nat.add_le_add (show (11 : Nat) ≤ 11 from Nat.le_refl _) lo) (by decide))
      refine blk_nil ?_
      -- values
      refine blk_if (ts_w (tw_or (ts_cmp op_ne (px_fld (px_ix ix_list (px_var (pv 5) rfl) px_int (o_ixL rfl)) T.c_AtHouse.cl T.n_AtHouse_at look1) (px_var (pv 1) rfl) o_neS) fun _ => tw_or (ts_not (ts_val (px_call (g_number T) hr (by decide) (_, _) trivial (pa_c (px_fld (px_ix ix_list (px_var (pv 5) rfl) px_int (o_ixL rfl)) T.c_AtHouse.cl T.n_AtHouse_since (look2 ne_as)) (pa_c (px_var (pv 2) rfl) pa_n)))))
        fun _ => tw_or1 (ts_not (ts_val (px_call (g_number T) hr (by decide) (_, _) trivial (pa_c (px_fld (px_ix ix_list (px_var (pv 5) rfl) px_int (o_ixL rfl)) T.c_OnRoad.cl T.n_OnRoad_by look1) (pa_c (px_var (pv 4) rfl) pa_n))))))) (fun h => by simp at h) (fun h => ?_)
      refine blk_nil ?_
      refine blk_if (ts_w (tw_or (ts_not (ts_val (px_call (g_number T) hr (by decide) (_, _) trivial (pa_c (px_fld (px_ix ix_list (px_var (pv 5) rfl) px_int (o_ixL rfl)) T.c_OnRoad.cl T.n_OnRoad_due (look2 ne_bd)) (pa_c (px_var (pv 3) rfl) pa_n)))))
        fun _ => tw_or1 (ts_not (ts_val (px_call (g_number T) hr (by decide) (_, _) trivial (pa_c (px_fld (px_ix ix_list (px_var (pv 5) rfl) px_int (o_ixL rfl)) T.c_AtHome.cl T.n_AtHome_since rfl) (pa_c (px_var (pv 2) rfl) pa_n))))))) (fun h => by simp at h) (fun h => ?_)
      refine blk_nil ?_
      refine blk_ret (px_and (px_call (g_line T) hr (by decide) ⟨_, _⟩ (.onRoad t r ht hd) (pa_c (px_ix ix_list (px_var (pv 7) rfl) px_int (o_ixL rfl)) (pa_c
        (px_op op_add_str (px_op op_add_str (px_op op_add_str px_str (px_ty call_str_int T.z_str (pa_c (px_var (pv 2) rfl) pa_n) (o_str (log2_of ht.1 ht.2))) (o_addS ?_)) px_str (o_addS ?_)) (px_ty call_str_int T.z_str (pa_c (px_var (pv 4) rfl) pa_n) (o_str (log2_of hd.1 hd.2))) (o_addS ?_)) pa_n)))
        fun _ => px_one (px_call (g_number T) hr (by decide) (_, _) trivial (pa_c (px_fld (px_ix ix_list (px_var (pv 7) rfl) px_int (o_ixL rfl)) T.c_AtHome.cl T.n_AtHome_since rfl) (pa_c (px_var (pv 3) rfl) pa_n)))) ⟨?_, rfl⟩
      · exact szS (Nat.le_trans (Nat.add_le_add (show (3 : Nat) ≤ 3 from Nat.le_refl _) lt) (by decide))
      · exact szS (Nat.le_trans (Nat.add_le_add (cat3 (show (3 : Nat) ≤ 3 from Nat.le_refl _) lt) (show (7 : Nat) ≤ 7 from Nat.le_refl _)) (by decide))
      · exact szS (Nat.le_trans (Nat.add_le_add (cat3 (cat3 (show (3 : Nat) ≤ 3 from Nat.le_refl _) lt) (show (7 : Nat) ≤ 7 from Nat.le_refl _)) lr) (by decide))
      · simp
end
def hfn : List He.DefD := [dD "_law_cell_at" s_law_cell_at, dD "_law_name" s_law_name, dD "_law_kinds" s_law_kinds, dD "_law_line" s_law_line, dD "_law_number" s_law_number, dD "law" s_law, dM "Spot" "line" "Spot.line" s_Spot_line, dM "NotYet" "line" "NotYet.line" s_NotYet_line, dM "AtHouse" "__init__" "AtHouse.__init__" s_AtHouse_init, dM "AtHouse" "line" "AtHouse.line" s_AtHouse_line, dM "OnRoad" "__init__" "OnRoad.__init__" s_OnRoad_init, dM "OnRoad" "line" "OnRoad.line" s_OnRoad_line, dM "AtHome" "__init__" "AtHome.__init__" s_AtHome_init, dM "AtHome" "line" "AtHome.line" s_AtHome_line]
def hfa : List He.Fa := [.free "range", .free "len", .free "isinstance", .free "str", .free "int", .free "bool", .glo "_law_cell_at", .glo "_law_name", .glo "_law_kinds", .glo "_law_line", .glo "_law_number", .glo "law", .glo "Spot", .cls "Spot", .keep "Spot", .meth "Spot" "line", .glo "NotYet", .cls "NotYet", .keep "NotYet", .meth "NotYet" "line", .glo "AtHouse", .cls "AtHouse", .keep "AtHouse", .mkr "AtHouse", .meth "AtHouse" "line", .noat "AtHouse" "at", .noat "AtHouse" "since", .glo "OnRoad", .cls "OnRoad", .keep "OnRoad", .mkr "OnRoad", .meth "OnRoad" "line", .noat "OnRoad" "by", .noat "OnRoad" "due", .glo "AtHome", .cls "AtHome", .keep "AtHome", .mkr "AtHome", .meth "AtHome" "line", .noat "AtHome" "since"]
def hfb : List Fb := [.isi "Spot", .mk0 "Spot", .isi "NotYet", .mk0 "NotYet", .isi "AtHouse", .isi "OnRoad", .isi "AtHome", .kit "Spot" "Spot" true, .kit "NotYet" "Spot" true, .kit "AtHouse" "Spot" true, .kit "OnRoad" "Spot" true, .kit "AtHome" "Spot" true, .kit "Spot" "NotYet" false, .kit "NotYet" "NotYet" true, .kit "AtHouse" "NotYet" false, .kit "OnRoad" "NotYet" false, .kit "AtHome" "NotYet" false, .kit "Spot" "AtHouse" false, .kit "NotYet" "AtHouse" false, .kit "AtHouse" "AtHouse" true, .kit "OnRoad" "AtHouse" false, .kit "AtHome" "AtHouse" false, .kit "Spot" "OnRoad" false, .kit "NotYet" "OnRoad" false, .kit "AtHouse" "OnRoad" false, .kit "OnRoad" "OnRoad" true, .kit "AtHome" "OnRoad" false, .kit "Spot" "AtHome" false, .kit "NotYet" "AtHome" false, .kit "AtHouse" "AtHome" false, .kit "OnRoad" "AtHome" false, .kit "AtHome" "AtHome" true]
abbrev hex : PySem.W.Frag → Bool := exB hfb
abbrev csK (K : PySem.W.Frag) : Cs := ⟨He.ga K "Spot", He.ga K "NotYet", He.ga K "AtHouse", He.ga K "OnRoad", He.ga K "AtHome"⟩
theorem top_of {K : PySem.W.Frag} {h : Heap} {mg : Str → Option Value} {w : World} (X : K.In h) (G : h.Ns mainGlobals mg) (says : He.SaysX hfa hfn [] [] hex w h K) : Top K mg (csK K) := by
  have c : He.SaysD hfa hfn K := says.t.d
  have cx : exB hfb K = true := says.more
  exact {
    z_range := He.free_ok X G (c.fact 0 (f := .free "range") rfl)
    z_len := He.free_ok X G (c.fact 1 (f := .free "len") rfl)
    z_isinstance := He.free_ok X G (c.fact 2 (f := .free "isinstance") rfl)
    z_str := He.free_ok X G (c.fact 3 (f := .free "str") rfl)
    z_int := He.free_ok X G (c.fact 4 (f := .free "int") rfl)
    z_bool := He.free_ok X G (c.fact 5 (f := .free "bool") rfl)
    d_law_cell_at := dfn_of c (He.glo_ok X G (c.fact 6 (f := .glo "_law_cell_at") rfl)) 0
    d_law_name := dfn_of c (He.glo_ok X G (c.fact 7 (f := .glo "_law_name") rfl)) 1
    d_law_kinds := dfn_of c (He.glo_ok X G (c.fact 8 (f := .glo "_law_kinds") rfl)) 2
    d_law_line := dfn_of c (He.glo_ok X G (c.fact 9 (f := .glo "_law_line") rfl)) 3
    d_law_number := dfn_of c (He.glo_ok X G (c.fact 10 (f := .glo "_law_number") rfl)) 4
    d_law := dfn_of c (He.glo_ok X G (c.fact 11 (f := .glo "law") rfl)) 5
    c_Spot := ⟨He.glo_ok X G (c.fact 12 (f := .glo "Spot") rfl), He.cls_ok (c.fact 13 (f := .cls "Spot") rfl), He.keep_ok (c.fact 14 (f := .keep "Spot") rfl)⟩
    i_Spot := isiB_ok (fb_at cx 0 (f := .isi "Spot") rfl)
    d_Spot_line := dmt_of c (He.meth_ok (c.fact 15 (f := .meth "Spot" "line") rfl)) 6
    m_Spot := mk0_ok (fb_at cx 1 (f := .mk0 "Spot") rfl) (c.fact 14 (f := .keep "Spot") rfl)
    c_NotYet := ⟨He.glo_ok X G (c.fact 16 (f := .glo "NotYet") rfl), He.cls_ok (c.fact 17 (f := .cls "NotYet") rfl), He.keep_ok (c.fact 18 (f := .keep "NotYet") rfl)⟩
    i_NotYet := isiB_ok (fb_at cx 2 (f := .isi "NotYet") rfl)
    d_NotYet_line := dmt_of c (He.meth_ok (c.fact 19 (f := .meth "NotYet" "line") rfl)) 7
    m_NotYet := mk0_ok (fb_at cx 3 (f := .mk0 "NotYet") rfl) (c.fact 18 (f := .keep "NotYet") rfl)
    c_AtHouse := ⟨He.glo_ok X G (c.fact 20 (f := .glo "AtHouse") rfl), He.cls_ok (c.fact 21 (f := .cls "AtHouse") rfl), He.keep_ok (c.fact 22 (f := .keep "AtHouse") rfl)⟩
    i_AtHouse := isiB_ok (fb_at cx 4 (f := .isi "AtHouse") rfl)
    d_AtHouse_init := din_of c (He.mkr_ok (c.fact 23 (f := .mkr "AtHouse") rfl)) 8
    d_AtHouse_line := dmt_of c (He.meth_ok (c.fact 24 (f := .meth "AtHouse" "line") rfl)) 9
    n_AtHouse_at := He.noat_ok (c.fact 25 (f := .noat "AtHouse" "at") rfl)
    n_AtHouse_since := He.noat_ok (c.fact 26 (f := .noat "AtHouse" "since") rfl)
    c_OnRoad := ⟨He.glo_ok X G (c.fact 27 (f := .glo "OnRoad") rfl), He.cls_ok (c.fact 28 (f := .cls "OnRoad") rfl), He.keep_ok (c.fact 29 (f := .keep "OnRoad") rfl)⟩
    i_OnRoad := isiB_ok (fb_at cx 5 (f := .isi "OnRoad") rfl)
    d_OnRoad_init := din_of c (He.mkr_ok (c.fact 30 (f := .mkr "OnRoad") rfl)) 10
    d_OnRoad_line := dmt_of c (He.meth_ok (c.fact 31 (f := .meth "OnRoad" "line") rfl)) 11
    n_OnRoad_by := He.noat_ok (c.fact 32 (f := .noat "OnRoad" "by") rfl)
    n_OnRoad_due := He.noat_ok (c.fact 33 (f := .noat "OnRoad" "due") rfl)
    c_AtHome := ⟨He.glo_ok X G (c.fact 34 (f := .glo "AtHome") rfl), He.cls_ok (c.fact 35 (f := .cls "AtHome") rfl), He.keep_ok (c.fact 36 (f := .keep "AtHome") rfl)⟩
    i_AtHome := isiB_ok (fb_at cx 6 (f := .isi "AtHome") rfl)
    d_AtHome_init := din_of c (He.mkr_ok (c.fact 37 (f := .mkr "AtHome") rfl)) 12
    d_AtHome_line := dmt_of c (He.meth_ok (c.fact 38 (f := .meth "AtHome" "line") rfl)) 13
    n_AtHome_since := He.noat_ok (c.fact 39 (f := .noat "AtHome" "since") rfl)
    j_Spot_Spot := kit_ok (fb_at cx 7 (f := .kit "Spot" "Spot" true) rfl)
    j_NotYet_Spot := kit_ok (fb_at cx 8 (f := .kit "NotYet" "Spot" true) rfl)
    j_AtHouse_Spot := kit_ok (fb_at cx 9 (f := .kit "AtHouse" "Spot" true) rfl)
    j_OnRoad_Spot := kit_ok (fb_at cx 10 (f := .kit "OnRoad" "Spot" true) rfl)
    j_AtHome_Spot := kit_ok (fb_at cx 11 (f := .kit "AtHome" "Spot" true) rfl)
    j_Spot_NotYet := kit_ok (fb_at cx 12 (f := .kit "Spot" "NotYet" false) rfl)
    j_NotYet_NotYet := kit_ok (fb_at cx 13 (f := .kit "NotYet" "NotYet" true) rfl)
    j_AtHouse_NotYet := kit_ok (fb_at cx 14 (f := .kit "AtHouse" "NotYet" false) rfl)
    j_OnRoad_NotYet := kit_ok (fb_at cx 15 (f := .kit "OnRoad" "NotYet" false) rfl)
    j_AtHome_NotYet := kit_ok (fb_at cx 16 (f := .kit "AtHome" "NotYet" false) rfl)
    j_Spot_AtHouse := kit_ok (fb_at cx 17 (f := .kit "Spot" "AtHouse" false) rfl)
    j_NotYet_AtHouse := kit_ok (fb_at cx 18 (f := .kit "NotYet" "AtHouse" false) rfl)
    j_AtHouse_AtHouse := kit_ok (fb_at cx 19 (f := .kit "AtHouse" "AtHouse" true) rfl)
    j_OnRoad_AtHouse := kit_ok (fb_at cx 20 (f := .kit "OnRoad" "AtHouse" false) rfl)
    j_AtHome_AtHouse := kit_ok (fb_at cx 21 (f := .kit "AtHome" "AtHouse" false) rfl)
    j_Spot_OnRoad := kit_ok (fb_at cx 22 (f := .kit "Spot" "OnRoad" false) rfl)
    j_NotYet_OnRoad := kit_ok (fb_at cx 23 (f := .kit "NotYet" "OnRoad" false) rfl)
    j_AtHouse_OnRoad := kit_ok (fb_at cx 24 (f := .kit "AtHouse" "OnRoad" false) rfl)
    j_OnRoad_OnRoad := kit_ok (fb_at cx 25 (f := .kit "OnRoad" "OnRoad" true) rfl)
    j_AtHome_OnRoad := kit_ok (fb_at cx 26 (f := .kit "AtHome" "OnRoad" false) rfl)
    j_Spot_AtHome := kit_ok (fb_at cx 27 (f := .kit "Spot" "AtHome" false) rfl)
    j_NotYet_AtHome := kit_ok (fb_at cx 28 (f := .kit "NotYet" "AtHome" false) rfl)
    j_AtHouse_AtHome := kit_ok (fb_at cx 29 (f := .kit "AtHouse" "AtHome" false) rfl)
    j_OnRoad_AtHome := kit_ok (fb_at cx 30 (f := .kit "OnRoad" "AtHome" false) rfl)
    j_AtHome_AtHome := kit_ok (fb_at cx 31 (f := .kit "AtHome" "AtHome" true) rfl)
  }
abbrev R : PySem.W.OpenRow := PySem.W.OpenLaw.row PySem.Challenge.rw_postroad_k12_spots
abbrev hk : PySem.W.Hook := He.hookX 5 hfa hfn [] [] hex
def ob (s : PySem.W.SharedT) : He.AlX := He.obsX 5 hfa hfn [] [] hex (HandSHeadRun.getT s)
theorem ob_eq (s : PySem.W.SharedT) : ob s = hk.obs s.abs := He.obsX_eq (HandSHeadRun.getT_eq s)
def loose : List Str := ["Spot", "NotYet", "AtHouse", "OnRoad", "AtHome", "_law_cell_at", "_law_name", "_law_kinds", "_law_line", "_law_number"]
theorem run (w : World) : HandSHeadRun.RunEq R (PySem.W.view R.prog [12]) hk ob 3000 loose w := by
  intro os
  kernel_rfl
end Lw
open PySem PySem.W PySem.Calls PyProof.Rows
set_option maxHeartbeats 0 in
theorem PySem.Challenge.cw_postroad_k12_spots_holds : PySem.Challenge.rw_postroad_k12_spots.Holds := by
  w_on; o_law
  refine HandSHeadRun.head_any (r := OpenLaw.row PySem.Challenge.rw_postroad_k12_spots) (q := view (OpenLaw.row PySem.Challenge.rw_postroad_k12_spots).prog [12]) (H := Lw.hk) (ob := Lw.ob) (M := 3000) (loose := Lw.loose) (d := HandSHeadRun.topDef (OpenLaw.row PySem.Challenge.rw_postroad_k12_spots).prog 12) (kwd := []) Lw.ob_eq
    (by kernel_rfl) (fun s => by kernel_rfl) Lw.run (by kernel_rfl) (by kernel_rfl) (by kernel_rfl) (by rfl) (by first | assumption | decide +kernel) (by decide +kernel) ⟨rfl, rfl, rfl, rfl, rfl, by decide +kernel⟩ ?hw ?hc
  case hw => w_witness2
  case hc =>
    refine L2.walk_ofE (l := PySem.Challenge.rw_postroad_k12_spots) (n := 63) (k := Lw.lvl) (x := "_law_script") (CX := L2.CX0) rfl (by decide) (by kernel_rfl) ⟨rfl, by decide, by decide⟩ ?F (fun _ _ _ _ z => z)
    intro w mg fa h Y G hmg0
    obtain ⟨K, KX, c⟩ := Y
    have hmg : mg ("law" : PySem.Str) = some (.ref fa) := by
      have e : (HandSHeadRun.topDef (OpenLaw.row PySem.Challenge.rw_postroad_k12_spots).prog 12).name = ("law" : PySem.Str) := by kernel_rfl
      rw [← e]
      exact hmg0
    have T := Lw.top_of KX G c
    obtain ⟨fd, hb, hF⟩ := Sx.law_end (P := (PySem.Challenge.rw_postroad_k12_spots).prog) (w := w) (pn := "_law_script") (k := Lw.lvl) T.d_law hmg (fun _ _ _ _ _ _ s v => .of_eq rfl) (fun base h1 h2 f fd F => Lw.ok_law T F)
    exact ⟨K, fd, Sx.spLaw K, KX, hb, fun H a ns hl _ hS => ⟨a, ns, rfl, hS, hl, fun _ => rfl⟩, hF⟩
