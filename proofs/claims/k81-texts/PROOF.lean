import PyProof.Rows.All
import Wide.All
import OpenK.AllK
import Wide.FinOn
import HandS.ForMost
import HandS.Exc
import HandS.WordsExc
import HandS.IsInst
import HandS.Conv
import HandS.Text
import HandS.TupAny
import HandS.Steps
import HandS.SortInts
import Lean
import KE.KStateDown
import HandS.Defaults
import HandS.Head0
import HandS.Head1
import HandS.Head2
import HandS.HeadEnd
import HandS.HeadHook1
import HandS.HeadHook2
import HandS.HeadHook3
import HandS.HeadHook4
import PySem.Challenge.RW_postroad_k81_plans_as_texts
set_option Elab.async false
set_option linter.all false
set_option maxRecDepth 100000
set_option maxHeartbeats 2000000
/-! Frozen data, owned cells, states: a small separation logic over the layer's readings. -/
namespace Sx
open PySem L2

/-! ### heaps -/
/-- B knows all that A knows -/
def Ex (A B : Hp) : Prop := ∀ x u, A x = some u → B x = some u
theorem Ex.rf {A : Hp} : Ex A A := fun _ _ q => q
theorem Ex.tr {A B C : Hp} (p : Ex A B) (q : Ex B C) : Ex A C := fun x u z => q x u (p x u z)
theorem Ex.mut {A B : Hp} {q : Addr} {u : HO} (s : Ex A B) (n : A q = none) : Ex A (upd B q u) := fun x v z => (upd_ne (ne_of_none z n)).trans (s x v z)
theorem Ex.new {A : Hp} {q : Addr} {u : HO} (n : A q = none) : Ex A (upd A q u) := Ex.rf.mut n
theorem Ex.free {A B : Hp} (s : Ex A B) {q : Addr} (n : B q = none) : A q = none := Option.eq_none_iff_forall_ne_some.mpr fun u z => by
  rw [s q u z] at n; cases n
theorem Ex.upd2 {A B : Hp} {q : Addr} {u : HO} (s : Ex A B) : Ex (upd A q u) (upd B q u) := fun x v z => by
  by_cases k : x = q
  · subst k; rw [upd_same] at z ⊢; exact z
  · rw [upd_ne k] at z ⊢; exact s x v z
theorem ex_rd {A B : Hp} {x : Addr} {u : HO} (s : Ex A B) : Rd A x u → Rd B x u := Or.imp (s x _) fun ⟨o, z⟩ => ⟨o, s x _ z⟩
theorem ex_l {K : PySem.W.Frag} {A B : Hp} {x : Addr} {vs : List V} (s : Ex A B) : SqL K A x vs → SqL K B x vs := Or.imp (ex_rd s) id
theorem ex_t {K : PySem.W.Frag} {A B : Hp} {x : Addr} {vs : List V} (s : Ex A B) : SqT K A x vs → SqT K B x vs := Or.imp (ex_rd s) id
def emp : Hp := fun _ => none
def one (p : Addr) (o : HO) : Hp := upd emp p o
def join (A B : Hp) : Hp := fun a => match A a with | some o => some o | none => B a
theorem join_l {A B : Hp} {a : Addr} {o : HO} (h : A a = some o) : join A B a = some o := by unfold join; rw [h]
theorem join_r {A B : Hp} {a : Addr} (h : A a = none) : join A B a = B a := by unfold join; rw [h]
theorem join_emp (A : Hp) : join A emp = A := by
  funext a; unfold join emp; cases A a <;> rfl
theorem emp_join (A : Hp) : join emp A = A := by
  funext a; unfold join emp; rfl
theorem join_some {A B : Hp} {a : Addr} {o : HO} (h : join A B a = some o) : A a = some o ∨ (A a = none ∧ B a = some o) := by
  unfold join at h
  cases q : A a with
  | some u => rw [q] at h; exact .inl h
  | none => rw [q] at h; exact .inr ⟨rfl, h⟩
theorem join_none {A B : Hp} {a : Addr} (h : join A B a = none) : A a = none ∧ B a = none := by
  unfold join at h
  cases q : A a with
  | some u => rw [q] at h; cases h
  | none => rw [q] at h; exact ⟨rfl, h⟩
theorem join_assoc (A B C : Hp) : join (join A B) C = join A (join B C) := by
  funext a; unfold join; cases A a <;> rfl
/-- nothing in common -/
def Dj (A B : Hp) : Prop := ∀ a o, A a = some o → B a = none
theorem Dj.sym {A B : Hp} (h : Dj A B) : Dj B A := fun a o e => by
  cases q : A a with
  | none => rfl
  | some u => rw [h a u q] at e; cases e
theorem Dj.comm {A B : Hp} (h : Dj A B) : join A B = join B A := by
  funext a
  unfold join
  cases q : A a with
  | none => cases B a <;> rfl
  | some u => rw [h a u q]
theorem Dj.emp (A : Hp) : Dj A emp := fun _ _ _ => rfl
theorem Dj.l {A B C : Hp} (h : Dj (join A B) C) : Dj A C := fun a o e => h a o (join_l e)
theorem Dj.r {A B C : Hp} (d : Dj A B) (h : Dj (join A B) C) : Dj B C := fun a o e => h a o (by rw [join_r (d.sym a o e)]; exact e)
theorem Dj.joinL {A B C : Hp} (h : Dj A C) (k : Dj B C) : Dj (join A B) C := fun a o e => by
  rcases join_some e with q | ⟨_, q⟩
  · exact h a o q
  · exact k a o q
theorem Ex.joinL {A B H : Hp} (h : Ex (join A B) H) : Ex A H := fun a o e => h a o (join_l e)
theorem Ex.joinR {A B H : Hp} (d : Dj A B) (h : Ex (join A B) H) : Ex B H := fun a o e => h a o (by rw [join_r (d.sym a o e)]; exact e)
theorem Ex.join {A B H : Hp} (h : Ex A H) (k : Ex B H) : Ex (join A B) H := fun a o e => by
  rcases join_some e with q | ⟨_, q⟩
  · exact h a o q
  · exact k a o q
theorem one_same {p : Addr} {o : HO} : one p o p = some o := upd_same
theorem one_some {p a : Addr} {o u : HO} (h : one p o a = some u) : a = p ∧ u = o := by
  unfold one upd emp at h
  by_cases e : a = p
  · rw [if_pos e] at h; exact ⟨e, (Option.some.inj h).symm⟩
  · rw [if_neg e] at h; cases h
theorem one_ne {p a : Addr} {o : HO} (h : a ≠ p) : one p o a = none := by
  unfold one; rw [upd_ne h]; rfl
theorem upd_one {p : Addr} {o u : HO} : upd (one p o) p u = one p u := upd_upd

/-! ### frozen data -/
inductive D where
  | non | bl (b : Bool) | int (i : Int) | str (x : Str) | adr (a : Addr) | ty (n : String)
  | lst (ds : List D) | tup (ds : List D) | ins (C : Addr) (fs : List (Str × D)) | scr (ds : List D) | dK (kvs : List (Key × D)) | dT (kvs : List (List Key × D))

mutual
inductive Fd (K : PySem.W.Frag) (F : Hp) : V → D → Prop
  | non : Fd K F .non .non
  | bl (b : Bool) : Fd K F (.bl b) (.bl b)
  | int (i : Int) : Fd K F (.int i) (.int i)
  | str (x : Str) : Fd K F (.str x) (.str x)
  | adr (a : Addr) : Fd K F (.ref a) (.adr a)
  | ty (n : String) : Fd K F (.ty n) (.ty n)
  | lst {a : Addr} {vs : List V} {ds : List D} : F a = some (.lst vs) → FdAll K F vs ds → Fd K F (.ref a) (.lst ds)
  | tup {a : Addr} {vs : List V} {ds : List D} : SqT K F a vs → FdAll K F vs ds → Fd K F (.ref a) (.tup ds)
  | ins {a C dx : Addr} {vs : List (Str × V)} {fs : List (Str × D)} : F a = some (.ins C dx vs) → FdFs K F vs fs → Fd K F (.ref a) (.ins C fs)
  | scr {a : Addr} {vs : List V} {ds : List D} : SqL K F a vs → FdAll K F vs ds → Fd K F (.ref a) (.scr ds)
  | dK {a : Addr} {vs : List (Key × V)} {kvs : List (Key × D)} : F a = some (.dK vs) → FdFs K F vs kvs → Fd K F (.ref a) (.dK kvs)
  | dT {a : Addr} {vs : List (List Key × V)} {kvs : List (List Key × D)} : F a = some (.dT vs) → FdFs K F vs kvs → Fd K F (.ref a) (.dT kvs)
inductive FdAll (K : PySem.W.Frag) (F : Hp) : List V → List D → Prop
  | nil : FdAll K F [] []
  | cons {v : V} {vs : List V} {d : D} {ds : List D} : Fd K F v d → FdAll K F vs ds → FdAll K F (v :: vs) (d :: ds)
inductive FdFs (K : PySem.W.Frag) (F : Hp) : {κ : Type} → List (κ × V) → List (κ × D) → Prop
  | nil {κ : Type} : FdFs K F (κ := κ) [] []
  | cons {κ : Type} {n : κ} {v : V} {vs : List (κ × V)} {d : D} {ds : List (κ × D)} : Fd K F v d → FdFs K F vs ds → FdFs K F ((n, v) :: vs) ((n, d) :: ds)
end

section
variable {K : PySem.W.Frag} {F F' : Hp}
mutual
theorem Fd.go (e : Ex F F') : ∀ {v : V} {d : D}, Fd K F v d → Fd K F' v d
  | _, _, .non => .non
  | _, _, .bl _ => .bl _
  | _, _, .int _ => .int _
  | _, _, .str _ => .str _
  | _, _, .adr _ => .adr _
  | _, _, .ty _ => .ty _
  | _, _, .lst s a => .lst (e _ _ s) (FdAll.go e a)
  | _, _, .tup s a => .tup (ex_t e s) (FdAll.go e a)
  | _, _, .ins s a => .ins (e _ _ s) (FdFs.go e a)
  | _, _, .scr s a => .scr (ex_l e s) (FdAll.go e a)
  | _, _, .dK s a => .dK (e _ _ s) (FdFs.go e a)
  | _, _, .dT s a => .dT (e _ _ s) (FdFs.go e a)
theorem FdAll.go (e : Ex F F') : ∀ {vs : List V} {ds : List D}, FdAll K F vs ds → FdAll K F' vs ds
  | _, _, .nil => .nil
  | _, _, .cons a b => .cons (Fd.go e a) (FdAll.go e b)
theorem FdFs.go (e : Ex F F') : ∀ {κ : Type} {vs : List (κ × V)} {ds : List (κ × D)}, FdFs K F vs ds → FdFs K F' vs ds
  | _, _, _, .nil => .nil
  | _, _, _, .cons a b => .cons (Fd.go e a) (FdFs.go e b)
end
theorem Fd.mono (e : Ex F F') (d : D) {v : V} (h : Fd K F v d) : Fd K F' v d := Fd.go e h
theorem FdAll.mono (e : Ex F F') (ds : List D) {vs : List V} (h : FdAll K F vs ds) : FdAll K F' vs ds := FdAll.go e h
theorem FdFs.mono {κ : Type} (e : Ex F F') (ds : List (κ × D)) {vs : List (κ × V)} (h : FdFs K F vs ds) : FdFs K F' vs ds := FdFs.go e h
theorem FdAll.length : ∀ {vs : List V} {ds : List D}, FdAll K F vs ds → vs.length = ds.length
  | _, _, .nil => rfl
  | _, _, .cons _ t => by rw [List.length_cons, List.length_cons, FdAll.length t]
theorem FdAll.get : ∀ {vs : List V} {ds : List D} {i : Nat} {d : D}, FdAll K F vs ds → ds[i]? = some d → ∃ v, vs[i]? = some v ∧ Fd K F v d
  | _, _, i, _, .nil, e => by simp at e
  | _, _, 0, _, .cons h _, e => by simp at e; subst e; exact ⟨_, rfl, h⟩
  | _, _, i + 1, _, .cons _ t, e => by
    obtain ⟨v, h1, h2⟩ := FdAll.get (i := i) t (by simpa using e)
    exact ⟨v, by simpa using h1, h2⟩
theorem FdAll.getV : ∀ {vs : List V} {ds : List D} {i : Nat} {v : V}, FdAll K F vs ds → vs[i]? = some v → ∃ d, ds[i]? = some d ∧ Fd K F v d
  | _, _, i, _, .nil, e => by simp at e
  | _, _, 0, _, .cons h _, e => by simp at e; subst e; exact ⟨_, rfl, h⟩
  | _, _, i + 1, _, .cons _ t, e => by
    obtain ⟨v, h1, h2⟩ := FdAll.getV (i := i) t (by simpa using e)
    exact ⟨v, by simpa using h1, h2⟩
theorem FdAll.app : ∀ {vs ws : List V} {ds es : List D}, FdAll K F vs ds → FdAll K F ws es → FdAll K F (vs ++ ws) (ds ++ es)
  | _, _, _, _, .nil, h => h
  | _, _, _, _, .cons h t, k => .cons h (FdAll.app t k)
theorem FdAll.take : ∀ {vs : List V} {ds : List D} (n : Nat), FdAll K F vs ds → FdAll K F (vs.take n) (ds.take n)
  | _, _, 0, _ => by simp; exact .nil
  | _, _, _ + 1, .nil => by simp; exact .nil
  | _, _, n + 1, .cons h t => .cons h (FdAll.take n t)
theorem FdAll.drop : ∀ {vs : List V} {ds : List D} (n : Nat), FdAll K F vs ds → FdAll K F (vs.drop n) (ds.drop n)
  | _, _, 0, h => h
  | _, _, _ + 1, .nil => by simp; exact .nil
  | _, _, n + 1, .cons _ t => FdAll.drop n t
theorem FdAll.set : ∀ {vs : List V} {ds : List D} (n : Nat) {v : V} {d : D}, FdAll K F vs ds → Fd K F v d → FdAll K F (vs.set n v) (ds.set n d)
  | _, _, _, _, _, .nil, _ => .nil
  | _, _, 0, _, _, .cons _ t, k => .cons k t
  | _, _, n + 1, _, _, .cons h t, k => .cons h (FdAll.set n t k)
theorem FdAll.rev : ∀ {vs : List V} {ds : List D}, FdAll K F vs ds → FdAll K F vs.reverse ds.reverse
  | _, _, .nil => .nil
  | _, _, .cons h t => by rw [List.reverse_cons, List.reverse_cons]; exact (FdAll.rev t).app (.cons h .nil)
theorem FdAll.replicate {v : V} {d : D} (h : Fd K F v d) : ∀ n, FdAll K F (List.replicate n v) (List.replicate n d)
  | 0 => .nil
  | n + 1 => .cons h (FdAll.replicate h n)
theorem FdFs.names {κ : Type} : ∀ {vs : List (κ × V)} {ds : List (κ × D)}, FdFs K F vs ds → vs.map (·.1) = ds.map (·.1)
  | _, _, .nil => rfl
  | _, _, .cons _ t => by rw [List.map_cons, List.map_cons, FdFs.names t]
theorem FdFs.length {κ : Type} {vs : List (κ × V)} {ds : List (κ × D)} (h : FdFs K F vs ds) : vs.length = ds.length := by
  have e := congrArg List.length h.names
  rw [List.length_map, List.length_map] at e
  exact e
theorem FdFs.look {f : Str} {d : D} : ∀ {vs : List (Str × V)} {ds : List (Str × D)}, FdFs K F vs ds → ds.lookup f = some d → ∃ v, vs.lookup f = some v ∧ Fd K F v d
  | _, _, .nil, e => by simp at e
  | _, _, .cons (n := n) h t, e => by
    rw [List.lookup_cons] at e ⊢
    cases q : (f == n) with
    | true => rw [q] at e; cases e; exact ⟨_, rfl, h⟩
    | false => rw [q] at e; exact FdFs.look t e
theorem FdFs.nolook {f : Str} : ∀ {vs : List (Str × V)} {ds : List (Str × D)}, FdFs K F vs ds → ds.lookup f = none → vs.lookup f = none
  | _, _, .nil, _ => rfl
  | _, _, .cons (n := n) h t, e => by
    rw [List.lookup_cons] at e ⊢
    cases q : (f == n) with
    | true => rw [q] at e; cases e
    | false => rw [q] at e; exact FdFs.nolook t e
def putD (f : Str) (d : D) : List (Str × D) → List (Str × D)
  | [] => [(f, d)]
  | (g, x) :: r => if g = f then (g, d) :: r else (g, x) :: putD f d r
theorem FdFs.put {f : Str} {v : V} {d : D} (k : Fd K F v d) : ∀ {vs : List (Str × V)} {ds : List (Str × D)}, FdFs K F vs ds → FdFs K F (putF f v vs) (putD f d ds)
  | _, _, .nil => .cons k .nil
  | _, _, .cons (n := n) h t => by
    unfold putF putD
    by_cases e : n = f
    · rw [if_pos e, if_pos e]; exact .cons k t
    · rw [if_neg e, if_neg e]; exact .cons h (FdFs.put k t)
theorem FdAll.ints : ∀ {vs : List V} {ns : List Int}, FdAll K F vs (ns.map D.int) → vs = ns.map V.int
  | _, [], h => by cases h; rfl
  | _, n :: ns, h => by cases h with | cons a b => cases a; rw [List.map_cons, FdAll.ints b]
theorem FdAll.strs : ∀ {vs : List V} {ns : List Str}, FdAll K F vs (ns.map D.str) → vs = ns.map V.str
  | _, [], h => by cases h; rfl
  | _, n :: ns, h => by cases h with | cons a b => cases a; rw [List.map_cons, FdAll.strs b]
theorem FdAll.bls : ∀ {vs : List V} {ns : List Bool}, FdAll K F vs (ns.map D.bl) → vs = ns.map V.bl
  | _, [], h => by cases h; rfl
  | _, n :: ns, h => by cases h with | cons a b => cases a; rw [List.map_cons, FdAll.bls b]
theorem FdAll.ofInts : ∀ (ns : List Int), FdAll K F (ns.map V.int) (ns.map D.int)
  | [] => .nil
  | n :: ns => .cons (.int n) (FdAll.ofInts ns)
theorem FdAll.ofStrs : ∀ (ns : List Str), FdAll K F (ns.map V.str) (ns.map D.str)
  | [] => .nil
  | n :: ns => .cons (.str n) (FdAll.ofStrs ns)
end

/-! ### owned cells -/
structure Res where
  P : Hp → Hp → Prop
  mono : ∀ {F F' M : Hp}, Ex F F' → P F M → P F' M
def Rs : List Res → Hp → Hp → Prop
  | [], _, M => M = emp
  | r :: l, F, M => ∃ A B, M = join A B ∧ Dj A B ∧ r.P F A ∧ Rs l F B
theorem Rs.mono {F F' : Hp} (e : Ex F F') : ∀ {l : List Res} {M : Hp}, Rs l F M → Rs l F' M
  | [], _, h => h
  | r :: l, _, ⟨A, B, h1, h2, h3, h4⟩ => ⟨A, B, h1, h2, r.mono e h3, Rs.mono e h4⟩
theorem Rs.split {F : Hp} : ∀ {l k : List Res} {M : Hp}, Rs (l ++ k) F M → ∃ A B, M = join A B ∧ Dj A B ∧ Rs l F A ∧ Rs k F B
  | [], _, M, h => ⟨emp, M, (emp_join M).symm, (Dj.emp M).sym, rfl, h⟩
  | r :: l, k, M, ⟨A, B, h1, h2, h3, h4⟩ => by
    obtain ⟨A', B', g1, g2, g3, g4⟩ := Rs.split h4
    subst g1
    refine ⟨join A A', B', by rw [h1, join_assoc], ?_, ⟨A, A', rfl, (Dj.l h2.sym).sym, h3, g3⟩, g4⟩
    exact Dj.joinL ((Dj.r g2 h2.sym).sym) g2
theorem Rs.app {F : Hp} : ∀ {l k : List Res} {A B : Hp}, Rs l F A → Rs k F B → Dj A B → Rs (l ++ k) F (join A B)
  | [], _, _, _, h, g, _ => by
    have e : _ = emp := h
    subst e
    rw [emp_join]; exact g
  | r :: l, k, _, B, ⟨A1, A2, h1, h2, h3, h4⟩, g, d => by
    subst h1
    rw [join_assoc]
    refine ⟨A1, join A2 B, rfl, ?_, h3, Rs.app h4 g (Dj.r h2 d)⟩
    exact (Dj.joinL h2.sym (Dj.l d).sym).sym
/-- the k-th one apart -/
theorem Rs.at {F : Hp} : ∀ {l : List Res} {k : Nat} {r : Res} {M : Hp}, l[k]? = some r → Rs l F M → ∃ A B, M = join A B ∧ Dj A B ∧ r.P F A ∧ ∀ r' A' F', Ex F F' → r'.P F' A' → Dj A' B → Rs (l.set k r') F' (join A' B)
  | [], k, r, M, e, _ => by simp at e
  | r0 :: l, 0, r, M, e, ⟨A, B, h1, h2, h3, h4⟩ => by
    simp at e; subst e
    exact ⟨A, B, h1, h2, h3, fun r' A' F' x p d => ⟨A', B, rfl, d, p, Rs.mono x h4⟩⟩
  | r0 :: l, k + 1, r, M, e, ⟨A, B, h1, h2, h3, h4⟩ => by
    obtain ⟨A2, B2, g1, g2, g3, g4⟩ := Rs.at (k := k) (r := r) (by simpa using e) h4
    subst g1
    refine ⟨A2, join A B2, ?_, ?_, g3, fun r' A' F' x p d => ?_⟩
    · rw [h1, ← join_assoc, ← join_assoc, (Dj.l h2.sym).comm]
    · exact (Dj.joinL (Dj.l h2.sym).sym g2.sym).sym
    · rw [List.set_cons_succ]
      have dA : Dj A A' := Dj.l d.sym
      have dAB : Dj A B2 := (Dj.r g2 h2.sym).sym
      have dB : Dj A' B2 := (Dj.r dAB d.sym).sym
      refine ⟨A, join A' B2, ?_, ?_, r0.mono x h3, g4 r' A' F' x p dB⟩
      · rw [← join_assoc, ← join_assoc, dA.comm]
      · exact (Dj.joinL dA.sym dAB.sym).sym

/-! ### states -/
structure Tm where
  P : Hp → Prop
  mono : ∀ {F F' : Hp}, Ex F F' → P F → P F'
def Tm.tt : Tm := ⟨fun _ => True, fun _ _ => trivial⟩
def Tm.and (K : PySem.W.Frag) (T : Tm) (v : V) (d : D) : Tm := ⟨fun F => Fd K F v d ∧ T.P F, fun e h => ⟨Fd.mono e d h.1, T.mono e h.2⟩⟩
def Tm.ands (K : PySem.W.Frag) (T : Tm) (vs : List V) (ds : List D) : Tm := ⟨fun F => FdAll K F vs ds ∧ T.P F, fun e h => ⟨FdAll.mono e ds h.1, T.mono e h.2⟩⟩
def Tm.ex (T : Tm) (F0 : Hp) : Tm := ⟨fun F => Ex F0 F ∧ T.P F, fun e h => ⟨h.1.tr e, T.mono e h.2⟩⟩
abbrev Gm := List (Option D)
def nth : Gm → Nat → Option D
  | [], _ => none
  | d :: _, 0 => d
  | _ :: r, i + 1 => nth r i
inductive Sl (K : PySem.W.Frag) (F : Hp) : Gm → St → Prop
  | nil : Sl K F [] []
  | any {o : Option V} {g : Gm} {σ : St} : Sl K F g σ → Sl K F (none :: g) (o :: σ)
  | cons {v : V} {d : D} {g : Gm} {σ : St} : Fd K F v d → Sl K F g σ → Sl K F (some d :: g) (some v :: σ)
section
variable {K : PySem.W.Frag} {F F' : Hp}
theorem Sl.mono (e : Ex F F') : ∀ {g : Gm} {σ : St}, Sl K F g σ → Sl K F' g σ
  | _, _, .nil => .nil
  | _, _, .any h => .any (Sl.mono e h)
  | _, _, .cons a h => .cons (Fd.mono e _ a) (Sl.mono e h)
theorem Sl.nth : ∀ {g : Gm} {σ : St} {i : Nat} {d : D}, Sl K F g σ → Sx.nth g i = some d → ∃ v, σ[i]? = some (some v) ∧ Fd K F v d
  | _, _, _, _, .nil, e => by cases e
  | _, _, 0, _, .any _, e => by cases e
  | _, _, i + 1, d, .any h, e => by
    obtain ⟨v, h1, h2⟩ := Sl.nth (i := i) (d := d) h e
    exact ⟨v, by simpa using h1, h2⟩
  | _, _, 0, _, .cons a _, e => by cases e; exact ⟨_, rfl, a⟩
  | _, _, i + 1, d, .cons _ h, e => by
    obtain ⟨v, h1, h2⟩ := Sl.nth (i := i) (d := d) h e
    exact ⟨v, by simpa using h1, h2⟩
theorem Sl.set : ∀ {g : Gm} {σ : St} (i : Nat) {v : V} {d : D}, Sl K F g σ → Fd K F v d → Sl K F (g.set i (some d)) (σ.set i (some v))
  | _, _, _, _, _, .nil, _ => .nil
  | _, _, 0, _, _, .any h, k => .cons k h
  | _, _, i + 1, _, _, .any h, k => .any (Sl.set i h k)
  | _, _, 0, _, _, .cons _ h, k => .cons k h
  | _, _, i + 1, _, _, .cons a h, k => .cons a (Sl.set i h k)
theorem Sl.clear : ∀ {g : Gm} {σ : St} (i : Nat) {o : Option V}, Sl K F g σ → Sl K F (g.set i none) (σ.set i o)
  | _, _, _, _, .nil => .nil
  | _, _, 0, _, .any h => .any h
  | _, _, i + 1, _, .any h => .any (Sl.clear i h)
  | _, _, 0, _, .cons _ h => .any h
  | _, _, i + 1, _, .cons a h => .cons a (Sl.clear i h)
/-- forgetting -/
inductive Wk : Gm → Gm → Prop
  | nil : Wk [] []
  | any {o : Option D} {g g' : Gm} : Wk g g' → Wk (o :: g) (none :: g')
  | keep {o : Option D} {g g' : Gm} : Wk g g' → Wk (o :: g) (o :: g')
theorem Wk.rf : ∀ {g : Gm}, Wk g g
  | [] => .nil
  | _ :: _ => .keep Wk.rf
theorem Sl.weak : ∀ {g g' : Gm} {σ : St}, Wk g g' → Sl K F g σ → Sl K F g' σ
  | _, _, _, .nil, h => h
  | _, _, _, .any w, .any h => .any (Sl.weak w h)
  | _, _, _, .any w, .cons _ h => .any (Sl.weak w h)
  | _, _, _, .keep w, .any h => .any (Sl.weak w h)
  | _, _, _, .keep w, .cons a h => .cons a (Sl.weak w h)
theorem Sl.len : ∀ {g : Gm} {σ : St}, Sl K F g σ → g.length = σ.length
  | _, _, .nil => rfl
  | _, _, .any h => by rw [List.length_cons, List.length_cons, Sl.len h]
  | _, _, .cons _ h => by rw [List.length_cons, List.length_cons, Sl.len h]
theorem Sl.nones : ∀ n, Sl K F (List.replicate n none) (List.replicate n none)
  | 0 => .nil
  | n + 1 => .any (Sl.nones n)
theorem Sl.args : ∀ {vs : List V} {ds : List D} (n : Nat), FdAll K F vs ds → Sl K F (ds.map some ++ List.replicate n none) (vs.map some ++ List.replicate n none)
  | _, _, n, .nil => Sl.nones n
  | _, _, n, .cons a h => .cons a (Sl.args n h)
end
/-- a def's entry: what was frozen, what was owned, the heap -/
structure En where
  F : Hp
  M : Hp
  H : Hp
structure At (K : PySem.W.Frag) (e : En) (g : Gm) (T : Tm) (l : List Res) (σ : St) (H F M : Hp) : Prop where
  exF : Ex F H
  exM : Ex M H
  dj : Dj F M
  eF : Ex e.F F
  nF : ∀ a o, F a = some o → e.F a = some o ∨ e.H a = none ∨ ∃ u, e.M a = some u
  nM : ∀ a o, M a = some o → e.H a = none ∨ ∃ u, e.M a = some u
  fr : ∀ a o, e.H a = some o → e.M a = none → H a = some o
  sl : Sl K F g σ
  tm : T.P F
  rs : Rs l F M
def S (K : PySem.W.Frag) (e : En) (g : Gm) (T : Tm) (l : List Res) (σ : St) (H : Hp) : Prop := ∃ F M, At K e g T l σ H F M
/-- something new is frozen -/
structure New (F H F' H' : Hp) : Prop where
  f : Ex F F'
  h : Ex H H'
  i : Ex F' H'
  n : ∀ a o, F' a = some o → F a = some o ∨ H a = none
theorem New.rf {F H : Hp} (e : Ex F H) : New F H F H := ⟨.rf, .rf, e, fun _ _ h => .inl h⟩
theorem New.tr {F H F1 H1 F2 H2 : Hp} (a : New F H F1 H1) (b : New F1 H1 F2 H2) : New F H F2 H2 :=
  ⟨a.f.tr b.f, a.h.tr b.h, b.i, fun x o h => by
    rcases b.n x o h with q | q
    · exact a.n x o q
    · exact .inr (a.h.free q)⟩
theorem New.upd {F H : Hp} {p : Addr} {o : HO} (e : Ex F H) (h : H p = none) : New F H (upd F p o) (L2.upd H p o) :=
  ⟨.new (e.free h), .new h, e.upd2, fun a u q => by
    by_cases z : a = p
    · subst z; exact .inr h
    · rw [upd_ne z] at q; exact .inl q⟩
/-- the heap grows without being frozen -/
theorem New.grow {F H H' : Hp} (e : Ex F H) (h : Ex H H') : New F H F H' := ⟨.rf, h, e.tr h, fun _ _ q => .inl q⟩
section
variable {K : PySem.W.Frag} {e : En} {g g' : Gm} {T T' : Tm} {l l' : List Res} {σ σ' : St} {H H' F F' M M' : Hp}
theorem At.new (a : At K e g T l σ H F M) (n : New F H F' H') : At K e g T l σ H' F' M :=
  ⟨n.i, a.exM.tr n.h, fun x o h => by
    rcases n.n x o h with q | q
    · exact a.dj x o q
    · exact a.exM.free q,
   a.eF.tr n.f, fun x o h => by
    rcases n.n x o h with q | q
    · exact a.nF x o q
    · by_cases z : e.M x = none
      · right; left
        cases w : e.H x with
        | none => rfl
        | some u => rw [a.fr x u w z] at q; cases q
      · right; right
        cases w : e.M x with
        | none => exact absurd w z
        | some u => exact ⟨u, rfl⟩,
   a.nM, fun x o h1 h2 => n.h x o (a.fr x o h1 h2), a.sl.mono n.f, T.mono n.f a.tm, a.rs.mono n.f⟩
theorem At.tmp (a : At K e g T l σ H F M) (h : T'.P F) : At K e g T' l σ H F M := ⟨a.exF, a.exM, a.dj, a.eF, a.nF, a.nM, a.fr, a.sl, h, a.rs⟩
theorem At.slots (a : At K e g T l σ H F M) (h : Sl K F g' σ') : At K e g' T l σ' H F M := ⟨a.exF, a.exM, a.dj, a.eF, a.nF, a.nM, a.fr, h, a.tm, a.rs⟩
theorem At.entry (ef : Ex F H) (em : Ex M H) (d : Dj F M) (s : Sl K F g σ) (t : T.P F) (r : Rs l F M) : At K ⟨F, M, H⟩ g T l σ H F M :=
  ⟨ef, em, d, .rf, fun _ _ h => .inl h, fun _ o h => .inr ⟨o, h⟩, fun _ _ h _ => h, s, t, r⟩
/-- a part of the state apart: what runs on F, A (of M = join A B) gives back the whole -/
theorem At.frame {A B : Hp} {lA lB : List Res} (a : At K e g T l σ H F (join A B)) (d : Dj A B) (rB : Rs lB F B) {g2 : Gm} {σ2 : St} {T2 : Tm} {F2 M2 : Hp} (b : At K ⟨F, A, H⟩ g2 T2 lA σ2 H' F2 M2) :
    At K e g T (lA ++ lB) σ H' F2 (join M2 B) := by
  have eB : Ex B H' := fun x o h => b.fr x o (a.exM x o (by rw [join_r (d.sym x o h)]; exact h)) (d.sym x o h)
  have dB : Dj M2 B := fun x o h => by
    cases q : B x with
    | none => rfl
    | some u =>
      rcases b.nM x o h with z | ⟨w, z⟩
      · have := a.exM x u (by rw [join_r (d.sym x u q)]; exact q)
        rw [show H x = none from z] at this; cases this
      · rw [d x w z] at q; cases q
  refine ⟨b.exF, b.exM.join eB, ?_, a.eF.tr b.eF, ?_, ?_, ?_, a.sl.mono b.eF, T.mono b.eF a.tm, Rs.app b.rs (rB.mono b.eF) dB⟩
  · intro x o h
    cases q : join M2 B x with
    | none => rfl
    | some u =>
      rcases join_some q with z | ⟨_, z⟩
      · rw [b.dj x o h] at z; cases z
      · rcases b.nF x o h with w | w | ⟨w, y⟩
        · have := a.dj x o w
          rw [join_r (d.sym x u z), z] at this; cases this
        · have := a.exM x u (by rw [join_r (d.sym x u z)]; exact z)
          rw [show H x = none from w] at this; cases this
        · rw [d x w y] at z; cases z
  · intro x o h
    rcases b.nF x o h with w | w | ⟨w, y⟩
    · exact a.nF x o w
    · cases q : e.H x with
      | none => exact .inr (.inl rfl)
      | some u =>
        cases z : e.M x with
        | some y => exact .inr (.inr ⟨y, rfl⟩)
        | none =>
          have w' : H x = none := w
          rw [a.fr x u q z] at w'; cases w'
    · rcases a.nM x w (join_l y) with q | q
      · exact .inr (.inl q)
      · exact .inr (.inr q)
  · intro x o h
    rcases join_some h with z | ⟨_, z⟩
    · rcases b.nM x o z with w | ⟨w, y⟩
      · cases q : e.H x with
        | none => exact .inl rfl
        | some u =>
          cases k : e.M x with
          | some y => exact .inr ⟨y, rfl⟩
          | none =>
            have w' : H x = none := w
            rw [a.fr x u q k] at w'; cases w'
      · exact a.nM x w (join_l y)
    · exact a.nM x o (by rw [join_r (d.sym x o z)]; exact z)
  · intro x o h1 h2
    refine b.fr x o (a.fr x o h1 h2) ?_
    show A x = none
    cases q : A x with
    | none => rfl
    | some u =>
      rcases a.nM x u (join_l q) with z | ⟨w, z⟩
      · rw [h1] at z; cases z
      · rw [h2] at z; cases z
theorem S.weak (s : S K e g T l σ H) (w : Wk g g') : S K e g' T l σ H := let ⟨F, M, a⟩ := s; ⟨F, M, a.slots (a.sl.weak w)⟩
end
end Sx
set_option Elab.async false
set_option linter.all false
set_option maxRecDepth 100000
set_option maxHeartbeats 2000000
/-! Judgements: expressions, tests, arguments, blocks over states. -/
namespace Sx
open PySem L2

/-! ### the weakest readings -/
def wpE (X : Cx) (e : Expr) : TE := fun σ H Q => ∀ pins s, Inv X pins σ H s → wpAny (model X.prog X.w) X.A (eval e X.env) (EP X pins σ Q) X.xe s
def wpT (X : Cx) (e : Expr) : TT := fun σ H Q => ∀ pins s, Inv X pins σ H s → wpAny (model X.prog X.w) X.A (isTrue e X.env (eval e X.env)) (TP X pins σ Q) X.xe s
def wpW (X : Cx) (e : Expr) : TT := fun σ H Q => ∀ whole pins s, Inv X pins σ H s → wpAny (model X.prog X.w) X.A (isTrue e X.env whole) (TP X pins σ Q) X.xe s
def wpA (X : Cx) (es : List Expr) : TA := fun σ H Q => ∀ pos pins s, Inv X pins σ H s → wpAny (model X.prog X.w) X.A (spliced (backTo pos (starEach es X.env))) (AP X pins σ Q) X.xe s
def wpS (X : Cx) (sts : List Stmt) : TS := fun D σ H => ∀ pins s, Inv X pins σ H s → wpAny (model X.prog X.w) X.A (execs sts X.env) (SP X pins D) X.xe s
section
variable {X : Cx} {σ : L2.St} {H : Hp}
theorem pe_wp {e : Expr} : PE X e (wpE X e) := ⟨fun pins s _ _ _ I h => h pins s I⟩
theorem pt_wp {e : Expr} : PT X e (wpT X e) := ⟨fun pins s _ _ _ I h => h pins s I⟩
theorem pw_wp {e : Expr} : PW X e (wpW X e) := ⟨fun whole pins s _ _ _ I h => h whole pins s I⟩
theorem pa_wp {es : List Expr} : PA X es (wpA X es) := ⟨fun pos pins s _ _ _ I h => h pos pins s I⟩
theorem pss_wp {sts : List Stmt} : PSs X sts (wpS X sts) := ⟨fun pins s _ _ _ I h => h pins s I⟩
theorem wpE_of {e : Expr} {t : TE} {Q : VK} (h : PE X e t) (q : t σ H Q) : wpE X e σ H Q := fun pins s I => h.run pins s σ H Q I q
theorem wpT_of {e : Expr} {t : TT} {Q : Bool → Hp → Prop} (h : PT X e t) (q : t σ H Q) : wpT X e σ H Q := fun pins s I => h.run pins s σ H Q I q
theorem wpW_of {e : Expr} {t : TT} {Q : Bool → Hp → Prop} (h : PW X e t) (q : t σ H Q) : wpW X e σ H Q := fun whole pins s I => h.run whole pins s σ H Q I q
theorem wpA_of {es : List Expr} {t : TA} {Q : List V → Hp → Prop} (h : PA X es t) (q : t σ H Q) : wpA X es σ H Q := fun pos pins s I => h.run pos pins s σ H Q I q
theorem wpS_of {sts : List Stmt} {t : TS} {D : Ends} (h : PSs X sts t) (q : t D σ H) : wpS X sts D σ H := fun pins s I => h.run pins s σ H D I q
end

/-! ### judgements -/
/-- e evaluates to the datum d, changing nothing that is owned -/
def Px (X : Cx) (e : Expr) (g : Gm) (l : List Res) (d : D) : Prop := ∀ en T σ H (Q : VK), S X.K en g T l σ H → (∀ v H', S X.K en g (T.and X.K v d) l σ H' → Q v H') → wpE X e σ H Q
/-- e evaluates to one of the data that Psi tells, with what is owned then -/
def Ev (X : Cx) (e : Expr) (g : Gm) (l : List Res) (Psi : D → List Res → Prop) : Prop := ∀ en T σ H (Q : VK), S X.K en g T l σ H → (∀ v d l' H', Psi d l' → S X.K en g (T.and X.K v d) l' σ H' → Q v H') → wpE X e σ H Q
def Pa (X : Cx) (es : List Expr) (g : Gm) (l : List Res) (ds : List D) : Prop := ∀ en T σ H (Q : List V → Hp → Prop), S X.K en g T l σ H → (∀ vs H', S X.K en g (T.ands X.K vs ds) l σ H' → Q vs H') → wpA X es σ H Q
def Ts (X : Cx) (e : Expr) (g : Gm) (l : List Res) (b : Bool) : Prop := ∀ en T σ H (Q : Bool → Hp → Prop), S X.K en g T l σ H → (∀ H', S X.K en g T l σ H' → Q b H') → wpT X e σ H Q
def Tw (X : Cx) (e : Expr) (g : Gm) (l : List Res) (b : Bool) : Prop := ∀ en T σ H (Q : Bool → Hp → Prop), S X.K en g T l σ H → (∀ H', S X.K en g T l σ H' → Q b H') → wpW X e σ H Q
/-- operations on values -/
def Op1 (K : PySem.W.Frag) (l : List Res) (r : V → Hp → VK → Prop) (a d : D) : Prop := ∀ F M H v (Q : VK), Ex F H → Ex M H → Dj F M → Rs l F M → Fd K F v a → (∀ v F' H', New F H F' H' → Fd K F' v d → Q v H') → r v H Q
def Op2 (K : PySem.W.Frag) (l : List Res) (r : R2) (a b d : D) : Prop := ∀ F M H v u (Q : VK), Ex F H → Ex M H → Dj F M → Rs l F M → Fd K F v a → Fd K F u b → (∀ v F' H', New F H F' H' → Fd K F' v d → Q v H') → r v u H Q
def OpN (K : PySem.W.Frag) (l : List Res) (r : List V → Hp → VK → Prop) (as : List D) (d : D) : Prop := ∀ F M H vs (Q : VK), Ex F H → Ex M H → Dj F M → Rs l F M → FdAll K F vs as → (∀ v F' H', New F H F' H' → Fd K F' v d → Q v H') → r vs H Q
def OpM (K : PySem.W.Frag) (l : List Res) (r : V → List V → Hp → VK → Prop) (a : D) (as : List D) (d : D) : Prop := ∀ F M H v vs (Q : VK), Ex F H → Ex M H → Dj F M → Rs l F M → Fd K F v a → FdAll K F vs as → (∀ v F' H', New F H F' H' → Fd K F' v d → Q v H') → r v vs H Q

/-- what is wanted behind a block -/
structure Po where
  nx : Gm → List Res → Prop
  rt : D → List Res → Prop
  bk : Gm → List Res → Prop := fun _ _ => False
  ct : Gm → List Res → Prop := fun _ _ => False
  ex : Value → Option Addr → Gm → List Res → Prop := fun _ _ _ _ => False
structure Mt (K : PySem.W.Frag) (W : L2.WX) (en : En) (T : Tm) (Φ : Po) (D : Ends) : Prop where
  nx : ∀ g l σ H, Φ.nx g l → S K en g T l σ H → D.nx σ H
  rt : ∀ d l v H, Φ.rt d l → S K en [] (T.and K v d) l [] H → D.rt v H
  bk : ∀ g l σ H, Φ.bk g l → S K en g T l σ H → D.bk σ H
  ct : ∀ g l σ H, Φ.ct g l → S K en g T l σ H → D.ct σ H
  ex : ∀ cls d g l σ H, Φ.ex cls d g l → S K en g T l σ H → W cls d σ H
def Blk (X : Cx) (W : WX) (sts : List Stmt) (g : Gm) (l : List Res) (Φ : Po) : Prop := ∀ en T σ H D, S X.K en g T l σ H → Mt X.K W en T Φ D → wpS X sts D σ H

section
variable {X : Cx} {W : WX} {g g' : Gm} {l l' : List Res} {Φ : Po} {e e2 a b c o : Expr} {es : List Expr} {d d1 d2 d3 : D} {pos p : Pos}

theorem Tm.and_of {K : PySem.W.Frag} {T : Tm} {v : V} {d : D} {F : Hp} (h : (T.and K v d).P F) : Fd K F v d ∧ T.P F := h
theorem S.drop {K : PySem.W.Frag} {en : En} {T : Tm} {σ : L2.St} {H : Hp} {v : V} {d : D} (s : S K en g (T.and K v d) l σ H) : S K en g T l σ H := let ⟨F, M, a⟩ := s; ⟨F, M, a.tmp a.tm.2⟩
theorem S.slotless {K : PySem.W.Frag} {en : En} {T : Tm} {σ : L2.St} {H : Hp} (s : S K en g T l σ H) : S K en [] T l [] H := let ⟨F, M, a⟩ := s; ⟨F, M, a.slots .nil⟩

/-! ### expressions -/
theorem px_var {i : Nat} (h : PE X e (tVar i)) (hd : nth g i = some d) : Px X e g l d := fun en T σ H Q s k => wpE_of h (by
  obtain ⟨F, M, a⟩ := s
  obtain ⟨v, h1, h2⟩ := a.sl.nth hd
  exact ⟨v, h1, k v H ⟨F, M, a.tmp ⟨h2, a.tm⟩⟩⟩)
theorem px_c {v : V} (h : PE X e (tC v)) (hd : ∀ F, Fd X.K F v d) : Px X e g l d := fun en T σ H Q s k => wpE_of h (by
  obtain ⟨F, M, a⟩ := s
  exact k v H ⟨F, M, a.tmp ⟨hd F, a.tm⟩⟩)
theorem px_int {i : Int} {j} : Px X (.Constant (.int i) j pos) g l (.int i) := px_c pe_int fun _ => .int _
theorem px_bl {b : Bool} {j} : Px X (.Constant (.bool b) j pos) g l (.bl b) := px_c pe_bl fun _ => .bl _
theorem px_non {j} : Px X (.Constant .none j pos) g l .non := px_c pe_non fun _ => .non
theorem px_str {x : Str} {j} : Px X (.Constant (.str x) j pos) g l (.str x) := px_c pe_str fun _ => .str _
theorem Px.to (h : Px X e g l d) (q : d = d1) : Px X e g l d1 := q ▸ h
theorem Px.ev (h : Px X e g l d) : Ev X e g l (fun d' l' => d' = d ∧ l' = l) := fun en T σ H Q s k => h en T σ H Q s fun v H' s' => k v d l H' ⟨rfl, rfl⟩ s'
theorem Ev.imp {Psi Chi : D → List Res → Prop} (h : Ev X e g l Psi) (i : ∀ d l', Psi d l' → Chi d l') : Ev X e g l Chi := fun en T σ H Q s k => h en T σ H Q s fun v d l' H' p s' => k v d l' H' (i _ _ p) s'
theorem Ev.px (h : Ev X e g l (fun d' l' => d' = d ∧ l' = l)) : Px X e g l d := fun en T σ H Q s k => h en T σ H Q s fun v d' l' H' p s' => k v H' (by obtain ⟨rfl, rfl⟩ := p; exact s')
theorem px_1 {r : V → Hp → VK → Prop} (he : PE X e2 (tUn r (wpE X a))) (hr : Op1 X.K l r d1 d) (ha : Px X a g l d1) : Px X e2 g l d := fun en T σ H Q s k => wpE_of he (by
  refine ha en T σ H _ s fun v H1 s1 => ?_
  obtain ⟨F, M, q⟩ := s1
  exact hr F M H1 v Q q.exF q.exM q.dj q.rs q.tm.1 fun u F' H' n f => k u H' ⟨F', M, (q.new n).tmp ⟨f, T.mono n.f q.tm.2⟩⟩)
theorem px_2 {r : R2} (he : PE X e2 (tOp r (wpE X a) (wpE X b))) (hr : Op2 X.K l r d1 d2 d) (ha : Px X a g l d1) (hb : Px X b g l d2) : Px X e2 g l d := fun en T σ H Q s k => wpE_of he (by
  refine ha en T σ H _ s fun v H1 s1 => ?_
  refine hb en _ σ H1 _ s1 fun u H2 s2 => ?_
  obtain ⟨F, M, q⟩ := s2
  exact hr F M H2 v u Q q.exF q.exM q.dj q.rs q.tm.2.1 q.tm.1 fun w F' H' n f => k w H' ⟨F', M, (q.new n).tmp ⟨f, T.mono n.f q.tm.2.2⟩⟩)
theorem px_op {op : Operator} {r : R2} (ho : OpR X (binaryOp op) r) (ha : Px X a g l d1) (hb : Px X b g l d2) (hr : Op2 X.K l r d1 d2 d) : Px X (.BinOp a op b pos) g l d := px_2 (pe_op ho pe_wp pe_wp) hr ha hb
theorem px_un {op : UnaryOp} {r : V → Hp → VK → Prop} (ho : UnR X (unaryOp op) r) (ha : Px X a g l d1) (hr : Op1 X.K l r d1 d) : Px X (.UnaryOp op a pos) g l d := px_1 (pe_un ho pe_wp) hr ha
theorem px_cmp {op : CmpOp} {r : R2} (ho : OpR X (compareOp op) r) (ha : Px X a g l d1) (hb : Px X b g l d2) (hr : Op2 X.K l r d1 d2 d) (hm : behindInMarks op b = false := by first | exact nomark _ | rfl) : Px X (.Compare a [op] [b] pos) g l d := px_2 (pe_cmpR ho pe_wp pe_wp hm) hr ha hb
theorem px_ix {r : R2} (hi : IxR X r) (ha : Px X a g l d1) (hb : Px X b g l d2) (hr : Op2 X.K l r d1 d2 d) (hs : PlainIx b := by intro _ _; rfl) : Px X (.Subscript a b pos) g l d := px_2 (pe_ix hi pe_wp pe_wp hs) hr ha hb
theorem px_chain {op op' : CmpOp} {r r' : R2} {k k' : Bool} (ho : OpR X (compareOp op) r) (ho' : OpR X (compareOp op') r') (ha : Px X a g l d1) (hb : Px X b g l d2) (hr : Op2 X.K l r d1 d2 (.bl k)) (hc : Px X c g l d3) (hr' : k = true → Op2 X.K l r' d2 d3 (.bl k'))
    (hm : lastMarks [op, op'] [b, c] = false := by with_unfolding_all rfl) : Px X (.Compare a [op, op'] [b, c] pos) g l (.bl (k && k')) := fun en T σ H Q s kk => wpE_of (pe_chain ho ho' pe_wp pe_wp pe_wp hm) (by
  refine ha en T σ H _ s fun v H1 s1 => ?_
  refine hb en _ σ H1 _ s1 fun u H2 s2 => ?_
  obtain ⟨F, M, q⟩ := s2
  refine hr F M H2 v u _ q.exF q.exM q.dj q.rs q.tm.2.1 q.tm.1 fun w F' H' n f => ?_
  cases f
  refine ⟨k, rfl, ?_⟩
  have q' := q.new n
  cases k with
  | false => exact kk _ H' ⟨F', M, q'.tmp ⟨.bl _, T.mono n.f q.tm.2.2⟩⟩
  | true =>
    show wpE X c σ H' _
    refine hc en _ σ H' _ ⟨F', M, q'⟩ fun w H3 s3 => ?_
    obtain ⟨F3, M3, q3⟩ := s3
    exact hr' rfl F3 M3 H3 u w Q q3.exF q3.exM q3.dj q3.rs q3.tm.2.1 q3.tm.1 fun w F' H' n f => kk w H' ⟨F', M3, (q3.new n).tmp ⟨f, T.mono n.f q3.tm.2.2.2⟩⟩)
/-- a new list, frozen; a new tuple -/
theorem px_lst {ds : List D} (h : Pa X es g l ds) (hz : ds.length ≤ sizeLine := by first | decide | exact Nat.le_of_ble_eq_true rfl) : Px X (.List es pos) g l (.lst ds) := fun en T σ H Q s k => wpE_of (pe_lst pa_wp) (by
  refine h en T σ H _ s fun vs H1 s1 => ?_
  obtain ⟨F, M, q⟩ := s1
  refine ⟨by rw [q.tm.1.length]; exact hz, fun p hp => ?_⟩
  have n := New.upd (o := .lst vs) q.exF hp
  exact k _ _ ⟨_, M, (q.new n).tmp ⟨.lst upd_same (FdAll.mono n.f _ q.tm.1), T.mono n.f q.tm.2⟩⟩)
theorem px_tup {ds : List D} {x1} (h : Pa X es g l ds) (hz : ds.length ≤ sizeLine := by first | decide | exact Nat.le_of_ble_eq_true rfl) : Px X (.Tuple es x1 pos) g l (.tup ds) := fun en T σ H Q s k => wpE_of (pe_tup pa_wp) (by
  refine h en T σ H _ s fun vs H1 s1 => ?_
  obtain ⟨F, M, q⟩ := s1
  refine ⟨by rw [q.tm.1.length]; exact hz, fun p hp => ?_⟩
  have n := New.upd (o := .tup vs) q.exF hp
  exact k _ _ ⟨_, M, (q.new n).tmp ⟨.tup (SqT.of upd_same) (FdAll.mono n.f _ q.tm.1), T.mono n.f q.tm.2⟩⟩)
theorem pa_n : Pa X [] g l [] := fun en T σ H Q s k => wpA_of pa_nil (by
  obtain ⟨F, M, a⟩ := s
  exact k [] H ⟨F, M, a.tmp ⟨.nil, a.tm⟩⟩)
theorem pa_c {ds : List D} (he : Px X e g l d) (h : Pa X es g l ds) (hs : starEach (e :: es) X.env = (false, eval e X.env) :: starEach es X.env := by rfl) : Pa X (e :: es) g l (d :: ds) := fun en T σ H Q s k => wpA_of (pa_cons pe_wp pa_wp hs) (by
  refine he en T σ H _ s fun v H1 s1 => ?_
  refine h en _ σ H1 _ s1 fun vs H2 s2 => ?_
  obtain ⟨F, M, a⟩ := s2
  exact k _ H2 ⟨F, M, a.tmp ⟨.cons a.tm.2.1 a.tm.1, a.tm.2.2⟩⟩)
/-- e if c else e' -/
theorem px_if {k : Bool} (hc : Ts X c g l k) (ha : k = true → Px X a g l d1) (hb : k = false → Px X b g l d2) : Px X (.IfExp c a b pos) g l (if k = true then d1 else d2) := fun en T σ H Q s kk => wpE_of (pe_ifExp pt_wp pe_wp pe_wp) (by
  refine hc en T σ H _ s fun H1 s1 => ?_
  cases k with
  | true => exact ha rfl en T σ H1 Q s1 kk
  | false => exact hb rfl en T σ H1 Q s1 kk)
theorem px_and {rest : List Expr} {k k' : Bool} (ha : Px X a g l (.bl k)) (hb : k = true → Px X (.BoolOp .And (b :: rest) pos) g l (.bl k')) : Px X (.BoolOp .And (a :: b :: rest) pos) g l (.bl (k && k')) := fun en T σ H Q s kk => wpE_of (pe_and pe_wp pe_wp) (by
  refine ha en T σ H _ s fun v H1 s1 => ?_
  obtain ⟨F, M, q⟩ := s1
  have f := q.tm.1
  cases f
  refine ⟨k, rfl, ?_⟩
  cases k with
  | true => exact hb rfl en T σ H1 Q ⟨F, M, q.tmp q.tm.2⟩ kk
  | false => exact kk _ H1 ⟨F, M, q⟩)
theorem px_or {rest : List Expr} {k k' : Bool} (ha : Px X a g l (.bl k)) (hb : k = false → Px X (.BoolOp .Or (b :: rest) pos) g l (.bl k')) : Px X (.BoolOp .Or (a :: b :: rest) pos) g l (.bl (k || k')) := fun en T σ H Q s kk => wpE_of (pe_or pe_wp pe_wp) (by
  refine ha en T σ H _ s fun v H1 s1 => ?_
  obtain ⟨F, M, q⟩ := s1
  have f := q.tm.1
  cases f
  refine ⟨k, rfl, ?_⟩
  cases k with
  | false => exact hb rfl en T σ H1 Q ⟨F, M, q.tmp q.tm.2⟩ kk
  | true => exact kk _ H1 ⟨F, M, q⟩)
theorem px_one {op} (h : Px X a g l d) : Px X (.BoolOp op [a] pos) g l d := fun en T σ H Q s k => wpE_of (pe_one pe_wp) (h en T σ H Q s k)
theorem px_not {k : Bool} (h : Px X a g l (.bl k)) : Px X (.UnaryOp .Not a pos) g l (.bl (!k)) := fun en T σ H Q s kk => wpE_of (pe_not pe_wp) (by
  refine h en T σ H _ s fun v H1 s1 => ?_
  obtain ⟨F, M, q⟩ := s1
  have f := q.tm.1
  cases f
  exact ⟨k, rfl, kk _ H1 ⟨F, M, q.tmp ⟨.bl _, q.tm.2⟩⟩⟩)
/-- an attribute of a frozen instance -/
theorem px_fld {C : Addr} {fs : List (Str × D)} {f : Str} (ho : Px X o g l (.ins C fs)) (hc : Cls X.K C) (hn : NoAttr X.K C f) (hl : fs.lookup f = some d) (hb : attributeBase o f X.env (eval o X.env) = eval o X.env := by rfl) : Px X (.Attribute o f pos) g l d := fun en T σ H Q s k => wpE_of (pe_fld pe_wp hb) (by
  refine ho en T σ H _ s fun v H1 s1 => ?_
  obtain ⟨F, M, q⟩ := s1
  obtain ⟨hf, ht⟩ := q.tm
  cases hf with
  | ins h1 h2 =>
    obtain ⟨v, e1, e2⟩ := h2.look hl
    exact ⟨_, C, _, _, v, rfl, q.exF _ _ h1, hc, hn, e1, k v H1 ⟨F, M, q.tmp ⟨e2, ht⟩⟩⟩)
/-! ### calls of what is built in -/
theorem px_b {r : List V → Hp → VK → Prop} {ds : List D} (he : PE X e2 (tCB r (wpA X es))) (hr : OpN X.K l r ds d) (ha : Pa X es g l ds) : Px X e2 g l d := fun en T σ H Q s k => wpE_of he (by
  refine ha en T σ H _ s fun vs H1 s1 => ?_
  obtain ⟨F, M, q⟩ := s1
  exact hr F M H1 vs Q q.exF q.exM q.dj q.rs q.tm.1 fun u F' H' n f => k u H' ⟨F', M, (q.new n).tmp ⟨f, T.mono n.f q.tm.2⟩⟩)
theorem px_m {r : V → List V → Hp → VK → Prop} {Tn : String} {ds : List D} (he : PE X e2 (tBM X.K Tn r (wpE X o) (wpA X es))) (ho : Px X o g l d1) (ha : Pa X es g l ds) (hr : OpM X.K l r d1 ds d)
    (ht : ∀ F M H v, Ex F H → Ex M H → Dj F M → Rs l F M → Fd X.K F v d1 → tyV X.K Tn v H) : Px X e2 g l d := fun en T σ H Q s k => wpE_of he (by
  refine ho en T σ H _ s fun v H1 s1 => ?_
  have s1' := s1
  obtain ⟨F, M, q⟩ := s1
  refine ⟨ht F M H1 v q.exF q.exM q.dj q.rs q.tm.1, ?_⟩
  refine ha en _ σ H1 _ s1' fun vs H2 s2 => ?_
  obtain ⟨F, M, q⟩ := s2
  exact hr F M H2 v vs Q q.exF q.exM q.dj q.rs q.tm.2.1 q.tm.1 fun u F' H' n f => k u H' ⟨F', M, (q.new n).tmp ⟨f, T.mono n.f q.tm.2.2⟩⟩)
/-! ### tests -/
theorem ts_val {k : Bool} (h : Px X e g l (.bl k)) (he : ∀ whole, isTrue e X.env whole = (do let v ← whole; standAt e.pos; holding [v] (truthy v)) := by intro _; rfl) : Ts X e g l k := fun en T σ H Q s kk => wpT_of (pt_val pe_wp he) (by
  refine h en T σ H _ s fun v H1 s1 => ?_
  obtain ⟨F, M, q⟩ := s1
  have f := q.tm.1
  cases f
  exact ⟨k, rfl, kk H1 ⟨F, M, q.tmp q.tm.2⟩⟩)
theorem ts_cmp {op : CmpOp} {r : R2} {k : Bool} (ho : OpR X (compareOp op) r) (ha : Px X a g l d1) (hb : Px X b g l d2) (hr : Op2 X.K l r d1 d2 (.bl k)) (hm : behindInMarks op b = false := by first | exact nomark _ | rfl) : Ts X (.Compare a [op] [b] pos) g l k := fun en T σ H Q s kk => wpT_of (pt_cmpR ho pe_wp pe_wp hm) (by
  refine ha en T σ H _ s fun v H1 s1 => ?_
  refine hb en _ σ H1 _ s1 fun u H2 s2 => ?_
  obtain ⟨F, M, q⟩ := s2
  refine hr F M H2 v u _ q.exF q.exM q.dj q.rs q.tm.2.1 q.tm.1 fun w F' H' n f => ?_
  cases f
  exact ⟨k, rfl, kk H' ⟨F', M, (q.new n).tmp (T.mono n.f q.tm.2.2)⟩⟩)
theorem ts_chain {op op' : CmpOp} {r r' : R2} {k k' : Bool} (ho : OpR X (compareOp op) r) (ho' : OpR X (compareOp op') r') (ha : Px X a g l d1) (hb : Px X b g l d2) (hr : Op2 X.K l r d1 d2 (.bl k)) (hc : Px X c g l d3) (hr' : k = true → Op2 X.K l r' d2 d3 (.bl k'))
    (hm : lastMarks [op, op'] [b, c] = false := by with_unfolding_all rfl) : Ts X (.Compare a [op, op'] [b, c] pos) g l (k && k') := fun en T σ H Q s kk => wpT_of (pt_chain ho ho' pe_wp pe_wp pe_wp hm) (by
  refine ha en T σ H _ s fun v H1 s1 => ?_
  refine hb en _ σ H1 _ s1 fun u H2 s2 => ?_
  obtain ⟨F, M, q⟩ := s2
  refine hr F M H2 v u _ q.exF q.exM q.dj q.rs q.tm.2.1 q.tm.1 fun w F' H' n f => ?_
  cases f
  refine ⟨k, rfl, ?_⟩
  have q' := q.new n
  cases k with
  | false => exact ⟨false, rfl, kk H' ⟨F', M, q'.tmp (T.mono n.f q.tm.2.2)⟩⟩
  | true =>
    show wpE X c σ H' _
    refine hc en _ σ H' _ ⟨F', M, q'⟩ fun w H3 s3 => ?_
    obtain ⟨F3, M3, q3⟩ := s3
    refine hr' rfl F3 M3 H3 u w _ q3.exF q3.exM q3.dj q3.rs q3.tm.2.1 q3.tm.1 fun w F' H' n f => ?_
    cases f
    exact ⟨k', rfl, kk H' ⟨F', M3, (q3.new n).tmp (T.mono n.f q3.tm.2.2.2)⟩⟩)
theorem ts_not {k : Bool} (h : Ts X a g l k) : Ts X (.UnaryOp .Not a pos) g l (!k) := fun en T σ H Q s kk => wpT_of (pt_not pt_wp) (h en T σ H _ s kk)
theorem tw_and1 {k : Bool} (h : Ts X a g l k) : Tw X (.BoolOp .And [a] pos) g l k := fun en T σ H Q s kk => wpW_of (pw_and1 pt_wp) (h en T σ H _ s kk)
theorem tw_or1 {k : Bool} (h : Ts X a g l k) : Tw X (.BoolOp .Or [a] pos) g l k := fun en T σ H Q s kk => wpW_of (pw_or1 pt_wp) (h en T σ H _ s kk)
theorem tw_and {rest : List Expr} {k k' : Bool} (ha : Ts X a g l k) (hb : k = true → Tw X (.BoolOp .And (b :: rest) pos) g l k') : Tw X (.BoolOp .And (a :: b :: rest) pos) g l (k && k') := fun en T σ H Q s kk => wpW_of (pw_and pt_wp pw_wp) (by
  refine ha en T σ H _ s fun H1 s1 => ?_
  cases k with
  | true => exact hb rfl en T σ H1 _ s1 kk
  | false => exact kk H1 s1)
theorem tw_or {rest : List Expr} {k k' : Bool} (ha : Ts X a g l k) (hb : k = false → Tw X (.BoolOp .Or (b :: rest) pos) g l k') : Tw X (.BoolOp .Or (a :: b :: rest) pos) g l (k || k') := fun en T σ H Q s kk => wpW_of (pw_or pt_wp pw_wp) (by
  refine ha en T σ H _ s fun H1 s1 => ?_
  cases k with
  | false => exact hb rfl en T σ H1 _ s1 kk
  | true => exact kk H1 s1)
theorem ts_w {k : Bool} (h : Tw X e g l k) : Ts X e g l k := fun en T σ H Q s kk => wpT_of (pw_wp).pt (h en T σ H _ s kk)
theorem Ts.to {k k' : Bool} (h : Ts X e g l k) (q : k = k') : Ts X e g l k' := q ▸ h

/-! ### blocks -/
theorem Blk.imp {Ψ : Po} {sts : List Stmt} (h : Blk X W sts g l Φ) (n : ∀ g l, Φ.nx g l → Ψ.nx g l) (r : ∀ d l, Φ.rt d l → Ψ.rt d l) (b : ∀ g l, Φ.bk g l → Ψ.bk g l) (c : ∀ g l, Φ.ct g l → Ψ.ct g l) (x : ∀ c d g l, Φ.ex c d g l → Ψ.ex c d g l) : Blk X W sts g l Ψ := fun en T σ H D s m =>
  h en T σ H D s ⟨fun g l σ H p => m.nx g l σ H (n _ _ p), fun d l v H p => m.rt d l v H (r _ _ p), fun g l σ H p => m.bk g l σ H (b _ _ p), fun g l σ H p => m.ct g l σ H (c _ _ p), fun c d g l σ H p => m.ex c d g l σ H (x _ _ _ _ p)⟩
theorem Blk.weak {sts : List Stmt} (w : Wk g g') (h : Blk X W sts g' l Φ) : Blk X W sts g l Φ := fun en T σ H D s m => h en T σ H D (s.weak w) m
theorem blk_nil (h : Φ.nx g l) : Blk X W [] g l Φ := fun en T σ H D s m => wpS_of pss_nil (m.nx g l σ H h s)
variable {rest : List Stmt}
theorem blk_ret (he : Px X e g l d) (h : Φ.rt d l) : Blk X W (.Return (some e) pos :: rest) g l Φ := fun en T σ H D s m => wpS_of (pss_cons (ps_ret pe_wp) pss_wp) (he en T σ H _ s fun v H' s' => m.rt d l v H' h s'.slotless)
theorem blk_retX {Psi : D → List Res → Prop} (he : Ev X e g l Psi) (h : ∀ d l', Psi d l' → Φ.rt d l') : Blk X W (.Return (some e) pos :: rest) g l Φ := fun en T σ H D s m => wpS_of (pss_cons (ps_ret pe_wp) pss_wp) (he en T σ H _ s fun v d l' H' p s' => m.rt d l' v H' (h d l' p) s'.slotless)
theorem blk_retN (h : Φ.rt .non l) : Blk X W (.Return none pos :: rest) g l Φ := fun en T σ H D s m => wpS_of (pss_cons ps_retN pss_wp) (by
  obtain ⟨F, M, a⟩ := s
  exact m.rt .non l _ H h ⟨F, M, (a.tmp (T' := T.and X.K .non .non) ⟨.non, a.tm⟩).slots .nil⟩)
theorem blk_brk (h : Φ.bk g l) : Blk X W (.Break pos :: rest) g l Φ := fun en T σ H D s m => wpS_of (pss_cons ps_break pss_wp) (m.bk g l σ H h s)
theorem blk_cont (h : Φ.ct g l) : Blk X W (.Continue pos :: rest) g l Φ := fun en T σ H D s m => wpS_of (pss_cons ps_continue pss_wp) (m.ct g l σ H h s)
theorem blk_pass (h : Blk X W rest g l Φ) : Blk X W (.Pass pos :: rest) g l Φ := fun en T σ H D s m => wpS_of (pss_cons ps_pass pss_wp) (h en T σ H D s m)
theorem Mt.seq {K : PySem.W.Frag} {en : En} {T : Tm} {D : Ends} (m : Mt K W en T Φ D) {nx : Gm → List Res → Prop} {n : St → Hp → Prop} (h : ∀ g l σ H, nx g l → S K en g T l σ H → n σ H) : Mt K W en T { Φ with nx := nx } { D with nx := n } := ⟨h, m.rt, m.bk, m.ct, m.ex⟩
theorem blk_if {k : Bool} {A B : List Stmt} (hc : Ts X c g l k) (h1 : k = true → Blk X W A g l { Φ with nx := fun g' l' => Blk X W rest g' l' Φ }) (h2 : k = false → Blk X W B g l { Φ with nx := fun g' l' => Blk X W rest g' l' Φ }) : Blk X W (.If c A B pos :: rest) g l Φ := fun en T σ H D s m =>
  wpS_of (pss_cons (ps_if pt_wp pss_wp pss_wp) pss_wp) (by
    refine hc en T σ H _ s fun H1 s1 => ?_
    have mm : Mt X.K W en T { Φ with nx := fun g' l' => Blk X W rest g' l' Φ } { D with nx := wpS X rest D } := m.seq fun g' l' σ' H' p s' => p en T σ' H' D s' m
    cases k with
    | true => exact h1 rfl en T σ H1 _ s1 mm
    | false => exact h2 rfl en T σ H1 _ s1 mm)
/-- .. the ways meet at Mid -/
theorem blk_ifJ {k : Bool} {A B : List Stmt} (Mid : Gm → List Res → Prop) (hc : Ts X c g l k) (h1 : k = true → Blk X W A g l { Φ with nx := Mid }) (h2 : k = false → Blk X W B g l { Φ with nx := Mid }) (hm : ∀ g' l', Mid g' l' → Blk X W rest g' l' Φ) : Blk X W (.If c A B pos :: rest) g l Φ :=
  blk_if hc (fun e => (h1 e).imp (fun g' l' p => hm g' l' p) (fun _ _ p => p) (fun _ _ p => p) (fun _ _ p => p) (fun _ _ _ _ p => p)) (fun e => (h2 e).imp (fun g' l' p => hm g' l' p) (fun _ _ p => p) (fun _ _ p => p) (fun _ _ p => p) (fun _ _ _ _ p => p))
theorem blk_expr {Psi : D → List Res → Prop} (he : Ev X e g l Psi) (h : ∀ d l', Psi d l' → Blk X W rest g l' Φ) (hs : swapsWith e none pos.line X.env = pure false := by rfl) : Blk X W (.Expr e pos :: rest) g l Φ := fun en T σ H D s m => wpS_of (pss_cons (ps_expr pe_wp hs) pss_wp) (he en T σ H _ s fun v d l' H' p s' => h d l' p en T σ H' D s'.drop m)
theorem blk_set {i : Nat} {x : Str} {pos' : Pos} (hN : X.N.Nodup) (hi : X.N[i]? = some x) (hx : Loc X.env.scope x) (he : Px X e g l d) (h : Blk X W rest (g.set i (some d)) l Φ) (hs : swapsWith e (some (.Name x pos')) pos.line X.env = pure false := by rfl) (hf : X.fn x = true ∨ X.env.scope.names.lookup x = some .local := by first | exact .inl rfl | exact .inr rfl | assumption) :
    Blk X W (.Assign [.Name x pos'] e pos :: rest) g l Φ := fun en T σ H D s m => wpS_of (pss_cons (ps_set hN hi hx pe_wp hs hf) pss_wp) (he en T σ H _ s fun v H' s' => by
      obtain ⟨F, M, a⟩ := s'
      exact h en T (σ.set i (some v)) H' D ⟨F, M, (a.tmp a.tm.2).slots (a.sl.set i a.tm.1)⟩ m)
theorem blk_setX {Psi : D → List Res → Prop} {i : Nat} {x : Str} {pos' : Pos} (hN : X.N.Nodup) (hi : X.N[i]? = some x) (hx : Loc X.env.scope x) (he : Ev X e g l Psi) (h : ∀ d l', Psi d l' → Blk X W rest (g.set i (some d)) l' Φ) (hs : swapsWith e (some (.Name x pos')) pos.line X.env = pure false := by rfl) (hf : X.fn x = true ∨ X.env.scope.names.lookup x = some .local := by first | exact .inl rfl | exact .inr rfl | assumption) :
    Blk X W (.Assign [.Name x pos'] e pos :: rest) g l Φ := fun en T σ H D s m => wpS_of (pss_cons (ps_set hN hi hx pe_wp hs hf) pss_wp) (he en T σ H _ s fun v d l' H' p s' => by
      obtain ⟨F, M, a⟩ := s'
      exact h d l' p en T (σ.set i (some v)) H' D ⟨F, M, (a.tmp a.tm.2).slots (a.sl.set i a.tm.1)⟩ m)
/-- what the proof never comes to -/
theorem blk_absurd {sts : List Stmt} (h : False) : Blk X W sts g l Φ := h.elim
end

/-! ### owned lists, instances -/
def ownL (K : PySem.W.Frag) (p : Addr) (ds : List D) : Res := ⟨fun F M => ∃ vs, FdAll K F vs ds ∧ M = one p (.lst vs), fun e ⟨vs, h, m⟩ => ⟨vs, FdAll.mono e _ h, m⟩⟩
def ownI (K : PySem.W.Frag) (p C : Addr) (fs : List (Str × D)) : Res := ⟨fun F M => ∃ vs dx, dx ≠ p ∧ FdFs K F vs fs ∧ M = join (one p (.ins C dx vs)) (one dx (.own p)), fun e ⟨vs, dx, n, h, m⟩ => ⟨vs, dx, n, FdFs.mono e _ h, m⟩⟩
section
variable {K : PySem.W.Frag} {F H M : Hp} {l : List Res}
theorem Rs.own {k : Nat} {p : Addr} {ds : List D} (h : Rs l F M) (e : l[k]? = some (ownL K p ds)) (m : Ex M H) : ∃ vs, FdAll K F vs ds ∧ H p = some (.lst vs) := by
  obtain ⟨A, B, rfl, dj, ⟨vs, f, rfl⟩, _⟩ := Rs.at e h
  exact ⟨vs, f, m p _ (join_l one_same)⟩
theorem Rs.ins {k : Nat} {p C : Addr} {fs : List (Str × D)} (h : Rs l F M) (e : l[k]? = some (ownI K p C fs)) (m : Ex M H) : ∃ dx vs, FdFs K F vs fs ∧ H p = some (.ins C dx vs) := by
  obtain ⟨A, B, rfl, dj, ⟨vs, dx, n, f, rfl⟩, _⟩ := Rs.at e h
  exact ⟨dx, vs, f, m p _ (join_l (join_l one_same))⟩
variable {en : En} {g : Gm} {T : Tm} {σ : L2.St}
/-- an owned list is written -/
theorem At.putL {k : Nat} {p : Addr} {ds ds' : List D} {vs' : List V} (a : At K en g T l σ H F M) (e : l[k]? = some (ownL K p ds)) (f : FdAll K F vs' ds') : ∃ M', At K en g T (l.set k (ownL K p ds')) σ (upd H p (.lst vs')) F M' := by
  obtain ⟨A, B, rfl, dj, ⟨vs, f0, rfl⟩, put⟩ := Rs.at e a.rs
  have hp : H p = some (.lst vs) := a.exM p _ (join_l one_same)
  have hF : F p = none := a.dj.sym p (.lst vs) (join_l one_same)
  have dB : ∀ u, Dj (one p u) B := fun u x o h => by
    obtain ⟨rfl, _⟩ := one_some h
    exact dj x _ one_same
  have hB : B p = none := dj p _ one_same
  have pM : en.H p = none ∨ ∃ u, en.M p = some u := a.nM p _ (join_l one_same)
  refine ⟨join (one p (.lst vs')) B, a.exF.mut hF, ?_, ?_, a.eF, a.nF, ?_, ?_, a.sl, a.tm, put _ _ F .rf ⟨vs', f, rfl⟩ (dB _)⟩
  · intro x o h
    rcases join_some h with q | ⟨n, q⟩
    · obtain ⟨rfl, rfl⟩ := one_some q
      exact upd_same
    · have ne : x ≠ p := fun z => by rw [z, hB] at q; cases q
      rw [upd_ne ne]
      exact a.exM x o (by rw [join_r (one_ne ne)]; exact q)
  · intro x o h
    have ne : x ≠ p := fun z => by rw [z, hF] at h; cases h
    have := a.dj x o h
    rw [join_r (one_ne ne)] at this ⊢
    exact this
  · intro x o h
    rcases join_some h with q | ⟨n, q⟩
    · obtain ⟨rfl, rfl⟩ := one_some q
      exact pM
    · have ne : x ≠ p := fun z => by rw [z, hB] at q; cases q
      exact a.nM x o (by rw [join_r (one_ne ne)]; exact q)
  · intro x o h1 h2
    have ne : x ≠ p := fun z => by
      subst z
      rcases pM with q | ⟨u, q⟩
      · rw [h1] at q; cases q
      · rw [h2] at q; cases q
    rw [upd_ne ne]
    exact a.fr x o h1 h2
/-- an owned instance's attribute is written -/
theorem At.putI {k : Nat} {p C dx : Addr} {fs fs' : List (Str × D)} {vs vs' : List (Str × V)} (a : At K en g T l σ H F M) (e : l[k]? = some (ownI K p C fs)) (hp : H p = some (.ins C dx vs)) (f : FdFs K F vs' fs') : ∃ M', At K en g T (l.set k (ownI K p C fs')) σ (upd H p (.ins C dx vs')) F M' := by
  obtain ⟨A, B, rfl, dj, ⟨vs0, dx0, nd, f0, rfl⟩, put⟩ := Rs.at e a.rs
  have hp0 : H p = some (.ins C dx0 vs0) := a.exM p _ (join_l (join_l one_same))
  rw [hp] at hp0
  obtain ⟨rfl, rfl⟩ : dx = dx0 ∧ vs = vs0 := by injection hp0 with z; injection z with z1 z2 z3; exact ⟨z2, z3⟩
  have hF : F p = none := a.dj.sym p _ (join_l (join_l one_same))
  have dB : ∀ u, Dj (join (one p u) (one dx (.own p))) B := fun u x o h => by
    rcases join_some h with q | ⟨_, q⟩
    · obtain ⟨rfl, _⟩ := one_some q
      exact dj x _ (join_l one_same)
    · obtain ⟨rfl, _⟩ := one_some q
      exact dj x _ (by rw [join_r (one_ne nd)]; exact one_same)
  have hB : B p = none := dj p _ (join_l one_same)
  have pM : en.H p = none ∨ ∃ u, en.M p = some u := a.nM p _ (join_l (join_l one_same))
  refine ⟨join (join (one p (.ins C dx vs')) (one dx (.own p))) B, a.exF.mut hF, ?_, ?_, a.eF, a.nF, ?_, ?_, a.sl, a.tm, put _ _ F .rf ⟨vs', dx, nd, f, rfl⟩ (dB _)⟩
  · intro x o h
    rcases join_some h with q | ⟨n, q⟩
    · rcases join_some q with q | ⟨n, q⟩
      · obtain ⟨rfl, rfl⟩ := one_some q
        exact upd_same
      · obtain ⟨rfl, rfl⟩ := one_some q
        rw [upd_ne nd]
        exact a.exM x _ (join_l (by rw [join_r (one_ne nd)]; exact one_same))
    · have ne : x ≠ p := fun z => by rw [z, hB] at q; cases q
      rw [upd_ne ne]
      have nx : x ≠ dx := fun z => by
        rw [z, join_r (one_ne nd), one_same] at n; cases n
      exact a.exM x o (by rw [join_r (by rw [join_r (one_ne ne)]; exact one_ne nx)]; exact q)
  · intro x o h
    have ne : x ≠ p := fun z => by rw [z, hF] at h; cases h
    have := a.dj x o h
    obtain ⟨q1, q2⟩ := join_none this
    obtain ⟨q3, q4⟩ := join_none q1
    rw [join_r (by rw [join_r (one_ne ne)]; exact q4)]
    exact q2
  · intro x o h
    rcases join_some h with q | ⟨n, q⟩
    · rcases join_some q with q | ⟨n, q⟩
      · obtain ⟨rfl, rfl⟩ := one_some q
        exact pM
      · obtain ⟨rfl, rfl⟩ := one_some q
        exact a.nM x (.own p) (join_l (by rw [join_r (one_ne nd)]; exact one_same))
    · have ne : x ≠ p := fun z => by rw [z, hB] at q; cases q
      have nx : x ≠ dx := fun z => by
        rw [z, join_r (one_ne nd), one_same] at n; cases n
      exact a.nM x o (by rw [join_r (by rw [join_r (one_ne ne)]; exact one_ne nx)]; exact q)
  · intro x o h1 h2
    have ne : x ≠ p := fun z => by
      subst z
      rcases pM with q | ⟨u, q⟩
      · rw [h1] at q; cases q
      · rw [h2] at q; cases q
    rw [upd_ne ne]
    exact a.fr x o h1 h2
/-- something new, owned -/
theorem At.newO {r : Res} {A H' : Hp} (a : At K en g T l σ H F M) (h : Ex H H') (hA : Ex A H') (n : ∀ x o, A x = some o → H x = none) (p : r.P F A) : At K en g T (r :: l) σ H' F (join A M) := by
  have dA : Dj A M := fun x o q => by
    cases z : M x with
    | none => rfl
    | some u => have := a.exM x u z; rw [n x o q] at this; cases this
  refine ⟨a.exF.tr h, hA.join (a.exM.tr h), fun x o q => ?_, a.eF, a.nF, fun x o q => ?_, fun x o h1 h2 => h x o (a.fr x o h1 h2), a.sl, a.tm, ⟨A, M, rfl, dA, p, a.rs⟩⟩
  · cases z : join A M x with
    | none => rfl
    | some u =>
      rcases join_some z with y | ⟨_, y⟩
      · have := a.exF x o q; rw [n x u y] at this; cases this
      · rw [a.dj x o q] at y; cases y
  · rcases join_some q with y | ⟨_, y⟩
    · cases w : en.H x with
      | none => exact .inl rfl
      | some u =>
        cases z : en.M x with
        | some y => exact .inr ⟨y, rfl⟩
        | none => have := a.fr x u w z; rw [n x o y] at this; cases this
    · exact a.nM x o y
/-- what is owned at the front is frozen -/
theorem At.frz {r : Res} {P : Hp → Prop} (a : At K en g T (r :: l) σ H F M) (f : ∀ A, r.P F A → P (join F A)) : ∃ F' M', At K en g T l σ H F' M' ∧ P F' ∧ Ex F F' := by
  obtain ⟨A, B, rfl, dj, p, rs⟩ := a.rs
  have dF : Dj F A := fun x o h => (join_none (a.dj x o h)).1
  have eF : Ex F (join F A) := fun x o h => join_l h
  refine ⟨join F A, B, ⟨a.exF.join a.exM.joinL, a.exM.joinR dj, ?_, a.eF.tr eF, ?_, fun x o h => a.nM x o (by rw [join_r (dj.sym x o h)]; exact h), a.fr, a.sl.mono eF, T.mono eF a.tm, rs.mono eF⟩, f A p, eF⟩
  · intro x o h
    rcases join_some h with q | ⟨_, q⟩
    · exact (join_none (a.dj x o q)).2
    · exact dj x o q
  · intro x o h
    rcases join_some h with q | ⟨_, q⟩
    · exact a.nF x o q
    · rcases a.nM x o (join_l q) with z | z
      · exact .inr (.inl z)
      · exact .inr (.inr z)
theorem Rs.perm {F : Hp} : ∀ {l k : List Res}, l.Perm k → ∀ {M : Hp}, Rs l F M → Rs k F M := by
  intro l k h
  induction h with
  | nil => exact fun h => h
  | cons x _ ih => exact fun ⟨A, B, h1, h2, h3, h4⟩ => ⟨A, B, h1, h2, h3, ih h4⟩
  | swap x y l =>
    rintro M ⟨A, B, h1, h2, h3, ⟨A', B', g1, g2, g3, g4⟩⟩
    subst g1; subst h1
    have dAA : Dj A A' := (Dj.l h2.sym).sym
    have dAB : Dj A B' := (Dj.r g2 h2.sym).sym
    exact ⟨A', join A B', by rw [← join_assoc, ← join_assoc, dAA.comm], (Dj.joinL dAA g2.sym).sym, g3, A, B', rfl, dAB, h3, g4⟩
  | trans _ _ h1 h2 => exact fun h => h2 (h1 h)
theorem S.perm {l' : List Res} (h : l.Perm l') (s : S K en g T l σ H) : S K en g T l' σ H := let ⟨F, M, a⟩ := s; ⟨F, M, a.exF, a.exM, a.dj, a.eF, a.nF, a.nM, a.fr, a.sl, a.tm, a.rs.perm h⟩
end

section
variable {X : Cx} {W : WX} {g g' : Gm} {l l' : List Res} {Φ : Po} {e a b c o : Expr} {es : List Expr} {d d1 d2 d3 : D} {pos p : Pos} {rest : List Stmt}
theorem Blk.perm {sts : List Stmt} (h : l.Perm l') (k : Blk X W sts g l' Φ) : Blk X W sts g l Φ := fun en T σ H D s m => k en T σ H D (s.perm h) m
/-- a new list, owned -/
theorem ev_lst {ds : List D} (h : Pa X es g l ds) (hz : ds.length ≤ sizeLine := by first | decide | exact Nat.le_of_ble_eq_true rfl) : Ev X (.List es pos) g l (fun d' l' => ∃ p, d' = .adr p ∧ l' = ownL X.K p ds :: l) := fun en T σ H Q s k => wpE_of (pe_lst pa_wp) (by
  refine h en T σ H _ s fun vs H1 s1 => ?_
  obtain ⟨F, M, q⟩ := s1
  refine ⟨by rw [q.tm.1.length]; exact hz, fun p hp => ?_⟩
  have q2 := q.tmp (T' := T) q.tm.2
  have q3 := q2.newO (r := ownL X.K p ds) (A := one p (.lst vs)) (H' := upd H1 p (.lst vs)) (.new hp) (fun x o z => by obtain ⟨rfl, rfl⟩ := one_some z; exact upd_same) (fun x o z => by obtain ⟨rfl, rfl⟩ := one_some z; exact hp) ⟨vs, q.tm.1, rfl⟩
  exact k _ (.adr p) _ _ ⟨p, rfl, rfl⟩ ⟨F, _, q3.tmp ⟨.adr p, q.tm.2⟩⟩)
/-- a list just made is frozen -/
theorem Ev.frz {ds : List D} (h : Ev X e g l (fun d' l' => ∃ p, d' = .adr p ∧ l' = ownL X.K p ds :: l)) : Px X e g l (.lst ds) := fun en T σ H Q s k => h en T σ H Q s fun v d l' H' p s' => by
  obtain ⟨p, rfl, rfl⟩ := p
  obtain ⟨F, M, q⟩ := s'
  have hv := q.tm.1
  cases hv
  obtain ⟨F', M', q', f, _⟩ := q.frz (P := fun F' => Fd X.K F' (.ref p) (.lst ds)) fun A hA => by
    obtain ⟨vs, f, rfl⟩ := hA
    have hF : F p = none := by
      obtain ⟨A, B, rfl, _, ⟨_, _, rfl⟩, _⟩ := q.rs
      exact q.dj.sym p _ (join_l one_same)
    exact .lst (by rw [join_r hF]; exact one_same) (FdAll.mono (fun x o h => join_l h) _ f)
  exact k _ H' ⟨F', M', q'.tmp ⟨f, q'.tm.2⟩⟩
/-- a slot's owned list (at the front) is frozen -/
theorem Blk.frz {sts : List Stmt} {p : Addr} {ds : List D} {i : Nat} (hi : nth g i = some (.adr p)) (k : Blk X W sts (g.set i (some (.lst ds))) l Φ) : Blk X W sts g (ownL X.K p ds :: l) Φ := fun en T σ H D s m => by
  obtain ⟨F, M, q⟩ := s
  obtain ⟨v, hv, fv⟩ := q.sl.nth hi
  cases fv
  obtain ⟨F', M', q', f, _⟩ := q.frz (P := fun F' => Fd X.K F' (.ref p) (.lst ds)) fun A hA => by
    obtain ⟨vs, f, rfl⟩ := hA
    have hF : F p = none := by
      obtain ⟨A, B, rfl, _, ⟨_, _, rfl⟩, _⟩ := q.rs
      exact q.dj.sym p _ (join_l one_same)
    exact .lst (by rw [join_r hF]; exact one_same) (FdAll.mono (fun x o h => join_l h) _ f)
  refine k en T σ H D ⟨F', M', q'.slots ?_⟩ m
  have w := q'.sl.set i f
  have e : σ.set i (some (.ref p)) = σ := by
    apply List.ext_getElem?
    intro j
    by_cases z : j = i
    · subst z
      obtain ⟨h1, h2⟩ := List.getElem?_eq_some_iff.mp hv
      rw [List.getElem?_set_self h1, hv]
    · rw [List.getElem?_set_ne (Ne.symm z)]
  rw [e] at w
  exact w
/-- x.append(e), x an owned list -/
theorem blk_app {k : Nat} {p : Addr} {ds : List D} {apos cpos : Pos} (ho : Px X o g l (.adr p)) (he : Px X e g l d) (hk : l[k]? = some (ownL X.K p ds)) (hz : ds.length < sizeLine) (h : Blk X W rest g (l.set k (ownL X.K p (ds ++ [d]))) Φ)
    (hp : PS X (.Expr (.Call (.Attribute o "append" apos) [e] [] cpos) pos) (tDrop (tBM X.K "list" rAppend (wpE X o) (tCons (wpE X e) tNil)))) : Blk X W (.Expr (.Call (.Attribute o "append" apos) [e] [] cpos) pos :: rest) g l Φ := fun en T σ H D s m => wpS_of (pss_cons hp pss_wp) (by
  refine ho en T σ H _ s fun v H1 s1 => ?_
  obtain ⟨F1, M1, q1⟩ := id s1
  have fv := q1.tm.1
  cases fv
  obtain ⟨vs1, _, hp1⟩ := q1.rs.own hk q1.exM
  refine ⟨.inl ⟨rfl, _, SqL.of hp1⟩, ?_⟩
  refine he en _ σ H1 _ s1 fun u H2 s2 => ?_
  obtain ⟨F, M, q⟩ := s2
  obtain ⟨vs, fvs, hp⟩ := q.rs.own hk q.exM
  refine ⟨p, vs, u, rfl, rfl, hp, by rw [fvs.length]; exact hz, ?_⟩
  obtain ⟨M', q'⟩ := (q.tmp (T' := T) q.tm.2.2).putL hk (fvs.app (.cons q.tm.1 .nil))
  exact h en T σ _ D ⟨F, M', q'⟩ m)
end
end Sx
set_option Elab.async false
set_option linter.all false
set_option maxRecDepth 100000
set_option maxHeartbeats 2000000
/-! Operations by value, calls, loops, comprehensions. -/
namespace Sx
open PySem L2

/-! ### operations -/
section
variable {K : PySem.W.Frag} {l : List Res} {d d1 d2 d3 : D} {i j : Int}
theorem o2_I0 {g : Int → Int → V} (h : ∀ F, Fd K F (g i j) d) : Op2 K l (rI0 g) (.int i) (.int j) d := fun F M H v u Q eF eM dj rs f1 f2 k => by
  cases f1; cases f2
  exact ⟨i, j, rfl, rfl, k _ F H (.rf eF) (h F)⟩
theorem o2_I {C : Int → Int → Prop} {g : Int → Int → V} (hc : C i j) (h : ∀ F, Fd K F (g i j) d) : Op2 K l (rI C g) (.int i) (.int j) d := fun F M H v u Q eF eM dj rs f1 f2 k => by
  cases f1; cases f2
  exact ⟨i, j, rfl, rfl, hc, k _ F H (.rf eF) (h F)⟩
theorem o_add : Op2 K l (rI0 fun i j => .int (i + j)) (.int i) (.int j) (.int (i + j)) := o2_I0 fun _ => .int _
theorem o_sub : Op2 K l (rI0 fun i j => .int (i - j)) (.int i) (.int j) (.int (i - j)) := o2_I0 fun _ => .int _
theorem o_mul (hc : CMul i j) : Op2 K l (rI CMul fun i j => .int (i * j)) (.int i) (.int j) (.int (i * j)) := o2_I hc fun _ => .int _
theorem o_mulR (h1 : -(2 ^ 64) < j := by decide) (h2 : j < 2 ^ 64 := by decide) : Op2 K l (rI CMul fun i j => .int (i * j)) (.int i) (.int j) (.int (i * j)) := o_mul (.inr ⟨h1, h2⟩)
theorem o_mulL (h1 : -(2 ^ 64) < i := by decide) (h2 : i < 2 ^ 64 := by decide) : Op2 K l (rI CMul fun i j => .int (i * j)) (.int i) (.int j) (.int (i * j)) := o_mul (.inl ⟨h1, h2⟩)
theorem o_mod (hc : 0 < j := by decide) : Op2 K l (rI (fun _ j => 0 < j) fun i j => .int (i % j)) (.int i) (.int j) (.int (i % j)) := o2_I hc fun _ => .int _
theorem o_fdiv (h1 : 0 < j := by decide) (h2 : j < 1073741824 := by decide) : Op2 K l (rI CDiv fun i j => .int (i / j)) (.int i) (.int j) (.int (i / j)) := o2_I ⟨h1, h2⟩ fun _ => .int _
theorem o_pow (hc : CPow i j := by exact ⟨by decide, by decide, by decide⟩) : Op2 K l (rI CPow fun i j => .int (i ^ j.toNat)) (.int i) (.int j) (.int (i ^ j.toNat)) := o2_I hc fun _ => .int _
theorem o_lt : Op2 K l (rI0 fun i j => .bl (decide (i < j))) (.int i) (.int j) (.bl (decide (i < j))) := o2_I0 fun _ => .bl _
theorem o_le : Op2 K l (rI0 fun i j => .bl (decide (i ≤ j))) (.int i) (.int j) (.bl (decide (i ≤ j))) := o2_I0 fun _ => .bl _
theorem o_gt : Op2 K l (rI0 fun i j => .bl (decide (j < i))) (.int i) (.int j) (.bl (decide (j < i))) := o2_I0 fun _ => .bl _
theorem o_ge : Op2 K l (rI0 fun i j => .bl (decide (j ≤ i))) (.int i) (.int j) (.bl (decide (j ≤ i))) := o2_I0 fun _ => .bl _
theorem o_neg : Op1 K l (rU fun i => .int (-i)) (.int i) (.int (-i)) := fun F M H v Q eF eM dj rs f1 k => by
  cases f1
  exact ⟨i, rfl, k _ F H (.rf eF) (.int _)⟩
/-- scalars -/
def D.v : D → Option V
  | .non => some .non | .bl b => some (.bl b) | .int i => some (.int i) | .str x => some (.str x) | .ty n => some (.ty n) | _ => none
theorem D.v_eq {F : Hp} {d : D} {v w : V} (f : Fd K F v d) (h : d.v = some w) : v = w := by
  cases f <;> first | (cases h; rfl) | cases h
theorem o_eq {v1 v2 : V} (h1 : d1.v = some v1) (h2 : d2.v = some v2) (hs : scal v1 v2 = true := by rfl) : Op2 K l rEq d1 d2 (.bl (decide (v1 = v2))) := fun F M H v u Q eF eM dj rs f1 f2 k => by
  have e1 := D.v_eq f1 h1
  have e2 := D.v_eq f2 h2
  subst e1; subst e2
  exact ⟨hs, k _ F H (.rf eF) (.bl _)⟩
theorem o_ne {v1 v2 : V} (h1 : d1.v = some v1) (h2 : d2.v = some v2) (hs : scal v1 v2 = true := by rfl) : Op2 K l rNe d1 d2 (.bl (!decide (v1 = v2))) := fun F M H v u Q eF eM dj rs f1 f2 k => by
  have e1 := D.v_eq f1 h1
  have e2 := D.v_eq f2 h2
  subst e1; subst e2
  exact ⟨hs, k _ F H (.rf eF) (.bl _)⟩
theorem int_dec (i j : Int) : decide (V.int i = V.int j) = decide (i = j) := by
  by_cases e : i = j
  · subst e; simp
  · have : ¬ V.int i = V.int j := fun q => e (V.int.inj q)
    rw [decide_eq_false e, decide_eq_false this]
theorem str_dec (i j : Str) : decide (V.str i = V.str j) = decide (i = j) := by
  by_cases e : i = j
  · subst e; simp
  · have : ¬ V.str i = V.str j := fun q => e (V.str.inj q)
    rw [decide_eq_false e, decide_eq_false this]
theorem o_eqI : Op2 K l rEq (.int i) (.int j) (.bl (decide (i = j))) := by
  rw [← int_dec]; exact o_eq rfl rfl
theorem o_neI : Op2 K l rNe (.int i) (.int j) (.bl (!decide (i = j))) := by
  rw [← int_dec]; exact o_ne rfl rfl
theorem o_eqS {x y : Str} : Op2 K l rEq (.str x) (.str y) (.bl (decide (x = y))) := by
  rw [← str_dec]; exact o_eq rfl rfl
theorem o_neS {x y : Str} : Op2 K l rNe (.str x) (.str y) (.bl (!decide (x = y))) := by
  rw [← str_dec]; exact o_ne rfl rfl
/-- is None -/
def D.isNon : D → Bool
  | .non => true | _ => false
theorem D.isNon_eq {F : Hp} {d : D} {v : V} (f : Fd K F v d) : decide (v = .non) = d.isNon := by
  cases f <;> simp [D.isNon]
theorem o_isN : Op2 K l (fun x y H Q => y = .non ∧ Q (.bl (decide (x = .non))) H) d .non (.bl d.isNon) := fun F M H v u Q eF eM dj rs f1 f2 k => by
  cases f2
  refine ⟨rfl, ?_⟩
  rw [D.isNon_eq f1]
  exact k _ F H (.rf eF) (.bl _)
theorem o_notN : Op2 K l (fun x y H Q => y = .non ∧ Q (.bl (!decide (x = .non))) H) d .non (.bl (!d.isNon)) := fun F M H v u Q eF eM dj rs f1 f2 k => by
  cases f2
  refine ⟨rfl, ?_⟩
  rw [D.isNon_eq f1]
  exact k _ F H (.rf eF) (.bl _)
theorem o_addS {x y : Str} (h : x.length + y.length ≤ sizeLine) : Op2 K l (fun x y H Q => ∃ i j, x = .str i ∧ y = .str j ∧ i.length + j.length ≤ sizeLine ∧ Q (.str (i ++ j)) H) (.str x) (.str y) (.str (x ++ y)) := fun F M H v u Q eF eM dj rs f1 f2 k => by
  cases f1; cases f2
  exact ⟨x, y, rfl, rfl, h, k _ F H (.rf eF) (.str _)⟩
/-- indices -/
theorem atI_of {α : Type} {xs : List α} {i : Int} {n : Nat} (h : ixN xs.length i = some n) : atI xs i = xs[n]? := by
  unfold atI; rw [h]; rfl
theorem atI_fd {F : Hp} {vs : List V} {ds : List D} (f : FdAll K F vs ds) (h : atI ds i = some d) : ∃ v, atI vs i = some v ∧ Fd K F v d := by
  unfold atI at h ⊢
  rw [f.length]
  cases e : ixN ds.length i with
  | none => rw [e] at h; cases h
  | some n =>
    rw [e] at h
    exact f.get h
theorem o_ixT {ds : List D} (h : atI ds i = some d) : Op2 K l (rIxT K) (.tup ds) (.int i) d := fun F M H v u Q eF eM dj rs f1 f2 k => by
  cases f2
  cases f1 with
  | tup s a =>
    obtain ⟨w, h1, h2⟩ := atI_fd a h
    exact ⟨_, _, i, w, rfl, rfl, ex_t eF s, h1, k w F H (.rf eF) h2⟩
theorem o_ixL {ds : List D} (h : atI ds i = some d) : Op2 K l (rIxL K) (.lst ds) (.int i) d := fun F M H v u Q eF eM dj rs f1 f2 k => by
  cases f2
  cases f1 with
  | lst s a =>
    obtain ⟨w, h1, h2⟩ := atI_fd a h
    exact ⟨_, _, i, w, rfl, rfl, SqL.of (eF _ _ s), h1, k w F H (.rf eF) h2⟩
theorem o_ixR {ds : List D} (h : atI ds i = some d) : Op2 K l (rIxL K) (.scr ds) (.int i) d := fun F M H v u Q eF eM dj rs f1 f2 k => by
  cases f2
  cases f1 with
  | scr s a =>
    obtain ⟨w, h1, h2⟩ := atI_fd a h
    exact ⟨_, _, i, w, rfl, rfl, ex_l eF s, h1, k w F H (.rf eF) h2⟩
theorem o_ixO {k : Nat} {p : Addr} {ds : List D} (hk : l[k]? = some (ownL K p ds)) (h : atI ds i = some d) : Op2 K l (rIxL K) (.adr p) (.int i) d := fun F M H v u Q eF eM dj rs f1 f2 kk => by
  cases f2
  cases f1
  obtain ⟨vs, f, hp⟩ := rs.own hk eM
  obtain ⟨w, h1, h2⟩ := atI_fd f h
  exact ⟨_, _, i, w, rfl, rfl, SqL.of hp, h1, kk w F H (.rf eF) h2⟩
theorem o_ixS {x : Str} {c : Nat} (h : x.length ≤ sizeLine) (ha : atI x.cps.toList i = some c) : Op2 K l rIxS (.str x) (.int i) (.str ⟨#[c]⟩) := fun F M H v u Q eF eM dj rs f1 f2 k => by
  cases f1; cases f2
  exact ⟨x, i, c, rfl, rfl, h, ha, k _ F H (.rf eF) (.str _)⟩
/-- x in xs, flat things -/
def D.flat (d : D) : Bool := match d.v with | some v => flatV v | none => false
def D.vv (d : D) : V := d.v.getD .non
theorem D.vv_eq {F : Hp} {d : D} {v : V} (f : Fd K F v d) (h : d.flat = true) : v = d.vv ∧ flatV v = true := by
  cases f <;> first | exact ⟨rfl, h⟩ | cases h
theorem D.vvs {F : Hp} : ∀ {vs : List V} {ds : List D}, FdAll K F vs ds → ds.all D.flat = true → vs = ds.map D.vv ∧ vs.all flatV = true
  | _, _, .nil, _ => ⟨rfl, rfl⟩
  | _, _, .cons a b, h => by
    rw [List.all_cons, Bool.and_eq_true] at h
    obtain ⟨q1, q2⟩ := D.vv_eq a h.1
    obtain ⟨r1, r2⟩ := D.vvs b h.2
    refine ⟨by rw [List.map_cons, ← q1, ← r1], by rw [List.all_cons, q2, r2]; rfl⟩
theorem o_in {neg : Bool} {ds : List D} {d0 : D} (hd : d0 = .lst ds ∨ d0 = .tup ds) (hx : d.flat = true) (hs : ds.all D.flat = true) : Op2 K l (rIn K neg) d d0 (.bl (if neg then !inV d.vv (ds.map D.vv) else inV d.vv (ds.map D.vv))) := fun F M H v u Q eF eM dj rs f1 f2 k => by
  obtain ⟨q1, q2⟩ := D.vv_eq f1 hx
  subst q1
  have kk := k (.bl (if neg then !inV d.vv (ds.map D.vv) else inV d.vv (ds.map D.vv))) F H (.rf eF) (.bl _)
  rcases hd with rfl | rfl
  · cases f2 with
    | lst s a =>
      obtain ⟨r1, r2⟩ := D.vvs a hs
      subst r1
      exact ⟨_, _, rfl, .inl (SqL.of (eF _ _ s)), q2, r2, kk⟩
  · cases f2 with
    | tup s a =>
      obtain ⟨r1, r2⟩ := D.vvs a hs
      subst r1
      exact ⟨_, _, rfl, .inr (ex_t eF s), q2, r2, kk⟩
theorem o_inO {neg : Bool} {k : Nat} {p : Addr} {ds : List D} (hk : l[k]? = some (ownL K p ds)) (hx : d.flat = true) (hs : ds.all D.flat = true) : Op2 K l (rIn K neg) d (.adr p) (.bl (if neg then !inV d.vv (ds.map D.vv) else inV d.vv (ds.map D.vv))) := fun F M H v u Q eF eM dj rs f1 f2 kk => by
  obtain ⟨q1, q2⟩ := D.vv_eq f1 hx
  subst q1
  cases f2
  obtain ⟨vs, f, hp⟩ := rs.own hk eM
  obtain ⟨r1, r2⟩ := D.vvs f hs
  subst r1
  exact ⟨_, _, rfl, .inl (SqL.of hp), q2, r2, kk _ F H (.rf eF) (.bl _)⟩
theorem inV_str {x : Str} {xs : List Str} : inV (.str x) (xs.map V.str) = decide (x ∈ xs) := by
  induction xs with
  | nil => rfl
  | cons y r ih =>
    have e : inV (.str x) ((y :: r).map V.str) = ((y == x) || inV (.str x) (r.map V.str)) := rfl
    rw [e, ih]
    by_cases q : y = x
    · subst q; simp
    · have q' : ¬ x = y := fun z => q z.symm
      simp [q, q']
theorem inV_int {x : Int} {xs : List Int} : inV (.int x) (xs.map V.int) = decide (x ∈ xs) := by
  induction xs with
  | nil => rfl
  | cons y r ih =>
    have e : inV (.int x) ((y :: r).map V.int) = ((y == x) || inV (.int x) (r.map V.int)) := rfl
    rw [e, ih]
    by_cases q : y = x
    · subst q; simp
    · have q' : ¬ x = y := fun z => q z.symm
      simp [q, q']
theorem flat_strs {xs : List Str} : (xs.map D.str).all D.flat = true := by
  induction xs with
  | nil => rfl
  | cons y r ih => rw [List.map_cons, List.all_cons, ih]; rfl
theorem vv_strs {xs : List Str} : (xs.map D.str).map D.vv = xs.map V.str := by
  rw [List.map_map]; rfl
theorem flat_ints {xs : List Int} : (xs.map D.int).all D.flat = true := by
  induction xs with
  | nil => rfl
  | cons y r ih => rw [List.map_cons, List.all_cons, ih]; rfl
theorem vv_ints {xs : List Int} : (xs.map D.int).map D.vv = xs.map V.int := by
  rw [List.map_map]; rfl
theorem o_inS {x : Str} {xs : List Str} {d0 : D} (hd : d0 = .lst (xs.map D.str) ∨ d0 = .tup (xs.map D.str)) : Op2 K l (rIn K false) (.str x) d0 (.bl (decide (x ∈ xs))) := by
  have h := o_in (K := K) (l := l) (neg := false) hd (d := .str x) rfl flat_strs
  rw [vv_strs] at h
  have e : (if false = true then !inV (D.str x).vv (xs.map V.str) else inV (D.str x).vv (xs.map V.str)) = decide (x ∈ xs) := inV_str
  rw [e] at h; exact h
theorem o_ninS {x : Str} {xs : List Str} {d0 : D} (hd : d0 = .lst (xs.map D.str) ∨ d0 = .tup (xs.map D.str)) : Op2 K l (rIn K true) (.str x) d0 (.bl (!decide (x ∈ xs))) := by
  have h := o_in (K := K) (l := l) (neg := true) hd (d := .str x) rfl flat_strs
  rw [vv_strs] at h
  have e : (if true = true then !inV (D.str x).vv (xs.map V.str) else inV (D.str x).vv (xs.map V.str)) = !decide (x ∈ xs) := congrArg (!·) inV_str
  rw [e] at h; exact h
/- == of data -/
mutual
def D.py : D → Option PyData
  | .non => some .none | .bl b => some (.bool b) | .int i => some (.int i) | .str x => some (.str x)
  | .lst ds => (D.pys ds).map .list
  | .tup ds => (D.pys ds).map .tuple
  | .adr _ => none | .ty _ => none | .ins _ _ => none | .scr _ => none | .dK _ => none | .dT _ => none
def D.pys : List D → Option (List PyData)
  | [] => some []
  | d :: r => (D.py d).bind fun a => (D.pys r).map fun b => a :: b
end
mutual
theorem Fd.dp {F H : Hp} (e : Ex F H) : ∀ (d : D) {v : V} {p : PyData}, Fd K F v d → D.py d = some p → Dp K H v p
  | .non, _, _, h, q => by cases h; cases q; exact .non
  | .bl _, _, _, h, q => by cases h; cases q; exact .bl _
  | .int _, _, _, h, q => by cases h; cases q; exact .int _
  | .str _, _, _, h, q => by cases h; cases q; exact .str _
  | .lst ds, _, _, h, q => by
    unfold D.py at q
    obtain ⟨ps, h1, rfl⟩ := Option.map_eq_some_iff.mp q
    cases h with
    | lst s a => exact .lst (SqL.of (e _ _ s)) (FdAll.dp e ds a h1)
  | .tup ds, _, _, h, q => by
    unfold D.py at q
    obtain ⟨ps, h1, rfl⟩ := Option.map_eq_some_iff.mp q
    cases h with
    | tup s a => exact .tup (ex_t e s) (FdAll.dp e ds a h1)
  | .adr _, _, _, h, q => by cases q
  | .ty _, _, _, h, q => by cases q
  | .ins _ _, _, _, h, q => by cases q
  | .scr _, _, _, h, q => by cases q
  | .dK _, _, _, h, q => by cases q
  | .dT _, _, _, h, q => by cases q
theorem FdAll.dp {F H : Hp} (e : Ex F H) : ∀ (ds : List D) {vs : List V} {ps : List PyData}, FdAll K F vs ds → D.pys ds = some ps → DpAll K H vs ps
  | [], _, _, h, q => by cases h; cases q; exact .nil
  | d :: r, _, _, h, q => by
    unfold D.pys at q
    obtain ⟨a, h1, q⟩ := Option.bind_eq_some_iff.mp q
    obtain ⟨b, h2, rfl⟩ := Option.map_eq_some_iff.mp q
    cases h with
    | cons x y => exact .cons (Fd.dp e d x h1) (FdAll.dp e r y h2)
end
theorem o_eqD {p q : PyData} (h1 : d1.py = some p) (h2 : d2.py = some q) (s1 : SeqAt.shaped p = true) (s2 : SeqAt.shaped q = true) : Op2 K l (rEqD K) d1 d2 (.bl (PyData.eqv p q)) := fun F M H v u Q eF eM dj rs f1 f2 k =>
  ⟨p, q, Fd.dp eF _ f1 h1, Fd.dp eF _ f2 h2, s1, s2, k _ F H (.rf eF) (.bl _)⟩
theorem o_neD {p q : PyData} (h1 : d1.py = some p) (h2 : d2.py = some q) (s1 : SeqAt.shaped p = true) (s2 : SeqAt.shaped q = true) : Op2 K l (rNeD K) d1 d2 (.bl (!PyData.eqv p q)) := fun F M H v u Q eF eM dj rs f1 f2 k =>
  ⟨p, q, Fd.dp eF _ f1 h1, Fd.dp eF _ f2 h2, s1, s2, k _ F H (.rf eF) (.bl _)⟩
end

/-! ### a def's promise -/
/-- called with the data args a (owned: own a), where ok a holds, it gives back what post tells, or raises what epost tells -/
def FnX (K : PySem.W.Frag) {α : Type} (ok : α → Prop) (args : α → List D) (own : α → List Res) (post : α → D → List Res → Prop) (epost : α → Value → Option Addr → List Res → Prop) : Sp := fun vs H Q E =>
  ∃ (a : α) (F M : Hp), ok a ∧ Ex F H ∧ Ex M H ∧ Dj F M ∧ FdAll K F vs (args a) ∧ Rs (own a) F M ∧
    (∀ v d l' H', post a d l' → S K ⟨F, M, H⟩ [] (Tm.tt.and K v d) l' [] H' → Q v H') ∧ (∀ cls d l' H', epost a cls d l' → S K ⟨F, M, H⟩ [] Tm.tt l' [] H' → E cls d H')
abbrev noE {α : Type} : α → Value → Option Addr → List Res → Prop := fun _ _ _ _ => False
/-- a def that changes nothing and gives back f a -/
abbrev Pu (K : PySem.W.Frag) {α : Type} (ok : α → Prop) (args : α → List D) (f : α → D) : Sp := FnX K ok args (fun _ => []) (fun a d l' => d = f a ∧ l' = []) noE
section
variable {P : Program} {w : World} {K : PySem.W.Frag} {mg : Str → Option Value} {base : Heap}
theorem fn_ok {α : Type} {ok : α → Prop} {args : α → List D} {own : α → List Res} {post : α → D → List Res → Prop} {epost : α → Value → Option Addr → List Res → Prop} {x qual : Str} {st : Stmt} {f : Addr} {fd : FuncData} {N ps : List Str} {k : Nat}
    (F : Fun K x qual st f fd) (Sc : FnScope N ps (defScope st)) (hlen : ∀ a, (args a).length = ps.length)
    (hbody : ∀ (cdv : Value) (A : Around) (outer : List Env) (s : Shared) (H : Hp) (E : XK) (a : α), Room k (A.deeper (PyProof.Rows.envOfC qual (defScope st) s.heap.objs.size f cdv)) → ok a →
      Blk (cxOf CX0 P w K mg base N qual (defScope st) f cdv A outer s H E).nox (fun _ _ _ _ => False) (defBody st) ((args a).map some ++ List.replicate (N.length - (args a).length) none) (own a) { nx := fun _ l' => post a .non l', rt := post a }) :
    FnOk P w K mg base CX0 (k + 1) f fd ps (FnX K ok args own post epost) := by
  refine F.ok Sc (fun vs H Q E h => ?_) (fun cdv A outer s H vs Q E hr h => ⟨wpS _ (defBody st), pss_wp, ?_⟩)
  · obtain ⟨a, _, _, _, _, _, _, h, _⟩ := h
    rw [h.length, hlen]
  · obtain ⟨a, F, M, hok, eF, eM, dj, fa, rs, hq, _⟩ := h
    have e : vs.length = (args a).length := fa.length
    refine hbody cdv A outer s H E a hr hok ⟨F, M, H⟩ Tm.tt _ H _ ⟨F, M, At.entry eF eM dj ?_ trivial rs⟩ ⟨fun g l σ H' p s' => ?_, fun d l v H' p s' => hq v d l H' p s', fun _ _ _ _ h => h.elim, fun _ _ _ _ h => h.elim, fun _ _ _ _ _ _ h => h.elim⟩
    · unfold L2.start
      rw [e]
      exact Sl.args _ fa
    · obtain ⟨F', M', q⟩ := s'
      exact hq .non .non l H' p ⟨F', M', (q.tmp (T' := Tm.tt.and K .non .non) ⟨.non, trivial⟩).slots .nil⟩
theorem fn_okX {α : Type} {ok : α → Prop} {args : α → List D} {own : α → List Res} {post : α → D → List Res → Prop} {epost : α → Value → Option Addr → List Res → Prop} {x qual : Str} {st : Stmt} {f : Addr} {fd : FuncData} {N ps : List Str} {k : Nat}
    (F : Fun K x qual st f fd) (Sc : FnScope N ps (defScope st)) (hlen : ∀ a, (args a).length = ps.length)
    (hbody : ∀ (cdv : Value) (A : Around) (outer : List Env) (s : Shared) (H : Hp) (E : XK) (a : α), Room k (A.deeper (PyProof.Rows.envOfC qual (defScope st) s.heap.objs.size f cdv)) → ok a →
      Blk (cxOf (L2.CX P w) P w K mg base N qual (defScope st) f cdv A outer s H E) (fun cls d _ H => E cls d H) (defBody st) ((args a).map some ++ List.replicate (N.length - (args a).length) none) (own a) { nx := fun _ l' => post a .non l', rt := post a, ex := fun cls d _ l' => epost a cls d l' }) :
    FnOk P w K mg base (L2.CX P w) (k + 1) f fd ps (FnX K ok args own post epost) := by
  refine F.okX Sc (fun vs H Q E h => ?_) (fun cdv A outer s H vs Q E hr h => ⟨wpS _ (defBody st), pss_wp, ?_⟩)
  · obtain ⟨a, _, _, _, _, _, _, h, _⟩ := h
    rw [h.length, hlen]
  · obtain ⟨a, F, M, hok, eF, eM, dj, fa, rs, hq, he⟩ := h
    have e : vs.length = (args a).length := fa.length
    refine hbody cdv A outer s H E a hr hok ⟨F, M, H⟩ Tm.tt _ H _ ⟨F, M, At.entry eF eM dj ?_ trivial rs⟩ ⟨fun g l σ H' p s' => ?_, fun d l v H' p s' => hq v d l H' p s', fun _ _ _ _ h => h.elim, fun _ _ _ _ h => h.elim, fun cls d g l σ H' p s' => he cls d l H' p s'.slotless⟩
    · unfold L2.start
      rw [e]
      exact Sl.args _ fa
    · obtain ⟨F', M', q⟩ := s'
      exact hq .non .non l H' p ⟨F', M', (q.tmp (T' := Tm.tt.and K .non .non) ⟨.non, trivial⟩).slots .nil⟩
/-- a def of the module under its name, with its promise -/
def Glo (P : Program) (w : World) (K : PySem.W.Frag) (mg : Str → Option Value) (base : Heap) (k : Nat) (x : Str) (ps : List Str) (sp : Sp) : Prop :=
  ∃ f fd, FnOk P w K mg base CX0 k f fd ps sp ∧ mg x = some (.ref f) ∧ PySem.W.keepIn K (.ref f) = true ∧ Binds K fd ps []
/-- a class's method, with its promise -/
def GloM (P : Program) (w : World) (K : PySem.W.Frag) (mg : Str → Option Value) (base : Heap) (k : Nat) (C : Addr) (m : Str) (ps : List Str) (sp : Sp) : Prop :=
  ∃ f fd, FnOk P w K mg base CX0 k f fd ps sp ∧ Cls K C ∧ Meth K C m f ∧ Binds K fd ps []
/-- a class under its name with its __init__ -/
def GloC (P : Program) (w : World) (K : PySem.W.Frag) (mg : Str → Option Value) (base : Heap) (k : Nat) (C : Addr) (x : Str) (ps : List Str) (sp : Sp) : Prop :=
  ∃ f fd, FnOk P w K mg base CX0 k f fd ps sp ∧ Mk K C f ∧ mg x = some (.ref C) ∧ Binds K fd ps []
end

section
variable {X : Cx} {W : WX} {g g' : Gm} {l l' : List Res} {Φ : Po} {e e2 a b c o : Expr} {es : List Expr} {d d1 d2 d3 : D} {pos p p2 : Pos} {rest : List Stmt}
/-- o.m(es) is got as a method -/
abbrev MthE (X : Cx) (o : Expr) (m : Str) (apos pos : Pos) (es : List Expr) (pl : Sem Bool) : Prop := eval (.Call (.Attribute o m apos) es [] pos) X.env = (do let ov ← eval o X.env; standAt apos.atName; let (f, r) ← holding [ov] (getMethod ov m pl); callWith pos f r (backTo pos (starEach es X.env)) (backToKw pos (keywordEach [] X.env)))
/-- what a promise gives where the state is known -/
theorem FnX.use {α : Type} {ok : α → Prop} {args : α → List D} {own : α → List Res} {post : α → D → List Res → Prop} {epost : α → Value → Option Addr → List Res → Prop} {K : PySem.W.Frag} {en : En} {T : Tm} {σ : L2.St} {H : Hp} {vs : List V} {lr : List Res} {Q : VK} {E : XK}
    (a : α) (hok : ok a) (s : S K en g (T.ands K vs (args a)) (own a ++ lr) σ H) (hq : ∀ v d l' H', post a d l' → S K en g (T.and K v d) (l' ++ lr) σ H' → Q v H') (he : ∀ cls d l' H', epost a cls d l' → S K en g T (l' ++ lr) σ H' → E cls d H') :
    FnX K ok args own post epost vs H Q E := by
  obtain ⟨F, M, q⟩ := s
  obtain ⟨A, B, rfl, dj, r1, r2⟩ := q.rs.split
  refine ⟨a, F, A, hok, q.exF, q.exM.joinL, (Dj.l q.dj.sym).sym, q.tm.1, r1, fun v d l' H' hp s' => ?_, fun cls d l' H' hp s' => ?_⟩
  · obtain ⟨F2, M2, b⟩ := s'
    have z := (q.tmp (T' := T) q.tm.2).frame dj r2 b
    exact hq v d l' H' hp ⟨F2, _, z.tmp ⟨b.tm.1, z.tm⟩⟩
  · obtain ⟨F2, M2, b⟩ := s'
    have z := (q.tmp (T' := T) q.tm.2).frame dj r2 b
    exact he cls d l' H' hp ⟨F2, _, z⟩
theorem ev_call {α : Type} {ok : α → Prop} {args : α → List D} {own : α → List Res} {post : α → D → List Res → Prop} {x : Str} {ps : List Str} {k j : Nat} {lr : List Res} {Psi : D → List Res → Prop}
    (G : Glo X.prog X.w X.K X.mg X.base k x ps (FnX X.K ok args own post noE)) (hr : Room j X.A) (hj : k ≤ j) (a : α) (hok : ok a) (ha : Pa X (e :: es) g (own a ++ lr) (args a)) (hq : ∀ d l', post a d l' → Psi d (l' ++ lr))
    (hg : Gl X x := by rfl) (hdb : (x == ("__debug__" : Str)) = false := by decide) (he : starEach (e :: es) X.env = (false, eval e X.env) :: starEach es X.env := by rfl) (hpl : (backTo pos (starEach es X.env)).any (·.1) = false := by rfl) :
    Ev X (.Call (.Name x p) (e :: es) [] pos) g (own a ++ lr) Psi := fun en T σ H Q s kk => by
  obtain ⟨f, fd, F, hm, hk, hb⟩ := G
  refine wpE_of (pe_call F (hr.mono hj) hg hm hk hb .nil pass0 pa_wp hdb he hpl) ?_
  refine ha en T σ H _ s fun vs H1 s1 => ?_
  rw [List.append_nil]
  exact FnX.use a hok s1 (fun v d l' H' hp s' => kk v d _ H' (hq d l' hp) s') fun _ _ _ _ h => h.elim
theorem ev_call0 {α : Type} {ok : α → Prop} {args : α → List D} {own : α → List Res} {post : α → D → List Res → Prop} {x : Str} {ps : List Str} {k j : Nat} {lr : List Res} {Psi : D → List Res → Prop}
    (G : Glo X.prog X.w X.K X.mg X.base k x ps (FnX X.K ok args own post noE)) (hr : Room j X.A) (hj : k ≤ j) (a : α) (hok : ok a) (ha : args a = []) (hq : ∀ d l', post a d l' → Psi d (l' ++ lr))
    (hg : Gl X x := by rfl) (hdb : (x == ("__debug__" : Str)) = false := by decide) :
    Ev X (.Call (.Name x p) [] [] pos) g (own a ++ lr) Psi := fun en T σ H Q s kk => by
  obtain ⟨f, fd, F, hm, hk, hb⟩ := G
  refine wpE_of (pe_call0 F (hr.mono hj) hg hm hk hb .nil pass0 hdb) ?_
  show FnX _ _ _ _ _ _ ([] ++ []) H Q _
  have s1 : S X.K en g (T.ands X.K [] (args a)) (own a ++ lr) σ H := by
    obtain ⟨F, M, q⟩ := s
    exact ⟨F, M, q.tmp ⟨by rw [ha]; exact .nil, q.tm⟩⟩
  exact FnX.use a hok s1 (fun v d l' H' hp s' => kk v d _ H' (hq d l' hp) s') fun _ _ _ _ h => h.elim
/-- a def that changes nothing -/
theorem px_call {α : Type} {ok : α → Prop} {args : α → List D} {f : α → D} {x : Str} {ps : List Str} {k j : Nat} 
    (G : Glo X.prog X.w X.K X.mg X.base k x ps (Pu X.K ok args f)) (hr : Room j X.A) (hj : k ≤ j) (a : α) (hok : ok a) (ha : Pa X (e :: es) g l (args a))
    (hg : Gl X x := by rfl) (hdb : (x == ("__debug__" : Str)) = false := by decide) (he : starEach (e :: es) X.env = (false, eval e X.env) :: starEach es X.env := by rfl) (hpl : (backTo pos (starEach es X.env)).any (·.1) = false := by rfl) :
    Px X (.Call (.Name x p) (e :: es) [] pos) g l (f a) :=
  Ev.px (ev_call (lr := l) (own := fun _ => []) G hr hj a hok ha (fun d l' h => ⟨h.1, by rw [h.2]; rfl⟩) hg hdb he hpl)
/-- o.m(..) -/
theorem ev_meth {α : Type} {ok : α → Prop} {args : α → List D} {own : α → List Res} {post : α → D → List Res → Prop} {C : Addr} {m : Str} {ps : List Str} {k j : Nat} {lr : List Res} {Psi : D → List Res → Prop} {ds : List D} {apos : Pos} {pl : Sem Bool}
    (G : GloM X.prog X.w X.K X.mg X.base k C m ps (FnX X.K ok args own post noE)) (hr : Room j X.A) (hj : k ≤ j) (a : α) (hok : ok a) (ho : Px X o g (own a ++ lr) d1)
    (hd : ∀ F M H v, Ex F H → Ex M H → Rs (own a ++ lr) F M → Fd X.K F v d1 → ∃ q dx fs, v = .ref q ∧ H q = some (.ins C dx fs) ∧ fs.lookup m = none)
    (ha : Pa X (e :: es) g (own a ++ lr) ds) (hds : args a = d1 :: ds) (hq : ∀ d l', post a d l' → Psi d (l' ++ lr))
    (hst : starEach (e :: es) X.env = (false, eval e X.env) :: starEach es X.env := by rfl) (hpl : (backTo pos (starEach es X.env)).any (·.1) = false := by rfl)
    (ht : MthE X o m apos pos (e :: es) pl := by rfl) :
    Ev X (.Call (.Attribute o m apos) (e :: es) [] pos) g (own a ++ lr) Psi := fun en T σ H Q s kk => by
  obtain ⟨f, fd, F, hc, hm, hb⟩ := G
  refine wpE_of (pe_meth pe_wp hc hm F (hr.mono hj) hb .nil pass0 pa_wp hst hpl ht) ?_
  refine ho en T σ H _ s fun v H1 s1 => ?_
  have s1' := s1
  obtain ⟨F1, M1, q1⟩ := s1
  obtain ⟨q, dx, fs, rfl, h1, h2⟩ := hd F1 M1 H1 v q1.exF q1.exM q1.rs q1.tm.1
  refine ⟨q, dx, fs, rfl, h1, h2, ?_⟩
  refine ha en _ σ H1 _ s1' fun vs H2 s2 => ?_
  rw [List.append_nil]
  refine FnX.use a hok (T := T) (g := g) (en := en) (σ := σ) (lr := lr) ?_ (fun v d l' H' hp s' => kk v d _ H' (hq d l' hp) s') fun _ _ _ _ h => h.elim
  obtain ⟨F, M, q⟩ := s2
  exact ⟨F, M, q.tmp ⟨by rw [hds]; exact .cons q.tm.2.1 q.tm.1, q.tm.2.2⟩⟩
theorem ev_meth0 {α : Type} {ok : α → Prop} {args : α → List D} {own : α → List Res} {post : α → D → List Res → Prop} {C : Addr} {m : Str} {ps : List Str} {k j : Nat} {lr : List Res} {Psi : D → List Res → Prop} {apos : Pos} {pl : Sem Bool}
    (G : GloM X.prog X.w X.K X.mg X.base k C m ps (FnX X.K ok args own post noE)) (hr : Room j X.A) (hj : k ≤ j) (a : α) (hok : ok a) (ho : Px X o g (own a ++ lr) d1)
    (hd : ∀ F M H v, Ex F H → Ex M H → Rs (own a ++ lr) F M → Fd X.K F v d1 → ∃ q dx fs, v = .ref q ∧ H q = some (.ins C dx fs) ∧ fs.lookup m = none)
    (hds : args a = [d1]) (hq : ∀ d l', post a d l' → Psi d (l' ++ lr))
    (ht : MthE X o m apos pos [] pl := by rfl) :
    Ev X (.Call (.Attribute o m apos) [] [] pos) g (own a ++ lr) Psi := fun en T σ H Q s kk => by
  obtain ⟨f, fd, F, hc, hm, hb⟩ := G
  refine wpE_of (pe_meth0 pe_wp hc hm F (hr.mono hj) hb .nil pass0 ht) ?_
  refine ho en T σ H _ s fun v H1 s1 => ?_
  have s1' := s1
  obtain ⟨F1, M1, q1⟩ := s1
  obtain ⟨q, dx, fs, rfl, h1, h2⟩ := hd F1 M1 H1 v q1.exF q1.exM q1.rs q1.tm.1
  refine ⟨q, dx, fs, rfl, h1, h2, ?_⟩
  show FnX _ _ _ _ _ _ (V.ref q :: ([] ++ [])) H1 Q _
  refine FnX.use a hok (T := T) (g := g) (en := en) (σ := σ) (lr := lr) ?_ (fun v d l' H' hp s' => kk v d _ H' (hq d l' hp) s') fun _ _ _ _ h => h.elim
  exact ⟨F1, M1, q1.tmp ⟨by rw [hds]; exact .cons q1.tm.1 .nil, q1.tm.2⟩⟩
/-- the receiver: a frozen instance, an owned one -/
theorem rc_ins {K : PySem.W.Frag} {C : Addr} {fs : List (Str × D)} {m : Str} (h : fs.lookup m = none) : ∀ F M H v, Ex F H → Ex M H → Rs l F M → Fd K F v (.ins C fs) → ∃ q dx fs, v = .ref q ∧ H q = some (.ins C dx fs) ∧ fs.lookup m = none := fun F M H v eF eM rs f => by
  cases f with
  | ins h1 h2 => exact ⟨_, _, _, rfl, eF _ _ h1, h2.nolook h⟩
theorem rc_own {K : PySem.W.Frag} {C p : Addr} {fs : List (Str × D)} {m : Str} {k : Nat} (hk : l[k]? = some (ownI K p C fs)) (h : fs.lookup m = none) : ∀ F M H v, Ex F H → Ex M H → Rs l F M → Fd K F v (.adr p) → ∃ q dx fs, v = .ref q ∧ H q = some (.ins C dx fs) ∧ fs.lookup m = none := fun F M H v eF eM rs f => by
  cases f
  obtain ⟨dx, vs, f, hp⟩ := rs.ins hk eM
  exact ⟨p, dx, vs, rfl, hp, f.nolook h⟩
theorem px_meth {α : Type} {ok : α → Prop} {args : α → List D} {f : α → D} {C : Addr} {m : Str} {ps : List Str} {k j : Nat} {ds : List D} {apos : Pos} {pl : Sem Bool} {fs : List (Str × D)}
    (G : GloM X.prog X.w X.K X.mg X.base k C m ps (Pu X.K ok args f)) (hr : Room j X.A) (hj : k ≤ j) (a : α) (hok : ok a) (ho : Px X o g l (.ins C fs)) (hfs : fs.lookup m = none) (ha : Pa X (e :: es) g l ds) (hds : args a = .ins C fs :: ds)
    (hst : starEach (e :: es) X.env = (false, eval e X.env) :: starEach es X.env := by rfl) (hpl : (backTo pos (starEach es X.env)).any (·.1) = false := by rfl)
    (ht : MthE X o m apos pos (e :: es) pl := by rfl) : Px X (.Call (.Attribute o m apos) (e :: es) [] pos) g l (f a) :=
  Ev.px (ev_meth (lr := l) (own := fun _ => []) G hr hj a hok ho (rc_ins hfs) ha hds (fun d l' h => ⟨h.1, by rw [h.2]; rfl⟩) hst hpl ht)
theorem px_meth0 {α : Type} {ok : α → Prop} {args : α → List D} {f : α → D} {C : Addr} {m : Str} {ps : List Str} {k j : Nat} {apos : Pos} {pl : Sem Bool} {fs : List (Str × D)}
    (G : GloM X.prog X.w X.K X.mg X.base k C m ps (Pu X.K ok args f)) (hr : Room j X.A) (hj : k ≤ j) (a : α) (hok : ok a) (ho : Px X o g l (.ins C fs)) (hfs : fs.lookup m = none) (hds : args a = [.ins C fs])
    (ht : MthE X o m apos pos [] pl := by rfl) : Px X (.Call (.Attribute o m apos) [] [] pos) g l (f a) :=
  Ev.px (ev_meth0 (lr := l) (own := fun _ => []) G hr hj a hok ho (rc_ins hfs) hds (fun d l' h => ⟨h.1, by rw [h.2]; rfl⟩) ht)
/-- C(..), C with an own __init__ -/
theorem ev_make {α : Type} {ok : α → Prop} {args : α → List D} {own : α → List Res} {post : α → D → List Res → Prop} {C : Addr} {x : Str} {ps : List Str} {k j : Nat} {lr : List Res} {Psi : D → List Res → Prop} {ds : List D}
    (G : GloC X.prog X.w X.K X.mg X.base k C x ps (FnX X.K ok args own post noE)) (hr : Room j X.A) (hj : k + 1 ≤ j) (a : Addr → α) (hok : ∀ q, ok (a q)) (ha : Pa X (e :: es) g lr ds)
    (hds : ∀ q, args (a q) = .adr q :: ds) (hown : ∀ q, own (a q) = [ownI X.K q C []]) (hq : ∀ q d l', post (a q) d l' → d = .non ∧ Psi (.adr q) (l' ++ lr))
    (hg : Gl X x := by rfl) (hdb : (x == ("__debug__" : Str)) = false := by decide) (he : starEach (e :: es) X.env = (false, eval e X.env) :: starEach es X.env := by rfl) (hpl : (backTo pos (starEach es X.env)).any (·.1) = false := by rfl) :
    Ev X (.Call (.Name x p) (e :: es) [] pos) g lr Psi := fun en T σ H Q s kk => by
  obtain ⟨f, fd, F, M, hm, hb⟩ := G
  refine wpE_of (pe_make M F (hr.mono hj) hg hm hb .nil pass0 pa_wp hdb he hpl) ?_
  refine ha en T σ H _ s fun vs H1 s1 => ?_
  intro x dx nx ndx ne
  rw [List.append_nil]
  obtain ⟨F1, M1, q1⟩ := s1
  have n2 : (upd H1 dx (.own x)) x = none := by rw [upd_ne (Ne.symm ne)]; exact nx
  have q2 := q1.newO (r := ownI X.K x C []) (A := join (one x (.ins C dx [])) (one dx (.own x))) (H' := upd (upd H1 dx (.own x)) x (.ins C dx [])) ((Ex.new ndx).tr (.new n2))
    (fun y o z => by
      rcases join_some z with w | ⟨w, w'⟩
      · obtain ⟨rfl, rfl⟩ := one_some w; exact upd_same
      · obtain ⟨rfl, rfl⟩ := one_some w'
        rw [upd_ne ne, upd_same])
    (fun y o z => by
      rcases join_some z with w | ⟨w, w'⟩
      · obtain ⟨rfl, rfl⟩ := one_some w; exact nx
      · obtain ⟨rfl, rfl⟩ := one_some w'; exact ndx) ⟨[], dx, ne, .nil, rfl⟩
  have s2 : S X.K en g ((T.and X.K (.ref x) (.adr x)).ands X.K (.ref x :: vs) (args (a x))) (own (a x) ++ lr) σ (upd (upd H1 dx (.own x)) x (.ins C dx [])) := by
    rw [hown]
    exact ⟨F1, _, q2.tmp ⟨by rw [hds]; exact .cons (.adr x) q1.tm.1, .adr x, q1.tm.2⟩⟩
  refine FnX.use (a x) (hok x) s2 (fun v d l' H' hp s' => ?_) fun _ _ _ _ h => h.elim
  · obtain ⟨e1, e2⟩ := hq x d l' hp
    subst e1
    obtain ⟨F3, M3, q3⟩ := s'
    have f3 := q3.tm.1
    cases f3
    exact ⟨rfl, kk _ _ _ H' e2 ⟨F3, M3, q3.tmp q3.tm.2⟩⟩
/-- an instance just made is frozen -/
theorem Ev.frzI {C : Addr} {fs : List (Str × D)} (h : Ev X e g l (fun d' l' => ∃ p, d' = .adr p ∧ l' = ownI X.K p C fs :: l)) : Px X e g l (.ins C fs) := fun en T σ H Q s k => h en T σ H Q s fun v d l' H' p s' => by
  obtain ⟨p, rfl, rfl⟩ := p
  obtain ⟨F, M, q⟩ := s'
  have hv := q.tm.1
  cases hv
  obtain ⟨F', M', q', f, _⟩ := q.frz (P := fun F' => Fd X.K F' (.ref p) (.ins C fs)) fun A hA => by
    obtain ⟨vs, dx, n, f, rfl⟩ := hA
    have hF : F p = none := by
      obtain ⟨A, B, rfl, _, ⟨_, dx, n, _, rfl⟩, _⟩ := q.rs
      exact q.dj.sym p _ (join_l (join_l one_same))
    exact .ins (by rw [join_r hF]; exact join_l one_same) (FdFs.mono (fun x o h => join_l h) _ f)
  exact k _ H' ⟨F', M', q'.tmp ⟨f, q'.tm.2⟩⟩
/-- self.f = e, self an owned instance -/
theorem blk_fld {k : Nat} {C q : Addr} {fs : List (Str × D)} {f : Str} {pos' : Pos} (he : Px X e g l d) (ho : Px X o g l (.adr q)) (hk : l[k]? = some (ownI X.K q C fs)) (hc : Cls X.K C) (hn : NoAttr X.K C f) (hz : fs.length < 1000)
    (h : Blk X W rest g (l.set k (ownI X.K q C (putD f d fs))) Φ) (hs : swapsWith e (some (.Attribute o f pos')) pos.line X.env = pure false := by rfl) : Blk X W (.Assign [.Attribute o f pos'] e pos :: rest) g l Φ := fun en T σ H D s m => wpS_of (pss_cons (ps_fld pe_wp pe_wp hs) pss_wp) (by
  refine he en T σ H _ s fun v H1 s1 => ?_
  refine ho en _ σ H1 _ s1 fun u H2 s2 => ?_
  obtain ⟨F, M, q2⟩ := s2
  have fu := q2.tm.1
  cases fu
  obtain ⟨dx, vs, ff, hp⟩ := q2.rs.ins hk q2.exM
  refine ⟨q, C, dx, vs, rfl, hp, hc, hn, by rw [ff.length]; exact hz, ?_⟩
  obtain ⟨M', q'⟩ := (q2.tmp (T' := T) q2.tm.2.2).putI hk hp (ff.put q2.tm.2.1)
  exact h en T σ _ D ⟨F, M', q'⟩ m)
/-- an attribute of an owned instance -/
theorem px_fldO {k : Nat} {C q : Addr} {fs : List (Str × D)} {f : Str} (ho : Px X o g l (.adr q)) (hk : l[k]? = some (ownI X.K q C fs)) (hc : Cls X.K C) (hn : NoAttr X.K C f) (hl : fs.lookup f = some d) (hb : attributeBase o f X.env (eval o X.env) = eval o X.env := by rfl) : Px X (.Attribute o f pos) g l d := fun en T σ H Q s kk => wpE_of (pe_fld pe_wp hb) (by
  refine ho en T σ H _ s fun v H1 s1 => ?_
  obtain ⟨F, M, q1⟩ := s1
  obtain ⟨hf, ht⟩ := q1.tm
  cases hf
  obtain ⟨dx, vs, ff, hp⟩ := q1.rs.ins hk q1.exM
  obtain ⟨v, e1, e2⟩ := ff.look hl
  exact ⟨_, C, _, _, v, rfl, hp, hc, hn, e1, kk v H1 ⟨F, M, q1.tmp ⟨e2, ht⟩⟩⟩)

/-! ### targets -/
def setsV (σ : L2.St) : List Nat → List V → L2.St
  | i :: is, v :: vs => setsV (σ.set i (some v)) is vs
  | _, _ => σ
def sets (g : Gm) : List Nat → List D → Gm
  | i :: is, d :: ds => sets (g.set i (some d)) is ds
  | _, _ => g
theorem Sl.sets {K : PySem.W.Frag} {F : Hp} : ∀ {is : List Nat} {g : Gm} {σ : L2.St} {vs : List V} {ds : List D}, Sl K F g σ → FdAll K F vs ds → Sl K F (sets g is ds) (setsV σ is vs)
  | [], _, _, _, _, h, .nil => h
  | [], _, _, _, _, h, .cons _ _ => h
  | _ :: _, _, _, _, _, h, .nil => h
  | i :: is, _, _, _, _, h, .cons a b => Sl.sets (is := is) (h.set i a) b
/-- a target takes a datum apart into the slots is -/
def Tg (K : PySem.W.Frag) (t : TG) (is : List Nat) (d : D) (ds : List D) : Prop := ∀ F H v σ (Q : L2.St → Hp → Prop), Ex F H → Fd K F v d → (∀ vs, FdAll K F vs ds → Q (setsV σ is vs) H) → t v σ H Q
theorem tg_name {K : PySem.W.Frag} {i : Nat} : Tg K (gName i) [i] d [d] := fun F H v σ Q e f k => k [v] (.cons f .nil)
theorem tg_seq {K : PySem.W.Frag} : ∀ {is : List Nat} {ds : List D} {vs : List V} {F H : Hp} {σ : L2.St} {Q : L2.St → Hp → Prop}, is.length = ds.length → FdAll K F vs ds → Q (setsV σ is vs) H → (is.foldr (fun i t => gCons (gName i) t) gNil) vs σ H Q
  | [], [], _, _, _, _, _, _, .nil, h => ⟨rfl, h⟩
  | i :: is, d :: ds, _, _, _, σ, _, e, .cons (v := v) a b, h => ⟨_, _, rfl, tg_seq (is := is) (by simpa using e) b h⟩
  | [], _ :: _, _, _, _, _, _, e, _, _ => by cases e
  | _ :: _, [], _, _, _, _, _, e, _, _ => by cases e
theorem tg_tup {K : PySem.W.Frag} {is : List Nat} {ds : List D} {n : Nat} (h : is.length = ds.length) (hn : ds.length = n) : Tg K (gTup K n (is.foldr (fun i t => gCons (gName i) t) gNil)) is (.tup ds) ds := fun F H v σ Q e f k => by
  cases f with
  | tup s a => exact ⟨_, _, rfl, ex_t e s, by rw [a.length]; exact hn, tg_seq h a (k _ a)⟩
/-! ### walks -/
/-- the iterator J gives the data ds, one after another, while F stands -/
def JG (K : PySem.W.Frag) (F : Hp) (J : It) (ds : List D) : Prop := ∀ F' H, Ex F F' → Ex F' H → (∀ i, i < ds.length → J.go i H) ∧ J.stop ds.length H ∧ ∀ i d x H', ds[i]? = some d → J.yld i H x H' → ∃ F'', New F' H F'' H' ∧ Fd K F'' x d
def Itw (X : Cx) (tg iter : Expr) (g : Gm) (l : List Res) (ds : List D) : Prop := ∃ wi, PI X tg iter wi ∧ ∀ en T σ H (R : It → Hp → Prop), S X.K en g T l σ H → (∀ J H1 F M, At X.K en g T l σ H1 F M → JG X.K F J ds → R J H1) → wi σ H R
theorem jg_list {K : PySem.W.Frag} {F : Hp} {a : Addr} {vs : List V} {ds : List D} (s : SqL K F a vs) (f : FdAll K F vs ds) : JG K F (Itl K a) ds := fun F' H e1 e2 => by
  have s2 : SqL K H a vs := ex_l (e1.tr e2) s
  refine ⟨fun i hi => ?_, ⟨vs, s2, by rw [f.length]; exact Nat.le_refl _⟩, fun i d x H' hd hy => ?_⟩
  · have q : i < vs.length := by rw [f.length]; exact hi
    exact ⟨vs, vs[i], s2, List.getElem?_eq_getElem q⟩
  · obtain ⟨rfl, h⟩ := hy
    obtain ⟨v, h1, h2⟩ := f.get hd
    have e := h vs s2
    rw [h1] at e
    cases e
    exact ⟨F', .rf e2, h2.mono e1⟩
theorem jg_tup {K : PySem.W.Frag} {F : Hp} {a : Addr} {vs : List V} {ds : List D} (s : SqT K F a vs) (f : FdAll K F vs ds) : JG K F (Itt K a) ds := fun F' H e1 e2 => by
  have s2 : SqT K H a vs := ex_t (e1.tr e2) s
  refine ⟨fun i hi => ?_, ⟨vs, s2, by rw [f.length]; exact Nat.le_refl _⟩, fun i d x H' hd hy => ?_⟩
  · have q : i < vs.length := by rw [f.length]; exact hi
    exact ⟨vs, vs[i], s2, List.getElem?_eq_getElem q⟩
  · obtain ⟨rfl, h⟩ := hy
    obtain ⟨v, h1, h2⟩ := f.get hd
    have e := h vs s2
    rw [h1] at e
    cases e
    exact ⟨F', .rf e2, h2.mono e1⟩
theorem it_list {tg : Expr} {ds : List D} (h : Px X e g l (.lst ds)) : Itw X tg e g l ds := ⟨_, pi_list pe_wp, fun en T σ H R s k => h en T σ H _ s fun v H1 s1 => by
  obtain ⟨F, M, q⟩ := s1
  obtain ⟨f, t⟩ := q.tm
  cases f with
  | lst sq a => exact ⟨_, rfl, ⟨_, SqL.of (q.exF _ _ sq)⟩, k _ H1 F M (q.tmp t) (jg_list (SqL.of sq) a)⟩⟩
theorem it_scr {tg : Expr} {ds : List D} (h : Px X e g l (.scr ds)) : Itw X tg e g l ds := ⟨_, pi_list pe_wp, fun en T σ H R s k => h en T σ H _ s fun v H1 s1 => by
  obtain ⟨F, M, q⟩ := s1
  obtain ⟨f, t⟩ := q.tm
  cases f with
  | scr sq a => exact ⟨_, rfl, ⟨_, ex_l q.exF sq⟩, k _ H1 F M (q.tmp t) (jg_list sq a)⟩⟩
theorem it_tup {tg : Expr} {ds : List D} (h : Px X e g l (.tup ds)) : Itw X tg e g l ds := ⟨_, pi_tup pe_wp, fun en T σ H R s k => h en T σ H _ s fun v H1 s1 => by
  obtain ⟨F, M, q⟩ := s1
  obtain ⟨f, t⟩ := q.tm
  cases f with
  | tup sq a => exact ⟨_, rfl, ⟨_, ex_t q.exF sq⟩, k _ H1 F M (q.tmp t) (jg_tup sq a)⟩⟩
def rng (lo : Int) (n : Nat) : List D := (List.range n).map fun i : Nat => D.int (lo + (i : Int))
theorem rng_len {lo : Int} {n : Nat} : (rng lo n).length = n := by unfold rng; rw [List.length_map, List.length_range]
theorem rng_get {lo : Int} {n i : Nat} {d : D} (h : (rng lo n)[i]? = some d) : i < n ∧ d = .int (lo + (i : Int)) := by
  unfold rng at h
  rw [List.getElem?_map] at h
  cases q : (List.range n)[i]? with
  | none => rw [q] at h; cases h
  | some j =>
    rw [q] at h
    obtain ⟨h1, h2⟩ := List.getElem?_eq_some_iff.mp q
    rw [List.length_range] at h1
    rw [List.getElem_range] at h2
    subst h2
    exact ⟨h1, (Option.some.inj h).symm⟩
theorem jg_range {K : PySem.W.Frag} {F : Hp} {lo : Int} {n : Nat} : JG K F (L2.Itr lo n) (rng lo n) := fun F' H e1 e2 => by
  refine ⟨fun i hi => by rw [rng_len] at hi; exact hi, by show n ≤ _; rw [rng_len]; exact Nat.le_refl _, fun i d x H' hd hy => ?_⟩
  obtain ⟨rfl, rfl⟩ := hy
  obtain ⟨_, rfl⟩ := rng_get hd
  exact ⟨F', .rf e2, .int _⟩
theorem it_range {tg : Expr} {j : Int} {pp : Pos} (h : Px X e g l (.int j)) (h1 : -(2 ^ 62) ≤ j) (h2 : j < 2 ^ 62) (hm : X.mg "range" = none) (hg : Gl X "range" := by rfl) (hs : starEach [e] X.env = [(false, eval e X.env)] := by rfl) : Itw X tg (.Call (.Name "range" p) [e] [] pp) g l (rng 0 j.toNat) :=
  ⟨_, pi_range1 hg hm (pa_wp (es := [e])) hs, fun en T σ H R s k => pa_c h pa_n hs en T σ H _ s fun vs H1 s1 => by
  obtain ⟨F, M, q⟩ := s1
  obtain ⟨f, t⟩ := q.tm
  cases f with
  | cons a b =>
    cases a; cases b
    exact ⟨j, rfl, h1, h2, k _ H1 F M (q.tmp t) jg_range⟩⟩
theorem it_range2 {tg : Expr} {i j : Int} {pp : Pos} (h : Px X e g l (.int i)) (h' : Px X e2 g l (.int j)) (h1 : -(2 ^ 62) ≤ i ∧ i < 2 ^ 62 ∧ -(2 ^ 62) ≤ j ∧ j < 2 ^ 62) (hm : X.mg "range" = none) (hg : Gl X "range" := by rfl)
    (hs : starEach [e, e2] X.env = [(false, eval e X.env), (false, eval e2 X.env)] := by rfl) (hs2 : starEach [e2] X.env = [(false, eval e2 X.env)] := by rfl) : Itw X tg (.Call (.Name "range" p) [e, e2] [] pp) g l (rng i (j - i).toNat) :=
  ⟨_, pi_range2 hg hm (pa_wp (es := [e, e2])) hs hs2, fun en T σ H R s k => pa_c h (pa_c h' pa_n hs2) (by rw [hs, hs2]) en T σ H _ s fun vs H1 s1 => by
  obtain ⟨F, M, q⟩ := s1
  obtain ⟨f, t⟩ := q.tm
  cases f with
  | cons a b =>
    cases b with
    | cons b c =>
      cases a; cases b; cases c
      exact ⟨i, j, rfl, h1, k _ H1 F M (q.tmp t) jg_range⟩⟩
/-- pairs of a number and an item -/
def enumD (ds : List D) : List D := ds.zipIdx.map fun q => D.tup [.int (q.2 : Nat), q.1]
theorem enumD_len {ds : List D} : (enumD ds).length = ds.length := by unfold enumD; rw [List.length_map, List.length_zipIdx]
theorem enumD_get {ds : List D} {i : Nat} {d : D} (h : (enumD ds)[i]? = some d) : ∃ d', ds[i]? = some d' ∧ d = .tup [.int (i : Nat), d'] := by
  unfold enumD at h
  rw [List.getElem?_map, List.getElem?_zipIdx] at h
  cases q : ds[i]? with
  | none => rw [q] at h; cases h
  | some d' =>
    rw [q] at h
    refine ⟨d', rfl, ?_⟩
    have e := Option.some.inj h
    rw [← e]
    simp
theorem jg_enum {K : PySem.W.Frag} {F : Hp} {a : Addr} {vs : List V} {ds : List D} (s : SqL K F a vs) (f : FdAll K F vs ds) : JG K F (Ite K a) (enumD ds) := fun F' H e1 e2 => by
  have s2 : SqL K H a vs := ex_l (e1.tr e2) s
  refine ⟨fun i hi => ?_, ⟨vs, s2, by rw [enumD_len, f.length]; exact Nat.le_refl _⟩, fun i d x H' hd hy => ?_⟩
  · have q : i < vs.length := by rw [f.length]; rw [enumD_len] at hi; exact hi
    exact ⟨vs, vs[i], s2, List.getElem?_eq_getElem q⟩
  · obtain ⟨T, y, rfl, hT, rfl, h⟩ := hy
    obtain ⟨d', hd', rfl⟩ := enumD_get hd
    obtain ⟨v, h1, h2⟩ := f.get hd'
    have e := Option.some.inj (h1.symm.trans (h vs s2))
    subst e
    have n := New.upd (o := .tup [.int (i : Nat), v]) e2 hT
    exact ⟨_, n, .tup (SqT.of upd_same) (.cons (.int _) (.cons (h2.mono (e1.tr n.f)) .nil))⟩
theorem it_enum {elts : List Expr} {kk : Nat} {tpos pp : Pos} {ds : List D} (h : Px X e g l (.lst ds)) (hm : X.mg "enumerate" = none) (hg : Gl X "enumerate" := by rfl) (hs : starEach [e] X.env = [(false, eval e X.env)] := by rfl) : Itw X (.Tuple elts kk tpos) (.Call (.Name "enumerate" p) [e] [] pp) g l (enumD ds) :=
  ⟨_, pi_enum hg hm (pa_wp (es := [e])) hs, fun en T σ H R s k => pa_c h pa_n hs en T σ H _ s fun vs H1 s1 => by
  obtain ⟨F, M, q⟩ := s1
  obtain ⟨f, t⟩ := q.tm
  cases f with
  | cons a b =>
    cases b
    cases a with
    | lst sq a => exact ⟨_, _, rfl, SqL.of (q.exF _ _ sq), k _ H1 F M (q.tmp t) (jg_enum (SqL.of sq) a)⟩⟩
def zipD (ds es : List D) : List D := (ds.zip es).map fun q => D.tup [q.1, q.2]
theorem zipD_len {ds es : List D} : (zipD ds es).length = min ds.length es.length := by unfold zipD; rw [List.length_map, List.length_zip]
theorem zipD_get {ds es : List D} {i : Nat} {d : D} (h : (zipD ds es)[i]? = some d) : ∃ a b, ds[i]? = some a ∧ es[i]? = some b ∧ d = .tup [a, b] := by
  unfold zipD at h
  rw [List.getElem?_map] at h
  cases q : (ds.zip es)[i]? with
  | none => rw [q] at h; cases h
  | some r =>
    rw [q] at h
    obtain ⟨h1, h2⟩ := List.getElem?_zip_eq_some.mp q
    exact ⟨r.1, r.2, h1, h2, (Option.some.inj h).symm⟩
theorem jg_zip {K : PySem.W.Frag} {F : Hp} {a b : Addr} {vs ws : List V} {ds es : List D} (s : SqL K F a vs) (f : FdAll K F vs ds) (s' : SqL K F b ws) (f' : FdAll K F ws es) : JG K F (Itz K a b) (zipD ds es) := fun F' H e1 e2 => by
  have s2 : SqL K H a vs := ex_l (e1.tr e2) s
  have s3 : SqL K H b ws := ex_l (e1.tr e2) s'
  refine ⟨fun i hi => ?_, ⟨vs, ws, s2, s3, by rw [zipD_len, f.length, f'.length]; omega⟩, fun i d x H' hd hy => ?_⟩
  · rw [zipD_len] at hi
    have q : i < vs.length := by rw [f.length]; omega
    have q' : i < ws.length := by rw [f'.length]; omega
    exact ⟨vs, ws, vs[i], ws[i], s2, s3, List.getElem?_eq_getElem q, List.getElem?_eq_getElem q'⟩
  · obtain ⟨T, y, z, rfl, hT, rfl, h, h'⟩ := hy
    obtain ⟨a', b', ha, hb, rfl⟩ := zipD_get hd
    obtain ⟨v, h1, h2⟩ := f.get ha
    obtain ⟨v', h1', h2'⟩ := f'.get hb
    have e := Option.some.inj (h1.symm.trans (h vs s2))
    subst e
    have e := Option.some.inj (h1'.symm.trans (h' ws s3))
    subst e
    have n := New.upd (o := .tup [v, v']) e2 hT
    exact ⟨_, n, .tup (SqT.of upd_same) (.cons (h2.mono (e1.tr n.f)) (.cons (h2'.mono (e1.tr n.f)) .nil))⟩
theorem it_zip {elts : List Expr} {kk : Nat} {tpos pp : Pos} {ds es' : List D} (h : Px X e g l (.lst ds)) (h' : Px X e2 g l (.lst es')) (hm : X.mg "zip" = none) (hg : Gl X "zip" := by rfl) (hs : starEach [e, e2] X.env = (false, eval e X.env) :: starEach [e2] X.env := by rfl) (hs2 : starEach [e2] X.env = [(false, eval e2 X.env)] := by rfl)
    (hpl : (backTo pp (starEach [e2] X.env)).any (·.1) = false := by rfl) : Itw X (.Tuple elts kk tpos) (.Call (.Name "zip" p) [e, e2] [] pp) g l (zipD ds es') :=
  ⟨_, pi_zip hg hm (pa_wp (es := [e, e2])) hs hpl, fun en T σ H R s k => pa_c h (pa_c h' pa_n hs2) hs en T σ H _ s fun vs H1 s1 => by
  obtain ⟨F, M, q⟩ := s1
  obtain ⟨f, t⟩ := q.tm
  cases f with
  | cons a b =>
    cases b with
    | cons b c =>
      cases c
      cases a with
      | lst sq a =>
        cases b with
        | lst sq' b => exact ⟨_, _, _, _, rfl, SqL.of (q.exF _ _ sq), SqL.of (q.exF _ _ sq'), k _ H1 F M (q.tmp t) (jg_zip (SqL.of sq) a (SqL.of sq') b)⟩⟩
/-- text, sign by sign -/
def signs (x : Str) : List D := x.cps.toList.map fun c => D.str ⟨#[c]⟩
theorem it_str {tg : Expr} {x : Str} (h : Px X e g l (.str x)) : Itw X tg e g l (signs x) := ⟨_, pi_str pe_wp, fun en T σ H R s k => h en T σ H _ s fun v H1 s1 => by
  obtain ⟨F, M, q⟩ := s1
  obtain ⟨f, t⟩ := q.tm
  cases f
  refine ⟨x, rfl, k _ H1 F M (q.tmp t) fun F' H' e1 e2 => ?_⟩
  have el : (signs x).length = x.cps.size := by unfold signs; rw [List.length_map, Array.length_toList]
  refine ⟨fun i hi => by rw [el] at hi; exact hi, by show x.cps.size ≤ _; rw [el]; exact Nat.le_refl _, fun i d y H'' hd hy => ?_⟩
  obtain ⟨rfl, c, hc, rfl⟩ := hy
  unfold signs at hd
  rw [List.getElem?_map, Array.getElem?_toList, hc] at hd
  cases hd
  exact ⟨F', .rf e2, .str _⟩⟩
/-- for target in ..: body -/
theorem blk_for {tg iter : Expr} {body : List Stmt} {gt : TG} {is : List Nat} {ds : List D} (I : Nat → Gm → List Res → Prop) (hp : PassesOwn (model X.prog X.w) X.A X.env X.xe) (hc : X.calm = true) (hi : Itw X tg iter g l ds) (hg : PG X tg gt) (h0 : I 0 g l)
    (hs : ∀ i d g' l', ds[i]? = some d → I i g' l' → ∃ es, Tg X.K gt is d es ∧ Blk X W body (sets g' is es) l' { nx := I (i + 1), ct := I (i + 1), bk := fun g2 l2 => Blk X W rest g2 l2 Φ, rt := Φ.rt, ex := Φ.ex })
    (hd : ∀ g' l', I ds.length g' l' → Blk X W rest g' l' Φ) (hf : ∀ x, foldedSetIterable iter X.env x = pure x := by intro _; rfl) : Blk X W (.For tg iter body [] pos :: rest) g l Φ := fun en T σ H D s m => by
  obtain ⟨wi, pi, hw⟩ := hi
  refine wpS_of (pss_cons (ps_for hp hc pi hg pss_wp hf) pss_wp) ?_
  refine hw en T σ H _ s fun J H1 F0 M0 q0 jg => ?_
  refine ⟨fun i m σ' H' => i + m = ds.length ∧ ∃ g' l', I i g' l' ∧ S X.K en g' (T.ex F0) l' σ' H', ⟨ds.length, by simp, g, l, h0, F0, M0, q0.tmp ⟨.rf, q0.tm⟩⟩, fun i n σ' H' hW => ?_⟩
  obtain ⟨em, g', l', hI, F, M, q⟩ := hW
  obtain ⟨jgo, jst, jy⟩ := jg F H' q.tm.1 q.exF
  cases n with
  | zero =>
    have e : i = ds.length := by omega
    subst e
    exact .inl ⟨jst, hd g' l' hI en T σ' H' D ⟨F, M, q.tmp q.tm.2⟩ m⟩
  | succ n =>
    have hi : i < ds.length := by omega
    refine .inr ⟨jgo i hi, fun σ2 H2 => ∃ g2 l2, I (i + 1) g2 l2 ∧ S X.K en g2 (T.ex F0) l2 σ2 H2, fun σ2 H2 ⟨g2, l2, h1, h2⟩ => ⟨n, by omega, by omega, g2, l2, h1, h2⟩, fun x H2 hy => ?_⟩
    obtain ⟨es, htg, hb⟩ := hs i ds[i] g' l' (List.getElem?_eq_getElem hi) hI
    obtain ⟨F2, nw, fx⟩ := jy i ds[i] x H2 (List.getElem?_eq_getElem hi) hy
    have q2 := q.new nw
    refine htg F2 H2 x σ' _ q2.exF fx fun vs fvs => ?_
    refine hb en (T.ex F0) _ H2 _ ⟨F2, M, q2.slots (q2.sl.sets fvs)⟩ ⟨fun g2 l2 σ2 H2 h s2 => ⟨g2, l2, h, s2⟩, fun d l v H h s2 => ?_, fun g2 l2 σ2 H2 h s2 => ?_, fun g2 l2 σ2 H2 h s2 => ⟨g2, l2, h, s2⟩, fun cls d g l σ H h s2 => ?_⟩
    · obtain ⟨F, M, q⟩ := s2
      exact m.rt d l v H h ⟨F, M, q.tmp ⟨q.tm.1, q.tm.2.2⟩⟩
    · obtain ⟨F, M, q⟩ := s2
      exact h en T σ2 H2 D ⟨F, M, q.tmp q.tm.2⟩ m
    · obtain ⟨F, M, q⟩ := s2
      exact m.ex cls d g l σ H h ⟨F, M, q.tmp q.tm.2⟩
/-- while -/
theorem blk_while {c : Expr} {body : List Stmt} (I : Nat → Gm → List Res → Prop) (hp : PassesOwn (model X.prog X.w) X.A X.env X.xe) (n0 : Nat) (h0 : I n0 g l)
    (hs : ∀ n g' l', I n g' l' → ∃ b, Ts X c g' l' b ∧ (b = true → Blk X W body g' l' { nx := fun g2 l2 => ∃ m, m < n ∧ I m g2 l2, ct := fun g2 l2 => ∃ m, m < n ∧ I m g2 l2, bk := fun g2 l2 => Blk X W rest g2 l2 Φ, rt := Φ.rt, ex := Φ.ex }) ∧ (b = false → Blk X W rest g' l' Φ)) :
    Blk X W (.While c body [] pos :: rest) g l Φ := fun en T σ H D s m => by
  refine wpS_of (pss_cons (ps_while hp pt_wp pss_wp) pss_wp) ?_
  refine ⟨fun n σ' H' => ∃ g' l', I n g' l' ∧ S X.K en g' T l' σ' H', ⟨n0, g, l, h0, s⟩, fun n σ' H' hW => ?_⟩
  obtain ⟨g', l', hI, s'⟩ := hW
  obtain ⟨b, hc, h1, h2⟩ := hs n g' l' hI
  refine hc en T σ' H' _ s' fun H2 s2 => ?_
  cases b with
  | true =>
    refine ⟨fun σ2 H2 => ∃ k, k < n ∧ ∃ g2 l2, I k g2 l2 ∧ S X.K en g2 T l2 σ2 H2, fun σ2 H2 h => h, ?_⟩
    refine h1 rfl en T σ' H2 _ s2 ⟨fun g2 l2 σ2 H2 ⟨k, hk, h⟩ s2 => ⟨k, hk, g2, l2, h, s2⟩, m.rt, fun g2 l2 σ2 H2 h s2 => h en T σ2 H2 D s2 m, fun g2 l2 σ2 H2 ⟨k, hk, h⟩ s2 => ⟨k, hk, g2, l2, h, s2⟩, m.ex⟩
  | false => exact h2 rfl en T σ' H2 D s2 m
end
end Sx
set_option Elab.async false
set_option linter.all false
set_option maxRecDepth 100000
set_option maxHeartbeats 2000000
/-! List comprehensions. -/
namespace Sx
open PySem L2

theorem wipe_at {σ : L2.St} {j : Nat} : ∀ {vs : List Nat}, (wipe σ vs)[j]? = if j ∈ vs then (σ[j]?).map (fun _ => none) else σ[j]?
  | [] => by simp [wipe]
  | v :: vs => by
    unfold wipe
    by_cases e : v = j
    · subst e
      rw [if_pos List.mem_cons_self]
      by_cases h : v < σ.length
      · rw [List.getElem?_set_self (by rw [wipe_length]; exact h), List.getElem?_eq_getElem h]; rfl
      · rw [List.getElem?_eq_none (by rw [List.length_set, wipe_length]; omega), List.getElem?_eq_none (by omega)]; rfl
    · rw [List.getElem?_set_ne e, wipe_at (vs := vs)]
      have q : j ∈ v :: vs ↔ j ∈ vs := by
        rw [List.mem_cons]
        exact ⟨fun h => h.elim (fun z => absurd z.symm e) id, .inr⟩
      by_cases z : j ∈ vs
      · rw [if_pos z, if_pos (q.mpr z)]
      · rw [if_neg z, if_neg (fun y => z (q.mp y))]
theorem wipe_set {σ : L2.St} {vs : List Nat} {i : Nat} {x : Option V} (h : i ∈ vs) : wipe (σ.set i x) vs = wipe σ vs := by
  apply List.ext_getElem?
  intro j
  rw [wipe_at, wipe_at]
  by_cases z : j ∈ vs
  · rw [if_pos z, if_pos z]
    by_cases e : i = j
    · subst e
      by_cases q : i < σ.length
      · rw [List.getElem?_set_self q, List.getElem?_eq_getElem q]; rfl
      · rw [List.getElem?_eq_none (by rw [List.length_set]; omega), List.getElem?_eq_none (by omega)]
    · rw [List.getElem?_set_ne e]
  · rw [if_neg z, if_neg z]
    rw [List.getElem?_set_ne (fun e => z (by rw [← e]; exact h))]
theorem wipe_wipe {σ : L2.St} {vs : List Nat} : wipe (wipe σ vs) vs = wipe σ vs := by
  apply List.ext_getElem?
  intro j
  rw [wipe_at, wipe_at]
  by_cases z : j ∈ vs
  · rw [if_pos z, if_pos z]; cases σ[j]? <;> rfl
  · rw [if_neg z, if_neg z]
theorem wipe_sets {vs : List Nat} : ∀ {is : List Nat} {ws : List V} {σ : L2.St}, (∀ i ∈ is, i ∈ vs) → wipe (setsV σ is ws) vs = wipe σ vs
  | [], _, _, _ => by unfold setsV; rfl
  | _ :: _, [], _, _ => by unfold setsV; rfl
  | i :: is, w :: ws, σ, h => by
    unfold setsV
    rw [wipe_sets (is := is) fun j hj => h j (List.mem_cons_of_mem _ hj), wipe_set (h i List.mem_cons_self)]
def wipeG (g : Gm) : List Nat → Gm
  | [] => g
  | v :: vs => (wipeG g vs).set v none
theorem Sl.wipe {K : PySem.W.Frag} {F : Hp} {g : Gm} {σ : L2.St} (h : Sl K F g σ) : ∀ vs, Sl K F (wipeG g vs) (L2.wipe σ vs)
  | [] => h
  | v :: vs => by
    unfold wipeG L2.wipe
    exact (Sl.wipe h vs).clear v
section
variable {X : Cx} {W : WX} {g g' : Gm} {l l' : List Res} {Φ : Po} {e e2 a b c o : Expr} {es : List Expr} {d d1 d2 d3 : D} {pos p p2 : Pos} {rest : List Stmt}
/-- a part that is owned and not touched -/
theorem S.fr {K : PySem.W.Frag} {en : En} {T : Tm} {r : Res} {σ : L2.St} {H : Hp} (s : S K en g T (r :: l) σ H) : ∃ en', S K en' g T l σ H ∧ ∀ {T' : Tm} {H' : Hp} {g' : Gm} {σ' : L2.St}, S K en' g' T' l σ' H' → S K en g' T' (r :: l) σ' H' := by
  obtain ⟨F, M, q⟩ := s
  obtain ⟨A, B, rfl, dj, p, rs⟩ := q.rs
  refine ⟨⟨F, B, H⟩, ⟨F, B, At.entry q.exF (q.exM.joinR dj) (Dj.r dj q.dj.sym).sym q.sl q.tm rs⟩, fun {T'} {H'} {g'} {σ'} ⟨F2, M2, b⟩ => ?_⟩
  have e : join A B = join B A := dj.comm
  rw [e] at q
  have z := q.frame (lB := [r]) dj.sym ⟨A, emp, (join_emp A).symm, Dj.emp A, p, rfl⟩ b
  have z2 : At K en g' T' (l ++ [r]) σ' H' F2 (join M2 A) := (z.tmp b.tm).slots b.sl
  exact S.perm (List.perm_append_singleton r l) ⟨F2, _, z2⟩
theorem Px.fr {r : Res} (h : Px X e g l d) : Px X e g (r :: l) d := fun en T σ H Q s k => by
  obtain ⟨en', s', back⟩ := s.fr
  exact h en' T σ H Q s' fun v H' s2 => k v H' (back s2)
theorem Ts.fr {r : Res} {k : Bool} (h : Ts X e g l k) : Ts X e g (r :: l) k := fun en T σ H Q s kk => by
  obtain ⟨en', s', back⟩ := s.fr
  exact h en' T σ H Q s' fun H' s2 => kk H' (back s2)
/-- the slots as they stood -/
def Tm.sl (K : PySem.W.Frag) (T : Tm) (g : Gm) (σ : L2.St) : Tm := ⟨fun F => Sl K F g σ ∧ T.P F, fun e h => ⟨h.1.mono e, T.mono e h.2⟩⟩
/-- what is kept -/
def keepL (rs : List (Option D)) : List D := rs.filterMap id
theorem keepL_some {rs : List D} : keepL (rs.map some) = rs := by
  unfold keepL
  rw [List.filterMap_map]
  show List.filterMap (fun x => some x) rs = rs
  rw [List.filterMap_some]
theorem keepL_len {rs : List (Option D)} : (keepL rs).length ≤ rs.length := List.length_filterMap_le _ _
abbrev Blkc (X : Cx) (scope : Scope) (Pp : Cx → Prop) : Prop := ∀ (s : Shared) (H : Hp) (C : Addr) (cl : List (Str × Addr)) (fp : List Addr), Pp (X.blk s H scope (compEnvC scope cl C X.env) fp)
/-- the reading of a comprehension -/
theorem lc_read {own : List (Str × Nat)} {gt : TG} {is : List Nat} {ds : List D} {rs : List (Option D)} {wi : TI} {te : TE} {tt : TT}
    (hw : ∀ en T σ H (R : It → Hp → Prop), S X.K en g T l σ H → (∀ J H1 F M, At X.K en g T l σ H1 F M → JG X.K F J ds → R J H1) → wi σ H R)
    (his : ∀ i ∈ is, i ∈ own.map (·.2)) (hlen : rs.length = ds.length) (hz : rs.length ≤ sizeLine)
    (hs : ∀ (i : Nat) (d : D), ds[i]? = some d → ∃ es k r, Tg X.K gt is d es ∧ rs[i]? = some (if k = true then some r else none) ∧
      (∀ r0 en T σ H (Q : Bool → Hp → Prop), S X.K en (sets (wipeG g (own.map (·.2))) is es) T (r0 :: l) σ H → (∀ H', S X.K en (sets (wipeG g (own.map (·.2))) is es) T (r0 :: l) σ H' → Q k H') → tt σ H Q) ∧
      (k = true → ∀ r0 en T σ H (Q : VK), S X.K en (sets (wipeG g (own.map (·.2))) is es) T (r0 :: l) σ H → (∀ v H', S X.K en (sets (wipeG g (own.map (·.2))) is es) (T.and X.K v r) (r0 :: l) σ H' → Q v H') → te σ H Q))
    {en : En} {T : Tm} {σ : L2.St} {H : Hp} {Q : VK} (s : S X.K en g T l σ H) (kk : ∀ p H', S X.K en g T (ownL X.K p (keepL rs) :: l) σ H' → Q (.ref p) H') : tLc wi gt tt te (own.map (·.2)) σ H Q := by
  refine hw en T σ H _ s fun J H1 F0 M0 q0 jg => ?_
  intro Dl hD
  refine ⟨fun i m H' => i + m = ds.length ∧ S X.K en (wipeG g (own.map (·.2))) ((T.sl X.K g σ).ex F0) (ownL X.K Dl (keepL (rs.take i)) :: l) (L2.wipe σ (own.map (·.2))) H', ⟨ds.length, by simp, ?_⟩, fun i m H' hW => ?_⟩
  · have q1 := q0.newO (r := ownL X.K Dl []) (A := one Dl (.lst [])) (H' := upd H1 Dl (.lst [])) (.new hD) (fun x o z => by obtain ⟨rfl, rfl⟩ := one_some z; exact upd_same) (fun x o z => by obtain ⟨rfl, rfl⟩ := one_some z; exact hD) ⟨[], .nil, rfl⟩
    rw [List.take_zero]
    exact ⟨F0, _, (q1.tmp (T' := (T.sl X.K g σ).ex F0) ⟨.rf, q0.sl, q0.tm⟩).slots (q0.sl.wipe _)⟩
  · obtain ⟨em, F, M, q⟩ := hW
    obtain ⟨jgo, jst, jy⟩ := jg F H' q.tm.1 q.exF
    cases m with
    | zero =>
      have e : i = ds.length := by omega
      subst e
      refine .inl ⟨jst, kk Dl H' ⟨F, M, ?_⟩⟩
      rw [List.take_of_length_le (by omega)] at q
      exact (q.tmp (T' := T) q.tm.2.2).slots q.tm.2.1
    | succ m =>
      have hi : i < ds.length := by omega
      refine .inr ⟨jgo i hi, fun H2 => S X.K en (wipeG g (own.map (·.2))) ((T.sl X.K g σ).ex F0) (ownL X.K Dl (keepL (rs.take (i + 1))) :: l) (L2.wipe σ (own.map (·.2))) H2, fun H2 h => ⟨m, by omega, by omega, h⟩, fun x H2 hy => ?_⟩
      obtain ⟨es, b, r, htg, hr, ht, he⟩ := hs i ds[i] (List.getElem?_eq_getElem hi)
      obtain ⟨F2, nw, fx⟩ := jy i ds[i] x H2 (List.getElem?_eq_getElem hi) hy
      have q2 := q.new nw
      refine htg F2 H2 x _ _ q2.exF fx fun vs fvs => ?_
      refine ⟨by rw [wipe_sets his, wipe_wipe], ?_⟩
      have et : rs.take (i + 1) = rs.take i ++ [if b = true then some r else none] := by
        rw [List.take_add_one, hr]; rfl
      refine ht _ en ((((T.sl X.K g σ).ex F0)).sl X.K (wipeG g (own.map (·.2))) (L2.wipe σ (own.map (·.2)))) _ H2 _ ⟨F2, M, (q2.tmp (T' := (((T.sl X.K g σ).ex F0)).sl X.K (wipeG g (own.map (·.2))) (L2.wipe σ (own.map (·.2)))) ⟨q2.sl, q2.tm⟩).slots (q2.sl.sets fvs)⟩ fun H3 s3 => ?_
      cases b with
      | false =>
        show S X.K en _ _ _ _ H3
        obtain ⟨F3, M3, q3⟩ := s3
        rw [et]
        have e2 : keepL (rs.take i ++ [if false = true then some r else none]) = keepL (rs.take i) := by
          unfold keepL
          rw [List.filterMap_append]
          show _ ++ [] = _
          rw [List.append_nil]
        rw [e2]
        exact ⟨F3, M3, (q3.tmp q3.tm.2).slots q3.tm.1⟩
      | true =>
        show te _ H3 _
        refine he rfl _ en _ _ H3 _ s3 fun v H4 s4 => ?_
        obtain ⟨F4, M4, q4⟩ := s4
        obtain ⟨ws, fw, hp⟩ := q4.rs.own (k := 0) rfl q4.exM
        refine ⟨ws, hp, ?_, ?_⟩
        · rw [fw.length]
          have h1 := keepL_len (rs := rs.take i)
          rw [List.length_take] at h1
          omega
        · obtain ⟨M5, q5⟩ := (q4.tmp q4.tm.2).putL (k := 0) rfl (fw.app (.cons q4.tm.1 .nil))
          rw [et]
          have e2 : keepL (rs.take i ++ [if true = true then some r else none]) = keepL (rs.take i) ++ [r] := by
            unfold keepL
            rw [List.filterMap_append]
            rfl
          rw [e2]
          exact ⟨F4, M5, (q5.tmp q5.tm.2).slots q5.tm.1⟩
def teB (X : Cx) (scope : Scope) (e : Expr) : TE := fun σ H Q => Blkc X scope fun Y => wpE Y e σ H Q
def ttB (X : Cx) (scope : Scope) (e : Expr) : TT := fun σ H Q => Blkc X scope fun Y => wpT Y e σ H Q
theorem teB_pe {scope : Scope} : ∀ (s : Shared) (H : Hp) (C : Addr) (cl : List (Str × Addr)) (fp : List Addr), PE (X.blk s H scope (compEnvC scope cl C X.env) fp) e (teB X scope e) := fun s H C cl fp => ⟨fun pins s' σ H' Q I h => h s H C cl fp pins s' I⟩
theorem ttB_pt {scope : Scope} : ∀ (s : Shared) (H : Hp) (C : Addr) (cl : List (Str × Addr)) (fp : List Addr), PT (X.blk s H scope (compEnvC scope cl C X.env) fp) e (ttB X scope e) := fun s H C cl fp => ⟨fun pins s' σ H' Q I h => h s H C cl fp pins s' I⟩
/-- [elt for tg in iter], a new list -/
theorem ev_lc {tg iter elt : Expr} {scope : Scope} {own : List (Str × Nat)} {gt : TG} {is : List Nat} {ds rs : List D} (hc : X.calm = true) (hN : X.N.Nodup) (hi : Itw X tg iter g l ds) (ok : BlkOk X.N X.env.scope scope own)
    (hg : Blkc X scope fun Y => PG Y tg gt) (his : ∀ i ∈ is, i ∈ own.map (·.2)) (hlen : rs.length = ds.length) (hz : rs.length ≤ sizeLine)
    (hs : ∀ (i : Nat) (d : D), ds[i]? = some d → ∃ es r, Tg X.K gt is d es ∧ rs[i]? = some r ∧ Blkc X scope fun Y => Px Y elt (sets (wipeG g (own.map (·.2))) is es) l r) (hf : ∀ x, foldedSetIterable iter X.env x = pure x := by intro _; rfl) :
    Ev X (.ListComp elt [⟨tg, iter, [], 0⟩] scope pos) g l (fun d' l' => ∃ p, d' = .adr p ∧ l' = ownL X.K p rs :: l) := fun en T σ H Q s k => by
  obtain ⟨wi, pi, hw⟩ := hi
  refine wpE_of (pe_lc hc hN pi ok hg (fun _ _ _ _ _ => pts_nil) teB_pe hf) ?_
  refine lc_read (rs := rs.map some) hw his (by rw [List.length_map]; exact hlen) (by rw [List.length_map]; exact hz) (fun i d hd => ?_) s fun p H' s' => ?_
  · obtain ⟨es, r, h1, h2, h3⟩ := hs i d hd
    refine ⟨es, true, r, h1, by rw [List.getElem?_map, h2]; rfl, fun r0 en T σ H Q s kk => kk H s, fun _ r0 en T σ H Q s kk => ?_⟩
    intro s0 H0 C cl fp
    exact (h3 s0 H0 C cl fp).fr en T σ H Q s kk
  · rw [keepL_some] at s'
    obtain ⟨F, M, q⟩ := s'
    exact k _ _ _ H' ⟨p, rfl, rfl⟩ ⟨F, M, q.tmp ⟨.adr p, q.tm⟩⟩
theorem px_lc {tg iter elt : Expr} {scope : Scope} {own : List (Str × Nat)} {gt : TG} {is : List Nat} {ds rs : List D} (hc : X.calm = true) (hN : X.N.Nodup) (hi : Itw X tg iter g l ds) (ok : BlkOk X.N X.env.scope scope own)
    (hg : Blkc X scope fun Y => PG Y tg gt) (his : ∀ i ∈ is, i ∈ own.map (·.2)) (hlen : rs.length = ds.length) (hz : rs.length ≤ sizeLine)
    (hs : ∀ (i : Nat) (d : D), ds[i]? = some d → ∃ es r, Tg X.K gt is d es ∧ rs[i]? = some r ∧ Blkc X scope fun Y => Px Y elt (sets (wipeG g (own.map (·.2))) is es) l r) (hf : ∀ x, foldedSetIterable iter X.env x = pure x := by intro _; rfl) :
    Px X (.ListComp elt [⟨tg, iter, [], 0⟩] scope pos) g l (.lst rs) := (ev_lc hc hN hi ok hg his hlen hz hs hf).frz
/-- [elt for tg in iter if c] -/
theorem ev_lcIf {tg iter elt : Expr} {scope : Scope} {own : List (Str × Nat)} {gt : TG} {is : List Nat} {ds : List D} {rs : List (Option D)} (hc : X.calm = true) (hN : X.N.Nodup) (hi : Itw X tg iter g l ds) (ok : BlkOk X.N X.env.scope scope own)
    (hg : Blkc X scope fun Y => PG Y tg gt) (his : ∀ i ∈ is, i ∈ own.map (·.2)) (hlen : rs.length = ds.length) (hz : rs.length ≤ sizeLine)
    (hs : ∀ (i : Nat) (d : D), ds[i]? = some d → ∃ es k r, Tg X.K gt is d es ∧ rs[i]? = some (if k = true then some r else none) ∧ (Blkc X scope fun Y => Ts Y c (sets (wipeG g (own.map (·.2))) is es) l k) ∧ (k = true → Blkc X scope fun Y => Px Y elt (sets (wipeG g (own.map (·.2))) is es) l r)) (hf : ∀ x, foldedSetIterable iter X.env x = pure x := by intro _; rfl) :
    Ev X (.ListComp elt [⟨tg, iter, [c], 0⟩] scope pos) g l (fun d' l' => ∃ p, d' = .adr p ∧ l' = ownL X.K p (keepL rs) :: l) := fun en T σ H Q s k => by
  obtain ⟨wi, pi, hw⟩ := hi
  refine wpE_of (pe_lc hc hN pi ok hg (fun s H C cl fp => pts_one (ttB_pt s H C cl fp)) teB_pe hf) ?_
  refine lc_read (rs := rs) hw his hlen hz (fun i d hd => ?_) s fun p H' s' => ?_
  · obtain ⟨es, b, r, h1, h2, h3, h4⟩ := hs i d hd
    refine ⟨es, b, r, h1, h2, fun r0 en T σ H Q s kk => ?_, fun hb r0 en T σ H Q s kk => ?_⟩
    · intro s0 H0 C cl fp
      exact (h3 s0 H0 C cl fp).fr en T σ H Q s kk
    · intro s0 H0 C cl fp
      exact (h4 hb s0 H0 C cl fp).fr en T σ H Q s kk
  · obtain ⟨F, M, q⟩ := s'
    exact k _ _ _ H' ⟨p, rfl, rfl⟩ ⟨F, M, q.tmp ⟨.adr p, q.tm⟩⟩
theorem px_lcIf {tg iter elt : Expr} {scope : Scope} {own : List (Str × Nat)} {gt : TG} {is : List Nat} {ds : List D} {rs : List (Option D)} (hc : X.calm = true) (hN : X.N.Nodup) (hi : Itw X tg iter g l ds) (ok : BlkOk X.N X.env.scope scope own)
    (hg : Blkc X scope fun Y => PG Y tg gt) (his : ∀ i ∈ is, i ∈ own.map (·.2)) (hlen : rs.length = ds.length) (hz : rs.length ≤ sizeLine)
    (hs : ∀ (i : Nat) (d : D), ds[i]? = some d → ∃ es k r, Tg X.K gt is d es ∧ rs[i]? = some (if k = true then some r else none) ∧ (Blkc X scope fun Y => Ts Y c (sets (wipeG g (own.map (·.2))) is es) l k) ∧ (k = true → Blkc X scope fun Y => Px Y elt (sets (wipeG g (own.map (·.2))) is es) l r)) (hf : ∀ x, foldedSetIterable iter X.env x = pure x := by intro _; rfl) :
    Px X (.ListComp elt [⟨tg, iter, [c], 0⟩] scope pos) g l (.lst (keepL rs)) := (ev_lcIf hc hN hi ok hg his hlen hz hs hf).frz
/-- x = [..] on one line, x a local name -/
theorem blk_setLcX {tg iter elt : Expr} {ifs : List Expr} {scope : Scope} {own : List (Str × Nat)} {i : Nat} {y : Str} {py spos : Pos} {Psi : D → List Res → Prop} {wi : TI} {gt : TG} {tt : TT} {te : TE}
    (hps : PS X (.Assign [.Name y py] (.ListComp elt [⟨tg, iter, ifs, 0⟩] scope pos) spos) (tAsg (tLc wi gt tt te (own.map (·.2))) (gName i)))
    (hr : ∀ en T σ H (Q : VK), S X.K en g T l σ H → (∀ v d l' H', Psi d l' → S X.K en g (T.and X.K v d) l' σ H' → Q v H') → tLc wi gt tt te (own.map (·.2)) σ H Q)
    (h : ∀ d l', Psi d l' → Blk X W rest (g.set i (some d)) l' Φ) : Blk X W (.Assign [.Name y py] (.ListComp elt [⟨tg, iter, ifs, 0⟩] scope pos) spos :: rest) g l Φ := fun en T σ H D s m => wpS_of (pss_cons hps pss_wp) (by
  show tLc wi gt tt te (own.map (·.2)) σ H (fun x H1 => gName i x σ H1 (wpS X rest D))
  refine hr en T σ H _ s fun v d l' H' p s' => ?_
  obtain ⟨F, M, a⟩ := s'
  exact h d l' p en T (σ.set i (some v)) H' D ⟨F, M, (a.tmp a.tm.2).slots (a.sl.set i a.tm.1)⟩ m)
theorem blk_setLcO {tg iter elt : Expr} {scope : Scope} {own : List (Str × Nat)} {gt : TG} {is : List Nat} {ds rs : List D} {i : Nat} {y : Str} {py spos : Pos} (hc : X.calm = true) (hN : X.N.Nodup) (hy : X.N[i]? = some y) (hyl : X.env.scope.names.lookup y = some .local)
    (hsw : swapsWith (.ListComp elt [⟨tg, iter, [], 0⟩] scope pos) (some (.Name y py)) spos.line X.env = pure true) (hi : Itw X tg iter g l ds) (ok : BlkOk X.N X.env.scope scope own)
    (hg : Blkc X scope fun Y => PG Y tg gt) (his : ∀ i ∈ is, i ∈ own.map (·.2)) (hlen : rs.length = ds.length) (hz : rs.length ≤ sizeLine)
    (hs : ∀ (i : Nat) (d : D), ds[i]? = some d → ∃ es r, Tg X.K gt is d es ∧ rs[i]? = some r ∧ Blkc X scope fun Y => Px Y elt (sets (wipeG g (own.map (·.2))) is es) l r)
    (h : ∀ p, Blk X W rest (g.set i (some (.adr p))) (ownL X.K p rs :: l) Φ) (hf : ∀ x, foldedSetIterable iter X.env x = pure x := by intro _; rfl) : Blk X W (.Assign [.Name y py] (.ListComp elt [⟨tg, iter, [], 0⟩] scope pos) spos :: rest) g l Φ := by
  obtain ⟨wi, pi, hw⟩ := hi
  refine blk_setLcX (Psi := fun d' l' => ∃ p, d' = .adr p ∧ l' = ownL X.K p rs :: l) (ps_setLc hc hN hy hyl hsw pi ok hg (fun _ _ _ _ _ => pts_nil) teB_pe hf) (fun en T σ H Q s k => ?_) fun d l' ⟨p, e1, e2⟩ => by subst e1; subst e2; exact h p
  refine lc_read (rs := rs.map some) hw his (by rw [List.length_map]; exact hlen) (by rw [List.length_map]; exact hz) (fun i d hd => ?_) s fun p H' s' => ?_
  · obtain ⟨es, r, h1, h2, h3⟩ := hs i d hd
    refine ⟨es, true, r, h1, by rw [List.getElem?_map, h2]; rfl, fun r0 en T σ H Q s kk => kk H s, fun _ r0 en T σ H Q s kk => ?_⟩
    intro s0 H0 C cl fp
    exact (h3 s0 H0 C cl fp).fr en T σ H Q s kk
  · rw [keepL_some] at s'
    obtain ⟨F, M, q⟩ := s'
    exact k _ _ _ H' ⟨p, rfl, rfl⟩ ⟨F, M, q.tmp ⟨.adr p, q.tm⟩⟩
theorem blk_setLcIfO {tg iter elt : Expr} {scope : Scope} {own : List (Str × Nat)} {gt : TG} {is : List Nat} {ds : List D} {rs : List (Option D)} {i : Nat} {y : Str} {py spos : Pos} (hc : X.calm = true) (hN : X.N.Nodup) (hy : X.N[i]? = some y) (hyl : X.env.scope.names.lookup y = some .local)
    (hsw : swapsWith (.ListComp elt [⟨tg, iter, [c], 0⟩] scope pos) (some (.Name y py)) spos.line X.env = pure true) (hi : Itw X tg iter g l ds) (ok : BlkOk X.N X.env.scope scope own)
    (hg : Blkc X scope fun Y => PG Y tg gt) (his : ∀ i ∈ is, i ∈ own.map (·.2)) (hlen : rs.length = ds.length) (hz : rs.length ≤ sizeLine)
    (hs : ∀ (i : Nat) (d : D), ds[i]? = some d → ∃ es k r, Tg X.K gt is d es ∧ rs[i]? = some (if k = true then some r else none) ∧ (Blkc X scope fun Y => Ts Y c (sets (wipeG g (own.map (·.2))) is es) l k) ∧ (k = true → Blkc X scope fun Y => Px Y elt (sets (wipeG g (own.map (·.2))) is es) l r))
    (h : ∀ p, Blk X W rest (g.set i (some (.adr p))) (ownL X.K p (keepL rs) :: l) Φ) (hf : ∀ x, foldedSetIterable iter X.env x = pure x := by intro _; rfl) : Blk X W (.Assign [.Name y py] (.ListComp elt [⟨tg, iter, [c], 0⟩] scope pos) spos :: rest) g l Φ := by
  obtain ⟨wi, pi, hw⟩ := hi
  refine blk_setLcX (Psi := fun d' l' => ∃ p, d' = .adr p ∧ l' = ownL X.K p (keepL rs) :: l) (ps_setLc hc hN hy hyl hsw pi ok hg (fun s H C cl fp => pts_one (ttB_pt s H C cl fp)) teB_pe hf) (fun en T σ H Q s k => ?_) fun d l' ⟨p, e1, e2⟩ => by subst e1; subst e2; exact h p
  refine lc_read (rs := rs) hw his hlen hz (fun i d hd => ?_) s fun p H' s' => ?_
  · obtain ⟨es, b, r, h1, h2, h3, h4⟩ := hs i d hd
    refine ⟨es, b, r, h1, h2, fun r0 en T σ H Q s kk => ?_, fun hb r0 en T σ H Q s kk => ?_⟩
    · intro s0 H0 C cl fp
      exact (h3 s0 H0 C cl fp).fr en T σ H Q s kk
    · intro s0 H0 C cl fp
      exact (h4 hb s0 H0 C cl fp).fr en T σ H Q s kk
  · obtain ⟨F, M, q⟩ := s'
    exact k _ _ _ H' ⟨p, rfl, rfl⟩ ⟨F, M, q.tmp ⟨.adr p, q.tm⟩⟩
end
end Sx
set_option Elab.async false
set_option linter.all false
set_option maxRecDepth 100000
set_option maxHeartbeats 2000000
/-! What a text's top has written; a law's own end. -/
namespace Sx
open PySem L2
/-- a def of the module | a method | a class | a class with its __init__ -/
def Dfn (K : PySem.W.Frag) (mg : Str → Option Value) (x : Str) (st : Stmt) : Prop := ∃ f fd, Fun K x x st f fd ∧ mg x = some (.ref f)
def Dmt (K : PySem.W.Frag) (C : Addr) (m qual : Str) (st : Stmt) : Prop := ∃ f fd, Fun K m qual st f fd ∧ Meth K C m f
def Din (K : PySem.W.Frag) (C : Addr) (qual : Str) (st : Stmt) : Prop := ∃ f fd, Fun K "__init__" qual st f fd ∧ Mk K C f
structure Dcl (K : PySem.W.Frag) (mg : Str → Option Value) (x : Str) (C : Addr) : Prop where
  mg : mg x = some (.ref C)
  cl : Cls K C
  kp : PySem.W.keepIn K (.ref C) = true
/-- an own class that isinstance may be asked about -/
structure Isi (K : PySem.W.Frag) (C : Addr) : Prop where
  (ha : PySem.W.findIn K (.ref C) "__class__" = some (some (.builtin "object.__class__"))) (hn : PySem.W.specialIn K (.builtin "object.__class__") "__get__" = some (some (.builtin "getset_descriptor.__get__")))
  (htk : PySem.W.takesIn K (.builtin "object.__class__") = some true) (hm : PySem.W.mroIn K C (.type "object") = some true)
section
variable {K : PySem.W.Frag} {h : Heap} {mg : Str → Option Value} {C f : Addr} {x m qual : Str} {st : Stmt} {oc kV doc pm cdv ct : Value} {od an : Option Addr} {osl : Array (Option Value)}
theorem dfn_mk (X : K.In h) (G : h.Ns mainGlobals mg) (a : PySem.W.nsIn K mainGlobals x = some (some (.ref f))) (l : K.lookup f = some ⟨oc, od, .func (PySem.W.fnOf x x (defArgs st) (defBody st) (defScope st) .none kV doc pm an cdv ct), osl⟩) (c : PySem.W.codeIn K cdv x = true) (k : PySem.W.keepIn K (.ref f) = true) : Dfn K mg x st :=
  ⟨f, _, fun_mk l c k, PySem.W.mg_of X G a⟩
theorem dmt_mk (a : PySem.W.findIn K (.ref C) m = some (some (.ref f))) (i : PySem.W.isFn K (.ref f) = true) (l : K.lookup f = some ⟨oc, od, .func (PySem.W.fnOf m qual (defArgs st) (defBody st) (defScope st) .none kV doc pm an cdv ct), osl⟩) (c : PySem.W.codeIn K cdv qual = true) (k : PySem.W.keepIn K (.ref f) = true) : Dmt K C m qual st :=
  ⟨f, _, fun_mk l c k, ⟨a, i, k⟩⟩
theorem din_mk (mk : PySem.W.makesIn K C = true) (kc : PySem.W.keepIn K (.ref C) = true) (a : PySem.W.findIn K (.ref C) "__init__" = some (some (.ref f))) (i : PySem.W.isFn K (.ref f) = true) (l : K.lookup f = some ⟨oc, od, .func (PySem.W.fnOf "__init__" qual (defArgs st) (defBody st) (defScope st) .none kV doc pm an cdv ct), osl⟩) (c : PySem.W.codeIn K cdv qual = true) (k : PySem.W.keepIn K (.ref f) = true) : Din K C qual st :=
  ⟨f, _, fun_mk l c k, ⟨mk, a, i, kc⟩⟩
theorem dcl_mk (X : K.In h) (G : h.Ns mainGlobals mg) (a : PySem.W.nsIn K mainGlobals x = some (some (.ref C))) (pg : PySem.W.plainGet K C Str.empty = true) (hd : PySem.W.hasDictIn K C = true) (po : PySem.W.plainOver K C = true) (sa : PySem.W.findIn K (.ref C) "__setattr__" = some (some (.builtin "object.__setattr__"))) (k : PySem.W.keepIn K (.ref C) = true) : Dcl K mg x C :=
  ⟨PySem.W.mg_of X G a, ⟨pg, hd, po, sa⟩, k⟩
end
section
variable {P : Program} {w : World} {K : PySem.W.Frag} {mg : Str → Option Value} {base : Heap} {k : Nat} {x m qual : Str} {st : Stmt} {ps : List Str} {sp : Sp} {C : Addr}
abbrev Bnd (x qual : Str) (st : Stmt) (ps : List Str) : Prop := ∀ (kV doc pm : Value) (an : Option Addr) (cdv ct : Value) (us : List Value), us.length = ps.length → bindArgs (PySem.W.fnOf x qual (defArgs st) (defBody st) (defScope st) .none kV doc pm an cdv ct) ⟨us, []⟩ = pure (ps.zip us)
theorem glo_of (d : Dfn K mg x st) (b : Bnd x x st ps) (h : ∀ f fd, Fun K x x st f fd → FnOk P w K mg base CX0 k f fd ps sp) : Glo P w K mg base k x ps sp := by
  obtain ⟨f, fd, F, hm⟩ := d
  exact ⟨f, fd, h f fd F, hm, F.kp, F.binds b⟩
theorem glom_of (d : Dmt K C m qual st) (c : Cls K C) (b : Bnd m qual st ps) (h : ∀ f fd, Fun K m qual st f fd → FnOk P w K mg base CX0 k f fd ps sp) : GloM P w K mg base k C m ps sp := by
  obtain ⟨f, fd, F, hm⟩ := d
  exact ⟨f, fd, h f fd F, c, hm, F.binds b⟩
theorem gloc_of (d : Din K C qual st) (c : Dcl K mg x C) (b : Bnd "__init__" qual st ps) (h : ∀ f fd, Fun K "__init__" qual st f fd → FnOk P w K mg base CX0 k f fd ps sp) : GloC P w K mg base k C x ps sp := by
  obtain ⟨f, fd, F, hm⟩ := d
  exact ⟨f, fd, h f fd F, hm, c.mg, F.binds b⟩
theorem Glo.mono {j : Nat} (g : Glo P w K mg base k x ps sp) (h : k ≤ j) : Glo P w K mg base j x ps sp := let ⟨f, fd, F, r⟩ := g; ⟨f, fd, F.mono h, r⟩
/-- the law: any script of at most 63 ints, True comes out -/
abbrev spL (K : PySem.W.Frag) : Sp := Pu K (fun ns : List Int => ns.length ≤ 63) (fun ns => [.scr (ns.map .int)]) (fun _ => .bl true)
def spLaw (K : PySem.W.Frag) : Sp := fun vs Hh Q _ => ∃ (q : Addr) (ns : List Int), vs = [.ref q] ∧ SqL K Hh q (ns.map V.int) ∧ ns.length ≤ 63 ∧ ∀ H2, Q (.bl true) H2
theorem law_imp {f : Addr} {fd : FuncData} (F : FnOk P w K mg base CX0 k f fd ps (spL K)) : FnOk P w K mg base CX0 k f fd ps (spLaw K) := F.imp fun vs H Q E h => by
  obtain ⟨a, ns, rfl, hS, hl, q⟩ := h
  refine ⟨ns, H, emp, hl, .rf, fun _ _ z => (by cases z), .emp _, .cons (.scr hS (FdAll.ofInts ns)) .nil, rfl, fun v d l' H' hp s => ?_, fun _ _ _ _ z => z.elim⟩
  obtain ⟨rfl, rfl⟩ := hp
  obtain ⟨F, M, a⟩ := s
  have f := a.tm.1
  cases f
  exact q H'
/-- as walk_of asks it -/
theorem law_end {pn : Str} {fa : Addr} {st : Stmt} (d : Dfn K mg "law" st) (hfa : mg "law" = some (.ref fa)) (hb : ∀ (kV doc pm : Value) (an : Option Addr) (cdv ct : Value) (s : Shared) (v : Value), BindsTo s (PySem.W.fnOf "law" "law" (defArgs st) (defBody st) (defScope st) .none kV doc pm an cdv ct) ⟨[v], []⟩ [(pn, v)])
    (h : ∀ base : Heap, K.In base → base.Ns mainGlobals mg → ∀ f fd, Fun K "law" "law" st f fd → FnOk P w K mg base CX0 k f fd [pn] (spL K)) :
    ∃ fd : FuncData, (∀ (s : Shared) (v : Value), BindsTo s fd ⟨[v], []⟩ [(pn, v)]) ∧ ∀ base : Heap, K.In base → base.Ns mainGlobals mg → FnOk P w K mg base CX0 k fa fd [pn] (spLaw K) := by
  obtain ⟨f, fd, F, hm⟩ := d
  rw [hfa] at hm
  cases hm
  obtain ⟨oc, od, kV, doc, pm, an, cdv, ct, osl, rfl, lk, hcd⟩ := id F.ex
  exact ⟨_, hb kV doc pm an cdv ct, fun base h1 h2 => law_imp (h base h1 h2 fa _ F)⟩
end
section
variable {X : Cx} {g : Gm} {l : List Res} {e c : Expr} {d : D} {p pos : Pos}
/-- isinstance(x, C) of a frozen instance of the class at D0 -/
theorem o_isi {C D0 : Addr} {fs : List (Str × D)} {b : Bool} (hc : Cls X.K D0) (hi : Isi X.K D0) (hk : PySem.W.kitOne X.K (.ref D0) (.ref C) = some b) : OpN X.K l (rIsi X.K) [.ins D0 fs, .adr C] (.bl b) := fun F M H vs Q eF eM dj rs f k => by
  cases f with
  | cons f1 f2 =>
    cases f2 with
    | cons f2 f3 =>
      cases f2; cases f3
      cases f1 with
      | ins h1 h2 =>
        exact ⟨_, _, _, _, b, rfl, .own C, .base (.ins (eF _ _ h1) hc hi.ha hi.hn hi.htk hi.hm), hk, k _ F H (.rf eF) (.bl _)⟩
/-- .. of flat things, lists and tuples, against a built-in class -/
def D.tyv : D → Option String
  | .non => some "NoneType" | .bl _ => some "bool" | .int _ => some "int" | .str _ => some "str" | .lst _ => some "list" | .tup _ => some "tuple" | .scr _ => some "list" | .dK _ => some "dict" | .dT _ => some "dict" | _ => none
theorem tyx_l {K : PySem.W.Frag} {H : Hp} {a : Addr} {xs : List V} (s : SqL K H a xs) : TyX K H (.ref a) (.type "list") := by
  rcases s with (s | ⟨o, s⟩) | ⟨o, its, n, h1, h2, _⟩
  · exact .base (.lst s)
  · exact .base (.frz s)
  · exact .kList h1 h2
theorem tyx_t {K : PySem.W.Frag} {H : Hp} {a : Addr} {xs : List V} (s : SqT K H a xs) : TyX K H (.ref a) (.type "tuple") := by
  rcases s with (s | ⟨o, s⟩) | ⟨o, its, n, h1, h2, _⟩
  · exact .base (.tup s)
  · exact .fTuple s
  · exact .kTuple h1 h2
theorem Fd.tyx {K : PySem.W.Frag} {F H : Hp} {v : V} {d : D} {t : String} (e : Ex F H) (f : Fd K F v d) (h : d.tyv = some t) : TyX K H v (.type t) := by
  cases f with
  | non => cases h; exact .base .non
  | bl b => cases h; exact .base (.bl b)
  | int i => cases h; exact .base (.int i)
  | str x => cases h; exact .base (.str x)
  | lst s a => cases h; exact tyx_l (SqL.of (e _ _ s))
  | scr s a => cases h; exact tyx_l (ex_l e s)
  | dK s a => cases h; exact .base (.dK (e _ _ s))
  | dT s a => cases h; exact .base (.dT (e _ _ s))
  | tup s a => cases h; exact tyx_t (ex_t e s)
  | adr a => cases h
  | ty n => cases h
  | ins a b => cases h
theorem o_isiT {t n : String} {b : Bool} (ht : d.tyv = some t) (hk : kitB t n = some b) : OpN X.K l (rIsi X.K) [d, .ty n] (.bl b) := fun F M H vs Q eF eM dj rs f k => by
  cases f with
  | cons f1 f2 =>
    cases f2 with
    | cons f2 f3 =>
      cases f2; cases f3
      exact ⟨_, _, _, _, b, rfl, .ty n, f1.tyx eF ht, kit_ty hk, k _ F H (.rf eF) (.bl _)⟩
theorem o_isiO {n : String} {b : Bool} {k : Nat} {p : Addr} {ds : List D} (hk : l[k]? = some (ownL X.K p ds)) (hb : kitB "list" n = some b) : OpN X.K l (rIsi X.K) [.adr p, .ty n] (.bl b) := fun F M H vs Q eF eM dj rs f kk => by
  cases f with
  | cons f1 f2 =>
    cases f2 with
    | cons f2 f3 =>
      cases f2; cases f3; cases f1
      obtain ⟨ws, _, hp⟩ := rs.own hk eM
      exact ⟨_, _, _, _, b, rfl, .ty n, tyx_l (SqL.of hp), kit_ty hb, kk _ F H (.rf eF) (.bl _)⟩
theorem px_bi {id : String} {x : Str} {r : List V → Hp → VK → Prop} {e1 : Expr} {e2 : List Expr} {ds : List D} (hc : CallR X (.builtin id) r) (hm : X.mg x = none) (ha : Pa X (e1 :: e2) g l ds) (hr : OpN X.K l r ds d) (hg : Gl X x := by rfl) (hv : bootBuiltins x = some (.builtin id) := by decide +kernel) (hn : x ≠ "__name__" := by decide) (hdb : (x == ("__debug__" : Str)) = false := by decide)
    (hs : starEach (e1 :: e2) X.env = (false, eval e1 X.env) :: starEach e2 X.env := by rfl) (hpl : (backTo pos (starEach e2 X.env)).any (·.1) = false := by rfl) : Px X (.Call (.Name x p) (e1 :: e2) [] pos) g l d := px_b (ds := ds) (pe_callB hc hg hm hv pa_wp hn hdb hs hpl) hr ha
theorem px_ty {T : String} {x : Str} {r : List V → Hp → VK → Prop} {e1 : Expr} {e2 : List Expr} {ds : List D} (hc : CallR X (.type T) r) (hm : X.mg x = none) (ha : Pa X (e1 :: e2) g l ds) (hr : OpN X.K l r ds d) (hg : Gl X x := by rfl) (hv : bootBuiltins x = some (.type T) := by decide +kernel) (hn : x ≠ "__name__" := by decide) (hdb : (x == ("__debug__" : Str)) = false := by decide)
    (hs : starEach (e1 :: e2) X.env = (false, eval e1 X.env) :: starEach e2 X.env := by rfl) (hpl : (backTo pos (starEach e2 X.env)).any (·.1) = false := by rfl) : Px X (.Call (.Name x p) (e1 :: e2) [] pos) g l d := px_b (ds := ds) (pe_callTy hc hg hm hv pa_wp hn hdb hs hpl) hr ha
/-- a class of the module, a built-in class, as a value -/
theorem px_cls {C : Addr} {x : Str} (h : X.mg x = some (.ref C)) (hg : Gl X x := by rfl) (hd : (x == ("__debug__" : Str)) = false := by decide) : Px X (.Name x pos) g l (.adr C) := px_c (pe_glob (v := .ref C) hg h rfl hd) fun _ => .adr C
theorem px_tyn {x : Str} {n : String} (hm : X.mg x = none) (hv : bootBuiltins x = some (.type n) := by decide +kernel) (hg : Gl X x := by rfl) (hn : x ≠ "__name__" := by decide) (hd : (x == ("__debug__" : Str)) = false := by decide) : Px X (.Name x pos) g l (.ty n) := px_c (pe_bltn (v := .ty n) hg hm hv rfl hn hd) fun _ => .ty n
theorem px_gi {x : Str} {i : Int} (h : ∃ t, X.mg x = some (.int i t)) (hg : Gl X x := by rfl) (hd : (x == ("__debug__" : Str)) = false := by decide) : Px X (.Name x pos) g l (.int i) := by
  obtain ⟨t, h⟩ := h
  exact px_c (pe_glob (v := .int i) hg h ⟨t, rfl⟩ hd) fun _ => .int i
theorem px_gs {x z : Str} (h : ∃ t, X.mg x = some (.str z t)) (hg : Gl X x := by rfl) (hd : (x == ("__debug__" : Str)) = false := by decide) : Px X (.Name x pos) g l (.str z) := by
  obtain ⟨t, h⟩ := h
  exact px_c (pe_glob (v := .str z) hg h ⟨t, rfl⟩ hd) fun _ => .str z
theorem px_isT (n t : String) (b : Bool) {x : Str} {p2 : Pos} (z : X.mg "isinstance" = none) (zx : X.mg x = none) (h : Px X e g l d) (ht : d.tyv = some t := by rfl) (hk : kitB t n = some b := by decide +kernel) (hv : bootBuiltins x = some (.type n) := by decide +kernel)
    (hg : Gl X "isinstance" := by rfl) (hgx : Gl X x := by rfl) (hn : x ≠ "__name__" := by decide) (hd : (x == ("__debug__" : Str)) = false := by decide)
    (hs : starEach [e, .Name x p2] X.env = (false, eval e X.env) :: starEach [.Name x p2] X.env := by rfl) (hs2 : starEach [.Name x p2] X.env = [(false, eval (.Name x p2) X.env)] := by rfl) (hpl : (backTo pos (starEach [.Name x p2] X.env)).any (·.1) = false := by rfl) :
    Px X (.Call (.Name "isinstance" p) [e, .Name x p2] [] pos) g l (.bl b) := px_bi call_isi z (pa_c h (pa_c (px_tyn zx hv hgx hn hd) pa_n hs2) hs) (o_isiT ht hk) hg (by decide +kernel) (by decide) (by decide) hs hpl
theorem px_isC {C D0 : Addr} {fs : List (Str × D)} {b : Bool} {x : Str} {p2 : Pos} (z : X.mg "isinstance" = none) (zx : X.mg x = some (.ref C)) (h : Px X e g l (.ins D0 fs)) (hc : Cls X.K D0) (hi : Isi X.K D0) (hk : PySem.W.kitOne X.K (.ref D0) (.ref C) = some b)
    (hg : Gl X "isinstance" := by rfl) (hgx : Gl X x := by rfl) (hd : (x == ("__debug__" : Str)) = false := by decide)
    (hs : starEach [e, .Name x p2] X.env = (false, eval e X.env) :: starEach [.Name x p2] X.env := by rfl) (hs2 : starEach [.Name x p2] X.env = [(false, eval (.Name x p2) X.env)] := by rfl) (hpl : (backTo pos (starEach [.Name x p2] X.env)).any (·.1) = false := by rfl) :
    Px X (.Call (.Name "isinstance" p) [e, .Name x p2] [] pos) g l (.bl b) := px_bi call_isi z (pa_c h (pa_c (px_cls zx hgx hd) pa_n hs2) hs) (o_isi hc hi hk) hg (by decide +kernel) (by decide) (by decide) hs hpl
end
section
variable {K : PySem.W.Frag} {l : List Res} {d : D}
/-- len, str, int, list, tuple, max, min -/
abbrev rLen1 (K : PySem.W.Frag) : List V → Hp → VK → Prop := fun xs H Q => ∃ p ys, xs = [.ref p] ∧ (SqL K H p ys ∨ SqT K H p ys) ∧ Q (.int ys.length) H
theorem o_len {ds : List D} {d0 : D} (h : d0 = .lst ds ∨ d0 = .tup ds ∨ d0 = .scr ds) : OpN K l (rLen1 K) [d0] (.int ds.length) := fun F M H vs Q eF eM dj rs f k => by
  cases f with
  | cons f1 f2 =>
    cases f2
    rcases h with rfl | rfl | rfl
    · cases f1 with
      | lst s a =>
        refine ⟨_, _, rfl, .inl (SqL.of (eF _ _ s)), ?_⟩
        rw [a.length]
        exact k _ F H (.rf eF) (.int _)
    · cases f1 with
      | tup s a =>
        refine ⟨_, _, rfl, .inr (ex_t eF s), ?_⟩
        rw [a.length]
        exact k _ F H (.rf eF) (.int _)
    · cases f1 with
      | scr s a =>
        refine ⟨_, _, rfl, .inl (ex_l eF s), ?_⟩
        rw [a.length]
        exact k _ F H (.rf eF) (.int _)
theorem o_lenL {ds : List D} : OpN K l (rLen1 K) [.lst ds] (.int ds.length) := o_len (.inl rfl)
theorem o_lenT {ds : List D} : OpN K l (rLen1 K) [.tup ds] (.int ds.length) := o_len (.inr (.inl rfl))
theorem o_lenR {ds : List D} : OpN K l (rLen1 K) [.scr ds] (.int ds.length) := o_len (.inr (.inr rfl))
theorem o_lenO {k : Nat} {p : Addr} {ds : List D} (hk : l[k]? = some (ownL K p ds)) : OpN K l (rLen1 K) [.adr p] (.int ds.length) := fun F M H vs Q eF eM dj rs f kk => by
  cases f with
  | cons f1 f2 =>
    cases f2; cases f1
    obtain ⟨ws, fw, hp⟩ := rs.own hk eM
    refine ⟨_, _, rfl, .inl (SqL.of hp), ?_⟩
    rw [fw.length]
    exact kk _ F H (.rf eF) (.int _)
theorem o_lenS {x : Str} (h : x.length ≤ sizeLine) : OpN K l (fun xs H Q => ∃ z, xs = [.str z] ∧ z.length ≤ sizeLine ∧ Q (.int z.length) H) [.str x] (.int x.length) := fun F M H vs Q eF eM dj rs f k => by
  cases f with
  | cons f1 f2 =>
    cases f2; cases f1
    exact ⟨x, rfl, h, k _ F H (.rf eF) (.int _)⟩
theorem o_str {i : Int} (h : i.natAbs.log2 < 1920) : OpN K l (fun xs H Q => ∃ i, xs = [.int i] ∧ i.natAbs.log2 < 1920 ∧ Q (.str (toString i)) H) [.int i] (.str (toString i)) := fun F M H vs Q eF eM dj rs f k => by
  cases f with
  | cons f1 f2 =>
    cases f2; cases f1
    exact ⟨i, rfl, h, k _ F H (.rf eF) (.str _)⟩
theorem o_max2 {i j : Int} : OpN K l (fun xs H Q => ∃ i j, xs = [.int i, .int j] ∧ Q (.int (if j > i then j else i)) H) [.int i, .int j] (.int (max i j)) := fun F M H vs Q eF eM dj rs f k => by
  cases f with
  | cons f1 f2 =>
    cases f2 with
    | cons f2 f3 =>
      cases f3; cases f1; cases f2
      refine ⟨i, j, rfl, ?_⟩
      have e : (if j > i then j else i) = max i j := by
        by_cases q : j > i
        · rw [if_pos q, Int.max_eq_right (by omega)]
        · rw [if_neg q, Int.max_eq_left (by omega)]
      rw [e]
      exact k _ F H (.rf eF) (.int _)
theorem o_min2 {i j : Int} : OpN K l (fun xs H Q => ∃ i j, xs = [.int i, .int j] ∧ Q (.int (if j < i then j else i)) H) [.int i, .int j] (.int (min i j)) := fun F M H vs Q eF eM dj rs f k => by
  cases f with
  | cons f1 f2 =>
    cases f2 with
    | cons f2 f3 =>
      cases f3; cases f1; cases f2
      refine ⟨i, j, rfl, ?_⟩
      have e : (if j < i then j else i) = min i j := by
        by_cases q : j < i
        · rw [if_pos q, Int.min_eq_right (by omega)]
        · rw [if_neg q, Int.min_eq_left (by omega)]
      rw [e]
      exact k _ F H (.rf eF) (.int _)
/-- an item at a place that lies in it -/
theorem atI_in {α : Type} {xs : List α} {i : Int} {x0 : α} (h0 : 0 ≤ i) (h1 : i < xs.length) : atI xs i = some (xs.getD i.toNat x0) := by
  have h2 : i.toNat < xs.length := by omega
  unfold atI ixN
  rw [if_pos h0, if_pos h1]
  show xs[i.toNat]? = _
  rw [List.getElem?_eq_getElem h2, List.getD_eq_getElem?_getD, List.getElem?_eq_getElem h2]
  rfl
theorem atI_map {α β : Type} {f : α → β} {xs : List α} {i : Int} {y : α} (h : atI xs i = some y) : atI (xs.map f) i = some (f y) := by
  unfold atI at h ⊢
  rw [List.length_map]
  cases e : ixN xs.length i with
  | none => rw [e] at h; cases h
  | some n =>
    rw [e] at h
    show (xs.map f)[n]? = some (f y)
    have h' : xs[n]? = some y := h
    rw [List.getElem?_map, h']
    rfl
end
/-- a class without an __init__ of its own -/
structure Mk0 (K : PySem.W.Frag) (C : Addr) : Prop where
  (makes : PySem.W.makesIn K C = true) (kp : PySem.W.keepIn K (.ref C) = true) (init : PySem.W.findIn K (.ref C) "__init__" = some (some (.builtin "object.__init__")))
section
open PySem.W in
theorem make_plain {prog : Program} {w : World} {A : Around} {K : PySem.W.Frag} {C : Addr} {R : Result → Shared → Prop} {s : Shared} (X : K.In s.heap) (m : Mk0 K C)
    (h : R (.ok (.ret (.ref (s.heap.objs.size + 1)))) { s with heap := (s.heap.push emptyDict).push (instObj C s.heap.objs.size) }) : codeAny (model prog w) A (.call (.ref C) ⟨[], []⟩) R s := by
  obtain ⟨hh, g, d, t, os⟩ := s
  have Y := makes_of (M := model prog w) X m.makes
  have hx : ((hh.push emptyDict).push (instObj C hh.objs.size)).get? (hh.objs.size + 1) = some (instObj C hh.objs.size) := by heap_get
  refine make_core Y (looks_findIn X m.init) (fun self => Looks.of_pure (oi_bind self)) (.inr ⟨rfl, rfl⟩) ?_
  refine codeAny_call_builtin oi_plain entry_oi (@check_slot (model prog w) _ _ _ "object.__init__" "object" "__init__" (.ref (hh.objs.size + 1)) [] [] _ oi_kind oi_split
    (((Looks.ld hx).andThen .now : Looks (model prog w) _ (typeOf (.ref (hh.objs.size + 1))) (.ref C)).andThen (Y.top.keeps fun _ _ q => Heap.get?_push_of_some _ (Heap.get?_push_of_some _ q))) (oi_args _) (by rw [oi_run]; exact wpAny_pure ⟨rfl, h⟩))
end
section
variable {X : Cx} {g : Gm} {l : List Res} {p pos : Pos} {C : Addr} {x : Str}
theorem pe_makeN (m : Mk0 X.K C) (hg : Gl X x) (hm : X.mg x = some (.ref C)) (hdb : (x == ("__debug__" : Str)) = false := by decide) :
    PE X (.Call (.Name x p) [] [] pos) (fun _ H Q => ∀ q dx, H q = none → H dx = none → dx ≠ q → Q (.ref q) (upd (upd H dx (.own q)) q (.ins C dx []))) := by
  refine ⟨fun pins st sg Hh Q iv h => wpAny_Call_Name_kw (ld_glob iv hg hm (PySem.W.callWith_K0 iv.kIn m.kp (wpAny_call (make_plain iv.kIn m ⟨V.ref (st.heap.objs.size + 1), _, Inv.made (C := C) iv, rfl, ?_⟩))) hdb)⟩
  exact h _ _ (iv.hok.fresh (Nat.le_succ _)) (iv.hok.fresh (Nat.le_refl _)) (Nat.ne_of_lt (Nat.lt_succ_self _))
/-- C(), frozen -/
theorem px_make0 (m : Mk0 X.K C) (hm : X.mg x = some (.ref C)) (hg : Gl X x := by rfl) (hdb : (x == ("__debug__" : Str)) = false := by decide) : Px X (.Call (.Name x p) [] [] pos) g l (.ins C []) := fun en T σ H Q s k => wpE_of (pe_makeN m hg hm hdb) (by
  intro q dx nx ndx ne
  obtain ⟨F, M, a⟩ := s
  have n1 := New.upd (o := .own q) a.exF ndx
  have nq : (upd H dx (.own q)) q = none := by rw [upd_ne (Ne.symm ne)]; exact nx
  have n2 := New.upd (o := .ins C dx []) n1.i nq
  have n := n1.tr n2
  exact k _ _ ⟨_, M, (a.new n).tmp ⟨.ins upd_same .nil, T.mono n.f a.tm⟩⟩)
end
end Sx
set_option Elab.async false
set_option linter.all false
set_option maxRecDepth 100000
set_option maxHeartbeats 2000000
/-! More rules: owned things read as if frozen, slices, new lists, texts. -/
namespace Sx
open PySem L2
section
variable {K : PySem.W.Frag} {l : List Res} {d d1 d2 : D} {ds es : List D}
/-- a list: frozen or owned -/
inductive Lv (K : PySem.W.Frag) (l : List Res) : D → List D → Prop
  | f {ds : List D} : Lv K l (.lst ds) ds
  | o {k : Nat} {p : Addr} {ds : List D} (h : l[k]? = some (ownL K p ds)) : Lv K l (.adr p) ds
/-- .. or the script -/
inductive Lq (K : PySem.W.Frag) (l : List Res) : D → List D → Prop
  | v {d : D} {ds : List D} (h : Lv K l d ds) : Lq K l d ds
  | s {ds : List D} : Lq K l (.scr ds) ds
/-- .. or a tuple -/
inductive Sv (K : PySem.W.Frag) (l : List Res) : D → List D → Prop
  | q {d : D} {ds : List D} (h : Lq K l d ds) : Sv K l d ds
  | t {ds : List D} : Sv K l (.tup ds) ds
abbrev Lq.f : Lq K l (.lst ds) ds := .v .f
abbrev Lq.o {k : Nat} {p : Addr} (h : l[k]? = some (ownL K p ds)) : Lq K l (.adr p) ds := .v (.o h)
abbrev Sv.f : Sv K l (.lst ds) ds := .q (.v .f)
abbrev Sv.o {k : Nat} {p : Addr} (h : l[k]? = some (ownL K p ds)) : Sv K l (.adr p) ds := .q (.v (.o h))
abbrev Sv.s : Sv K l (.scr ds) ds := .q .s
theorem Lv.get {F M H : Hp} {v : V} (h : Lv K l d ds) (eF : Ex F H) (eM : Ex M H) (rs : Rs l F M) (f : Fd K F v d) : ∃ a vs, v = .ref a ∧ H a = some (.lst vs) ∧ FdAll K F vs ds := by
  cases h with
  | f => cases f with | lst s a => exact ⟨_, _, rfl, eF _ _ s, a⟩
  | o h =>
    cases f
    obtain ⟨vs, f, hp⟩ := rs.own h eM
    exact ⟨_, vs, rfl, hp, f⟩
theorem Lq.get {F M H : Hp} {v : V} (h : Lq K l d ds) (eF : Ex F H) (eM : Ex M H) (rs : Rs l F M) (f : Fd K F v d) : ∃ a vs, v = .ref a ∧ SqL K H a vs ∧ FdAll K F vs ds := by
  cases h with
  | v h =>
    obtain ⟨a, vs, e, hp, f⟩ := h.get eF eM rs f
    exact ⟨a, vs, e, SqL.of hp, f⟩
  | s => cases f with | scr s a => exact ⟨_, _, rfl, ex_l eF s, a⟩
theorem Sv.get {F M H : Hp} {v : V} (h : Sv K l d ds) (eF : Ex F H) (eM : Ex M H) (rs : Rs l F M) (f : Fd K F v d) : ∃ a vs, v = .ref a ∧ (SqL K H a vs ∨ SqT K H a vs) ∧ FdAll K F vs ds := by
  cases h with
  | q h =>
    obtain ⟨a, vs, e, hp, f⟩ := h.get eF eM rs f
    exact ⟨a, vs, e, .inl hp, f⟩
  | t => cases f with | tup s a => exact ⟨_, _, rfl, .inr (ex_t eF s), a⟩
end
section
variable {X : Cx} {W : WX} {g g' : Gm} {l l' : List Res} {Φ : Po} {e e2 a b c o : Expr} {es : List Expr} {d d1 d2 d3 : D} {ds ds1 ds2 : List D} {pos p p2 : Pos} {rest : List Stmt}
/-! ### owned things read as if frozen -/
theorem Px.all (h : Px X e g [] d) : Px X e g l d := by
  induction l with
  | nil => exact h
  | cons r l ih => exact ih.fr
/-- what is scalar, got with an owned list taken for frozen -/
theorem px_brw {i k : Nat} {q : Addr} {v0 : V} (hi : nth g i = some (.adr q)) (hk : l[k]? = some (ownL X.K q ds)) (hd : d.v = some v0) (h : Px X e (g.set i (some (.lst ds))) [] d) : Px X e g l d := fun en T σ H Q s kk => by
  obtain ⟨F, M, a⟩ := s
  obtain ⟨A, B, hM, dj, ⟨vs, fvs, rfl⟩, _⟩ := Rs.at hk a.rs
  have hH : H q = some (.lst vs) := a.exM q _ (by rw [hM]; exact join_l one_same)
  have hF : F q = none := a.dj.sym q _ (by rw [hM]; exact join_l one_same)
  have eF : Ex F (join F (one q (.lst vs))) := fun x o h => join_l h
  have e1 : Ex (join F (one q (.lst vs))) H := a.exF.join fun x o z => by obtain ⟨rfl, rfl⟩ := one_some z; exact hH
  have hs : Sl X.K (join F (one q (.lst vs))) (g.set i (some (.lst ds))) σ := by
    obtain ⟨v, hv, fv⟩ := a.sl.nth hi
    cases fv
    have w := (a.sl.mono eF).set i (d := .lst ds) (v := .ref q) (.lst (by rw [join_r hF]; exact one_same) (fvs.mono eF))
    have e : σ.set i (some (.ref q)) = σ := by
      apply List.ext_getElem?
      intro j
      by_cases z : j = i
      · subst z
        obtain ⟨h1, h2⟩ := List.getElem?_eq_some_iff.mp hv
        rw [List.getElem?_set_self h1, hv]
      · rw [List.getElem?_set_ne (Ne.symm z)]
    rw [e] at w
    exact w
  refine h ⟨join F (one q (.lst vs)), emp, H⟩ Tm.tt σ H Q ⟨_, emp, At.entry e1 (fun _ _ z => by cases z) (.emp _) hs trivial rfl⟩ fun v H' s' => ?_
  obtain ⟨F', M', b⟩ := s'
  have hv := D.v_eq b.tm.1 hd
  subst hv
  have n : New F H F H' := New.grow a.exF fun x o z => b.fr x o z rfl
  refine kk _ H' ⟨F, M, (a.new n).tmp ⟨?_, a.tm⟩⟩
  cases d <;> first | (cases hd; constructor) | cases hd
theorem ts_brw {i k : Nat} {q : Addr} {kb : Bool} (hi : nth g i = some (.adr q)) (hk : l[k]? = some (ownL X.K q ds)) (h : Ts X e (g.set i (some (.lst ds))) [] kb) : Ts X e g l kb := fun en T σ H Q s kk => by
  obtain ⟨F, M, a⟩ := s
  obtain ⟨A, B, hM, dj, ⟨vs, fvs, rfl⟩, _⟩ := Rs.at hk a.rs
  have hH : H q = some (.lst vs) := a.exM q _ (by rw [hM]; exact join_l one_same)
  have hF : F q = none := a.dj.sym q _ (by rw [hM]; exact join_l one_same)
  have eF : Ex F (join F (one q (.lst vs))) := fun x o h => join_l h
  have e1 : Ex (join F (one q (.lst vs))) H := a.exF.join fun x o z => by obtain ⟨rfl, rfl⟩ := one_some z; exact hH
  have hs : Sl X.K (join F (one q (.lst vs))) (g.set i (some (.lst ds))) σ := by
    obtain ⟨v, hv, fv⟩ := a.sl.nth hi
    cases fv
    have w := (a.sl.mono eF).set i (d := .lst ds) (v := .ref q) (.lst (by rw [join_r hF]; exact one_same) (fvs.mono eF))
    have e : σ.set i (some (.ref q)) = σ := by
      apply List.ext_getElem?
      intro j
      by_cases z : j = i
      · subst z
        obtain ⟨h1, h2⟩ := List.getElem?_eq_some_iff.mp hv
        rw [List.getElem?_set_self h1, hv]
      · rw [List.getElem?_set_ne (Ne.symm z)]
    rw [e] at w
    exact w
  refine h ⟨join F (one q (.lst vs)), emp, H⟩ Tm.tt σ H Q ⟨_, emp, At.entry e1 (fun _ _ z => by cases z) (.emp _) hs trivial rfl⟩ fun H' s' => ?_
  obtain ⟨F', M', b⟩ := s'
  have n : New F H F H' := New.grow a.exF fun x o z => b.fr x o z rfl
  exact kk H' ⟨F, M, a.new n⟩
/-! ### new lists -/
abbrev NewL (X : Cx) (g : Gm) (l : List Res) (t : TE) (ds : List D) : Prop := ∀ en T σ H (Q : VK), S X.K en g T l σ H → (∀ p ws H1 F M, At X.K en g T l σ H1 F M → FdAll X.K F ws ds → H1 p = none → Q (.ref p) (upd H1 p (.lst ws))) → t σ H Q
abbrev EvL (X : Cx) (e : Expr) (g : Gm) (l : List Res) (ds : List D) : Prop := Ev X e g l (fun d' l' => ∃ p, d' = .adr p ∧ l' = ownL X.K p ds :: l)
theorem ev_new {t : TE} (he : PE X e t) (h : NewL X g l t ds) : EvL X e g l ds := fun en T σ H Q s k => wpE_of he (h en T σ H Q s fun p ws H1 F M q f hp => by
  have q3 := q.newO (r := ownL X.K p ds) (A := one p (.lst ws)) (H' := upd H1 p (.lst ws)) (.new hp) (fun x o z => by obtain ⟨rfl, rfl⟩ := one_some z; exact upd_same) (fun x o z => by obtain ⟨rfl, rfl⟩ := one_some z; exact hp) ⟨ws, f, rfl⟩
  exact k _ (.adr p) _ _ ⟨p, rfl, rfl⟩ ⟨F, _, q3.tmp ⟨.adr p, q.tm⟩⟩)
/-! ### slices -/
def cut {α : Type} (xs : List α) (lo hi : Option Int) : List α := (xs.drop (HT.sIx xs.length 0 lo)).take (HT.sIx xs.length xs.length hi - HT.sIx xs.length 0 lo)
theorem cut_all {α : Type} {xs : List α} : cut xs none none = xs := by
  unfold cut
  show (xs.drop 0).take (xs.length - 0) = xs
  rw [List.drop_zero, Nat.sub_zero, List.take_length]
theorem cut_take {α : Type} {xs : List α} {n : Int} (h : 0 ≤ n) : cut xs none (some n) = xs.take n.toNat := by
  unfold cut
  have e : HT.sIx xs.length xs.length (some n) = min n.toNat xs.length := by
    show (if n < 0 then _ else _) = _
    rw [if_neg (by omega)]
  rw [e]
  show (xs.drop 0).take (min n.toNat xs.length - 0) = _
  rw [List.drop_zero, Nat.sub_zero, ← List.take_take, List.take_length]
theorem cut_drop {α : Type} {xs : List α} {n : Int} (h : 0 ≤ n) : cut xs (some n) none = xs.drop n.toNat := by
  unfold cut
  have e : HT.sIx xs.length 0 (some n) = min n.toNat xs.length := by
    show (if n < 0 then _ else _) = _
    rw [if_neg (by omega)]
  rw [e]
  show (xs.drop (min n.toNat xs.length)).take (xs.length - min n.toNat xs.length) = _
  by_cases z : n.toNat ≤ xs.length
  · rw [Nat.min_eq_left z, List.take_of_length_le (by rw [List.length_drop]; exact Nat.le_refl _)]
  · rw [Nat.min_eq_right (by omega), List.drop_length, List.drop_eq_nil_of_le (by omega), List.take_nil]
theorem FdAll.cut {K : PySem.W.Frag} {F : Hp} {vs : List V} {ds : List D} (f : FdAll K F vs ds) (lo hi : Option Int) : FdAll K F (cutV vs lo hi) (cut ds lo hi) := by
  unfold cutV Sx.cut
  rw [f.length]
  exact (f.drop _).take _
/-- a slice's part -/
def Pz (X : Cx) (e : Option Expr) (g : Gm) (l : List Res) (o : Option Int) : Prop := ∃ t, PO X e t ∧ ∀ en T σ H (R : Option Int → Hp → Prop), S X.K en g T l σ H → (∀ H', S X.K en g T l σ H' → R o H') → t σ H R
theorem pz_n : Pz X none g l none := ⟨_, po_none, fun en T σ H R s k => k H s⟩
theorem pz_s {i : Int} (h : Px X e g l (.int i)) : Pz X (some e) g l (some i) := ⟨_, po_some pe_wp, fun en T σ H R s k => h en T σ H _ s fun v H' s' => by
  obtain ⟨F, M, q⟩ := s'
  have f := q.tm.1
  cases f
  exact ⟨i, rfl, k H' ⟨F, M, q.tmp q.tm.2⟩⟩⟩
theorem ev_slL {lo hi : Option Expr} {i j : Option Int} (ho : Px X o g l d) (hd : Lq X.K l d ds) (hl : Pz X lo g l i) (hu : Pz X hi g l j) : EvL X (.Subscript o (.Slice lo hi none p2) pos) g l (cut ds i j) := by
  obtain ⟨tl, pl, hl⟩ := hl
  obtain ⟨tu, pu, hu⟩ := hu
  refine ev_new (pe_slice sl_list pe_wp pl pu) fun en T σ H Q s k => ?_
  refine ho en T σ H _ s fun v H1 s1 => ?_
  refine hl en _ σ H1 _ s1 fun H2 s2 => ?_
  refine hu en _ σ H2 _ s2 fun H3 s3 => ?_
  obtain ⟨F, M, q⟩ := s3
  obtain ⟨a, vs, rfl, sq, f⟩ := hd.get q.exF q.exM q.rs q.tm.1
  exact ⟨a, vs, rfl, sq, fun p hp => k p _ H3 F M (q.tmp q.tm.2) (f.cut i j) hp⟩
theorem px_slL {lo hi : Option Expr} {i j : Option Int} (ho : Px X o g l d) (hd : Lq X.K l d ds) (hl : Pz X lo g l i) (hu : Pz X hi g l j) : Px X (.Subscript o (.Slice lo hi none p2) pos) g l (.lst (cut ds i j)) := (ev_slL ho hd hl hu).frz
theorem px_slT {lo hi : Option Expr} {i j : Option Int} (ho : Px X o g l (.tup ds)) (hl : Pz X lo g l i) (hu : Pz X hi g l j) : Px X (.Subscript o (.Slice lo hi none p2) pos) g l (.tup (cut ds i j)) := fun en T σ H Q s k => by
  obtain ⟨tl, pl, hl⟩ := hl
  obtain ⟨tu, pu, hu⟩ := hu
  refine wpE_of (pe_slice sl_tupA pe_wp pl pu) ?_
  refine ho en T σ H _ s fun v H1 s1 => ?_
  refine hl en _ σ H1 _ s1 fun H2 s2 => ?_
  refine hu en _ σ H2 _ s2 fun H3 s3 => ?_
  obtain ⟨F, M, q⟩ := s3
  obtain ⟨f, t⟩ := q.tm
  cases f with
  | tup sq f =>
    rename_i a vs
    refine ⟨a, vs, rfl, ex_t q.exF sq, fun hw => ?_, fun hw p hp => ?_⟩
    · refine k _ H3 ⟨F, M, q.tmp ⟨?_, t⟩⟩
      have e : cut ds i j = ds := by
        unfold cut
        rw [← f.length, hw.1, hw.2, List.drop_zero, Nat.sub_zero, f.length, List.take_length]
      rw [e]
      exact .tup sq f
    · have n := New.upd (o := .tup (cutV vs i j)) q.exF hp
      exact k _ _ ⟨_, M, (q.new n).tmp ⟨.tup (SqT.of upd_same) (FdAll.mono n.f _ (f.cut i j)), T.mono n.f t⟩⟩
theorem px_slS {lo hi : Option Expr} {i j : Option Int} {x : Str} (ho : Px X o g l (.str x)) (hx : x.length ≤ sizeLine) (hl : Pz X lo g l i) (hu : Pz X hi g l j) : Px X (.Subscript o (.Slice lo hi none p2) pos) g l (.str (cutS x i j)) := fun en T σ H Q s k => by
  obtain ⟨tl, pl, hl⟩ := hl
  obtain ⟨tu, pu, hu⟩ := hu
  refine wpE_of (pe_slice sl_str pe_wp pl pu) ?_
  refine ho en T σ H _ s fun v H1 s1 => ?_
  refine hl en _ σ H1 _ s1 fun H2 s2 => ?_
  refine hu en _ σ H2 _ s2 fun H3 s3 => ?_
  obtain ⟨F, M, q⟩ := s3
  obtain ⟨f, t⟩ := q.tm
  cases f
  exact ⟨x, rfl, hx, k _ H3 ⟨F, M, q.tmp ⟨.str _, t⟩⟩⟩
/-! ### + and * of lists, list(x), tuple(x) -/
theorem ev_cat (ha : Px X a g l d1) (hb : Px X b g l d2) (h1 : Lv X.K l d1 ds1) (h2 : Lv X.K l d2 ds2) (hz : ds1.length + ds2.length ≤ sizeLine) : EvL X (.BinOp a .Add b pos) g l (ds1 ++ ds2) :=
  ev_new (pe_op op_cat pe_wp pe_wp) fun en T σ H Q s k => by
  refine ha en T σ H _ s fun v H1 s1 => ?_
  refine hb en _ σ H1 _ s1 fun u H2 s2 => ?_
  obtain ⟨F, M, q⟩ := s2
  obtain ⟨x, vs, rfl, g1, f1⟩ := h1.get q.exF q.exM q.rs q.tm.2.1
  obtain ⟨y, ws, rfl, g2, f2⟩ := h2.get q.exF q.exM q.rs q.tm.1
  exact ⟨x, y, vs, ws, rfl, rfl, g1, g2, by rw [f1.length, f2.length]; exact hz, fun p hp => k p _ H2 F M (q.tmp q.tm.2.2) (f1.app f2) hp⟩
theorem px_cat (ha : Px X a g l d1) (hb : Px X b g l d2) (h1 : Lv X.K l d1 ds1) (h2 : Lv X.K l d2 ds2) (hz : ds1.length + ds2.length ≤ sizeLine) : Px X (.BinOp a .Add b pos) g l (.lst (ds1 ++ ds2)) := (ev_cat ha hb h1 h2 hz).frz
theorem FdAll.rep {K : PySem.W.Frag} {F : Hp} {vs : List V} {ds : List D} (f : FdAll K F vs ds) : ∀ n, FdAll K F (List.replicate n vs).flatten (List.replicate n ds).flatten
  | 0 => .nil
  | n + 1 => by
    rw [List.replicate_succ, List.replicate_succ, List.flatten_cons, List.flatten_cons]
    exact f.app (FdAll.rep f n)
theorem ev_rep {i : Int} (ha : Px X a g l d1) (hb : Px X b g l (.int i)) (h1 : Lv X.K l d1 ds) (hi : -(2 ^ 63) ≤ i ∧ i < 2 ^ 63) (hz : ds.length * i.toNat ≤ sizeLine) : EvL X (.BinOp a .Mult b pos) g l (List.replicate i.toNat ds).flatten :=
  ev_new (pe_op op_rep pe_wp pe_wp) fun en T σ H Q s k => by
  refine ha en T σ H _ s fun v H1 s1 => ?_
  refine hb en _ σ H1 _ s1 fun u H2 s2 => ?_
  obtain ⟨F, M, q⟩ := s2
  obtain ⟨x, vs, rfl, g1, f1⟩ := h1.get q.exF q.exM q.rs q.tm.2.1
  have f2 := q.tm.1
  cases f2
  exact ⟨x, i, vs, rfl, rfl, g1, hi.1, hi.2, by rw [f1.length]; exact hz, fun p hp => k p _ H2 F M (q.tmp q.tm.2.2) (f1.rep _) hp⟩
theorem ev_listOf {e1 : Expr} (ha : Px X e1 g l d) (hd : Sv X.K l d ds) (hm : X.mg "list" = none) (hg : Gl X "list" := by rfl) (hs : starEach [e1] X.env = (false, eval e1 X.env) :: starEach [] X.env := by rfl) : EvL X (.Call (.Name "list" p) [e1] [] pos) g l ds :=
  ev_new (pe_callTy call_list_of hg hm (by decide +kernel) (pa_wp (es := [e1])) (by decide) (by decide) hs rfl) fun en T σ H Q s k => by
  refine pa_c ha pa_n hs en T σ H _ s fun vs H1 s1 => ?_
  obtain ⟨F, M, q⟩ := s1
  obtain ⟨f, t⟩ := q.tm
  cases f with
  | cons f1 f2 =>
    cases f2
    obtain ⟨a, ws, rfl, sq, f⟩ := hd.get q.exF q.exM q.rs f1
    exact ⟨a, ws, rfl, sq, fun p hp => k p _ H1 F M (q.tmp t) f hp⟩
theorem px_listOf {e1 : Expr} (ha : Px X e1 g l d) (hd : Sv X.K l d ds) (hm : X.mg "list" = none) (hg : Gl X "list" := by rfl) (hs : starEach [e1] X.env = (false, eval e1 X.env) :: starEach [] X.env := by rfl) : Px X (.Call (.Name "list" p) [e1] [] pos) g l (.lst ds) := (ev_listOf ha hd hm hg hs).frz
theorem px_tupOf {e1 : Expr} (ha : Px X e1 g l d) (hd : Lq X.K l d ds) (hm : X.mg "tuple" = none) (hg : Gl X "tuple" := by rfl) (hs : starEach [e1] X.env = (false, eval e1 X.env) :: starEach [] X.env := by rfl) : Px X (.Call (.Name "tuple" p) [e1] [] pos) g l (.tup ds) := fun en T σ H Q s k =>
  wpE_of (pe_callTy call_tuple_of hg hm (by decide +kernel) (pa_wp (es := [e1])) (by decide) (by decide) hs rfl) (by
  refine pa_c ha pa_n hs en T σ H _ s fun vs H1 s1 => ?_
  obtain ⟨F, M, q⟩ := s1
  obtain ⟨f, t⟩ := q.tm
  cases f with
  | cons f1 f2 =>
    cases f2
    obtain ⟨a, ws, rfl, sq, f⟩ := hd.get q.exF q.exM q.rs f1
    refine ⟨a, ws, rfl, .inl ⟨sq, fun p hp => ?_⟩⟩
    have n := New.upd (o := .tup ws) q.exF hp
    exact k _ _ ⟨_, M, (q.new n).tmp ⟨.tup (SqT.of upd_same) (FdAll.mono n.f _ f), T.mono n.f t⟩⟩)
theorem px_tupOfT {e1 : Expr} (ha : Px X e1 g l (.tup ds)) (hm : X.mg "tuple" = none) (hg : Gl X "tuple" := by rfl) (hs : starEach [e1] X.env = (false, eval e1 X.env) :: starEach [] X.env := by rfl) : Px X (.Call (.Name "tuple" p) [e1] [] pos) g l (.tup ds) := fun en T σ H Q s k =>
  wpE_of (pe_callTy call_tuple_of hg hm (by decide +kernel) (pa_wp (es := [e1])) (by decide) (by decide) hs rfl) (by
  refine pa_c ha pa_n hs en T σ H _ s fun vs H1 s1 => ?_
  obtain ⟨F, M, q⟩ := s1
  obtain ⟨f, t⟩ := q.tm
  cases f with
  | cons f1 f2 =>
    cases f2
    cases f1 with
    | tup sq f => exact ⟨_, _, rfl, .inr ⟨ex_t q.exF sq, k _ H1 ⟨F, M, q.tmp ⟨.tup sq f, t⟩⟩⟩⟩)
/-! ### texts -/
theorem px_join {x : Str} {xs : List Str} {apos : Pos} (ho : Px X o g l (.str x)) (he : Px X e g l d) (hd : Sv X.K l d (xs.map .str)) (hz : (xs.map (·.length)).sum + xs.length * x.length ≤ 16777216)
    (hs : starEach [e] X.env = [(false, eval e X.env)] := by rfl) (hb : attributeBase o "join" X.env (eval o X.env) = eval o X.env := by rfl) (hline : (apos.endLine == pos.line) = true := by rfl) : Px X (.Call (.Attribute o "join" apos) [e] [] pos) g l (.str (Txt.join x xs)) := fun en T σ H Q s k =>
  wpE_of (pe_join pe_wp pe_wp hs hb hline) (by
  refine ho en T σ H _ s fun v H1 s1 => ?_
  obtain ⟨F0, M0, q0⟩ := id s1
  have fv := q0.tm.1
  cases fv
  refine ⟨⟨x, rfl⟩, ?_⟩
  refine he en _ σ H1 _ s1 fun u H2 s2 => ?_
  obtain ⟨F, M, q⟩ := s2
  obtain ⟨a, ws, rfl, sq, f⟩ := hd.get q.exF q.exM q.rs q.tm.1
  have e := f.strs
  subst e
  exact ⟨x, a, xs, rfl, rfl, sq, hz, k _ H2 ⟨F, M, q.tmp ⟨.str _, q.tm.2.2⟩⟩⟩)
theorem ev_split {x y : Str} {apos : Pos} (ho : Px X o g l (.str x)) (he : Px X e g l (.str y)) (hy : (y.length == 0) = false) (hz : x.length + 2 ≤ sizeLine)
    (hs : starEach [e] X.env = [(false, eval e X.env)] := by rfl) (hb : attributeBase o "split" X.env (eval o X.env) = eval o X.env := by rfl) (hline : (apos.endLine == pos.line) = true := by rfl) : EvL X (.Call (.Attribute o "split" apos) [e] [] pos) g l ((Txt.split x y).map .str) :=
  ev_new (pe_split pe_wp pe_wp hs hb hline) fun en T σ H Q s k => by
  refine ho en T σ H _ s fun v H1 s1 => ?_
  obtain ⟨F0, M0, q0⟩ := id s1
  have fv := q0.tm.1
  cases fv
  refine ⟨⟨x, rfl⟩, ?_⟩
  refine he en _ σ H1 _ s1 fun u H2 s2 => ?_
  obtain ⟨F, M, q⟩ := s2
  obtain ⟨f, t⟩ := q.tm
  cases f
  exact ⟨x, y, rfl, rfl, hy, hz, fun p hp => k p _ H2 F M (q.tmp t.2) (FdAll.ofStrs _) hp⟩
theorem px_split {x y : Str} {apos : Pos} (ho : Px X o g l (.str x)) (he : Px X e g l (.str y)) (hy : (y.length == 0) = false) (hz : x.length + 2 ≤ sizeLine)
    (hs : starEach [e] X.env = [(false, eval e X.env)] := by rfl) (hb : attributeBase o "split" X.env (eval o X.env) = eval o X.env := by rfl) (hline : (apos.endLine == pos.line) = true := by rfl) : Px X (.Call (.Attribute o "split" apos) [e] [] pos) g l (.lst ((Txt.split x y).map .str)) := (ev_split ho he hy hz hs hb hline).frz
theorem px_partition {x y : Str} {apos : Pos} (ho : Px X o g l (.str x)) (he : Px X e g l (.str y)) (hy : (y.length == 0) = false) (hz : x.length ≤ sizeLine)
    (hs : starEach [e] X.env = [(false, eval e X.env)] := by rfl) (hb : attributeBase o "partition" X.env (eval o X.env) = eval o X.env := by rfl) (hline : (apos.endLine == pos.line) = true := by rfl) :
    Px X (.Call (.Attribute o "partition" apos) [e] [] pos) g l (.tup [.str (Txt.partition x y).1, .str (Txt.partition x y).2.1, .str (Txt.partition x y).2.2]) := fun en T σ H Q s k =>
  wpE_of (pe_partition pe_wp pe_wp hs hb hline) (by
  refine ho en T σ H _ s fun v H1 s1 => ?_
  obtain ⟨F0, M0, q0⟩ := id s1
  have fv := q0.tm.1
  cases fv
  refine ⟨⟨x, rfl⟩, ?_⟩
  refine he en _ σ H1 _ s1 fun u H2 s2 => ?_
  obtain ⟨F, M, q⟩ := s2
  obtain ⟨f, t⟩ := q.tm
  cases f
  refine ⟨x, y, rfl, rfl, hy, hz, fun p hp => ?_⟩
  have n := New.upd (o := .tup [.str (Txt.partition x y).1, .str (Txt.partition x y).2.1, .str (Txt.partition x y).2.2]) q.exF hp
  exact k _ _ ⟨_, M, (q.new n).tmp ⟨.tup (SqT.of upd_same) (.cons (.str _) (.cons (.str _) (.cons (.str _) .nil))), T.mono n.f t.2⟩⟩)
end
section
variable {K : PySem.W.Frag} {l : List Res} {d d1 d2 : D} {ds es : List D}
theorem Op2.to {r : R2} {a b d d' : D} (h : Op2 K l r a b d) (q : d = d') : Op2 K l r a b d' := q ▸ h
theorem OpN.to {r : List V → Hp → VK → Prop} {as : List D} {d d' : D} (h : OpN K l r as d) (q : d = d') : OpN K l r as d' := q ▸ h
theorem o_intS {x : Str} {n : Int} (h : PySem.intText? x = some n) (hl : x.length ≤ 640) : OpN K l (fun xs H Q => ∃ a n, xs = [.str a] ∧ PySem.intText? a = some n ∧ a.length ≤ 640 ∧ Q (.int n) H) [.str x] (.int n) := fun F M H vs Q eF eM dj rs f k => by
  cases f with
  | cons f1 f2 =>
    cases f2; cases f1
    exact ⟨x, n, rfl, h, hl, k _ F H (.rf eF) (.int _)⟩
/-- a sign in a text -/
theorem o_inX {c : Nat} {z : Str} : Op2 K l (fun x y H Q => ∃ (c : Nat) (z : Str), x = .str ⟨#[c]⟩ ∧ y = .str z ∧ Q (.bl (decide (c ∈ z.cps.toList))) H) (.str ⟨#[c]⟩) (.str z) (.bl (decide (c ∈ z.cps.toList))) := fun F M H v u Q eF eM dj rs f1 f2 k => by
  cases f1; cases f2
  exact ⟨c, z, rfl, rfl, k _ F H (.rf eF) (.bl _)⟩
theorem o_any {bs : List Bool} (h : Lq K l d (bs.map .bl)) : OpN K l (rAny K) [d] (.bl (bs.any id)) := fun F M H vs Q eF eM dj rs f k => by
  cases f with
  | cons f1 f2 =>
    cases f2
    obtain ⟨a, ws, rfl, sq, f⟩ := h.get eF eM rs f1
    have e := f.bls
    subst e
    exact ⟨a, bs, rfl, sq, k _ F H (.rf eF) (.bl _)⟩
theorem o_all {bs : List Bool} (h : Lq K l d (bs.map .bl)) : OpN K l (rAll K) [d] (.bl (bs.all id)) := fun F M H vs Q eF eM dj rs f k => by
  cases f with
  | cons f1 f2 =>
    cases f2
    obtain ⟨a, ws, rfl, sq, f⟩ := h.get eF eM rs f1
    have e := f.bls
    subst e
    exact ⟨a, bs, rfl, sq, k _ F H (.rf eF) (.bl _)⟩
theorem o_sum {ns : List Int} (h : Lq K l d (ns.map .int)) : OpN K l (rSum K) [d] (.int ns.sum) := fun F M H vs Q eF eM dj rs f k => by
  cases f with
  | cons f1 f2 =>
    cases f2
    obtain ⟨a, ws, rfl, sq, f⟩ := h.get eF eM rs f1
    have e := f.ints
    subst e
    exact ⟨a, ns, rfl, sq, k _ F H (.rf eF) (.int _)⟩
/-- the greatest, the least of ints -/
def maxL : List Int → Int
  | [] => 0
  | [a] => a
  | a :: b :: r => max a (maxL (b :: r))
def minL : List Int → Int
  | [] => 0
  | [a] => a
  | a :: b :: r => min a (minL (b :: r))
theorem maxL_le : ∀ {ns : List Int} {y : Int}, y ∈ ns → y ≤ maxL ns
  | [a], y, h => by rw [List.mem_singleton] at h; subst h; exact Int.le_refl _
  | a :: b :: r, y, h => by
    show y ≤ max a (maxL (b :: r))
    rcases List.mem_cons.mp h with rfl | h
    · exact Int.le_max_left _ _
    · exact Int.le_trans (maxL_le h) (Int.le_max_right _ _)
theorem maxL_mem : ∀ {ns : List Int}, ns ≠ [] → maxL ns ∈ ns
  | [], h => absurd rfl h
  | [a], _ => List.mem_singleton.mpr rfl
  | a :: b :: r, _ => by
    show max a (maxL (b :: r)) ∈ _
    have ih := maxL_mem (ns := b :: r) (by simp)
    rw [Int.max_def]
    split
    · exact List.mem_cons_of_mem _ ih
    · exact List.mem_cons_self
theorem minL_le : ∀ {ns : List Int} {y : Int}, y ∈ ns → minL ns ≤ y
  | [a], y, h => by rw [List.mem_singleton] at h; subst h; exact Int.le_refl _
  | a :: b :: r, y, h => by
    show min a (minL (b :: r)) ≤ y
    rcases List.mem_cons.mp h with rfl | h
    · exact Int.min_le_left _ _
    · exact Int.le_trans (Int.min_le_right _ _) (minL_le h)
theorem minL_mem : ∀ {ns : List Int}, ns ≠ [] → minL ns ∈ ns
  | [], h => absurd rfl h
  | [a], _ => List.mem_singleton.mpr rfl
  | a :: b :: r, _ => by
    show min a (minL (b :: r)) ∈ _
    have ih := minL_mem (ns := b :: r) (by simp)
    rw [Int.min_def]
    split
    · exact List.mem_cons_self
    · exact List.mem_cons_of_mem _ ih
theorem o_maxL {ns : List Int} (h : Lq K l d (ns.map .int)) (hn : ns ≠ []) : OpN K l (rMax K) [d] (.int (maxL ns)) := fun F M H vs Q eF eM dj rs f k => by
  cases f with
  | cons f1 f2 =>
    cases f2
    obtain ⟨a, ws, rfl, sq, f⟩ := h.get eF eM rs f1
    have e := f.ints
    subst e
    refine ⟨a, ns, rfl, sq, List.length_pos_iff.mpr hn, fun m hm hy => ?_⟩
    have e : m = maxL ns := Int.le_antisymm (maxL_le hm) (hy _ (maxL_mem hn))
    subst e
    exact k _ F H (.rf eF) (.int _)
theorem o_minL {ns : List Int} (h : Lq K l d (ns.map .int)) (hn : ns ≠ []) : OpN K l (rMin K) [d] (.int (minL ns)) := fun F M H vs Q eF eM dj rs f k => by
  cases f with
  | cons f1 f2 =>
    cases f2
    obtain ⟨a, ws, rfl, sq, f⟩ := h.get eF eM rs f1
    have e := f.ints
    subst e
    refine ⟨a, ns, rfl, sq, List.length_pos_iff.mpr hn, fun m hm hy => ?_⟩
    have e : m = minL ns := Int.le_antisymm (hy _ (minL_mem hn)) (minL_le hm)
    subst e
    exact k _ F H (.rf eF) (.int _)
/-- len of any -/
theorem o_lenV (h : Sv K l d ds) : OpN K l (rLen1 K) [d] (.int ds.length) := fun F M H vs Q eF eM dj rs f k => by
  cases f with
  | cons f1 f2 =>
    cases f2
    obtain ⟨a, ws, rfl, sq, f⟩ := h.get eF eM rs f1
    refine ⟨a, ws, rfl, sq, ?_⟩
    rw [f.length]
    exact k _ F H (.rf eF) (.int _)
/-- an item of any list -/
theorem o_ixV {i : Int} (h : Lq K l d1 ds) (hi : atI ds i = some d) : Op2 K l (rIxL K) d1 (.int i) d := fun F M H v u Q eF eM dj rs f1 f2 k => by
  cases f2
  obtain ⟨a, ws, rfl, sq, f⟩ := h.get eF eM rs f1
  obtain ⟨w, h1, h2⟩ := atI_fd f hi
  exact ⟨_, _, i, w, rfl, rfl, sq, h1, k w F H (.rf eF) h2⟩
/-- == of lists, one owned -/
theorem Lv.dp {F M H : Hp} {v : V} {ps : List PyData} (h : Lv K l d ds) (eF : Ex F H) (eM : Ex M H) (rs : Rs l F M) (f : Fd K F v d) (hp : D.pys ds = some ps) : Dp K H v (.list ps) := by
  obtain ⟨a, vs, rfl, sq, f⟩ := h.get eF eM rs f
  exact .lst (SqL.of sq) (FdAll.dp eF ds f hp)
theorem o_eqV {q : PyData} {ps : List PyData} (hd : Lv K l d1 ds) (h1 : D.pys ds = some ps) (h2 : d2.py = some q) (s1 : SeqAt.shaped (.list ps) = true) (s2 : SeqAt.shaped q = true) : Op2 K l (rEqD K) d1 d2 (.bl (PyData.eqv (.list ps) q)) := fun F M H v u Q eF eM dj rs f1 f2 k =>
  ⟨.list ps, q, hd.dp eF eM rs f1 h1, Fd.dp eF _ f2 h2, s1, s2, k _ F H (.rf eF) (.bl _)⟩
theorem o_neV {q : PyData} {ps : List PyData} (hd : Lv K l d1 ds) (h1 : D.pys ds = some ps) (h2 : d2.py = some q) (s1 : SeqAt.shaped (.list ps) = true) (s2 : SeqAt.shaped q = true) : Op2 K l (rNeD K) d1 d2 (.bl (!PyData.eqv (.list ps) q)) := fun F M H v u Q eF eM dj rs f1 f2 k =>
  ⟨.list ps, q, hd.dp eF eM rs f1 h1, Fd.dp eF _ f2 h2, s1, s2, k _ F H (.rf eF) (.bl _)⟩
end
section
variable {X : Cx} {W : WX} {g g' : Gm} {l l' : List Res} {Φ : Po} {e e2 a b c o : Expr} {es : List Expr} {d d1 d2 d3 : D} {ds ds1 ds2 : List D} {pos p p2 : Pos} {rest : List Stmt}
/-- x.append(e), x an owned list -/
theorem blk_add {k : Nat} {q : Addr} {apos cpos : Pos} (ho : Px X o g l (.adr q)) (he : Px X e g l d) (hk : l[k]? = some (ownL X.K q ds)) (hz : ds.length < sizeLine) (h : Blk X W rest (g) (l.set k (ownL X.K q (ds ++ [d]))) Φ)
    (hp : PS X (.Expr (.Call (.Attribute o "append" apos) [e] [] cpos) pos) (tDrop (tBM X.K "list" rAppend (wpE X o) (tCons (wpE X e) tNil))) := by exact ps_expr (pe_bm PySem.F.plainAttrs_list PySem.F.slot_list_append PySem.F.type_list_append mt_append pe_wp (pa_cons pe_wp pa_nil))) :
    Blk X W (.Expr (.Call (.Attribute o "append" apos) [e] [] cpos) pos :: rest) g l Φ := blk_app ho he hk hz h hp
/-- x += e, ints -/
theorem blk_aug {i : Nat} {x : Str} {m n r : Int} {op : Operator} {f : Int → Int → Int} {pos' : Pos} (hN : X.N.Nodup) (hi : X.N[i]? = some x) (hx : Loc X.env.scope x) (hv : nth g i = some (.int m)) (he : Px X e g l (.int n)) (ho : PIp X op (ipI f)) (hr : f m n = r) (h : Blk X W rest (g.set i (some (.int r))) l Φ)
    (hf : X.fn x = true ∨ X.env.scope.names.lookup x = some .local := by first | exact .inl rfl | exact .inr rfl | assumption) : Blk X W (.AugAssign (.Name x pos') op e pos :: rest) g l Φ := fun en T σ H D s mm => wpS_of (pss_cons (ps_aug hN hi hx pe_wp ho hf) pss_wp) (by
  obtain ⟨F0, M0, q0⟩ := id s
  obtain ⟨v, hv', fv⟩ := q0.sl.nth hv
  cases fv
  refine ⟨.int m, hv', ?_⟩
  refine he en T σ H _ s fun u H1 s1 => ?_
  obtain ⟨F, M, q⟩ := s1
  obtain ⟨f1, t⟩ := q.tm
  cases f1
  refine ⟨m, n, rfl, rfl, ?_⟩
  rw [hr]
  exact h en T (σ.set i (some (.int r))) H1 D ⟨F, M, (q.tmp t).slots (q.sl.set i (.int r))⟩ mm)
/-- a target = e, any target -/
theorem blk_asg {tg : Expr} {gt : TG} {is : List Nat} {es : List D} (he : Px X e g l d) (hg : PG X tg gt) (ht : Tg X.K gt is d es) (h : Blk X W rest (sets g is es) l Φ) (hs : swapsWithSole [tg] e pos.line X.env = pure false := by rfl) (hw : swappedStores [tg] e X.env = pure none := by rfl) (h1 : (assignEach [tg] X.env).map (·.2) = [assign tg X.env] := by rfl) :
    Blk X W (.Assign [tg] e pos :: rest) g l Φ := fun en T σ H D s mm => wpS_of (pss_cons (ps_asg pe_wp hg hs hw h1) pss_wp) (by
  refine he en T σ H _ s fun u H1 s1 => ?_
  obtain ⟨F, M, q⟩ := s1
  obtain ⟨f1, t⟩ := q.tm
  exact ht F H1 u σ _ q.exF f1 fun vs fvs => h en T _ H1 D ⟨F, M, (q.tmp t).slots (q.sl.sets fvs)⟩ mm)
/-- for x in xs, xs an owned list that stays as it is -/
theorem blk_forO {tg iter : Expr} {body : List Stmt} {gt : TG} {is : List Nat} {q : Addr} {kk : Nat} (I : Nat → Gm → List Res → Prop) (hp : PassesOwn (model X.prog X.w) X.A X.env X.xe) (hc : X.calm = true) (hi : Px X iter g l (.adr q)) (hg : PG X tg gt) (h0 : I 0 g l)
    (hk : ∀ i g' l', I i g' l' → l'[kk]? = some (ownL X.K q ds))
    (hs : ∀ i d g' l', ds[i]? = some d → I i g' l' → ∃ es, Tg X.K gt is d es ∧ Blk X W body (sets g' is es) l' { nx := I (i + 1), ct := I (i + 1), bk := fun g2 l2 => Blk X W rest g2 l2 Φ, rt := Φ.rt, ex := Φ.ex })
    (hd : ∀ g' l', I ds.length g' l' → Blk X W rest g' l' Φ) (hf : ∀ x, foldedSetIterable iter X.env x = pure x := by intro _; rfl) : Blk X W (.For tg iter body [] pos :: rest) g l Φ := fun en T σ H D s m => by
  refine wpS_of (pss_cons (ps_for hp hc (pi_list pe_wp) hg pss_wp hf) pss_wp) ?_
  refine hi en T σ H _ s fun v H1 s1 => ?_
  obtain ⟨F0, M0, q0⟩ := s1
  have fv := q0.tm.1
  cases fv
  obtain ⟨vs0, _, hp0⟩ := q0.rs.own (hk 0 g l h0) q0.exM
  refine ⟨q, rfl, ⟨vs0, SqL.of hp0⟩, ?_⟩
  refine ⟨fun i m σ' H' => i + m = ds.length ∧ ∃ g' l', I i g' l' ∧ S X.K en g' T l' σ' H', ⟨ds.length, by simp, g, l, h0, F0, M0, q0.tmp q0.tm.2⟩, fun i n σ' H' hW => ?_⟩
  obtain ⟨em, g', l', hI, F, M, qq⟩ := hW
  obtain ⟨vs, fvs, hq⟩ := qq.rs.own (hk i g' l' hI) qq.exM
  cases n with
  | zero =>
    have e : i = ds.length := by omega
    subst e
    exact .inl ⟨⟨vs, SqL.of hq, by rw [fvs.length]; exact Nat.le_refl _⟩, hd g' l' hI en T σ' H' D ⟨F, M, qq⟩ m⟩
  | succ n =>
    have hi : i < ds.length := by omega
    have hi' : i < vs.length := by rw [fvs.length]; exact hi
    refine .inr ⟨⟨vs, vs[i], SqL.of hq, List.getElem?_eq_getElem hi'⟩, fun σ2 H2 => ∃ g2 l2, I (i + 1) g2 l2 ∧ S X.K en g2 T l2 σ2 H2, fun σ2 H2 ⟨g2, l2, h1, h2⟩ => ⟨n, by omega, by omega, g2, l2, h1, h2⟩, fun x H2 hy => ?_⟩
    obtain ⟨rfl, hx⟩ := hy
    have hx := hx vs (SqL.of hq)
    obtain ⟨w, h1, h2⟩ := fvs.get (List.getElem?_eq_getElem hi)
    rw [hx] at h1
    cases h1
    obtain ⟨es, htg, hb⟩ := hs i ds[i] g' l' (List.getElem?_eq_getElem hi) hI
    refine htg F _ x σ' _ qq.exF h2 fun vs fvs => ?_
    exact hb en T _ _ _ ⟨F, M, qq.slots (qq.sl.sets fvs)⟩ ⟨fun g2 l2 σ2 H2 h s2 => ⟨g2, l2, h, s2⟩, m.rt, fun g2 l2 σ2 H2 h s2 => h en T σ2 H2 D s2 m, fun g2 l2 σ2 H2 h s2 => ⟨g2, l2, h, s2⟩, m.ex⟩
end
end Sx
set_option Elab.async false
set_option linter.all false
set_option maxRecDepth 100000
set_option maxHeartbeats 2000000
/-! == of data that are alike. -/
namespace Sx
open PySem L2
theorem Dj.r' {A B C : Hp} (h : Dj C (join A B)) : Dj C B := fun x o e => (join_none (h x o e)).2
theorem nth_set : ∀ {g : Gm} {i : Nat} {d : D}, i < g.length → nth (g.set i (some d)) i = some d
  | [], _, _, h => absurd h (Nat.not_lt_zero _)
  | o :: _, 0, d, _ => by cases o <;> rfl
  | o :: g, i + 1, d, h => by
    have := nth_set (g := g) (i := i) (d := d) (Nat.lt_of_succ_lt_succ h)
    cases o <;> exact this
/-- a datum of plain things, at most k deep -/
def Dp' (k : Nat) (d : D) : Prop := ∃ p, d.py = some p ∧ p.canLay0 = true ∧ p.depth ≤ k
theorem Dp'.non {k : Nat} : Dp' k .non := ⟨_, rfl, rfl, Nat.zero_le _⟩
theorem Dp'.bl {k : Nat} {b : Bool} : Dp' k (.bl b) := ⟨_, rfl, rfl, Nat.zero_le _⟩
theorem Dp'.int {k : Nat} {i : Int} : Dp' k (.int i) := ⟨_, rfl, rfl, Nat.zero_le _⟩
theorem Dp'.str {k : Nat} {x : Str} (h : PySem.PyData.strOk x = true := by decide +kernel) : Dp' k (.str x) := ⟨_, rfl, h, Nat.zero_le _⟩
theorem Dp'.all {k : Nat} : ∀ {ds : List D}, (∀ d ∈ ds, Dp' k d) → ∃ ps, D.pys ds = some ps ∧ PyData.canLayAll0 ps = true ∧ PyData.depthAll ps ≤ k
  | [], _ => ⟨[], rfl, rfl, Nat.zero_le _⟩
  | d :: r, h => by
    obtain ⟨p, h1, h2, h3⟩ := h d List.mem_cons_self
    obtain ⟨ps, h4, h5, h6⟩ := Dp'.all (ds := r) fun z hz => h z (List.mem_cons_of_mem _ hz)
    refine ⟨p :: ps, ?_, ?_, ?_⟩
    · show (D.py d).bind (fun a => (D.pys r).map fun b => a :: b) = _
      rw [h1, h4]
      rfl
    · show (PyData.canLay0 p && PyData.canLayAll0 ps) = true
      rw [h2, h5]
      rfl
    · show max (PyData.depth p) (PyData.depthAll ps) ≤ k
      exact Nat.max_le.mpr ⟨h3, h6⟩
theorem Dp'.lst {k : Nat} {ds : List D} (h : ∀ d ∈ ds, Dp' k d) : Dp' (k + 1) (.lst ds) := by
  obtain ⟨ps, h1, h2, h3⟩ := Dp'.all h
  refine ⟨.list ps, ?_, h2, Nat.succ_le_succ h3⟩
  show (D.pys ds).map PyData.list = _
  rw [h1]
  rfl
theorem Dp'.tup {k : Nat} {ds : List D} (h : ∀ d ∈ ds, Dp' k d) : Dp' (k + 1) (.tup ds) := by
  obtain ⟨ps, h1, h2, h3⟩ := Dp'.all h
  refine ⟨.tuple ps, ?_, h2, Nat.succ_le_succ h3⟩
  show (D.pys ds).map PyData.tuple = _
  rw [h1]
  rfl
theorem Dp'.mono {j k : Nat} {d : D} (h : Dp' j d) (e : j ≤ k) : Dp' k d := let ⟨p, h1, h2, h3⟩ := h; ⟨p, h1, h2, Nat.le_trans h3 e⟩
theorem Dp'.ints {k : Nat} {ns : List Int} : ∀ d ∈ ns.map D.int, Dp' k d := fun d h => by
  obtain ⟨n, _, rfl⟩ := List.mem_map.mp h
  exact .int
theorem Dp'.strs {k : Nat} {ns : List Str} (h : ∀ n ∈ ns, PySem.PyData.strOk n = true) : ∀ d ∈ ns.map D.str, Dp' k d := fun d hd => by
  obtain ⟨n, hn, rfl⟩ := List.mem_map.mp hd
  exact .str (h n hn)
section
variable {K : PySem.W.Frag} {l : List Res} {d d1 d2 : D} {ds es : List D} {k : Nat}
theorem shaped_of {p : PyData} (h1 : p.canLay0 = true) (h2 : p.depth ≤ k) (h3 : k ≤ 64) : SeqAt.shaped p = true := by
  show (p.canLay0 && decide (p.depth ≤ 64)) = true
  rw [h1, decide_eq_true (Nat.le_trans h2 h3)]
  rfl
theorem o_eqR (h : Dp' k d) (hk : k ≤ 64 := by decide) : Op2 K l (rEqD K) d d (.bl true) := by
  obtain ⟨p, h1, h2, h3⟩ := h
  exact (o_eqD h1 h1 (shaped_of h2 h3 hk) (shaped_of h2 h3 hk)).to (congrArg D.bl (PySem.SeqAt.eqv_refl p h2))
theorem o_neR (h : Dp' k d) (hk : k ≤ 64 := by decide) : Op2 K l (rNeD K) d d (.bl false) := by
  obtain ⟨p, h1, h2, h3⟩ := h
  refine (o_neD h1 h1 (shaped_of h2 h3 hk) (shaped_of h2 h3 hk)).to (congrArg D.bl ?_)
  rw [PySem.SeqAt.eqv_refl p h2]
  rfl
theorem o_eqW (hd : Lv K l d1 ds) (h : Dp' k (.lst ds)) (hk : k ≤ 64 := by decide) : Op2 K l (rEqD K) d1 (.lst ds) (.bl true) := by
  obtain ⟨p, h1, h2, h3⟩ := h
  have h1' := h1
  unfold D.py at h1'
  obtain ⟨ps, h4, rfl⟩ := Option.map_eq_some_iff.mp h1'
  exact (o_eqV hd h4 h1 (shaped_of h2 h3 hk) (shaped_of h2 h3 hk)).to (congrArg D.bl (PySem.SeqAt.eqv_refl _ h2))
theorem o_neW (hd : Lv K l d1 ds) (h : Dp' k (.lst ds)) (hk : k ≤ 64 := by decide) : Op2 K l (rNeD K) d1 (.lst ds) (.bl false) := by
  obtain ⟨p, h1, h2, h3⟩ := h
  have h1' := h1
  unfold D.py at h1'
  obtain ⟨ps, h4, rfl⟩ := Option.map_eq_some_iff.mp h1'
  refine (o_neV hd h4 h1 (shaped_of h2 h3 hk) (shaped_of h2 h3 hk)).to (congrArg D.bl ?_)
  rw [PySem.SeqAt.eqv_refl _ h2]
  rfl
end
section
variable {X : Cx} {W : WX} {g : Gm} {l l' : List Res} {Φ : Po}
/-- what is owned is given up -/
theorem S.dropO {K : PySem.W.Frag} {en : En} {T : Tm} {σ : L2.St} {H : Hp} (s : S K en g T (l' ++ l) σ H) : S K en g T l σ H := by
  obtain ⟨F, M, a⟩ := s
  obtain ⟨A, B, rfl, dj, r1, r2⟩ := a.rs.split
  exact ⟨F, B, a.exF, a.exM.joinR dj, Dj.r' a.dj, a.eF, a.nF, fun x o h => a.nM x o (by rw [join_r (dj.sym x o h)]; exact h), a.fr, a.sl, a.tm, r2⟩
theorem Blk.dropO {sts : List Stmt} (h : Blk X W sts g l Φ) : Blk X W sts g (l' ++ l) Φ := fun en T σ H D s m => h en T σ H D s.dropO m
theorem blk_frzAll {sts : List Stmt} (h : Blk X W sts g [] Φ) : Blk X W sts g l Φ := fun en T σ H D s m => h en T σ H D (S.dropO (l' := l) (by rw [List.append_nil]; exact s)) m
/-- x = [..] on one line, the list not changed behind it -/
theorem Blk.frz' {sts : List Stmt} {p : Addr} {ds : List D} {i : Nat} (hi : i < g.length) (k : Blk X W sts (g.set i (some (.lst ds))) l Φ) : Blk X W sts (g.set i (some (.adr p))) (ownL X.K p ds :: l) Φ := by
  refine Blk.frz (i := i) ?_ ?_
  · exact nth_set hi
  · rw [List.set_set]
    exact k
variable {rest : List Stmt} {pos : Pos} {c : Expr}
theorem blk_setLc {tg iter elt : Expr} {scope : Scope} {own : List (Str × Nat)} {gt : TG} {is : List Nat} {ds rs : List D} {i : Nat} {y : Str} {py spos : Pos} (hN : X.N.Nodup) (hy : X.N[i]? = some y) (hyl : X.env.scope.names.lookup y = some .local) (hil : i < g.length) (hc : X.calm = true)
    (hi : Itw X tg iter g l ds) (ok : BlkOk X.N X.env.scope scope own)
    (hg : Blkc X scope fun Y => PG Y tg gt) (his : ∀ i ∈ is, i ∈ own.map (·.2)) (hlen : rs.length = ds.length) (hz : rs.length ≤ sizeLine)
    (hs : ∀ (i : Nat) (d : D), ds[i]? = some d → ∃ es r, Tg X.K gt is d es ∧ rs[i]? = some r ∧ Blkc X scope fun Y => Px Y elt (sets (wipeG g (own.map (·.2))) is es) l r)
    (h : Blk X W rest (g.set i (some (.lst rs))) l Φ) (hsw : swapsWith (.ListComp elt [⟨tg, iter, [], 0⟩] scope pos) (some (.Name y py)) spos.line X.env = pure true := by rfl) (hf : ∀ x, foldedSetIterable iter X.env x = pure x := by intro _; rfl) : Blk X W (.Assign [.Name y py] (.ListComp elt [⟨tg, iter, [], 0⟩] scope pos) spos :: rest) g l Φ :=
  blk_setLcO hc hN hy hyl hsw hi ok hg his hlen hz hs (fun p => Blk.frz' hil h) hf
theorem blk_setLcIf {tg iter elt : Expr} {scope : Scope} {own : List (Str × Nat)} {gt : TG} {is : List Nat} {ds : List D} {rs : List (Option D)} {i : Nat} {y : Str} {py spos : Pos} (hN : X.N.Nodup) (hy : X.N[i]? = some y) (hyl : X.env.scope.names.lookup y = some .local) (hil : i < g.length) (hc : X.calm = true)
    (hi : Itw X tg iter g l ds) (ok : BlkOk X.N X.env.scope scope own)
    (hg : Blkc X scope fun Y => PG Y tg gt) (his : ∀ i ∈ is, i ∈ own.map (·.2)) (hlen : rs.length = ds.length) (hz : rs.length ≤ sizeLine)
    (hs : ∀ (i : Nat) (d : D), ds[i]? = some d → ∃ es k r, Tg X.K gt is d es ∧ rs[i]? = some (if k = true then some r else none) ∧ (Blkc X scope fun Y => Ts Y c (sets (wipeG g (own.map (·.2))) is es) l k) ∧ (k = true → Blkc X scope fun Y => Px Y elt (sets (wipeG g (own.map (·.2))) is es) l r))
    (h : Blk X W rest (g.set i (some (.lst (keepL rs)))) l Φ) (hsw : swapsWith (.ListComp elt [⟨tg, iter, [c], 0⟩] scope pos) (some (.Name y py)) spos.line X.env = pure true := by rfl) (hf : ∀ x, foldedSetIterable iter X.env x = pure x := by intro _; rfl) : Blk X W (.Assign [.Name y py] (.ListComp elt [⟨tg, iter, [c], 0⟩] scope pos) spos :: rest) g l Φ :=
  blk_setLcIfO hc hN hy hyl hsw hi ok hg his hlen hz hs (fun p => Blk.frz' hil h) hf
/-- a call of a def that takes nothing owned -/
theorem ev_callV {α : Type} {ok : α → Prop} {args : α → List D} {post : α → D → List Res → Prop} {x : Str} {ps : List Str} {k j : Nat} {e : Expr} {es : List Expr} {p : Pos}
    (G : Glo X.prog X.w X.K X.mg X.base k x ps (FnX X.K ok args (fun _ => []) post noE)) (hr : Room j X.A) (hj : k ≤ j) (a : α) (hok : ok a) (ha : Pa X (e :: es) g l (args a))
    (hg : Gl X x := by rfl) (hdb : (x == ("__debug__" : Str)) = false := by decide) (he : starEach (e :: es) X.env = (false, eval e X.env) :: starEach es X.env := by rfl) (hpl : (backTo pos (starEach es X.env)).any (·.1) = false := by rfl) :
    Ev X (.Call (.Name x p) (e :: es) [] pos) g l (fun d l2 => ∃ l', post a d l' ∧ l2 = l' ++ l) :=
  ev_call (lr := l) (own := fun _ => []) G hr hj a hok ha (fun d l' h => ⟨l', h, rfl⟩) hg hdb he hpl
end
end Sx
set_option Elab.async false
set_option linter.all false
set_option maxRecDepth 100000
set_option maxHeartbeats 2000000
/-! The head: what the top has written, told by names. -/
namespace Sx
open PySem L2
def isiB (K : PySem.W.Frag) (C : Addr) : Bool := decide (PySem.W.findIn K (.ref C) "__class__" = some (some (.builtin "object.__class__"))) && (decide (PySem.W.specialIn K (.builtin "object.__class__") "__get__" = some (some (.builtin "getset_descriptor.__get__"))) && (decide (PySem.W.takesIn K (.builtin "object.__class__") = some true) && decide (PySem.W.mroIn K C (.type "object") = some true)))
theorem isiB_ok {K : PySem.W.Frag} {C : Addr} (h : isiB K C = true) : Isi K C := by
  obtain ⟨h1, h⟩ := He.ba h
  obtain ⟨h2, h⟩ := He.ba h
  obtain ⟨h3, h4⟩ := He.ba h
  exact ⟨of_decide_eq_true h1, of_decide_eq_true h2, of_decide_eq_true h3, of_decide_eq_true h4⟩
/-- one more fact -/
inductive Fb where
  | isi (x : Str)
  | kit (x y : Str) (b : Bool)
  | mk0 (x : Str)
def Fb.ok (K : PySem.W.Frag) : Fb → Bool
  | .isi x => isiB K (He.ga K x)
  | .kit x y b => decide (PySem.W.kitOne K (.ref (He.ga K x)) (.ref (He.ga K y)) = some b)
  | .mk0 x => PySem.W.makesIn K (He.ga K x) && decide (PySem.W.findIn K (.ref (He.ga K x)) "__init__" = some (some (.builtin "object.__init__")))
def exB (fb : List Fb) (K : PySem.W.Frag) : Bool := fb.all fun f => f.ok K
section
variable {K : PySem.W.Frag} {h : Heap} {mg : Str → Option Value} {fb : List Fb} {w : World} {fa : List He.Fa} {fn : List He.DefD}
theorem fb_at (c : exB fb K = true) (i : Nat) {f : Fb} (h : fb[i]? = some f := by rfl) : f.ok K = true := List.all_eq_true.mp c f (List.mem_of_getElem? h)
theorem kit_ok {x y : Str} {b : Bool} (h : (Fb.kit x y b).ok K = true) : PySem.W.kitOne K (.ref (He.ga K x)) (.ref (He.ga K y)) = some b := of_decide_eq_true h
theorem mk0_ok {x : Str} (h : (Fb.mk0 x).ok K = true) (k : (He.Fa.keep x).ok K = true) : Mk0 K (He.ga K x) := by
  obtain ⟨h1, h2⟩ := He.ba h
  exact ⟨h1, He.keep_ok k, of_decide_eq_true h2⟩
theorem fun_of {x qual : Str} {st : Stmt} {f : Addr} {fd : FuncData} (F : FunD K x qual (defArgs st) (defBody st) (defScope st) [] [] f fd) : Fun K x qual st f fd := by
  obtain ⟨oc, od, dV, kV, doc, pm, an, cdv, ct, osl, e, lk, hcd, hD, hK⟩ := F.ex
  rcases hD with ⟨_, rfl⟩ | ⟨z, _⟩
  · exact ⟨⟨oc, od, kV, doc, pm, an, cdv, ct, osl, e, lk, hcd⟩, F.kp⟩
  · exact absurd rfl z
abbrev dD (x : Str) (st : Stmt) : He.DefD := ⟨(x, none), x, x, defArgs st, defBody st, defScope st, [], []⟩
abbrev dM (C m qual : Str) (st : Stmt) : He.DefD := ⟨(C, some m), m, qual, defArgs st, defBody st, defScope st, [], []⟩
theorem dfn_of {x : Str} {st : Stmt} (c : He.SaysD fa fn K) (G : mg x = some (.ref (He.ga K x))) (i : Nat) (e : fn[i]? = some (dD x st) := by rfl) : Dfn K mg x st := by
  obtain ⟨fd, F⟩ := c.def_ i e
  exact ⟨_, fd, fun_of F, G⟩
theorem dmt_of {C m qual : Str} {st : Stmt} (c : He.SaysD fa fn K) (M : Meth K (He.ga K C) m (He.ma K (He.ga K C) m)) (i : Nat) (e : fn[i]? = some (dM C m qual st) := by rfl) : Dmt K (He.ga K C) m qual st := by
  obtain ⟨fd, F⟩ := c.def_ i e
  exact ⟨_, fd, fun_of F, M⟩
theorem din_of {C qual : Str} {st : Stmt} (c : He.SaysD fa fn K) (M : Mk K (He.ga K C) (He.ma K (He.ga K C) "__init__")) (i : Nat) (e : fn[i]? = some (dM C "__init__" qual st) := by rfl) : Din K (He.ga K C) qual st := by
  obtain ⟨fd, F⟩ := c.def_ i e
  exact ⟨_, fd, fun_of F, M⟩
end
end Sx
set_option Elab.async false
set_option linter.all false
set_option maxRecDepth 100000
set_option maxHeartbeats 4000000
namespace Lw
open PySem L2 Sx
/-! ### plain: bags as texts, and back -/
def numS (i : Int) : Str := Str.ofString (toString i)
def N10 (i : Int) : Prop := 0 ≤ i ∧ i < 10000000000
theorem szS {n : Nat} (h : n ≤ 10000) : n ≤ sizeLine := Nat.le_trans h (by decide)
theorem numS_tl {i : Int} (h : 0 ≤ i) : TL.tl (numS i) = TL.numL i.toNat := by
  obtain ⟨n, rfl⟩ : ∃ n : Nat, i = (n : Int) := ⟨i.toNat, by omega⟩
  rw [Int.toNat_natCast]
  exact TL.tl_num n
theorem numS_len {i : Int} (h : N10 i) : 1 ≤ (numS i).length ∧ (numS i).length ≤ 10 := by
  rw [TL.len_tl, numS_tl h.1]
  refine ⟨?_, TL.numL_len (by decide) (by have := h.2; have := h.1; omega)⟩
  have := TL.numL_ne i.toNat
  cases e : TL.numL i.toNat with
  | nil => exact absurd e this
  | cons a r => simp
theorem numS_free {i : Int} {s : Nat} (h : 0 ≤ i) (hs : s < 48 ∨ 57 < s) : s ∉ TL.tl (numS i) := by
  rw [numS_tl h]
  exact TL.numL_free hs
theorem numS_int {i : Int} (h : N10 i) : PySem.intText? (numS i) = some i := by
  obtain ⟨n, rfl⟩ : ∃ n : Nat, i = (n : Int) := ⟨i.toNat, by have := h.1; omega⟩
  refine TL.int_num ?_
  exact Nat.le_trans (TL.numL_len (k := 10) (by decide) (by have := h.2; omega)) (by decide)
theorem numS_log {i : Int} (h : N10 i) : i.natAbs.log2 < 1920 := by
  have h0 := h.1
  have h1 := h.2
  have h : i.natAbs < 10 ^ 12 := by omega
  rcases Nat.eq_zero_or_pos i.natAbs with z | z
  · rw [z]; decide
  · have := (Nat.log2_lt (k := 40) (show i.natAbs ≠ 0 by omega)).mpr (Nat.lt_of_lt_of_le h (by decide))
    omega
/-- the first sign -/
theorem numL_head (n : Nat) (hn : 0 < n) : ∃ a r, TL.numL n = a :: r ∧ a ≠ 48 := by
  induction n using Nat.strongRecOn with
  | _ n ih =>
    by_cases h : n < 10
    · exact ⟨48 + n, [], TL.numL_lt h, by omega⟩
    · obtain ⟨a, r, e, h2⟩ := ih (n / 10) (by omega) (by omega)
      exact ⟨a, r ++ [48 + n % 10], by rw [TL.numL_step (by omega), e]; rfl, h2⟩
abbrev figs : Str := "0123456789"
theorem digit_in {c : Nat} (h : 48 ≤ c ∧ c ≤ 57) : c ∈ figs.cps.toList := by
  have e : figs.cps.toList = [48, 49, 50, 51, 52, 53, 54, 55, 56, 57] := by decide +kernel
  rw [e]
  simp only [List.mem_cons, List.not_mem_nil, or_false]
  omega
theorem numS_all {i : Int} (h : 0 ≤ i) : ((TL.tl (numS i)).map fun c => decide (c ∈ figs.cps.toList)).all id = true := by
  rw [List.all_map]
  refine List.all_eq_true.mpr fun c hc => ?_
  rw [numS_tl h] at hc
  have := TL.numL_digits _ c hc
  exact decide_eq_true (digit_in this)
theorem numS_first {i : Int} (h : N10 i) : numS i = "0" ∨ ∃ c r, TL.tl (numS i) = c :: r ∧ (⟨#[c]⟩ : Str) ≠ "0" := by
  by_cases z : i = 0
  · subst z
    exact .inl (by decide +kernel)
  · obtain ⟨a, r, e, h2⟩ := numL_head i.toNat (by have := h.1; omega)
    refine .inr ⟨a, r, by rw [numS_tl h.1, e], fun q => h2 ?_⟩
    have e1 : TL.tl (⟨#[a]⟩ : Str) = [48] := by rw [q]; decide +kernel
    exact (List.cons.inj e1).1
abbrev Bg := Int × Int × List Int
structure OkB (b : Bg) : Prop where
  t : N10 b.1
  r : N10 b.2.1
  n : ∀ n ∈ b.2.2, N10 n
  ne : b.2.2 ≠ []
  le : b.2.2.length ≤ 4
def bagD (b : Bg) : D := .tup [.int b.1, .int b.2.1, .tup (b.2.2.map .int)]
abbrev blank : Str := " "
def headS (b : Bg) : Str := numS b.1 ++ " " ++ numS b.2.1
def tailS (b : Bg) : Str := Txt.join " " (b.2.2.map numS)
def bagS (b : Bg) : Str := numS b.1 ++ " " ++ numS b.2.1 ++ ": " ++ Txt.join " " (b.2.2.map numS)
def planS (bs : List Bg) : Str := Txt.join "; " (bs.map bagS)
def lineSt (s : Str) (ns : List Int) : Str := ns.foldl (fun s n => s ++ " " ++ numS n) s
def lineS (b : Bg) : Str := lineSt (numS b.1 ++ " " ++ numS b.2.1 ++ ":") b.2.2
theorem tl_blank : TL.tl " " = [32] := by decide +kernel
theorem tl_col : TL.tl ": " = [58, 32] := by decide +kernel
theorem tl_semi : TL.tl "; " = [59, 32] := by decide +kernel
/-- the text of the letters, each behind a blank -/
theorem lineSt_tl : ∀ (ns : List Int) (s : Str), TL.tl (lineSt s ns) = TL.tl s ++ (ns.map fun n => 32 :: TL.tl (numS n)).flatten
  | [], s => by show TL.tl s = _; simp
  | n :: r, s => by
    show TL.tl (lineSt (s ++ " " ++ numS n) r) = _
    rw [lineSt_tl r, TL.tl_append, TL.tl_append, tl_blank]
    simp
theorem join_tl : ∀ (ns : List Int), ns ≠ [] → 32 :: TL.tl (Txt.join " " (ns.map numS)) = (ns.map fun n => 32 :: TL.tl (numS n)).flatten
  | [], h => absurd rfl h
  | [n], _ => by
    rw [TL.join_eq]
    show 32 :: TL.tl (numS n) = _
    simp
  | n :: m :: r, _ => by
    have ih := join_tl (m :: r) (by simp)
    rw [TL.join_eq, TL.tl_join] at ih ⊢
    show 32 :: (TL.tl (numS n) ++ (TL.tl " " ++ TL.joinL (TL.tl " ") (((m :: r).map numS).map TL.tl))) = _
    rw [tl_blank] at ih ⊢
    show _ = (32 :: TL.tl (numS n)) ++ ((m :: r).map fun n => 32 :: TL.tl (numS n)).flatten
    rw [← ih]
    simp
theorem line_bag {b : Bg} (h : OkB b) : lineS b = bagS b := by
  apply TL.ext_tl
  unfold lineS bagS
  rw [lineSt_tl, ← join_tl _ h.ne]
  simp only [TL.tl_append, tl_col]
  have e : TL.tl ":" = [58] := by decide +kernel
  rw [e]
  simp
/-! reading -/
theorem bag_eq (b : Bg) : bagS b = headS b ++ ": " ++ tailS b := rfl
theorem head_free {b : Bg} (h : OkB b) {s : Nat} (hs : s < 48 ∨ 57 < s) (h32 : s ≠ 32) : s ∉ TL.tl (headS b) := by
  unfold headS
  rw [TL.tl_append, TL.tl_append, tl_blank]
  intro q
  rcases List.mem_append.mp q with q | q
  · rcases List.mem_append.mp q with q | q
    · exact numS_free h.t.1 hs q
    · exact h32 (List.mem_singleton.mp q)
  · exact numS_free h.r.1 hs q
theorem flat_free {ns : List Int} (h : ∀ n ∈ ns, N10 n) {s : Nat} (hs : s < 48 ∨ 57 < s) (h32 : s ≠ 32) : s ∉ (ns.map fun n => 32 :: TL.tl (numS n)).flatten := by
  intro q
  obtain ⟨l, hl, hm⟩ := List.mem_flatten.mp q
  obtain ⟨n, hn, rfl⟩ := List.mem_map.mp hl
  rcases List.mem_cons.mp hm with e | e
  · exact h32 e
  · exact numS_free (h n hn).1 hs e
theorem bag_free {b : Bg} (h : OkB b) : 59 ∉ TL.tl (bagS b) := by
  rw [← line_bag h]
  unfold lineS
  rw [lineSt_tl]
  have e : TL.tl ":" = [58] := by decide +kernel
  intro q
  rcases List.mem_append.mp q with q | q
  · rw [TL.tl_append, e] at q
    rcases List.mem_append.mp q with q | q
    · exact head_free h (by omega) (by omega) q
    · exact absurd (List.mem_singleton.mp q) (by decide)
  · exact flat_free h.n (by omega) (by omega) q
theorem part_bag {b : Bg} (h : OkB b) : Txt.partition (bagS b) ": " = (headS b, (": " : Str), tailS b) := by
  rw [bag_eq]
  exact TL.partition_app tl_col (head_free h (by omega) (by omega))
theorem split_head {b : Bg} (h : OkB b) : Txt.split (headS b) " " = [numS b.1, numS b.2.1] := by
  have e : headS b = Txt.join " " [numS b.1, numS b.2.1] := by
    rw [TL.join_eq]
    rfl
  rw [e]
  refine TL.split_join tl_blank (by decide +kernel) (by simp) fun p hp => ?_
  simp only [List.mem_cons, List.not_mem_nil, or_false] at hp
  rcases hp with rfl | rfl
  · exact numS_free h.t.1 (by omega)
  · exact numS_free h.r.1 (by omega)
theorem split_tail {b : Bg} (h : OkB b) : Txt.split (tailS b) " " = b.2.2.map numS := by
  refine TL.split_join tl_blank (by decide +kernel) (by simpa using h.ne) fun p hp => ?_
  obtain ⟨n, hn, rfl⟩ := List.mem_map.mp hp
  exact numS_free (h.n n hn).1 (by omega)
theorem split_plan {bs : List Bg} (h : ∀ b ∈ bs, OkB b) (hne : bs ≠ []) : Txt.split (planS bs) "; " = bs.map bagS := by
  refine TL.split_join tl_semi (by decide +kernel) (by simpa using hne) fun p hp => ?_
  obtain ⟨b, hb, rfl⟩ := List.mem_map.mp hp
  exact bag_free (h b hb)
theorem plan_ne {bs : List Bg} (hne : bs ≠ []) : planS bs ≠ "" := by
  cases bs with
  | nil => exact absurd rfl hne
  | cons b r =>
    intro e
    have e2 := congrArg TL.tl e
    unfold planS at e2
    have z : TL.tl ("" : Str) = [] := by decide +kernel
    rw [TL.join_eq, TL.tl_join, z] at e2
    have q : 32 ∈ TL.tl (bagS b) := by
      unfold bagS
      simp only [TL.tl_append, tl_blank]
      simp
    have : (32 : Nat) ∈ TL.joinL (TL.tl "; ") (((b :: r).map bagS).map TL.tl) := by
      cases r with
      | nil => exact q
      | cons c r => exact List.mem_append_left _ q
    rw [e2] at this
    cases this
theorem plan_nil : planS [] = "" := by decide +kernel
/-! sizes -/
theorem joinL_len {S : List Nat} {k : Nat} : ∀ {ps : List (List Nat)}, (∀ p ∈ ps, p.length ≤ k) → (TL.joinL S ps).length ≤ ps.length * (k + S.length)
  | [], _ => Nat.zero_le _
  | [p], h => by
    have := h p List.mem_cons_self
    show p.length ≤ 1 * _
    omega
  | p :: q :: r, h => by
    have h1 := h p List.mem_cons_self
    have h2 := joinL_len (S := S) (ps := q :: r) fun z hz => h z (List.mem_cons_of_mem _ hz)
    show (p ++ (S ++ TL.joinL S (q :: r))).length ≤ ((q :: r).length + 1) * (k + S.length)
    rw [List.length_append, List.length_append, Nat.add_mul]
    omega
theorem tail_len {b : Bg} (h : OkB b) : (tailS b).length ≤ 44 := by
  unfold tailS
  rw [TL.join_eq, TL.len_tl, TL.tl_join]
  refine Nat.le_trans (joinL_len (k := 10) fun p hp => ?_) ?_
  · obtain ⟨z, hz, rfl⟩ := List.mem_map.mp hp
    obtain ⟨n, hn, rfl⟩ := List.mem_map.mp hz
    rw [← TL.len_tl]
    exact (numS_len (h.n n hn)).2
  · rw [tl_blank, List.length_map, List.length_map]
    have := h.le
    show _ * (10 + 1) ≤ 44
    omega
theorem head_len {b : Bg} (h : OkB b) : (headS b).length ≤ 21 := by
  unfold headS
  rw [TL.len_tl, TL.tl_append, TL.tl_append, tl_blank, List.length_append, List.length_append, ← TL.len_tl, ← TL.len_tl]
  have := (numS_len h.t).2
  have := (numS_len h.r).2
  show _ + 1 + _ ≤ 21
  omega
theorem bag_len {b : Bg} (h : OkB b) : (bagS b).length ≤ 70 := by
  rw [bag_eq, TL.len_tl, TL.tl_append, TL.tl_append, tl_col, List.length_append, List.length_append, ← TL.len_tl, ← TL.len_tl]
  have := head_len h
  have := tail_len h
  show _ + 2 + _ ≤ 70
  omega
theorem plan_len {bs : List Bg} (h : ∀ b ∈ bs, OkB b) (hl : bs.length ≤ 60) : (planS bs).length ≤ 5000 := by
  unfold planS
  rw [TL.join_eq, TL.len_tl, TL.tl_join]
  refine Nat.le_trans (joinL_len (k := 70) fun p hp => ?_) ?_
  · obtain ⟨z, hz, rfl⟩ := List.mem_map.mp hp
    obtain ⟨n, hn, rfl⟩ := List.mem_map.mp hz
    rw [← TL.len_tl]
    exact bag_len (h n hn)
  · rw [tl_semi, List.length_map, List.length_map]
    show _ * (70 + 2) ≤ 5000
    omega
theorem sum_le {k : Nat} : ∀ {ns : List Nat}, (∀ n ∈ ns, n ≤ k) → ns.sum ≤ ns.length * k
  | [], _ => Nat.zero_le _
  | n :: r, h => by
    have h1 := h n List.mem_cons_self
    have h2 := sum_le (ns := r) fun m hm => h m (List.mem_cons_of_mem _ hm)
    rw [List.sum_cons, List.length_cons, Nat.add_mul]
    omega
/-! the law's own bags -/
def pick4 (n : Int) : Int := [n % 41, n, 0, 10000000000 - 1 - n].getD (n / 64 % 4).toNat 0
def bgNext (n : Int) : Int := (n * 16807 + 7) % 2147483647
def bgSt (cell : Int) : Nat → Int × List Int
  | 0 => (cell * 48271 % 2147483647, [cell % 10000000000])
  | i + 1 => (bgNext (bgSt cell i).1, (bgSt cell i).2 ++ [pick4 (bgNext (bgSt cell i).1)])
def lawBag (cell : Int) : Bg :=
  let s := bgSt cell (cell * 48271 % 2147483647 % 4).toNat
  ([s.1 % 50, cell / 7 % 10000000000].getD (s.1 / 8 % 2).toNat 0, s.1 / 16 % 40, s.2)
theorem bgSt_ok (cell : Int) : ∀ i, (0 ≤ (bgSt cell i).1 ∧ (bgSt cell i).1 < 2147483647) ∧ (bgSt cell i).2.length = i + 1 ∧ ∀ n ∈ (bgSt cell i).2, N10 n
  | 0 => by
    refine ⟨by show 0 ≤ cell * 48271 % 2147483647 ∧ cell * 48271 % 2147483647 < 2147483647; omega, rfl, fun n hn => ?_⟩
    have e : n = cell % 10000000000 := List.mem_singleton.mp hn
    subst e
    exact ⟨by omega, by omega⟩
  | i + 1 => by
    obtain ⟨h1, h2, h3⟩ := bgSt_ok cell i
    have hb : 0 ≤ bgNext (bgSt cell i).1 ∧ bgNext (bgSt cell i).1 < 2147483647 := by unfold bgNext; omega
    refine ⟨hb, by show ((bgSt cell i).2 ++ [_]).length = _; rw [List.length_append, h2]; rfl, fun n hn => ?_⟩
    rcases List.mem_append.mp (show n ∈ (bgSt cell i).2 ++ [pick4 (bgNext (bgSt cell i).1)] from hn) with q | q
    · exact h3 n q
    · rw [List.mem_singleton.mp q]
      generalize bgNext (bgSt cell i).1 = m at hb
      unfold pick4
      have hk : (m / 64 % 4).toNat < 4 := by omega
      rcases (show (m / 64 % 4).toNat = 0 ∨ (m / 64 % 4).toNat = 1 ∨ (m / 64 % 4).toNat = 2 ∨ (m / 64 % 4).toNat = 3 by omega) with e | e | e | e <;> rw [e]
      · show N10 (m % 41); exact ⟨by omega, by omega⟩
      · show N10 m; exact ⟨by omega, by omega⟩
      · show N10 0; exact ⟨by omega, by omega⟩
      · show N10 (10000000000 - 1 - m); exact ⟨by omega, by omega⟩
theorem lawBag_ok (cell : Int) : OkB (lawBag cell) := by
  obtain ⟨h1, h2, h3⟩ := bgSt_ok cell (cell * 48271 % 2147483647 % 4).toNat
  refine ⟨?_, ?_, h3, ?_, ?_⟩
  · show N10 ([_, _].getD _ 0)
    generalize (bgSt cell (cell * 48271 % 2147483647 % 4).toNat).1 = m at h1 ⊢
    rcases (show (m / 8 % 2).toNat = 0 ∨ (m / 8 % 2).toNat = 1 by omega) with e | e <;> rw [e]
    · show N10 (m % 50); exact ⟨by omega, by omega⟩
    · show N10 (cell / 7 % 10000000000); exact ⟨by omega, by omega⟩
  · show N10 (_ / 16 % 40)
    exact ⟨by omega, by omega⟩
  · show (bgSt cell _).2 ≠ []
    intro z
    rw [z] at h2
    cases h2
  · show (bgSt cell _).2.length ≤ 4
    rw [h2]
    omega
end Lw
set_option Elab.async false
set_option linter.all false
set_option maxRecDepth 100000
set_option maxHeartbeats 4000000
namespace Lw
open PySem L2 Sx
def top (i : Nat) : Stmt := PySem.Challenge.pw_postroad_k81_plans_as_texts.main.body.getD i (.Pass ⟨0, 0, 0, 0⟩)
abbrev s_is_number : Stmt := top 5
abbrev s_show_bag : Stmt := top 6
abbrev s_show_plan : Stmt := top 7
abbrev s_read_bag : Stmt := top 8
abbrev s_read_plan : Stmt := top 9
abbrev s_law_bag : Stmt := top 11
abbrev s_law_line : Stmt := top 12
abbrev s_law_read : Stmt := top 13
abbrev s_law : Stmt := top 14
abbrev ns_is_number : List Str := ["word", "sign"]
theorem cs_is_number : FnScope ns_is_number ["word"] (defScope s_is_number) := ⟨rfl, rfl, rfl, by decide +kernel, rfl, by decide +kernel, by decide +kernel⟩
abbrev ns_show_bag : List Str := ["bag", "n"]
theorem cs_show_bag : FnScope ns_show_bag ["bag"] (defScope s_show_bag) := ⟨rfl, rfl, rfl, by decide +kernel, rfl, by decide +kernel, by decide +kernel⟩
abbrev ns_show_plan : List Str := ["plan", "bag"]
theorem cs_show_plan : FnScope ns_show_plan ["plan"] (defScope s_show_plan) := ⟨rfl, rfl, rfl, by decide +kernel, rfl, by decide +kernel, by decide +kernel⟩
abbrev ns_read_bag : List Str := ["text", "head", "colon", "tail", "words", "numbers", "word"]
theorem cs_read_bag : FnScope ns_read_bag ["text"] (defScope s_read_bag) := ⟨rfl, rfl, rfl, by decide +kernel, rfl, by decide +kernel, by decide +kernel⟩
abbrev ns_read_plan : List Str := ["text", "part"]
theorem cs_read_plan : FnScope ns_read_plan ["text"] (defScope s_read_plan) := ⟨rfl, rfl, rfl, by decide +kernel, rfl, by decide +kernel, by decide +kernel⟩
abbrev ns_law_bag : List Str := ["_law_cell", "_law_n", "_law_some", "_law_k"]
theorem cs_law_bag : FnScope ns_law_bag ["_law_cell"] (defScope s_law_bag) := ⟨rfl, rfl, rfl, by decide +kernel, rfl, by decide +kernel, by decide +kernel⟩
abbrev ns_law_line : List Str := ["_law_bag_here", "_law_line_here", "_law_n"]
theorem cs_law_line : FnScope ns_law_line ["_law_bag_here"] (defScope s_law_line) := ⟨rfl, rfl, rfl, by decide +kernel, rfl, by decide +kernel, by decide +kernel⟩
abbrev ns_law_read : List Str := ["_law_text", "_law_bags", "_law_found", "_law_bag_here", "_law_one"]
theorem cs_law_read : FnScope ns_law_read ["_law_text", "_law_bags"] (defScope s_law_read) := ⟨rfl, rfl, rfl, by decide +kernel, rfl, by decide +kernel, by decide +kernel⟩
abbrev ns_law : List Str := ["_law_script", "_law_bags", "_law_handed", "_law_text", "_law_due", "_law_cell", "_law_bag_here"]
theorem cs_law : FnScope ns_law ["_law_script"] (defScope s_law) := ⟨rfl, rfl, rfl, by decide +kernel, rfl, by decide +kernel, by decide +kernel⟩
structure Cs where
  (RoadError NoText : Addr)
structure Top (K : PySem.W.Frag) (mg : Str → Option Value) (c : Cs) : Prop where
  z_ValueError : mg "ValueError" = none
  z_range : mg "range" = none
  z_list : mg "list" = none
  z_int : mg "int" = none
  z_tuple : mg "tuple" = none
  z_any : mg "any" = none
  z_all : mg "all" = none
  z_len : mg "len" = none
  z_str : mg "str" = none
  z_isinstance : mg "isinstance" = none
  z_bool : mg "bool" = none
  d_is_number : Dfn K mg "is_number" s_is_number
  d_show_bag : Dfn K mg "show_bag" s_show_bag
  d_show_plan : Dfn K mg "show_plan" s_show_plan
  d_read_bag : Dfn K mg "read_bag" s_read_bag
  d_read_plan : Dfn K mg "read_plan" s_read_plan
  d_law_bag : Dfn K mg "_law_bag" s_law_bag
  d_law_line : Dfn K mg "_law_line" s_law_line
  d_law_read : Dfn K mg "_law_read" s_law_read
  d_law : Dfn K mg "law" s_law
  k_FIGURES : ∃ t, mg "FIGURES" = some (.str "0123456789" t)
section
variable {P : Program} {w : World} {K : PySem.W.Frag} {mg : Str → Option Value} {base : Heap} {c : Cs}
theorem kind_str {X : Cx} {g : Gm} {l : List Res} {e : Expr} {i : Int} {p pos : Pos} (z : X.mg "str" = none) (h : Px X e g l (.int i)) (hn : N10 i) (hg : Gl X "str" := by rfl) (hs : starEach [e] X.env = (false, eval e X.env) :: starEach [] X.env := by rfl) : Px X (.Call (.Name "str" p) [e] [] pos) g l (.str (numS i)) :=
  px_ty call_str_int z (pa_c h pa_n hs) (o_str (numS_log hn)) hg (by decide +kernel) (by decide) (by decide) hs rfl
theorem px_int1 {X : Cx} {g : Gm} {l : List Res} {e : Expr} {i : Int} {p pos : Pos} (z : X.mg "int" = none) (h : Px X e g l (.str (numS i))) (hn : N10 i) (hg : Gl X "int" := by rfl) (hs : starEach [e] X.env = (false, eval e X.env) :: starEach [] X.env := by rfl) : Px X (.Call (.Name "int" p) [e] [] pos) g l (.int i) :=
  px_ty call_int_str z (pa_c h pa_n hs) (o_intS (numS_int hn) (Nat.le_trans (numS_len hn).2 (by decide))) hg (by decide +kernel) (by decide) (by decide) hs rfl
theorem g_is_number (T : Top K mg c) : Glo P w K mg base 1 "is_number" ["word"] (Pu K (fun i : Int => N10 i) (fun i => [.str (numS i)]) (fun _ => .bl true)) :=
  glo_of T.d_is_number (fun _ _ _ _ _ _ us hl => match us, hl with | [_], _ => rfl) fun f fd F => fn_ok F cs_is_number (fun _ => rfl) fun cdv A outer s H E a hr hok => by
    have nd := cs_is_number.nd
    have hn : N10 a := hok
    have hl := numS_len hn
    refine blk_if (k := false) ((ts_w (tw_or (k := false) (ts_not (ts_chain (k := true) (k' := true) op_le op_le px_int (px_bi call_len_str T.z_len (pa_c (px_var (pv 0) rfl) pa_n) (o_lenS (Nat.le_trans hl.2 (szS (by decide))))) ?c1 px_int ?c2)) fun _ => tw_or1 (ts_not (ts_val (k := true) (px_bi (cr_all rfl) T.z_all (pa_c (px_lc (own := [("sign", 1)]) (is := [1]) (rs := ((TL.tl (numS a)).map fun c => decide (c ∈ figs.cps.toList)).map .bl) rfl nd (it_str (px_var (pv 0) rfl)) (blkOk_by (N := ns_is_number) (sc := defScope s_is_number) (by decide +kernel)) (fun _ _ _ _ _ => pg_name (i := 1) nd rfl (.inl rfl)) (by decide) ?c3 ?c4 ?c5) pa_n) ?c6)))))) (fun h => by cases h) (fun _ => ?_)
    case c1 => exact o_le.to (congrArg D.bl (decide_eq_true (by omega)))
    case c2 => exact fun _ => o_le.to (congrArg D.bl (decide_eq_true (by omega)))
    case c3 => unfold signs; simp
    case c4 => rw [List.length_map, List.length_map, ← TL.len_tl]; exact Nat.le_trans hl.2 (szS (by decide))
    case c5 =>
      intro i d hd
      unfold signs at hd
      rw [List.getElem?_map] at hd
      cases e : (numS a).cps.toList[i]? with
      | none => rw [e] at hd; cases hd
      | some ch =>
        rw [e] at hd
        cases hd
        refine ⟨_, .bl (decide (ch ∈ figs.cps.toList)), tg_name, by rw [List.getElem?_map, List.getElem?_map, e]; rfl, fun _ _ _ _ _ => ?_⟩
        exact px_cmp op_in_sign (px_var (pv 1) rfl) (px_gs T.k_FIGURES) o_inX
    case c6 => exact (o_all .f).to (congrArg D.bl (numS_all hn.1))
    refine blk_nil ?_
    rcases numS_first hn with e | ⟨ch, r, e, hne⟩
    · refine blk_ret (px_or (k := true) ((px_cmp op_eq (px_var (pv 0) rfl) px_str o_eqS).to ?_) (fun h => by cases h) (k' := true)) ⟨rfl, rfl⟩
      rw [decide_eq_true e]
    · by_cases z : numS a = "0"
      · refine blk_ret (px_or (k := true) ((px_cmp op_eq (px_var (pv 0) rfl) px_str o_eqS).to ?_) (fun h => by cases h) (k' := true)) ⟨rfl, rfl⟩
        rw [decide_eq_true z]
      · refine blk_ret (px_or (k := false) (k' := true) ((px_cmp op_eq (px_var (pv 0) rfl) px_str o_eqS).to ?_) (fun _ => px_one ((px_cmp op_ne (px_ix ix_str (px_var (pv 0) rfl) px_int (o_ixS (c := ch) (Nat.le_trans hl.2 (szS (by decide))) ?_)) px_str o_neS).to ?_))) ⟨rfl, rfl⟩
        · rw [decide_eq_false z]
        · show atI (TL.tl (numS a)) ((0 : Nat) : Int) = _
          rw [e]
          exact atI_nat rfl
        · rw [decide_eq_false hne]
          rfl
theorem g_show_bag (T : Top K mg c) : Glo P w K mg base 1 "show_bag" ["bag"] (Pu K (fun b : Bg => OkB b) (fun b => [bagD b]) (fun b => .str (bagS b))) :=
  glo_of T.d_show_bag (fun _ _ _ _ _ _ us hl => match us, hl with | [_], _ => rfl) fun f fd F => fn_ok F cs_show_bag (fun _ => rfl) fun cdv A outer s H E b hr hok => by
    have nd := cs_show_bag.nd
    have hb : OkB b := hok
    have l1 := (numS_len hb.t).2
    have l2 := (numS_len hb.r).2
    have h1 : (headS b).length ≤ 21 := head_len hb
    have h0 : (numS b.1 ++ " ").length ≤ 11 := by rw [Str.length_append]; show _ + 1 ≤ 11; omega
    refine blk_ret (px_op op_add_str (px_op op_add_str (px_op op_add_str (px_op op_add_str (kind_str T.z_str (px_ix ix_tup (px_var (pv 0) rfl) px_int (o_ixT rfl)) hb.t) px_str (o_addS (Nat.le_trans (Nat.add_le_add l1 (Nat.le_of_eq rfl)) (szS (by decide))))) (kind_str T.z_str (px_ix ix_tup (px_var (pv 0) rfl) px_int (o_ixT rfl)) hb.r) (o_addS (Nat.le_trans (Nat.add_le_add h0 l2) (szS (by decide))))) px_str (o_addS (Nat.le_trans (Nat.add_le_add h1 (Nat.le_of_eq rfl)) (szS (by decide)))))
      (px_join px_str (px_lc (own := [("n", 1)]) (is := [1]) (rs := (b.2.2.map numS).map .str) rfl nd (it_tup (px_ix ix_tup (px_var (pv 0) rfl) px_int (o_ixT (d := .tup (b.2.2.map .int)) rfl))) (blkOk_by (N := ns_show_bag) (sc := defScope s_show_bag) (by decide +kernel)) (fun _ _ _ _ _ => pg_name (i := 1) nd rfl (.inl rfl)) (by decide) ?c1 ?c2 ?c3) .f ?c4) (o_addS ?c5)) ⟨rfl, rfl⟩
    case c1 => rw [List.length_map, List.length_map, List.length_map]
    case c2 => rw [List.length_map, List.length_map]; exact Nat.le_trans hb.le (szS (by decide))
    case c3 =>
      intro i d hd
      rw [List.getElem?_map] at hd
      cases e : b.2.2[i]? with
      | none => rw [e] at hd; cases hd
      | some n =>
        rw [e] at hd
        cases hd
        refine ⟨_, .str (numS n), tg_name, by rw [List.getElem?_map, List.getElem?_map, e]; rfl, fun _ _ _ _ _ => ?_⟩
        exact kind_str T.z_str (px_var (pv 1) rfl) (hb.n n (List.mem_of_getElem? e))
    case c4 =>
      have h := sum_le (k := 10) (ns := (b.2.2.map numS).map (·.length)) fun m hm => by
        obtain ⟨z, hz, rfl⟩ := List.mem_map.mp hm
        obtain ⟨n, hn, rfl⟩ := List.mem_map.mp hz
        exact (numS_len (hb.n n hn)).2
      rw [List.length_map, List.length_map] at h
      rw [List.length_map]
      have := hb.le
      show _ + b.2.2.length * 1 ≤ _
      omega
    case c5 =>
      have h2 : (tailS b).length ≤ 44 := tail_len hb
      have h3 : (numS b.1 ++ " " ++ numS b.2.1 ++ ": ").length ≤ 23 := by
        have : (headS b ++ ": ").length ≤ 23 := by rw [Str.length_append]; show _ + 2 ≤ 23; omega
        exact this
      exact Nat.le_trans (Nat.add_le_add h3 h2) (szS (by decide))
abbrev bagsD (bs : List Bg) : List D := bs.map bagD
structure OkP (bs : List Bg) : Prop where
  ok : ∀ b ∈ bs, OkB b
  le : bs.length ≤ 60
theorem join_le {bs : List Bg} (h : OkP bs) : ((bs.map bagS).map (·.length)).sum + (bs.map bagS).length * 2 ≤ 16777216 := by
  have z := sum_le (k := 70) (ns := (bs.map bagS).map (·.length)) fun m hm => by
    obtain ⟨z, hz, rfl⟩ := List.mem_map.mp hm
    obtain ⟨n, hn, rfl⟩ := List.mem_map.mp hz
    exact bag_len (h.ok n hn)
  rw [List.length_map, List.length_map] at z
  rw [List.length_map]
  have := h.le
  omega
theorem g_show_plan (T : Top K mg c) : Glo P w K mg base 2 "show_plan" ["plan"] (Pu K (fun bs : List Bg => OkP bs) (fun bs => [.lst (bagsD bs)]) (fun bs => .str (planS bs))) :=
  glo_of T.d_show_plan (fun _ _ _ _ _ _ us hl => match us, hl with | [_], _ => rfl) fun f fd F => fn_ok F cs_show_plan (fun _ => rfl) fun cdv A outer s H E bs hr hok => by
    have nd := cs_show_plan.nd
    have hb : OkP bs := hok
    refine blk_ret (px_join px_str (px_lc (own := [("bag", 1)]) (is := [1]) (rs := (bs.map bagS).map .str) rfl nd (it_list (px_var (pv 0) rfl)) (blkOk_by (N := ns_show_plan) (sc := defScope s_show_plan) (by decide +kernel)) (fun _ _ _ _ _ => pg_name (i := 1) nd rfl (.inl rfl)) (by decide) ?c1 ?c2 ?c3) .f (join_le hb)) ⟨rfl, rfl⟩
    case c1 => rw [List.length_map, List.length_map, List.length_map]
    case c2 => rw [List.length_map, List.length_map]; exact Nat.le_trans hb.le (szS (by decide))
    case c3 =>
      intro i d hd
      rw [List.getElem?_map] at hd
      cases e : bs[i]? with
      | none => rw [e] at hd; cases hd
      | some b =>
        rw [e] at hd
        cases hd
        refine ⟨_, .str (bagS b), tg_name, by rw [List.getElem?_map, List.getElem?_map, e]; rfl, fun _ _ _ _ _ => ?_⟩
        exact px_call (g_show_bag T) hr (by decide) b (hb.ok b (List.mem_of_getElem? e)) (pa_c (px_var (pv 1) rfl) pa_n)
theorem g_read_bag (T : Top K mg c) : Glo P w K mg base 2 "read_bag" ["text"] (Pu K (fun b : Bg => OkB b) (fun b => [.str (bagS b)]) (fun b => bagD b)) :=
  glo_of T.d_read_bag (fun _ _ _ _ _ _ us hl => match us, hl with | [_], _ => rfl) fun f fd F => fn_ok F cs_read_bag (fun _ => rfl) fun cdv A outer s H E b hr hok => by
    have nd := cs_read_bag.nd
    have hb : OkB b := hok
    refine blk_asg (is := [1, 2, 3]) (es := [.str (headS b), .str ": ", .str (tailS b)]) ((px_partition (px_var (pv 0) rfl) px_str rfl (Nat.le_trans (bag_len hb) (szS (by decide)))).to ?_) (pg_tup rfl (pgs_cons (pg_name (i := 1) nd rfl (.inl rfl)) (pgs_cons (pg_name (i := 2) nd rfl (.inl rfl)) (pgs_cons (pg_name (i := 3) nd rfl (.inl rfl)) pgs_nil)))) (tg_tup rfl rfl) ?_
    · rw [part_bag hb]
    refine blk_set nd (i := 4) rfl (.inl rfl) (px_split (px_var (pv 1) rfl) px_str rfl (Nat.le_trans (Nat.add_le_add_right (head_len hb) 2) (szS (by decide)))) ?_
    refine blk_set nd (i := 5) rfl (.inl rfl) (px_split (px_var (pv 3) rfl) px_str rfl (Nat.le_trans (Nat.add_le_add_right (tail_len hb) 2) (szS (by decide)))) ?_
    rw [split_head hb, split_tail hb]
    have hw : ∀ x ∈ numS b.1 :: numS b.2.1 :: b.2.2.map numS, ∃ n, x = numS n ∧ N10 n := fun x hx => by
      rcases List.mem_cons.mp hx with rfl | hx
      · exact ⟨_, rfl, hb.t⟩
      · rcases List.mem_cons.mp hx with rfl | hx
        · exact ⟨_, rfl, hb.r⟩
        · obtain ⟨n, hn, rfl⟩ := List.mem_map.mp hx
          exact ⟨n, rfl, hb.n n hn⟩
    have hz : (([numS b.1, numS b.2.1].map D.str).length + ((b.2.2.map numS).map D.str).length) ≤ 10 := by
      rw [List.length_map, List.length_map, List.length_map]
      have := hb.le
      show 2 + _ ≤ 10
      omega
    refine blk_if (k := false) (ts_w (tw_or (k := false) (ts_cmp op_ne (px_bi call_len_seq T.z_len (pa_c (px_var (pv 4) rfl) pa_n) o_lenL) px_int o_neI) fun _ => tw_or1 (ts_not (ts_val (k := true) (px_bi (cr_all rfl) T.z_all (pa_c (px_lc (own := [("word", 6)]) (is := [6]) (rs := ((numS b.1 :: numS b.2.1 :: b.2.2.map numS).map fun _ => true).map .bl) rfl nd (it_list (px_cat (px_var (pv 4) rfl) (px_var (pv 5) rfl) .f .f (Nat.le_trans hz (szS (by decide))))) (blkOk_by (N := ns_read_bag) (sc := defScope s_read_bag) (by decide +kernel)) (fun _ _ _ _ _ => pg_name (i := 6) nd rfl (.inl rfl)) (by decide) ?c1 ?c2 ?c3) pa_n) ?c4))))) (fun h => by cases h) (fun _ => ?_)
    case c1 => simp
    case c2 =>
      refine Nat.le_trans ?_ (szS (show 10 ≤ 10000 by decide))
      simp only [List.length_map, List.length_cons]
      have := hb.le
      omega
    case c3 =>
      intro i d hd
      have hd' : ((numS b.1 :: numS b.2.1 :: b.2.2.map numS).map D.str)[i]? = some d := hd
      rw [List.getElem?_map] at hd'
      cases e : (numS b.1 :: numS b.2.1 :: b.2.2.map numS)[i]? with
      | none => rw [e] at hd'; cases hd'
      | some x =>
        rw [e] at hd'
        cases hd'
        obtain ⟨n, rfl, hn⟩ := hw x (List.mem_of_getElem? e)
        refine ⟨_, .bl true, tg_name, by rw [List.getElem?_map, List.getElem?_map, e]; rfl, fun _ _ _ _ _ => ?_⟩
        exact px_call (g_is_number T) hr (by decide) n hn (pa_c (px_var (pv 6) rfl) pa_n)
    case c4 =>
      have q : ((numS b.1 :: numS b.2.1 :: b.2.2.map numS).map fun _ => true).all id = true := by simp
      exact (o_all .f).to (congrArg D.bl q)
    refine blk_nil ?_
    refine blk_ret (px_tup (pa_c (px_int1 T.z_int (px_ix ix_list (px_var (pv 4) rfl) px_int (o_ixL rfl)) hb.t) (pa_c (px_int1 T.z_int (px_ix ix_list (px_var (pv 4) rfl) px_int (o_ixL rfl)) hb.r) (pa_c (px_tupOf (px_lc (own := [("word", 6)]) (is := [6]) (rs := b.2.2.map .int) rfl nd (it_list (px_var (pv 5) rfl)) (blkOk_by (N := ns_read_bag) (sc := defScope s_read_bag) (by decide +kernel)) (fun _ _ _ _ _ => pg_name (i := 6) nd rfl (.inl rfl)) (by decide) ?c5 ?c6 ?c7) .f T.z_tuple) pa_n)))) ⟨rfl, rfl⟩
    case c5 => simp
    case c6 => rw [List.length_map]; exact Nat.le_trans hb.le (szS (by decide))
    case c7 =>
      intro i d hd
      rw [List.getElem?_map, List.getElem?_map] at hd
      cases e : b.2.2[i]? with
      | none => rw [e] at hd; cases hd
      | some n =>
        rw [e] at hd
        cases hd
        refine ⟨_, .int n, tg_name, by rw [List.getElem?_map, e]; rfl, fun _ _ _ _ _ => ?_⟩
        exact px_int1 T.z_int (px_var (pv 6) rfl) (hb.n n (List.mem_of_getElem? e))
theorem g_read_plan (T : Top K mg c) : Glo P w K mg base 3 "read_plan" ["text"] (FnX K (fun bs : List Bg => OkP bs) (fun bs => [.str (planS bs)]) (fun _ => []) (fun bs d l => ∃ p, d = .adr p ∧ l = [ownL K p (bagsD bs)]) noE) :=
  glo_of T.d_read_plan (fun _ _ _ _ _ _ us hl => match us, hl with | [_], _ => rfl) fun f fd F => fn_ok F cs_read_plan (fun _ => rfl) fun cdv A outer s H E bs hr hok => by
    have nd := cs_read_plan.nd
    have hb : OkP bs := hok
    refine blk_if (ts_cmp op_eq (px_var (pv 0) rfl) px_str o_eqS) (fun h => ?_) (fun h => ?_)
    · have e : bs = [] := by
        cases bs with
        | nil => rfl
        | cons b r => exact absurd (of_decide_eq_true h) (plan_ne (by simp))
      subst e
      exact blk_retX (ev_lst pa_n) fun d l' h => h
    · have hne : bs ≠ [] := fun e => by
        subst e
        rw [plan_nil] at h
        cases h
      refine blk_nil ?_
      refine blk_retX (ev_lc (own := [("part", 1)]) (is := [1]) (rs := bagsD bs) rfl nd (it_list (px_split (px_var (pv 0) rfl) px_str rfl (Nat.le_trans (Nat.add_le_add_right (plan_len hb.ok hb.le) 2) (szS (by decide))))) (blkOk_by (N := ns_read_plan) (sc := defScope s_read_plan) (by decide +kernel)) (fun _ _ _ _ _ => pg_name (i := 1) nd rfl (.inl rfl)) (by decide) ?c1 ?c2 ?c3) fun d l' h => h
      case c1 => rw [split_plan hb.ok hne]; simp
      case c2 => rw [List.length_map]; exact Nat.le_trans hb.le (szS (by decide))
      case c3 =>
        intro i d hd
        rw [split_plan hb.ok hne, List.getElem?_map, List.getElem?_map] at hd
        cases e : bs[i]? with
        | none => rw [e] at hd; cases hd
        | some b =>
          rw [e] at hd
          cases hd
          refine ⟨_, bagD b, tg_name, by rw [List.getElem?_map, e]; rfl, fun _ _ _ _ _ => ?_⟩
          exact px_call (g_read_bag T) hr (by decide) b (hb.ok b (List.mem_of_getElem? e)) (pa_c (px_var (pv 1) rfl) pa_n)
end
end Lw
set_option Elab.async false
set_option linter.all false
set_option maxRecDepth 100000
set_option maxHeartbeats 4000000
namespace Lw
open PySem L2 Sx
section
variable {P : Program} {w : World} {K : PySem.W.Frag} {mg : Str → Option Value} {base : Heap} {c : Cs}
theorem g_bag (T : Top K mg c) : Glo P w K mg base 1 "_law_bag" ["_law_cell"] (Pu K (fun _ : Int => True) (fun a => [.int a]) (fun a => bagD (lawBag a))) :=
  glo_of T.d_law_bag (fun _ _ _ _ _ _ us hl => match us, hl with | [_], _ => rfl) fun f fd F => fn_ok F cs_law_bag (fun _ => rfl) fun cdv A outer s H E a hr hok => by
    have nd := cs_law_bag.nd
    refine blk_set nd (i := 1) rfl (.inl rfl) (px_op op_mod (px_op op_mul (px_var (pv 0) rfl) px_int o_mulR) px_int o_mod) ?_
    refine blk_setX nd (i := 2) rfl (.inl rfl) (ev_lst (pa_c (px_op op_mod (px_var (pv 0) rfl) (px_op op_pow px_int px_int o_pow) (o_mod (j := 10000000000))) pa_n)) fun d l' ⟨p, e1, e2⟩ => ?_
    subst e1; subst e2
    refine blk_for (is := [3]) (fun i g l => (∃ o, g = [some (.int a), some (.int (bgSt a i).1), some (.adr p), o]) ∧ l = [ownL K p ((bgSt a i).2.map .int)]) PassesOwn.never rfl
      (it_range (px_op op_mod (px_var (pv 1) rfl) px_int o_mod) (by show -(2 ^ 62) ≤ a * 48271 % 2147483647 % 4; omega) (by show a * 48271 % 2147483647 % 4 < 2 ^ 62; omega) T.z_range) (pg_name (i := 3) nd rfl (.inl rfl))
      ⟨⟨none, rfl⟩, rfl⟩ (fun i d g l hd hI => ?_) (fun g l hI => ?_)
    · obtain ⟨⟨o, rfl⟩, rfl⟩ := hI
      obtain ⟨hi, rfl⟩ := rng_get hd
      obtain ⟨h1, h2, h3⟩ := bgSt_ok a i
      refine ⟨_, tg_name, ?_⟩
      refine blk_set nd (i := 1) (d := .int (bgNext (bgSt a i).1)) rfl (.inl rfl) (px_op op_mod (px_op op_add (px_op op_mul (px_var (pv 1) rfl) px_int o_mulR) px_int o_add) px_int o_mod) ?_
      generalize hm : bgNext (bgSt a i).1 = m
      refine blk_add (k := 0) (d := .int (pick4 m)) (px_var (pv 2) rfl) (px_ix ix_list (px_lst (ds := [m % 41, m, 0, 10000000000 - 1 - m].map .int) (pa_c (px_op op_mod (px_var (pv 1) rfl) px_int o_mod) (pa_c (px_var (pv 1) rfl) (pa_c px_int (pa_c (px_op op_sub (px_op op_sub (px_op op_pow px_int px_int o_pow) px_int o_sub) (px_var (pv 1) rfl) o_sub) pa_n))))) (px_op op_mod (px_op op_fdiv (px_var (pv 1) rfl) px_int o_fdiv) px_int o_mod) (o_ixL (atI_map (atI_in (x0 := 0) (by omega) (by show _ < (4 : Int); omega))))) rfl ?_ ?_
      · rw [List.length_map, h2]
        have hi : i < (a * 48271 % 2147483647 % 4).toNat := hi
        exact Nat.lt_of_lt_of_le (show i + 1 < 10000 by omega) (szS (Nat.le_refl _))
      · subst hm
        refine blk_nil ⟨⟨_, rfl⟩, ?_⟩
        show [ownL K p ((bgSt a i).2.map D.int ++ [D.int _])] = [ownL K p (((bgSt a i).2 ++ [_]).map D.int)]
        rw [List.map_append]
        rfl
    · obtain ⟨⟨o, rfl⟩, rfl⟩ := hI
      rw [rng_len]
      obtain ⟨h1, h2, h3⟩ := bgSt_ok a (a * 48271 % 2147483647 % 4).toNat
      have eb : lawBag a = ([(bgSt a (a * 48271 % 2147483647 % 4).toNat).1 % 50, a / 7 % 10000000000].getD ((bgSt a (a * 48271 % 2147483647 % 4).toNat).1 / 8 % 2).toNat 0, (bgSt a (a * 48271 % 2147483647 % 4).toNat).1 / 16 % 40, (bgSt a (a * 48271 % 2147483647 % 4).toNat).2) := rfl
      generalize bgSt a (a * 48271 % 2147483647 % 4).toNat = st at h1 h2 h3 eb
      obtain ⟨m, ms⟩ := st
      refine Blk.frz (i := 2) rfl ?_
      refine blk_ret (px_tup (pa_c (px_ix ix_list (px_lst (ds := [m % 50, a / 7 % 10000000000].map .int) (pa_c (px_op op_mod (px_var (pv 1) rfl) px_int o_mod) (pa_c (px_op op_mod (px_op op_fdiv (px_var (pv 0) rfl) px_int o_fdiv) (px_op op_pow px_int px_int o_pow) (o_mod (j := 10000000000))) pa_n))) (px_op op_mod (px_op op_fdiv (px_var (pv 1) rfl) px_int o_fdiv) px_int o_mod) (o_ixL (atI_map (atI_in (x0 := 0) (by omega) (by show _ < (2 : Int); omega))))) (pa_c (px_op op_mod (px_op op_fdiv (px_var (pv 1) rfl) px_int o_fdiv) px_int o_mod) (pa_c (px_tupOf (px_var (pv 2) rfl) .f T.z_tuple) pa_n)))) ⟨?_, rfl⟩
      show _ = bagD (lawBag a)
      rw [eb]
      rfl
theorem lineSt_snoc (s : Str) (ns : List Int) (n : Int) : lineSt s (ns ++ [n]) = lineSt s ns ++ " " ++ numS n := by
  unfold lineSt
  rw [List.foldl_append]
  rfl
theorem lineSt_len {s : Str} {ns : List Int} (h : ∀ n ∈ ns, N10 n) : (lineSt s ns).length ≤ s.length + ns.length * 11 := by
  rw [TL.len_tl, lineSt_tl, List.length_append, ← TL.len_tl]
  have : ∀ ns : List Int, (∀ n ∈ ns, N10 n) → ((ns.map fun n => 32 :: TL.tl (numS n)).flatten).length ≤ ns.length * 11 := by
    intro ns
    induction ns with
    | nil => intro _; exact Nat.le_refl _
    | cons n r ih =>
      intro h
      have h1 := ih fun m hm => h m (List.mem_cons_of_mem _ hm)
      have h2 := (numS_len (h n List.mem_cons_self)).2
      rw [List.map_cons, List.flatten_cons, List.length_append, List.length_cons, List.length_cons, ← TL.len_tl]
      omega
  have := this ns h
  omega
theorem g_line (T : Top K mg c) : Glo P w K mg base 1 "_law_line" ["_law_bag_here"] (Pu K (fun b : Bg => OkB b) (fun b => [bagD b]) (fun b => .str (bagS b))) :=
  glo_of T.d_law_line (fun _ _ _ _ _ _ us hl => match us, hl with | [_], _ => rfl) fun f fd F => fn_ok F cs_law_line (fun _ => rfl) fun cdv A outer s H E b hr hok => by
    have nd := cs_law_line.nd
    have hb : OkB b := hok
    have l1 := (numS_len hb.t).2
    have l2 := (numS_len hb.r).2
    have h1 : (headS b).length ≤ 21 := head_len hb
    have h0 : (numS b.1 ++ " ").length ≤ 11 := by rw [Str.length_append]; show _ + 1 ≤ 11; omega
    have hs : (numS b.1 ++ " " ++ numS b.2.1 ++ ":").length ≤ 22 := by
      have : (headS b ++ ":").length ≤ 22 := by rw [Str.length_append]; show _ + 1 ≤ 22; omega
      exact this
    refine blk_set nd (i := 1) (d := .str (numS b.1 ++ " " ++ numS b.2.1 ++ ":")) rfl (.inl rfl) (px_op op_add_str (px_op op_add_str (px_op op_add_str (kind_str T.z_str (px_ix ix_tup (px_var (pv 0) rfl) px_int (o_ixT rfl)) hb.t) px_str (o_addS (Nat.le_trans (Nat.add_le_add l1 (Nat.le_of_eq rfl)) (szS (by decide))))) (kind_str T.z_str (px_ix ix_tup (px_var (pv 0) rfl) px_int (o_ixT rfl)) hb.r) (o_addS (Nat.le_trans (Nat.add_le_add h0 l2) (szS (by decide))))) px_str (o_addS (Nat.le_trans (Nat.add_le_add h1 (Nat.le_of_eq rfl)) (szS (by decide))))) ?_
    refine blk_for (is := [2]) (fun i g l => (∃ o, g = [some (bagD b), some (.str (lineSt (numS b.1 ++ " " ++ numS b.2.1 ++ ":") (b.2.2.take i))), o]) ∧ l = []) PassesOwn.never rfl
      (it_tup (px_ix ix_tup (px_var (pv 0) rfl) px_int (o_ixT (d := .tup (b.2.2.map .int)) rfl))) (pg_name (i := 2) nd rfl (.inl rfl)) ⟨⟨none, rfl⟩, rfl⟩ (fun i d g l hd hI => ?_) (fun g l hI => ?_)
    · obtain ⟨⟨o, rfl⟩, rfl⟩ := hI
      rw [List.getElem?_map] at hd
      cases e : b.2.2[i]? with
      | none => rw [e] at hd; cases hd
      | some n =>
        rw [e] at hd
        cases hd
        have hn : N10 n := hb.n n (List.mem_of_getElem? e)
        have hl := lineSt_len (s := numS b.1 ++ " " ++ numS b.2.1 ++ ":") (ns := b.2.2.take i) fun m hm => hb.n m (List.mem_of_mem_take hm)
        have h4 : (b.2.2.take i).length ≤ 4 := Nat.le_trans (List.length_take_le' _ _) hb.le
        have e2 : b.2.2.take (i + 1) = b.2.2.take i ++ [n] := by rw [List.take_add_one, e]; rfl
        have h5 : (lineSt (numS b.1 ++ " " ++ numS b.2.1 ++ ":") (b.2.2.take i)).length ≤ 70 := by omega
        have h6 : (lineSt (numS b.1 ++ " " ++ numS b.2.1 ++ ":") (b.2.2.take i) ++ " ").length ≤ 71 := by rw [Str.length_append]; show _ + 1 ≤ 71; omega
        refine ⟨_, tg_name, ?_⟩
        refine blk_set nd (i := 1) rfl (.inl rfl) (px_op op_add_str (px_op op_add_str (px_var (pv 1) rfl) px_str (o_addS (Nat.le_trans (Nat.add_le_add h5 (Nat.le_of_eq rfl)) (szS (by decide))))) (kind_str T.z_str (px_var (pv 2) rfl) hn) (o_addS (Nat.le_trans (Nat.add_le_add h6 (numS_len hn).2) (szS (by decide))))) ?_
        refine blk_nil ⟨⟨some (.int n), ?_⟩, rfl⟩
        rw [e2, lineSt_snoc]
        rfl
    · obtain ⟨⟨o, rfl⟩, rfl⟩ := hI
      refine blk_ret (px_var (pv 1) rfl) ⟨?_, rfl⟩
      rw [List.length_map, List.take_length]
      show D.str (lineS b) = _
      rw [line_bag hb]
/-! == of bags -/
theorem dp_bag (b : Bg) : Dp' 2 (bagD b) := .tup fun d hd => by
  simp only [List.mem_cons, List.not_mem_nil, or_false] at hd
  rcases hd with rfl | rfl | rfl
  · exact .int
  · exact .int
  · exact .tup Dp'.ints
theorem dp_bags (bs : List Bg) : Dp' 3 (.lst (bagsD bs)) := .lst fun d hd => by
  obtain ⟨b, _, rfl⟩ := List.mem_map.mp hd
  exact dp_bag b
theorem g_read (T : Top K mg c) : Glo P w K mg base 4 "_law_read" ["_law_text", "_law_bags"] (Pu K (fun bs : List Bg => OkP bs) (fun bs => [.str (planS bs), .lst (bagsD bs)]) (fun _ => .bl true)) :=
  glo_of T.d_law_read (fun _ _ _ _ _ _ us hl => match us, hl with | [_, _], _ => rfl) fun f fd F => fn_ok F cs_law_read (fun _ => rfl) fun cdv A outer s H E bs hr hok => by
    have nd := cs_law_read.nd
    have hb : OkP bs := hok
    refine blk_setX nd (i := 2) rfl (.inl rfl) (ev_callV (g_read_plan T) hr (by decide) bs hb (pa_c (px_var (pv 0) rfl) pa_n)) fun d l' ⟨_, ⟨p, e1, e2⟩, e3⟩ => ?_
    subst e1; subst e2; subst e3
    refine blk_if (k := false) (ts_w (tw_or (k := false) (ts_not (ts_val (px_bi call_isi T.z_isinstance (pa_c (px_var (pv 2) rfl) (pa_c (px_tyn (n := "list") T.z_list) pa_n)) (o_isiO (b := true) (k := 0) rfl (by decide +kernel))))) fun _ => tw_or1 (ts_cmp (op_neD hr.units) (px_var (pv 2) rfl) (px_var (pv 1) rfl) (o_neW (.o (k := 0) rfl) (dp_bags bs))))) (fun h => by cases h) (fun _ => blk_nil ?_)
    refine blk_forO (is := [3]) (kk := 0) (ds := bagsD bs) (fun i g l => (∃ o o2, g = [some (.str (planS bs)), some (.lst (bagsD bs)), some (.adr p), o, o2]) ∧ l = [ownL K p (bagsD bs)]) PassesOwn.never rfl (px_var (pv 2) rfl) (pg_name (i := 3) nd rfl (.inl rfl)) ⟨⟨none, none, rfl⟩, rfl⟩ (fun i g l h => by rw [h.2]; rfl) (fun i d g l hd hI => ?_) (fun g l hI => ?_)
    · obtain ⟨⟨o, o2, rfl⟩, rfl⟩ := hI
      obtain ⟨b, hbm, rfl⟩ : ∃ b, b ∈ bs ∧ d = bagD b := by
        rw [List.getElem?_map] at hd
        cases e : bs[i]? with
        | none => rw [e] at hd; cases hd
        | some b => rw [e] at hd; cases hd; exact ⟨b, List.mem_of_getElem? e, rfl⟩
      have ob := hb.ok b hbm
      refine ⟨_, tg_name, ?_⟩
      refine blk_if (k := false) (ts_w (tw_or (k := false) (ts_not (ts_val (k := true) (px_isT "tuple" "tuple" true T.z_isinstance T.z_tuple (px_var (pv 3) rfl)))) fun _ => tw_or1 (ts_not (ts_val (k := true) (px_isT "tuple" "tuple" true T.z_isinstance T.z_tuple (px_ix ix_tup (px_var (pv 3) rfl) px_int (o_ixT (d := .tup (b.2.2.map .int)) rfl))))))) (fun h => by cases h) (fun _ => blk_nil ?_)
      have hz : ([D.int b.1, D.int b.2.1].length + (b.2.2.map D.int).length) ≤ 10 := by
        rw [List.length_map]
        have := ob.le
        show 2 + _ ≤ 10
        omega
      refine blk_if (k := false) (ts_val (px_bi (cr_any rfl) T.z_any (pa_c (px_lc (own := [("_law_one", 4)]) (is := [4]) (rs := ((b.1 :: b.2.1 :: b.2.2).map fun _ => false).map .bl) rfl nd (it_list (px_cat (px_lst (pa_c (px_ix ix_tup (px_var (pv 3) rfl) px_int (o_ixT rfl)) (pa_c (px_ix ix_tup (px_var (pv 3) rfl) px_int (o_ixT rfl)) pa_n))) (px_listOf (px_ix ix_tup (px_var (pv 3) rfl) px_int (o_ixT (d := .tup (b.2.2.map .int)) rfl)) .t T.z_list) .f .f (Nat.le_trans hz (szS (by decide))))) (blkOk_by (N := ns_law_read) (sc := defScope s_law_read) (by decide +kernel)) (fun _ _ _ _ _ => pg_name (i := 4) nd rfl (.inl rfl)) (by decide) ?c1 ?c2 ?c3) pa_n) ?c4)) (fun h => by cases h) (fun _ => blk_nil (blk_nil ⟨⟨_, _, rfl⟩, rfl⟩))
      case c1 => simp
      case c2 =>
        refine Nat.le_trans ?_ (szS (show 10 ≤ 10000 by decide))
        simp only [List.length_map, List.length_cons]
        have := ob.le
        omega
      case c3 =>
        intro i d hd
        have hd' : ((b.1 :: b.2.1 :: b.2.2).map D.int)[i]? = some d := hd
        rw [List.getElem?_map] at hd'
        cases e : (b.1 :: b.2.1 :: b.2.2)[i]? with
        | none => rw [e] at hd'; cases hd'
        | some n =>
          rw [e] at hd'
          cases hd'
          refine ⟨_, .bl false, tg_name, by rw [List.getElem?_map, List.getElem?_map, e]; rfl, fun _ _ _ _ _ => ?_⟩
          exact px_isT "bool" "int" false T.z_isinstance T.z_bool (px_var (pv 4) rfl)
      case c4 =>
        have q : ((b.1 :: b.2.1 :: b.2.2).map fun _ => false).any id = false := by simp
        exact (o_any .f).to (congrArg D.bl q)
    · obtain ⟨⟨o, o2, rfl⟩, rfl⟩ := hI
      refine blk_add (k := 0) (px_var (pv 2) rfl) (px_tup (pa_c px_int (pa_c px_int (pa_c (px_tup (pa_c px_int pa_n)) pa_n)))) rfl ?_ ?_
      · rw [List.length_map]
        exact Nat.lt_of_le_of_lt hb.le (Nat.lt_of_lt_of_le (show 60 < 100 by decide) (szS (by decide)))
      · exact blk_frzAll (blk_ret (px_bl) ⟨rfl, rfl⟩)
abbrev lvl : Nat := 5
theorem ok_law (T : Top K mg c) {f : Addr} {fd : FuncData} (F : Fun K "law" "law" s_law f fd) : FnOk P w K mg base CX0 lvl f fd ["_law_script"] (spL K) :=
  fn_ok F cs_law (fun _ => rfl) fun cdv A outer s H E ns hr hok => by
    have nd := cs_law.nd
    generalize hbs : (ns.take 60).map lawBag = bs
    have hb : OkP bs := by
      refine ⟨fun b h => ?_, ?_⟩
      · rw [← hbs] at h
        obtain ⟨n, _, rfl⟩ := List.mem_map.mp h
        exact lawBag_ok n
      · rw [← hbs, List.length_map]
        exact List.length_take_le _ _
    have hb1 : OkP (bs.take 1) := ⟨fun b h => hb.ok b (List.mem_of_mem_take h), Nat.le_trans (List.length_take_le' _ _) hb.le⟩
    have h0 : OkP [] := ⟨(fun b h => by cases h), Nat.zero_le _⟩
    refine blk_setLc (own := [("_law_cell", 5)]) (is := [5]) (rs := bagsD bs) nd (i := 1) rfl rfl (Nat.le_of_ble_eq_true rfl) rfl (it_list (px_slL (px_var (pv 0) rfl) .s pz_n (pz_s px_int))) (blkOk_by (N := ns_law) (sc := defScope s_law) (by decide +kernel)) (fun _ _ _ _ _ => pg_name (i := 5) nd rfl (.inl rfl)) (by decide) ?c1 ?c2 ?c3 ?_
    case c1 => rw [cut_take (by decide), ← hbs]; simp
    case c2 => rw [List.length_map]; exact Nat.le_trans hb.le (szS (by decide))
    case c3 =>
      intro i d hd
      rw [cut_take (by decide)] at hd
      have hd' : ((ns.map D.int).take 60)[i]? = some d := hd
      rw [← List.map_take, List.getElem?_map] at hd'
      cases e : (ns.take 60)[i]? with
      | none => rw [e] at hd'; cases hd'
      | some n =>
        rw [e] at hd'
        cases hd'
        refine ⟨_, bagD (lawBag n), tg_name, by rw [← hbs, List.getElem?_map, List.getElem?_map, e]; rfl, fun _ _ _ _ _ => ?_⟩
        exact px_call (g_bag T) hr (by decide) n trivial (pa_c (px_var (pv 5) rfl) pa_n)
    refine blk_set nd (i := 2) rfl (.inl rfl) (px_listOf (px_var (pv 1) rfl) .f T.z_list) ?_
    refine blk_set nd (i := 3) rfl (.inl rfl) (px_call (g_show_plan T) hr (by decide) bs hb (pa_c (px_var (pv 2) rfl) pa_n)) ?_
    refine blk_set nd (i := 4) (d := .str (planS bs)) rfl (.inl rfl) (px_join px_str (px_lc (own := [("_law_bag_here", 6)]) (is := [6]) (rs := (bs.map bagS).map .str) rfl nd (it_list (px_var (pv 1) rfl)) (blkOk_by (N := ns_law) (sc := defScope s_law) (by decide +kernel)) (fun _ _ _ _ _ => pg_name (i := 6) nd rfl (.inl rfl)) (by decide) ?c4 ?c5 ?c6) .f (join_le hb)) ?_
    case c4 => simp
    case c5 => rw [List.length_map, List.length_map]; exact Nat.le_trans hb.le (szS (by decide))
    case c6 =>
      intro i d hd
      rw [List.getElem?_map] at hd
      cases e : bs[i]? with
      | none => rw [e] at hd; cases hd
      | some b =>
        rw [e] at hd
        cases hd
        refine ⟨_, .str (bagS b), tg_name, by rw [List.getElem?_map, List.getElem?_map, e]; rfl, fun _ _ _ _ _ => ?_⟩
        exact px_call (g_line T) hr (by decide) b (hb.ok b (List.mem_of_getElem? e)) (pa_c (px_var (pv 6) rfl) pa_n)
    refine blk_if (k := false) (ts_w (tw_or (k := false) (ts_not (ts_val (k := true) (px_isT "str" "str" true T.z_isinstance T.z_str (px_var (pv 3) rfl)))) fun _ => tw_or (k := false) (ts_cmp op_ne (px_var (pv 3) rfl) (px_var (pv 4) rfl) (o_neS.to (by simp))) fun _ => tw_or1 (ts_cmp (op_neD hr.units) (px_var (pv 2) rfl) (px_var (pv 1) rfl) (o_neR (dp_bags bs))))) (fun h => by cases h) (fun _ => blk_nil ?_)
    refine blk_if (k := false) (ts_w (tw_or (k := false) (ts_not (ts_val (k := true) (px_call (g_read T) hr (by decide) bs hb (pa_c (px_var (pv 3) rfl) (pa_c (px_var (pv 1) rfl) pa_n))))) fun _ => tw_or (k := false) (ts_cmp op_ne (px_call (g_show_plan T) hr (by decide) [] h0 (pa_c (px_lst pa_n) pa_n)) px_str (o_neS.to (by rw [plan_nil]; simp))) fun _ => tw_or1 (ts_not (ts_val (k := true) (px_call (g_read T) hr (by decide) [] h0 (pa_c (px_str.to (by rw [plan_nil])) (pa_c (px_lst pa_n) pa_n))))))) (fun h => by cases h) (fun _ => blk_nil ?_)
    have e1 : cut (bagsD bs) none (some 1) = bagsD (bs.take 1) := by
      rw [cut_take (by decide)]
      exact List.map_take.symm
    have e2 : Txt.join "" ((bs.take 1).map bagS) = planS (bs.take 1) := by
      cases bs with
      | nil => rfl
      | cons b r => rfl
    refine blk_ret (px_and (k := true) (k' := true) (px_call (g_read T) hr (by decide) bs hb (pa_c (px_var (pv 4) rfl) (pa_c (px_var (pv 1) rfl) pa_n))) fun _ => px_one (px_cmp op_eq (px_call (g_show_plan T) hr (by decide) (bs.take 1) hb1 (pa_c ((px_slL (px_var (pv 1) rfl) .f pz_n (pz_s px_int)).to (by rw [e1])) pa_n)) (px_join px_str (px_lc (own := [("_law_bag_here", 6)]) (is := [6]) (rs := ((bs.take 1).map bagS).map .str) rfl nd (it_list ((px_slL (px_var (pv 1) rfl) .f pz_n (pz_s px_int)).to (congrArg D.lst e1))) (blkOk_by (N := ns_law) (sc := defScope s_law) (by decide +kernel)) (fun _ _ _ _ _ => pg_name (i := 6) nd rfl (.inl rfl)) (by decide) ?c7 ?c8 ?c9) .f ?c10) (o_eqS.to (by rw [e2]; simp)))) ⟨rfl, rfl⟩
    case c7 => simp
    case c8 => rw [List.length_map, List.length_map]; exact Nat.le_trans hb1.le (szS (by decide))
    case c9 =>
      intro i d hd
      rw [List.getElem?_map] at hd
      cases e : (bs.take 1)[i]? with
      | none => rw [e] at hd; cases hd
      | some b =>
        rw [e] at hd
        cases hd
        refine ⟨_, .str (bagS b), tg_name, by rw [List.getElem?_map, List.getElem?_map, e]; rfl, fun _ _ _ _ _ => ?_⟩
        exact px_call (g_line T) hr (by decide) b (hb1.ok b (List.mem_of_getElem? e)) (pa_c (px_var (pv 6) rfl) pa_n)
    case c10 =>
      have := join_le hb1
      refine Nat.le_trans (Nat.add_le_add_left (Nat.mul_le_mul_left _ (show Str.length "" ≤ 2 by decide)) _) this
end
def hfn : List He.DefD := [dD "is_number" s_is_number, dD "show_bag" s_show_bag, dD "show_plan" s_show_plan, dD "read_bag" s_read_bag, dD "read_plan" s_read_plan, dD "_law_bag" s_law_bag, dD "_law_line" s_law_line, dD "_law_read" s_law_read, dD "law" s_law]
def hfa : List He.Fa := [.free "ValueError", .free "range", .free "list", .free "int", .free "tuple", .free "any", .free "all", .free "len", .free "str", .free "isinstance", .free "bool", .glo "is_number", .glo "show_bag", .glo "show_plan", .glo "read_bag", .glo "read_plan", .glo "_law_bag", .glo "_law_line", .glo "_law_read", .glo "law", .str "FIGURES" "0123456789"]
def hfb : List Fb := []
abbrev hex : PySem.W.Frag → Bool := exB hfb
abbrev csK (K : PySem.W.Frag) : Cs := ⟨He.ga K "RoadError", He.ga K "NoText"⟩
theorem top_of {K : PySem.W.Frag} {h : Heap} {mg : Str → Option Value} {w : World} (X : K.In h) (G : h.Ns mainGlobals mg) (says : He.SaysX hfa hfn [] [] hex w h K) : Top K mg (csK K) := by
  have c : He.SaysD hfa hfn K := says.t.d
  have cx : exB hfb K = true := says.more
  exact {
    z_ValueError := He.free_ok X G (c.fact 0 (f := .free "ValueError") rfl)
    z_range := He.free_ok X G (c.fact 1 (f := .free "range") rfl)
    z_list := He.free_ok X G (c.fact 2 (f := .free "list") rfl)
    z_int := He.free_ok X G (c.fact 3 (f := .free "int") rfl)
    z_tuple := He.free_ok X G (c.fact 4 (f := .free "tuple") rfl)
    z_any := He.free_ok X G (c.fact 5 (f := .free "any") rfl)
    z_all := He.free_ok X G (c.fact 6 (f := .free "all") rfl)
    z_len := He.free_ok X G (c.fact 7 (f := .free "len") rfl)
    z_str := He.free_ok X G (c.fact 8 (f := .free "str") rfl)
    z_isinstance := He.free_ok X G (c.fact 9 (f := .free "isinstance") rfl)
    z_bool := He.free_ok X G (c.fact 10 (f := .free "bool") rfl)
    d_is_number := dfn_of c (He.glo_ok X G (c.fact 11 (f := .glo "is_number") rfl)) 0
    d_show_bag := dfn_of c (He.glo_ok X G (c.fact 12 (f := .glo "show_bag") rfl)) 1
    d_show_plan := dfn_of c (He.glo_ok X G (c.fact 13 (f := .glo "show_plan") rfl)) 2
    d_read_bag := dfn_of c (He.glo_ok X G (c.fact 14 (f := .glo "read_bag") rfl)) 3
    d_read_plan := dfn_of c (He.glo_ok X G (c.fact 15 (f := .glo "read_plan") rfl)) 4
    d_law_bag := dfn_of c (He.glo_ok X G (c.fact 16 (f := .glo "_law_bag") rfl)) 5
    d_law_line := dfn_of c (He.glo_ok X G (c.fact 17 (f := .glo "_law_line") rfl)) 6
    d_law_read := dfn_of c (He.glo_ok X G (c.fact 18 (f := .glo "_law_read") rfl)) 7
    d_law := dfn_of c (He.glo_ok X G (c.fact 19 (f := .glo "law") rfl)) 8
    k_FIGURES := He.str_ok X G (c.fact 20 (f := .str "FIGURES" "0123456789") rfl)
  }
abbrev R : PySem.W.OpenRow := PySem.W.OpenLaw.row PySem.Challenge.rw_postroad_k81_plans_as_texts
abbrev hk : PySem.W.Hook := He.hookX 5 hfa hfn [] [] hex
def ob (s : PySem.W.SharedT) : He.AlX := He.obsX 5 hfa hfn [] [] hex (HandSHeadRun.getT s)
theorem ob_eq (s : PySem.W.SharedT) : ob s = hk.obs s.abs := He.obsX_eq (HandSHeadRun.getT_eq s)
def loose : List Str := ["RoadError", "NoText", "FIGURES", "is_number", "show_bag", "show_plan", "read_bag", "read_plan", "_law_bag", "_law_line", "_law_read"]
theorem run (w : World) : HandSHeadRun.RunEq R (PySem.W.view R.prog [14]) hk ob 20000 loose w := by
  intro os
  kernel_rfl
end Lw
open PySem PySem.W PySem.Calls PyProof.Rows
set_option maxHeartbeats 0 in
theorem PySem.Challenge.cw_postroad_k81_plans_as_texts_holds : PySem.Challenge.rw_postroad_k81_plans_as_texts.Holds := by
  w_on; o_law
  refine HandSHeadRun.head_any (r := OpenLaw.row PySem.Challenge.rw_postroad_k81_plans_as_texts) (q := view (OpenLaw.row PySem.Challenge.rw_postroad_k81_plans_as_texts).prog [14]) (H := Lw.hk) (ob := Lw.ob) (M := 20000) (loose := Lw.loose) (d := HandSHeadRun.topDef (OpenLaw.row PySem.Challenge.rw_postroad_k81_plans_as_texts).prog 14) (kwd := []) Lw.ob_eq
    (by kernel_rfl) (fun s => by kernel_rfl) Lw.run (by kernel_rfl) (by kernel_rfl) (by kernel_rfl) (by rfl) (by first | assumption | decide +kernel) (by decide +kernel) ⟨rfl, rfl, rfl, rfl, rfl, by decide +kernel⟩ ?hw ?hc
  case hw => w_witness2
  case hc =>
    refine L2.walk_ofE (l := PySem.Challenge.rw_postroad_k81_plans_as_texts) (n := 63) (k := Lw.lvl) (x := "_law_script") (CX := L2.CX0) rfl (by decide) (by kernel_rfl) ⟨rfl, by decide, by decide⟩ ?F (fun _ _ _ _ z => z)
    intro w mg fa h Y G hmg0
    obtain ⟨K, KX, c⟩ := Y
    have hmg : mg ("law" : PySem.Str) = some (.ref fa) := by
      have e : (HandSHeadRun.topDef (OpenLaw.row PySem.Challenge.rw_postroad_k81_plans_as_texts).prog 14).name = ("law" : PySem.Str) := by kernel_rfl
      rw [← e]
      exact hmg0
    have T := Lw.top_of KX G c
    obtain ⟨fd, hb, hF⟩ := Sx.law_end (P := (PySem.Challenge.rw_postroad_k81_plans_as_texts).prog) (w := w) (pn := "_law_script") (k := Lw.lvl) T.d_law hmg (fun _ _ _ _ _ _ s v => .of_eq rfl) (fun base h1 h2 f fd F => Lw.ok_law T F)
    exact ⟨K, fd, Sx.spLaw K, KX, hb, fun H a ns hl _ hS => ⟨a, ns, rfl, hS, hl, fun _ => rfl⟩, hF⟩
