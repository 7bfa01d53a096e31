import PyProof.Rows.All
import Wide.All
import OpenK.AllK
import Wide.FinOn
import HandS.ForMost
import HandS.Exc
import HandS.WordsExc
import HandS.IsInst
import HandS.Conv
import HandS.Text
import HandS.TupAny
import HandS.Steps
import HandS.SortInts
import HandS.DictComp
import Lean
import KE.KStateDown
import HandS.Defaults
import HandS.Head0
import HandS.Head1
import HandS.Head2
import HandS.HeadEnd
import HandS.HeadHook1
import HandS.HeadHook2
import HandS.HeadHook3
import HandS.HeadHook4
import PySem.Challenge.RW_postroad_k04_whole_far
set_option Elab.async false
set_option linter.all false
set_option maxRecDepth 100000
set_option maxHeartbeats 2000000
/-! Frozen data, owned cells, states: a small separation logic over the layer's readings. -/
namespace Sx
open PySem L2

/-! ### heaps -/
/-- B knows all that A knows -/
def Ex (A B : Hp) : Prop := ∀ x u, A x = some u → B x = some u
theorem Ex.rf {A : Hp} : Ex A A := fun _ _ q => q
theorem Ex.tr {A B C : Hp} (p : Ex A B) (q : Ex B C) : Ex A C := fun x u z => q x u (p x u z)
theorem Ex.mut {A B : Hp} {q : Addr} {u : HO} (s : Ex A B) (n : A q = none) : Ex A (upd B q u) := fun x v z => (upd_ne (ne_of_none z n)).trans (s x v z)
theorem Ex.new {A : Hp} {q : Addr} {u : HO} (n : A q = none) : Ex A (upd A q u) := Ex.rf.mut n
theorem Ex.free {A B : Hp} (s : Ex A B) {q : Addr} (n : B q = none) : A q = none := Option.eq_none_iff_forall_ne_some.mpr fun u z => by
  rw [s q u z] at n; cases n
theorem Ex.upd2 {A B : Hp} {q : Addr} {u : HO} (s : Ex A B) : Ex (upd A q u) (upd B q u) := fun x v z => by
  by_cases k : x = q
  · subst k; rw [upd_same] at z ⊢; exact z
  · rw [upd_ne k] at z ⊢; exact s x v z
theorem ex_rd {A B : Hp} {x : Addr} {u : HO} (s : Ex A B) : Rd A x u → Rd B x u := Or.imp (s x _) fun ⟨o, z⟩ => ⟨o, s x _ z⟩
theorem ex_l {K : PySem.W.Frag} {A B : Hp} {x : Addr} {vs : List V} (s : Ex A B) : SqL K A x vs → SqL K B x vs := Or.imp (ex_rd s) id
theorem ex_t {K : PySem.W.Frag} {A B : Hp} {x : Addr} {vs : List V} (s : Ex A B) : SqT K A x vs → SqT K B x vs := Or.imp (ex_rd s) id
def emp : Hp := fun _ => none
def one (p : Addr) (o : HO) : Hp := upd emp p o
def join (A B : Hp) : Hp := fun a => match A a with | some o => some o | none => B a
theorem join_l {A B : Hp} {a : Addr} {o : HO} (h : A a = some o) : join A B a = some o := by unfold join; rw [h]
theorem join_r {A B : Hp} {a : Addr} (h : A a = none) : join A B a = B a := by unfold join; rw [h]
theorem join_emp (A : Hp) : join A emp = A := by
  funext a; unfold join emp; cases A a <;> rfl
theorem emp_join (A : Hp) : join emp A = A := by
  funext a; unfold join emp; rfl
theorem join_some {A B : Hp} {a : Addr} {o : HO} (h : join A B a = some o) : A a = some o ∨ (A a = none ∧ B a = some o) := by
  unfold join at h
  cases q : A a with
  | some u => rw [q] at h; exact .inl h
  | none => rw [q] at h; exact .inr ⟨rfl, h⟩
theorem join_none {A B : Hp} {a : Addr} (h : join A B a = none) : A a = none ∧ B a = none := by
  unfold join at h
  cases q : A a with
  | some u => rw [q] at h; cases h
  | none => rw [q] at h; exact ⟨rfl, h⟩
theorem join_assoc (A B C : Hp) : join (join A B) C = join A (join B C) := by
  funext a; unfold join; cases A a <;> rfl
/-- nothing in common -/
def Dj (A B : Hp) : Prop := ∀ a o, A a = some o → B a = none
theorem Dj.sym {A B : Hp} (h : Dj A B) : Dj B A := fun a o e => by
  cases q : A a with
  | none => rfl
  | some u => rw [h a u q] at e; cases e
theorem Dj.comm {A B : Hp} (h : Dj A B) : join A B = join B A := by
  funext a
  unfold join
  cases q : A a with
  | none => cases B a <;> rfl
  | some u => rw [h a u q]
theorem Dj.emp (A : Hp) : Dj A emp := fun _ _ _ => rfl
theorem Dj.l {A B C : Hp} (h : Dj (join A B) C) : Dj A C := fun a o e => h a o (join_l e)
theorem Dj.r {A B C : Hp} (d : Dj A B) (h : Dj (join A B) C) : Dj B C := fun a o e => h a o (by rw [join_r (d.sym a o e)]; exact e)
theorem Dj.joinL {A B C : Hp} (h : Dj A C) (k : Dj B C) : Dj (join A B) C := fun a o e => by
  rcases join_some e with q | ⟨_, q⟩
  · exact h a o q
  · exact k a o q
theorem Ex.joinL {A B H : Hp} (h : Ex (join A B) H) : Ex A H := fun a o e => h a o (join_l e)
theorem Ex.joinR {A B H : Hp} (d : Dj A B) (h : Ex (join A B) H) : Ex B H := fun a o e => h a o (by rw [join_r (d.sym a o e)]; exact e)
theorem Ex.join {A B H : Hp} (h : Ex A H) (k : Ex B H) : Ex (join A B) H := fun a o e => by
  rcases join_some e with q | ⟨_, q⟩
  · exact h a o q
  · exact k a o q
theorem one_same {p : Addr} {o : HO} : one p o p = some o := upd_same
theorem one_some {p a : Addr} {o u : HO} (h : one p o a = some u) : a = p ∧ u = o := by
  unfold one upd emp at h
  by_cases e : a = p
  · rw [if_pos e] at h; exact ⟨e, (Option.some.inj h).symm⟩
  · rw [if_neg e] at h; cases h
theorem one_ne {p a : Addr} {o : HO} (h : a ≠ p) : one p o a = none := by
  unfold one; rw [upd_ne h]; rfl
theorem upd_one {p : Addr} {o u : HO} : upd (one p o) p u = one p u := upd_upd

/-! ### frozen data -/
inductive D where
  | non | bl (b : Bool) | int (i : Int) | str (x : Str) | adr (a : Addr) | ty (n : String)
  | lst (ds : List D) | tup (ds : List D) | ins (C : Addr) (fs : List (Str × D)) | scr (ds : List D) | dK (kvs : List (Key × D)) | dT (kvs : List (List Key × D))

mutual
inductive Fd (K : PySem.W.Frag) (F : Hp) : V → D → Prop
  | non : Fd K F .non .non
  | bl (b : Bool) : Fd K F (.bl b) (.bl b)
  | int (i : Int) : Fd K F (.int i) (.int i)
  | str (x : Str) : Fd K F (.str x) (.str x)
  | adr (a : Addr) : Fd K F (.ref a) (.adr a)
  | ty (n : String) : Fd K F (.ty n) (.ty n)
  | lst {a : Addr} {vs : List V} {ds : List D} : F a = some (.lst vs) → FdAll K F vs ds → Fd K F (.ref a) (.lst ds)
  | tup {a : Addr} {vs : List V} {ds : List D} : SqT K F a vs → FdAll K F vs ds → Fd K F (.ref a) (.tup ds)
  | ins {a C dx : Addr} {vs : List (Str × V)} {fs : List (Str × D)} : F a = some (.ins C dx vs) → FdFs K F vs fs → Fd K F (.ref a) (.ins C fs)
  | scr {a : Addr} {vs : List V} {ds : List D} : SqL K F a vs → FdAll K F vs ds → Fd K F (.ref a) (.scr ds)
  | dK {a : Addr} {vs : List (Key × V)} {kvs : List (Key × D)} : F a = some (.dK vs) → FdFs K F vs kvs → Fd K F (.ref a) (.dK kvs)
  | dT {a : Addr} {vs : List (List Key × V)} {kvs : List (List Key × D)} : F a = some (.dT vs) → FdFs K F vs kvs → Fd K F (.ref a) (.dT kvs)
inductive FdAll (K : PySem.W.Frag) (F : Hp) : List V → List D → Prop
  | nil : FdAll K F [] []
  | cons {v : V} {vs : List V} {d : D} {ds : List D} : Fd K F v d → FdAll K F vs ds → FdAll K F (v :: vs) (d :: ds)
inductive FdFs (K : PySem.W.Frag) (F : Hp) : {κ : Type} → List (κ × V) → List (κ × D) → Prop
  | nil {κ : Type} : FdFs K F (κ := κ) [] []
  | cons {κ : Type} {n : κ} {v : V} {vs : List (κ × V)} {d : D} {ds : List (κ × D)} : Fd K F v d → FdFs K F vs ds → FdFs K F ((n, v) :: vs) ((n, d) :: ds)
end

section
variable {K : PySem.W.Frag} {F F' : Hp}
mutual
theorem Fd.go (e : Ex F F') : ∀ {v : V} {d : D}, Fd K F v d → Fd K F' v d
  | _, _, .non => .non
  | _, _, .bl _ => .bl _
  | _, _, .int _ => .int _
  | _, _, .str _ => .str _
  | _, _, .adr _ => .adr _
  | _, _, .ty _ => .ty _
  | _, _, .lst s a => .lst (e _ _ s) (FdAll.go e a)
  | _, _, .tup s a => .tup (ex_t e s) (FdAll.go e a)
  | _, _, .ins s a => .ins (e _ _ s) (FdFs.go e a)
  | _, _, .scr s a => .scr (ex_l e s) (FdAll.go e a)
  | _, _, .dK s a => .dK (e _ _ s) (FdFs.go e a)
  | _, _, .dT s a => .dT (e _ _ s) (FdFs.go e a)
theorem FdAll.go (e : Ex F F') : ∀ {vs : List V} {ds : List D}, FdAll K F vs ds → FdAll K F' vs ds
  | _, _, .nil => .nil
  | _, _, .cons a b => .cons (Fd.go e a) (FdAll.go e b)
theorem FdFs.go (e : Ex F F') : ∀ {κ : Type} {vs : List (κ × V)} {ds : List (κ × D)}, FdFs K F vs ds → FdFs K F' vs ds
  | _, _, _, .nil => .nil
  | _, _, _, .cons a b => .cons (Fd.go e a) (FdFs.go e b)
end
theorem Fd.mono (e : Ex F F') (d : D) {v : V} (h : Fd K F v d) : Fd K F' v d := Fd.go e h
theorem FdAll.mono (e : Ex F F') (ds : List D) {vs : List V} (h : FdAll K F vs ds) : FdAll K F' vs ds := FdAll.go e h
theorem FdFs.mono {κ : Type} (e : Ex F F') (ds : List (κ × D)) {vs : List (κ × V)} (h : FdFs K F vs ds) : FdFs K F' vs ds := FdFs.go e h
theorem FdAll.length : ∀ {vs : List V} {ds : List D}, FdAll K F vs ds → vs.length = ds.length
  | _, _, .nil => rfl
  | _, _, .cons _ t => by rw [List.length_cons, List.length_cons, FdAll.length t]
theorem FdAll.get : ∀ {vs : List V} {ds : List D} {i : Nat} {d : D}, FdAll K F vs ds → ds[i]? = some d → ∃ v, vs[i]? = some v ∧ Fd K F v d
  | _, _, i, _, .nil, e => by simp at e
  | _, _, 0, _, .cons h _, e => by simp at e; subst e; exact ⟨_, rfl, h⟩
  | _, _, i + 1, _, .cons _ t, e => by
    obtain ⟨v, h1, h2⟩ := FdAll.get (i := i) t (by simpa using e)
    exact ⟨v, by simpa using h1, h2⟩
theorem FdAll.getV : ∀ {vs : List V} {ds : List D} {i : Nat} {v : V}, FdAll K F vs ds → vs[i]? = some v → ∃ d, ds[i]? = some d ∧ Fd K F v d
  | _, _, i, _, .nil, e => by simp at e
  | _, _, 0, _, .cons h _, e => by simp at e; subst e; exact ⟨_, rfl, h⟩
  | _, _, i + 1, _, .cons _ t, e => by
    obtain ⟨v, h1, h2⟩ := FdAll.getV (i := i) t (by simpa using e)
    exact ⟨v, by simpa using h1, h2⟩
theorem FdAll.app : ∀ {vs ws : List V} {ds es : List D}, FdAll K F vs ds → FdAll K F ws es → FdAll K F (vs ++ ws) (ds ++ es)
  | _, _, _, _, .nil, h => h
  | _, _, _, _, .cons h t, k => .cons h (FdAll.app t k)
theorem FdAll.take : ∀ {vs : List V} {ds : List D} (n : Nat), FdAll K F vs ds → FdAll K F (vs.take n) (ds.take n)
  | _, _, 0, _ => by simp; exact .nil
  | _, _, _ + 1, .nil => by simp; exact .nil
  | _, _, n + 1, .cons h t => .cons h (FdAll.take n t)
theorem FdAll.drop : ∀ {vs : List V} {ds : List D} (n : Nat), FdAll K F vs ds → FdAll K F (vs.drop n) (ds.drop n)
  | _, _, 0, h => h
  | _, _, _ + 1, .nil => by simp; exact .nil
  | _, _, n + 1, .cons _ t => FdAll.drop n t
theorem FdAll.set : ∀ {vs : List V} {ds : List D} (n : Nat) {v : V} {d : D}, FdAll K F vs ds → Fd K F v d → FdAll K F (vs.set n v) (ds.set n d)
  | _, _, _, _, _, .nil, _ => .nil
  | _, _, 0, _, _, .cons _ t, k => .cons k t
  | _, _, n + 1, _, _, .cons h t, k => .cons h (FdAll.set n t k)
theorem FdAll.rev : ∀ {vs : List V} {ds : List D}, FdAll K F vs ds → FdAll K F vs.reverse ds.reverse
  | _, _, .nil => .nil
  | _, _, .cons h t => by rw [List.reverse_cons, List.reverse_cons]; exact (FdAll.rev t).app (.cons h .nil)
theorem FdAll.replicate {v : V} {d : D} (h : Fd K F v d) : ∀ n, FdAll K F (List.replicate n v) (List.replicate n d)
  | 0 => .nil
  | n + 1 => .cons h (FdAll.replicate h n)
theorem FdFs.names {κ : Type} : ∀ {vs : List (κ × V)} {ds : List (κ × D)}, FdFs K F vs ds → vs.map (·.1) = ds.map (·.1)
  | _, _, .nil => rfl
  | _, _, .cons _ t => by rw [List.map_cons, List.map_cons, FdFs.names t]
theorem FdFs.length {κ : Type} {vs : List (κ × V)} {ds : List (κ × D)} (h : FdFs K F vs ds) : vs.length = ds.length := by
  have e := congrArg List.length h.names
  rw [List.length_map, List.length_map] at e
  exact e
theorem FdFs.look {f : Str} {d : D} : ∀ {vs : List (Str × V)} {ds : List (Str × D)}, FdFs K F vs ds → ds.lookup f = some d → ∃ v, vs.lookup f = some v ∧ Fd K F v d
  | _, _, .nil, e => by simp at e
  | _, _, .cons (n := n) h t, e => by
    rw [List.lookup_cons] at e ⊢
    cases q : (f == n) with
    | true => rw [q] at e; cases e; exact ⟨_, rfl, h⟩
    | false => rw [q] at e; exact FdFs.look t e
theorem FdFs.nolook {f : Str} : ∀ {vs : List (Str × V)} {ds : List (Str × D)}, FdFs K F vs ds → ds.lookup f = none → vs.lookup f = none
  | _, _, .nil, _ => rfl
  | _, _, .cons (n := n) h t, e => by
    rw [List.lookup_cons] at e ⊢
    cases q : (f == n) with
    | true => rw [q] at e; cases e
    | false => rw [q] at e; exact FdFs.nolook t e
def putD (f : Str) (d : D) : List (Str × D) → List (Str × D)
  | [] => [(f, d)]
  | (g, x) :: r => if g = f then (g, d) :: r else (g, x) :: putD f d r
theorem FdFs.put {f : Str} {v : V} {d : D} (k : Fd K F v d) : ∀ {vs : List (Str × V)} {ds : List (Str × D)}, FdFs K F vs ds → FdFs K F (putF f v vs) (putD f d ds)
  | _, _, .nil => .cons k .nil
  | _, _, .cons (n := n) h t => by
    unfold putF putD
    by_cases e : n = f
    · rw [if_pos e, if_pos e]; exact .cons k t
    · rw [if_neg e, if_neg e]; exact .cons h (FdFs.put k t)
theorem FdAll.ints : ∀ {vs : List V} {ns : List Int}, FdAll K F vs (ns.map D.int) → vs = ns.map V.int
  | _, [], h => by cases h; rfl
  | _, n :: ns, h => by cases h with | cons a b => cases a; rw [List.map_cons, FdAll.ints b]
theorem FdAll.strs : ∀ {vs : List V} {ns : List Str}, FdAll K F vs (ns.map D.str) → vs = ns.map V.str
  | _, [], h => by cases h; rfl
  | _, n :: ns, h => by cases h with | cons a b => cases a; rw [List.map_cons, FdAll.strs b]
theorem FdAll.bls : ∀ {vs : List V} {ns : List Bool}, FdAll K F vs (ns.map D.bl) → vs = ns.map V.bl
  | _, [], h => by cases h; rfl
  | _, n :: ns, h => by cases h with | cons a b => cases a; rw [List.map_cons, FdAll.bls b]
theorem FdAll.ofInts : ∀ (ns : List Int), FdAll K F (ns.map V.int) (ns.map D.int)
  | [] => .nil
  | n :: ns => .cons (.int n) (FdAll.ofInts ns)
theorem FdAll.ofStrs : ∀ (ns : List Str), FdAll K F (ns.map V.str) (ns.map D.str)
  | [] => .nil
  | n :: ns => .cons (.str n) (FdAll.ofStrs ns)
end

/-! ### owned cells -/
structure Res where
  P : Hp → Hp → Prop
  mono : ∀ {F F' M : Hp}, Ex F F' → P F M → P F' M
def Rs : List Res → Hp → Hp → Prop
  | [], _, M => M = emp
  | r :: l, F, M => ∃ A B, M = join A B ∧ Dj A B ∧ r.P F A ∧ Rs l F B
theorem Rs.mono {F F' : Hp} (e : Ex F F') : ∀ {l : List Res} {M : Hp}, Rs l F M → Rs l F' M
  | [], _, h => h
  | r :: l, _, ⟨A, B, h1, h2, h3, h4⟩ => ⟨A, B, h1, h2, r.mono e h3, Rs.mono e h4⟩
theorem Rs.split {F : Hp} : ∀ {l k : List Res} {M : Hp}, Rs (l ++ k) F M → ∃ A B, M = join A B ∧ Dj A B ∧ Rs l F A ∧ Rs k F B
  | [], _, M, h => ⟨emp, M, (emp_join M).symm, (Dj.emp M).sym, rfl, h⟩
  | r :: l, k, M, ⟨A, B, h1, h2, h3, h4⟩ => by
    obtain ⟨A', B', g1, g2, g3, g4⟩ := Rs.split h4
    subst g1
    refine ⟨join A A', B', by rw [h1, join_assoc], ?_, ⟨A, A', rfl, (Dj.l h2.sym).sym, h3, g3⟩, g4⟩
    exact Dj.joinL ((Dj.r g2 h2.sym).sym) g2
theorem Rs.app {F : Hp} : ∀ {l k : List Res} {A B : Hp}, Rs l F A → Rs k F B → Dj A B → Rs (l ++ k) F (join A B)
  | [], _, _, _, h, g, _ => by
    have e : _ = emp := h
    subst e
    rw [emp_join]; exact g
  | r :: l, k, _, B, ⟨A1, A2, h1, h2, h3, h4⟩, g, d => by
    subst h1
    rw [join_assoc]
    refine ⟨A1, join A2 B, rfl, ?_, h3, Rs.app h4 g (Dj.r h2 d)⟩
    exact (Dj.joinL h2.sym (Dj.l d).sym).sym
/-- the k-th one apart -/
theorem Rs.at {F : Hp} : ∀ {l : List Res} {k : Nat} {r : Res} {M : Hp}, l[k]? = some r → Rs l F M → ∃ A B, M = join A B ∧ Dj A B ∧ r.P F A ∧ ∀ r' A' F', Ex F F' → r'.P F' A' → Dj A' B → Rs (l.set k r') F' (join A' B)
  | [], k, r, M, e, _ => by simp at e
  | r0 :: l, 0, r, M, e, ⟨A, B, h1, h2, h3, h4⟩ => by
    simp at e; subst e
    exact ⟨A, B, h1, h2, h3, fun r' A' F' x p d => ⟨A', B, rfl, d, p, Rs.mono x h4⟩⟩
  | r0 :: l, k + 1, r, M, e, ⟨A, B, h1, h2, h3, h4⟩ => by
    obtain ⟨A2, B2, g1, g2, g3, g4⟩ := Rs.at (k := k) (r := r) (by simpa using e) h4
    subst g1
    refine ⟨A2, join A B2, ?_, ?_, g3, fun r' A' F' x p d => ?_⟩
    · rw [h1, ← join_assoc, ← join_assoc, (Dj.l h2.sym).comm]
    · exact (Dj.joinL (Dj.l h2.sym).sym g2.sym).sym
    · rw [List.set_cons_succ]
      have dA : Dj A A' := Dj.l d.sym
      have dAB : Dj A B2 := (Dj.r g2 h2.sym).sym
      have dB : Dj A' B2 := (Dj.r dAB d.sym).sym
      refine ⟨A, join A' B2, ?_, ?_, r0.mono x h3, g4 r' A' F' x p dB⟩
      · rw [← join_assoc, ← join_assoc, dA.comm]
      · exact (Dj.joinL dA.sym dAB.sym).sym

/-! ### states -/
structure Tm where
  P : Hp → Prop
  mono : ∀ {F F' : Hp}, Ex F F' → P F → P F'
def Tm.tt : Tm := ⟨fun _ => True, fun _ _ => trivial⟩
def Tm.and (K : PySem.W.Frag) (T : Tm) (v : V) (d : D) : Tm := ⟨fun F => Fd K F v d ∧ T.P F, fun e h => ⟨Fd.mono e d h.1, T.mono e h.2⟩⟩
def Tm.ands (K : PySem.W.Frag) (T : Tm) (vs : List V) (ds : List D) : Tm := ⟨fun F => FdAll K F vs ds ∧ T.P F, fun e h => ⟨FdAll.mono e ds h.1, T.mono e h.2⟩⟩
def Tm.ex (T : Tm) (F0 : Hp) : Tm := ⟨fun F => Ex F0 F ∧ T.P F, fun e h => ⟨h.1.tr e, T.mono e h.2⟩⟩
abbrev Gm := List (Option D)
def nth : Gm → Nat → Option D
  | [], _ => none
  | d :: _, 0 => d
  | _ :: r, i + 1 => nth r i
inductive Sl (K : PySem.W.Frag) (F : Hp) : Gm → St → Prop
  | nil : Sl K F [] []
  | any {o : Option V} {g : Gm} {σ : St} : Sl K F g σ → Sl K F (none :: g) (o :: σ)
  | cons {v : V} {d : D} {g : Gm} {σ : St} : Fd K F v d → Sl K F g σ → Sl K F (some d :: g) (some v :: σ)
section
variable {K : PySem.W.Frag} {F F' : Hp}
theorem Sl.mono (e : Ex F F') : ∀ {g : Gm} {σ : St}, Sl K F g σ → Sl K F' g σ
  | _, _, .nil => .nil
  | _, _, .any h => .any (Sl.mono e h)
  | _, _, .cons a h => .cons (Fd.mono e _ a) (Sl.mono e h)
theorem Sl.nth : ∀ {g : Gm} {σ : St} {i : Nat} {d : D}, Sl K F g σ → Sx.nth g i = some d → ∃ v, σ[i]? = some (some v) ∧ Fd K F v d
  | _, _, _, _, .nil, e => by cases e
  | _, _, 0, _, .any _, e => by cases e
  | _, _, i + 1, d, .any h, e => by
    obtain ⟨v, h1, h2⟩ := Sl.nth (i := i) (d := d) h e
    exact ⟨v, by simpa using h1, h2⟩
  | _, _, 0, _, .cons a _, e => by cases e; exact ⟨_, rfl, a⟩
  | _, _, i + 1, d, .cons _ h, e => by
    obtain ⟨v, h1, h2⟩ := Sl.nth (i := i) (d := d) h e
    exact ⟨v, by simpa using h1, h2⟩
theorem Sl.set : ∀ {g : Gm} {σ : St} (i : Nat) {v : V} {d : D}, Sl K F g σ → Fd K F v d → Sl K F (g.set i (some d)) (σ.set i (some v))
  | _, _, _, _, _, .nil, _ => .nil
  | _, _, 0, _, _, .any h, k => .cons k h
  | _, _, i + 1, _, _, .any h, k => .any (Sl.set i h k)
  | _, _, 0, _, _, .cons _ h, k => .cons k h
  | _, _, i + 1, _, _, .cons a h, k => .cons a (Sl.set i h k)
theorem Sl.clear : ∀ {g : Gm} {σ : St} (i : Nat) {o : Option V}, Sl K F g σ → Sl K F (g.set i none) (σ.set i o)
  | _, _, _, _, .nil => .nil
  | _, _, 0, _, .any h => .any h
  | _, _, i + 1, _, .any h => .any (Sl.clear i h)
  | _, _, 0, _, .cons _ h => .any h
  | _, _, i + 1, _, .cons a h => .cons a (Sl.clear i h)
/-- forgetting -/
inductive Wk : Gm → Gm → Prop
  | nil : Wk [] []
  | any {o : Option D} {g g' : Gm} : Wk g g' → Wk (o :: g) (none :: g')
  | keep {o : Option D} {g g' : Gm} : Wk g g' → Wk (o :: g) (o :: g')
theorem Wk.rf : ∀ {g : Gm}, Wk g g
  | [] => .nil
  | _ :: _ => .keep Wk.rf
theorem Sl.weak : ∀ {g g' : Gm} {σ : St}, Wk g g' → Sl K F g σ → Sl K F g' σ
  | _, _, _, .nil, h => h
  | _, _, _, .any w, .any h => .any (Sl.weak w h)
  | _, _, _, .any w, .cons _ h => .any (Sl.weak w h)
  | _, _, _, .keep w, .any h => .any (Sl.weak w h)
  | _, _, _, .keep w, .cons a h => .cons a (Sl.weak w h)
theorem Sl.len : ∀ {g : Gm} {σ : St}, Sl K F g σ → g.length = σ.length
  | _, _, .nil => rfl
  | _, _, .any h => by rw [List.length_cons, List.length_cons, Sl.len h]
  | _, _, .cons _ h => by rw [List.length_cons, List.length_cons, Sl.len h]
theorem Sl.nones : ∀ n, Sl K F (List.replicate n none) (List.replicate n none)
  | 0 => .nil
  | n + 1 => .any (Sl.nones n)
theorem Sl.args : ∀ {vs : List V} {ds : List D} (n : Nat), FdAll K F vs ds → Sl K F (ds.map some ++ List.replicate n none) (vs.map some ++ List.replicate n none)
  | _, _, n, .nil => Sl.nones n
  | _, _, n, .cons a h => .cons a (Sl.args n h)
end
/-- a def's entry: what was frozen, what was owned, the heap -/
structure En where
  F : Hp
  M : Hp
  H : Hp
structure At (K : PySem.W.Frag) (e : En) (g : Gm) (T : Tm) (l : List Res) (σ : St) (H F M : Hp) : Prop where
  exF : Ex F H
  exM : Ex M H
  dj : Dj F M
  eF : Ex e.F F
  nF : ∀ a o, F a = some o → e.F a = some o ∨ e.H a = none ∨ ∃ u, e.M a = some u
  nM : ∀ a o, M a = some o → e.H a = none ∨ ∃ u, e.M a = some u
  fr : ∀ a o, e.H a = some o → e.M a = none → H a = some o
  sl : Sl K F g σ
  tm : T.P F
  rs : Rs l F M
def S (K : PySem.W.Frag) (e : En) (g : Gm) (T : Tm) (l : List Res) (σ : St) (H : Hp) : Prop := ∃ F M, At K e g T l σ H F M
/-- something new is frozen -/
structure New (F H F' H' : Hp) : Prop where
  f : Ex F F'
  h : Ex H H'
  i : Ex F' H'
  n : ∀ a o, F' a = some o → F a = some o ∨ H a = none
theorem New.rf {F H : Hp} (e : Ex F H) : New F H F H := ⟨.rf, .rf, e, fun _ _ h => .inl h⟩
theorem New.tr {F H F1 H1 F2 H2 : Hp} (a : New F H F1 H1) (b : New F1 H1 F2 H2) : New F H F2 H2 :=
  ⟨a.f.tr b.f, a.h.tr b.h, b.i, fun x o h => by
    rcases b.n x o h with q | q
    · exact a.n x o q
    · exact .inr (a.h.free q)⟩
theorem New.upd {F H : Hp} {p : Addr} {o : HO} (e : Ex F H) (h : H p = none) : New F H (upd F p o) (L2.upd H p o) :=
  ⟨.new (e.free h), .new h, e.upd2, fun a u q => by
    by_cases z : a = p
    · subst z; exact .inr h
    · rw [upd_ne z] at q; exact .inl q⟩
/-- the heap grows without being frozen -/
theorem New.grow {F H H' : Hp} (e : Ex F H) (h : Ex H H') : New F H F H' := ⟨.rf, h, e.tr h, fun _ _ q => .inl q⟩
section
variable {K : PySem.W.Frag} {e : En} {g g' : Gm} {T T' : Tm} {l l' : List Res} {σ σ' : St} {H H' F F' M M' : Hp}
theorem At.new (a : At K e g T l σ H F M) (n : New F H F' H') : At K e g T l σ H' F' M :=
  ⟨n.i, a.exM.tr n.h, fun x o h => by
    rcases n.n x o h with q | q
    · exact a.dj x o q
    · exact a.exM.free q,
   a.eF.tr n.f, fun x o h => by
    rcases n.n x o h with q | q
    · exact a.nF x o q
    · by_cases z : e.M x = none
      · right; left
        cases w : e.H x with
        | none => rfl
        | some u => rw [a.fr x u w z] at q; cases q
      · right; right
        cases w : e.M x with
        | none => exact absurd w z
        | some u => exact ⟨u, rfl⟩,
   a.nM, fun x o h1 h2 => n.h x o (a.fr x o h1 h2), a.sl.mono n.f, T.mono n.f a.tm, a.rs.mono n.f⟩
theorem At.tmp (a : At K e g T l σ H F M) (h : T'.P F) : At K e g T' l σ H F M := ⟨a.exF, a.exM, a.dj, a.eF, a.nF, a.nM, a.fr, a.sl, h, a.rs⟩
theorem At.slots (a : At K e g T l σ H F M) (h : Sl K F g' σ') : At K e g' T l σ' H F M := ⟨a.exF, a.exM, a.dj, a.eF, a.nF, a.nM, a.fr, h, a.tm, a.rs⟩
theorem At.entry (ef : Ex F H) (em : Ex M H) (d : Dj F M) (s : Sl K F g σ) (t : T.P F) (r : Rs l F M) : At K ⟨F, M, H⟩ g T l σ H F M :=
  ⟨ef, em, d, .rf, fun _ _ h => .inl h, fun _ o h => .inr ⟨o, h⟩, fun _ _ h _ => h, s, t, r⟩
/-- a part of the state apart: what runs on F, A (of M = join A B) gives back the whole -/
theorem At.frame {A B : Hp} {lA lB : List Res} (a : At K e g T l σ H F (join A B)) (d : Dj A B) (rB : Rs lB F B) {g2 : Gm} {σ2 : St} {T2 : Tm} {F2 M2 : Hp} (b : At K ⟨F, A, H⟩ g2 T2 lA σ2 H' F2 M2) :
    At K e g T (lA ++ lB) σ H' F2 (join M2 B) := by
  have eB : Ex B H' := fun x o h => b.fr x o (a.exM x o (by rw [join_r (d.sym x o h)]; exact h)) (d.sym x o h)
  have dB : Dj M2 B := fun x o h => by
    cases q : B x with
    | none => rfl
    | some u =>
      rcases b.nM x o h with z | ⟨w, z⟩
      · have := a.exM x u (by rw [join_r (d.sym x u q)]; exact q)
        rw [show H x = none from z] at this; cases this
      · rw [d x w z] at q; cases q
  refine ⟨b.exF, b.exM.join eB, ?_, a.eF.tr b.eF, ?_, ?_, ?_, a.sl.mono b.eF, T.mono b.eF a.tm, Rs.app b.rs (rB.mono b.eF) dB⟩
  · intro x o h
    cases q : join M2 B x with
    | none => rfl
    | some u =>
      rcases join_some q with z | ⟨_, z⟩
      · rw [b.dj x o h] at z; cases z
      · rcases b.nF x o h with w | w | ⟨w, y⟩
        · have := a.dj x o w
          rw [join_r (d.sym x u z), z] at this; cases this
        · have := a.exM x u (by rw [join_r (d.sym x u z)]; exact z)
          rw [show H x = none from w] at this; cases this
        · rw [d x w y] at z; cases z
  · intro x o h
    rcases b.nF x o h with w | w | ⟨w, y⟩
    · exact a.nF x o w
    · cases q : e.H x with
      | none => exact .inr (.inl rfl)
      | some u =>
        cases z : e.M x with
        | some y => exact .inr (.inr ⟨y, rfl⟩)
        | none =>
          have w' : H x = none := w
          rw [a.fr x u q z] at w'; cases w'
    · rcases a.nM x w (join_l y) with q | q
      · exact .inr (.inl q)
      · exact .inr (.inr q)
  · intro x o h
    rcases join_some h with z | ⟨_, z⟩
    · rcases b.nM x o z with w | ⟨w, y⟩
      · cases q : e.H x with
        | none => exact .inl rfl
        | some u =>
          cases k : e.M x with
          | some y => exact .inr ⟨y, rfl⟩
          | none =>
            have w' : H x = none := w
            rw [a.fr x u q k] at w'; cases w'
      · exact a.nM x w (join_l y)
    · exact a.nM x o (by rw [join_r (d.sym x o z)]; exact z)
  · intro x o h1 h2
    refine b.fr x o (a.fr x o h1 h2) ?_
    show A x = none
    cases q : A x with
    | none => rfl
    | some u =>
      rcases a.nM x u (join_l q) with z | ⟨w, z⟩
      · rw [h1] at z; cases z
      · rw [h2] at z; cases z
theorem S.weak (s : S K e g T l σ H) (w : Wk g g') : S K e g' T l σ H := let ⟨F, M, a⟩ := s; ⟨F, M, a.slots (a.sl.weak w)⟩
end
end Sx
set_option Elab.async false
set_option linter.all false
set_option maxRecDepth 100000
set_option maxHeartbeats 2000000
/-! Judgements: expressions, tests, arguments, blocks over states. -/
namespace Sx
open PySem L2

/-! ### the weakest readings -/
def wpE (X : Cx) (e : Expr) : TE := fun σ H Q => ∀ pins s, Inv X pins σ H s → wpAny (model X.prog X.w) X.A (eval e X.env) (EP X pins σ Q) X.xe s
def wpT (X : Cx) (e : Expr) : TT := fun σ H Q => ∀ pins s, Inv X pins σ H s → wpAny (model X.prog X.w) X.A (isTrue e X.env (eval e X.env)) (TP X pins σ Q) X.xe s
def wpW (X : Cx) (e : Expr) : TT := fun σ H Q => ∀ whole pins s, Inv X pins σ H s → wpAny (model X.prog X.w) X.A (isTrue e X.env whole) (TP X pins σ Q) X.xe s
def wpA (X : Cx) (es : List Expr) : TA := fun σ H Q => ∀ pos pins s, Inv X pins σ H s → wpAny (model X.prog X.w) X.A (spliced (backTo pos (starEach es X.env))) (AP X pins σ Q) X.xe s
def wpS (X : Cx) (sts : List Stmt) : TS := fun D σ H => ∀ pins s, Inv X pins σ H s → wpAny (model X.prog X.w) X.A (execs sts X.env) (SP X pins D) X.xe s
section
variable {X : Cx} {σ : L2.St} {H : Hp}
theorem pe_wp {e : Expr} : PE X e (wpE X e) := ⟨fun pins s _ _ _ I h => h pins s I⟩
theorem pt_wp {e : Expr} : PT X e (wpT X e) := ⟨fun pins s _ _ _ I h => h pins s I⟩
theorem pw_wp {e : Expr} : PW X e (wpW X e) := ⟨fun whole pins s _ _ _ I h => h whole pins s I⟩
theorem pa_wp {es : List Expr} : PA X es (wpA X es) := ⟨fun pos pins s _ _ _ I h => h pos pins s I⟩
theorem pss_wp {sts : List Stmt} : PSs X sts (wpS X sts) := ⟨fun pins s _ _ _ I h => h pins s I⟩
theorem wpE_of {e : Expr} {t : TE} {Q : VK} (h : PE X e t) (q : t σ H Q) : wpE X e σ H Q := fun pins s I => h.run pins s σ H Q I q
theorem wpT_of {e : Expr} {t : TT} {Q : Bool → Hp → Prop} (h : PT X e t) (q : t σ H Q) : wpT X e σ H Q := fun pins s I => h.run pins s σ H Q I q
theorem wpW_of {e : Expr} {t : TT} {Q : Bool → Hp → Prop} (h : PW X e t) (q : t σ H Q) : wpW X e σ H Q := fun whole pins s I => h.run whole pins s σ H Q I q
theorem wpA_of {es : List Expr} {t : TA} {Q : List V → Hp → Prop} (h : PA X es t) (q : t σ H Q) : wpA X es σ H Q := fun pos pins s I => h.run pos pins s σ H Q I q
theorem wpS_of {sts : List Stmt} {t : TS} {D : Ends} (h : PSs X sts t) (q : t D σ H) : wpS X sts D σ H := fun pins s I => h.run pins s σ H D I q
end

/-! ### judgements -/
/-- e evaluates to the datum d, changing nothing that is owned -/
def Px (X : Cx) (e : Expr) (g : Gm) (l : List Res) (d : D) : Prop := ∀ en T σ H (Q : VK), S X.K en g T l σ H → (∀ v H', S X.K en g (T.and X.K v d) l σ H' → Q v H') → wpE X e σ H Q
/-- e evaluates to one of the data that Psi tells, with what is owned then -/
def Ev (X : Cx) (e : Expr) (g : Gm) (l : List Res) (Psi : D → List Res → Prop) : Prop := ∀ en T σ H (Q : VK), S X.K en g T l σ H → (∀ v d l' H', Psi d l' → S X.K en g (T.and X.K v d) l' σ H' → Q v H') → wpE X e σ H Q
def Pa (X : Cx) (es : List Expr) (g : Gm) (l : List Res) (ds : List D) : Prop := ∀ en T σ H (Q : List V → Hp → Prop), S X.K en g T l σ H → (∀ vs H', S X.K en g (T.ands X.K vs ds) l σ H' → Q vs H') → wpA X es σ H Q
def Ts (X : Cx) (e : Expr) (g : Gm) (l : List Res) (b : Bool) : Prop := ∀ en T σ H (Q : Bool → Hp → Prop), S X.K en g T l σ H → (∀ H', S X.K en g T l σ H' → Q b H') → wpT X e σ H Q
def Tw (X : Cx) (e : Expr) (g : Gm) (l : List Res) (b : Bool) : Prop := ∀ en T σ H (Q : Bool → Hp → Prop), S X.K en g T l σ H → (∀ H', S X.K en g T l σ H' → Q b H') → wpW X e σ H Q
/-- operations on values -/
def Op1 (K : PySem.W.Frag) (l : List Res) (r : V → Hp → VK → Prop) (a d : D) : Prop := ∀ F M H v (Q : VK), Ex F H → Ex M H → Dj F M → Rs l F M → Fd K F v a → (∀ v F' H', New F H F' H' → Fd K F' v d → Q v H') → r v H Q
def Op2 (K : PySem.W.Frag) (l : List Res) (r : R2) (a b d : D) : Prop := ∀ F M H v u (Q : VK), Ex F H → Ex M H → Dj F M → Rs l F M → Fd K F v a → Fd K F u b → (∀ v F' H', New F H F' H' → Fd K F' v d → Q v H') → r v u H Q
def OpN (K : PySem.W.Frag) (l : List Res) (r : List V → Hp → VK → Prop) (as : List D) (d : D) : Prop := ∀ F M H vs (Q : VK), Ex F H → Ex M H → Dj F M → Rs l F M → FdAll K F vs as → (∀ v F' H', New F H F' H' → Fd K F' v d → Q v H') → r vs H Q
def OpM (K : PySem.W.Frag) (l : List Res) (r : V → List V → Hp → VK → Prop) (a : D) (as : List D) (d : D) : Prop := ∀ F M H v vs (Q : VK), Ex F H → Ex M H → Dj F M → Rs l F M → Fd K F v a → FdAll K F vs as → (∀ v F' H', New F H F' H' → Fd K F' v d → Q v H') → r v vs H Q

/-- what is wanted behind a block -/
structure Po where
  nx : Gm → List Res → Prop
  rt : D → List Res → Prop
  bk : Gm → List Res → Prop := fun _ _ => False
  ct : Gm → List Res → Prop := fun _ _ => False
  ex : Value → Option Addr → Gm → List Res → Prop := fun _ _ _ _ => False
structure Mt (K : PySem.W.Frag) (W : L2.WX) (en : En) (T : Tm) (Φ : Po) (D : Ends) : Prop where
  nx : ∀ g l σ H, Φ.nx g l → S K en g T l σ H → D.nx σ H
  rt : ∀ d l v H, Φ.rt d l → S K en [] (T.and K v d) l [] H → D.rt v H
  bk : ∀ g l σ H, Φ.bk g l → S K en g T l σ H → D.bk σ H
  ct : ∀ g l σ H, Φ.ct g l → S K en g T l σ H → D.ct σ H
  ex : ∀ cls d g l σ H, Φ.ex cls d g l → S K en g T l σ H → W cls d σ H
def Blk (X : Cx) (W : WX) (sts : List Stmt) (g : Gm) (l : List Res) (Φ : Po) : Prop := ∀ en T σ H D, S X.K en g T l σ H → Mt X.K W en T Φ D → wpS X sts D σ H

section
variable {X : Cx} {W : WX} {g g' : Gm} {l l' : List Res} {Φ : Po} {e e2 a b c o : Expr} {es : List Expr} {d d1 d2 d3 : D} {pos p : Pos}

theorem Tm.and_of {K : PySem.W.Frag} {T : Tm} {v : V} {d : D} {F : Hp} (h : (T.and K v d).P F) : Fd K F v d ∧ T.P F := h
theorem S.drop {K : PySem.W.Frag} {en : En} {T : Tm} {σ : L2.St} {H : Hp} {v : V} {d : D} (s : S K en g (T.and K v d) l σ H) : S K en g T l σ H := let ⟨F, M, a⟩ := s; ⟨F, M, a.tmp a.tm.2⟩
theorem S.slotless {K : PySem.W.Frag} {en : En} {T : Tm} {σ : L2.St} {H : Hp} (s : S K en g T l σ H) : S K en [] T l [] H := let ⟨F, M, a⟩ := s; ⟨F, M, a.slots .nil⟩

/-! ### expressions -/
theorem px_var {i : Nat} (h : PE X e (tVar i)) (hd : nth g i = some d) : Px X e g l d := fun en T σ H Q s k => wpE_of h (by
  obtain ⟨F, M, a⟩ := s
  obtain ⟨v, h1, h2⟩ := a.sl.nth hd
  exact ⟨v, h1, k v H ⟨F, M, a.tmp ⟨h2, a.tm⟩⟩⟩)
theorem px_c {v : V} (h : PE X e (tC v)) (hd : ∀ F, Fd X.K F v d) : Px X e g l d := fun en T σ H Q s k => wpE_of h (by
  obtain ⟨F, M, a⟩ := s
  exact k v H ⟨F, M, a.tmp ⟨hd F, a.tm⟩⟩)
theorem px_int {i : Int} {j} : Px X (.Constant (.int i) j pos) g l (.int i) := px_c pe_int fun _ => .int _
theorem px_bl {b : Bool} {j} : Px X (.Constant (.bool b) j pos) g l (.bl b) := px_c pe_bl fun _ => .bl _
theorem px_non {j} : Px X (.Constant .none j pos) g l .non := px_c pe_non fun _ => .non
theorem px_str {x : Str} {j} : Px X (.Constant (.str x) j pos) g l (.str x) := px_c pe_str fun _ => .str _
theorem Px.to (h : Px X e g l d) (q : d = d1) : Px X e g l d1 := q ▸ h
theorem Px.ev (h : Px X e g l d) : Ev X e g l (fun d' l' => d' = d ∧ l' = l) := fun en T σ H Q s k => h en T σ H Q s fun v H' s' => k v d l H' ⟨rfl, rfl⟩ s'
theorem Ev.imp {Psi Chi : D → List Res → Prop} (h : Ev X e g l Psi) (i : ∀ d l', Psi d l' → Chi d l') : Ev X e g l Chi := fun en T σ H Q s k => h en T σ H Q s fun v d l' H' p s' => k v d l' H' (i _ _ p) s'
theorem Ev.px (h : Ev X e g l (fun d' l' => d' = d ∧ l' = l)) : Px X e g l d := fun en T σ H Q s k => h en T σ H Q s fun v d' l' H' p s' => k v H' (by obtain ⟨rfl, rfl⟩ := p; exact s')
theorem px_1 {r : V → Hp → VK → Prop} (he : PE X e2 (tUn r (wpE X a))) (hr : Op1 X.K l r d1 d) (ha : Px X a g l d1) : Px X e2 g l d := fun en T σ H Q s k => wpE_of he (by
  refine ha en T σ H _ s fun v H1 s1 => ?_
  obtain ⟨F, M, q⟩ := s1
  exact hr F M H1 v Q q.exF q.exM q.dj q.rs q.tm.1 fun u F' H' n f => k u H' ⟨F', M, (q.new n).tmp ⟨f, T.mono n.f q.tm.2⟩⟩)
theorem px_2 {r : R2} (he : PE X e2 (tOp r (wpE X a) (wpE X b))) (hr : Op2 X.K l r d1 d2 d) (ha : Px X a g l d1) (hb : Px X b g l d2) : Px X e2 g l d := fun en T σ H Q s k => wpE_of he (by
  refine ha en T σ H _ s fun v H1 s1 => ?_
  refine hb en _ σ H1 _ s1 fun u H2 s2 => ?_
  obtain ⟨F, M, q⟩ := s2
  exact hr F M H2 v u Q q.exF q.exM q.dj q.rs q.tm.2.1 q.tm.1 fun w F' H' n f => k w H' ⟨F', M, (q.new n).tmp ⟨f, T.mono n.f q.tm.2.2⟩⟩)
theorem px_op {op : Operator} {r : R2} (ho : OpR X (binaryOp op) r) (ha : Px X a g l d1) (hb : Px X b g l d2) (hr : Op2 X.K l r d1 d2 d) : Px X (.BinOp a op b pos) g l d := px_2 (pe_op ho pe_wp pe_wp) hr ha hb
theorem px_un {op : UnaryOp} {r : V → Hp → VK → Prop} (ho : UnR X (unaryOp op) r) (ha : Px X a g l d1) (hr : Op1 X.K l r d1 d) : Px X (.UnaryOp op a pos) g l d := px_1 (pe_un ho pe_wp) hr ha
theorem px_cmp {op : CmpOp} {r : R2} (ho : OpR X (compareOp op) r) (ha : Px X a g l d1) (hb : Px X b g l d2) (hr : Op2 X.K l r d1 d2 d) (hm : behindInMarks op b = false := by first | exact nomark _ | rfl) : Px X (.Compare a [op] [b] pos) g l d := px_2 (pe_cmpR ho pe_wp pe_wp hm) hr ha hb
theorem px_ix {r : R2} (hi : IxR X r) (ha : Px X a g l d1) (hb : Px X b g l d2) (hr : Op2 X.K l r d1 d2 d) (hs : PlainIx b := by intro _ _; rfl) : Px X (.Subscript a b pos) g l d := px_2 (pe_ix hi pe_wp pe_wp hs) hr ha hb
theorem px_chain {op op' : CmpOp} {r r' : R2} {k k' : Bool} (ho : OpR X (compareOp op) r) (ho' : OpR X (compareOp op') r') (ha : Px X a g l d1) (hb : Px X b g l d2) (hr : Op2 X.K l r d1 d2 (.bl k)) (hc : Px X c g l d3) (hr' : k = true → Op2 X.K l r' d2 d3 (.bl k'))
    (hm : lastMarks [op, op'] [b, c] = false := by with_unfolding_all rfl) : Px X (.Compare a [op, op'] [b, c] pos) g l (.bl (k && k')) := fun en T σ H Q s kk => wpE_of (pe_chain ho ho' pe_wp pe_wp pe_wp hm) (by
  refine ha en T σ H _ s fun v H1 s1 => ?_
  refine hb en _ σ H1 _ s1 fun u H2 s2 => ?_
  obtain ⟨F, M, q⟩ := s2
  refine hr F M H2 v u _ q.exF q.exM q.dj q.rs q.tm.2.1 q.tm.1 fun w F' H' n f => ?_
  cases f
  refine ⟨k, rfl, ?_⟩
  have q' := q.new n
  cases k with
  | false => exact kk _ H' ⟨F', M, q'.tmp ⟨.bl _, T.mono n.f q.tm.2.2⟩⟩
  | true =>
    show wpE X c σ H' _
    refine hc en _ σ H' _ ⟨F', M, q'⟩ fun w H3 s3 => ?_
    obtain ⟨F3, M3, q3⟩ := s3
    exact hr' rfl F3 M3 H3 u w Q q3.exF q3.exM q3.dj q3.rs q3.tm.2.1 q3.tm.1 fun w F' H' n f => kk w H' ⟨F', M3, (q3.new n).tmp ⟨f, T.mono n.f q3.tm.2.2.2⟩⟩)
/-- a new list, frozen; a new tuple -/
theorem px_lst {ds : List D} (h : Pa X es g l ds) (hz : ds.length ≤ sizeLine := by first | decide | exact Nat.le_of_ble_eq_true rfl) : Px X (.List es pos) g l (.lst ds) := fun en T σ H Q s k => wpE_of (pe_lst pa_wp) (by
  refine h en T σ H _ s fun vs H1 s1 => ?_
  obtain ⟨F, M, q⟩ := s1
  refine ⟨by rw [q.tm.1.length]; exact hz, fun p hp => ?_⟩
  have n := New.upd (o := .lst vs) q.exF hp
  exact k _ _ ⟨_, M, (q.new n).tmp ⟨.lst upd_same (FdAll.mono n.f _ q.tm.1), T.mono n.f q.tm.2⟩⟩)
theorem px_tup {ds : List D} {x1} (h : Pa X es g l ds) (hz : ds.length ≤ sizeLine := by first | decide | exact Nat.le_of_ble_eq_true rfl) : Px X (.Tuple es x1 pos) g l (.tup ds) := fun en T σ H Q s k => wpE_of (pe_tup pa_wp) (by
  refine h en T σ H _ s fun vs H1 s1 => ?_
  obtain ⟨F, M, q⟩ := s1
  refine ⟨by rw [q.tm.1.length]; exact hz, fun p hp => ?_⟩
  have n := New.upd (o := .tup vs) q.exF hp
  exact k _ _ ⟨_, M, (q.new n).tmp ⟨.tup (SqT.of upd_same) (FdAll.mono n.f _ q.tm.1), T.mono n.f q.tm.2⟩⟩)
theorem pa_n : Pa X [] g l [] := fun en T σ H Q s k => wpA_of pa_nil (by
  obtain ⟨F, M, a⟩ := s
  exact k [] H ⟨F, M, a.tmp ⟨.nil, a.tm⟩⟩)
theorem pa_c {ds : List D} (he : Px X e g l d) (h : Pa X es g l ds) (hs : starEach (e :: es) X.env = (false, eval e X.env) :: starEach es X.env := by rfl) : Pa X (e :: es) g l (d :: ds) := fun en T σ H Q s k => wpA_of (pa_cons pe_wp pa_wp hs) (by
  refine he en T σ H _ s fun v H1 s1 => ?_
  refine h en _ σ H1 _ s1 fun vs H2 s2 => ?_
  obtain ⟨F, M, a⟩ := s2
  exact k _ H2 ⟨F, M, a.tmp ⟨.cons a.tm.2.1 a.tm.1, a.tm.2.2⟩⟩)
/-- e if c else e' -/
theorem px_if {k : Bool} (hc : Ts X c g l k) (ha : k = true → Px X a g l d1) (hb : k = false → Px X b g l d2) : Px X (.IfExp c a b pos) g l (if k = true then d1 else d2) := fun en T σ H Q s kk => wpE_of (pe_ifExp pt_wp pe_wp pe_wp) (by
  refine hc en T σ H _ s fun H1 s1 => ?_
  cases k with
  | true => exact ha rfl en T σ H1 Q s1 kk
  | false => exact hb rfl en T σ H1 Q s1 kk)
theorem px_and {rest : List Expr} {k k' : Bool} (ha : Px X a g l (.bl k)) (hb : k = true → Px X (.BoolOp .And (b :: rest) pos) g l (.bl k')) : Px X (.BoolOp .And (a :: b :: rest) pos) g l (.bl (k && k')) := fun en T σ H Q s kk => wpE_of (pe_and pe_wp pe_wp) (by
  refine ha en T σ H _ s fun v H1 s1 => ?_
  obtain ⟨F, M, q⟩ := s1
  have f := q.tm.1
  cases f
  refine ⟨k, rfl, ?_⟩
  cases k with
  | true => exact hb rfl en T σ H1 Q ⟨F, M, q.tmp q.tm.2⟩ kk
  | false => exact kk _ H1 ⟨F, M, q⟩)
theorem px_or {rest : List Expr} {k k' : Bool} (ha : Px X a g l (.bl k)) (hb : k = false → Px X (.BoolOp .Or (b :: rest) pos) g l (.bl k')) : Px X (.BoolOp .Or (a :: b :: rest) pos) g l (.bl (k || k')) := fun en T σ H Q s kk => wpE_of (pe_or pe_wp pe_wp) (by
  refine ha en T σ H _ s fun v H1 s1 => ?_
  obtain ⟨F, M, q⟩ := s1
  have f := q.tm.1
  cases f
  refine ⟨k, rfl, ?_⟩
  cases k with
  | false => exact hb rfl en T σ H1 Q ⟨F, M, q.tmp q.tm.2⟩ kk
  | true => exact kk _ H1 ⟨F, M, q⟩)
theorem px_one {op} (h : Px X a g l d) : Px X (.BoolOp op [a] pos) g l d := fun en T σ H Q s k => wpE_of (pe_one pe_wp) (h en T σ H Q s k)
theorem px_not {k : Bool} (h : Px X a g l (.bl k)) : Px X (.UnaryOp .Not a pos) g l (.bl (!k)) := fun en T σ H Q s kk => wpE_of (pe_not pe_wp) (by
  refine h en T σ H _ s fun v H1 s1 => ?_
  obtain ⟨F, M, q⟩ := s1
  have f := q.tm.1
  cases f
  exact ⟨k, rfl, kk _ H1 ⟨F, M, q.tmp ⟨.bl _, q.tm.2⟩⟩⟩)
/-- an attribute of a frozen instance -/
theorem px_fld {C : Addr} {fs : List (Str × D)} {f : Str} (ho : Px X o g l (.ins C fs)) (hc : Cls X.K C) (hn : NoAttr X.K C f) (hl : fs.lookup f = some d) (hb : attributeBase o f X.env (eval o X.env) = eval o X.env := by rfl) : Px X (.Attribute o f pos) g l d := fun en T σ H Q s k => wpE_of (pe_fld pe_wp hb) (by
  refine ho en T σ H _ s fun v H1 s1 => ?_
  obtain ⟨F, M, q⟩ := s1
  obtain ⟨hf, ht⟩ := q.tm
  cases hf with
  | ins h1 h2 =>
    obtain ⟨v, e1, e2⟩ := h2.look hl
    exact ⟨_, C, _, _, v, rfl, q.exF _ _ h1, hc, hn, e1, k v H1 ⟨F, M, q.tmp ⟨e2, ht⟩⟩⟩)
/-! ### calls of what is built in -/
theorem px_b {r : List V → Hp → VK → Prop} {ds : List D} (he : PE X e2 (tCB r (wpA X es))) (hr : OpN X.K l r ds d) (ha : Pa X es g l ds) : Px X e2 g l d := fun en T σ H Q s k => wpE_of he (by
  refine ha en T σ H _ s fun vs H1 s1 => ?_
  obtain ⟨F, M, q⟩ := s1
  exact hr F M H1 vs Q q.exF q.exM q.dj q.rs q.tm.1 fun u F' H' n f => k u H' ⟨F', M, (q.new n).tmp ⟨f, T.mono n.f q.tm.2⟩⟩)
theorem px_m {r : V → List V → Hp → VK → Prop} {Tn : String} {ds : List D} (he : PE X e2 (tBM X.K Tn r (wpE X o) (wpA X es))) (ho : Px X o g l d1) (ha : Pa X es g l ds) (hr : OpM X.K l r d1 ds d)
    (ht : ∀ F M H v, Ex F H → Ex M H → Dj F M → Rs l F M → Fd X.K F v d1 → tyV X.K Tn v H) : Px X e2 g l d := fun en T σ H Q s k => wpE_of he (by
  refine ho en T σ H _ s fun v H1 s1 => ?_
  have s1' := s1
  obtain ⟨F, M, q⟩ := s1
  refine ⟨ht F M H1 v q.exF q.exM q.dj q.rs q.tm.1, ?_⟩
  refine ha en _ σ H1 _ s1' fun vs H2 s2 => ?_
  obtain ⟨F, M, q⟩ := s2
  exact hr F M H2 v vs Q q.exF q.exM q.dj q.rs q.tm.2.1 q.tm.1 fun u F' H' n f => k u H' ⟨F', M, (q.new n).tmp ⟨f, T.mono n.f q.tm.2.2⟩⟩)
/-! ### tests -/
theorem ts_val {k : Bool} (h : Px X e g l (.bl k)) (he : ∀ whole, isTrue e X.env whole = (do let v ← whole; standAt e.pos; holding [v] (truthy v)) := by intro _; rfl) : Ts X e g l k := fun en T σ H Q s kk => wpT_of (pt_val pe_wp he) (by
  refine h en T σ H _ s fun v H1 s1 => ?_
  obtain ⟨F, M, q⟩ := s1
  have f := q.tm.1
  cases f
  exact ⟨k, rfl, kk H1 ⟨F, M, q.tmp q.tm.2⟩⟩)
theorem ts_cmp {op : CmpOp} {r : R2} {k : Bool} (ho : OpR X (compareOp op) r) (ha : Px X a g l d1) (hb : Px X b g l d2) (hr : Op2 X.K l r d1 d2 (.bl k)) (hm : behindInMarks op b = false := by first | exact nomark _ | rfl) : Ts X (.Compare a [op] [b] pos) g l k := fun en T σ H Q s kk => wpT_of (pt_cmpR ho pe_wp pe_wp hm) (by
  refine ha en T σ H _ s fun v H1 s1 => ?_
  refine hb en _ σ H1 _ s1 fun u H2 s2 => ?_
  obtain ⟨F, M, q⟩ := s2
  refine hr F M H2 v u _ q.exF q.exM q.dj q.rs q.tm.2.1 q.tm.1 fun w F' H' n f => ?_
  cases f
  exact ⟨k, rfl, kk H' ⟨F', M, (q.new n).tmp (T.mono n.f q.tm.2.2)⟩⟩)
theorem ts_chain {op op' : CmpOp} {r r' : R2} {k k' : Bool} (ho : OpR X (compareOp op) r) (ho' : OpR X (compareOp op') r') (ha : Px X a g l d1) (hb : Px X b g l d2) (hr : Op2 X.K l r d1 d2 (.bl k)) (hc : Px X c g l d3) (hr' : k = true → Op2 X.K l r' d2 d3 (.bl k'))
    (hm : lastMarks [op, op'] [b, c] = false := by with_unfolding_all rfl) : Ts X (.Compare a [op, op'] [b, c] pos) g l (k && k') := fun en T σ H Q s kk => wpT_of (pt_chain ho ho' pe_wp pe_wp pe_wp hm) (by
  refine ha en T σ H _ s fun v H1 s1 => ?_
  refine hb en _ σ H1 _ s1 fun u H2 s2 => ?_
  obtain ⟨F, M, q⟩ := s2
  refine hr F M H2 v u _ q.exF q.exM q.dj q.rs q.tm.2.1 q.tm.1 fun w F' H' n f => ?_
  cases f
  refine ⟨k, rfl, ?_⟩
  have q' := q.new n
  cases k with
  | false => exact ⟨false, rfl, kk H' ⟨F', M, q'.tmp (T.mono n.f q.tm.2.2)⟩⟩
  | true =>
    show wpE X c σ H' _
    refine hc en _ σ H' _ ⟨F', M, q'⟩ fun w H3 s3 => ?_
    obtain ⟨F3, M3, q3⟩ := s3
    refine hr' rfl F3 M3 H3 u w _ q3.exF q3.exM q3.dj q3.rs q3.tm.2.1 q3.tm.1 fun w F' H' n f => ?_
    cases f
    exact ⟨k', rfl, kk H' ⟨F', M3, (q3.new n).tmp (T.mono n.f q3.tm.2.2.2)⟩⟩)
theorem ts_not {k : Bool} (h : Ts X a g l k) : Ts X (.UnaryOp .Not a pos) g l (!k) := fun en T σ H Q s kk => wpT_of (pt_not pt_wp) (h en T σ H _ s kk)
theorem tw_and1 {k : Bool} (h : Ts X a g l k) : Tw X (.BoolOp .And [a] pos) g l k := fun en T σ H Q s kk => wpW_of (pw_and1 pt_wp) (h en T σ H _ s kk)
theorem tw_or1 {k : Bool} (h : Ts X a g l k) : Tw X (.BoolOp .Or [a] pos) g l k := fun en T σ H Q s kk => wpW_of (pw_or1 pt_wp) (h en T σ H _ s kk)
theorem tw_and {rest : List Expr} {k k' : Bool} (ha : Ts X a g l k) (hb : k = true → Tw X (.BoolOp .And (b :: rest) pos) g l k') : Tw X (.BoolOp .And (a :: b :: rest) pos) g l (k && k') := fun en T σ H Q s kk => wpW_of (pw_and pt_wp pw_wp) (by
  refine ha en T σ H _ s fun H1 s1 => ?_
  cases k with
  | true => exact hb rfl en T σ H1 _ s1 kk
  | false => exact kk H1 s1)
theorem tw_or {rest : List Expr} {k k' : Bool} (ha : Ts X a g l k) (hb : k = false → Tw X (.BoolOp .Or (b :: rest) pos) g l k') : Tw X (.BoolOp .Or (a :: b :: rest) pos) g l (k || k') := fun en T σ H Q s kk => wpW_of (pw_or pt_wp pw_wp) (by
  refine ha en T σ H _ s fun H1 s1 => ?_
  cases k with
  | false => exact hb rfl en T σ H1 _ s1 kk
  | true => exact kk H1 s1)
theorem ts_w {k : Bool} (h : Tw X e g l k) : Ts X e g l k := fun en T σ H Q s kk => wpT_of (pw_wp).pt (h en T σ H _ s kk)
theorem Ts.to {k k' : Bool} (h : Ts X e g l k) (q : k = k') : Ts X e g l k' := q ▸ h

/-! ### blocks -/
theorem Blk.imp {Ψ : Po} {sts : List Stmt} (h : Blk X W sts g l Φ) (n : ∀ g l, Φ.nx g l → Ψ.nx g l) (r : ∀ d l, Φ.rt d l → Ψ.rt d l) (b : ∀ g l, Φ.bk g l → Ψ.bk g l) (c : ∀ g l, Φ.ct g l → Ψ.ct g l) (x : ∀ c d g l, Φ.ex c d g l → Ψ.ex c d g l) : Blk X W sts g l Ψ := fun en T σ H D s m =>
  h en T σ H D s ⟨fun g l σ H p => m.nx g l σ H (n _ _ p), fun d l v H p => m.rt d l v H (r _ _ p), fun g l σ H p => m.bk g l σ H (b _ _ p), fun g l σ H p => m.ct g l σ H (c _ _ p), fun c d g l σ H p => m.ex c d g l σ H (x _ _ _ _ p)⟩
theorem Blk.weak {sts : List Stmt} (w : Wk g g') (h : Blk X W sts g' l Φ) : Blk X W sts g l Φ := fun en T σ H D s m => h en T σ H D (s.weak w) m
theorem blk_nil (h : Φ.nx g l) : Blk X W [] g l Φ := fun en T σ H D s m => wpS_of pss_nil (m.nx g l σ H h s)
variable {rest : List Stmt}
theorem blk_ret (he : Px X e g l d) (h : Φ.rt d l) : Blk X W (.Return (some e) pos :: rest) g l Φ := fun en T σ H D s m => wpS_of (pss_cons (ps_ret pe_wp) pss_wp) (he en T σ H _ s fun v H' s' => m.rt d l v H' h s'.slotless)
theorem blk_retX {Psi : D → List Res → Prop} (he : Ev X e g l Psi) (h : ∀ d l', Psi d l' → Φ.rt d l') : Blk X W (.Return (some e) pos :: rest) g l Φ := fun en T σ H D s m => wpS_of (pss_cons (ps_ret pe_wp) pss_wp) (he en T σ H _ s fun v d l' H' p s' => m.rt d l' v H' (h d l' p) s'.slotless)
theorem blk_retN (h : Φ.rt .non l) : Blk X W (.Return none pos :: rest) g l Φ := fun en T σ H D s m => wpS_of (pss_cons ps_retN pss_wp) (by
  obtain ⟨F, M, a⟩ := s
  exact m.rt .non l _ H h ⟨F, M, (a.tmp (T' := T.and X.K .non .non) ⟨.non, a.tm⟩).slots .nil⟩)
theorem blk_brk (h : Φ.bk g l) : Blk X W (.Break pos :: rest) g l Φ := fun en T σ H D s m => wpS_of (pss_cons ps_break pss_wp) (m.bk g l σ H h s)
theorem blk_cont (h : Φ.ct g l) : Blk X W (.Continue pos :: rest) g l Φ := fun en T σ H D s m => wpS_of (pss_cons ps_continue pss_wp) (m.ct g l σ H h s)
theorem blk_pass (h : Blk X W rest g l Φ) : Blk X W (.Pass pos :: rest) g l Φ := fun en T σ H D s m => wpS_of (pss_cons ps_pass pss_wp) (h en T σ H D s m)
theorem Mt.seq {K : PySem.W.Frag} {en : En} {T : Tm} {D : Ends} (m : Mt K W en T Φ D) {nx : Gm → List Res → Prop} {n : St → Hp → Prop} (h : ∀ g l σ H, nx g l → S K en g T l σ H → n σ H) : Mt K W en T { Φ with nx := nx } { D with nx := n } := ⟨h, m.rt, m.bk, m.ct, m.ex⟩
theorem blk_if {k : Bool} {A B : List Stmt} (hc : Ts X c g l k) (h1 : k = true → Blk X W A g l { Φ with nx := fun g' l' => Blk X W rest g' l' Φ }) (h2 : k = false → Blk X W B g l { Φ with nx := fun g' l' => Blk X W rest g' l' Φ }) : Blk X W (.If c A B pos :: rest) g l Φ := fun en T σ H D s m =>
  wpS_of (pss_cons (ps_if pt_wp pss_wp pss_wp) pss_wp) (by
    refine hc en T σ H _ s fun H1 s1 => ?_
    have mm : Mt X.K W en T { Φ with nx := fun g' l' => Blk X W rest g' l' Φ } { D with nx := wpS X rest D } := m.seq fun g' l' σ' H' p s' => p en T σ' H' D s' m
    cases k with
    | true => exact h1 rfl en T σ H1 _ s1 mm
    | false => exact h2 rfl en T σ H1 _ s1 mm)
/-- .. the ways meet at Mid -/
theorem blk_ifJ {k : Bool} {A B : List Stmt} (Mid : Gm → List Res → Prop) (hc : Ts X c g l k) (h1 : k = true → Blk X W A g l { Φ with nx := Mid }) (h2 : k = false → Blk X W B g l { Φ with nx := Mid }) (hm : ∀ g' l', Mid g' l' → Blk X W rest g' l' Φ) : Blk X W (.If c A B pos :: rest) g l Φ :=
  blk_if hc (fun e => (h1 e).imp (fun g' l' p => hm g' l' p) (fun _ _ p => p) (fun _ _ p => p) (fun _ _ p => p) (fun _ _ _ _ p => p)) (fun e => (h2 e).imp (fun g' l' p => hm g' l' p) (fun _ _ p => p) (fun _ _ p => p) (fun _ _ p => p) (fun _ _ _ _ p => p))
theorem blk_expr {Psi : D → List Res → Prop} (he : Ev X e g l Psi) (h : ∀ d l', Psi d l' → Blk X W rest g l' Φ) (hs : swapsWith e none pos.line X.env = pure false := by rfl) : Blk X W (.Expr e pos :: rest) g l Φ := fun en T σ H D s m => wpS_of (pss_cons (ps_expr pe_wp hs) pss_wp) (he en T σ H _ s fun v d l' H' p s' => h d l' p en T σ H' D s'.drop m)
theorem blk_set {i : Nat} {x : Str} {pos' : Pos} (hN : X.N.Nodup) (hi : X.N[i]? = some x) (hx : Loc X.env.scope x) (he : Px X e g l d) (h : Blk X W rest (g.set i (some d)) l Φ) (hs : swapsWith e (some (.Name x pos')) pos.line X.env = pure false := by rfl) (hf : X.fn x = true ∨ X.env.scope.names.lookup x = some .local := by first | exact .inl rfl | exact .inr rfl | assumption) :
    Blk X W (.Assign [.Name x pos'] e pos :: rest) g l Φ := fun en T σ H D s m => wpS_of (pss_cons (ps_set hN hi hx pe_wp hs hf) pss_wp) (he en T σ H _ s fun v H' s' => by
      obtain ⟨F, M, a⟩ := s'
      exact h en T (σ.set i (some v)) H' D ⟨F, M, (a.tmp a.tm.2).slots (a.sl.set i a.tm.1)⟩ m)
theorem blk_setX {Psi : D → List Res → Prop} {i : Nat} {x : Str} {pos' : Pos} (hN : X.N.Nodup) (hi : X.N[i]? = some x) (hx : Loc X.env.scope x) (he : Ev X e g l Psi) (h : ∀ d l', Psi d l' → Blk X W rest (g.set i (some d)) l' Φ) (hs : swapsWith e (some (.Name x pos')) pos.line X.env = pure false := by rfl) (hf : X.fn x = true ∨ X.env.scope.names.lookup x = some .local := by first | exact .inl rfl | exact .inr rfl | assumption) :
    Blk X W (.Assign [.Name x pos'] e pos :: rest) g l Φ := fun en T σ H D s m => wpS_of (pss_cons (ps_set hN hi hx pe_wp hs hf) pss_wp) (he en T σ H _ s fun v d l' H' p s' => by
      obtain ⟨F, M, a⟩ := s'
      exact h d l' p en T (σ.set i (some v)) H' D ⟨F, M, (a.tmp a.tm.2).slots (a.sl.set i a.tm.1)⟩ m)
/-- what the proof never comes to -/
theorem blk_absurd {sts : List Stmt} (h : False) : Blk X W sts g l Φ := h.elim
end

/-! ### owned lists, instances -/
def ownL (K : PySem.W.Frag) (p : Addr) (ds : List D) : Res := ⟨fun F M => ∃ vs, FdAll K F vs ds ∧ M = one p (.lst vs), fun e ⟨vs, h, m⟩ => ⟨vs, FdAll.mono e _ h, m⟩⟩
def ownI (K : PySem.W.Frag) (p C : Addr) (fs : List (Str × D)) : Res := ⟨fun F M => ∃ vs dx, dx ≠ p ∧ FdFs K F vs fs ∧ M = join (one p (.ins C dx vs)) (one dx (.own p)), fun e ⟨vs, dx, n, h, m⟩ => ⟨vs, dx, n, FdFs.mono e _ h, m⟩⟩
section
variable {K : PySem.W.Frag} {F H M : Hp} {l : List Res}
theorem Rs.own {k : Nat} {p : Addr} {ds : List D} (h : Rs l F M) (e : l[k]? = some (ownL K p ds)) (m : Ex M H) : ∃ vs, FdAll K F vs ds ∧ H p = some (.lst vs) := by
  obtain ⟨A, B, rfl, dj, ⟨vs, f, rfl⟩, _⟩ := Rs.at e h
  exact ⟨vs, f, m p _ (join_l one_same)⟩
theorem Rs.ins {k : Nat} {p C : Addr} {fs : List (Str × D)} (h : Rs l F M) (e : l[k]? = some (ownI K p C fs)) (m : Ex M H) : ∃ dx vs, FdFs K F vs fs ∧ H p = some (.ins C dx vs) := by
  obtain ⟨A, B, rfl, dj, ⟨vs, dx, n, f, rfl⟩, _⟩ := Rs.at e h
  exact ⟨dx, vs, f, m p _ (join_l (join_l one_same))⟩
variable {en : En} {g : Gm} {T : Tm} {σ : L2.St}
/-- an owned list is written -/
theorem At.putL {k : Nat} {p : Addr} {ds ds' : List D} {vs' : List V} (a : At K en g T l σ H F M) (e : l[k]? = some (ownL K p ds)) (f : FdAll K F vs' ds') : ∃ M', At K en g T (l.set k (ownL K p ds')) σ (upd H p (.lst vs')) F M' := by
  obtain ⟨A, B, rfl, dj, ⟨vs, f0, rfl⟩, put⟩ := Rs.at e a.rs
  have hp : H p = some (.lst vs) := a.exM p _ (join_l one_same)
  have hF : F p = none := a.dj.sym p (.lst vs) (join_l one_same)
  have dB : ∀ u, Dj (one p u) B := fun u x o h => by
    obtain ⟨rfl, _⟩ := one_some h
    exact dj x _ one_same
  have hB : B p = none := dj p _ one_same
  have pM : en.H p = none ∨ ∃ u, en.M p = some u := a.nM p _ (join_l one_same)
  refine ⟨join (one p (.lst vs')) B, a.exF.mut hF, ?_, ?_, a.eF, a.nF, ?_, ?_, a.sl, a.tm, put _ _ F .rf ⟨vs', f, rfl⟩ (dB _)⟩
  · intro x o h
    rcases join_some h with q | ⟨n, q⟩
    · obtain ⟨rfl, rfl⟩ := one_some q
      exact upd_same
    · have ne : x ≠ p := fun z => by rw [z, hB] at q; cases q
      rw [upd_ne ne]
      exact a.exM x o (by rw [join_r (one_ne ne)]; exact q)
  · intro x o h
    have ne : x ≠ p := fun z => by rw [z, hF] at h; cases h
    have := a.dj x o h
    rw [join_r (one_ne ne)] at this ⊢
    exact this
  · intro x o h
    rcases join_some h with q | ⟨n, q⟩
    · obtain ⟨rfl, rfl⟩ := one_some q
      exact pM
    · have ne : x ≠ p := fun z => by rw [z, hB] at q; cases q
      exact a.nM x o (by rw [join_r (one_ne ne)]; exact q)
  · intro x o h1 h2
    have ne : x ≠ p := fun z => by
      subst z
      rcases pM with q | ⟨u, q⟩
      · rw [h1] at q; cases q
      · rw [h2] at q; cases q
    rw [upd_ne ne]
    exact a.fr x o h1 h2
/-- an owned instance's attribute is written -/
theorem At.putI {k : Nat} {p C dx : Addr} {fs fs' : List (Str × D)} {vs vs' : List (Str × V)} (a : At K en g T l σ H F M) (e : l[k]? = some (ownI K p C fs)) (hp : H p = some (.ins C dx vs)) (f : FdFs K F vs' fs') : ∃ M', At K en g T (l.set k (ownI K p C fs')) σ (upd H p (.ins C dx vs')) F M' := by
  obtain ⟨A, B, rfl, dj, ⟨vs0, dx0, nd, f0, rfl⟩, put⟩ := Rs.at e a.rs
  have hp0 : H p = some (.ins C dx0 vs0) := a.exM p _ (join_l (join_l one_same))
  rw [hp] at hp0
  obtain ⟨rfl, rfl⟩ : dx = dx0 ∧ vs = vs0 := by injection hp0 with z; injection z with z1 z2 z3; exact ⟨z2, z3⟩
  have hF : F p = none := a.dj.sym p _ (join_l (join_l one_same))
  have dB : ∀ u, Dj (join (one p u) (one dx (.own p))) B := fun u x o h => by
    rcases join_some h with q | ⟨_, q⟩
    · obtain ⟨rfl, _⟩ := one_some q
      exact dj x _ (join_l one_same)
    · obtain ⟨rfl, _⟩ := one_some q
      exact dj x _ (by rw [join_r (one_ne nd)]; exact one_same)
  have hB : B p = none := dj p _ (join_l one_same)
  have pM : en.H p = none ∨ ∃ u, en.M p = some u := a.nM p _ (join_l (join_l one_same))
  refine ⟨join (join (one p (.ins C dx vs')) (one dx (.own p))) B, a.exF.mut hF, ?_, ?_, a.eF, a.nF, ?_, ?_, a.sl, a.tm, put _ _ F .rf ⟨vs', dx, nd, f, rfl⟩ (dB _)⟩
  · intro x o h
    rcases join_some h with q | ⟨n, q⟩
    · rcases join_some q with q | ⟨n, q⟩
      · obtain ⟨rfl, rfl⟩ := one_some q
        exact upd_same
      · obtain ⟨rfl, rfl⟩ := one_some q
        rw [upd_ne nd]
        exact a.exM x _ (join_l (by rw [join_r (one_ne nd)]; exact one_same))
    · have ne : x ≠ p := fun z => by rw [z, hB] at q; cases q
      rw [upd_ne ne]
      have nx : x ≠ dx := fun z => by
        rw [z, join_r (one_ne nd), one_same] at n; cases n
      exact a.exM x o (by rw [join_r (by rw [join_r (one_ne ne)]; exact one_ne nx)]; exact q)
  · intro x o h
    have ne : x ≠ p := fun z => by rw [z, hF] at h; cases h
    have := a.dj x o h
    obtain ⟨q1, q2⟩ := join_none this
    obtain ⟨q3, q4⟩ := join_none q1
    rw [join_r (by rw [join_r (one_ne ne)]; exact q4)]
    exact q2
  · intro x o h
    rcases join_some h with q | ⟨n, q⟩
    · rcases join_some q with q | ⟨n, q⟩
      · obtain ⟨rfl, rfl⟩ := one_some q
        exact pM
      · obtain ⟨rfl, rfl⟩ := one_some q
        exact a.nM x (.own p) (join_l (by rw [join_r (one_ne nd)]; exact one_same))
    · have ne : x ≠ p := fun z => by rw [z, hB] at q; cases q
      have nx : x ≠ dx := fun z => by
        rw [z, join_r (one_ne nd), one_same] at n; cases n
      exact a.nM x o (by rw [join_r (by rw [join_r (one_ne ne)]; exact one_ne nx)]; exact q)
  · intro x o h1 h2
    have ne : x ≠ p := fun z => by
      subst z
      rcases pM with q | ⟨u, q⟩
      · rw [h1] at q; cases q
      · rw [h2] at q; cases q
    rw [upd_ne ne]
    exact a.fr x o h1 h2
/-- something new, owned -/
theorem At.newO {r : Res} {A H' : Hp} (a : At K en g T l σ H F M) (h : Ex H H') (hA : Ex A H') (n : ∀ x o, A x = some o → H x = none) (p : r.P F A) : At K en g T (r :: l) σ H' F (join A M) := by
  have dA : Dj A M := fun x o q => by
    cases z : M x with
    | none => rfl
    | some u => have := a.exM x u z; rw [n x o q] at this; cases this
  refine ⟨a.exF.tr h, hA.join (a.exM.tr h), fun x o q => ?_, a.eF, a.nF, fun x o q => ?_, fun x o h1 h2 => h x o (a.fr x o h1 h2), a.sl, a.tm, ⟨A, M, rfl, dA, p, a.rs⟩⟩
  · cases z : join A M x with
    | none => rfl
    | some u =>
      rcases join_some z with y | ⟨_, y⟩
      · have := a.exF x o q; rw [n x u y] at this; cases this
      · rw [a.dj x o q] at y; cases y
  · rcases join_some q with y | ⟨_, y⟩
    · cases w : en.H x with
      | none => exact .inl rfl
      | some u =>
        cases z : en.M x with
        | some y => exact .inr ⟨y, rfl⟩
        | none => have := a.fr x u w z; rw [n x o y] at this; cases this
    · exact a.nM x o y
/-- what is owned at the front is frozen -/
theorem At.frz {r : Res} {P : Hp → Prop} (a : At K en g T (r :: l) σ H F M) (f : ∀ A, r.P F A → P (join F A)) : ∃ F' M', At K en g T l σ H F' M' ∧ P F' ∧ Ex F F' := by
  obtain ⟨A, B, rfl, dj, p, rs⟩ := a.rs
  have dF : Dj F A := fun x o h => (join_none (a.dj x o h)).1
  have eF : Ex F (join F A) := fun x o h => join_l h
  refine ⟨join F A, B, ⟨a.exF.join a.exM.joinL, a.exM.joinR dj, ?_, a.eF.tr eF, ?_, fun x o h => a.nM x o (by rw [join_r (dj.sym x o h)]; exact h), a.fr, a.sl.mono eF, T.mono eF a.tm, rs.mono eF⟩, f A p, eF⟩
  · intro x o h
    rcases join_some h with q | ⟨_, q⟩
    · exact (join_none (a.dj x o q)).2
    · exact dj x o q
  · intro x o h
    rcases join_some h with q | ⟨_, q⟩
    · exact a.nF x o q
    · rcases a.nM x o (join_l q) with z | z
      · exact .inr (.inl z)
      · exact .inr (.inr z)
theorem Rs.perm {F : Hp} : ∀ {l k : List Res}, l.Perm k → ∀ {M : Hp}, Rs l F M → Rs k F M := by
  intro l k h
  induction h with
  | nil => exact fun h => h
  | cons x _ ih => exact fun ⟨A, B, h1, h2, h3, h4⟩ => ⟨A, B, h1, h2, h3, ih h4⟩
  | swap x y l =>
    rintro M ⟨A, B, h1, h2, h3, ⟨A', B', g1, g2, g3, g4⟩⟩
    subst g1; subst h1
    have dAA : Dj A A' := (Dj.l h2.sym).sym
    have dAB : Dj A B' := (Dj.r g2 h2.sym).sym
    exact ⟨A', join A B', by rw [← join_assoc, ← join_assoc, dAA.comm], (Dj.joinL dAA g2.sym).sym, g3, A, B', rfl, dAB, h3, g4⟩
  | trans _ _ h1 h2 => exact fun h => h2 (h1 h)
theorem S.perm {l' : List Res} (h : l.Perm l') (s : S K en g T l σ H) : S K en g T l' σ H := let ⟨F, M, a⟩ := s; ⟨F, M, a.exF, a.exM, a.dj, a.eF, a.nF, a.nM, a.fr, a.sl, a.tm, a.rs.perm h⟩
end

section
variable {X : Cx} {W : WX} {g g' : Gm} {l l' : List Res} {Φ : Po} {e a b c o : Expr} {es : List Expr} {d d1 d2 d3 : D} {pos p : Pos} {rest : List Stmt}
theorem Blk.perm {sts : List Stmt} (h : l.Perm l') (k : Blk X W sts g l' Φ) : Blk X W sts g l Φ := fun en T σ H D s m => k en T σ H D (s.perm h) m
/-- a new list, owned -/
theorem ev_lst {ds : List D} (h : Pa X es g l ds) (hz : ds.length ≤ sizeLine := by first | decide | exact Nat.le_of_ble_eq_true rfl) : Ev X (.List es pos) g l (fun d' l' => ∃ p, d' = .adr p ∧ l' = ownL X.K p ds :: l) := fun en T σ H Q s k => wpE_of (pe_lst pa_wp) (by
  refine h en T σ H _ s fun vs H1 s1 => ?_
  obtain ⟨F, M, q⟩ := s1
  refine ⟨by rw [q.tm.1.length]; exact hz, fun p hp => ?_⟩
  have q2 := q.tmp (T' := T) q.tm.2
  have q3 := q2.newO (r := ownL X.K p ds) (A := one p (.lst vs)) (H' := upd H1 p (.lst vs)) (.new hp) (fun x o z => by obtain ⟨rfl, rfl⟩ := one_some z; exact upd_same) (fun x o z => by obtain ⟨rfl, rfl⟩ := one_some z; exact hp) ⟨vs, q.tm.1, rfl⟩
  exact k _ (.adr p) _ _ ⟨p, rfl, rfl⟩ ⟨F, _, q3.tmp ⟨.adr p, q.tm.2⟩⟩)
/-- a list just made is frozen -/
theorem Ev.frz {ds : List D} (h : Ev X e g l (fun d' l' => ∃ p, d' = .adr p ∧ l' = ownL X.K p ds :: l)) : Px X e g l (.lst ds) := fun en T σ H Q s k => h en T σ H Q s fun v d l' H' p s' => by
  obtain ⟨p, rfl, rfl⟩ := p
  obtain ⟨F, M, q⟩ := s'
  have hv := q.tm.1
  cases hv
  obtain ⟨F', M', q', f, _⟩ := q.frz (P := fun F' => Fd X.K F' (.ref p) (.lst ds)) fun A hA => by
    obtain ⟨vs, f, rfl⟩ := hA
    have hF : F p = none := by
      obtain ⟨A, B, rfl, _, ⟨_, _, rfl⟩, _⟩ := q.rs
      exact q.dj.sym p _ (join_l one_same)
    exact .lst (by rw [join_r hF]; exact one_same) (FdAll.mono (fun x o h => join_l h) _ f)
  exact k _ H' ⟨F', M', q'.tmp ⟨f, q'.tm.2⟩⟩
/-- a slot's owned list (at the front) is frozen -/
theorem Blk.frz {sts : List Stmt} {p : Addr} {ds : List D} {i : Nat} (hi : nth g i = some (.adr p)) (k : Blk X W sts (g.set i (some (.lst ds))) l Φ) : Blk X W sts g (ownL X.K p ds :: l) Φ := fun en T σ H D s m => by
  obtain ⟨F, M, q⟩ := s
  obtain ⟨v, hv, fv⟩ := q.sl.nth hi
  cases fv
  obtain ⟨F', M', q', f, _⟩ := q.frz (P := fun F' => Fd X.K F' (.ref p) (.lst ds)) fun A hA => by
    obtain ⟨vs, f, rfl⟩ := hA
    have hF : F p = none := by
      obtain ⟨A, B, rfl, _, ⟨_, _, rfl⟩, _⟩ := q.rs
      exact q.dj.sym p _ (join_l one_same)
    exact .lst (by rw [join_r hF]; exact one_same) (FdAll.mono (fun x o h => join_l h) _ f)
  refine k en T σ H D ⟨F', M', q'.slots ?_⟩ m
  have w := q'.sl.set i f
  have e : σ.set i (some (.ref p)) = σ := by
    apply List.ext_getElem?
    intro j
    by_cases z : j = i
    · subst z
      obtain ⟨h1, h2⟩ := List.getElem?_eq_some_iff.mp hv
      rw [List.getElem?_set_self h1, hv]
    · rw [List.getElem?_set_ne (Ne.symm z)]
  rw [e] at w
  exact w
/-- x.append(e), x an owned list -/
theorem blk_app {k : Nat} {p : Addr} {ds : List D} {apos cpos : Pos} (ho : Px X o g l (.adr p)) (he : Px X e g l d) (hk : l[k]? = some (ownL X.K p ds)) (hz : ds.length < sizeLine) (h : Blk X W rest g (l.set k (ownL X.K p (ds ++ [d]))) Φ)
    (hp : PS X (.Expr (.Call (.Attribute o "append" apos) [e] [] cpos) pos) (tDrop (tBM X.K "list" rAppend (wpE X o) (tCons (wpE X e) tNil)))) : Blk X W (.Expr (.Call (.Attribute o "append" apos) [e] [] cpos) pos :: rest) g l Φ := fun en T σ H D s m => wpS_of (pss_cons hp pss_wp) (by
  refine ho en T σ H _ s fun v H1 s1 => ?_
  obtain ⟨F1, M1, q1⟩ := id s1
  have fv := q1.tm.1
  cases fv
  obtain ⟨vs1, _, hp1⟩ := q1.rs.own hk q1.exM
  refine ⟨.inl ⟨rfl, _, SqL.of hp1⟩, ?_⟩
  refine he en _ σ H1 _ s1 fun u H2 s2 => ?_
  obtain ⟨F, M, q⟩ := s2
  obtain ⟨vs, fvs, hp⟩ := q.rs.own hk q.exM
  refine ⟨p, vs, u, rfl, rfl, hp, by rw [fvs.length]; exact hz, ?_⟩
  obtain ⟨M', q'⟩ := (q.tmp (T' := T) q.tm.2.2).putL hk (fvs.app (.cons q.tm.1 .nil))
  exact h en T σ _ D ⟨F, M', q'⟩ m)
end
end Sx
set_option Elab.async false
set_option linter.all false
set_option maxRecDepth 100000
set_option maxHeartbeats 2000000
/-! Operations by value, calls, loops, comprehensions. -/
namespace Sx
open PySem L2

/-! ### operations -/
section
variable {K : PySem.W.Frag} {l : List Res} {d d1 d2 d3 : D} {i j : Int}
theorem o2_I0 {g : Int → Int → V} (h : ∀ F, Fd K F (g i j) d) : Op2 K l (rI0 g) (.int i) (.int j) d := fun F M H v u Q eF eM dj rs f1 f2 k => by
  cases f1; cases f2
  exact ⟨i, j, rfl, rfl, k _ F H (.rf eF) (h F)⟩
theorem o2_I {C : Int → Int → Prop} {g : Int → Int → V} (hc : C i j) (h : ∀ F, Fd K F (g i j) d) : Op2 K l (rI C g) (.int i) (.int j) d := fun F M H v u Q eF eM dj rs f1 f2 k => by
  cases f1; cases f2
  exact ⟨i, j, rfl, rfl, hc, k _ F H (.rf eF) (h F)⟩
theorem o_add : Op2 K l (rI0 fun i j => .int (i + j)) (.int i) (.int j) (.int (i + j)) := o2_I0 fun _ => .int _
theorem o_sub : Op2 K l (rI0 fun i j => .int (i - j)) (.int i) (.int j) (.int (i - j)) := o2_I0 fun _ => .int _
theorem o_mul (hc : CMul i j) : Op2 K l (rI CMul fun i j => .int (i * j)) (.int i) (.int j) (.int (i * j)) := o2_I hc fun _ => .int _
theorem o_mulR (h1 : -(2 ^ 64) < j := by decide) (h2 : j < 2 ^ 64 := by decide) : Op2 K l (rI CMul fun i j => .int (i * j)) (.int i) (.int j) (.int (i * j)) := o_mul (.inr ⟨h1, h2⟩)
theorem o_mulL (h1 : -(2 ^ 64) < i := by decide) (h2 : i < 2 ^ 64 := by decide) : Op2 K l (rI CMul fun i j => .int (i * j)) (.int i) (.int j) (.int (i * j)) := o_mul (.inl ⟨h1, h2⟩)
theorem o_mod (hc : 0 < j := by decide) : Op2 K l (rI (fun _ j => 0 < j) fun i j => .int (i % j)) (.int i) (.int j) (.int (i % j)) := o2_I hc fun _ => .int _
theorem o_fdiv (h1 : 0 < j := by decide) (h2 : j < 1073741824 := by decide) : Op2 K l (rI CDiv fun i j => .int (i / j)) (.int i) (.int j) (.int (i / j)) := o2_I ⟨h1, h2⟩ fun _ => .int _
theorem o_pow (hc : CPow i j := by exact ⟨by decide, by decide, by decide⟩) : Op2 K l (rI CPow fun i j => .int (i ^ j.toNat)) (.int i) (.int j) (.int (i ^ j.toNat)) := o2_I hc fun _ => .int _
theorem o_lt : Op2 K l (rI0 fun i j => .bl (decide (i < j))) (.int i) (.int j) (.bl (decide (i < j))) := o2_I0 fun _ => .bl _
theorem o_le : Op2 K l (rI0 fun i j => .bl (decide (i ≤ j))) (.int i) (.int j) (.bl (decide (i ≤ j))) := o2_I0 fun _ => .bl _
theorem o_gt : Op2 K l (rI0 fun i j => .bl (decide (j < i))) (.int i) (.int j) (.bl (decide (j < i))) := o2_I0 fun _ => .bl _
theorem o_ge : Op2 K l (rI0 fun i j => .bl (decide (j ≤ i))) (.int i) (.int j) (.bl (decide (j ≤ i))) := o2_I0 fun _ => .bl _
theorem o_neg : Op1 K l (rU fun i => .int (-i)) (.int i) (.int (-i)) := fun F M H v Q eF eM dj rs f1 k => by
  cases f1
  exact ⟨i, rfl, k _ F H (.rf eF) (.int _)⟩
/-- scalars -/
def D.v : D → Option V
  | .non => some .non | .bl b => some (.bl b) | .int i => some (.int i) | .str x => some (.str x) | .ty n => some (.ty n) | _ => none
theorem D.v_eq {F : Hp} {d : D} {v w : V} (f : Fd K F v d) (h : d.v = some w) : v = w := by
  cases f <;> first | (cases h; rfl) | cases h
theorem o_eq {v1 v2 : V} (h1 : d1.v = some v1) (h2 : d2.v = some v2) (hs : scal v1 v2 = true := by rfl) : Op2 K l rEq d1 d2 (.bl (decide (v1 = v2))) := fun F M H v u Q eF eM dj rs f1 f2 k => by
  have e1 := D.v_eq f1 h1
  have e2 := D.v_eq f2 h2
  subst e1; subst e2
  exact ⟨hs, k _ F H (.rf eF) (.bl _)⟩
theorem o_ne {v1 v2 : V} (h1 : d1.v = some v1) (h2 : d2.v = some v2) (hs : scal v1 v2 = true := by rfl) : Op2 K l rNe d1 d2 (.bl (!decide (v1 = v2))) := fun F M H v u Q eF eM dj rs f1 f2 k => by
  have e1 := D.v_eq f1 h1
  have e2 := D.v_eq f2 h2
  subst e1; subst e2
  exact ⟨hs, k _ F H (.rf eF) (.bl _)⟩
theorem int_dec (i j : Int) : decide (V.int i = V.int j) = decide (i = j) := by
  by_cases e : i = j
  · subst e; simp
  · have : ¬ V.int i = V.int j := fun q => e (V.int.inj q)
    rw [decide_eq_false e, decide_eq_false this]
theorem str_dec (i j : Str) : decide (V.str i = V.str j) = decide (i = j) := by
  by_cases e : i = j
  · subst e; simp
  · have : ¬ V.str i = V.str j := fun q => e (V.str.inj q)
    rw [decide_eq_false e, decide_eq_false this]
theorem o_eqI : Op2 K l rEq (.int i) (.int j) (.bl (decide (i = j))) := by
  rw [← int_dec]; exact o_eq rfl rfl
theorem o_neI : Op2 K l rNe (.int i) (.int j) (.bl (!decide (i = j))) := by
  rw [← int_dec]; exact o_ne rfl rfl
theorem o_eqS {x y : Str} : Op2 K l rEq (.str x) (.str y) (.bl (decide (x = y))) := by
  rw [← str_dec]; exact o_eq rfl rfl
theorem o_neS {x y : Str} : Op2 K l rNe (.str x) (.str y) (.bl (!decide (x = y))) := by
  rw [← str_dec]; exact o_ne rfl rfl
/-- is None -/
def D.isNon : D → Bool
  | .non => true | _ => false
theorem D.isNon_eq {F : Hp} {d : D} {v : V} (f : Fd K F v d) : decide (v = .non) = d.isNon := by
  cases f <;> simp [D.isNon]
theorem o_isN : Op2 K l (fun x y H Q => y = .non ∧ Q (.bl (decide (x = .non))) H) d .non (.bl d.isNon) := fun F M H v u Q eF eM dj rs f1 f2 k => by
  cases f2
  refine ⟨rfl, ?_⟩
  rw [D.isNon_eq f1]
  exact k _ F H (.rf eF) (.bl _)
theorem o_notN : Op2 K l (fun x y H Q => y = .non ∧ Q (.bl (!decide (x = .non))) H) d .non (.bl (!d.isNon)) := fun F M H v u Q eF eM dj rs f1 f2 k => by
  cases f2
  refine ⟨rfl, ?_⟩
  rw [D.isNon_eq f1]
  exact k _ F H (.rf eF) (.bl _)
theorem o_addS {x y : Str} (h : x.length + y.length ≤ sizeLine) : Op2 K l (fun x y H Q => ∃ i j, x = .str i ∧ y = .str j ∧ i.length + j.length ≤ sizeLine ∧ Q (.str (i ++ j)) H) (.str x) (.str y) (.str (x ++ y)) := fun F M H v u Q eF eM dj rs f1 f2 k => by
  cases f1; cases f2
  exact ⟨x, y, rfl, rfl, h, k _ F H (.rf eF) (.str _)⟩
/-- indices -/
theorem atI_of {α : Type} {xs : List α} {i : Int} {n : Nat} (h : ixN xs.length i = some n) : atI xs i = xs[n]? := by
  unfold atI; rw [h]; rfl
theorem atI_fd {F : Hp} {vs : List V} {ds : List D} (f : FdAll K F vs ds) (h : atI ds i = some d) : ∃ v, atI vs i = some v ∧ Fd K F v d := by
  unfold atI at h ⊢
  rw [f.length]
  cases e : ixN ds.length i with
  | none => rw [e] at h; cases h
  | some n =>
    rw [e] at h
    exact f.get h
theorem o_ixT {ds : List D} (h : atI ds i = some d) : Op2 K l (rIxT K) (.tup ds) (.int i) d := fun F M H v u Q eF eM dj rs f1 f2 k => by
  cases f2
  cases f1 with
  | tup s a =>
    obtain ⟨w, h1, h2⟩ := atI_fd a h
    exact ⟨_, _, i, w, rfl, rfl, ex_t eF s, h1, k w F H (.rf eF) h2⟩
theorem o_ixL {ds : List D} (h : atI ds i = some d) : Op2 K l (rIxL K) (.lst ds) (.int i) d := fun F M H v u Q eF eM dj rs f1 f2 k => by
  cases f2
  cases f1 with
  | lst s a =>
    obtain ⟨w, h1, h2⟩ := atI_fd a h
    exact ⟨_, _, i, w, rfl, rfl, SqL.of (eF _ _ s), h1, k w F H (.rf eF) h2⟩
theorem o_ixR {ds : List D} (h : atI ds i = some d) : Op2 K l (rIxL K) (.scr ds) (.int i) d := fun F M H v u Q eF eM dj rs f1 f2 k => by
  cases f2
  cases f1 with
  | scr s a =>
    obtain ⟨w, h1, h2⟩ := atI_fd a h
    exact ⟨_, _, i, w, rfl, rfl, ex_l eF s, h1, k w F H (.rf eF) h2⟩
theorem o_ixO {k : Nat} {p : Addr} {ds : List D} (hk : l[k]? = some (ownL K p ds)) (h : atI ds i = some d) : Op2 K l (rIxL K) (.adr p) (.int i) d := fun F M H v u Q eF eM dj rs f1 f2 kk => by
  cases f2
  cases f1
  obtain ⟨vs, f, hp⟩ := rs.own hk eM
  obtain ⟨w, h1, h2⟩ := atI_fd f h
  exact ⟨_, _, i, w, rfl, rfl, SqL.of hp, h1, kk w F H (.rf eF) h2⟩
theorem o_ixS {x : Str} {c : Nat} (h : x.length ≤ sizeLine) (ha : atI x.cps.toList i = some c) : Op2 K l rIxS (.str x) (.int i) (.str ⟨#[c]⟩) := fun F M H v u Q eF eM dj rs f1 f2 k => by
  cases f1; cases f2
  exact ⟨x, i, c, rfl, rfl, h, ha, k _ F H (.rf eF) (.str _)⟩
/-- x in xs, flat things -/
def D.flat (d : D) : Bool := match d.v with | some v => flatV v | none => false
def D.vv (d : D) : V := d.v.getD .non
theorem D.vv_eq {F : Hp} {d : D} {v : V} (f : Fd K F v d) (h : d.flat = true) : v = d.vv ∧ flatV v = true := by
  cases f <;> first | exact ⟨rfl, h⟩ | cases h
theorem D.vvs {F : Hp} : ∀ {vs : List V} {ds : List D}, FdAll K F vs ds → ds.all D.flat = true → vs = ds.map D.vv ∧ vs.all flatV = true
  | _, _, .nil, _ => ⟨rfl, rfl⟩
  | _, _, .cons a b, h => by
    rw [List.all_cons, Bool.and_eq_true] at h
    obtain ⟨q1, q2⟩ := D.vv_eq a h.1
    obtain ⟨r1, r2⟩ := D.vvs b h.2
    refine ⟨by rw [List.map_cons, ← q1, ← r1], by rw [List.all_cons, q2, r2]; rfl⟩
theorem o_in {neg : Bool} {ds : List D} {d0 : D} (hd : d0 = .lst ds ∨ d0 = .tup ds) (hx : d.flat = true) (hs : ds.all D.flat = true) : Op2 K l (rIn K neg) d d0 (.bl (if neg then !inV d.vv (ds.map D.vv) else inV d.vv (ds.map D.vv))) := fun F M H v u Q eF eM dj rs f1 f2 k => by
  obtain ⟨q1, q2⟩ := D.vv_eq f1 hx
  subst q1
  have kk := k (.bl (if neg then !inV d.vv (ds.map D.vv) else inV d.vv (ds.map D.vv))) F H (.rf eF) (.bl _)
  rcases hd with rfl | rfl
  · cases f2 with
    | lst s a =>
      obtain ⟨r1, r2⟩ := D.vvs a hs
      subst r1
      exact ⟨_, _, rfl, .inl (SqL.of (eF _ _ s)), q2, r2, kk⟩
  · cases f2 with
    | tup s a =>
      obtain ⟨r1, r2⟩ := D.vvs a hs
      subst r1
      exact ⟨_, _, rfl, .inr (ex_t eF s), q2, r2, kk⟩
theorem o_inO {neg : Bool} {k : Nat} {p : Addr} {ds : List D} (hk : l[k]? = some (ownL K p ds)) (hx : d.flat = true) (hs : ds.all D.flat = true) : Op2 K l (rIn K neg) d (.adr p) (.bl (if neg then !inV d.vv (ds.map D.vv) else inV d.vv (ds.map D.vv))) := fun F M H v u Q eF eM dj rs f1 f2 kk => by
  obtain ⟨q1, q2⟩ := D.vv_eq f1 hx
  subst q1
  cases f2
  obtain ⟨vs, f, hp⟩ := rs.own hk eM
  obtain ⟨r1, r2⟩ := D.vvs f hs
  subst r1
  exact ⟨_, _, rfl, .inl (SqL.of hp), q2, r2, kk _ F H (.rf eF) (.bl _)⟩
theorem inV_str {x : Str} {xs : List Str} : inV (.str x) (xs.map V.str) = decide (x ∈ xs) := by
  induction xs with
  | nil => rfl
  | cons y r ih =>
    have e : inV (.str x) ((y :: r).map V.str) = ((y == x) || inV (.str x) (r.map V.str)) := rfl
    rw [e, ih]
    by_cases q : y = x
    · subst q; simp
    · have q' : ¬ x = y := fun z => q z.symm
      simp [q, q']
theorem inV_int {x : Int} {xs : List Int} : inV (.int x) (xs.map V.int) = decide (x ∈ xs) := by
  induction xs with
  | nil => rfl
  | cons y r ih =>
    have e : inV (.int x) ((y :: r).map V.int) = ((y == x) || inV (.int x) (r.map V.int)) := rfl
    rw [e, ih]
    by_cases q : y = x
    · subst q; simp
    · have q' : ¬ x = y := fun z => q z.symm
      simp [q, q']
theorem flat_strs {xs : List Str} : (xs.map D.str).all D.flat = true := by
  induction xs with
  | nil => rfl
  | cons y r ih => rw [List.map_cons, List.all_cons, ih]; rfl
theorem vv_strs {xs : List Str} : (xs.map D.str).map D.vv = xs.map V.str := by
  rw [List.map_map]; rfl
theorem flat_ints {xs : List Int} : (xs.map D.int).all D.flat = true := by
  induction xs with
  | nil => rfl
  | cons y r ih => rw [List.map_cons, List.all_cons, ih]; rfl
theorem vv_ints {xs : List Int} : (xs.map D.int).map D.vv = xs.map V.int := by
  rw [List.map_map]; rfl
theorem o_inS {x : Str} {xs : List Str} {d0 : D} (hd : d0 = .lst (xs.map D.str) ∨ d0 = .tup (xs.map D.str)) : Op2 K l (rIn K false) (.str x) d0 (.bl (decide (x ∈ xs))) := by
  have h := o_in (K := K) (l := l) (neg := false) hd (d := .str x) rfl flat_strs
  rw [vv_strs] at h
  have e : (if false = true then !inV (D.str x).vv (xs.map V.str) else inV (D.str x).vv (xs.map V.str)) = decide (x ∈ xs) := inV_str
  rw [e] at h; exact h
theorem o_ninS {x : Str} {xs : List Str} {d0 : D} (hd : d0 = .lst (xs.map D.str) ∨ d0 = .tup (xs.map D.str)) : Op2 K l (rIn K true) (.str x) d0 (.bl (!decide (x ∈ xs))) := by
  have h := o_in (K := K) (l := l) (neg := true) hd (d := .str x) rfl flat_strs
  rw [vv_strs] at h
  have e : (if true = true then !inV (D.str x).vv (xs.map V.str) else inV (D.str x).vv (xs.map V.str)) = !decide (x ∈ xs) := congrArg (!·) inV_str
  rw [e] at h; exact h
/- == of data -/
mutual
def D.py : D → Option PyData
  | .non => some .none | .bl b => some (.bool b) | .int i => some (.int i) | .str x => some (.str x)
  | .lst ds => (D.pys ds).map .list
  | .tup ds => (D.pys ds).map .tuple
  | .adr _ => none | .ty _ => none | .ins _ _ => none | .scr _ => none | .dK _ => none | .dT _ => none
def D.pys : List D → Option (List PyData)
  | [] => some []
  | d :: r => (D.py d).bind fun a => (D.pys r).map fun b => a :: b
end
mutual
theorem Fd.dp {F H : Hp} (e : Ex F H) : ∀ (d : D) {v : V} {p : PyData}, Fd K F v d → D.py d = some p → Dp K H v p
  | .non, _, _, h, q => by cases h; cases q; exact .non
  | .bl _, _, _, h, q => by cases h; cases q; exact .bl _
  | .int _, _, _, h, q => by cases h; cases q; exact .int _
  | .str _, _, _, h, q => by cases h; cases q; exact .str _
  | .lst ds, _, _, h, q => by
    unfold D.py at q
    obtain ⟨ps, h1, rfl⟩ := Option.map_eq_some_iff.mp q
    cases h with
    | lst s a => exact .lst (SqL.of (e _ _ s)) (FdAll.dp e ds a h1)
  | .tup ds, _, _, h, q => by
    unfold D.py at q
    obtain ⟨ps, h1, rfl⟩ := Option.map_eq_some_iff.mp q
    cases h with
    | tup s a => exact .tup (ex_t e s) (FdAll.dp e ds a h1)
  | .adr _, _, _, h, q => by cases q
  | .ty _, _, _, h, q => by cases q
  | .ins _ _, _, _, h, q => by cases q
  | .scr _, _, _, h, q => by cases q
  | .dK _, _, _, h, q => by cases q
  | .dT _, _, _, h, q => by cases q
theorem FdAll.dp {F H : Hp} (e : Ex F H) : ∀ (ds : List D) {vs : List V} {ps : List PyData}, FdAll K F vs ds → D.pys ds = some ps → DpAll K H vs ps
  | [], _, _, h, q => by cases h; cases q; exact .nil
  | d :: r, _, _, h, q => by
    unfold D.pys at q
    obtain ⟨a, h1, q⟩ := Option.bind_eq_some_iff.mp q
    obtain ⟨b, h2, rfl⟩ := Option.map_eq_some_iff.mp q
    cases h with
    | cons x y => exact .cons (Fd.dp e d x h1) (FdAll.dp e r y h2)
end
theorem o_eqD {p q : PyData} (h1 : d1.py = some p) (h2 : d2.py = some q) (s1 : SeqAt.shaped p = true) (s2 : SeqAt.shaped q = true) : Op2 K l (rEqD K) d1 d2 (.bl (PyData.eqv p q)) := fun F M H v u Q eF eM dj rs f1 f2 k =>
  ⟨p, q, Fd.dp eF _ f1 h1, Fd.dp eF _ f2 h2, s1, s2, k _ F H (.rf eF) (.bl _)⟩
theorem o_neD {p q : PyData} (h1 : d1.py = some p) (h2 : d2.py = some q) (s1 : SeqAt.shaped p = true) (s2 : SeqAt.shaped q = true) : Op2 K l (rNeD K) d1 d2 (.bl (!PyData.eqv p q)) := fun F M H v u Q eF eM dj rs f1 f2 k =>
  ⟨p, q, Fd.dp eF _ f1 h1, Fd.dp eF _ f2 h2, s1, s2, k _ F H (.rf eF) (.bl _)⟩
end

/-! ### a def's promise -/
/-- called with the data args a (owned: own a), where ok a holds, it gives back what post tells, or raises what epost tells -/
def FnX (K : PySem.W.Frag) {α : Type} (ok : α → Prop) (args : α → List D) (own : α → List Res) (post : α → D → List Res → Prop) (epost : α → Value → Option Addr → List Res → Prop) : Sp := fun vs H Q E =>
  ∃ (a : α) (F M : Hp), ok a ∧ Ex F H ∧ Ex M H ∧ Dj F M ∧ FdAll K F vs (args a) ∧ Rs (own a) F M ∧
    (∀ v d l' H', post a d l' → S K ⟨F, M, H⟩ [] (Tm.tt.and K v d) l' [] H' → Q v H') ∧ (∀ cls d l' H', epost a cls d l' → S K ⟨F, M, H⟩ [] Tm.tt l' [] H' → E cls d H')
abbrev noE {α : Type} : α → Value → Option Addr → List Res → Prop := fun _ _ _ _ => False
/-- a def that changes nothing and gives back f a -/
abbrev Pu (K : PySem.W.Frag) {α : Type} (ok : α → Prop) (args : α → List D) (f : α → D) : Sp := FnX K ok args (fun _ => []) (fun a d l' => d = f a ∧ l' = []) noE
section
variable {P : Program} {w : World} {K : PySem.W.Frag} {mg : Str → Option Value} {base : Heap}
theorem fn_ok {α : Type} {ok : α → Prop} {args : α → List D} {own : α → List Res} {post : α → D → List Res → Prop} {epost : α → Value → Option Addr → List Res → Prop} {x qual : Str} {st : Stmt} {f : Addr} {fd : FuncData} {N ps : List Str} {k : Nat}
    (F : Fun K x qual st f fd) (Sc : FnScope N ps (defScope st)) (hlen : ∀ a, (args a).length = ps.length)
    (hbody : ∀ (cdv : Value) (A : Around) (outer : List Env) (s : Shared) (H : Hp) (E : XK) (a : α), Room k (A.deeper (PyProof.Rows.envOfC qual (defScope st) s.heap.objs.size f cdv)) → ok a →
      Blk (cxOf CX0 P w K mg base N qual (defScope st) f cdv A outer s H E).nox (fun _ _ _ _ => False) (defBody st) ((args a).map some ++ List.replicate (N.length - (args a).length) none) (own a) { nx := fun _ l' => post a .non l', rt := post a }) :
    FnOk P w K mg base CX0 (k + 1) f fd ps (FnX K ok args own post epost) := by
  refine F.ok Sc (fun vs H Q E h => ?_) (fun cdv A outer s H vs Q E hr h => ⟨wpS _ (defBody st), pss_wp, ?_⟩)
  · obtain ⟨a, _, _, _, _, _, _, h, _⟩ := h
    rw [h.length, hlen]
  · obtain ⟨a, F, M, hok, eF, eM, dj, fa, rs, hq, _⟩ := h
    have e : vs.length = (args a).length := fa.length
    refine hbody cdv A outer s H E a hr hok ⟨F, M, H⟩ Tm.tt _ H _ ⟨F, M, At.entry eF eM dj ?_ trivial rs⟩ ⟨fun g l σ H' p s' => ?_, fun d l v H' p s' => hq v d l H' p s', fun _ _ _ _ h => h.elim, fun _ _ _ _ h => h.elim, fun _ _ _ _ _ _ h => h.elim⟩
    · unfold L2.start
      rw [e]
      exact Sl.args _ fa
    · obtain ⟨F', M', q⟩ := s'
      exact hq .non .non l H' p ⟨F', M', (q.tmp (T' := Tm.tt.and K .non .non) ⟨.non, trivial⟩).slots .nil⟩
theorem fn_okX {α : Type} {ok : α → Prop} {args : α → List D} {own : α → List Res} {post : α → D → List Res → Prop} {epost : α → Value → Option Addr → List Res → Prop} {x qual : Str} {st : Stmt} {f : Addr} {fd : FuncData} {N ps : List Str} {k : Nat}
    (F : Fun K x qual st f fd) (Sc : FnScope N ps (defScope st)) (hlen : ∀ a, (args a).length = ps.length)
    (hbody : ∀ (cdv : Value) (A : Around) (outer : List Env) (s : Shared) (H : Hp) (E : XK) (a : α), Room k (A.deeper (PyProof.Rows.envOfC qual (defScope st) s.heap.objs.size f cdv)) → ok a →
      Blk (cxOf (L2.CX P w) P w K mg base N qual (defScope st) f cdv A outer s H E) (fun cls d _ H => E cls d H) (defBody st) ((args a).map some ++ List.replicate (N.length - (args a).length) none) (own a) { nx := fun _ l' => post a .non l', rt := post a, ex := fun cls d _ l' => epost a cls d l' }) :
    FnOk P w K mg base (L2.CX P w) (k + 1) f fd ps (FnX K ok args own post epost) := by
  refine F.okX Sc (fun vs H Q E h => ?_) (fun cdv A outer s H vs Q E hr h => ⟨wpS _ (defBody st), pss_wp, ?_⟩)
  · obtain ⟨a, _, _, _, _, _, _, h, _⟩ := h
    rw [h.length, hlen]
  · obtain ⟨a, F, M, hok, eF, eM, dj, fa, rs, hq, he⟩ := h
    have e : vs.length = (args a).length := fa.length
    refine hbody cdv A outer s H E a hr hok ⟨F, M, H⟩ Tm.tt _ H _ ⟨F, M, At.entry eF eM dj ?_ trivial rs⟩ ⟨fun g l σ H' p s' => ?_, fun d l v H' p s' => hq v d l H' p s', fun _ _ _ _ h => h.elim, fun _ _ _ _ h => h.elim, fun cls d g l σ H' p s' => he cls d l H' p s'.slotless⟩
    · unfold L2.start
      rw [e]
      exact Sl.args _ fa
    · obtain ⟨F', M', q⟩ := s'
      exact hq .non .non l H' p ⟨F', M', (q.tmp (T' := Tm.tt.and K .non .non) ⟨.non, trivial⟩).slots .nil⟩
/-- a def of the module under its name, with its promise -/
def Glo (P : Program) (w : World) (K : PySem.W.Frag) (mg : Str → Option Value) (base : Heap) (k : Nat) (x : Str) (ps : List Str) (sp : Sp) : Prop :=
  ∃ f fd, FnOk P w K mg base CX0 k f fd ps sp ∧ mg x = some (.ref f) ∧ PySem.W.keepIn K (.ref f) = true ∧ Binds K fd ps []
/-- a class's method, with its promise -/
def GloM (P : Program) (w : World) (K : PySem.W.Frag) (mg : Str → Option Value) (base : Heap) (k : Nat) (C : Addr) (m : Str) (ps : List Str) (sp : Sp) : Prop :=
  ∃ f fd, FnOk P w K mg base CX0 k f fd ps sp ∧ Cls K C ∧ Meth K C m f ∧ Binds K fd ps []
/-- a class under its name with its __init__ -/
def GloC (P : Program) (w : World) (K : PySem.W.Frag) (mg : Str → Option Value) (base : Heap) (k : Nat) (C : Addr) (x : Str) (ps : List Str) (sp : Sp) : Prop :=
  ∃ f fd, FnOk P w K mg base CX0 k f fd ps sp ∧ Mk K C f ∧ mg x = some (.ref C) ∧ Binds K fd ps []
end

section
variable {X : Cx} {W : WX} {g g' : Gm} {l l' : List Res} {Φ : Po} {e e2 a b c o : Expr} {es : List Expr} {d d1 d2 d3 : D} {pos p p2 : Pos} {rest : List Stmt}
/-- o.m(es) is got as a method -/
abbrev MthE (X : Cx) (o : Expr) (m : Str) (apos pos : Pos) (es : List Expr) (pl : Sem Bool) : Prop := eval (.Call (.Attribute o m apos) es [] pos) X.env = (do let ov ← eval o X.env; standAt apos.atName; let (f, r) ← holding [ov] (getMethod ov m pl); callWith pos f r (backTo pos (starEach es X.env)) (backToKw pos (keywordEach [] X.env)))
/-- what a promise gives where the state is known -/
theorem FnX.use {α : Type} {ok : α → Prop} {args : α → List D} {own : α → List Res} {post : α → D → List Res → Prop} {epost : α → Value → Option Addr → List Res → Prop} {K : PySem.W.Frag} {en : En} {T : Tm} {σ : L2.St} {H : Hp} {vs : List V} {lr : List Res} {Q : VK} {E : XK}
    (a : α) (hok : ok a) (s : S K en g (T.ands K vs (args a)) (own a ++ lr) σ H) (hq : ∀ v d l' H', post a d l' → S K en g (T.and K v d) (l' ++ lr) σ H' → Q v H') (he : ∀ cls d l' H', epost a cls d l' → S K en g T (l' ++ lr) σ H' → E cls d H') :
    FnX K ok args own post epost vs H Q E := by
  obtain ⟨F, M, q⟩ := s
  obtain ⟨A, B, rfl, dj, r1, r2⟩ := q.rs.split
  refine ⟨a, F, A, hok, q.exF, q.exM.joinL, (Dj.l q.dj.sym).sym, q.tm.1, r1, fun v d l' H' hp s' => ?_, fun cls d l' H' hp s' => ?_⟩
  · obtain ⟨F2, M2, b⟩ := s'
    have z := (q.tmp (T' := T) q.tm.2).frame dj r2 b
    exact hq v d l' H' hp ⟨F2, _, z.tmp ⟨b.tm.1, z.tm⟩⟩
  · obtain ⟨F2, M2, b⟩ := s'
    have z := (q.tmp (T' := T) q.tm.2).frame dj r2 b
    exact he cls d l' H' hp ⟨F2, _, z⟩
theorem ev_call {α : Type} {ok : α → Prop} {args : α → List D} {own : α → List Res} {post : α → D → List Res → Prop} {x : Str} {ps : List Str} {k j : Nat} {lr : List Res} {Psi : D → List Res → Prop}
    (G : Glo X.prog X.w X.K X.mg X.base k x ps (FnX X.K ok args own post noE)) (hr : Room j X.A) (hj : k ≤ j) (a : α) (hok : ok a) (ha : Pa X (e :: es) g (own a ++ lr) (args a)) (hq : ∀ d l', post a d l' → Psi d (l' ++ lr))
    (hg : Gl X x := by rfl) (hdb : (x == ("__debug__" : Str)) = false := by decide) (he : starEach (e :: es) X.env = (false, eval e X.env) :: starEach es X.env := by rfl) (hpl : (backTo pos (starEach es X.env)).any (·.1) = false := by rfl) :
    Ev X (.Call (.Name x p) (e :: es) [] pos) g (own a ++ lr) Psi := fun en T σ H Q s kk => by
  obtain ⟨f, fd, F, hm, hk, hb⟩ := G
  refine wpE_of (pe_call F (hr.mono hj) hg hm hk hb .nil pass0 pa_wp hdb he hpl) ?_
  refine ha en T σ H _ s fun vs H1 s1 => ?_
  rw [List.append_nil]
  exact FnX.use a hok s1 (fun v d l' H' hp s' => kk v d _ H' (hq d l' hp) s') fun _ _ _ _ h => h.elim
theorem ev_call0 {α : Type} {ok : α → Prop} {args : α → List D} {own : α → List Res} {post : α → D → List Res → Prop} {x : Str} {ps : List Str} {k j : Nat} {lr : List Res} {Psi : D → List Res → Prop}
    (G : Glo X.prog X.w X.K X.mg X.base k x ps (FnX X.K ok args own post noE)) (hr : Room j X.A) (hj : k ≤ j) (a : α) (hok : ok a) (ha : args a = []) (hq : ∀ d l', post a d l' → Psi d (l' ++ lr))
    (hg : Gl X x := by rfl) (hdb : (x == ("__debug__" : Str)) = false := by decide) :
    Ev X (.Call (.Name x p) [] [] pos) g (own a ++ lr) Psi := fun en T σ H Q s kk => by
  obtain ⟨f, fd, F, hm, hk, hb⟩ := G
  refine wpE_of (pe_call0 F (hr.mono hj) hg hm hk hb .nil pass0 hdb) ?_
  show FnX _ _ _ _ _ _ ([] ++ []) H Q _
  have s1 : S X.K en g (T.ands X.K [] (args a)) (own a ++ lr) σ H := by
    obtain ⟨F, M, q⟩ := s
    exact ⟨F, M, q.tmp ⟨by rw [ha]; exact .nil, q.tm⟩⟩
  exact FnX.use a hok s1 (fun v d l' H' hp s' => kk v d _ H' (hq d l' hp) s') fun _ _ _ _ h => h.elim
/-- a def that changes nothing -/
theorem px_call {α : Type} {ok : α → Prop} {args : α → List D} {f : α → D} {x : Str} {ps : List Str} {k j : Nat} 
    (G : Glo X.prog X.w X.K X.mg X.base k x ps (Pu X.K ok args f)) (hr : Room j X.A) (hj : k ≤ j) (a : α) (hok : ok a) (ha : Pa X (e :: es) g l (args a))
    (hg : Gl X x := by rfl) (hdb : (x == ("__debug__" : Str)) = false := by decide) (he : starEach (e :: es) X.env = (false, eval e X.env) :: starEach es X.env := by rfl) (hpl : (backTo pos (starEach es X.env)).any (·.1) = false := by rfl) :
    Px X (.Call (.Name x p) (e :: es) [] pos) g l (f a) :=
  Ev.px (ev_call (lr := l) (own := fun _ => []) G hr hj a hok ha (fun d l' h => ⟨h.1, by rw [h.2]; rfl⟩) hg hdb he hpl)
/-- o.m(..) -/
theorem ev_meth {α : Type} {ok : α → Prop} {args : α → List D} {own : α → List Res} {post : α → D → List Res → Prop} {C : Addr} {m : Str} {ps : List Str} {k j : Nat} {lr : List Res} {Psi : D → List Res → Prop} {ds : List D} {apos : Pos} {pl : Sem Bool}
    (G : GloM X.prog X.w X.K X.mg X.base k C m ps (FnX X.K ok args own post noE)) (hr : Room j X.A) (hj : k ≤ j) (a : α) (hok : ok a) (ho : Px X o g (own a ++ lr) d1)
    (hd : ∀ F M H v, Ex F H → Ex M H → Rs (own a ++ lr) F M → Fd X.K F v d1 → ∃ q dx fs, v = .ref q ∧ H q = some (.ins C dx fs) ∧ fs.lookup m = none)
    (ha : Pa X (e :: es) g (own a ++ lr) ds) (hds : args a = d1 :: ds) (hq : ∀ d l', post a d l' → Psi d (l' ++ lr))
    (hst : starEach (e :: es) X.env = (false, eval e X.env) :: starEach es X.env := by rfl) (hpl : (backTo pos (starEach es X.env)).any (·.1) = false := by rfl)
    (ht : MthE X o m apos pos (e :: es) pl := by rfl) :
    Ev X (.Call (.Attribute o m apos) (e :: es) [] pos) g (own a ++ lr) Psi := fun en T σ H Q s kk => by
  obtain ⟨f, fd, F, hc, hm, hb⟩ := G
  refine wpE_of (pe_meth pe_wp hc hm F (hr.mono hj) hb .nil pass0 pa_wp hst hpl ht) ?_
  refine ho en T σ H _ s fun v H1 s1 => ?_
  have s1' := s1
  obtain ⟨F1, M1, q1⟩ := s1
  obtain ⟨q, dx, fs, rfl, h1, h2⟩ := hd F1 M1 H1 v q1.exF q1.exM q1.rs q1.tm.1
  refine ⟨q, dx, fs, rfl, h1, h2, ?_⟩
  refine ha en _ σ H1 _ s1' fun vs H2 s2 => ?_
  rw [List.append_nil]
  refine FnX.use a hok (T := T) (g := g) (en := en) (σ := σ) (lr := lr) ?_ (fun v d l' H' hp s' => kk v d _ H' (hq d l' hp) s') fun _ _ _ _ h => h.elim
  obtain ⟨F, M, q⟩ := s2
  exact ⟨F, M, q.tmp ⟨by rw [hds]; exact .cons q.tm.2.1 q.tm.1, q.tm.2.2⟩⟩
theorem ev_meth0 {α : Type} {ok : α → Prop} {args : α → List D} {own : α → List Res} {post : α → D → List Res → Prop} {C : Addr} {m : Str} {ps : List Str} {k j : Nat} {lr : List Res} {Psi : D → List Res → Prop} {apos : Pos} {pl : Sem Bool}
    (G : GloM X.prog X.w X.K X.mg X.base k C m ps (FnX X.K ok args own post noE)) (hr : Room j X.A) (hj : k ≤ j) (a : α) (hok : ok a) (ho : Px X o g (own a ++ lr) d1)
    (hd : ∀ F M H v, Ex F H → Ex M H → Rs (own a ++ lr) F M → Fd X.K F v d1 → ∃ q dx fs, v = .ref q ∧ H q = some (.ins C dx fs) ∧ fs.lookup m = none)
    (hds : args a = [d1]) (hq : ∀ d l', post a d l' → Psi d (l' ++ lr))
    (ht : MthE X o m apos pos [] pl := by rfl) :
    Ev X (.Call (.Attribute o m apos) [] [] pos) g (own a ++ lr) Psi := fun en T σ H Q s kk => by
  obtain ⟨f, fd, F, hc, hm, hb⟩ := G
  refine wpE_of (pe_meth0 pe_wp hc hm F (hr.mono hj) hb .nil pass0 ht) ?_
  refine ho en T σ H _ s fun v H1 s1 => ?_
  have s1' := s1
  obtain ⟨F1, M1, q1⟩ := s1
  obtain ⟨q, dx, fs, rfl, h1, h2⟩ := hd F1 M1 H1 v q1.exF q1.exM q1.rs q1.tm.1
  refine ⟨q, dx, fs, rfl, h1, h2, ?_⟩
  show FnX _ _ _ _ _ _ (V.ref q :: ([] ++ [])) H1 Q _
  refine FnX.use a hok (T := T) (g := g) (en := en) (σ := σ) (lr := lr) ?_ (fun v d l' H' hp s' => kk v d _ H' (hq d l' hp) s') fun _ _ _ _ h => h.elim
  exact ⟨F1, M1, q1.tmp ⟨by rw [hds]; exact .cons q1.tm.1 .nil, q1.tm.2⟩⟩
/-- the receiver: a frozen instance, an owned one -/
theorem rc_ins {K : PySem.W.Frag} {C : Addr} {fs : List (Str × D)} {m : Str} (h : fs.lookup m = none) : ∀ F M H v, Ex F H → Ex M H → Rs l F M → Fd K F v (.ins C fs) → ∃ q dx fs, v = .ref q ∧ H q = some (.ins C dx fs) ∧ fs.lookup m = none := fun F M H v eF eM rs f => by
  cases f with
  | ins h1 h2 => exact ⟨_, _, _, rfl, eF _ _ h1, h2.nolook h⟩
theorem rc_own {K : PySem.W.Frag} {C p : Addr} {fs : List (Str × D)} {m : Str} {k : Nat} (hk : l[k]? = some (ownI K p C fs)) (h : fs.lookup m = none) : ∀ F M H v, Ex F H → Ex M H → Rs l F M → Fd K F v (.adr p) → ∃ q dx fs, v = .ref q ∧ H q = some (.ins C dx fs) ∧ fs.lookup m = none := fun F M H v eF eM rs f => by
  cases f
  obtain ⟨dx, vs, f, hp⟩ := rs.ins hk eM
  exact ⟨p, dx, vs, rfl, hp, f.nolook h⟩
theorem px_meth {α : Type} {ok : α → Prop} {args : α → List D} {f : α → D} {C : Addr} {m : Str} {ps : List Str} {k j : Nat} {ds : List D} {apos : Pos} {pl : Sem Bool} {fs : List (Str × D)}
    (G : GloM X.prog X.w X.K X.mg X.base k C m ps (Pu X.K ok args f)) (hr : Room j X.A) (hj : k ≤ j) (a : α) (hok : ok a) (ho : Px X o g l (.ins C fs)) (hfs : fs.lookup m = none) (ha : Pa X (e :: es) g l ds) (hds : args a = .ins C fs :: ds)
    (hst : starEach (e :: es) X.env = (false, eval e X.env) :: starEach es X.env := by rfl) (hpl : (backTo pos (starEach es X.env)).any (·.1) = false := by rfl)
    (ht : MthE X o m apos pos (e :: es) pl := by rfl) : Px X (.Call (.Attribute o m apos) (e :: es) [] pos) g l (f a) :=
  Ev.px (ev_meth (lr := l) (own := fun _ => []) G hr hj a hok ho (rc_ins hfs) ha hds (fun d l' h => ⟨h.1, by rw [h.2]; rfl⟩) hst hpl ht)
theorem px_meth0 {α : Type} {ok : α → Prop} {args : α → List D} {f : α → D} {C : Addr} {m : Str} {ps : List Str} {k j : Nat} {apos : Pos} {pl : Sem Bool} {fs : List (Str × D)}
    (G : GloM X.prog X.w X.K X.mg X.base k C m ps (Pu X.K ok args f)) (hr : Room j X.A) (hj : k ≤ j) (a : α) (hok : ok a) (ho : Px X o g l (.ins C fs)) (hfs : fs.lookup m = none) (hds : args a = [.ins C fs])
    (ht : MthE X o m apos pos [] pl := by rfl) : Px X (.Call (.Attribute o m apos) [] [] pos) g l (f a) :=
  Ev.px (ev_meth0 (lr := l) (own := fun _ => []) G hr hj a hok ho (rc_ins hfs) hds (fun d l' h => ⟨h.1, by rw [h.2]; rfl⟩) ht)
/-- C(..), C with an own __init__ -/
theorem ev_make {α : Type} {ok : α → Prop} {args : α → List D} {own : α → List Res} {post : α → D → List Res → Prop} {C : Addr} {x : Str} {ps : List Str} {k j : Nat} {lr : List Res} {Psi : D → List Res → Prop} {ds : List D}
    (G : GloC X.prog X.w X.K X.mg X.base k C x ps (FnX X.K ok args own post noE)) (hr : Room j X.A) (hj : k + 1 ≤ j) (a : Addr → α) (hok : ∀ q, ok (a q)) (ha : Pa X (e :: es) g lr ds)
    (hds : ∀ q, args (a q) = .adr q :: ds) (hown : ∀ q, own (a q) = [ownI X.K q C []]) (hq : ∀ q d l', post (a q) d l' → d = .non ∧ Psi (.adr q) (l' ++ lr))
    (hg : Gl X x := by rfl) (hdb : (x == ("__debug__" : Str)) = false := by decide) (he : starEach (e :: es) X.env = (false, eval e X.env) :: starEach es X.env := by rfl) (hpl : (backTo pos (starEach es X.env)).any (·.1) = false := by rfl) :
    Ev X (.Call (.Name x p) (e :: es) [] pos) g lr Psi := fun en T σ H Q s kk => by
  obtain ⟨f, fd, F, M, hm, hb⟩ := G
  refine wpE_of (pe_make M F (hr.mono hj) hg hm hb .nil pass0 pa_wp hdb he hpl) ?_
  refine ha en T σ H _ s fun vs H1 s1 => ?_
  intro x dx nx ndx ne
  rw [List.append_nil]
  obtain ⟨F1, M1, q1⟩ := s1
  have n2 : (upd H1 dx (.own x)) x = none := by rw [upd_ne (Ne.symm ne)]; exact nx
  have q2 := q1.newO (r := ownI X.K x C []) (A := join (one x (.ins C dx [])) (one dx (.own x))) (H' := upd (upd H1 dx (.own x)) x (.ins C dx [])) ((Ex.new ndx).tr (.new n2))
    (fun y o z => by
      rcases join_some z with w | ⟨w, w'⟩
      · obtain ⟨rfl, rfl⟩ := one_some w; exact upd_same
      · obtain ⟨rfl, rfl⟩ := one_some w'
        rw [upd_ne ne, upd_same])
    (fun y o z => by
      rcases join_some z with w | ⟨w, w'⟩
      · obtain ⟨rfl, rfl⟩ := one_some w; exact nx
      · obtain ⟨rfl, rfl⟩ := one_some w'; exact ndx) ⟨[], dx, ne, .nil, rfl⟩
  have s2 : S X.K en g ((T.and X.K (.ref x) (.adr x)).ands X.K (.ref x :: vs) (args (a x))) (own (a x) ++ lr) σ (upd (upd H1 dx (.own x)) x (.ins C dx [])) := by
    rw [hown]
    exact ⟨F1, _, q2.tmp ⟨by rw [hds]; exact .cons (.adr x) q1.tm.1, .adr x, q1.tm.2⟩⟩
  refine FnX.use (a x) (hok x) s2 (fun v d l' H' hp s' => ?_) fun _ _ _ _ h => h.elim
  · obtain ⟨e1, e2⟩ := hq x d l' hp
    subst e1
    obtain ⟨F3, M3, q3⟩ := s'
    have f3 := q3.tm.1
    cases f3
    exact ⟨rfl, kk _ _ _ H' e2 ⟨F3, M3, q3.tmp q3.tm.2⟩⟩
/-- an instance just made is frozen -/
theorem Ev.frzI {C : Addr} {fs : List (Str × D)} (h : Ev X e g l (fun d' l' => ∃ p, d' = .adr p ∧ l' = ownI X.K p C fs :: l)) : Px X e g l (.ins C fs) := fun en T σ H Q s k => h en T σ H Q s fun v d l' H' p s' => by
  obtain ⟨p, rfl, rfl⟩ := p
  obtain ⟨F, M, q⟩ := s'
  have hv := q.tm.1
  cases hv
  obtain ⟨F', M', q', f, _⟩ := q.frz (P := fun F' => Fd X.K F' (.ref p) (.ins C fs)) fun A hA => by
    obtain ⟨vs, dx, n, f, rfl⟩ := hA
    have hF : F p = none := by
      obtain ⟨A, B, rfl, _, ⟨_, dx, n, _, rfl⟩, _⟩ := q.rs
      exact q.dj.sym p _ (join_l (join_l one_same))
    exact .ins (by rw [join_r hF]; exact join_l one_same) (FdFs.mono (fun x o h => join_l h) _ f)
  exact k _ H' ⟨F', M', q'.tmp ⟨f, q'.tm.2⟩⟩
/-- self.f = e, self an owned instance -/
theorem blk_fld {k : Nat} {C q : Addr} {fs : List (Str × D)} {f : Str} {pos' : Pos} (he : Px X e g l d) (ho : Px X o g l (.adr q)) (hk : l[k]? = some (ownI X.K q C fs)) (hc : Cls X.K C) (hn : NoAttr X.K C f) (hz : fs.length < 1000)
    (h : Blk X W rest g (l.set k (ownI X.K q C (putD f d fs))) Φ) (hs : swapsWith e (some (.Attribute o f pos')) pos.line X.env = pure false := by rfl) : Blk X W (.Assign [.Attribute o f pos'] e pos :: rest) g l Φ := fun en T σ H D s m => wpS_of (pss_cons (ps_fld pe_wp pe_wp hs) pss_wp) (by
  refine he en T σ H _ s fun v H1 s1 => ?_
  refine ho en _ σ H1 _ s1 fun u H2 s2 => ?_
  obtain ⟨F, M, q2⟩ := s2
  have fu := q2.tm.1
  cases fu
  obtain ⟨dx, vs, ff, hp⟩ := q2.rs.ins hk q2.exM
  refine ⟨q, C, dx, vs, rfl, hp, hc, hn, by rw [ff.length]; exact hz, ?_⟩
  obtain ⟨M', q'⟩ := (q2.tmp (T' := T) q2.tm.2.2).putI hk hp (ff.put q2.tm.2.1)
  exact h en T σ _ D ⟨F, M', q'⟩ m)
/-- an attribute of an owned instance -/
theorem px_fldO {k : Nat} {C q : Addr} {fs : List (Str × D)} {f : Str} (ho : Px X o g l (.adr q)) (hk : l[k]? = some (ownI X.K q C fs)) (hc : Cls X.K C) (hn : NoAttr X.K C f) (hl : fs.lookup f = some d) (hb : attributeBase o f X.env (eval o X.env) = eval o X.env := by rfl) : Px X (.Attribute o f pos) g l d := fun en T σ H Q s kk => wpE_of (pe_fld pe_wp hb) (by
  refine ho en T σ H _ s fun v H1 s1 => ?_
  obtain ⟨F, M, q1⟩ := s1
  obtain ⟨hf, ht⟩ := q1.tm
  cases hf
  obtain ⟨dx, vs, ff, hp⟩ := q1.rs.ins hk q1.exM
  obtain ⟨v, e1, e2⟩ := ff.look hl
  exact ⟨_, C, _, _, v, rfl, hp, hc, hn, e1, kk v H1 ⟨F, M, q1.tmp ⟨e2, ht⟩⟩⟩)

/-! ### targets -/
def setsV (σ : L2.St) : List Nat → List V → L2.St
  | i :: is, v :: vs => setsV (σ.set i (some v)) is vs
  | _, _ => σ
def sets (g : Gm) : List Nat → List D → Gm
  | i :: is, d :: ds => sets (g.set i (some d)) is ds
  | _, _ => g
theorem Sl.sets {K : PySem.W.Frag} {F : Hp} : ∀ {is : List Nat} {g : Gm} {σ : L2.St} {vs : List V} {ds : List D}, Sl K F g σ → FdAll K F vs ds → Sl K F (sets g is ds) (setsV σ is vs)
  | [], _, _, _, _, h, .nil => h
  | [], _, _, _, _, h, .cons _ _ => h
  | _ :: _, _, _, _, _, h, .nil => h
  | i :: is, _, _, _, _, h, .cons a b => Sl.sets (is := is) (h.set i a) b
/-- a target takes a datum apart into the slots is -/
def Tg (K : PySem.W.Frag) (t : TG) (is : List Nat) (d : D) (ds : List D) : Prop := ∀ F H v σ (Q : L2.St → Hp → Prop), Ex F H → Fd K F v d → (∀ vs, FdAll K F vs ds → Q (setsV σ is vs) H) → t v σ H Q
theorem tg_name {K : PySem.W.Frag} {i : Nat} : Tg K (gName i) [i] d [d] := fun F H v σ Q e f k => k [v] (.cons f .nil)
theorem tg_seq {K : PySem.W.Frag} : ∀ {is : List Nat} {ds : List D} {vs : List V} {F H : Hp} {σ : L2.St} {Q : L2.St → Hp → Prop}, is.length = ds.length → FdAll K F vs ds → Q (setsV σ is vs) H → (is.foldr (fun i t => gCons (gName i) t) gNil) vs σ H Q
  | [], [], _, _, _, _, _, _, .nil, h => ⟨rfl, h⟩
  | i :: is, d :: ds, _, _, _, σ, _, e, .cons (v := v) a b, h => ⟨_, _, rfl, tg_seq (is := is) (by simpa using e) b h⟩
  | [], _ :: _, _, _, _, _, _, e, _, _ => by cases e
  | _ :: _, [], _, _, _, _, _, e, _, _ => by cases e
theorem tg_tup {K : PySem.W.Frag} {is : List Nat} {ds : List D} {n : Nat} (h : is.length = ds.length) (hn : ds.length = n) : Tg K (gTup K n (is.foldr (fun i t => gCons (gName i) t) gNil)) is (.tup ds) ds := fun F H v σ Q e f k => by
  cases f with
  | tup s a => exact ⟨_, _, rfl, ex_t e s, by rw [a.length]; exact hn, tg_seq h a (k _ a)⟩
/-! ### walks -/
/-- the iterator J gives the data ds, one after another, while F stands -/
def JG (K : PySem.W.Frag) (F : Hp) (J : It) (ds : List D) : Prop := ∀ F' H, Ex F F' → Ex F' H → (∀ i, i < ds.length → J.go i H) ∧ J.stop ds.length H ∧ ∀ i d x H', ds[i]? = some d → J.yld i H x H' → ∃ F'', New F' H F'' H' ∧ Fd K F'' x d
def Itw (X : Cx) (tg iter : Expr) (g : Gm) (l : List Res) (ds : List D) : Prop := ∃ wi, PI X tg iter wi ∧ ∀ en T σ H (R : It → Hp → Prop), S X.K en g T l σ H → (∀ J H1 F M, At X.K en g T l σ H1 F M → JG X.K F J ds → R J H1) → wi σ H R
theorem jg_list {K : PySem.W.Frag} {F : Hp} {a : Addr} {vs : List V} {ds : List D} (s : SqL K F a vs) (f : FdAll K F vs ds) : JG K F (Itl K a) ds := fun F' H e1 e2 => by
  have s2 : SqL K H a vs := ex_l (e1.tr e2) s
  refine ⟨fun i hi => ?_, ⟨vs, s2, by rw [f.length]; exact Nat.le_refl _⟩, fun i d x H' hd hy => ?_⟩
  · have q : i < vs.length := by rw [f.length]; exact hi
    exact ⟨vs, vs[i], s2, List.getElem?_eq_getElem q⟩
  · obtain ⟨rfl, h⟩ := hy
    obtain ⟨v, h1, h2⟩ := f.get hd
    have e := h vs s2
    rw [h1] at e
    cases e
    exact ⟨F', .rf e2, h2.mono e1⟩
theorem jg_tup {K : PySem.W.Frag} {F : Hp} {a : Addr} {vs : List V} {ds : List D} (s : SqT K F a vs) (f : FdAll K F vs ds) : JG K F (Itt K a) ds := fun F' H e1 e2 => by
  have s2 : SqT K H a vs := ex_t (e1.tr e2) s
  refine ⟨fun i hi => ?_, ⟨vs, s2, by rw [f.length]; exact Nat.le_refl _⟩, fun i d x H' hd hy => ?_⟩
  · have q : i < vs.length := by rw [f.length]; exact hi
    exact ⟨vs, vs[i], s2, List.getElem?_eq_getElem q⟩
  · obtain ⟨rfl, h⟩ := hy
    obtain ⟨v, h1, h2⟩ := f.get hd
    have e := h vs s2
    rw [h1] at e
    cases e
    exact ⟨F', .rf e2, h2.mono e1⟩
theorem it_list {tg : Expr} {ds : List D} (h : Px X e g l (.lst ds)) : Itw X tg e g l ds := ⟨_, pi_list pe_wp, fun en T σ H R s k => h en T σ H _ s fun v H1 s1 => by
  obtain ⟨F, M, q⟩ := s1
  obtain ⟨f, t⟩ := q.tm
  cases f with
  | lst sq a => exact ⟨_, rfl, ⟨_, SqL.of (q.exF _ _ sq)⟩, k _ H1 F M (q.tmp t) (jg_list (SqL.of sq) a)⟩⟩
theorem it_scr {tg : Expr} {ds : List D} (h : Px X e g l (.scr ds)) : Itw X tg e g l ds := ⟨_, pi_list pe_wp, fun en T σ H R s k => h en T σ H _ s fun v H1 s1 => by
  obtain ⟨F, M, q⟩ := s1
  obtain ⟨f, t⟩ := q.tm
  cases f with
  | scr sq a => exact ⟨_, rfl, ⟨_, ex_l q.exF sq⟩, k _ H1 F M (q.tmp t) (jg_list sq a)⟩⟩
theorem it_tup {tg : Expr} {ds : List D} (h : Px X e g l (.tup ds)) : Itw X tg e g l ds := ⟨_, pi_tup pe_wp, fun en T σ H R s k => h en T σ H _ s fun v H1 s1 => by
  obtain ⟨F, M, q⟩ := s1
  obtain ⟨f, t⟩ := q.tm
  cases f with
  | tup sq a => exact ⟨_, rfl, ⟨_, ex_t q.exF sq⟩, k _ H1 F M (q.tmp t) (jg_tup sq a)⟩⟩
def rng (lo : Int) (n : Nat) : List D := (List.range n).map fun i : Nat => D.int (lo + (i : Int))
theorem rng_len {lo : Int} {n : Nat} : (rng lo n).length = n := by unfold rng; rw [List.length_map, List.length_range]
theorem rng_get {lo : Int} {n i : Nat} {d : D} (h : (rng lo n)[i]? = some d) : i < n ∧ d = .int (lo + (i : Int)) := by
  unfold rng at h
  rw [List.getElem?_map] at h
  cases q : (List.range n)[i]? with
  | none => rw [q] at h; cases h
  | some j =>
    rw [q] at h
    obtain ⟨h1, h2⟩ := List.getElem?_eq_some_iff.mp q
    rw [List.length_range] at h1
    rw [List.getElem_range] at h2
    subst h2
    exact ⟨h1, (Option.some.inj h).symm⟩
theorem jg_range {K : PySem.W.Frag} {F : Hp} {lo : Int} {n : Nat} : JG K F (L2.Itr lo n) (rng lo n) := fun F' H e1 e2 => by
  refine ⟨fun i hi => by rw [rng_len] at hi; exact hi, by show n ≤ _; rw [rng_len]; exact Nat.le_refl _, fun i d x H' hd hy => ?_⟩
  obtain ⟨rfl, rfl⟩ := hy
  obtain ⟨_, rfl⟩ := rng_get hd
  exact ⟨F', .rf e2, .int _⟩
theorem it_range {tg : Expr} {j : Int} {pp : Pos} (h : Px X e g l (.int j)) (h1 : -(2 ^ 62) ≤ j) (h2 : j < 2 ^ 62) (hm : X.mg "range" = none) (hg : Gl X "range" := by rfl) (hs : starEach [e] X.env = [(false, eval e X.env)] := by rfl) : Itw X tg (.Call (.Name "range" p) [e] [] pp) g l (rng 0 j.toNat) :=
  ⟨_, pi_range1 hg hm (pa_wp (es := [e])) hs, fun en T σ H R s k => pa_c h pa_n hs en T σ H _ s fun vs H1 s1 => by
  obtain ⟨F, M, q⟩ := s1
  obtain ⟨f, t⟩ := q.tm
  cases f with
  | cons a b =>
    cases a; cases b
    exact ⟨j, rfl, h1, h2, k _ H1 F M (q.tmp t) jg_range⟩⟩
theorem it_range2 {tg : Expr} {i j : Int} {pp : Pos} (h : Px X e g l (.int i)) (h' : Px X e2 g l (.int j)) (h1 : -(2 ^ 62) ≤ i ∧ i < 2 ^ 62 ∧ -(2 ^ 62) ≤ j ∧ j < 2 ^ 62) (hm : X.mg "range" = none) (hg : Gl X "range" := by rfl)
    (hs : starEach [e, e2] X.env = [(false, eval e X.env), (false, eval e2 X.env)] := by rfl) (hs2 : starEach [e2] X.env = [(false, eval e2 X.env)] := by rfl) : Itw X tg (.Call (.Name "range" p) [e, e2] [] pp) g l (rng i (j - i).toNat) :=
  ⟨_, pi_range2 hg hm (pa_wp (es := [e, e2])) hs hs2, fun en T σ H R s k => pa_c h (pa_c h' pa_n hs2) (by rw [hs, hs2]) en T σ H _ s fun vs H1 s1 => by
  obtain ⟨F, M, q⟩ := s1
  obtain ⟨f, t⟩ := q.tm
  cases f with
  | cons a b =>
    cases b with
    | cons b c =>
      cases a; cases b; cases c
      exact ⟨i, j, rfl, h1, k _ H1 F M (q.tmp t) jg_range⟩⟩
/-- pairs of a number and an item -/
def enumD (ds : List D) : List D := ds.zipIdx.map fun q => D.tup [.int (q.2 : Nat), q.1]
theorem enumD_len {ds : List D} : (enumD ds).length = ds.length := by unfold enumD; rw [List.length_map, List.length_zipIdx]
theorem enumD_get {ds : List D} {i : Nat} {d : D} (h : (enumD ds)[i]? = some d) : ∃ d', ds[i]? = some d' ∧ d = .tup [.int (i : Nat), d'] := by
  unfold enumD at h
  rw [List.getElem?_map, List.getElem?_zipIdx] at h
  cases q : ds[i]? with
  | none => rw [q] at h; cases h
  | some d' =>
    rw [q] at h
    refine ⟨d', rfl, ?_⟩
    have e := Option.some.inj h
    rw [← e]
    simp
theorem jg_enum {K : PySem.W.Frag} {F : Hp} {a : Addr} {vs : List V} {ds : List D} (s : SqL K F a vs) (f : FdAll K F vs ds) : JG K F (Ite K a) (enumD ds) := fun F' H e1 e2 => by
  have s2 : SqL K H a vs := ex_l (e1.tr e2) s
  refine ⟨fun i hi => ?_, ⟨vs, s2, by rw [enumD_len, f.length]; exact Nat.le_refl _⟩, fun i d x H' hd hy => ?_⟩
  · have q : i < vs.length := by rw [f.length]; rw [enumD_len] at hi; exact hi
    exact ⟨vs, vs[i], s2, List.getElem?_eq_getElem q⟩
  · obtain ⟨T, y, rfl, hT, rfl, h⟩ := hy
    obtain ⟨d', hd', rfl⟩ := enumD_get hd
    obtain ⟨v, h1, h2⟩ := f.get hd'
    have e := Option.some.inj (h1.symm.trans (h vs s2))
    subst e
    have n := New.upd (o := .tup [.int (i : Nat), v]) e2 hT
    exact ⟨_, n, .tup (SqT.of upd_same) (.cons (.int _) (.cons (h2.mono (e1.tr n.f)) .nil))⟩
theorem it_enum {elts : List Expr} {kk : Nat} {tpos pp : Pos} {ds : List D} (h : Px X e g l (.lst ds)) (hm : X.mg "enumerate" = none) (hg : Gl X "enumerate" := by rfl) (hs : starEach [e] X.env = [(false, eval e X.env)] := by rfl) : Itw X (.Tuple elts kk tpos) (.Call (.Name "enumerate" p) [e] [] pp) g l (enumD ds) :=
  ⟨_, pi_enum hg hm (pa_wp (es := [e])) hs, fun en T σ H R s k => pa_c h pa_n hs en T σ H _ s fun vs H1 s1 => by
  obtain ⟨F, M, q⟩ := s1
  obtain ⟨f, t⟩ := q.tm
  cases f with
  | cons a b =>
    cases b
    cases a with
    | lst sq a => exact ⟨_, _, rfl, SqL.of (q.exF _ _ sq), k _ H1 F M (q.tmp t) (jg_enum (SqL.of sq) a)⟩⟩
def zipD (ds es : List D) : List D := (ds.zip es).map fun q => D.tup [q.1, q.2]
theorem zipD_len {ds es : List D} : (zipD ds es).length = min ds.length es.length := by unfold zipD; rw [List.length_map, List.length_zip]
theorem zipD_get {ds es : List D} {i : Nat} {d : D} (h : (zipD ds es)[i]? = some d) : ∃ a b, ds[i]? = some a ∧ es[i]? = some b ∧ d = .tup [a, b] := by
  unfold zipD at h
  rw [List.getElem?_map] at h
  cases q : (ds.zip es)[i]? with
  | none => rw [q] at h; cases h
  | some r =>
    rw [q] at h
    obtain ⟨h1, h2⟩ := List.getElem?_zip_eq_some.mp q
    exact ⟨r.1, r.2, h1, h2, (Option.some.inj h).symm⟩
theorem jg_zip {K : PySem.W.Frag} {F : Hp} {a b : Addr} {vs ws : List V} {ds es : List D} (s : SqL K F a vs) (f : FdAll K F vs ds) (s' : SqL K F b ws) (f' : FdAll K F ws es) : JG K F (Itz K a b) (zipD ds es) := fun F' H e1 e2 => by
  have s2 : SqL K H a vs := ex_l (e1.tr e2) s
  have s3 : SqL K H b ws := ex_l (e1.tr e2) s'
  refine ⟨fun i hi => ?_, ⟨vs, ws, s2, s3, by rw [zipD_len, f.length, f'.length]; omega⟩, fun i d x H' hd hy => ?_⟩
  · rw [zipD_len] at hi
    have q : i < vs.length := by rw [f.length]; omega
    have q' : i < ws.length := by rw [f'.length]; omega
    exact ⟨vs, ws, vs[i], ws[i], s2, s3, List.getElem?_eq_getElem q, List.getElem?_eq_getElem q'⟩
  · obtain ⟨T, y, z, rfl, hT, rfl, h, h'⟩ := hy
    obtain ⟨a', b', ha, hb, rfl⟩ := zipD_get hd
    obtain ⟨v, h1, h2⟩ := f.get ha
    obtain ⟨v', h1', h2'⟩ := f'.get hb
    have e := Option.some.inj (h1.symm.trans (h vs s2))
    subst e
    have e := Option.some.inj (h1'.symm.trans (h' ws s3))
    subst e
    have n := New.upd (o := .tup [v, v']) e2 hT
    exact ⟨_, n, .tup (SqT.of upd_same) (.cons (h2.mono (e1.tr n.f)) (.cons (h2'.mono (e1.tr n.f)) .nil))⟩
theorem it_zip {elts : List Expr} {kk : Nat} {tpos pp : Pos} {ds es' : List D} (h : Px X e g l (.lst ds)) (h' : Px X e2 g l (.lst es')) (hm : X.mg "zip" = none) (hg : Gl X "zip" := by rfl) (hs : starEach [e, e2] X.env = (false, eval e X.env) :: starEach [e2] X.env := by rfl) (hs2 : starEach [e2] X.env = [(false, eval e2 X.env)] := by rfl)
    (hpl : (backTo pp (starEach [e2] X.env)).any (·.1) = false := by rfl) : Itw X (.Tuple elts kk tpos) (.Call (.Name "zip" p) [e, e2] [] pp) g l (zipD ds es') :=
  ⟨_, pi_zip hg hm (pa_wp (es := [e, e2])) hs hpl, fun en T σ H R s k => pa_c h (pa_c h' pa_n hs2) hs en T σ H _ s fun vs H1 s1 => by
  obtain ⟨F, M, q⟩ := s1
  obtain ⟨f, t⟩ := q.tm
  cases f with
  | cons a b =>
    cases b with
    | cons b c =>
      cases c
      cases a with
      | lst sq a =>
        cases b with
        | lst sq' b => exact ⟨_, _, _, _, rfl, SqL.of (q.exF _ _ sq), SqL.of (q.exF _ _ sq'), k _ H1 F M (q.tmp t) (jg_zip (SqL.of sq) a (SqL.of sq') b)⟩⟩
/-- text, sign by sign -/
def signs (x : Str) : List D := x.cps.toList.map fun c => D.str ⟨#[c]⟩
theorem it_str {tg : Expr} {x : Str} (h : Px X e g l (.str x)) : Itw X tg e g l (signs x) := ⟨_, pi_str pe_wp, fun en T σ H R s k => h en T σ H _ s fun v H1 s1 => by
  obtain ⟨F, M, q⟩ := s1
  obtain ⟨f, t⟩ := q.tm
  cases f
  refine ⟨x, rfl, k _ H1 F M (q.tmp t) fun F' H' e1 e2 => ?_⟩
  have el : (signs x).length = x.cps.size := by unfold signs; rw [List.length_map, Array.length_toList]
  refine ⟨fun i hi => by rw [el] at hi; exact hi, by show x.cps.size ≤ _; rw [el]; exact Nat.le_refl _, fun i d y H'' hd hy => ?_⟩
  obtain ⟨rfl, c, hc, rfl⟩ := hy
  unfold signs at hd
  rw [List.getElem?_map, Array.getElem?_toList, hc] at hd
  cases hd
  exact ⟨F', .rf e2, .str _⟩⟩
/-- for target in ..: body -/
theorem blk_for {tg iter : Expr} {body : List Stmt} {gt : TG} {is : List Nat} {ds : List D} (I : Nat → Gm → List Res → Prop) (hp : PassesOwn (model X.prog X.w) X.A X.env X.xe) (hc : X.calm = true) (hi : Itw X tg iter g l ds) (hg : PG X tg gt) (h0 : I 0 g l)
    (hs : ∀ i d g' l', ds[i]? = some d → I i g' l' → ∃ es, Tg X.K gt is d es ∧ Blk X W body (sets g' is es) l' { nx := I (i + 1), ct := I (i + 1), bk := fun g2 l2 => Blk X W rest g2 l2 Φ, rt := Φ.rt, ex := Φ.ex })
    (hd : ∀ g' l', I ds.length g' l' → Blk X W rest g' l' Φ) (hf : ∀ x, foldedSetIterable iter X.env x = pure x := by intro _; rfl) : Blk X W (.For tg iter body [] pos :: rest) g l Φ := fun en T σ H D s m => by
  obtain ⟨wi, pi, hw⟩ := hi
  refine wpS_of (pss_cons (ps_for hp hc pi hg pss_wp hf) pss_wp) ?_
  refine hw en T σ H _ s fun J H1 F0 M0 q0 jg => ?_
  refine ⟨fun i m σ' H' => i + m = ds.length ∧ ∃ g' l', I i g' l' ∧ S X.K en g' (T.ex F0) l' σ' H', ⟨ds.length, by simp, g, l, h0, F0, M0, q0.tmp ⟨.rf, q0.tm⟩⟩, fun i n σ' H' hW => ?_⟩
  obtain ⟨em, g', l', hI, F, M, q⟩ := hW
  obtain ⟨jgo, jst, jy⟩ := jg F H' q.tm.1 q.exF
  cases n with
  | zero =>
    have e : i = ds.length := by omega
    subst e
    exact .inl ⟨jst, hd g' l' hI en T σ' H' D ⟨F, M, q.tmp q.tm.2⟩ m⟩
  | succ n =>
    have hi : i < ds.length := by omega
    refine .inr ⟨jgo i hi, fun σ2 H2 => ∃ g2 l2, I (i + 1) g2 l2 ∧ S X.K en g2 (T.ex F0) l2 σ2 H2, fun σ2 H2 ⟨g2, l2, h1, h2⟩ => ⟨n, by omega, by omega, g2, l2, h1, h2⟩, fun x H2 hy => ?_⟩
    obtain ⟨es, htg, hb⟩ := hs i ds[i] g' l' (List.getElem?_eq_getElem hi) hI
    obtain ⟨F2, nw, fx⟩ := jy i ds[i] x H2 (List.getElem?_eq_getElem hi) hy
    have q2 := q.new nw
    refine htg F2 H2 x σ' _ q2.exF fx fun vs fvs => ?_
    refine hb en (T.ex F0) _ H2 _ ⟨F2, M, q2.slots (q2.sl.sets fvs)⟩ ⟨fun g2 l2 σ2 H2 h s2 => ⟨g2, l2, h, s2⟩, fun d l v H h s2 => ?_, fun g2 l2 σ2 H2 h s2 => ?_, fun g2 l2 σ2 H2 h s2 => ⟨g2, l2, h, s2⟩, fun cls d g l σ H h s2 => ?_⟩
    · obtain ⟨F, M, q⟩ := s2
      exact m.rt d l v H h ⟨F, M, q.tmp ⟨q.tm.1, q.tm.2.2⟩⟩
    · obtain ⟨F, M, q⟩ := s2
      exact h en T σ2 H2 D ⟨F, M, q.tmp q.tm.2⟩ m
    · obtain ⟨F, M, q⟩ := s2
      exact m.ex cls d g l σ H h ⟨F, M, q.tmp q.tm.2⟩
/-- while -/
theorem blk_while {c : Expr} {body : List Stmt} (I : Nat → Gm → List Res → Prop) (hp : PassesOwn (model X.prog X.w) X.A X.env X.xe) (n0 : Nat) (h0 : I n0 g l)
    (hs : ∀ n g' l', I n g' l' → ∃ b, Ts X c g' l' b ∧ (b = true → Blk X W body g' l' { nx := fun g2 l2 => ∃ m, m < n ∧ I m g2 l2, ct := fun g2 l2 => ∃ m, m < n ∧ I m g2 l2, bk := fun g2 l2 => Blk X W rest g2 l2 Φ, rt := Φ.rt, ex := Φ.ex }) ∧ (b = false → Blk X W rest g' l' Φ)) :
    Blk X W (.While c body [] pos :: rest) g l Φ := fun en T σ H D s m => by
  refine wpS_of (pss_cons (ps_while hp pt_wp pss_wp) pss_wp) ?_
  refine ⟨fun n σ' H' => ∃ g' l', I n g' l' ∧ S X.K en g' T l' σ' H', ⟨n0, g, l, h0, s⟩, fun n σ' H' hW => ?_⟩
  obtain ⟨g', l', hI, s'⟩ := hW
  obtain ⟨b, hc, h1, h2⟩ := hs n g' l' hI
  refine hc en T σ' H' _ s' fun H2 s2 => ?_
  cases b with
  | true =>
    refine ⟨fun σ2 H2 => ∃ k, k < n ∧ ∃ g2 l2, I k g2 l2 ∧ S X.K en g2 T l2 σ2 H2, fun σ2 H2 h => h, ?_⟩
    refine h1 rfl en T σ' H2 _ s2 ⟨fun g2 l2 σ2 H2 ⟨k, hk, h⟩ s2 => ⟨k, hk, g2, l2, h, s2⟩, m.rt, fun g2 l2 σ2 H2 h s2 => h en T σ2 H2 D s2 m, fun g2 l2 σ2 H2 ⟨k, hk, h⟩ s2 => ⟨k, hk, g2, l2, h, s2⟩, m.ex⟩
  | false => exact h2 rfl en T σ' H2 D s2 m
end
end Sx
set_option Elab.async false
set_option linter.all false
set_option maxRecDepth 100000
set_option maxHeartbeats 2000000
/-! List comprehensions. -/
namespace Sx
open PySem L2

theorem wipe_at {σ : L2.St} {j : Nat} : ∀ {vs : List Nat}, (wipe σ vs)[j]? = if j ∈ vs then (σ[j]?).map (fun _ => none) else σ[j]?
  | [] => by simp [wipe]
  | v :: vs => by
    unfold wipe
    by_cases e : v = j
    · subst e
      rw [if_pos List.mem_cons_self]
      by_cases h : v < σ.length
      · rw [List.getElem?_set_self (by rw [wipe_length]; exact h), List.getElem?_eq_getElem h]; rfl
      · rw [List.getElem?_eq_none (by rw [List.length_set, wipe_length]; omega), List.getElem?_eq_none (by omega)]; rfl
    · rw [List.getElem?_set_ne e, wipe_at (vs := vs)]
      have q : j ∈ v :: vs ↔ j ∈ vs := by
        rw [List.mem_cons]
        exact ⟨fun h => h.elim (fun z => absurd z.symm e) id, .inr⟩
      by_cases z : j ∈ vs
      · rw [if_pos z, if_pos (q.mpr z)]
      · rw [if_neg z, if_neg (fun y => z (q.mp y))]
theorem wipe_set {σ : L2.St} {vs : List Nat} {i : Nat} {x : Option V} (h : i ∈ vs) : wipe (σ.set i x) vs = wipe σ vs := by
  apply List.ext_getElem?
  intro j
  rw [wipe_at, wipe_at]
  by_cases z : j ∈ vs
  · rw [if_pos z, if_pos z]
    by_cases e : i = j
    · subst e
      by_cases q : i < σ.length
      · rw [List.getElem?_set_self q, List.getElem?_eq_getElem q]; rfl
      · rw [List.getElem?_eq_none (by rw [List.length_set]; omega), List.getElem?_eq_none (by omega)]
    · rw [List.getElem?_set_ne e]
  · rw [if_neg z, if_neg z]
    rw [List.getElem?_set_ne (fun e => z (by rw [← e]; exact h))]
theorem wipe_wipe {σ : L2.St} {vs : List Nat} : wipe (wipe σ vs) vs = wipe σ vs := by
  apply List.ext_getElem?
  intro j
  rw [wipe_at, wipe_at]
  by_cases z : j ∈ vs
  · rw [if_pos z, if_pos z]; cases σ[j]? <;> rfl
  · rw [if_neg z, if_neg z]
theorem wipe_sets {vs : List Nat} : ∀ {is : List Nat} {ws : List V} {σ : L2.St}, (∀ i ∈ is, i ∈ vs) → wipe (setsV σ is ws) vs = wipe σ vs
  | [], _, _, _ => by unfold setsV; rfl
  | _ :: _, [], _, _ => by unfold setsV; rfl
  | i :: is, w :: ws, σ, h => by
    unfold setsV
    rw [wipe_sets (is := is) fun j hj => h j (List.mem_cons_of_mem _ hj), wipe_set (h i List.mem_cons_self)]
def wipeG (g : Gm) : List Nat → Gm
  | [] => g
  | v :: vs => (wipeG g vs).set v none
theorem Sl.wipe {K : PySem.W.Frag} {F : Hp} {g : Gm} {σ : L2.St} (h : Sl K F g σ) : ∀ vs, Sl K F (wipeG g vs) (L2.wipe σ vs)
  | [] => h
  | v :: vs => by
    unfold wipeG L2.wipe
    exact (Sl.wipe h vs).clear v
section
variable {X : Cx} {W : WX} {g g' : Gm} {l l' : List Res} {Φ : Po} {e e2 a b c o : Expr} {es : List Expr} {d d1 d2 d3 : D} {pos p p2 : Pos} {rest : List Stmt}
/-- a part that is owned and not touched -/
theorem S.fr {K : PySem.W.Frag} {en : En} {T : Tm} {r : Res} {σ : L2.St} {H : Hp} (s : S K en g T (r :: l) σ H) : ∃ en', S K en' g T l σ H ∧ ∀ {T' : Tm} {H' : Hp} {g' : Gm} {σ' : L2.St}, S K en' g' T' l σ' H' → S K en g' T' (r :: l) σ' H' := by
  obtain ⟨F, M, q⟩ := s
  obtain ⟨A, B, rfl, dj, p, rs⟩ := q.rs
  refine ⟨⟨F, B, H⟩, ⟨F, B, At.entry q.exF (q.exM.joinR dj) (Dj.r dj q.dj.sym).sym q.sl q.tm rs⟩, fun {T'} {H'} {g'} {σ'} ⟨F2, M2, b⟩ => ?_⟩
  have e : join A B = join B A := dj.comm
  rw [e] at q
  have z := q.frame (lB := [r]) dj.sym ⟨A, emp, (join_emp A).symm, Dj.emp A, p, rfl⟩ b
  have z2 : At K en g' T' (l ++ [r]) σ' H' F2 (join M2 A) := (z.tmp b.tm).slots b.sl
  exact S.perm (List.perm_append_singleton r l) ⟨F2, _, z2⟩
theorem Px.fr {r : Res} (h : Px X e g l d) : Px X e g (r :: l) d := fun en T σ H Q s k => by
  obtain ⟨en', s', back⟩ := s.fr
  exact h en' T σ H Q s' fun v H' s2 => k v H' (back s2)
theorem Ts.fr {r : Res} {k : Bool} (h : Ts X e g l k) : Ts X e g (r :: l) k := fun en T σ H Q s kk => by
  obtain ⟨en', s', back⟩ := s.fr
  exact h en' T σ H Q s' fun H' s2 => kk H' (back s2)
/-- the slots as they stood -/
def Tm.sl (K : PySem.W.Frag) (T : Tm) (g : Gm) (σ : L2.St) : Tm := ⟨fun F => Sl K F g σ ∧ T.P F, fun e h => ⟨h.1.mono e, T.mono e h.2⟩⟩
/-- what is kept -/
def keepL (rs : List (Option D)) : List D := rs.filterMap id
theorem keepL_some {rs : List D} : keepL (rs.map some) = rs := by
  unfold keepL
  rw [List.filterMap_map]
  show List.filterMap (fun x => some x) rs = rs
  rw [List.filterMap_some]
theorem keepL_len {rs : List (Option D)} : (keepL rs).length ≤ rs.length := List.length_filterMap_le _ _
abbrev Blkc (X : Cx) (scope : Scope) (Pp : Cx → Prop) : Prop := ∀ (s : Shared) (H : Hp) (C : Addr) (cl : List (Str × Addr)) (fp : List Addr), Pp (X.blk s H scope (compEnvC scope cl C X.env) fp)
/-- the reading of a comprehension -/
theorem lc_read {own : List (Str × Nat)} {gt : TG} {is : List Nat} {ds : List D} {rs : List (Option D)} {wi : TI} {te : TE} {tt : TT}
    (hw : ∀ en T σ H (R : It → Hp → Prop), S X.K en g T l σ H → (∀ J H1 F M, At X.K en g T l σ H1 F M → JG X.K F J ds → R J H1) → wi σ H R)
    (his : ∀ i ∈ is, i ∈ own.map (·.2)) (hlen : rs.length = ds.length) (hz : rs.length ≤ sizeLine)
    (hs : ∀ (i : Nat) (d : D), ds[i]? = some d → ∃ es k r, Tg X.K gt is d es ∧ rs[i]? = some (if k = true then some r else none) ∧
      (∀ r0 en T σ H (Q : Bool → Hp → Prop), S X.K en (sets (wipeG g (own.map (·.2))) is es) T (r0 :: l) σ H → (∀ H', S X.K en (sets (wipeG g (own.map (·.2))) is es) T (r0 :: l) σ H' → Q k H') → tt σ H Q) ∧
      (k = true → ∀ r0 en T σ H (Q : VK), S X.K en (sets (wipeG g (own.map (·.2))) is es) T (r0 :: l) σ H → (∀ v H', S X.K en (sets (wipeG g (own.map (·.2))) is es) (T.and X.K v r) (r0 :: l) σ H' → Q v H') → te σ H Q))
    {en : En} {T : Tm} {σ : L2.St} {H : Hp} {Q : VK} (s : S X.K en g T l σ H) (kk : ∀ p H', S X.K en g T (ownL X.K p (keepL rs) :: l) σ H' → Q (.ref p) H') : tLc wi gt tt te (own.map (·.2)) σ H Q := by
  refine hw en T σ H _ s fun J H1 F0 M0 q0 jg => ?_
  intro Dl hD
  refine ⟨fun i m H' => i + m = ds.length ∧ S X.K en (wipeG g (own.map (·.2))) ((T.sl X.K g σ).ex F0) (ownL X.K Dl (keepL (rs.take i)) :: l) (L2.wipe σ (own.map (·.2))) H', ⟨ds.length, by simp, ?_⟩, fun i m H' hW => ?_⟩
  · have q1 := q0.newO (r := ownL X.K Dl []) (A := one Dl (.lst [])) (H' := upd H1 Dl (.lst [])) (.new hD) (fun x o z => by obtain ⟨rfl, rfl⟩ := one_some z; exact upd_same) (fun x o z => by obtain ⟨rfl, rfl⟩ := one_some z; exact hD) ⟨[], .nil, rfl⟩
    rw [List.take_zero]
    exact ⟨F0, _, (q1.tmp (T' := (T.sl X.K g σ).ex F0) ⟨.rf, q0.sl, q0.tm⟩).slots (q0.sl.wipe _)⟩
  · obtain ⟨em, F, M, q⟩ := hW
    obtain ⟨jgo, jst, jy⟩ := jg F H' q.tm.1 q.exF
    cases m with
    | zero =>
      have e : i = ds.length := by omega
      subst e
      refine .inl ⟨jst, kk Dl H' ⟨F, M, ?_⟩⟩
      rw [List.take_of_length_le (by omega)] at q
      exact (q.tmp (T' := T) q.tm.2.2).slots q.tm.2.1
    | succ m =>
      have hi : i < ds.length := by omega
      refine .inr ⟨jgo i hi, fun H2 => S X.K en (wipeG g (own.map (·.2))) ((T.sl X.K g σ).ex F0) (ownL X.K Dl (keepL (rs.take (i + 1))) :: l) (L2.wipe σ (own.map (·.2))) H2, fun H2 h => ⟨m, by omega, by omega, h⟩, fun x H2 hy => ?_⟩
      obtain ⟨es, b, r, htg, hr, ht, he⟩ := hs i ds[i] (List.getElem?_eq_getElem hi)
      obtain ⟨F2, nw, fx⟩ := jy i ds[i] x H2 (List.getElem?_eq_getElem hi) hy
      have q2 := q.new nw
      refine htg F2 H2 x _ _ q2.exF fx fun vs fvs => ?_
      refine ⟨by rw [wipe_sets his, wipe_wipe], ?_⟩
      have et : rs.take (i + 1) = rs.take i ++ [if b = true then some r else none] := by
        rw [List.take_add_one, hr]; rfl
      refine ht _ en ((((T.sl X.K g σ).ex F0)).sl X.K (wipeG g (own.map (·.2))) (L2.wipe σ (own.map (·.2)))) _ H2 _ ⟨F2, M, (q2.tmp (T' := (((T.sl X.K g σ).ex F0)).sl X.K (wipeG g (own.map (·.2))) (L2.wipe σ (own.map (·.2)))) ⟨q2.sl, q2.tm⟩).slots (q2.sl.sets fvs)⟩ fun H3 s3 => ?_
      cases b with
      | false =>
        show S X.K en _ _ _ _ H3
        obtain ⟨F3, M3, q3⟩ := s3
        rw [et]
        have e2 : keepL (rs.take i ++ [if false = true then some r else none]) = keepL (rs.take i) := by
          unfold keepL
          rw [List.filterMap_append]
          show _ ++ [] = _
          rw [List.append_nil]
        rw [e2]
        exact ⟨F3, M3, (q3.tmp q3.tm.2).slots q3.tm.1⟩
      | true =>
        show te _ H3 _
        refine he rfl _ en _ _ H3 _ s3 fun v H4 s4 => ?_
        obtain ⟨F4, M4, q4⟩ := s4
        obtain ⟨ws, fw, hp⟩ := q4.rs.own (k := 0) rfl q4.exM
        refine ⟨ws, hp, ?_, ?_⟩
        · rw [fw.length]
          have h1 := keepL_len (rs := rs.take i)
          rw [List.length_take] at h1
          omega
        · obtain ⟨M5, q5⟩ := (q4.tmp q4.tm.2).putL (k := 0) rfl (fw.app (.cons q4.tm.1 .nil))
          rw [et]
          have e2 : keepL (rs.take i ++ [if true = true then some r else none]) = keepL (rs.take i) ++ [r] := by
            unfold keepL
            rw [List.filterMap_append]
            rfl
          rw [e2]
          exact ⟨F4, M5, (q5.tmp q5.tm.2).slots q5.tm.1⟩
def teB (X : Cx) (scope : Scope) (e : Expr) : TE := fun σ H Q => Blkc X scope fun Y => wpE Y e σ H Q
def ttB (X : Cx) (scope : Scope) (e : Expr) : TT := fun σ H Q => Blkc X scope fun Y => wpT Y e σ H Q
theorem teB_pe {scope : Scope} : ∀ (s : Shared) (H : Hp) (C : Addr) (cl : List (Str × Addr)) (fp : List Addr), PE (X.blk s H scope (compEnvC scope cl C X.env) fp) e (teB X scope e) := fun s H C cl fp => ⟨fun pins s' σ H' Q I h => h s H C cl fp pins s' I⟩
theorem ttB_pt {scope : Scope} : ∀ (s : Shared) (H : Hp) (C : Addr) (cl : List (Str × Addr)) (fp : List Addr), PT (X.blk s H scope (compEnvC scope cl C X.env) fp) e (ttB X scope e) := fun s H C cl fp => ⟨fun pins s' σ H' Q I h => h s H C cl fp pins s' I⟩
/-- [elt for tg in iter], a new list -/
theorem ev_lc {tg iter elt : Expr} {scope : Scope} {own : List (Str × Nat)} {gt : TG} {is : List Nat} {ds rs : List D} (hc : X.calm = true) (hN : X.N.Nodup) (hi : Itw X tg iter g l ds) (ok : BlkOk X.N X.env.scope scope own)
    (hg : Blkc X scope fun Y => PG Y tg gt) (his : ∀ i ∈ is, i ∈ own.map (·.2)) (hlen : rs.length = ds.length) (hz : rs.length ≤ sizeLine)
    (hs : ∀ (i : Nat) (d : D), ds[i]? = some d → ∃ es r, Tg X.K gt is d es ∧ rs[i]? = some r ∧ Blkc X scope fun Y => Px Y elt (sets (wipeG g (own.map (·.2))) is es) l r) (hf : ∀ x, foldedSetIterable iter X.env x = pure x := by intro _; rfl) :
    Ev X (.ListComp elt [⟨tg, iter, [], 0⟩] scope pos) g l (fun d' l' => ∃ p, d' = .adr p ∧ l' = ownL X.K p rs :: l) := fun en T σ H Q s k => by
  obtain ⟨wi, pi, hw⟩ := hi
  refine wpE_of (pe_lc hc hN pi ok hg (fun _ _ _ _ _ => pts_nil) teB_pe hf) ?_
  refine lc_read (rs := rs.map some) hw his (by rw [List.length_map]; exact hlen) (by rw [List.length_map]; exact hz) (fun i d hd => ?_) s fun p H' s' => ?_
  · obtain ⟨es, r, h1, h2, h3⟩ := hs i d hd
    refine ⟨es, true, r, h1, by rw [List.getElem?_map, h2]; rfl, fun r0 en T σ H Q s kk => kk H s, fun _ r0 en T σ H Q s kk => ?_⟩
    intro s0 H0 C cl fp
    exact (h3 s0 H0 C cl fp).fr en T σ H Q s kk
  · rw [keepL_some] at s'
    obtain ⟨F, M, q⟩ := s'
    exact k _ _ _ H' ⟨p, rfl, rfl⟩ ⟨F, M, q.tmp ⟨.adr p, q.tm⟩⟩
theorem px_lc {tg iter elt : Expr} {scope : Scope} {own : List (Str × Nat)} {gt : TG} {is : List Nat} {ds rs : List D} (hc : X.calm = true) (hN : X.N.Nodup) (hi : Itw X tg iter g l ds) (ok : BlkOk X.N X.env.scope scope own)
    (hg : Blkc X scope fun Y => PG Y tg gt) (his : ∀ i ∈ is, i ∈ own.map (·.2)) (hlen : rs.length = ds.length) (hz : rs.length ≤ sizeLine)
    (hs : ∀ (i : Nat) (d : D), ds[i]? = some d → ∃ es r, Tg X.K gt is d es ∧ rs[i]? = some r ∧ Blkc X scope fun Y => Px Y elt (sets (wipeG g (own.map (·.2))) is es) l r) (hf : ∀ x, foldedSetIterable iter X.env x = pure x := by intro _; rfl) :
    Px X (.ListComp elt [⟨tg, iter, [], 0⟩] scope pos) g l (.lst rs) := (ev_lc hc hN hi ok hg his hlen hz hs hf).frz
/-- [elt for tg in iter if c] -/
theorem ev_lcIf {tg iter elt : Expr} {scope : Scope} {own : List (Str × Nat)} {gt : TG} {is : List Nat} {ds : List D} {rs : List (Option D)} (hc : X.calm = true) (hN : X.N.Nodup) (hi : Itw X tg iter g l ds) (ok : BlkOk X.N X.env.scope scope own)
    (hg : Blkc X scope fun Y => PG Y tg gt) (his : ∀ i ∈ is, i ∈ own.map (·.2)) (hlen : rs.length = ds.length) (hz : rs.length ≤ sizeLine)
    (hs : ∀ (i : Nat) (d : D), ds[i]? = some d → ∃ es k r, Tg X.K gt is d es ∧ rs[i]? = some (if k = true then some r else none) ∧ (Blkc X scope fun Y => Ts Y c (sets (wipeG g (own.map (·.2))) is es) l k) ∧ (k = true → Blkc X scope fun Y => Px Y elt (sets (wipeG g (own.map (·.2))) is es) l r)) (hf : ∀ x, foldedSetIterable iter X.env x = pure x := by intro _; rfl) :
    Ev X (.ListComp elt [⟨tg, iter, [c], 0⟩] scope pos) g l (fun d' l' => ∃ p, d' = .adr p ∧ l' = ownL X.K p (keepL rs) :: l) := fun en T σ H Q s k => by
  obtain ⟨wi, pi, hw⟩ := hi
  refine wpE_of (pe_lc hc hN pi ok hg (fun s H C cl fp => pts_one (ttB_pt s H C cl fp)) teB_pe hf) ?_
  refine lc_read (rs := rs) hw his hlen hz (fun i d hd => ?_) s fun p H' s' => ?_
  · obtain ⟨es, b, r, h1, h2, h3, h4⟩ := hs i d hd
    refine ⟨es, b, r, h1, h2, fun r0 en T σ H Q s kk => ?_, fun hb r0 en T σ H Q s kk => ?_⟩
    · intro s0 H0 C cl fp
      exact (h3 s0 H0 C cl fp).fr en T σ H Q s kk
    · intro s0 H0 C cl fp
      exact (h4 hb s0 H0 C cl fp).fr en T σ H Q s kk
  · obtain ⟨F, M, q⟩ := s'
    exact k _ _ _ H' ⟨p, rfl, rfl⟩ ⟨F, M, q.tmp ⟨.adr p, q.tm⟩⟩
theorem px_lcIf {tg iter elt : Expr} {scope : Scope} {own : List (Str × Nat)} {gt : TG} {is : List Nat} {ds : List D} {rs : List (Option D)} (hc : X.calm = true) (hN : X.N.Nodup) (hi : Itw X tg iter g l ds) (ok : BlkOk X.N X.env.scope scope own)
    (hg : Blkc X scope fun Y => PG Y tg gt) (his : ∀ i ∈ is, i ∈ own.map (·.2)) (hlen : rs.length = ds.length) (hz : rs.length ≤ sizeLine)
    (hs : ∀ (i : Nat) (d : D), ds[i]? = some d → ∃ es k r, Tg X.K gt is d es ∧ rs[i]? = some (if k = true then some r else none) ∧ (Blkc X scope fun Y => Ts Y c (sets (wipeG g (own.map (·.2))) is es) l k) ∧ (k = true → Blkc X scope fun Y => Px Y elt (sets (wipeG g (own.map (·.2))) is es) l r)) (hf : ∀ x, foldedSetIterable iter X.env x = pure x := by intro _; rfl) :
    Px X (.ListComp elt [⟨tg, iter, [c], 0⟩] scope pos) g l (.lst (keepL rs)) := (ev_lcIf hc hN hi ok hg his hlen hz hs hf).frz
/-- x = [..] on one line, x a local name -/
theorem blk_setLcX {tg iter elt : Expr} {ifs : List Expr} {scope : Scope} {own : List (Str × Nat)} {i : Nat} {y : Str} {py spos : Pos} {Psi : D → List Res → Prop} {wi : TI} {gt : TG} {tt : TT} {te : TE}
    (hps : PS X (.Assign [.Name y py] (.ListComp elt [⟨tg, iter, ifs, 0⟩] scope pos) spos) (tAsg (tLc wi gt tt te (own.map (·.2))) (gName i)))
    (hr : ∀ en T σ H (Q : VK), S X.K en g T l σ H → (∀ v d l' H', Psi d l' → S X.K en g (T.and X.K v d) l' σ H' → Q v H') → tLc wi gt tt te (own.map (·.2)) σ H Q)
    (h : ∀ d l', Psi d l' → Blk X W rest (g.set i (some d)) l' Φ) : Blk X W (.Assign [.Name y py] (.ListComp elt [⟨tg, iter, ifs, 0⟩] scope pos) spos :: rest) g l Φ := fun en T σ H D s m => wpS_of (pss_cons hps pss_wp) (by
  show tLc wi gt tt te (own.map (·.2)) σ H (fun x H1 => gName i x σ H1 (wpS X rest D))
  refine hr en T σ H _ s fun v d l' H' p s' => ?_
  obtain ⟨F, M, a⟩ := s'
  exact h d l' p en T (σ.set i (some v)) H' D ⟨F, M, (a.tmp a.tm.2).slots (a.sl.set i a.tm.1)⟩ m)
theorem blk_setLcO {tg iter elt : Expr} {scope : Scope} {own : List (Str × Nat)} {gt : TG} {is : List Nat} {ds rs : List D} {i : Nat} {y : Str} {py spos : Pos} (hc : X.calm = true) (hN : X.N.Nodup) (hy : X.N[i]? = some y) (hyl : X.env.scope.names.lookup y = some .local)
    (hsw : swapsWith (.ListComp elt [⟨tg, iter, [], 0⟩] scope pos) (some (.Name y py)) spos.line X.env = pure true) (hi : Itw X tg iter g l ds) (ok : BlkOk X.N X.env.scope scope own)
    (hg : Blkc X scope fun Y => PG Y tg gt) (his : ∀ i ∈ is, i ∈ own.map (·.2)) (hlen : rs.length = ds.length) (hz : rs.length ≤ sizeLine)
    (hs : ∀ (i : Nat) (d : D), ds[i]? = some d → ∃ es r, Tg X.K gt is d es ∧ rs[i]? = some r ∧ Blkc X scope fun Y => Px Y elt (sets (wipeG g (own.map (·.2))) is es) l r)
    (h : ∀ p, Blk X W rest (g.set i (some (.adr p))) (ownL X.K p rs :: l) Φ) (hf : ∀ x, foldedSetIterable iter X.env x = pure x := by intro _; rfl) : Blk X W (.Assign [.Name y py] (.ListComp elt [⟨tg, iter, [], 0⟩] scope pos) spos :: rest) g l Φ := by
  obtain ⟨wi, pi, hw⟩ := hi
  refine blk_setLcX (Psi := fun d' l' => ∃ p, d' = .adr p ∧ l' = ownL X.K p rs :: l) (ps_setLc hc hN hy hyl hsw pi ok hg (fun _ _ _ _ _ => pts_nil) teB_pe hf) (fun en T σ H Q s k => ?_) fun d l' ⟨p, e1, e2⟩ => by subst e1; subst e2; exact h p
  refine lc_read (rs := rs.map some) hw his (by rw [List.length_map]; exact hlen) (by rw [List.length_map]; exact hz) (fun i d hd => ?_) s fun p H' s' => ?_
  · obtain ⟨es, r, h1, h2, h3⟩ := hs i d hd
    refine ⟨es, true, r, h1, by rw [List.getElem?_map, h2]; rfl, fun r0 en T σ H Q s kk => kk H s, fun _ r0 en T σ H Q s kk => ?_⟩
    intro s0 H0 C cl fp
    exact (h3 s0 H0 C cl fp).fr en T σ H Q s kk
  · rw [keepL_some] at s'
    obtain ⟨F, M, q⟩ := s'
    exact k _ _ _ H' ⟨p, rfl, rfl⟩ ⟨F, M, q.tmp ⟨.adr p, q.tm⟩⟩
theorem blk_setLcIfO {tg iter elt : Expr} {scope : Scope} {own : List (Str × Nat)} {gt : TG} {is : List Nat} {ds : List D} {rs : List (Option D)} {i : Nat} {y : Str} {py spos : Pos} (hc : X.calm = true) (hN : X.N.Nodup) (hy : X.N[i]? = some y) (hyl : X.env.scope.names.lookup y = some .local)
    (hsw : swapsWith (.ListComp elt [⟨tg, iter, [c], 0⟩] scope pos) (some (.Name y py)) spos.line X.env = pure true) (hi : Itw X tg iter g l ds) (ok : BlkOk X.N X.env.scope scope own)
    (hg : Blkc X scope fun Y => PG Y tg gt) (his : ∀ i ∈ is, i ∈ own.map (·.2)) (hlen : rs.length = ds.length) (hz : rs.length ≤ sizeLine)
    (hs : ∀ (i : Nat) (d : D), ds[i]? = some d → ∃ es k r, Tg X.K gt is d es ∧ rs[i]? = some (if k = true then some r else none) ∧ (Blkc X scope fun Y => Ts Y c (sets (wipeG g (own.map (·.2))) is es) l k) ∧ (k = true → Blkc X scope fun Y => Px Y elt (sets (wipeG g (own.map (·.2))) is es) l r))
    (h : ∀ p, Blk X W rest (g.set i (some (.adr p))) (ownL X.K p (keepL rs) :: l) Φ) (hf : ∀ x, foldedSetIterable iter X.env x = pure x := by intro _; rfl) : Blk X W (.Assign [.Name y py] (.ListComp elt [⟨tg, iter, [c], 0⟩] scope pos) spos :: rest) g l Φ := by
  obtain ⟨wi, pi, hw⟩ := hi
  refine blk_setLcX (Psi := fun d' l' => ∃ p, d' = .adr p ∧ l' = ownL X.K p (keepL rs) :: l) (ps_setLc hc hN hy hyl hsw pi ok hg (fun s H C cl fp => pts_one (ttB_pt s H C cl fp)) teB_pe hf) (fun en T σ H Q s k => ?_) fun d l' ⟨p, e1, e2⟩ => by subst e1; subst e2; exact h p
  refine lc_read (rs := rs) hw his hlen hz (fun i d hd => ?_) s fun p H' s' => ?_
  · obtain ⟨es, b, r, h1, h2, h3, h4⟩ := hs i d hd
    refine ⟨es, b, r, h1, h2, fun r0 en T σ H Q s kk => ?_, fun hb r0 en T σ H Q s kk => ?_⟩
    · intro s0 H0 C cl fp
      exact (h3 s0 H0 C cl fp).fr en T σ H Q s kk
    · intro s0 H0 C cl fp
      exact (h4 hb s0 H0 C cl fp).fr en T σ H Q s kk
  · obtain ⟨F, M, q⟩ := s'
    exact k _ _ _ H' ⟨p, rfl, rfl⟩ ⟨F, M, q.tmp ⟨.adr p, q.tm⟩⟩
end
end Sx
set_option Elab.async false
set_option linter.all false
set_option maxRecDepth 100000
set_option maxHeartbeats 2000000
/-! What a text's top has written; a law's own end. -/
namespace Sx
open PySem L2
/-- a def of the module | a method | a class | a class with its __init__ -/
def Dfn (K : PySem.W.Frag) (mg : Str → Option Value) (x : Str) (st : Stmt) : Prop := ∃ f fd, Fun K x x st f fd ∧ mg x = some (.ref f)
def Dmt (K : PySem.W.Frag) (C : Addr) (m qual : Str) (st : Stmt) : Prop := ∃ f fd, Fun K m qual st f fd ∧ Meth K C m f
def Din (K : PySem.W.Frag) (C : Addr) (qual : Str) (st : Stmt) : Prop := ∃ f fd, Fun K "__init__" qual st f fd ∧ Mk K C f
structure Dcl (K : PySem.W.Frag) (mg : Str → Option Value) (x : Str) (C : Addr) : Prop where
  mg : mg x = some (.ref C)
  cl : Cls K C
  kp : PySem.W.keepIn K (.ref C) = true
/-- an own class that isinstance may be asked about -/
structure Isi (K : PySem.W.Frag) (C : Addr) : Prop where
  (ha : PySem.W.findIn K (.ref C) "__class__" = some (some (.builtin "object.__class__"))) (hn : PySem.W.specialIn K (.builtin "object.__class__") "__get__" = some (some (.builtin "getset_descriptor.__get__")))
  (htk : PySem.W.takesIn K (.builtin "object.__class__") = some true) (hm : PySem.W.mroIn K C (.type "object") = some true)
section
variable {K : PySem.W.Frag} {h : Heap} {mg : Str → Option Value} {C f : Addr} {x m qual : Str} {st : Stmt} {oc kV doc pm cdv ct : Value} {od an : Option Addr} {osl : Array (Option Value)}
theorem dfn_mk (X : K.In h) (G : h.Ns mainGlobals mg) (a : PySem.W.nsIn K mainGlobals x = some (some (.ref f))) (l : K.lookup f = some ⟨oc, od, .func (PySem.W.fnOf x x (defArgs st) (defBody st) (defScope st) .none kV doc pm an cdv ct), osl⟩) (c : PySem.W.codeIn K cdv x = true) (k : PySem.W.keepIn K (.ref f) = true) : Dfn K mg x st :=
  ⟨f, _, fun_mk l c k, PySem.W.mg_of X G a⟩
theorem dmt_mk (a : PySem.W.findIn K (.ref C) m = some (some (.ref f))) (i : PySem.W.isFn K (.ref f) = true) (l : K.lookup f = some ⟨oc, od, .func (PySem.W.fnOf m qual (defArgs st) (defBody st) (defScope st) .none kV doc pm an cdv ct), osl⟩) (c : PySem.W.codeIn K cdv qual = true) (k : PySem.W.keepIn K (.ref f) = true) : Dmt K C m qual st :=
  ⟨f, _, fun_mk l c k, ⟨a, i, k⟩⟩
theorem din_mk (mk : PySem.W.makesIn K C = true) (kc : PySem.W.keepIn K (.ref C) = true) (a : PySem.W.findIn K (.ref C) "__init__" = some (some (.ref f))) (i : PySem.W.isFn K (.ref f) = true) (l : K.lookup f = some ⟨oc, od, .func (PySem.W.fnOf "__init__" qual (defArgs st) (defBody st) (defScope st) .none kV doc pm an cdv ct), osl⟩) (c : PySem.W.codeIn K cdv qual = true) (k : PySem.W.keepIn K (.ref f) = true) : Din K C qual st :=
  ⟨f, _, fun_mk l c k, ⟨mk, a, i, kc⟩⟩
theorem dcl_mk (X : K.In h) (G : h.Ns mainGlobals mg) (a : PySem.W.nsIn K mainGlobals x = some (some (.ref C))) (pg : PySem.W.plainGet K C Str.empty = true) (hd : PySem.W.hasDictIn K C = true) (po : PySem.W.plainOver K C = true) (sa : PySem.W.findIn K (.ref C) "__setattr__" = some (some (.builtin "object.__setattr__"))) (k : PySem.W.keepIn K (.ref C) = true) : Dcl K mg x C :=
  ⟨PySem.W.mg_of X G a, ⟨pg, hd, po, sa⟩, k⟩
end
section
variable {P : Program} {w : World} {K : PySem.W.Frag} {mg : Str → Option Value} {base : Heap} {k : Nat} {x m qual : Str} {st : Stmt} {ps : List Str} {sp : Sp} {C : Addr}
abbrev Bnd (x qual : Str) (st : Stmt) (ps : List Str) : Prop := ∀ (kV doc pm : Value) (an : Option Addr) (cdv ct : Value) (us : List Value), us.length = ps.length → bindArgs (PySem.W.fnOf x qual (defArgs st) (defBody st) (defScope st) .none kV doc pm an cdv ct) ⟨us, []⟩ = pure (ps.zip us)
theorem glo_of (d : Dfn K mg x st) (b : Bnd x x st ps) (h : ∀ f fd, Fun K x x st f fd → FnOk P w K mg base CX0 k f fd ps sp) : Glo P w K mg base k x ps sp := by
  obtain ⟨f, fd, F, hm⟩ := d
  exact ⟨f, fd, h f fd F, hm, F.kp, F.binds b⟩
theorem glom_of (d : Dmt K C m qual st) (c : Cls K C) (b : Bnd m qual st ps) (h : ∀ f fd, Fun K m qual st f fd → FnOk P w K mg base CX0 k f fd ps sp) : GloM P w K mg base k C m ps sp := by
  obtain ⟨f, fd, F, hm⟩ := d
  exact ⟨f, fd, h f fd F, c, hm, F.binds b⟩
theorem gloc_of (d : Din K C qual st) (c : Dcl K mg x C) (b : Bnd "__init__" qual st ps) (h : ∀ f fd, Fun K "__init__" qual st f fd → FnOk P w K mg base CX0 k f fd ps sp) : GloC P w K mg base k C x ps sp := by
  obtain ⟨f, fd, F, hm⟩ := d
  exact ⟨f, fd, h f fd F, hm, c.mg, F.binds b⟩
theorem Glo.mono {j : Nat} (g : Glo P w K mg base k x ps sp) (h : k ≤ j) : Glo P w K mg base j x ps sp := let ⟨f, fd, F, r⟩ := g; ⟨f, fd, F.mono h, r⟩
/-- the law: any script of at most 63 ints, True comes out -/
abbrev spL (K : PySem.W.Frag) : Sp := Pu K (fun ns : List Int => ns.length ≤ 63) (fun ns => [.scr (ns.map .int)]) (fun _ => .bl true)
def spLaw (K : PySem.W.Frag) : Sp := fun vs Hh Q _ => ∃ (q : Addr) (ns : List Int), vs = [.ref q] ∧ SqL K Hh q (ns.map V.int) ∧ ns.length ≤ 63 ∧ ∀ H2, Q (.bl true) H2
theorem law_imp {f : Addr} {fd : FuncData} (F : FnOk P w K mg base CX0 k f fd ps (spL K)) : FnOk P w K mg base CX0 k f fd ps (spLaw K) := F.imp fun vs H Q E h => by
  obtain ⟨a, ns, rfl, hS, hl, q⟩ := h
  refine ⟨ns, H, emp, hl, .rf, fun _ _ z => (by cases z), .emp _, .cons (.scr hS (FdAll.ofInts ns)) .nil, rfl, fun v d l' H' hp s => ?_, fun _ _ _ _ z => z.elim⟩
  obtain ⟨rfl, rfl⟩ := hp
  obtain ⟨F, M, a⟩ := s
  have f := a.tm.1
  cases f
  exact q H'
/-- as walk_of asks it -/
theorem law_end {pn : Str} {fa : Addr} {st : Stmt} (d : Dfn K mg "law" st) (hfa : mg "law" = some (.ref fa)) (hb : ∀ (kV doc pm : Value) (an : Option Addr) (cdv ct : Value) (s : Shared) (v : Value), BindsTo s (PySem.W.fnOf "law" "law" (defArgs st) (defBody st) (defScope st) .none kV doc pm an cdv ct) ⟨[v], []⟩ [(pn, v)])
    (h : ∀ base : Heap, K.In base → base.Ns mainGlobals mg → ∀ f fd, Fun K "law" "law" st f fd → FnOk P w K mg base CX0 k f fd [pn] (spL K)) :
    ∃ fd : FuncData, (∀ (s : Shared) (v : Value), BindsTo s fd ⟨[v], []⟩ [(pn, v)]) ∧ ∀ base : Heap, K.In base → base.Ns mainGlobals mg → FnOk P w K mg base CX0 k fa fd [pn] (spLaw K) := by
  obtain ⟨f, fd, F, hm⟩ := d
  rw [hfa] at hm
  cases hm
  obtain ⟨oc, od, kV, doc, pm, an, cdv, ct, osl, rfl, lk, hcd⟩ := id F.ex
  exact ⟨_, hb kV doc pm an cdv ct, fun base h1 h2 => law_imp (h base h1 h2 fa _ F)⟩
end
section
variable {X : Cx} {g : Gm} {l : List Res} {e c : Expr} {d : D} {p pos : Pos}
/-- isinstance(x, C) of a frozen instance of the class at D0 -/
theorem o_isi {C D0 : Addr} {fs : List (Str × D)} {b : Bool} (hc : Cls X.K D0) (hi : Isi X.K D0) (hk : PySem.W.kitOne X.K (.ref D0) (.ref C) = some b) : OpN X.K l (rIsi X.K) [.ins D0 fs, .adr C] (.bl b) := fun F M H vs Q eF eM dj rs f k => by
  cases f with
  | cons f1 f2 =>
    cases f2 with
    | cons f2 f3 =>
      cases f2; cases f3
      cases f1 with
      | ins h1 h2 =>
        exact ⟨_, _, _, _, b, rfl, .own C, .base (.ins (eF _ _ h1) hc hi.ha hi.hn hi.htk hi.hm), hk, k _ F H (.rf eF) (.bl _)⟩
/-- .. of flat things, lists and tuples, against a built-in class -/
def D.tyv : D → Option String
  | .non => some "NoneType" | .bl _ => some "bool" | .int _ => some "int" | .str _ => some "str" | .lst _ => some "list" | .tup _ => some "tuple" | .scr _ => some "list" | .dK _ => some "dict" | .dT _ => some "dict" | _ => none
theorem tyx_l {K : PySem.W.Frag} {H : Hp} {a : Addr} {xs : List V} (s : SqL K H a xs) : TyX K H (.ref a) (.type "list") := by
  rcases s with (s | ⟨o, s⟩) | ⟨o, its, n, h1, h2, _⟩
  · exact .base (.lst s)
  · exact .base (.frz s)
  · exact .kList h1 h2
theorem tyx_t {K : PySem.W.Frag} {H : Hp} {a : Addr} {xs : List V} (s : SqT K H a xs) : TyX K H (.ref a) (.type "tuple") := by
  rcases s with (s | ⟨o, s⟩) | ⟨o, its, n, h1, h2, _⟩
  · exact .base (.tup s)
  · exact .fTuple s
  · exact .kTuple h1 h2
theorem Fd.tyx {K : PySem.W.Frag} {F H : Hp} {v : V} {d : D} {t : String} (e : Ex F H) (f : Fd K F v d) (h : d.tyv = some t) : TyX K H v (.type t) := by
  cases f with
  | non => cases h; exact .base .non
  | bl b => cases h; exact .base (.bl b)
  | int i => cases h; exact .base (.int i)
  | str x => cases h; exact .base (.str x)
  | lst s a => cases h; exact tyx_l (SqL.of (e _ _ s))
  | scr s a => cases h; exact tyx_l (ex_l e s)
  | dK s a => cases h; exact .base (.dK (e _ _ s))
  | dT s a => cases h; exact .base (.dT (e _ _ s))
  | tup s a => cases h; exact tyx_t (ex_t e s)
  | adr a => cases h
  | ty n => cases h
  | ins a b => cases h
theorem o_isiT {t n : String} {b : Bool} (ht : d.tyv = some t) (hk : kitB t n = some b) : OpN X.K l (rIsi X.K) [d, .ty n] (.bl b) := fun F M H vs Q eF eM dj rs f k => by
  cases f with
  | cons f1 f2 =>
    cases f2 with
    | cons f2 f3 =>
      cases f2; cases f3
      exact ⟨_, _, _, _, b, rfl, .ty n, f1.tyx eF ht, kit_ty hk, k _ F H (.rf eF) (.bl _)⟩
theorem o_isiO {n : String} {b : Bool} {k : Nat} {p : Addr} {ds : List D} (hk : l[k]? = some (ownL X.K p ds)) (hb : kitB "list" n = some b) : OpN X.K l (rIsi X.K) [.adr p, .ty n] (.bl b) := fun F M H vs Q eF eM dj rs f kk => by
  cases f with
  | cons f1 f2 =>
    cases f2 with
    | cons f2 f3 =>
      cases f2; cases f3; cases f1
      obtain ⟨ws, _, hp⟩ := rs.own hk eM
      exact ⟨_, _, _, _, b, rfl, .ty n, tyx_l (SqL.of hp), kit_ty hb, kk _ F H (.rf eF) (.bl _)⟩
theorem px_bi {id : String} {x : Str} {r : List V → Hp → VK → Prop} {e1 : Expr} {e2 : List Expr} {ds : List D} (hc : CallR X (.builtin id) r) (hm : X.mg x = none) (ha : Pa X (e1 :: e2) g l ds) (hr : OpN X.K l r ds d) (hg : Gl X x := by rfl) (hv : bootBuiltins x = some (.builtin id) := by decide +kernel) (hn : x ≠ "__name__" := by decide) (hdb : (x == ("__debug__" : Str)) = false := by decide)
    (hs : starEach (e1 :: e2) X.env = (false, eval e1 X.env) :: starEach e2 X.env := by rfl) (hpl : (backTo pos (starEach e2 X.env)).any (·.1) = false := by rfl) : Px X (.Call (.Name x p) (e1 :: e2) [] pos) g l d := px_b (ds := ds) (pe_callB hc hg hm hv pa_wp hn hdb hs hpl) hr ha
theorem px_ty {T : String} {x : Str} {r : List V → Hp → VK → Prop} {e1 : Expr} {e2 : List Expr} {ds : List D} (hc : CallR X (.type T) r) (hm : X.mg x = none) (ha : Pa X (e1 :: e2) g l ds) (hr : OpN X.K l r ds d) (hg : Gl X x := by rfl) (hv : bootBuiltins x = some (.type T) := by decide +kernel) (hn : x ≠ "__name__" := by decide) (hdb : (x == ("__debug__" : Str)) = false := by decide)
    (hs : starEach (e1 :: e2) X.env = (false, eval e1 X.env) :: starEach e2 X.env := by rfl) (hpl : (backTo pos (starEach e2 X.env)).any (·.1) = false := by rfl) : Px X (.Call (.Name x p) (e1 :: e2) [] pos) g l d := px_b (ds := ds) (pe_callTy hc hg hm hv pa_wp hn hdb hs hpl) hr ha
/-- a class of the module, a built-in class, as a value -/
theorem px_cls {C : Addr} {x : Str} (h : X.mg x = some (.ref C)) (hg : Gl X x := by rfl) (hd : (x == ("__debug__" : Str)) = false := by decide) : Px X (.Name x pos) g l (.adr C) := px_c (pe_glob (v := .ref C) hg h rfl hd) fun _ => .adr C
theorem px_tyn {x : Str} {n : String} (hm : X.mg x = none) (hv : bootBuiltins x = some (.type n) := by decide +kernel) (hg : Gl X x := by rfl) (hn : x ≠ "__name__" := by decide) (hd : (x == ("__debug__" : Str)) = false := by decide) : Px X (.Name x pos) g l (.ty n) := px_c (pe_bltn (v := .ty n) hg hm hv rfl hn hd) fun _ => .ty n
theorem px_gi {x : Str} {i : Int} (h : ∃ t, X.mg x = some (.int i t)) (hg : Gl X x := by rfl) (hd : (x == ("__debug__" : Str)) = false := by decide) : Px X (.Name x pos) g l (.int i) := by
  obtain ⟨t, h⟩ := h
  exact px_c (pe_glob (v := .int i) hg h ⟨t, rfl⟩ hd) fun _ => .int i
theorem px_gs {x z : Str} (h : ∃ t, X.mg x = some (.str z t)) (hg : Gl X x := by rfl) (hd : (x == ("__debug__" : Str)) = false := by decide) : Px X (.Name x pos) g l (.str z) := by
  obtain ⟨t, h⟩ := h
  exact px_c (pe_glob (v := .str z) hg h ⟨t, rfl⟩ hd) fun _ => .str z
theorem px_isT (n t : String) (b : Bool) {x : Str} {p2 : Pos} (z : X.mg "isinstance" = none) (zx : X.mg x = none) (h : Px X e g l d) (ht : d.tyv = some t := by rfl) (hk : kitB t n = some b := by decide +kernel) (hv : bootBuiltins x = some (.type n) := by decide +kernel)
    (hg : Gl X "isinstance" := by rfl) (hgx : Gl X x := by rfl) (hn : x ≠ "__name__" := by decide) (hd : (x == ("__debug__" : Str)) = false := by decide)
    (hs : starEach [e, .Name x p2] X.env = (false, eval e X.env) :: starEach [.Name x p2] X.env := by rfl) (hs2 : starEach [.Name x p2] X.env = [(false, eval (.Name x p2) X.env)] := by rfl) (hpl : (backTo pos (starEach [.Name x p2] X.env)).any (·.1) = false := by rfl) :
    Px X (.Call (.Name "isinstance" p) [e, .Name x p2] [] pos) g l (.bl b) := px_bi call_isi z (pa_c h (pa_c (px_tyn zx hv hgx hn hd) pa_n hs2) hs) (o_isiT ht hk) hg (by decide +kernel) (by decide) (by decide) hs hpl
theorem px_isC {C D0 : Addr} {fs : List (Str × D)} {b : Bool} {x : Str} {p2 : Pos} (z : X.mg "isinstance" = none) (zx : X.mg x = some (.ref C)) (h : Px X e g l (.ins D0 fs)) (hc : Cls X.K D0) (hi : Isi X.K D0) (hk : PySem.W.kitOne X.K (.ref D0) (.ref C) = some b)
    (hg : Gl X "isinstance" := by rfl) (hgx : Gl X x := by rfl) (hd : (x == ("__debug__" : Str)) = false := by decide)
    (hs : starEach [e, .Name x p2] X.env = (false, eval e X.env) :: starEach [.Name x p2] X.env := by rfl) (hs2 : starEach [.Name x p2] X.env = [(false, eval (.Name x p2) X.env)] := by rfl) (hpl : (backTo pos (starEach [.Name x p2] X.env)).any (·.1) = false := by rfl) :
    Px X (.Call (.Name "isinstance" p) [e, .Name x p2] [] pos) g l (.bl b) := px_bi call_isi z (pa_c h (pa_c (px_cls zx hgx hd) pa_n hs2) hs) (o_isi hc hi hk) hg (by decide +kernel) (by decide) (by decide) hs hpl
end
section
variable {K : PySem.W.Frag} {l : List Res} {d : D}
/-- len, str, int, list, tuple, max, min -/
abbrev rLen1 (K : PySem.W.Frag) : List V → Hp → VK → Prop := fun xs H Q => ∃ p ys, xs = [.ref p] ∧ (SqL K H p ys ∨ SqT K H p ys) ∧ Q (.int ys.length) H
theorem o_len {ds : List D} {d0 : D} (h : d0 = .lst ds ∨ d0 = .tup ds ∨ d0 = .scr ds) : OpN K l (rLen1 K) [d0] (.int ds.length) := fun F M H vs Q eF eM dj rs f k => by
  cases f with
  | cons f1 f2 =>
    cases f2
    rcases h with rfl | rfl | rfl
    · cases f1 with
      | lst s a =>
        refine ⟨_, _, rfl, .inl (SqL.of (eF _ _ s)), ?_⟩
        rw [a.length]
        exact k _ F H (.rf eF) (.int _)
    · cases f1 with
      | tup s a =>
        refine ⟨_, _, rfl, .inr (ex_t eF s), ?_⟩
        rw [a.length]
        exact k _ F H (.rf eF) (.int _)
    · cases f1 with
      | scr s a =>
        refine ⟨_, _, rfl, .inl (ex_l eF s), ?_⟩
        rw [a.length]
        exact k _ F H (.rf eF) (.int _)
theorem o_lenL {ds : List D} : OpN K l (rLen1 K) [.lst ds] (.int ds.length) := o_len (.inl rfl)
theorem o_lenT {ds : List D} : OpN K l (rLen1 K) [.tup ds] (.int ds.length) := o_len (.inr (.inl rfl))
theorem o_lenR {ds : List D} : OpN K l (rLen1 K) [.scr ds] (.int ds.length) := o_len (.inr (.inr rfl))
theorem o_lenO {k : Nat} {p : Addr} {ds : List D} (hk : l[k]? = some (ownL K p ds)) : OpN K l (rLen1 K) [.adr p] (.int ds.length) := fun F M H vs Q eF eM dj rs f kk => by
  cases f with
  | cons f1 f2 =>
    cases f2; cases f1
    obtain ⟨ws, fw, hp⟩ := rs.own hk eM
    refine ⟨_, _, rfl, .inl (SqL.of hp), ?_⟩
    rw [fw.length]
    exact kk _ F H (.rf eF) (.int _)
theorem o_lenS {x : Str} (h : x.length ≤ sizeLine) : OpN K l (fun xs H Q => ∃ z, xs = [.str z] ∧ z.length ≤ sizeLine ∧ Q (.int z.length) H) [.str x] (.int x.length) := fun F M H vs Q eF eM dj rs f k => by
  cases f with
  | cons f1 f2 =>
    cases f2; cases f1
    exact ⟨x, rfl, h, k _ F H (.rf eF) (.int _)⟩
theorem o_str {i : Int} (h : i.natAbs.log2 < 1920) : OpN K l (fun xs H Q => ∃ i, xs = [.int i] ∧ i.natAbs.log2 < 1920 ∧ Q (.str (toString i)) H) [.int i] (.str (toString i)) := fun F M H vs Q eF eM dj rs f k => by
  cases f with
  | cons f1 f2 =>
    cases f2; cases f1
    exact ⟨i, rfl, h, k _ F H (.rf eF) (.str _)⟩
theorem o_max2 {i j : Int} : OpN K l (fun xs H Q => ∃ i j, xs = [.int i, .int j] ∧ Q (.int (if j > i then j else i)) H) [.int i, .int j] (.int (max i j)) := fun F M H vs Q eF eM dj rs f k => by
  cases f with
  | cons f1 f2 =>
    cases f2 with
    | cons f2 f3 =>
      cases f3; cases f1; cases f2
      refine ⟨i, j, rfl, ?_⟩
      have e : (if j > i then j else i) = max i j := by
        by_cases q : j > i
        · rw [if_pos q, Int.max_eq_right (by omega)]
        · rw [if_neg q, Int.max_eq_left (by omega)]
      rw [e]
      exact k _ F H (.rf eF) (.int _)
theorem o_min2 {i j : Int} : OpN K l (fun xs H Q => ∃ i j, xs = [.int i, .int j] ∧ Q (.int (if j < i then j else i)) H) [.int i, .int j] (.int (min i j)) := fun F M H vs Q eF eM dj rs f k => by
  cases f with
  | cons f1 f2 =>
    cases f2 with
    | cons f2 f3 =>
      cases f3; cases f1; cases f2
      refine ⟨i, j, rfl, ?_⟩
      have e : (if j < i then j else i) = min i j := by
        by_cases q : j < i
        · rw [if_pos q, Int.min_eq_right (by omega)]
        · rw [if_neg q, Int.min_eq_left (by omega)]
      rw [e]
      exact k _ F H (.rf eF) (.int _)
/-- an item at a place that lies in it -/
theorem atI_in {α : Type} {xs : List α} {i : Int} {x0 : α} (h0 : 0 ≤ i) (h1 : i < xs.length) : atI xs i = some (xs.getD i.toNat x0) := by
  have h2 : i.toNat < xs.length := by omega
  unfold atI ixN
  rw [if_pos h0, if_pos h1]
  show xs[i.toNat]? = _
  rw [List.getElem?_eq_getElem h2, List.getD_eq_getElem?_getD, List.getElem?_eq_getElem h2]
  rfl
theorem atI_map {α β : Type} {f : α → β} {xs : List α} {i : Int} {y : α} (h : atI xs i = some y) : atI (xs.map f) i = some (f y) := by
  unfold atI at h ⊢
  rw [List.length_map]
  cases e : ixN xs.length i with
  | none => rw [e] at h; cases h
  | some n =>
    rw [e] at h
    show (xs.map f)[n]? = some (f y)
    have h' : xs[n]? = some y := h
    rw [List.getElem?_map, h']
    rfl
end
/-- a class without an __init__ of its own -/
structure Mk0 (K : PySem.W.Frag) (C : Addr) : Prop where
  (makes : PySem.W.makesIn K C = true) (kp : PySem.W.keepIn K (.ref C) = true) (init : PySem.W.findIn K (.ref C) "__init__" = some (some (.builtin "object.__init__")))
section
open PySem.W in
theorem make_plain {prog : Program} {w : World} {A : Around} {K : PySem.W.Frag} {C : Addr} {R : Result → Shared → Prop} {s : Shared} (X : K.In s.heap) (m : Mk0 K C)
    (h : R (.ok (.ret (.ref (s.heap.objs.size + 1)))) { s with heap := (s.heap.push emptyDict).push (instObj C s.heap.objs.size) }) : codeAny (model prog w) A (.call (.ref C) ⟨[], []⟩) R s := by
  obtain ⟨hh, g, d, t, os⟩ := s
  have Y := makes_of (M := model prog w) X m.makes
  have hx : ((hh.push emptyDict).push (instObj C hh.objs.size)).get? (hh.objs.size + 1) = some (instObj C hh.objs.size) := by heap_get
  refine make_core Y (looks_findIn X m.init) (fun self => Looks.of_pure (oi_bind self)) (.inr ⟨rfl, rfl⟩) ?_
  refine codeAny_call_builtin oi_plain entry_oi (@check_slot (model prog w) _ _ _ "object.__init__" "object" "__init__" (.ref (hh.objs.size + 1)) [] [] _ oi_kind oi_split
    (((Looks.ld hx).andThen .now : Looks (model prog w) _ (typeOf (.ref (hh.objs.size + 1))) (.ref C)).andThen (Y.top.keeps fun _ _ q => Heap.get?_push_of_some _ (Heap.get?_push_of_some _ q))) (oi_args _) (by rw [oi_run]; exact wpAny_pure ⟨rfl, h⟩))
end
section
variable {X : Cx} {g : Gm} {l : List Res} {p pos : Pos} {C : Addr} {x : Str}
theorem pe_makeN (m : Mk0 X.K C) (hg : Gl X x) (hm : X.mg x = some (.ref C)) (hdb : (x == ("__debug__" : Str)) = false := by decide) :
    PE X (.Call (.Name x p) [] [] pos) (fun _ H Q => ∀ q dx, H q = none → H dx = none → dx ≠ q → Q (.ref q) (upd (upd H dx (.own q)) q (.ins C dx []))) := by
  refine ⟨fun pins st sg Hh Q iv h => wpAny_Call_Name_kw (ld_glob iv hg hm (PySem.W.callWith_K0 iv.kIn m.kp (wpAny_call (make_plain iv.kIn m ⟨V.ref (st.heap.objs.size + 1), _, Inv.made (C := C) iv, rfl, ?_⟩))) hdb)⟩
  exact h _ _ (iv.hok.fresh (Nat.le_succ _)) (iv.hok.fresh (Nat.le_refl _)) (Nat.ne_of_lt (Nat.lt_succ_self _))
/-- C(), frozen -/
theorem px_make0 (m : Mk0 X.K C) (hm : X.mg x = some (.ref C)) (hg : Gl X x := by rfl) (hdb : (x == ("__debug__" : Str)) = false := by decide) : Px X (.Call (.Name x p) [] [] pos) g l (.ins C []) := fun en T σ H Q s k => wpE_of (pe_makeN m hg hm hdb) (by
  intro q dx nx ndx ne
  obtain ⟨F, M, a⟩ := s
  have n1 := New.upd (o := .own q) a.exF ndx
  have nq : (upd H dx (.own q)) q = none := by rw [upd_ne (Ne.symm ne)]; exact nx
  have n2 := New.upd (o := .ins C dx []) n1.i nq
  have n := n1.tr n2
  exact k _ _ ⟨_, M, (a.new n).tmp ⟨.ins upd_same .nil, T.mono n.f a.tm⟩⟩)
end
end Sx
set_option Elab.async false
set_option linter.all false
set_option maxRecDepth 100000
set_option maxHeartbeats 2000000
/-! More rules: owned things read as if frozen, slices, new lists, texts. -/
namespace Sx
open PySem L2
section
variable {K : PySem.W.Frag} {l : List Res} {d d1 d2 : D} {ds es : List D}
/-- a list: frozen or owned -/
inductive Lv (K : PySem.W.Frag) (l : List Res) : D → List D → Prop
  | f {ds : List D} : Lv K l (.lst ds) ds
  | o {k : Nat} {p : Addr} {ds : List D} (h : l[k]? = some (ownL K p ds)) : Lv K l (.adr p) ds
/-- .. or the script -/
inductive Lq (K : PySem.W.Frag) (l : List Res) : D → List D → Prop
  | v {d : D} {ds : List D} (h : Lv K l d ds) : Lq K l d ds
  | s {ds : List D} : Lq K l (.scr ds) ds
/-- .. or a tuple -/
inductive Sv (K : PySem.W.Frag) (l : List Res) : D → List D → Prop
  | q {d : D} {ds : List D} (h : Lq K l d ds) : Sv K l d ds
  | t {ds : List D} : Sv K l (.tup ds) ds
abbrev Lq.f : Lq K l (.lst ds) ds := .v .f
abbrev Lq.o {k : Nat} {p : Addr} (h : l[k]? = some (ownL K p ds)) : Lq K l (.adr p) ds := .v (.o h)
abbrev Sv.f : Sv K l (.lst ds) ds := .q (.v .f)
abbrev Sv.o {k : Nat} {p : Addr} (h : l[k]? = some (ownL K p ds)) : Sv K l (.adr p) ds := .q (.v (.o h))
abbrev Sv.s : Sv K l (.scr ds) ds := .q .s
theorem Lv.get {F M H : Hp} {v : V} (h : Lv K l d ds) (eF : Ex F H) (eM : Ex M H) (rs : Rs l F M) (f : Fd K F v d) : ∃ a vs, v = .ref a ∧ H a = some (.lst vs) ∧ FdAll K F vs ds := by
  cases h with
  | f => cases f with | lst s a => exact ⟨_, _, rfl, eF _ _ s, a⟩
  | o h =>
    cases f
    obtain ⟨vs, f, hp⟩ := rs.own h eM
    exact ⟨_, vs, rfl, hp, f⟩
theorem Lq.get {F M H : Hp} {v : V} (h : Lq K l d ds) (eF : Ex F H) (eM : Ex M H) (rs : Rs l F M) (f : Fd K F v d) : ∃ a vs, v = .ref a ∧ SqL K H a vs ∧ FdAll K F vs ds := by
  cases h with
  | v h =>
    obtain ⟨a, vs, e, hp, f⟩ := h.get eF eM rs f
    exact ⟨a, vs, e, SqL.of hp, f⟩
  | s => cases f with | scr s a => exact ⟨_, _, rfl, ex_l eF s, a⟩
theorem Sv.get {F M H : Hp} {v : V} (h : Sv K l d ds) (eF : Ex F H) (eM : Ex M H) (rs : Rs l F M) (f : Fd K F v d) : ∃ a vs, v = .ref a ∧ (SqL K H a vs ∨ SqT K H a vs) ∧ FdAll K F vs ds := by
  cases h with
  | q h =>
    obtain ⟨a, vs, e, hp, f⟩ := h.get eF eM rs f
    exact ⟨a, vs, e, .inl hp, f⟩
  | t => cases f with | tup s a => exact ⟨_, _, rfl, .inr (ex_t eF s), a⟩
end
section
variable {X : Cx} {W : WX} {g g' : Gm} {l l' : List Res} {Φ : Po} {e e2 a b c o : Expr} {es : List Expr} {d d1 d2 d3 : D} {ds ds1 ds2 : List D} {pos p p2 : Pos} {rest : List Stmt}
/-! ### owned things read as if frozen -/
theorem Px.all (h : Px X e g [] d) : Px X e g l d := by
  induction l with
  | nil => exact h
  | cons r l ih => exact ih.fr
/-- what is scalar, got with an owned list taken for frozen -/
theorem px_brw {i k : Nat} {q : Addr} {v0 : V} (hi : nth g i = some (.adr q)) (hk : l[k]? = some (ownL X.K q ds)) (hd : d.v = some v0) (h : Px X e (g.set i (some (.lst ds))) [] d) : Px X e g l d := fun en T σ H Q s kk => by
  obtain ⟨F, M, a⟩ := s
  obtain ⟨A, B, hM, dj, ⟨vs, fvs, rfl⟩, _⟩ := Rs.at hk a.rs
  have hH : H q = some (.lst vs) := a.exM q _ (by rw [hM]; exact join_l one_same)
  have hF : F q = none := a.dj.sym q _ (by rw [hM]; exact join_l one_same)
  have eF : Ex F (join F (one q (.lst vs))) := fun x o h => join_l h
  have e1 : Ex (join F (one q (.lst vs))) H := a.exF.join fun x o z => by obtain ⟨rfl, rfl⟩ := one_some z; exact hH
  have hs : Sl X.K (join F (one q (.lst vs))) (g.set i (some (.lst ds))) σ := by
    obtain ⟨v, hv, fv⟩ := a.sl.nth hi
    cases fv
    have w := (a.sl.mono eF).set i (d := .lst ds) (v := .ref q) (.lst (by rw [join_r hF]; exact one_same) (fvs.mono eF))
    have e : σ.set i (some (.ref q)) = σ := by
      apply List.ext_getElem?
      intro j
      by_cases z : j = i
      · subst z
        obtain ⟨h1, h2⟩ := List.getElem?_eq_some_iff.mp hv
        rw [List.getElem?_set_self h1, hv]
      · rw [List.getElem?_set_ne (Ne.symm z)]
    rw [e] at w
    exact w
  refine h ⟨join F (one q (.lst vs)), emp, H⟩ Tm.tt σ H Q ⟨_, emp, At.entry e1 (fun _ _ z => by cases z) (.emp _) hs trivial rfl⟩ fun v H' s' => ?_
  obtain ⟨F', M', b⟩ := s'
  have hv := D.v_eq b.tm.1 hd
  subst hv
  have n : New F H F H' := New.grow a.exF fun x o z => b.fr x o z rfl
  refine kk _ H' ⟨F, M, (a.new n).tmp ⟨?_, a.tm⟩⟩
  cases d <;> first | (cases hd; constructor) | cases hd
theorem ts_brw {i k : Nat} {q : Addr} {kb : Bool} (hi : nth g i = some (.adr q)) (hk : l[k]? = some (ownL X.K q ds)) (h : Ts X e (g.set i (some (.lst ds))) [] kb) : Ts X e g l kb := fun en T σ H Q s kk => by
  obtain ⟨F, M, a⟩ := s
  obtain ⟨A, B, hM, dj, ⟨vs, fvs, rfl⟩, _⟩ := Rs.at hk a.rs
  have hH : H q = some (.lst vs) := a.exM q _ (by rw [hM]; exact join_l one_same)
  have hF : F q = none := a.dj.sym q _ (by rw [hM]; exact join_l one_same)
  have eF : Ex F (join F (one q (.lst vs))) := fun x o h => join_l h
  have e1 : Ex (join F (one q (.lst vs))) H := a.exF.join fun x o z => by obtain ⟨rfl, rfl⟩ := one_some z; exact hH
  have hs : Sl X.K (join F (one q (.lst vs))) (g.set i (some (.lst ds))) σ := by
    obtain ⟨v, hv, fv⟩ := a.sl.nth hi
    cases fv
    have w := (a.sl.mono eF).set i (d := .lst ds) (v := .ref q) (.lst (by rw [join_r hF]; exact one_same) (fvs.mono eF))
    have e : σ.set i (some (.ref q)) = σ := by
      apply List.ext_getElem?
      intro j
      by_cases z : j = i
      · subst z
        obtain ⟨h1, h2⟩ := List.getElem?_eq_some_iff.mp hv
        rw [List.getElem?_set_self h1, hv]
      · rw [List.getElem?_set_ne (Ne.symm z)]
    rw [e] at w
    exact w
  refine h ⟨join F (one q (.lst vs)), emp, H⟩ Tm.tt σ H Q ⟨_, emp, At.entry e1 (fun _ _ z => by cases z) (.emp _) hs trivial rfl⟩ fun H' s' => ?_
  obtain ⟨F', M', b⟩ := s'
  have n : New F H F H' := New.grow a.exF fun x o z => b.fr x o z rfl
  exact kk H' ⟨F, M, a.new n⟩
/-! ### new lists -/
abbrev NewL (X : Cx) (g : Gm) (l : List Res) (t : TE) (ds : List D) : Prop := ∀ en T σ H (Q : VK), S X.K en g T l σ H → (∀ p ws H1 F M, At X.K en g T l σ H1 F M → FdAll X.K F ws ds → H1 p = none → Q (.ref p) (upd H1 p (.lst ws))) → t σ H Q
abbrev EvL (X : Cx) (e : Expr) (g : Gm) (l : List Res) (ds : List D) : Prop := Ev X e g l (fun d' l' => ∃ p, d' = .adr p ∧ l' = ownL X.K p ds :: l)
theorem ev_new {t : TE} (he : PE X e t) (h : NewL X g l t ds) : EvL X e g l ds := fun en T σ H Q s k => wpE_of he (h en T σ H Q s fun p ws H1 F M q f hp => by
  have q3 := q.newO (r := ownL X.K p ds) (A := one p (.lst ws)) (H' := upd H1 p (.lst ws)) (.new hp) (fun x o z => by obtain ⟨rfl, rfl⟩ := one_some z; exact upd_same) (fun x o z => by obtain ⟨rfl, rfl⟩ := one_some z; exact hp) ⟨ws, f, rfl⟩
  exact k _ (.adr p) _ _ ⟨p, rfl, rfl⟩ ⟨F, _, q3.tmp ⟨.adr p, q.tm⟩⟩)
/-! ### slices -/
def cut {α : Type} (xs : List α) (lo hi : Option Int) : List α := (xs.drop (HT.sIx xs.length 0 lo)).take (HT.sIx xs.length xs.length hi - HT.sIx xs.length 0 lo)
theorem cut_all {α : Type} {xs : List α} : cut xs none none = xs := by
  unfold cut
  show (xs.drop 0).take (xs.length - 0) = xs
  rw [List.drop_zero, Nat.sub_zero, List.take_length]
theorem cut_take {α : Type} {xs : List α} {n : Int} (h : 0 ≤ n) : cut xs none (some n) = xs.take n.toNat := by
  unfold cut
  have e : HT.sIx xs.length xs.length (some n) = min n.toNat xs.length := by
    show (if n < 0 then _ else _) = _
    rw [if_neg (by omega)]
  rw [e]
  show (xs.drop 0).take (min n.toNat xs.length - 0) = _
  rw [List.drop_zero, Nat.sub_zero, ← List.take_take, List.take_length]
theorem cut_drop {α : Type} {xs : List α} {n : Int} (h : 0 ≤ n) : cut xs (some n) none = xs.drop n.toNat := by
  unfold cut
  have e : HT.sIx xs.length 0 (some n) = min n.toNat xs.length := by
    show (if n < 0 then _ else _) = _
    rw [if_neg (by omega)]
  rw [e]
  show (xs.drop (min n.toNat xs.length)).take (xs.length - min n.toNat xs.length) = _
  by_cases z : n.toNat ≤ xs.length
  · rw [Nat.min_eq_left z, List.take_of_length_le (by rw [List.length_drop]; exact Nat.le_refl _)]
  · rw [Nat.min_eq_right (by omega), List.drop_length, List.drop_eq_nil_of_le (by omega), List.take_nil]
theorem FdAll.cut {K : PySem.W.Frag} {F : Hp} {vs : List V} {ds : List D} (f : FdAll K F vs ds) (lo hi : Option Int) : FdAll K F (cutV vs lo hi) (cut ds lo hi) := by
  unfold cutV Sx.cut
  rw [f.length]
  exact (f.drop _).take _
/-- a slice's part -/
def Pz (X : Cx) (e : Option Expr) (g : Gm) (l : List Res) (o : Option Int) : Prop := ∃ t, PO X e t ∧ ∀ en T σ H (R : Option Int → Hp → Prop), S X.K en g T l σ H → (∀ H', S X.K en g T l σ H' → R o H') → t σ H R
theorem pz_n : Pz X none g l none := ⟨_, po_none, fun en T σ H R s k => k H s⟩
theorem pz_s {i : Int} (h : Px X e g l (.int i)) : Pz X (some e) g l (some i) := ⟨_, po_some pe_wp, fun en T σ H R s k => h en T σ H _ s fun v H' s' => by
  obtain ⟨F, M, q⟩ := s'
  have f := q.tm.1
  cases f
  exact ⟨i, rfl, k H' ⟨F, M, q.tmp q.tm.2⟩⟩⟩
theorem ev_slL {lo hi : Option Expr} {i j : Option Int} (ho : Px X o g l d) (hd : Lq X.K l d ds) (hl : Pz X lo g l i) (hu : Pz X hi g l j) : EvL X (.Subscript o (.Slice lo hi none p2) pos) g l (cut ds i j) := by
  obtain ⟨tl, pl, hl⟩ := hl
  obtain ⟨tu, pu, hu⟩ := hu
  refine ev_new (pe_slice sl_list pe_wp pl pu) fun en T σ H Q s k => ?_
  refine ho en T σ H _ s fun v H1 s1 => ?_
  refine hl en _ σ H1 _ s1 fun H2 s2 => ?_
  refine hu en _ σ H2 _ s2 fun H3 s3 => ?_
  obtain ⟨F, M, q⟩ := s3
  obtain ⟨a, vs, rfl, sq, f⟩ := hd.get q.exF q.exM q.rs q.tm.1
  exact ⟨a, vs, rfl, sq, fun p hp => k p _ H3 F M (q.tmp q.tm.2) (f.cut i j) hp⟩
theorem px_slL {lo hi : Option Expr} {i j : Option Int} (ho : Px X o g l d) (hd : Lq X.K l d ds) (hl : Pz X lo g l i) (hu : Pz X hi g l j) : Px X (.Subscript o (.Slice lo hi none p2) pos) g l (.lst (cut ds i j)) := (ev_slL ho hd hl hu).frz
theorem px_slT {lo hi : Option Expr} {i j : Option Int} (ho : Px X o g l (.tup ds)) (hl : Pz X lo g l i) (hu : Pz X hi g l j) : Px X (.Subscript o (.Slice lo hi none p2) pos) g l (.tup (cut ds i j)) := fun en T σ H Q s k => by
  obtain ⟨tl, pl, hl⟩ := hl
  obtain ⟨tu, pu, hu⟩ := hu
  refine wpE_of (pe_slice sl_tupA pe_wp pl pu) ?_
  refine ho en T σ H _ s fun v H1 s1 => ?_
  refine hl en _ σ H1 _ s1 fun H2 s2 => ?_
  refine hu en _ σ H2 _ s2 fun H3 s3 => ?_
  obtain ⟨F, M, q⟩ := s3
  obtain ⟨f, t⟩ := q.tm
  cases f with
  | tup sq f =>
    rename_i a vs
    refine ⟨a, vs, rfl, ex_t q.exF sq, fun hw => ?_, fun hw p hp => ?_⟩
    · refine k _ H3 ⟨F, M, q.tmp ⟨?_, t⟩⟩
      have e : cut ds i j = ds := by
        unfold cut
        rw [← f.length, hw.1, hw.2, List.drop_zero, Nat.sub_zero, f.length, List.take_length]
      rw [e]
      exact .tup sq f
    · have n := New.upd (o := .tup (cutV vs i j)) q.exF hp
      exact k _ _ ⟨_, M, (q.new n).tmp ⟨.tup (SqT.of upd_same) (FdAll.mono n.f _ (f.cut i j)), T.mono n.f t⟩⟩
theorem px_slS {lo hi : Option Expr} {i j : Option Int} {x : Str} (ho : Px X o g l (.str x)) (hx : x.length ≤ sizeLine) (hl : Pz X lo g l i) (hu : Pz X hi g l j) : Px X (.Subscript o (.Slice lo hi none p2) pos) g l (.str (cutS x i j)) := fun en T σ H Q s k => by
  obtain ⟨tl, pl, hl⟩ := hl
  obtain ⟨tu, pu, hu⟩ := hu
  refine wpE_of (pe_slice sl_str pe_wp pl pu) ?_
  refine ho en T σ H _ s fun v H1 s1 => ?_
  refine hl en _ σ H1 _ s1 fun H2 s2 => ?_
  refine hu en _ σ H2 _ s2 fun H3 s3 => ?_
  obtain ⟨F, M, q⟩ := s3
  obtain ⟨f, t⟩ := q.tm
  cases f
  exact ⟨x, rfl, hx, k _ H3 ⟨F, M, q.tmp ⟨.str _, t⟩⟩⟩
/-! ### + and * of lists, list(x), tuple(x) -/
theorem ev_cat (ha : Px X a g l d1) (hb : Px X b g l d2) (h1 : Lv X.K l d1 ds1) (h2 : Lv X.K l d2 ds2) (hz : ds1.length + ds2.length ≤ sizeLine) : EvL X (.BinOp a .Add b pos) g l (ds1 ++ ds2) :=
  ev_new (pe_op op_cat pe_wp pe_wp) fun en T σ H Q s k => by
  refine ha en T σ H _ s fun v H1 s1 => ?_
  refine hb en _ σ H1 _ s1 fun u H2 s2 => ?_
  obtain ⟨F, M, q⟩ := s2
  obtain ⟨x, vs, rfl, g1, f1⟩ := h1.get q.exF q.exM q.rs q.tm.2.1
  obtain ⟨y, ws, rfl, g2, f2⟩ := h2.get q.exF q.exM q.rs q.tm.1
  exact ⟨x, y, vs, ws, rfl, rfl, g1, g2, by rw [f1.length, f2.length]; exact hz, fun p hp => k p _ H2 F M (q.tmp q.tm.2.2) (f1.app f2) hp⟩
theorem px_cat (ha : Px X a g l d1) (hb : Px X b g l d2) (h1 : Lv X.K l d1 ds1) (h2 : Lv X.K l d2 ds2) (hz : ds1.length + ds2.length ≤ sizeLine) : Px X (.BinOp a .Add b pos) g l (.lst (ds1 ++ ds2)) := (ev_cat ha hb h1 h2 hz).frz
theorem FdAll.rep {K : PySem.W.Frag} {F : Hp} {vs : List V} {ds : List D} (f : FdAll K F vs ds) : ∀ n, FdAll K F (List.replicate n vs).flatten (List.replicate n ds).flatten
  | 0 => .nil
  | n + 1 => by
    rw [List.replicate_succ, List.replicate_succ, List.flatten_cons, List.flatten_cons]
    exact f.app (FdAll.rep f n)
theorem ev_rep {i : Int} (ha : Px X a g l d1) (hb : Px X b g l (.int i)) (h1 : Lv X.K l d1 ds) (hi : -(2 ^ 63) ≤ i ∧ i < 2 ^ 63) (hz : ds.length * i.toNat ≤ sizeLine) : EvL X (.BinOp a .Mult b pos) g l (List.replicate i.toNat ds).flatten :=
  ev_new (pe_op op_rep pe_wp pe_wp) fun en T σ H Q s k => by
  refine ha en T σ H _ s fun v H1 s1 => ?_
  refine hb en _ σ H1 _ s1 fun u H2 s2 => ?_
  obtain ⟨F, M, q⟩ := s2
  obtain ⟨x, vs, rfl, g1, f1⟩ := h1.get q.exF q.exM q.rs q.tm.2.1
  have f2 := q.tm.1
  cases f2
  exact ⟨x, i, vs, rfl, rfl, g1, hi.1, hi.2, by rw [f1.length]; exact hz, fun p hp => k p _ H2 F M (q.tmp q.tm.2.2) (f1.rep _) hp⟩
theorem ev_listOf {e1 : Expr} (ha : Px X e1 g l d) (hd : Sv X.K l d ds) (hm : X.mg "list" = none) (hg : Gl X "list" := by rfl) (hs : starEach [e1] X.env = (false, eval e1 X.env) :: starEach [] X.env := by rfl) : EvL X (.Call (.Name "list" p) [e1] [] pos) g l ds :=
  ev_new (pe_callTy call_list_of hg hm (by decide +kernel) (pa_wp (es := [e1])) (by decide) (by decide) hs rfl) fun en T σ H Q s k => by
  refine pa_c ha pa_n hs en T σ H _ s fun vs H1 s1 => ?_
  obtain ⟨F, M, q⟩ := s1
  obtain ⟨f, t⟩ := q.tm
  cases f with
  | cons f1 f2 =>
    cases f2
    obtain ⟨a, ws, rfl, sq, f⟩ := hd.get q.exF q.exM q.rs f1
    exact ⟨a, ws, rfl, sq, fun p hp => k p _ H1 F M (q.tmp t) f hp⟩
theorem px_listOf {e1 : Expr} (ha : Px X e1 g l d) (hd : Sv X.K l d ds) (hm : X.mg "list" = none) (hg : Gl X "list" := by rfl) (hs : starEach [e1] X.env = (false, eval e1 X.env) :: starEach [] X.env := by rfl) : Px X (.Call (.Name "list" p) [e1] [] pos) g l (.lst ds) := (ev_listOf ha hd hm hg hs).frz
theorem px_tupOf {e1 : Expr} (ha : Px X e1 g l d) (hd : Lq X.K l d ds) (hm : X.mg "tuple" = none) (hg : Gl X "tuple" := by rfl) (hs : starEach [e1] X.env = (false, eval e1 X.env) :: starEach [] X.env := by rfl) : Px X (.Call (.Name "tuple" p) [e1] [] pos) g l (.tup ds) := fun en T σ H Q s k =>
  wpE_of (pe_callTy call_tuple_of hg hm (by decide +kernel) (pa_wp (es := [e1])) (by decide) (by decide) hs rfl) (by
  refine pa_c ha pa_n hs en T σ H _ s fun vs H1 s1 => ?_
  obtain ⟨F, M, q⟩ := s1
  obtain ⟨f, t⟩ := q.tm
  cases f with
  | cons f1 f2 =>
    cases f2
    obtain ⟨a, ws, rfl, sq, f⟩ := hd.get q.exF q.exM q.rs f1
    refine ⟨a, ws, rfl, .inl ⟨sq, fun p hp => ?_⟩⟩
    have n := New.upd (o := .tup ws) q.exF hp
    exact k _ _ ⟨_, M, (q.new n).tmp ⟨.tup (SqT.of upd_same) (FdAll.mono n.f _ f), T.mono n.f t⟩⟩)
theorem px_tupOfT {e1 : Expr} (ha : Px X e1 g l (.tup ds)) (hm : X.mg "tuple" = none) (hg : Gl X "tuple" := by rfl) (hs : starEach [e1] X.env = (false, eval e1 X.env) :: starEach [] X.env := by rfl) : Px X (.Call (.Name "tuple" p) [e1] [] pos) g l (.tup ds) := fun en T σ H Q s k =>
  wpE_of (pe_callTy call_tuple_of hg hm (by decide +kernel) (pa_wp (es := [e1])) (by decide) (by decide) hs rfl) (by
  refine pa_c ha pa_n hs en T σ H _ s fun vs H1 s1 => ?_
  obtain ⟨F, M, q⟩ := s1
  obtain ⟨f, t⟩ := q.tm
  cases f with
  | cons f1 f2 =>
    cases f2
    cases f1 with
    | tup sq f => exact ⟨_, _, rfl, .inr ⟨ex_t q.exF sq, k _ H1 ⟨F, M, q.tmp ⟨.tup sq f, t⟩⟩⟩⟩)
/-! ### texts -/
theorem px_join {x : Str} {xs : List Str} {apos : Pos} (ho : Px X o g l (.str x)) (he : Px X e g l d) (hd : Sv X.K l d (xs.map .str)) (hz : (xs.map (·.length)).sum + xs.length * x.length ≤ 16777216)
    (hs : starEach [e] X.env = [(false, eval e X.env)] := by rfl) (hb : attributeBase o "join" X.env (eval o X.env) = eval o X.env := by rfl) (hline : (apos.endLine == pos.line) = true := by rfl) : Px X (.Call (.Attribute o "join" apos) [e] [] pos) g l (.str (Txt.join x xs)) := fun en T σ H Q s k =>
  wpE_of (pe_join pe_wp pe_wp hs hb hline) (by
  refine ho en T σ H _ s fun v H1 s1 => ?_
  obtain ⟨F0, M0, q0⟩ := id s1
  have fv := q0.tm.1
  cases fv
  refine ⟨⟨x, rfl⟩, ?_⟩
  refine he en _ σ H1 _ s1 fun u H2 s2 => ?_
  obtain ⟨F, M, q⟩ := s2
  obtain ⟨a, ws, rfl, sq, f⟩ := hd.get q.exF q.exM q.rs q.tm.1
  have e := f.strs
  subst e
  exact ⟨x, a, xs, rfl, rfl, sq, hz, k _ H2 ⟨F, M, q.tmp ⟨.str _, q.tm.2.2⟩⟩⟩)
theorem ev_split {x y : Str} {apos : Pos} (ho : Px X o g l (.str x)) (he : Px X e g l (.str y)) (hy : (y.length == 0) = false) (hz : x.length + 2 ≤ sizeLine)
    (hs : starEach [e] X.env = [(false, eval e X.env)] := by rfl) (hb : attributeBase o "split" X.env (eval o X.env) = eval o X.env := by rfl) (hline : (apos.endLine == pos.line) = true := by rfl) : EvL X (.Call (.Attribute o "split" apos) [e] [] pos) g l ((Txt.split x y).map .str) :=
  ev_new (pe_split pe_wp pe_wp hs hb hline) fun en T σ H Q s k => by
  refine ho en T σ H _ s fun v H1 s1 => ?_
  obtain ⟨F0, M0, q0⟩ := id s1
  have fv := q0.tm.1
  cases fv
  refine ⟨⟨x, rfl⟩, ?_⟩
  refine he en _ σ H1 _ s1 fun u H2 s2 => ?_
  obtain ⟨F, M, q⟩ := s2
  obtain ⟨f, t⟩ := q.tm
  cases f
  exact ⟨x, y, rfl, rfl, hy, hz, fun p hp => k p _ H2 F M (q.tmp t.2) (FdAll.ofStrs _) hp⟩
theorem px_split {x y : Str} {apos : Pos} (ho : Px X o g l (.str x)) (he : Px X e g l (.str y)) (hy : (y.length == 0) = false) (hz : x.length + 2 ≤ sizeLine)
    (hs : starEach [e] X.env = [(false, eval e X.env)] := by rfl) (hb : attributeBase o "split" X.env (eval o X.env) = eval o X.env := by rfl) (hline : (apos.endLine == pos.line) = true := by rfl) : Px X (.Call (.Attribute o "split" apos) [e] [] pos) g l (.lst ((Txt.split x y).map .str)) := (ev_split ho he hy hz hs hb hline).frz
theorem px_partition {x y : Str} {apos : Pos} (ho : Px X o g l (.str x)) (he : Px X e g l (.str y)) (hy : (y.length == 0) = false) (hz : x.length ≤ sizeLine)
    (hs : starEach [e] X.env = [(false, eval e X.env)] := by rfl) (hb : attributeBase o "partition" X.env (eval o X.env) = eval o X.env := by rfl) (hline : (apos.endLine == pos.line) = true := by rfl) :
    Px X (.Call (.Attribute o "partition" apos) [e] [] pos) g l (.tup [.str (Txt.partition x y).1, .str (Txt.partition x y).2.1, .str (Txt.partition x y).2.2]) := fun en T σ H Q s k =>
  wpE_of (pe_partition pe_wp pe_wp hs hb hline) (by
  refine ho en T σ H _ s fun v H1 s1 => ?_
  obtain ⟨F0, M0, q0⟩ := id s1
  have fv := q0.tm.1
  cases fv
  refine ⟨⟨x, rfl⟩, ?_⟩
  refine he en _ σ H1 _ s1 fun u H2 s2 => ?_
  obtain ⟨F, M, q⟩ := s2
  obtain ⟨f, t⟩ := q.tm
  cases f
  refine ⟨x, y, rfl, rfl, hy, hz, fun p hp => ?_⟩
  have n := New.upd (o := .tup [.str (Txt.partition x y).1, .str (Txt.partition x y).2.1, .str (Txt.partition x y).2.2]) q.exF hp
  exact k _ _ ⟨_, M, (q.new n).tmp ⟨.tup (SqT.of upd_same) (.cons (.str _) (.cons (.str _) (.cons (.str _) .nil))), T.mono n.f t.2⟩⟩)
end
section
variable {K : PySem.W.Frag} {l : List Res} {d d1 d2 : D} {ds es : List D}
theorem Op2.to {r : R2} {a b d d' : D} (h : Op2 K l r a b d) (q : d = d') : Op2 K l r a b d' := q ▸ h
theorem OpN.to {r : List V → Hp → VK → Prop} {as : List D} {d d' : D} (h : OpN K l r as d) (q : d = d') : OpN K l r as d' := q ▸ h
theorem o_intS {x : Str} {n : Int} (h : PySem.intText? x = some n) (hl : x.length ≤ 640) : OpN K l (fun xs H Q => ∃ a n, xs = [.str a] ∧ PySem.intText? a = some n ∧ a.length ≤ 640 ∧ Q (.int n) H) [.str x] (.int n) := fun F M H vs Q eF eM dj rs f k => by
  cases f with
  | cons f1 f2 =>
    cases f2; cases f1
    exact ⟨x, n, rfl, h, hl, k _ F H (.rf eF) (.int _)⟩
/-- a sign in a text -/
theorem o_inX {c : Nat} {z : Str} : Op2 K l (fun x y H Q => ∃ (c : Nat) (z : Str), x = .str ⟨#[c]⟩ ∧ y = .str z ∧ Q (.bl (decide (c ∈ z.cps.toList))) H) (.str ⟨#[c]⟩) (.str z) (.bl (decide (c ∈ z.cps.toList))) := fun F M H v u Q eF eM dj rs f1 f2 k => by
  cases f1; cases f2
  exact ⟨c, z, rfl, rfl, k _ F H (.rf eF) (.bl _)⟩
theorem o_any {bs : List Bool} (h : Lq K l d (bs.map .bl)) : OpN K l (rAny K) [d] (.bl (bs.any id)) := fun F M H vs Q eF eM dj rs f k => by
  cases f with
  | cons f1 f2 =>
    cases f2
    obtain ⟨a, ws, rfl, sq, f⟩ := h.get eF eM rs f1
    have e := f.bls
    subst e
    exact ⟨a, bs, rfl, sq, k _ F H (.rf eF) (.bl _)⟩
theorem o_all {bs : List Bool} (h : Lq K l d (bs.map .bl)) : OpN K l (rAll K) [d] (.bl (bs.all id)) := fun F M H vs Q eF eM dj rs f k => by
  cases f with
  | cons f1 f2 =>
    cases f2
    obtain ⟨a, ws, rfl, sq, f⟩ := h.get eF eM rs f1
    have e := f.bls
    subst e
    exact ⟨a, bs, rfl, sq, k _ F H (.rf eF) (.bl _)⟩
theorem o_sum {ns : List Int} (h : Lq K l d (ns.map .int)) : OpN K l (rSum K) [d] (.int ns.sum) := fun F M H vs Q eF eM dj rs f k => by
  cases f with
  | cons f1 f2 =>
    cases f2
    obtain ⟨a, ws, rfl, sq, f⟩ := h.get eF eM rs f1
    have e := f.ints
    subst e
    exact ⟨a, ns, rfl, sq, k _ F H (.rf eF) (.int _)⟩
/-- the greatest, the least of ints -/
def maxL : List Int → Int
  | [] => 0
  | [a] => a
  | a :: b :: r => max a (maxL (b :: r))
def minL : List Int → Int
  | [] => 0
  | [a] => a
  | a :: b :: r => min a (minL (b :: r))
theorem maxL_le : ∀ {ns : List Int} {y : Int}, y ∈ ns → y ≤ maxL ns
  | [a], y, h => by rw [List.mem_singleton] at h; subst h; exact Int.le_refl _
  | a :: b :: r, y, h => by
    show y ≤ max a (maxL (b :: r))
    rcases List.mem_cons.mp h with rfl | h
    · exact Int.le_max_left _ _
    · exact Int.le_trans (maxL_le h) (Int.le_max_right _ _)
theorem maxL_mem : ∀ {ns : List Int}, ns ≠ [] → maxL ns ∈ ns
  | [], h => absurd rfl h
  | [a], _ => List.mem_singleton.mpr rfl
  | a :: b :: r, _ => by
    show max a (maxL (b :: r)) ∈ _
    have ih := maxL_mem (ns := b :: r) (by simp)
    rw [Int.max_def]
    split
    · exact List.mem_cons_of_mem _ ih
    · exact List.mem_cons_self
theorem minL_le : ∀ {ns : List Int} {y : Int}, y ∈ ns → minL ns ≤ y
  | [a], y, h => by rw [List.mem_singleton] at h; subst h; exact Int.le_refl _
  | a :: b :: r, y, h => by
    show min a (minL (b :: r)) ≤ y
    rcases List.mem_cons.mp h with rfl | h
    · exact Int.min_le_left _ _
    · exact Int.le_trans (Int.min_le_right _ _) (minL_le h)
theorem minL_mem : ∀ {ns : List Int}, ns ≠ [] → minL ns ∈ ns
  | [], h => absurd rfl h
  | [a], _ => List.mem_singleton.mpr rfl
  | a :: b :: r, _ => by
    show min a (minL (b :: r)) ∈ _
    have ih := minL_mem (ns := b :: r) (by simp)
    rw [Int.min_def]
    split
    · exact List.mem_cons_self
    · exact List.mem_cons_of_mem _ ih
theorem o_maxL {ns : List Int} (h : Lq K l d (ns.map .int)) (hn : ns ≠ []) : OpN K l (rMax K) [d] (.int (maxL ns)) := fun F M H vs Q eF eM dj rs f k => by
  cases f with
  | cons f1 f2 =>
    cases f2
    obtain ⟨a, ws, rfl, sq, f⟩ := h.get eF eM rs f1
    have e := f.ints
    subst e
    refine ⟨a, ns, rfl, sq, List.length_pos_iff.mpr hn, fun m hm hy => ?_⟩
    have e : m = maxL ns := Int.le_antisymm (maxL_le hm) (hy _ (maxL_mem hn))
    subst e
    exact k _ F H (.rf eF) (.int _)
theorem o_minL {ns : List Int} (h : Lq K l d (ns.map .int)) (hn : ns ≠ []) : OpN K l (rMin K) [d] (.int (minL ns)) := fun F M H vs Q eF eM dj rs f k => by
  cases f with
  | cons f1 f2 =>
    cases f2
    obtain ⟨a, ws, rfl, sq, f⟩ := h.get eF eM rs f1
    have e := f.ints
    subst e
    refine ⟨a, ns, rfl, sq, List.length_pos_iff.mpr hn, fun m hm hy => ?_⟩
    have e : m = minL ns := Int.le_antisymm (hy _ (minL_mem hn)) (minL_le hm)
    subst e
    exact k _ F H (.rf eF) (.int _)
/-- len of any -/
theorem o_lenV (h : Sv K l d ds) : OpN K l (rLen1 K) [d] (.int ds.length) := fun F M H vs Q eF eM dj rs f k => by
  cases f with
  | cons f1 f2 =>
    cases f2
    obtain ⟨a, ws, rfl, sq, f⟩ := h.get eF eM rs f1
    refine ⟨a, ws, rfl, sq, ?_⟩
    rw [f.length]
    exact k _ F H (.rf eF) (.int _)
/-- an item of any list -/
theorem o_ixV {i : Int} (h : Lq K l d1 ds) (hi : atI ds i = some d) : Op2 K l (rIxL K) d1 (.int i) d := fun F M H v u Q eF eM dj rs f1 f2 k => by
  cases f2
  obtain ⟨a, ws, rfl, sq, f⟩ := h.get eF eM rs f1
  obtain ⟨w, h1, h2⟩ := atI_fd f hi
  exact ⟨_, _, i, w, rfl, rfl, sq, h1, k w F H (.rf eF) h2⟩
/-- == of lists, one owned -/
theorem Lv.dp {F M H : Hp} {v : V} {ps : List PyData} (h : Lv K l d ds) (eF : Ex F H) (eM : Ex M H) (rs : Rs l F M) (f : Fd K F v d) (hp : D.pys ds = some ps) : Dp K H v (.list ps) := by
  obtain ⟨a, vs, rfl, sq, f⟩ := h.get eF eM rs f
  exact .lst (SqL.of sq) (FdAll.dp eF ds f hp)
theorem o_eqV {q : PyData} {ps : List PyData} (hd : Lv K l d1 ds) (h1 : D.pys ds = some ps) (h2 : d2.py = some q) (s1 : SeqAt.shaped (.list ps) = true) (s2 : SeqAt.shaped q = true) : Op2 K l (rEqD K) d1 d2 (.bl (PyData.eqv (.list ps) q)) := fun F M H v u Q eF eM dj rs f1 f2 k =>
  ⟨.list ps, q, hd.dp eF eM rs f1 h1, Fd.dp eF _ f2 h2, s1, s2, k _ F H (.rf eF) (.bl _)⟩
theorem o_neV {q : PyData} {ps : List PyData} (hd : Lv K l d1 ds) (h1 : D.pys ds = some ps) (h2 : d2.py = some q) (s1 : SeqAt.shaped (.list ps) = true) (s2 : SeqAt.shaped q = true) : Op2 K l (rNeD K) d1 d2 (.bl (!PyData.eqv (.list ps) q)) := fun F M H v u Q eF eM dj rs f1 f2 k =>
  ⟨.list ps, q, hd.dp eF eM rs f1 h1, Fd.dp eF _ f2 h2, s1, s2, k _ F H (.rf eF) (.bl _)⟩
end
section
variable {X : Cx} {W : WX} {g g' : Gm} {l l' : List Res} {Φ : Po} {e e2 a b c o : Expr} {es : List Expr} {d d1 d2 d3 : D} {ds ds1 ds2 : List D} {pos p p2 : Pos} {rest : List Stmt}
/-- x.append(e), x an owned list -/
theorem blk_add {k : Nat} {q : Addr} {apos cpos : Pos} (ho : Px X o g l (.adr q)) (he : Px X e g l d) (hk : l[k]? = some (ownL X.K q ds)) (hz : ds.length < sizeLine) (h : Blk X W rest (g) (l.set k (ownL X.K q (ds ++ [d]))) Φ)
    (hp : PS X (.Expr (.Call (.Attribute o "append" apos) [e] [] cpos) pos) (tDrop (tBM X.K "list" rAppend (wpE X o) (tCons (wpE X e) tNil))) := by exact ps_expr (pe_bm PySem.F.plainAttrs_list PySem.F.slot_list_append PySem.F.type_list_append mt_append pe_wp (pa_cons pe_wp pa_nil))) :
    Blk X W (.Expr (.Call (.Attribute o "append" apos) [e] [] cpos) pos :: rest) g l Φ := blk_app ho he hk hz h hp
/-- x += e, ints -/
theorem blk_aug {i : Nat} {x : Str} {m n r : Int} {op : Operator} {f : Int → Int → Int} {pos' : Pos} (hN : X.N.Nodup) (hi : X.N[i]? = some x) (hx : Loc X.env.scope x) (hv : nth g i = some (.int m)) (he : Px X e g l (.int n)) (ho : PIp X op (ipI f)) (hr : f m n = r) (h : Blk X W rest (g.set i (some (.int r))) l Φ)
    (hf : X.fn x = true ∨ X.env.scope.names.lookup x = some .local := by first | exact .inl rfl | exact .inr rfl | assumption) : Blk X W (.AugAssign (.Name x pos') op e pos :: rest) g l Φ := fun en T σ H D s mm => wpS_of (pss_cons (ps_aug hN hi hx pe_wp ho hf) pss_wp) (by
  obtain ⟨F0, M0, q0⟩ := id s
  obtain ⟨v, hv', fv⟩ := q0.sl.nth hv
  cases fv
  refine ⟨.int m, hv', ?_⟩
  refine he en T σ H _ s fun u H1 s1 => ?_
  obtain ⟨F, M, q⟩ := s1
  obtain ⟨f1, t⟩ := q.tm
  cases f1
  refine ⟨m, n, rfl, rfl, ?_⟩
  rw [hr]
  exact h en T (σ.set i (some (.int r))) H1 D ⟨F, M, (q.tmp t).slots (q.sl.set i (.int r))⟩ mm)
/-- a target = e, any target -/
theorem blk_asg {tg : Expr} {gt : TG} {is : List Nat} {es : List D} (he : Px X e g l d) (hg : PG X tg gt) (ht : Tg X.K gt is d es) (h : Blk X W rest (sets g is es) l Φ) (hs : swapsWithSole [tg] e pos.line X.env = pure false := by rfl) (hw : swappedStores [tg] e X.env = pure none := by rfl) (h1 : (assignEach [tg] X.env).map (·.2) = [assign tg X.env] := by rfl) :
    Blk X W (.Assign [tg] e pos :: rest) g l Φ := fun en T σ H D s mm => wpS_of (pss_cons (ps_asg pe_wp hg hs hw h1) pss_wp) (by
  refine he en T σ H _ s fun u H1 s1 => ?_
  obtain ⟨F, M, q⟩ := s1
  obtain ⟨f1, t⟩ := q.tm
  exact ht F H1 u σ _ q.exF f1 fun vs fvs => h en T _ H1 D ⟨F, M, (q.tmp t).slots (q.sl.sets fvs)⟩ mm)
/-- for x in xs, xs an owned list that stays as it is -/
theorem blk_forO {tg iter : Expr} {body : List Stmt} {gt : TG} {is : List Nat} {q : Addr} {kk : Nat} (I : Nat → Gm → List Res → Prop) (hp : PassesOwn (model X.prog X.w) X.A X.env X.xe) (hc : X.calm = true) (hi : Px X iter g l (.adr q)) (hg : PG X tg gt) (h0 : I 0 g l)
    (hk : ∀ i g' l', I i g' l' → l'[kk]? = some (ownL X.K q ds))
    (hs : ∀ i d g' l', ds[i]? = some d → I i g' l' → ∃ es, Tg X.K gt is d es ∧ Blk X W body (sets g' is es) l' { nx := I (i + 1), ct := I (i + 1), bk := fun g2 l2 => Blk X W rest g2 l2 Φ, rt := Φ.rt, ex := Φ.ex })
    (hd : ∀ g' l', I ds.length g' l' → Blk X W rest g' l' Φ) (hf : ∀ x, foldedSetIterable iter X.env x = pure x := by intro _; rfl) : Blk X W (.For tg iter body [] pos :: rest) g l Φ := fun en T σ H D s m => by
  refine wpS_of (pss_cons (ps_for hp hc (pi_list pe_wp) hg pss_wp hf) pss_wp) ?_
  refine hi en T σ H _ s fun v H1 s1 => ?_
  obtain ⟨F0, M0, q0⟩ := s1
  have fv := q0.tm.1
  cases fv
  obtain ⟨vs0, _, hp0⟩ := q0.rs.own (hk 0 g l h0) q0.exM
  refine ⟨q, rfl, ⟨vs0, SqL.of hp0⟩, ?_⟩
  refine ⟨fun i m σ' H' => i + m = ds.length ∧ ∃ g' l', I i g' l' ∧ S X.K en g' T l' σ' H', ⟨ds.length, by simp, g, l, h0, F0, M0, q0.tmp q0.tm.2⟩, fun i n σ' H' hW => ?_⟩
  obtain ⟨em, g', l', hI, F, M, qq⟩ := hW
  obtain ⟨vs, fvs, hq⟩ := qq.rs.own (hk i g' l' hI) qq.exM
  cases n with
  | zero =>
    have e : i = ds.length := by omega
    subst e
    exact .inl ⟨⟨vs, SqL.of hq, by rw [fvs.length]; exact Nat.le_refl _⟩, hd g' l' hI en T σ' H' D ⟨F, M, qq⟩ m⟩
  | succ n =>
    have hi : i < ds.length := by omega
    have hi' : i < vs.length := by rw [fvs.length]; exact hi
    refine .inr ⟨⟨vs, vs[i], SqL.of hq, List.getElem?_eq_getElem hi'⟩, fun σ2 H2 => ∃ g2 l2, I (i + 1) g2 l2 ∧ S X.K en g2 T l2 σ2 H2, fun σ2 H2 ⟨g2, l2, h1, h2⟩ => ⟨n, by omega, by omega, g2, l2, h1, h2⟩, fun x H2 hy => ?_⟩
    obtain ⟨rfl, hx⟩ := hy
    have hx := hx vs (SqL.of hq)
    obtain ⟨w, h1, h2⟩ := fvs.get (List.getElem?_eq_getElem hi)
    rw [hx] at h1
    cases h1
    obtain ⟨es, htg, hb⟩ := hs i ds[i] g' l' (List.getElem?_eq_getElem hi) hI
    refine htg F _ x σ' _ qq.exF h2 fun vs fvs => ?_
    exact hb en T _ _ _ ⟨F, M, qq.slots (qq.sl.sets fvs)⟩ ⟨fun g2 l2 σ2 H2 h s2 => ⟨g2, l2, h, s2⟩, m.rt, fun g2 l2 σ2 H2 h s2 => h en T σ2 H2 D s2 m, fun g2 l2 σ2 H2 h s2 => ⟨g2, l2, h, s2⟩, m.ex⟩
end
end Sx
set_option Elab.async false
set_option linter.all false
set_option maxRecDepth 100000
set_option maxHeartbeats 2000000
/-! == of data that are alike. -/
namespace Sx
open PySem L2
theorem Dj.r' {A B C : Hp} (h : Dj C (join A B)) : Dj C B := fun x o e => (join_none (h x o e)).2
theorem nth_set : ∀ {g : Gm} {i : Nat} {d : D}, i < g.length → nth (g.set i (some d)) i = some d
  | [], _, _, h => absurd h (Nat.not_lt_zero _)
  | o :: _, 0, d, _ => by cases o <;> rfl
  | o :: g, i + 1, d, h => by
    have := nth_set (g := g) (i := i) (d := d) (Nat.lt_of_succ_lt_succ h)
    cases o <;> exact this
/-- a datum of plain things, at most k deep -/
def Dp' (k : Nat) (d : D) : Prop := ∃ p, d.py = some p ∧ p.canLay0 = true ∧ p.depth ≤ k
theorem Dp'.non {k : Nat} : Dp' k .non := ⟨_, rfl, rfl, Nat.zero_le _⟩
theorem Dp'.bl {k : Nat} {b : Bool} : Dp' k (.bl b) := ⟨_, rfl, rfl, Nat.zero_le _⟩
theorem Dp'.int {k : Nat} {i : Int} : Dp' k (.int i) := ⟨_, rfl, rfl, Nat.zero_le _⟩
theorem Dp'.str {k : Nat} {x : Str} (h : PySem.PyData.strOk x = true := by decide +kernel) : Dp' k (.str x) := ⟨_, rfl, h, Nat.zero_le _⟩
theorem Dp'.all {k : Nat} : ∀ {ds : List D}, (∀ d ∈ ds, Dp' k d) → ∃ ps, D.pys ds = some ps ∧ PyData.canLayAll0 ps = true ∧ PyData.depthAll ps ≤ k
  | [], _ => ⟨[], rfl, rfl, Nat.zero_le _⟩
  | d :: r, h => by
    obtain ⟨p, h1, h2, h3⟩ := h d List.mem_cons_self
    obtain ⟨ps, h4, h5, h6⟩ := Dp'.all (ds := r) fun z hz => h z (List.mem_cons_of_mem _ hz)
    refine ⟨p :: ps, ?_, ?_, ?_⟩
    · show (D.py d).bind (fun a => (D.pys r).map fun b => a :: b) = _
      rw [h1, h4]
      rfl
    · show (PyData.canLay0 p && PyData.canLayAll0 ps) = true
      rw [h2, h5]
      rfl
    · show max (PyData.depth p) (PyData.depthAll ps) ≤ k
      exact Nat.max_le.mpr ⟨h3, h6⟩
theorem Dp'.lst {k : Nat} {ds : List D} (h : ∀ d ∈ ds, Dp' k d) : Dp' (k + 1) (.lst ds) := by
  obtain ⟨ps, h1, h2, h3⟩ := Dp'.all h
  refine ⟨.list ps, ?_, h2, Nat.succ_le_succ h3⟩
  show (D.pys ds).map PyData.list = _
  rw [h1]
  rfl
theorem Dp'.tup {k : Nat} {ds : List D} (h : ∀ d ∈ ds, Dp' k d) : Dp' (k + 1) (.tup ds) := by
  obtain ⟨ps, h1, h2, h3⟩ := Dp'.all h
  refine ⟨.tuple ps, ?_, h2, Nat.succ_le_succ h3⟩
  show (D.pys ds).map PyData.tuple = _
  rw [h1]
  rfl
theorem Dp'.mono {j k : Nat} {d : D} (h : Dp' j d) (e : j ≤ k) : Dp' k d := let ⟨p, h1, h2, h3⟩ := h; ⟨p, h1, h2, Nat.le_trans h3 e⟩
theorem Dp'.ints {k : Nat} {ns : List Int} : ∀ d ∈ ns.map D.int, Dp' k d := fun d h => by
  obtain ⟨n, _, rfl⟩ := List.mem_map.mp h
  exact .int
theorem Dp'.strs {k : Nat} {ns : List Str} (h : ∀ n ∈ ns, PySem.PyData.strOk n = true) : ∀ d ∈ ns.map D.str, Dp' k d := fun d hd => by
  obtain ⟨n, hn, rfl⟩ := List.mem_map.mp hd
  exact .str (h n hn)
section
variable {K : PySem.W.Frag} {l : List Res} {d d1 d2 : D} {ds es : List D} {k : Nat}
theorem shaped_of {p : PyData} (h1 : p.canLay0 = true) (h2 : p.depth ≤ k) (h3 : k ≤ 64) : SeqAt.shaped p = true := by
  show (p.canLay0 && decide (p.depth ≤ 64)) = true
  rw [h1, decide_eq_true (Nat.le_trans h2 h3)]
  rfl
theorem o_eqR (h : Dp' k d) (hk : k ≤ 64 := by decide) : Op2 K l (rEqD K) d d (.bl true) := by
  obtain ⟨p, h1, h2, h3⟩ := h
  exact (o_eqD h1 h1 (shaped_of h2 h3 hk) (shaped_of h2 h3 hk)).to (congrArg D.bl (PySem.SeqAt.eqv_refl p h2))
theorem o_neR (h : Dp' k d) (hk : k ≤ 64 := by decide) : Op2 K l (rNeD K) d d (.bl false) := by
  obtain ⟨p, h1, h2, h3⟩ := h
  refine (o_neD h1 h1 (shaped_of h2 h3 hk) (shaped_of h2 h3 hk)).to (congrArg D.bl ?_)
  rw [PySem.SeqAt.eqv_refl p h2]
  rfl
theorem o_eqW (hd : Lv K l d1 ds) (h : Dp' k (.lst ds)) (hk : k ≤ 64 := by decide) : Op2 K l (rEqD K) d1 (.lst ds) (.bl true) := by
  obtain ⟨p, h1, h2, h3⟩ := h
  have h1' := h1
  unfold D.py at h1'
  obtain ⟨ps, h4, rfl⟩ := Option.map_eq_some_iff.mp h1'
  exact (o_eqV hd h4 h1 (shaped_of h2 h3 hk) (shaped_of h2 h3 hk)).to (congrArg D.bl (PySem.SeqAt.eqv_refl _ h2))
theorem o_neW (hd : Lv K l d1 ds) (h : Dp' k (.lst ds)) (hk : k ≤ 64 := by decide) : Op2 K l (rNeD K) d1 (.lst ds) (.bl false) := by
  obtain ⟨p, h1, h2, h3⟩ := h
  have h1' := h1
  unfold D.py at h1'
  obtain ⟨ps, h4, rfl⟩ := Option.map_eq_some_iff.mp h1'
  refine (o_neV hd h4 h1 (shaped_of h2 h3 hk) (shaped_of h2 h3 hk)).to (congrArg D.bl ?_)
  rw [PySem.SeqAt.eqv_refl _ h2]
  rfl
end
section
variable {X : Cx} {W : WX} {g : Gm} {l l' : List Res} {Φ : Po}
/-- what is owned is given up -/
theorem S.dropO {K : PySem.W.Frag} {en : En} {T : Tm} {σ : L2.St} {H : Hp} (s : S K en g T (l' ++ l) σ H) : S K en g T l σ H := by
  obtain ⟨F, M, a⟩ := s
  obtain ⟨A, B, rfl, dj, r1, r2⟩ := a.rs.split
  exact ⟨F, B, a.exF, a.exM.joinR dj, Dj.r' a.dj, a.eF, a.nF, fun x o h => a.nM x o (by rw [join_r (dj.sym x o h)]; exact h), a.fr, a.sl, a.tm, r2⟩
theorem Blk.dropO {sts : List Stmt} (h : Blk X W sts g l Φ) : Blk X W sts g (l' ++ l) Φ := fun en T σ H D s m => h en T σ H D s.dropO m
theorem blk_frzAll {sts : List Stmt} (h : Blk X W sts g [] Φ) : Blk X W sts g l Φ := fun en T σ H D s m => h en T σ H D (S.dropO (l' := l) (by rw [List.append_nil]; exact s)) m
/-- x = [..] on one line, the list not changed behind it -/
theorem Blk.frz' {sts : List Stmt} {p : Addr} {ds : List D} {i : Nat} (hi : i < g.length) (k : Blk X W sts (g.set i (some (.lst ds))) l Φ) : Blk X W sts (g.set i (some (.adr p))) (ownL X.K p ds :: l) Φ := by
  refine Blk.frz (i := i) ?_ ?_
  · exact nth_set hi
  · rw [List.set_set]
    exact k
variable {rest : List Stmt} {pos : Pos} {c : Expr}
theorem blk_setLc {tg iter elt : Expr} {scope : Scope} {own : List (Str × Nat)} {gt : TG} {is : List Nat} {ds rs : List D} {i : Nat} {y : Str} {py spos : Pos} (hN : X.N.Nodup) (hy : X.N[i]? = some y) (hyl : X.env.scope.names.lookup y = some .local) (hil : i < g.length) (hc : X.calm = true)
    (hi : Itw X tg iter g l ds) (ok : BlkOk X.N X.env.scope scope own)
    (hg : Blkc X scope fun Y => PG Y tg gt) (his : ∀ i ∈ is, i ∈ own.map (·.2)) (hlen : rs.length = ds.length) (hz : rs.length ≤ sizeLine)
    (hs : ∀ (i : Nat) (d : D), ds[i]? = some d → ∃ es r, Tg X.K gt is d es ∧ rs[i]? = some r ∧ Blkc X scope fun Y => Px Y elt (sets (wipeG g (own.map (·.2))) is es) l r)
    (h : Blk X W rest (g.set i (some (.lst rs))) l Φ) (hsw : swapsWith (.ListComp elt [⟨tg, iter, [], 0⟩] scope pos) (some (.Name y py)) spos.line X.env = pure true := by rfl) (hf : ∀ x, foldedSetIterable iter X.env x = pure x := by intro _; rfl) : Blk X W (.Assign [.Name y py] (.ListComp elt [⟨tg, iter, [], 0⟩] scope pos) spos :: rest) g l Φ :=
  blk_setLcO hc hN hy hyl hsw hi ok hg his hlen hz hs (fun p => Blk.frz' hil h) hf
theorem blk_setLcIf {tg iter elt : Expr} {scope : Scope} {own : List (Str × Nat)} {gt : TG} {is : List Nat} {ds : List D} {rs : List (Option D)} {i : Nat} {y : Str} {py spos : Pos} (hN : X.N.Nodup) (hy : X.N[i]? = some y) (hyl : X.env.scope.names.lookup y = some .local) (hil : i < g.length) (hc : X.calm = true)
    (hi : Itw X tg iter g l ds) (ok : BlkOk X.N X.env.scope scope own)
    (hg : Blkc X scope fun Y => PG Y tg gt) (his : ∀ i ∈ is, i ∈ own.map (·.2)) (hlen : rs.length = ds.length) (hz : rs.length ≤ sizeLine)
    (hs : ∀ (i : Nat) (d : D), ds[i]? = some d → ∃ es k r, Tg X.K gt is d es ∧ rs[i]? = some (if k = true then some r else none) ∧ (Blkc X scope fun Y => Ts Y c (sets (wipeG g (own.map (·.2))) is es) l k) ∧ (k = true → Blkc X scope fun Y => Px Y elt (sets (wipeG g (own.map (·.2))) is es) l r))
    (h : Blk X W rest (g.set i (some (.lst (keepL rs)))) l Φ) (hsw : swapsWith (.ListComp elt [⟨tg, iter, [c], 0⟩] scope pos) (some (.Name y py)) spos.line X.env = pure true := by rfl) (hf : ∀ x, foldedSetIterable iter X.env x = pure x := by intro _; rfl) : Blk X W (.Assign [.Name y py] (.ListComp elt [⟨tg, iter, [c], 0⟩] scope pos) spos :: rest) g l Φ :=
  blk_setLcIfO hc hN hy hyl hsw hi ok hg his hlen hz hs (fun p => Blk.frz' hil h) hf
/-- a call of a def that takes nothing owned -/
theorem ev_callV {α : Type} {ok : α → Prop} {args : α → List D} {post : α → D → List Res → Prop} {x : Str} {ps : List Str} {k j : Nat} {e : Expr} {es : List Expr} {p : Pos}
    (G : Glo X.prog X.w X.K X.mg X.base k x ps (FnX X.K ok args (fun _ => []) post noE)) (hr : Room j X.A) (hj : k ≤ j) (a : α) (hok : ok a) (ha : Pa X (e :: es) g l (args a))
    (hg : Gl X x := by rfl) (hdb : (x == ("__debug__" : Str)) = false := by decide) (he : starEach (e :: es) X.env = (false, eval e X.env) :: starEach es X.env := by rfl) (hpl : (backTo pos (starEach es X.env)).any (·.1) = false := by rfl) :
    Ev X (.Call (.Name x p) (e :: es) [] pos) g l (fun d l2 => ∃ l', post a d l' ∧ l2 = l' ++ l) :=
  ev_call (lr := l) (own := fun _ => []) G hr hj a hok ha (fun d l' h => ⟨l', h, rfl⟩) hg hdb he hpl
end
end Sx
set_option Elab.async false
set_option linter.all false
set_option maxRecDepth 100000
set_option maxHeartbeats 2000000
/-! Slices with a step; dicts. -/
namespace Sx
open PySem L2 PyProof.Rows
/-! ### slices with a step -/
def pickN {α : Type} (xs : List α) (js : List Nat) : List α := js.filterMap (xs[·]?)
theorem pickN_cons {α : Type} (xs : List α) (j : Nat) (js : List Nat) : pickN xs (j :: js) = (match xs[j]? with | some x => [x] | none => []) ++ pickN xs js := by
  unfold pickN
  rw [List.filterMap_cons]
  cases xs[j]? <;> rfl
theorem pickN_map {α β : Type} (f : α → β) (xs : List α) : ∀ js, pickN (xs.map f) js = (pickN xs js).map f
  | [] => rfl
  | j :: js => by
    rw [pickN_cons, pickN_cons, pickN_map f xs js, List.getElem?_map, List.map_append]
    cases xs[j]? <;> rfl
theorem pickN_len {α : Type} (xs : List α) (js : List Nat) : (pickN xs js).length ≤ js.length := List.length_filterMap_le _ _
theorem pickN_mem {α : Type} {xs : List α} {js : List Nat} {x : α} (h : x ∈ pickN xs js) : x ∈ xs := by
  unfold pickN at h
  obtain ⟨j, _, e⟩ := List.mem_filterMap.mp h
  exact List.mem_of_getElem? e
theorem vals_get : ∀ {vs : List V} {us : List Value} (j : Nat), Vals vs us → (vs[j]? = none ∧ us[j]? = none) ∨ ∃ v u, vs[j]? = some v ∧ us[j]? = some u ∧ RelV v u
  | _, _, _, .nil => .inl ⟨rfl, rfl⟩
  | _, _, 0, .cons r _ => .inr ⟨_, _, rfl, rfl, r⟩
  | _, _, j + 1, .cons _ t => by
    rcases vals_get j t with ⟨h1, h2⟩ | ⟨v, u, h1, h2, h3⟩
    · exact .inl ⟨by rw [List.getElem?_cons_succ]; exact h1, by rw [List.getElem?_cons_succ]; exact h2⟩
    · exact .inr ⟨v, u, by rw [List.getElem?_cons_succ]; exact h1, by rw [List.getElem?_cons_succ]; exact h2, h3⟩
theorem vals_pick {vs : List V} {us : List Value} (h : Vals vs us) : ∀ js, Vals (pickN vs js) (pickN us js)
  | [] => .nil
  | j :: js => by
    rw [pickN_cons, pickN_cons]
    have ih := vals_pick h js
    rcases vals_get j h with ⟨h1, h2⟩ | ⟨v, u, h1, h2, h3⟩
    · rw [h1, h2]; exact ih
    · rw [h1, h2]; exact .cons h3 ih
theorem FdAll.pick {K : PySem.W.Frag} {F : Hp} {vs : List V} {ds : List D} (h : FdAll K F vs ds) : ∀ js, FdAll K F (pickN vs js) (pickN ds js)
  | [] => .nil
  | j :: js => by
    rw [pickN_cons, pickN_cons]
    have ih := FdAll.pick h js
    cases e : ds[j]? with
    | none =>
      have : vs[j]? = none := by
        rw [List.getElem?_eq_none_iff] at e ⊢
        rw [h.length]; exact e
      rw [this]; exact ih
    | some d =>
      obtain ⟨v, h1, h2⟩ := h.get e
      rw [h1]; exact .cons h2 ih
/-- which places xs[lo:hi:st] takes -/
def places (n : Nat) (lo hi st : Option Int) : List Nat := let b := sliceBounds lo hi st n; sliceRange b.1 b.2.1 b.2.2
theorem stride_at {xs : List Value} {lo hi st : Option Int} : slicePick xs.toArray lo hi st = (pickN xs (places xs.length lo hi st)).toArray := by
  unfold slicePick pickN places
  rw [List.size_toArray]
  congr 2
  funext j
  rw [List.getElem?_toArray]
/-- at most so many -/
theorem places_len {n : Nat} {lo hi st : Int} (h1 : 0 ≤ lo) (h2 : lo ≤ hi) (h3 : 0 < st) : (places n (some lo) (some hi) (some st)).length ≤ ((hi - lo + st - 1) / st).toNat := by
  unfold places sliceBounds
  simp only [Option.getD_some, if_pos h3, show ¬ lo < 0 by omega, show ¬ hi < 0 by omega, if_false]
  unfold sliceRange
  rw [List.length_map, List.length_range, if_pos h3]
  split
  · have : (max 0 (min hi (n : Int)) - max 0 (min lo (n : Int)) + st - 1) / st ≤ (hi - lo + st - 1) / st := Int.ediv_le_ediv h3 (by omega)
    omega
  · show (0 : Int).toNat ≤ _
    exact Nat.zero_le _
section
variable {X : Cx} {W : WX} {g g' : Gm} {l l' : List Res} {Φ : Po} {e e2 a b c o v : Expr} {es : List Expr} {d d1 d2 d3 : D} {ds ds1 ds2 : List D} {pos p p2 : Pos} {rest : List Stmt}
def tStride (K : PySem.W.Frag) (te : TE) (tl th ts : TO) : TE := fun σ H Q => te σ H fun x H1 => tl σ H1 fun i H2 => th σ H2 fun j H3 => ts σ H3 fun k H4 => k ≠ some 0 ∧ ∃ q xs, x = .ref q ∧ SqL K H4 q xs ∧ ((pickN xs (places xs.length i j k)).length ≤ sizeLine) ∧ ∀ r, H4 r = none → Q (.ref r) (upd H4 r (.lst (pickN xs (places xs.length i j k))))
theorem pe_stride {te : TE} {tl th ts : TO} {lo hi : Option Expr} {st : Expr} (he : PE X e te) (hl : PO X lo tl) (hu : PO X hi th) (hk : PO X (some st) ts) (hx : ∀ (x y : Value), subscripted (.Slice lo hi (some st) p2) false x y = operate [x, y] (getItem x y) := by intros; with_unfolding_all rfl) :
    PE X (.Subscript e (.Slice lo hi (some st) p2) pos) (tStride X.K te tl th ts) := by
  refine ⟨fun pins t0 σ H Q I h => ?_⟩
  refine Subscript_ (thn (he.run pins t0 σ H _ I h) fun w t1 ⟨x, H1, I1, r1, q1⟩ => ?_)
  refine wpAny_Slice ?_
  refine thn (hl.run pins t1 σ H1 _ I1 q1) fun vi t2 ⟨i, H2, I2, pi, q2⟩ => ?_
  refine thn (hu.run pins t2 σ H2 _ I2 q2) fun vj t3 ⟨j, H3, I3, pj, q3⟩ => ?_
  refine thn (hk.run pins t3 σ H3 _ I3 q3) fun vk t4 ⟨k, H4, I4, pk, nz, q, xs, ex, sq, hz, q4⟩ => ?_
  subst ex
  cases r1
  have J : Inv X pins σ H4 { t4 with heap := t4.heap.push { cls := .type "slice", data := .fields #[vi, vj, vk] } } := I4.kept (t' := t4.toks) fun _ _ z => Heap.get?_push_of_some _ z
  obtain ⟨us, rv, ht, hw⟩ := J.list sq
  have hlen := rv.length
  refine tail_any (T := "list") (id := "list.__getitem__") (ops := [.ref q, .ref t4.heap.objs.size]) ht.isList.typeIs slot_list_getitem.lookup ?_ (hx _ _)
  refine wpAny_getItem_list_slice ht.isList (Heap.IsSliceOf.new ..) pi pj pk nz ?_ (by rw [List.size_toArray] <;> omega)
  rw [stride_at, ← hlen]
  refine ⟨.ref _, _, J.laid (t' := t4.toks) (o := .lst (pickN xs (places xs.length i j k))) (fun _ _ z => Heap.get?_push_of_some _ z) (Nat.le_refl _) ?_, rfl, q4 _ (J.hok.fresh (Nat.le_refl _))⟩
  exact ⟨hz, _, 0, vals_pick rv _, Heap.get?_push_size _ rfl⟩
theorem ev_stride {lo hi : Option Expr} {st : Expr} {i j k : Option Int} (ho : Px X o g l d) (hd : Lq X.K l d ds) (hl : Pz X lo g l i) (hu : Pz X hi g l j) (hs : Pz X (some st) g l k) (hn : k ≠ some 0) (hz : (pickN ds (places ds.length i j k)).length ≤ sizeLine)
    (hx : ∀ (x y : Value), subscripted (.Slice lo hi (some st) p2) false x y = operate [x, y] (getItem x y) := by intros; with_unfolding_all rfl) : EvL X (.Subscript o (.Slice lo hi (some st) p2) pos) g l (pickN ds (places ds.length i j k)) := by
  obtain ⟨tl, pl, hl⟩ := hl
  obtain ⟨tu, pu, hu⟩ := hu
  obtain ⟨ts, ps, hs⟩ := hs
  refine ev_new (pe_stride pe_wp pl pu ps hx) fun en T σ H Q s kk => ?_
  refine ho en T σ H _ s fun v H1 s1 => ?_
  refine hl en _ σ H1 _ s1 fun H2 s2 => ?_
  refine hu en _ σ H2 _ s2 fun H3 s3 => ?_
  refine hs en _ σ H3 _ s3 fun H4 s4 => ?_
  obtain ⟨F, M, q⟩ := s4
  obtain ⟨a, vs, rfl, sq, f⟩ := hd.get q.exF q.exM q.rs q.tm.1
  refine ⟨hn, a, vs, rfl, sq, ?_, fun p hp => ?_⟩
  · rw [f.length, (f.pick _).length]; exact hz
  · rw [f.length]
    exact kk p _ H4 F M (q.tmp q.tm.2) (f.pick _) hp
/-! ### dicts -/
def valD {κ : Type} [DecidableEq κ] (kvs : List (κ × D)) (k : κ) : Option D := (kvs.find? fun kv => decide (kv.1 = k)).map (·.2)
def putKD {κ : Type} [DecidableEq κ] (kvs : List (κ × D)) (k : κ) (d : D) : List (κ × D) :=
  if (kvs.any fun kv => decide (kv.1 = k)) = true then kvs.map (fun kv => if kv.1 = k then (kv.1, d) else kv) else kvs ++ [(k, d)]
section
variable {K : PySem.W.Frag} {F : Hp} {κ : Type} [DecidableEq κ]
theorem FdFs.valV {k : κ} {d : D} : ∀ {vs : List (κ × V)} {kvs : List (κ × D)}, FdFs K F vs kvs → valD kvs k = some d → ∃ v, L2.valV vs k = some v ∧ Fd K F v d
  | _, _, .nil, h => by cases h
  | (n, v) :: vs, (_, d') :: kvs, .cons a b, h => by
    unfold valD at h
    unfold L2.valV
    rw [List.find?_cons] at h ⊢
    by_cases e : n = k
    · rw [decide_eq_true e] at h ⊢
      cases h
      exact ⟨v, rfl, a⟩
    · rw [decide_eq_false e] at h ⊢
      exact FdFs.valV b h
theorem FdFs.noV {k : κ} : ∀ {vs : List (κ × V)} {kvs : List (κ × D)}, FdFs K F vs kvs → valD kvs k = none → L2.valV vs k = none
  | _, _, .nil, h => rfl
  | (n, v) :: vs, (_, d') :: kvs, .cons a b, h => by
    unfold valD at h
    unfold L2.valV
    rw [List.find?_cons] at h ⊢
    by_cases e : n = k
    · rw [decide_eq_true e] at h
      cases h
    · rw [decide_eq_false e] at h ⊢
      exact FdFs.noV b h
theorem FdFs.anyK {k : κ} : ∀ {vs : List (κ × V)} {kvs : List (κ × D)}, FdFs K F vs kvs → (vs.any fun kv => decide (kv.1 = k)) = kvs.any fun kv => decide (kv.1 = k)
  | _, _, .nil => rfl
  | (n, v) :: vs, (_, d') :: kvs, .cons a b => by
    rw [List.any_cons, List.any_cons, FdFs.anyK b]
theorem FdFs.mapK {k : κ} {v : V} {d : D} (h : Fd K F v d) : ∀ {vs : List (κ × V)} {kvs : List (κ × D)}, FdFs K F vs kvs → FdFs K F (vs.map (fun kv => if kv.1 = k then (kv.1, v) else kv)) (kvs.map fun kv => if kv.1 = k then (kv.1, d) else kv)
  | _, _, .nil => .nil
  | (n, v') :: vs, (_, d') :: kvs, .cons a b => by
    rw [List.map_cons, List.map_cons]
    by_cases e : n = k
    · show FdFs K F ((if n = k then (n, v) else (n, v')) :: _) ((if n = k then (n, d) else (n, d')) :: _)
      rw [if_pos e, if_pos e]
      exact .cons h (FdFs.mapK h b)
    · show FdFs K F ((if n = k then (n, v) else (n, v')) :: _) ((if n = k then (n, d) else (n, d')) :: _)
      rw [if_neg e, if_neg e]
      exact .cons a (FdFs.mapK h b)
theorem FdFs.app1 {k : κ} {v : V} {d : D} (h : Fd K F v d) : ∀ {vs : List (κ × V)} {kvs : List (κ × D)}, FdFs K F vs kvs → FdFs K F (vs ++ [(k, v)]) (kvs ++ [(k, d)])
  | _, _, .nil => .cons h .nil
  | _, _, .cons a b => .cons a (FdFs.app1 h b)
theorem FdFs.putK {k : κ} {v : V} {d : D} {vs : List (κ × V)} {kvs : List (κ × D)} (f : FdFs K F vs kvs) (h : Fd K F v d) : FdFs K F (L2.putK vs k v) (putKD kvs k d) := by
  unfold L2.putK putKD
  rw [f.anyK]
  split
  · exact f.mapK h
  · exact f.app1 h
end
def ownD (K : PySem.W.Frag) (p : Addr) (kvs : List (Key × D)) : Res := ⟨fun F M => ∃ vs, FdFs K F vs kvs ∧ M = one p (.dK vs), fun e ⟨vs, h, m⟩ => ⟨vs, FdFs.mono e _ h, m⟩⟩
def ownT (K : PySem.W.Frag) (p : Addr) (kvs : List (List Key × D)) : Res := ⟨fun F M => ∃ vs, FdFs K F vs kvs ∧ M = one p (.dT vs), fun e ⟨vs, h, m⟩ => ⟨vs, FdFs.mono e _ h, m⟩⟩
/-- a dict with single keys: frozen or owned | .. with tuples as keys -/
inductive Dv (K : PySem.W.Frag) (l : List Res) : D → List (Key × D) → Prop
  | f {kvs : List (Key × D)} : Dv K l (.dK kvs) kvs
  | o {k : Nat} {p : Addr} {kvs : List (Key × D)} (h : l[k]? = some (ownD K p kvs)) : Dv K l (.adr p) kvs
inductive Dw (K : PySem.W.Frag) (l : List Res) : D → List (List Key × D) → Prop
  | f {kvs : List (List Key × D)} : Dw K l (.dT kvs) kvs
  | o {k : Nat} {p : Addr} {kvs : List (List Key × D)} (h : l[k]? = some (ownT K p kvs)) : Dw K l (.adr p) kvs
section
variable {K : PySem.W.Frag} {F M H : Hp} {v : V}
theorem Rs.ownD {k : Nat} {p : Addr} {kvs : List (Key × D)} (h : Rs l F M) (e : l[k]? = some (ownD K p kvs)) (m : Ex M H) : ∃ vs, FdFs K F vs kvs ∧ H p = some (.dK vs) := by
  obtain ⟨A, B, rfl, dj, ⟨vs, f, rfl⟩, _⟩ := Rs.at e h
  exact ⟨vs, f, m p _ (join_l one_same)⟩
theorem Rs.ownT {k : Nat} {p : Addr} {kvs : List (List Key × D)} (h : Rs l F M) (e : l[k]? = some (ownT K p kvs)) (m : Ex M H) : ∃ vs, FdFs K F vs kvs ∧ H p = some (.dT vs) := by
  obtain ⟨A, B, rfl, dj, ⟨vs, f, rfl⟩, _⟩ := Rs.at e h
  exact ⟨vs, f, m p _ (join_l one_same)⟩
theorem Dv.get {kvs : List (Key × D)} (h : Dv K l d kvs) (eF : Ex F H) (eM : Ex M H) (rs : Rs l F M) (f : Fd K F v d) : ∃ a vs, v = .ref a ∧ H a = some (.dK vs) ∧ FdFs K F vs kvs := by
  cases h with
  | f => cases f with | dK s a => exact ⟨_, _, rfl, eF _ _ s, a⟩
  | o h =>
    cases f
    obtain ⟨vs, f, hp⟩ := rs.ownD h eM
    exact ⟨_, vs, rfl, hp, f⟩
theorem Dw.get {kvs : List (List Key × D)} (h : Dw K l d kvs) (eF : Ex F H) (eM : Ex M H) (rs : Rs l F M) (f : Fd K F v d) : ∃ a vs, v = .ref a ∧ H a = some (.dT vs) ∧ FdFs K F vs kvs := by
  cases h with
  | f => cases f with | dT s a => exact ⟨_, _, rfl, eF _ _ s, a⟩
  | o h =>
    cases f
    obtain ⟨vs, f, hp⟩ := rs.ownT h eM
    exact ⟨_, vs, rfl, hp, f⟩
end
/-- an owned cell is written -/
theorem At.putOne {K : PySem.W.Frag} {en : En} {T : Tm} {σ : L2.St} {H F M : Hp} {k : Nat} {p : Addr} {r r' : Res} {o' : HO} (a : At K en g T l σ H F M) (e : l[k]? = some r) (h : ∀ A, r.P F A → ∃ o, A = one p o) (h' : r'.P F (one p o')) : ∃ M', At K en g T (l.set k r') σ (upd H p o') F M' := by
  obtain ⟨A, B, rfl, dj, pA, put⟩ := Rs.at e a.rs
  obtain ⟨o, rfl⟩ := h A pA
  have hp : H p = some o := a.exM p _ (join_l one_same)
  have hF : F p = none := a.dj.sym p o (join_l one_same)
  have dB : ∀ u, Dj (one p u) B := fun u x w h => by
    obtain ⟨rfl, _⟩ := one_some h
    exact dj x _ one_same
  have hB : B p = none := dj p _ one_same
  have pM : en.H p = none ∨ ∃ u, en.M p = some u := a.nM p _ (join_l one_same)
  refine ⟨join (one p o') B, a.exF.mut hF, ?_, ?_, a.eF, a.nF, ?_, ?_, a.sl, a.tm, put _ _ F .rf h' (dB _)⟩
  · intro x w h
    rcases join_some h with q | ⟨n, q⟩
    · obtain ⟨rfl, rfl⟩ := one_some q
      exact upd_same
    · have ne : x ≠ p := fun z => by rw [z, hB] at q; cases q
      rw [upd_ne ne]
      exact a.exM x w (by rw [join_r (one_ne ne)]; exact q)
  · intro x w h
    have ne : x ≠ p := fun z => by rw [z, hF] at h; cases h
    have := a.dj x w h
    rw [join_r (one_ne ne)] at this ⊢
    exact this
  · intro x w h
    rcases join_some h with q | ⟨n, q⟩
    · obtain ⟨rfl, rfl⟩ := one_some q
      exact pM
    · have ne : x ≠ p := fun z => by rw [z, hB] at q; cases q
      exact a.nM x w (by rw [join_r (one_ne ne)]; exact q)
  · intro x w h1 h2
    have ne : x ≠ p := fun z => by
      subst z
      rcases pM with q | ⟨u, q⟩
      · rw [h1] at q; cases q
      · rw [h2] at q; cases q
    rw [upd_ne ne]
    exact a.fr x w h1 h2
/-- a key as a datum -/
def kD : Key → D
  | .inl i => .int i
  | .inr x => .str x
theorem Fd.key {K : PySem.W.Frag} {F : Hp} {v : V} {k : Key} (f : Fd K F v (kD k)) : v = kV k := by
  cases k with
  | inl i => cases f; rfl
  | inr x => cases f; rfl
theorem Px.units (hu : X.A.units + 64 < cLine) : X.A.units + 1 < cLine := by omega
/-- d[k], d[k] of a dict with text or int keys -/
theorem px_dget {kvs : List (Key × D)} {k : Key} (hu : X.A.units + 1 < cLine) (ho : Px X o g l d1) (hd : Dv X.K l d1 kvs) (hi : Px X e g l d2) (hk : d2 = kD k) (hv : valD kvs k = some d) (hs : NoSl e := by intro _ _; rfl) : Px X (.Subscript o e pos) g l d := fun en T σ H Q s kk => wpE_of (pe_dget hu pe_wp pe_wp hs) (by
  subst hk
  refine ho en T σ H _ s fun v H1 s1 => ?_
  refine hi en _ σ H1 _ s1 fun u H2 s2 => ?_
  obtain ⟨F, M, q⟩ := s2
  obtain ⟨a, vs, rfl, hp, f⟩ := hd.get q.exF q.exM q.rs q.tm.2.1
  obtain ⟨w, h1, h2⟩ := f.valV hv
  refine ⟨a, w, rfl, .inl ⟨vs, k, .inl hp, q.tm.1.key, h1.symm⟩, kk w H2 ⟨F, M, q.tmp ⟨h2, q.tm.2.2⟩⟩⟩)
/-- k in d, k not in d -/
theorem px_din {kvs : List (Key × D)} {k : Key} (hu : X.A.units + 1 < cLine) (hi : Px X e g l d2) (hk : d2 = kD k) (ho : Px X o g l d1) (hd : Dv X.K l d1 kvs) (hm : behindInMarks .In o = false := by first | exact nomark _ | rfl) : Px X (.Compare e [.In] [o] pos) g l (.bl (valD kvs k).isSome) := fun en T σ H Q s kk => wpE_of (pe_cmp (pc_din hu pe_wp pe_wp) hm) (by
  subst hk
  refine hi en T σ H _ s fun u H1 s1 => ?_
  refine ho en _ σ H1 _ s1 fun v H2 s2 => ?_
  obtain ⟨F, M, q⟩ := s2
  obtain ⟨a, vs, rfl, hp, f⟩ := hd.get q.exF q.exM q.rs q.tm.1
  have e : (L2.valV vs k).isSome = (valD kvs k).isSome := by
    cases z : valD kvs k with
    | none => rw [f.noV z]; rfl
    | some d => obtain ⟨w, h1, _⟩ := f.valV z; rw [h1]; rfl
  refine ⟨a, _, rfl, .inl ⟨vs, k, .inl hp, q.tm.2.1.key, rfl⟩, ?_⟩
  rw [e]
  exact kk _ H2 ⟨F, M, q.tmp ⟨.bl _, q.tm.2.2⟩⟩)
/-- a new dict | of one pair -/
theorem ev_newD {kvs : List (Key × D)} {t : TE} (he : PE X e t) (h : ∀ en T σ H (Q : VK), S X.K en g T l σ H → (∀ p ws H1 F M, At X.K en g T l σ H1 F M → FdFs X.K F ws kvs → H1 p = none → Q (.ref p) (upd H1 p (.dK ws))) → t σ H Q) : Ev X e g l (fun d' l' => ∃ p, d' = .adr p ∧ l' = ownD X.K p kvs :: l) := fun en T σ H Q s k => wpE_of he (h en T σ H Q s fun p ws H1 F M q f hp => by
  have q3 := q.newO (r := ownD X.K p kvs) (A := one p (.dK ws)) (H' := upd H1 p (.dK ws)) (.new hp) (fun x o z => by obtain ⟨rfl, rfl⟩ := one_some z; exact upd_same) (fun x o z => by obtain ⟨rfl, rfl⟩ := one_some z; exact hp) ⟨ws, f, rfl⟩
  exact k _ (.adr p) _ _ ⟨p, rfl, rfl⟩ ⟨F, _, q3.tmp ⟨.adr p, q.tm⟩⟩)
theorem ev_d0 : Ev X (.Dict [] [] pos) g l (fun d' l' => ∃ p, d' = .adr p ∧ l' = ownD X.K p [] :: l) := ev_newD pe_dnewK fun en T σ H Q s k p hp => by
  obtain ⟨F, M, q⟩ := s
  exact k p [] H F M q .nil hp
theorem Ev.frzD {kvs : List (Key × D)} (h : Ev X e g l (fun d' l' => ∃ p, d' = .adr p ∧ l' = ownD X.K p kvs :: l)) : Px X e g l (.dK kvs) := fun en T σ H Q s k => h en T σ H Q s fun v d l' H' p s' => by
  obtain ⟨p, rfl, rfl⟩ := p
  obtain ⟨F, M, q⟩ := s'
  have hv := q.tm.1
  cases hv
  obtain ⟨F', M', q', f, _⟩ := q.frz (P := fun F' => Fd X.K F' (.ref p) (.dK kvs)) fun A hA => by
    obtain ⟨vs, f, rfl⟩ := hA
    have hF : F p = none := by
      obtain ⟨A, B, rfl, _, ⟨_, _, rfl⟩, _⟩ := q.rs
      exact q.dj.sym p _ (join_l one_same)
    exact .dK (by rw [join_r hF]; exact one_same) (FdFs.mono (fun x o h => join_l h) _ f)
  exact k _ H' ⟨F', M', q'.tmp ⟨f, q'.tm.2⟩⟩
theorem Blk.frzD {sts : List Stmt} {p : Addr} {kvs : List (Key × D)} {i : Nat} (hi : nth g i = some (.adr p)) (k : Blk X W sts (g.set i (some (.dK kvs))) l Φ) : Blk X W sts g (ownD X.K p kvs :: l) Φ := fun en T σ H D s m => by
  obtain ⟨F, M, q⟩ := s
  obtain ⟨v, hv, fv⟩ := q.sl.nth hi
  cases fv
  obtain ⟨F', M', q', f, _⟩ := q.frz (P := fun F' => Fd X.K F' (.ref p) (.dK kvs)) fun A hA => by
    obtain ⟨vs, f, rfl⟩ := hA
    have hF : F p = none := by
      obtain ⟨A, B, rfl, _, ⟨_, _, rfl⟩, _⟩ := q.rs
      exact q.dj.sym p _ (join_l one_same)
    exact .dK (by rw [join_r hF]; exact one_same) (FdFs.mono (fun x o h => join_l h) _ f)
  refine k en T σ H D ⟨F', M', q'.slots ?_⟩ m
  have w := q'.sl.set i f
  have e : σ.set i (some (.ref p)) = σ := by
    apply List.ext_getElem?
    intro j
    by_cases z : j = i
    · subst z
      obtain ⟨h1, h2⟩ := List.getElem?_eq_some_iff.mp hv
      rw [List.getElem?_set_self h1, hv]
    · rw [List.getElem?_set_ne (Ne.symm z)]
  rw [e] at w
  exact w
/-- {k: v} -/
theorem ev_d1 {k : Key} {ke : Expr} (hk : Px X ke g l d2) (hkk : d2 = kD k) (hv : Px X v g l d) : Ev X (.Dict [some ke] [v] pos) g l (fun d' l' => ∃ p, d' = .adr p ∧ l' = ownD X.K p [(k, d)] :: l) := fun en T σ H Q s kk => wpE_of (pe_disp (pps_cons pe_wp pe_wp pps_nil) rfl rfl (by simp) (Nat.le_of_ble_eq_true rfl)) (by
  subst hkk
  intro p hp
  obtain ⟨F0, M0, q0⟩ := s
  have q1 := q0.newO (r := ownD X.K p []) (A := one p (.dK [])) (H' := upd H p (.dK [])) (.new hp) (fun x o z => by obtain ⟨rfl, rfl⟩ := one_some z; exact upd_same) (fun x o z => by obtain ⟨rfl, rfl⟩ := one_some z; exact hp) ⟨[], .nil, rfl⟩
  refine hk.fr en T σ _ _ ⟨F0, _, q1⟩ fun u H2 s2 => ?_
  refine hv.fr en _ σ _ _ s2 fun w H3 s3 => ?_
  obtain ⟨F, M, q⟩ := s3
  obtain ⟨vs, fv, hp3⟩ := q.rs.ownD (k := 0) rfl q.exM
  cases fv
  have ek : u = kV k := q.tm.2.1.key
  subst ek
  refine ⟨hp3, [(k, w)], rfl, Nat.le_of_ble_eq_true rfl, ?_⟩
  have e : mergeK [] [(k, w)] = [(k, w)] := rfl
  rw [e]
  obtain ⟨M', q'⟩ := (q.tmp (T' := T) q.tm.2.2).putOne (k := 0) (p := p) (r' := ownD X.K p [(k, d)]) (o' := .dK [(k, w)]) rfl (fun A ⟨_, _, e⟩ => ⟨_, e⟩) ⟨_, .cons q.tm.1 .nil, rfl⟩
  exact kk _ _ _ _ ⟨p, rfl, rfl⟩ ⟨F, M', q'.tmp ⟨.adr p, q.tm.2.2⟩⟩)
/-- d[k] = v, d an owned dict -/
theorem blk_dput {kvs : List (Key × D)} {n : Nat} {q : Addr} {k : Key} {pos' : Pos} (hu : X.A.units + 1 < cLine) (hv : Px X v g l d) (ho : Px X o g l (.adr q)) (hi : Px X e g l d2) (hk : d2 = kD k) (hl : l[n]? = some (ownD X.K q kvs)) (hz : kvs.length < 10000)
    (h : Blk X W rest g (l.set n (ownD X.K q (putKD kvs k d))) Φ) (hs : swapsWith v (some (.Subscript o e pos')) pos.line X.env = pure false := by rfl) : Blk X W (.Assign [.Subscript o e pos'] v pos :: rest) g l Φ := fun en T σ H D s mm => wpS_of (pss_cons (ps_dput hu pe_wp pe_wp pe_wp hs) pss_wp) (by
  subst hk
  refine hv en T σ H _ s fun w H1 s1 => ?_
  refine ho en _ σ H1 _ s1 fun u H2 s2 => ?_
  refine hi en _ σ H2 _ s2 fun y H3 s3 => ?_
  obtain ⟨F, M, a⟩ := s3
  have fu := a.tm.2.1
  cases fu
  obtain ⟨vs, fv, hp⟩ := a.rs.ownD hl a.exM
  refine ⟨q, _, rfl, .inl ⟨vs, k, hp, a.tm.1.key, ?_, rfl⟩, ?_⟩
  · rw [fv.length]; exact Nat.lt_of_lt_of_le hz (by decide)
  · obtain ⟨M', a'⟩ := (a.tmp (T' := T) a.tm.2.2.2).putOne (k := n) (p := q) (r' := ownD X.K q (putKD kvs k d)) (o' := .dK (L2.putK vs k w)) hl (fun A ⟨_, _, e⟩ => ⟨_, e⟩) ⟨_, fv.putK a.tm.2.2.1, rfl⟩
    exact h en T σ _ D ⟨F, M', a'⟩ mm)
/-- dict(d) -/
theorem ev_dictOf {kvs : List (Key × D)} {e1 : Expr} (ha : Px X e1 g l d) (hd : Dv X.K l d kvs) (hm : X.mg "dict" = none) (hg : Gl X "dict" := by rfl) (hs : starEach [e1] X.env = (false, eval e1 X.env) :: starEach [] X.env := by rfl) : Ev X (.Call (.Name "dict" p) [e1] [] pos) g l (fun d' l' => ∃ p, d' = .adr p ∧ l' = ownD X.K p kvs :: l) :=
  ev_newD (pe_callTy call_dictD hg hm (by decide +kernel) (pa_wp (es := [e1])) (by decide) (by decide) hs rfl) fun en T σ H Q s k => by
  refine pa_c ha pa_n hs en T σ H _ s fun vs H1 s1 => ?_
  obtain ⟨F, M, q⟩ := s1
  obtain ⟨f, t⟩ := q.tm
  cases f with
  | cons f1 f2 =>
    cases f2
    obtain ⟨a, ws, rfl, sq, f⟩ := hd.get q.exF q.exM q.rs f1
    exact ⟨a, ws, rfl, .inl sq, fun p hp => k p _ H1 F M (q.tmp t) f hp⟩
theorem px_dictOf {kvs : List (Key × D)} {e1 : Expr} (ha : Px X e1 g l d) (hd : Dv X.K l d kvs) (hm : X.mg "dict" = none) (hg : Gl X "dict" := by rfl) (hs : starEach [e1] X.env = (false, eval e1 X.env) :: starEach [] X.env := by rfl) : Px X (.Call (.Name "dict" p) [e1] [] pos) g l (.dK kvs) := (ev_dictOf ha hd hm hg hs).frzD
end
section
variable {K : PySem.W.Frag} {l : List Res} {d1 d2 : D}
/-- == of dicts that are alike, flat things in them -/
theorem FdFs.flatEq {F : Hp} : ∀ {vs ws : List (Key × V)} {kvs : List (Key × D)}, FdFs K F vs kvs → FdFs K F ws kvs → (kvs.all fun kv => kv.2.v.isSome && flatB (kv.2.v.getD .non)) = true → vs = ws ∧ (∀ p ∈ vs, flatB p.2 = true)
  | _, _, _, .nil, .nil, _ => ⟨rfl, fun p h => by cases h⟩
  | _, _, _, .cons (n := n) (v := v1) (d := d) a b, .cons (v := v2) c e, h => by
    rw [List.all_cons] at h
    obtain ⟨h1, h2⟩ := Bool.and_eq_true_iff.mp h
    obtain ⟨h3, h4⟩ := Bool.and_eq_true_iff.mp h1
    obtain ⟨v0, hv⟩ := Option.isSome_iff_exists.mp h3
    have h5 : flatB (d.v.getD .non) = true := h4
    rw [hv] at h5
    have e1 := D.v_eq a hv
    have e2 := D.v_eq c hv
    subst e1; subst e2
    obtain ⟨i1, i2⟩ := FdFs.flatEq b e h2
    subst i1
    refine ⟨rfl, fun p hp => ?_⟩
    rcases List.mem_cons.mp hp with rfl | hp
    · exact h5
    · exact i2 p hp
theorem valV_mem {κ : Type} [DecidableEq κ] : ∀ {vs : List (κ × V)}, (vs.map (·.1)).Nodup → ∀ p ∈ vs, L2.valV vs p.1 = some p.2
  | q :: r, nd, p, h => by
    unfold L2.valV
    rw [List.find?_cons]
    rw [List.map_cons, List.nodup_cons] at nd
    rcases List.mem_cons.mp h with rfl | h
    · rw [decide_eq_true rfl]; rfl
    · have ne : q.1 ≠ p.1 := fun e => nd.1 (by rw [e]; exact List.mem_map_of_mem h)
      rw [decide_eq_false ne]
      exact valV_mem nd.2 p h
theorem o_neDict {kvs : List (Key × D)} (h1 : Dv K l d1 kvs) (h2 : Dv K l d2 kvs) (hf : (kvs.all fun kv => kv.2.v.isSome && flatB (kv.2.v.getD .non)) = true) (nd : (kvs.map (·.1)).Nodup) : Op2 K l rNeDA d1 d2 (.bl false) := fun F M H v u Q eF eM dj rs f1 f2 k => by
  obtain ⟨a, vs, rfl, ha, fa⟩ := h1.get eF eM rs f1
  obtain ⟨b, ws, rfl, hb, fb⟩ := h2.get eF eM rs f2
  obtain ⟨e, fl⟩ := fa.flatEq fb hf
  subst e
  exact ⟨a, b, vs, vs, rfl, rfl, ha, hb, rfl, fun p hp => ⟨valV_mem (by rw [fa.names]; exact nd) p hp, fl p hp⟩, k _ F H (.rf eF) (.bl _)⟩
theorem o_eqDict {kvs : List (Key × D)} (h1 : Dv K l d1 kvs) (h2 : Dv K l d2 kvs) (hf : (kvs.all fun kv => kv.2.v.isSome && flatB (kv.2.v.getD .non)) = true) (nd : (kvs.map (·.1)).Nodup) : Op2 K l rEqDA d1 d2 (.bl true) := fun F M H v u Q eF eM dj rs f1 f2 k => by
  obtain ⟨a, vs, rfl, ha, fa⟩ := h1.get eF eM rs f1
  obtain ⟨b, ws, rfl, hb, fb⟩ := h2.get eF eM rs f2
  obtain ⟨e, fl⟩ := fa.flatEq fb hf
  subst e
  exact ⟨a, b, vs, vs, rfl, rfl, ha, hb, rfl, fun p hp => ⟨valV_mem (by rw [fa.names]; exact nd) p hp, fl p hp⟩, k _ F H (.rf eF) (.bl _)⟩
end
/-- a def that gives back a new list -/
abbrev Fr (K : PySem.W.Frag) {α : Type} (ok : α → Prop) (args : α → List D) (f : α → List D) : Sp := FnX K ok args (fun _ => []) (fun a d l => ∃ p, d = .adr p ∧ l = [ownL K p (f a)]) noE
section
variable {X : Cx} {g : Gm} {l : List Res} {e o : Expr} {es : List Expr} {p pos apos : Pos} {α : Type} {ok : α → Prop} {args : α → List D} {f : α → List D} {x m : Str} {ps : List Str} {k j : Nat}
theorem ev_callL (G : Glo X.prog X.w X.K X.mg X.base k x ps (Fr X.K ok args f)) (hr : Room j X.A) (hj : k ≤ j) (a : α) (hok : ok a) (ha : Pa X (e :: es) g l (args a))
    (hg : Gl X x := by rfl) (hdb : (x == ("__debug__" : Str)) = false := by decide) (he : starEach (e :: es) X.env = (false, eval e X.env) :: starEach es X.env := by rfl) (hpl : (backTo pos (starEach es X.env)).any (·.1) = false := by rfl) :
    EvL X (.Call (.Name x p) (e :: es) [] pos) g l (f a) :=
  ev_call (lr := l) (own := fun _ => []) G hr hj a hok ha (fun d l' ⟨q, e1, e2⟩ => ⟨q, e1, by rw [e2]; rfl⟩) hg hdb he hpl
theorem px_callL (G : Glo X.prog X.w X.K X.mg X.base k x ps (Fr X.K ok args f)) (hr : Room j X.A) (hj : k ≤ j) (a : α) (hok : ok a) (ha : Pa X (e :: es) g l (args a))
    (hg : Gl X x := by rfl) (hdb : (x == ("__debug__" : Str)) = false := by decide) (he : starEach (e :: es) X.env = (false, eval e X.env) :: starEach es X.env := by rfl) (hpl : (backTo pos (starEach es X.env)).any (·.1) = false := by rfl) :
    Px X (.Call (.Name x p) (e :: es) [] pos) g l (.lst (f a)) := (ev_callL G hr hj a hok ha hg hdb he hpl).frz
end
end Sx
set_option Elab.async false
set_option linter.all false
set_option maxRecDepth 100000
set_option maxHeartbeats 2000000
/-! d.get(k), d.get(k, x); a new dict asked at once. -/
namespace Sx
open PySem L2 PyProof.Rows
section
variable {X : Cx} {W : WX} {g g' : Gm} {l l' : List Res} {Φ : Po} {e e2 a b c o v : Expr} {es : List Expr} {d d1 d2 d3 : D} {pos p p2 apos : Pos} {rest : List Stmt}
theorem FdFs.valO {K : PySem.W.Frag} {F : Hp} {k : Key} {vs : List (Key × V)} {kvs : List (Key × D)} (f : FdFs K F vs kvs) {z : V} {dz : D} (h : Fd K F z dz) : Fd K F ((L2.valV vs k).getD z) ((valD kvs k).getD dz) := by
  cases q : valD kvs k with
  | none => rw [f.noV q]; exact h
  | some d => obtain ⟨w, h1, h2⟩ := f.valV q; rw [h1]; exact h2
theorem px_dget1 {kvs : List (Key × D)} {k : Key} (hu : X.A.units + 1 < cLine) (ho : Px X o g l d1) (hd : Dv X.K l d1 kvs) (hi : Px X e g l d2) (hk : d2 = kD k) (hm : M1 X o "get" apos e pos := by constructor <;> rfl) : Px X (.Call (.Attribute o "get" apos) [e] [] pos) g l ((valD kvs k).getD .non) := fun en T σ H Q s kk => wpE_of (pe_dget1 hu pe_wp pe_wp hm) (by
  subst hk
  refine ho en T σ H _ s fun v H1 s1 => ?_
  obtain ⟨F1, M1, q1⟩ := id s1
  obtain ⟨a, vs, rfl, hp, f⟩ := hd.get q1.exF q1.exM q1.rs q1.tm.1
  refine ⟨a, rfl, .inl ⟨vs, .inl hp⟩, ?_⟩
  refine hi en _ σ H1 _ s1 fun u H2 s2 => ?_
  obtain ⟨F, M, q⟩ := s2
  obtain ⟨a2, vs, e2, hp, f⟩ := hd.get q.exF q.exM q.rs q.tm.2.1
  cases e2
  exact ⟨_, .inl ⟨vs, k, .inl hp, q.tm.1.key, rfl⟩, kk _ H2 ⟨F, M, q.tmp ⟨f.valO .non, q.tm.2.2⟩⟩⟩)
theorem px_dget2 {kvs : List (Key × D)} {k : Key} (hu : X.A.units + 1 < cLine) (ho : Px X o g l d1) (hd : Dv X.K l d1 kvs) (hi : Px X e g l d2) (hk : d2 = kD k) (hv : Px X v g l d3) (hm : M2 X o "get" apos e v pos := by constructor <;> rfl) : Px X (.Call (.Attribute o "get" apos) [e, v] [] pos) g l ((valD kvs k).getD d3) := fun en T σ H Q s kk => wpE_of (pe_dget2 hu pe_wp pe_wp pe_wp hm) (by
  subst hk
  refine ho en T σ H _ s fun v H1 s1 => ?_
  obtain ⟨F1, M1, q1⟩ := id s1
  obtain ⟨a, vs, rfl, hp, f⟩ := hd.get q1.exF q1.exM q1.rs q1.tm.1
  refine ⟨a, rfl, .inl ⟨vs, .inl hp⟩, ?_⟩
  refine hi en _ σ H1 _ s1 fun u H2 s2 => ?_
  refine hv en _ σ H2 _ s2 fun z H3 s3 => ?_
  obtain ⟨F, M, q⟩ := s3
  obtain ⟨a2, vs, e2, hp, f⟩ := hd.get q.exF q.exM q.rs q.tm.2.2.1
  cases e2
  exact ⟨_, .inl ⟨vs, k, .inl hp, q.tm.2.1.key, rfl⟩, kk _ H3 ⟨F, M, q.tmp ⟨f.valO q.tm.1, q.tm.2.2.2⟩⟩⟩)
theorem ts_din {kvs : List (Key × D)} {k : Key} (hu : X.A.units + 1 < cLine) (hi : Px X e g l d2) (hk : d2 = kD k) (ho : Px X o g l d1) (hd : Dv X.K l d1 kvs) (hm : behindInMarks .In o = false := by first | exact nomark _ | rfl) : Ts X (.Compare e [.In] [o] pos) g l (valD kvs k).isSome := fun en T σ H Q s kk => wpT_of (pt_cmp (pc_din hu pe_wp pe_wp) hm) (by
  subst hk
  refine hi en T σ H _ s fun u H1 s1 => ?_
  refine ho en _ σ H1 _ s1 fun v H2 s2 => ?_
  obtain ⟨F, M, q⟩ := s2
  obtain ⟨a, vs, rfl, hp, f⟩ := hd.get q.exF q.exM q.rs q.tm.1
  have e : (L2.valV vs k).isSome = (valD kvs k).isSome := by
    cases z : valD kvs k with
    | none => rw [f.noV z]; rfl
    | some d => obtain ⟨w, h1, _⟩ := f.valV z; rw [h1]; rfl
  refine ⟨a, _, rfl, .inl ⟨vs, k, .inl hp, q.tm.2.1.key, rfl⟩, _, rfl, ?_⟩
  rw [e]
  exact kk H2 ⟨F, M, q.tmp q.tm.2.2⟩)
theorem ts_dnotin {kvs : List (Key × D)} {k : Key} (hu : X.A.units + 1 < cLine) (hi : Px X e g l d2) (hk : d2 = kD k) (ho : Px X o g l d1) (hd : Dv X.K l d1 kvs) (hm : behindInMarks .NotIn o = false := by first | exact nomark _ | rfl) : Ts X (.Compare e [.NotIn] [o] pos) g l (!(valD kvs k).isSome) := fun en T σ H Q s kk => wpT_of (pt_cmp (pc_dnotin hu pe_wp pe_wp) hm) (by
  subst hk
  refine hi en T σ H _ s fun u H1 s1 => ?_
  refine ho en _ σ H1 _ s1 fun v H2 s2 => ?_
  obtain ⟨F, M, q⟩ := s2
  obtain ⟨a, vs, rfl, hp, f⟩ := hd.get q.exF q.exM q.rs q.tm.1
  have e : (L2.valV vs k).isSome = (valD kvs k).isSome := by
    cases z : valD kvs k with
    | none => rw [f.noV z]; rfl
    | some d => obtain ⟨w, h1, _⟩ := f.valV z; rw [h1]; rfl
  refine ⟨a, _, rfl, .inl ⟨vs, k, .inl hp, q.tm.2.1.key, rfl⟩, _, rfl, ?_⟩
  rw [e]
  exact kk H2 ⟨F, M, q.tmp q.tm.2.2⟩)
/-- e is a new dict, asked at once for a thing that is flat -/
theorem px_dget1N {R : List (Key × D) → Prop} {k : Key} {v0 : V} (hu : X.A.units + 1 < cLine) (ho : Ev X o g l (fun d l' => ∃ p kvs, R kvs ∧ d = .adr p ∧ l' = ownD X.K p kvs :: l)) (hi : Px X e g l d2) (hk : d2 = kD k) (hR : ∀ kvs, R kvs → (valD kvs k).getD .non = d) (hd : d.v = some v0) (hm : M1 X o "get" apos e pos := by constructor <;> rfl) : Px X (.Call (.Attribute o "get" apos) [e] [] pos) g l d := fun en T σ H Q s kk => wpE_of (pe_dget1 hu pe_wp pe_wp hm) (by
  subst hk
  refine ho en T σ H _ s fun v d0 l' H1 ⟨p, kvs, hr, e1, e2⟩ s1 => ?_
  subst e1; subst e2
  obtain ⟨F1, M1, q1⟩ := id s1
  obtain ⟨a, vs, rfl, hp, f⟩ := (Dv.o (k := 0) rfl : Dv X.K (ownD X.K p kvs :: l) (.adr p) kvs).get q1.exF q1.exM q1.rs q1.tm.1
  refine ⟨a, rfl, .inl ⟨vs, .inl hp⟩, ?_⟩
  refine hi.fr en _ σ H1 _ s1 fun u H2 s2 => ?_
  obtain ⟨F, M, q⟩ := s2
  obtain ⟨a2, vs, e2, hp, f⟩ := (Dv.o (k := 0) rfl : Dv X.K (ownD X.K p kvs :: l) (.adr p) kvs).get q.exF q.exM q.rs q.tm.2.1
  cases e2
  have fz := f.valO (k := k) (z := .non) (dz := .non) .non
  rw [hR kvs hr] at fz
  refine ⟨_, .inl ⟨vs, k, .inl hp, q.tm.1.key, rfl⟩, kk _ H2 (S.dropO (l' := [ownD X.K p kvs]) ⟨F, M, q.tmp ⟨fz, q.tm.2.2⟩⟩)⟩)
/-- a call as a statement that gives nothing of worth -/
theorem blk_do {e : Expr} (he : Px X e g l d) (h : Blk X W rest g l Φ) (hs : swapsWith e none pos.line X.env = pure false := by rfl) : Blk X W (.Expr e pos :: rest) g l Φ := blk_expr he.ev (fun d l' ⟨_, e2⟩ => by subst e2; exact h) hs
end
end Sx
set_option Elab.async false
set_option linter.all false
set_option maxRecDepth 100000
set_option maxHeartbeats 2000000
/-! The head: what the top has written, told by names. -/
namespace Sx
open PySem L2
def isiB (K : PySem.W.Frag) (C : Addr) : Bool := decide (PySem.W.findIn K (.ref C) "__class__" = some (some (.builtin "object.__class__"))) && (decide (PySem.W.specialIn K (.builtin "object.__class__") "__get__" = some (some (.builtin "getset_descriptor.__get__"))) && (decide (PySem.W.takesIn K (.builtin "object.__class__") = some true) && decide (PySem.W.mroIn K C (.type "object") = some true)))
theorem isiB_ok {K : PySem.W.Frag} {C : Addr} (h : isiB K C = true) : Isi K C := by
  obtain ⟨h1, h⟩ := He.ba h
  obtain ⟨h2, h⟩ := He.ba h
  obtain ⟨h3, h4⟩ := He.ba h
  exact ⟨of_decide_eq_true h1, of_decide_eq_true h2, of_decide_eq_true h3, of_decide_eq_true h4⟩
/-- one more fact -/
inductive Fb where
  | isi (x : Str)
  | kit (x y : Str) (b : Bool)
  | mk0 (x : Str)
def Fb.ok (K : PySem.W.Frag) : Fb → Bool
  | .isi x => isiB K (He.ga K x)
  | .kit x y b => decide (PySem.W.kitOne K (.ref (He.ga K x)) (.ref (He.ga K y)) = some b)
  | .mk0 x => PySem.W.makesIn K (He.ga K x) && decide (PySem.W.findIn K (.ref (He.ga K x)) "__init__" = some (some (.builtin "object.__init__")))
def exB (fb : List Fb) (K : PySem.W.Frag) : Bool := fb.all fun f => f.ok K
section
variable {K : PySem.W.Frag} {h : Heap} {mg : Str → Option Value} {fb : List Fb} {w : World} {fa : List He.Fa} {fn : List He.DefD}
theorem fb_at (c : exB fb K = true) (i : Nat) {f : Fb} (h : fb[i]? = some f := by rfl) : f.ok K = true := List.all_eq_true.mp c f (List.mem_of_getElem? h)
theorem kit_ok {x y : Str} {b : Bool} (h : (Fb.kit x y b).ok K = true) : PySem.W.kitOne K (.ref (He.ga K x)) (.ref (He.ga K y)) = some b := of_decide_eq_true h
theorem mk0_ok {x : Str} (h : (Fb.mk0 x).ok K = true) (k : (He.Fa.keep x).ok K = true) : Mk0 K (He.ga K x) := by
  obtain ⟨h1, h2⟩ := He.ba h
  exact ⟨h1, He.keep_ok k, of_decide_eq_true h2⟩
theorem fun_of {x qual : Str} {st : Stmt} {f : Addr} {fd : FuncData} (F : FunD K x qual (defArgs st) (defBody st) (defScope st) [] [] f fd) : Fun K x qual st f fd := by
  obtain ⟨oc, od, dV, kV, doc, pm, an, cdv, ct, osl, e, lk, hcd, hD, hK⟩ := F.ex
  rcases hD with ⟨_, rfl⟩ | ⟨z, _⟩
  · exact ⟨⟨oc, od, kV, doc, pm, an, cdv, ct, osl, e, lk, hcd⟩, F.kp⟩
  · exact absurd rfl z
abbrev dD (x : Str) (st : Stmt) : He.DefD := ⟨(x, none), x, x, defArgs st, defBody st, defScope st, [], []⟩
abbrev dM (C m qual : Str) (st : Stmt) : He.DefD := ⟨(C, some m), m, qual, defArgs st, defBody st, defScope st, [], []⟩
theorem dfn_of {x : Str} {st : Stmt} (c : He.SaysD fa fn K) (G : mg x = some (.ref (He.ga K x))) (i : Nat) (e : fn[i]? = some (dD x st) := by rfl) : Dfn K mg x st := by
  obtain ⟨fd, F⟩ := c.def_ i e
  exact ⟨_, fd, fun_of F, G⟩
theorem dmt_of {C m qual : Str} {st : Stmt} (c : He.SaysD fa fn K) (M : Meth K (He.ga K C) m (He.ma K (He.ga K C) m)) (i : Nat) (e : fn[i]? = some (dM C m qual st) := by rfl) : Dmt K (He.ga K C) m qual st := by
  obtain ⟨fd, F⟩ := c.def_ i e
  exact ⟨_, fd, fun_of F, M⟩
theorem din_of {C qual : Str} {st : Stmt} (c : He.SaysD fa fn K) (M : Mk K (He.ga K C) (He.ma K (He.ga K C) "__init__")) (i : Nat) (e : fn[i]? = some (dM C "__init__" qual st) := by rfl) : Din K (He.ga K C) qual st := by
  obtain ⟨fd, F⟩ := c.def_ i e
  exact ⟨_, fd, fun_of F, M⟩
end
end Sx
set_option Elab.async false
set_option linter.all false
set_option maxRecDepth 100000
set_option maxHeartbeats 4000000
namespace Lw
open PySem L2 Sx
/-! ### plain: names, roads, nets -/
theorem szS {n : Nat} (h : n ≤ 10000) : n ≤ sizeLine := Nat.le_trans h (by decide)
abbrev small : Str := "abcdefghijklmnopqrstuvwxyz"
theorem small_tl : TL.tl small = (List.range 26).map fun i => 97 + i := by decide +kernel
theorem small_in {c : Nat} : c ∈ TL.tl small ↔ 97 ≤ c ∧ c ≤ 122 := by
  rw [small_tl, List.mem_map]
  constructor
  · rintro ⟨i, hi, rfl⟩
    have := List.mem_range.mp hi
    omega
  · intro h
    exact ⟨c - 97, List.mem_range.mpr (by omega), by omega⟩
structure OkN (x : Str) : Prop where
  lo : 1 ≤ x.length
  hi : x.length ≤ 8
  sg : ∀ c ∈ TL.tl x, 97 ≤ c ∧ c ≤ 122
def nameB (x : Str) : Bool := decide (1 ≤ (x.length : Int)) && decide ((x.length : Int) ≤ 8) && ((TL.tl x).map fun c => decide (c ∈ TL.tl small)).all id
theorem nameB_iff {x : Str} : nameB x = true ↔ OkN x := by
  unfold nameB
  rw [Bool.and_eq_true, Bool.and_eq_true, decide_eq_true_iff, decide_eq_true_iff, List.all_map, List.all_eq_true]
  constructor
  · rintro ⟨⟨h1, h2⟩, h3⟩
    exact ⟨by omega, by omega, fun c hc => small_in.mp (of_decide_eq_true (h3 c hc))⟩
  · intro h
    exact ⟨⟨by have := h.lo; omega, by have := h.hi; omega⟩, fun c hc => decide_eq_true (small_in.mpr (h.sg c hc))⟩
theorem OkN.str {x : Str} (h : OkN x) : PySem.PyData.strOk x = true := by
  show x.cps.all (fun c => decide (c < 0x110000)) = true
  rw [← Array.all_toList]
  refine List.all_eq_true.mpr fun c hc => decide_eq_true ?_
  have := h.sg c hc
  omega
structure OkH (hs : List Str) : Prop where
  ok : ∀ h ∈ hs, OkN h
  nd : hs.Nodup
  le : hs.length ≤ 12
abbrev Road := Str × Str × Int × Int
structure OkR (hs : List Str) (r : Road) : Prop where
  b : r.1 ∈ hs
  e : r.2.1 ∈ hs
  ne : r.1 ≠ r.2.1
  t : 1 ≤ r.2.2.1 ∧ r.2.2.1 ≤ 9
  w : 1 ≤ r.2.2.2 ∧ r.2.2.2 ≤ 1000000000
structure OkG (n : List Str × List Road) : Prop where
  h : OkH n.1
  r : ∀ r ∈ n.2, OkR n.1 r
  le : n.2.length ≤ 40
def roadD (r : Road) : D := .tup [.str r.1, .str r.2.1, .int r.2.2.1, .int r.2.2.2]
abbrev housesD (hs : List Str) : List D := hs.map .str
abbrev roadsD (rs : List Road) : List D := rs.map roadD
theorem mem_take_nodup {hs : List Str} {i : Nat} {x : Str} (nd : hs.Nodup) (h : hs[i]? = some x) : x ∉ hs.take i := by
  intro hm
  obtain ⟨j, hj⟩ := List.getElem?_of_mem hm
  rw [List.getElem?_take] at hj
  split at hj
  · rename_i hlt
    have h1 := List.getElem?_eq_some_iff.mp h
    have h2 := List.getElem?_eq_some_iff.mp hj
    obtain ⟨l1, e1⟩ := h1
    obtain ⟨l2, e2⟩ := h2
    have := (List.nodup_iff_pairwise_ne.mp nd)
    have p := List.pairwise_iff_getElem.mp this j i l2 l1 hlt
    exact p (e2.trans e1.symm)
  · cases hj
theorem tl_cutS (z : Str) (lo hi : Option Int) : TL.tl (cutS z lo hi) = cut (TL.tl z) lo hi := by
  unfold cutS cut
  show List.take _ (List.drop _ (TL.tl z)) = _
  rw [TL.len_tl]
end Lw
set_option Elab.async false
set_option linter.all false
set_option maxRecDepth 100000
set_option maxHeartbeats 4000000
namespace Lw
open PySem L2 Sx
def top (i : Nat) : Stmt := PySem.Challenge.pw_postroad_k04_whole_far.main.body.getD i (.Pass ⟨0, 0, 0, 0⟩)
abbrev s_wall : Stmt := top 0
abbrev s_is_whole : Stmt := top 12
abbrev s_is_name : Stmt := top 13
abbrev s_are_houses : Stmt := top 14
abbrev s_is_road : Stmt := top 15
abbrev s_fars : Stmt := top 17
abbrev s_law_at : Stmt := top 19
abbrev s_law_word : Stmt := top 20
abbrev s_law_houses : Stmt := top 21
abbrev s_law_roads : Stmt := top 22
abbrev s_law_whole : Stmt := top 23
abbrev s_law_fars : Stmt := top 24
abbrev s_law_right : Stmt := top 25
abbrev s_law : Stmt := top 26
abbrev s_Net_init : Stmt := inClass (top 16) 0
abbrev s_Net_houses : Stmt := inClass (top 16) 1
abbrev s_Net_roads : Stmt := inClass (top 16) 2
abbrev s_Net_road : Stmt := inClass (top 16) 3
abbrev s_Net_known : Stmt := inClass (top 16) 4
abbrev s_Net_out_of : Stmt := inClass (top 16) 5
abbrev s_Net_into : Stmt := inClass (top 16) 6
abbrev s_Net_far : Stmt := inClass (top 16) 7
abbrev ns_wall : List Str := ["k"]
theorem cs_wall : FnScope ns_wall ["k"] (defScope s_wall) := ⟨rfl, rfl, rfl, by decide +kernel, rfl, by decide +kernel, by decide +kernel⟩
abbrev ns_is_whole : List Str := ["thing", "least", "greatest"]
theorem cs_is_whole : FnScope ns_is_whole ["thing", "least", "greatest"] (defScope s_is_whole) := ⟨rfl, rfl, rfl, by decide +kernel, rfl, by decide +kernel, by decide +kernel⟩
abbrev ns_is_name : List Str := ["thing", "sign"]
theorem cs_is_name : FnScope ns_is_name ["thing"] (defScope s_is_name) := ⟨rfl, rfl, rfl, by decide +kernel, rfl, by decide +kernel, by decide +kernel⟩
abbrev ns_are_houses : List Str := ["thing", "at", "name"]
theorem cs_are_houses : FnScope ns_are_houses ["thing"] (defScope s_are_houses) := ⟨rfl, rfl, rfl, by decide +kernel, rfl, by decide +kernel, by decide +kernel⟩
abbrev ns_is_road : List Str := ["thing", "names", "end"]
theorem cs_is_road : FnScope ns_is_road ["thing", "names"] (defScope s_is_road) := ⟨rfl, rfl, rfl, by decide +kernel, rfl, by decide +kernel, by decide +kernel⟩
abbrev ns_fars : List Str := ["net", "goal", "told", "changed", "one", "there"]
theorem cs_fars : FnScope ns_fars ["net", "goal"] (defScope s_fars) := ⟨rfl, rfl, rfl, by decide +kernel, rfl, by decide +kernel, by decide +kernel⟩
abbrev ns_law_at : List Str := ["_law_script", "_law_k"]
theorem cs_law_at : FnScope ns_law_at ["_law_script", "_law_k"] (defScope s_law_at) := ⟨rfl, rfl, rfl, by decide +kernel, rfl, by decide +kernel, by decide +kernel⟩
abbrev ns_law_word : List Str := ["_law_cell", "_law_n", "_law_size", "_law_word_here", "_law_k"]
theorem cs_law_word : FnScope ns_law_word ["_law_cell"] (defScope s_law_word) := ⟨rfl, rfl, rfl, by decide +kernel, rfl, by decide +kernel, by decide +kernel⟩
abbrev ns_law_houses : List Str := ["_law_cell", "_law_many", "_law_word_here", "_law_at_here", "_law_letter"]
theorem cs_law_houses : FnScope ns_law_houses ["_law_cell", "_law_many"] (defScope s_law_houses) := ⟨rfl, rfl, rfl, by decide +kernel, rfl, by decide +kernel, by decide +kernel⟩
abbrev ns_law_roads : List Str := ["_law_cells", "_law_houses_here", "_law_long", "_law_roads_here", "_law_cell", "_law_n", "_law_begin", "_law_end", "_law_room"]
theorem cs_law_roads : FnScope ns_law_roads ["_law_cells", "_law_houses_here", "_law_long"] (defScope s_law_roads) := ⟨rfl, rfl, rfl, by decide +kernel, rfl, by decide +kernel, by decide +kernel⟩
abbrev ns_law_whole : List Str := ["_law_found"]
theorem cs_law_whole : FnScope ns_law_whole ["_law_found"] (defScope s_law_whole) := ⟨rfl, rfl, rfl, by decide +kernel, rfl, by decide +kernel, by decide +kernel⟩
abbrev ns_law_fars : List Str := ["_law_net", "_law_houses_here", "_law_goal", "_law_told", "_law_house"]
theorem cs_law_fars : FnScope ns_law_fars ["_law_net", "_law_houses_here", "_law_goal"] (defScope s_law_fars) := ⟨rfl, rfl, rfl, by decide +kernel, rfl, by decide +kernel, by decide +kernel⟩
abbrev ns_law_right : List Str := ["_law_told", "_law_houses_here", "_law_roads_here", "_law_goal", "_law_made", "_law_begin", "_law_end", "_law_turns", "_law_room", "_law_house"]
theorem cs_law_right : FnScope ns_law_right ["_law_told", "_law_houses_here", "_law_roads_here", "_law_goal"] (defScope s_law_right) := ⟨rfl, rfl, rfl, by decide +kernel, rfl, by decide +kernel, by decide +kernel⟩
abbrev ns_law : List Str := ["_law_script", "_law_houses_here", "_law_some", "_law_roads_here", "_law_net", "_law_first", "_law_at_here", "_law_goal"]
theorem cs_law : FnScope ns_law ["_law_script"] (defScope s_law) := ⟨rfl, rfl, rfl, by decide +kernel, rfl, by decide +kernel, by decide +kernel⟩
abbrev ns_Net_init : List Str := ["self", "houses", "roads", "one"]
theorem cs_Net_init : FnScope ns_Net_init ["self", "houses", "roads"] (defScope s_Net_init) := ⟨rfl, rfl, rfl, by decide +kernel, rfl, by decide +kernel, by decide +kernel⟩
abbrev ns_Net_houses : List Str := ["self"]
theorem cs_Net_houses : FnScope ns_Net_houses ["self"] (defScope s_Net_houses) := ⟨rfl, rfl, rfl, by decide +kernel, rfl, by decide +kernel, by decide +kernel⟩
abbrev ns_Net_roads : List Str := ["self"]
theorem cs_Net_roads : FnScope ns_Net_roads ["self"] (defScope s_Net_roads) := ⟨rfl, rfl, rfl, by decide +kernel, rfl, by decide +kernel, by decide +kernel⟩
abbrev ns_Net_road : List Str := ["self", "number"]
theorem cs_Net_road : FnScope ns_Net_road ["self", "number"] (defScope s_Net_road) := ⟨rfl, rfl, rfl, by decide +kernel, rfl, by decide +kernel, by decide +kernel⟩
abbrev ns_Net_known : List Str := ["self", "house"]
theorem cs_Net_known : FnScope ns_Net_known ["self", "house"] (defScope s_Net_known) := ⟨rfl, rfl, rfl, by decide +kernel, rfl, by decide +kernel, by decide +kernel⟩
abbrev ns_Net_out_of : List Str := ["self", "house"]
theorem cs_Net_out_of : FnScope ns_Net_out_of ["self", "house"] (defScope s_Net_out_of) := ⟨rfl, rfl, rfl, by decide +kernel, rfl, by decide +kernel, by decide +kernel⟩
abbrev ns_Net_into : List Str := ["self", "house"]
theorem cs_Net_into : FnScope ns_Net_into ["self", "house"] (defScope s_Net_into) := ⟨rfl, rfl, rfl, by decide +kernel, rfl, by decide +kernel, by decide +kernel⟩
abbrev ns_Net_far : List Str := ["self", "house", "goal"]
theorem cs_Net_far : FnScope ns_Net_far ["self", "house", "goal"] (defScope s_Net_far) := ⟨rfl, rfl, rfl, by decide +kernel, rfl, by decide +kernel, by decide +kernel⟩
structure Cs where
  (RoadError NoNet NoHouse NoRoad Net : Addr)
structure Top (K : PySem.W.Frag) (mg : Str → Option Value) (c : Cs) : Prop where
  z_ValueError : mg "ValueError" = none
  z_all : mg "all" = none
  z_enumerate : mg "enumerate" = none
  z_range : mg "range" = none
  z_isinstance : mg "isinstance" = none
  z_int : mg "int" = none
  z_list : mg "list" = none
  z_len : mg "len" = none
  z_bool : mg "bool" = none
  z_str : mg "str" = none
  z_tuple : mg "tuple" = none
  d_wall : Dfn K mg "_wall" s_wall
  d_is_whole : Dfn K mg "is_whole" s_is_whole
  d_is_name : Dfn K mg "is_name" s_is_name
  d_are_houses : Dfn K mg "are_houses" s_are_houses
  d_is_road : Dfn K mg "is_road" s_is_road
  d_fars : Dfn K mg "fars" s_fars
  d_law_at : Dfn K mg "_law_at" s_law_at
  d_law_word : Dfn K mg "_law_word" s_law_word
  d_law_houses : Dfn K mg "_law_houses" s_law_houses
  d_law_roads : Dfn K mg "_law_roads" s_law_roads
  d_law_whole : Dfn K mg "_law_whole" s_law_whole
  d_law_fars : Dfn K mg "_law_fars" s_law_fars
  d_law_right : Dfn K mg "_law_right" s_law_right
  d_law : Dfn K mg "law" s_law
  k_SMALL : ∃ t, mg "SMALL" = some (.str "abcdefghijklmnopqrstuvwxyz" t)
  k_MOST_HOUSES : ∃ t, mg "MOST_HOUSES" = some (.int 12 t)
  k_MOST_ROADS : ∃ t, mg "MOST_ROADS" = some (.int 40 t)
  k_LONGEST : ∃ t, mg "LONGEST" = some (.int 9 t)
  k_WIDEST : ∃ t, mg "WIDEST" = some (.int 1000000000 t)
  c_Net : Dcl K mg "Net" c.Net
  i_Net : Isi K c.Net
  d_Net_init : Din K c.Net "Net.__init__" s_Net_init
  d_Net_houses : Dmt K c.Net "houses" "Net.houses" s_Net_houses
  d_Net_roads : Dmt K c.Net "roads" "Net.roads" s_Net_roads
  d_Net_road : Dmt K c.Net "road" "Net.road" s_Net_road
  d_Net_known : Dmt K c.Net "known" "Net.known" s_Net_known
  d_Net_out_of : Dmt K c.Net "out_of" "Net.out_of" s_Net_out_of
  d_Net_into : Dmt K c.Net "into" "Net.into" s_Net_into
  d_Net_far : Dmt K c.Net "far" "Net.far" s_Net_far
  n_Net_names : NoAttr K c.Net "names"
  n_Net_lines : NoAttr K c.Net "lines"
/-! ### the walk: names, roads, nets -/
section
variable {P : Program} {w : World} {K : PySem.W.Frag} {mg : Str → Option Value} {base : Heap} {c : Cs}
abbrev netD (c : Cs) (n : List Str × List Road) : D := .ins c.Net [("names", .lst (housesD n.1)), ("lines", .lst (roadsD n.2))]
theorem g_is_whole (T : Top K mg c) : Glo P w K mg base 1 "is_whole" ["thing", "least", "greatest"] (Pu K (fun _ : Int × Int × Int => True) (fun a => [.int a.1, .int a.2.1, .int a.2.2]) (fun a => .bl (decide (a.2.1 ≤ a.1) && decide (a.1 ≤ a.2.2)))) :=
  glo_of T.d_is_whole (fun _ _ _ _ _ _ us hl => match us, hl with | [_, _, _], _ => rfl) fun f fd F => fn_ok F cs_is_whole (fun _ => rfl) fun cdv A outer s H E a hr hok => by
    obtain ⟨t, lo, hi⟩ := a
    exact blk_ret (px_and (k := true) (px_isT "int" "int" true T.z_isinstance T.z_int (px_var (pv 0) rfl)) fun _ => px_and (k := true) (px_not (px_isT "bool" "int" false T.z_isinstance T.z_bool (px_var (pv 0) rfl))) fun _ => px_one (px_chain op_le op_le (px_var (pv 1) rfl) (px_var (pv 0) rfl) o_le (px_var (pv 2) rfl) (fun _ => o_le))) ⟨rfl, rfl⟩
theorem g_is_name (T : Top K mg c) : Glo P w K mg base 1 "is_name" ["thing"] (Pu K (fun x : Str => x.length ≤ 10000) (fun x => [.str x]) (fun x => .bl (nameB x))) :=
  glo_of T.d_is_name (fun _ _ _ _ _ _ us hl => match us, hl with | [_], _ => rfl) fun f fd F => fn_ok F cs_is_name (fun _ => rfl) fun cdv A outer s H E a hr hok => by
    have nd := cs_is_name.nd
    have hl : a.length ≤ 10000 := hok
    refine blk_if (ts_w (tw_or (k := false) (ts_not (ts_val (k := true) (px_isT "str" "str" true T.z_isinstance T.z_str (px_var (pv 0) rfl)))) fun _ => tw_or1 (ts_not (ts_chain op_le op_le px_int (px_bi call_len_str T.z_len (pa_c (px_var (pv 0) rfl) pa_n) (o_lenS (szS hl))) o_le px_int (fun _ => o_le))))) (fun h => ?_) (fun h => ?_)
    · refine blk_ret px_bl ⟨?_, rfl⟩
      have h : (!(decide (1 ≤ (a.length : Int)) && decide ((a.length : Int) ≤ 8))) = true := h
      show D.bl false = D.bl (nameB a)
      unfold nameB
      rw [Bool.not_eq_true'] at h
      rw [h]
      rfl
    · have h : (!(decide (1 ≤ (a.length : Int)) && decide ((a.length : Int) ≤ 8))) = false := h
      refine blk_nil (blk_ret (px_bi (cr_all rfl) T.z_all (pa_c (px_lc (own := [("sign", 1)]) (is := [1]) (rs := ((TL.tl a).map fun c => decide (c ∈ TL.tl small)).map .bl) rfl nd (it_str (px_var (pv 0) rfl)) (blkOk_by (N := ns_is_name) (sc := defScope s_is_name) (by decide +kernel)) (fun _ _ _ _ _ => pg_name (i := 1) nd rfl (.inl rfl)) (by decide) ?c1 ?c2 ?c3) pa_n) (o_all .f)) ⟨?c4, rfl⟩)
      case c1 => unfold signs; simp
      case c2 => rw [List.length_map, List.length_map, ← TL.len_tl]; exact szS hl
      case c3 =>
        intro i d hd
        unfold signs at hd
        rw [List.getElem?_map] at hd
        cases e : (TL.tl a)[i]? with
        | none => rw [e] at hd; cases hd
        | some ch =>
          rw [e] at hd
          cases hd
          refine ⟨_, .bl (decide (ch ∈ TL.tl small)), tg_name, by rw [List.getElem?_map, List.getElem?_map, e]; rfl, fun _ _ _ _ _ => ?_⟩
          exact px_cmp op_in_sign (px_var (pv 1) rfl) (px_gs T.k_SMALL) o_inX
      case c4 =>
        show _ = D.bl (nameB a)
        unfold nameB
        rw [Bool.not_eq_false'] at h
        rw [h]
        rfl
theorem g_are_houses (T : Top K mg c) : Glo P w K mg base 2 "are_houses" ["thing"] (Pu K (fun hs : List Str => OkH hs) (fun hs => [.lst (housesD hs)]) (fun _ => .bl true)) :=
  glo_of T.d_are_houses (fun _ _ _ _ _ _ us hl => match us, hl with | [_], _ => rfl) fun f fd F => fn_ok F cs_are_houses (fun _ => rfl) fun cdv A outer s H E hs hr hok => by
    have nd := cs_are_houses.nd
    have ok : OkH hs := hok
    refine blk_if (k := false) ((ts_w (tw_or (k := false) (ts_not (ts_val (k := true) (px_isT "list" "list" true T.z_isinstance T.z_list (px_var (pv 0) rfl)))) fun _ => tw_or1 (ts_cmp op_gt (px_bi call_len_seq T.z_len (pa_c (px_var (pv 0) rfl) pa_n) o_lenL) (px_gi T.k_MOST_HOUSES) o_gt))).to ?_) (fun h => by cases h) (fun _ => blk_nil ?_)
    · rw [List.length_map]
      have := ok.le
      exact decide_eq_false (by omega)
    refine blk_for (is := [1, 2]) (fun i g l => (∃ o o2, g = [some (.lst (housesD hs)), o, o2]) ∧ l = []) PassesOwn.never rfl (it_enum (px_var (pv 0) rfl) T.z_enumerate) (pg_tup rfl (pgs_cons (pg_name (i := 1) nd rfl (.inl rfl)) (pgs_cons (pg_name (i := 2) nd rfl (.inl rfl)) pgs_nil))) ⟨⟨none, none, rfl⟩, rfl⟩ (fun i d g l hd hI => ?_) (fun g l hI => ?_)
    · obtain ⟨⟨o, o2, rfl⟩, rfl⟩ := hI
      obtain ⟨d', hd', rfl⟩ := enumD_get hd
      obtain ⟨x, hx, rfl⟩ : ∃ x, hs[i]? = some x ∧ d' = .str x := by
        rw [List.getElem?_map] at hd'
        cases e : hs[i]? with
        | none => rw [e] at hd'; cases hd'
        | some x => rw [e] at hd'; cases hd'; exact ⟨x, rfl, rfl⟩
      have okx := ok.ok x (List.mem_of_getElem? hx)
      refine ⟨_, tg_tup rfl rfl, ?_⟩
      refine blk_if (k := false) ((ts_w (tw_or (k := false) ((ts_not (ts_val (px_call (g_is_name T) hr (by decide) x (Nat.le_trans okx.hi (by decide)) (pa_c (px_var (pv 2) rfl) pa_n)))).to (by rw [nameB_iff.mpr okx]; rfl)) fun _ => tw_or1 (ts_cmp op_in_seq (px_var (pv 2) rfl) ((px_slL (px_var (pv 0) rfl) .f pz_n (pz_s (px_var (pv 1) rfl))).to (d1 := .lst ((hs.take i).map .str)) ?_) (o_inS (.inl rfl))))).to ?_) (fun h => by cases h) (fun _ => blk_nil (blk_nil ⟨⟨_, _, rfl⟩, rfl⟩))
      · rw [cut_take (by omega), List.map_take]
        rfl
      · exact decide_eq_false (mem_take_nodup ok.nd hx)
    · obtain ⟨⟨o, o2, rfl⟩, rfl⟩ := hI
      exact blk_ret px_bl ⟨rfl, rfl⟩
theorem g_is_road (T : Top K mg c) : Glo P w K mg base 2 "is_road" ["thing", "names"] (Pu K (fun a : Road × List Str => OkH a.2 ∧ OkR a.2 a.1) (fun a => [roadD a.1, .lst (housesD a.2)]) (fun _ => .bl true)) :=
  glo_of T.d_is_road (fun _ _ _ _ _ _ us hl => match us, hl with | [_, _], _ => rfl) fun f fd F => fn_ok F cs_is_road (fun _ => rfl) fun cdv A outer s H E a hr hok => by
    have nd := cs_is_road.nd
    obtain ⟨⟨b, e, t, m⟩, hs⟩ := a
    obtain ⟨oh, orr⟩ : OkH hs ∧ OkR hs (b, e, t, m) := hok
    refine blk_if (k := false) (ts_w (tw_or (k := false) (ts_not (ts_val (k := true) (px_isT "tuple" "tuple" true T.z_isinstance T.z_tuple (px_var (pv 0) rfl)))) fun _ => tw_or1 (ts_cmp op_ne (px_bi call_len_seq T.z_len (pa_c (px_var (pv 0) rfl) pa_n) o_lenT) px_int o_neI))) (fun h => by cases h) (fun _ => blk_nil ?_)
    refine blk_for (is := [2]) (ds := [.str b, .str e]) (fun i g l => (∃ o, g = [some (roadD (b, e, t, m)), some (.lst (housesD hs)), o]) ∧ l = []) PassesOwn.never rfl (it_tup (px_slT (ds := [.str b, .str e, .int t, .int m]) (i := none) (j := some 2) (px_var (pv 0) rfl) pz_n (pz_s px_int))) (pg_name (i := 2) nd rfl (.inl rfl)) ⟨⟨none, rfl⟩, rfl⟩ (fun i d g l hd hI => ?_) (fun g l hI => ?_)
    · obtain ⟨⟨o, rfl⟩, rfl⟩ := hI
      obtain ⟨x, hx, rfl⟩ : ∃ x, x ∈ hs ∧ d = .str x := by
        have hm := List.mem_of_getElem? hd
        simp only [List.mem_cons, List.not_mem_nil, or_false] at hm
        rcases hm with rfl | rfl
        · exact ⟨_, orr.b, rfl⟩
        · exact ⟨_, orr.e, rfl⟩
      have okx := oh.ok x hx
      refine ⟨_, tg_name, ?_⟩
      refine blk_if (k := false) ((ts_w (tw_or (k := false) ((ts_not (ts_val (px_call (g_is_name T) hr (by decide) x (Nat.le_trans okx.hi (by decide)) (pa_c (px_var (pv 2) rfl) pa_n)))).to (by rw [nameB_iff.mpr okx]; rfl)) fun _ => tw_or1 (ts_cmp op_notIn_seq (px_var (pv 2) rfl) (px_var (pv 1) rfl) (o_ninS (xs := hs) (.inl rfl))))).to ?_) (fun h => by cases h) (fun _ => blk_nil (blk_nil ⟨⟨_, rfl⟩, rfl⟩))
      rw [decide_eq_true hx]
      rfl
    · obtain ⟨⟨o, rfl⟩, rfl⟩ := hI
      refine blk_ret (px_and (k := true) (k' := true) ((px_cmp op_ne (px_ix ix_tup (px_var (pv 0) rfl) px_int (o_ixT (d := .str b) rfl)) (px_ix ix_tup (px_var (pv 0) rfl) px_int (o_ixT (d := .str e) rfl)) o_neS).to ?_) fun _ => px_and (k := true) (k' := true) (Px.to (px_call (g_is_whole T) hr (by decide) (t, 1, 9) trivial (pa_c (px_ix ix_tup (px_var (pv 0) rfl) px_int (o_ixT (d := .int t) rfl)) (pa_c px_int (pa_c (px_gi T.k_LONGEST) pa_n)))) ?_) fun _ => px_one (Px.to (px_call (g_is_whole T) hr (by decide) (m, 1, 1000000000) trivial (pa_c (px_ix ix_tup (px_var (pv 0) rfl) px_int (o_ixT (d := .int m) rfl)) (pa_c px_int (pa_c (px_gi T.k_WIDEST) pa_n)))) ?_)) ⟨rfl, rfl⟩
      · have : ¬ b = e := orr.ne
        rw [decide_eq_false this]
        rfl
      · show D.bl (decide (1 ≤ t) && decide (t ≤ 9)) = _
        have := orr.t
        rw [decide_eq_true this.1, decide_eq_true this.2]
        rfl
      · show D.bl (decide (1 ≤ m) && decide (m ≤ 1000000000)) = _
        have := orr.w
        rw [decide_eq_true this.1, decide_eq_true this.2]
        rfl
theorem ne_nl : ¬ (("names" : Str) = "lines") := by decide +kernel
theorem g_Net (T : Top K mg c) : GloC P w K mg base 3 c.Net "Net" ["self", "houses", "roads"] (FnX K (fun a : Addr × List Str × List Road => OkG a.2) (fun a => [.adr a.1, .lst (housesD a.2.1), .lst (roadsD a.2.2)]) (fun a => [ownI K a.1 c.Net []]) (fun a d l => d = .non ∧ l = [ownI K a.1 c.Net [("names", .lst (housesD a.2.1)), ("lines", .lst (roadsD a.2.2))]]) noE) :=
  gloc_of T.d_Net_init T.c_Net (fun _ _ _ _ _ _ us hl => match us, hl with | [_, _, _], _ => rfl) fun f fd F => fn_ok F cs_Net_init (fun _ => rfl) fun cdv A outer s H E a hr hok => by
    have nd := cs_Net_init.nd
    obtain ⟨q, hs, rs⟩ := a
    have ok : OkG (hs, rs) := hok
    refine blk_if (k := false) ((ts_w (tw_or (k := false) (ts_not (ts_val (k := true) (px_call (g_are_houses T) hr (by decide) hs ok.h (pa_c (px_var (pv 1) rfl) pa_n)))) fun _ => tw_or (k := false) (ts_not (ts_val (k := true) (px_isT "list" "list" true T.z_isinstance T.z_list (px_var (pv 2) rfl)))) fun _ => tw_or1 (ts_cmp op_gt (px_bi call_len_seq T.z_len (pa_c (px_var (pv 2) rfl) pa_n) o_lenL) (px_gi T.k_MOST_ROADS) o_gt))).to ?_) (fun h => by cases h) (fun _ => blk_nil ?_)
    · rw [List.length_map]
      have : rs.length ≤ 40 := ok.le
      exact decide_eq_false (by show ¬ ((40 : Int) < (rs.length : Int)); omega)
    refine blk_if (k := false) (ts_not (ts_val (k := true) (px_bi (cr_all rfl) T.z_all (pa_c (px_lc (own := [("one", 3)]) (is := [3]) (rs := (rs.map fun _ => true).map .bl) rfl nd (it_list (px_var (pv 2) rfl)) (blkOk_by (N := ns_Net_init) (sc := defScope s_Net_init) (by decide +kernel)) (fun _ _ _ _ _ => pg_name (i := 3) nd rfl (.inl rfl)) (by decide) ?c1 ?c2 ?c3) pa_n) ?c4))) (fun h => by cases h) (fun _ => blk_nil ?_)
    case c1 => simp
    case c2 => rw [List.length_map, List.length_map]; have h : rs.length ≤ 40 := ok.le; exact Nat.le_trans h (szS (by decide))
    case c3 =>
      intro i d hd
      rw [List.getElem?_map] at hd
      cases e : rs[i]? with
      | none => rw [e] at hd; cases hd
      | some r =>
        rw [e] at hd
        cases hd
        refine ⟨_, .bl true, tg_name, by rw [List.getElem?_map, List.getElem?_map, e]; rfl, fun _ _ _ _ _ => ?_⟩
        exact px_call (g_is_road T) hr (by decide) (r, hs) ⟨ok.h, ok.r r (List.mem_of_getElem? e)⟩ (pa_c (px_var (pv 3) rfl) (pa_c (px_var (pv 1) rfl) pa_n))
    case c4 =>
      have q : (rs.map fun _ => true).all id = true := by simp
      exact (o_all .f).to (congrArg D.bl q)
    refine blk_fld (k := 0) (px_listOf (px_var (pv 1) rfl) .f T.z_list) (px_var (pv 0) rfl) rfl T.c_Net.cl T.n_Net_names (by decide) ?_
    refine blk_fld (k := 0) (px_listOf (px_var (pv 2) rfl) .f T.z_list) (px_var (pv 0) rfl) rfl T.c_Net.cl T.n_Net_lines (by show 1 < 1000; decide) ?_
    refine blk_nil ⟨rfl, ?_⟩
    show [ownI K q _ (putD _ _ (putD _ _ []))] = _
    show [ownI K q _ (if _ then _ else _)] = _
    rw [if_neg ne_nl]
    rfl
theorem look_names {d1 d2 : D} : List.lookup ("names" : Str) [(("names" : Str), d1), ("lines", d2)] = some d1 := by
  rw [List.lookup_cons, beq_self_eq_true]
theorem look_lines {d1 d2 : D} : List.lookup ("lines" : Str) [(("names" : Str), d1), ("lines", d2)] = some d2 := by
  rw [List.lookup_cons, show (("lines" : Str) == "names") = false by decide +kernel, List.lookup_cons, beq_self_eq_true]
theorem look_none {d1 d2 : D} {m : Str} (h1 : (m == "names") = false) (h2 : (m == "lines") = false) : List.lookup m [(("names" : Str), d1), ("lines", d2)] = none := by
  rw [List.lookup_cons, h1, List.lookup_cons, h2]
  rfl
theorem g_Net_roads (T : Top K mg c) : GloM P w K mg base 1 c.Net "roads" ["self"] (FnX K (fun n : List Str × List Road => n.2.length ≤ 40) (fun n => [netD c n]) (fun _ => []) (fun n d l => ∃ p, d = .adr p ∧ l = [ownL K p (roadsD n.2)]) noE) :=
  glom_of T.d_Net_roads T.c_Net.cl (fun _ _ _ _ _ _ us hl => match us, hl with | [_], _ => rfl) fun f fd F => fn_ok F cs_Net_roads (fun _ => rfl) fun cdv A outer s H E a hr hok => by
    exact blk_retX (ev_listOf (px_fld (px_var (pv 0) rfl) T.c_Net.cl T.n_Net_lines look_lines) .f T.z_list) fun d l' h => h
section
variable {X : Cx} {g : Gm} {l : List Res} {e1 e2 o : Expr} {p pos : Pos} {j : Nat} {hs : List Str} {rs : List Road}
theorem px_Net (T : Top X.K X.mg c) (hr : Room j X.A) (hj : 4 ≤ j) (ok : OkG (hs, rs)) (h1 : Px X e1 g l (.lst (housesD hs))) (h2 : Px X e2 g l (.lst (roadsD rs))) (hg : Gl X "Net" := by rfl) (he : starEach [e1, e2] X.env = (false, eval e1 X.env) :: starEach [e2] X.env := by rfl) (hs2 : starEach [e2] X.env = [(false, eval e2 X.env)] := by rfl) (hpl : (backTo pos (starEach [e2] X.env)).any (·.1) = false := by rfl) :
    Px X (.Call (.Name "Net" p) [e1, e2] [] pos) g l (netD c (hs, rs)) :=
  (ev_make (g_Net T) hr hj (fun q => (q, hs, rs)) (fun _ => ok) (pa_c h1 (pa_c h2 pa_n hs2) he) (fun _ => rfl) (fun _ => rfl) (fun q d l' h => ⟨h.1, q, rfl, by rw [h.2]; rfl⟩) hg (by decide) he hpl).frzI
theorem ev_roads {apos : Pos} {pl : Sem Bool} {n : List Str × List Road} (T : Top X.K X.mg c) (hr : Room j X.A) (hj : 1 ≤ j) (ok : n.2.length ≤ 40) (ho : Px X o g l (netD c n)) (ht : MthE X o "roads" apos pos [] pl := by rfl) : EvL X (.Call (.Attribute o "roads" apos) [] [] pos) g l (roadsD n.2) :=
  ev_meth0 (lr := l) (own := fun _ => []) (g_Net_roads T) hr hj n ok ho (rc_ins (look_none (by decide +kernel) (by decide +kernel))) rfl (fun d l' h => by
    obtain ⟨p, rfl, rfl⟩ := h
    exact ⟨p, rfl, rfl⟩) ht
end
end
end Lw
set_option Elab.async false
set_option linter.all false
set_option maxRecDepth 100000
set_option maxHeartbeats 4000000
namespace Lw
open PySem L2 Sx
/-! ### plain: houses, roads, letters as the law draws them -/
def cellAt (ns : List Int) (k : Int) : Int := if k < (ns.length : Int) then ns.getD k.toNat 0 else 0
def abcAt (i : Int) : Str := ⟨#[(TL.tl small).getD i.toNat 0]⟩
def wordStep (s : Int × Str) : Int × Str := (s.1 / 26, s.2 ++ abcAt (s.1 % 26))
def wordSt (n0 : Int) : Nat → Int × Str
  | 0 => (n0, "")
  | i + 1 => wordStep (wordSt n0 i)
def wordN (cell : Int) : Int := cell * 1099087573 % 10000000000037
def wordA (cell : Int) : Str := (wordSt (wordN cell / 7) (1 + wordN cell % 7).toNat).2
theorem abcAt_sg {i : Int} (h0 : 0 ≤ i) (h1 : i < 26) : ∀ c ∈ TL.tl (abcAt i), 97 ≤ c ∧ c ≤ 122 := fun c hc => by
  have e : TL.tl (abcAt i) = [(TL.tl small).getD i.toNat 0] := rfl
  rw [e, List.mem_singleton] at hc
  subst hc
  refine small_in.mp ?_
  have hl : i.toNat < (TL.tl small).length := by rw [small_tl]; simp; omega
  rw [List.getD_eq_getElem?_getD, List.getElem?_eq_getElem hl]
  exact List.getElem_mem hl
theorem wordSt_ok (n0 : Int) : ∀ i, (wordSt n0 i).2.length = i ∧ ∀ c ∈ TL.tl (wordSt n0 i).2, 97 ≤ c ∧ c ≤ 122
  | 0 => ⟨rfl, fun c hc => by
    have e : TL.tl ("" : Str) = [] := by decide +kernel
    rw [show TL.tl (wordSt n0 0).2 = TL.tl ("" : Str) from rfl, e] at hc
    cases hc⟩
  | i + 1 => by
    obtain ⟨h1, h2⟩ := wordSt_ok n0 i
    refine ⟨?_, fun c hc => ?_⟩
    · show ((wordSt n0 i).2 ++ abcAt _).length = _
      rw [Str.length_append, h1]
      rfl
    · have hc : c ∈ TL.tl ((wordSt n0 i).2 ++ abcAt ((wordSt n0 i).1 % 26)) := hc
      rw [TL.tl_append] at hc
      rcases List.mem_append.mp hc with q | q
      · exact h2 c q
      · exact abcAt_sg (by omega) (by omega) c q
theorem wordA_ok (cell : Int) : (wordA cell).length ≤ 7 ∧ ∀ c ∈ TL.tl (wordA cell), 97 ≤ c ∧ c ≤ 122 := by
  obtain ⟨h1, h2⟩ := wordSt_ok (wordN cell / 7) (1 + wordN cell % 7).toNat
  refine ⟨?_, h2⟩
  unfold wordA
  rw [h1]
  omega
def insA (x : Str) (at_ : Int) (ch : Str) : Str := cutS x none (some at_) ++ ch ++ cutS x (some at_) none
abbrev marks : Str := "kcxqamzftbje"
theorem marks_tl : TL.tl marks = [107, 99, 120, 113, 97, 109, 122, 102, 116, 98, 106, 101] := by decide +kernel
def oneS (c : Nat) : Str := ⟨#[c]⟩
def housesA (cell many : Int) : List Str := ((TL.tl marks).take many.toNat).map fun c => insA (wordA cell) (cell % ((wordA cell).length + 1)) (oneS c)
theorem tl_insA {x : Str} {a : Int} {c : Nat} (h : 0 ≤ a) : TL.tl (insA x a (oneS c)) = (TL.tl x).take a.toNat ++ c :: (TL.tl x).drop a.toNat := by
  unfold insA
  rw [TL.tl_append, TL.tl_append, tl_cutS, tl_cutS, cut_take h, cut_drop h]
  show _ ++ [c] ++ _ = _
  simp
theorem insA_ok {x : Str} {a : Int} {c : Nat} (h : 0 ≤ a) (hx : x.length ≤ 7) (hs : ∀ c ∈ TL.tl x, 97 ≤ c ∧ c ≤ 122) (hc : 97 ≤ c ∧ c ≤ 122) : OkN (insA x a (oneS c)) := by
  have e := tl_insA (x := x) (c := c) h
  rw [TL.len_tl] at hx
  have hl : (TL.tl (insA x a (oneS c))).length = (TL.tl x).length + 1 := by
    rw [e, List.length_append, List.length_cons, List.length_take, List.length_drop]
    omega
  refine ⟨by rw [TL.len_tl, hl]; omega, by rw [TL.len_tl, hl]; omega, fun z hz => ?_⟩
  rw [e] at hz
  rcases List.mem_append.mp hz with q | q
  · exact hs z (List.mem_of_mem_take q)
  · rcases List.mem_cons.mp q with rfl | q
    · exact hc
    · exact hs z (List.mem_of_mem_drop q)
theorem insA_inj {x : Str} {a : Int} {c d : Nat} (h : 0 ≤ a) (e : insA x a (oneS c) = insA x a (oneS d)) : c = d := by
  have e2 := congrArg TL.tl e
  rw [tl_insA h, tl_insA h] at e2
  exact (List.cons.inj (List.append_cancel_left e2)).1
theorem housesA_len {cell many : Int} (h : many ≤ 12) : (housesA cell many).length = many.toNat := by
  unfold housesA
  rw [List.length_map, List.length_take, marks_tl]
  show min many.toNat 12 = _
  omega
theorem housesA_ok {cell many : Int} (h : many ≤ 12) : OkH (housesA cell many) := by
  obtain ⟨h1, h2⟩ := wordA_ok cell
  have ha : 0 ≤ cell % ((wordA cell).length + 1) := Int.emod_nonneg _ (by omega)
  refine ⟨fun x hx => ?_, ?_, ?_⟩
  · unfold housesA at hx
    obtain ⟨c, hc, rfl⟩ := List.mem_map.mp hx
    refine insA_ok ha h1 h2 ?_
    have hm := List.mem_of_mem_take hc
    rw [marks_tl] at hm
    simp only [List.mem_cons, List.not_mem_nil, or_false] at hm
    omega
  · unfold housesA
    have nd : ((TL.tl marks).take many.toNat).Nodup := List.Nodup.sublist (List.take_sublist _ _) (by rw [marks_tl]; decide)
    exact List.Pairwise.map _ (fun c d hne e => hne (insA_inj ha e)) nd
  · rw [housesA_len h]
    omega

theorem getD_mem {α : Type} {xs : List α} {i : Int} {x0 : α} (h0 : 0 ≤ i) (h1 : i < xs.length) : xs.getD i.toNat x0 ∈ xs := by
  have hl : i.toNat < xs.length := by omega
  rw [List.getD_eq_getElem?_getD, List.getElem?_eq_getElem hl]
  exact List.getElem_mem hl
theorem getD_ne {α : Type} {xs : List α} {i j : Int} {x0 : α} (nd : xs.Nodup) (hi : 0 ≤ i ∧ i < xs.length) (hj : 0 ≤ j ∧ j < xs.length) (hne : i ≠ j) : xs.getD i.toNat x0 ≠ xs.getD j.toNat x0 := by
  have l1 : i.toNat < xs.length := by omega
  have l2 : j.toNat < xs.length := by omega
  rw [List.getD_eq_getElem?_getD, List.getElem?_eq_getElem l1, List.getD_eq_getElem?_getD, List.getElem?_eq_getElem l2]
  intro e
  have e : xs[i.toNat] = xs[j.toNat] := e
  have p := List.pairwise_iff_getElem.mp nd
  rcases Nat.lt_trichotomy i.toNat j.toNat with h | h | h
  · exact p _ _ l1 l2 h e
  · omega
  · exact p _ _ l2 l1 h e.symm
/-- a road's ends differ -/
theorem ends_ok {n m : Int} (hm : 2 ≤ m) (k : Int) : (0 ≤ n % m ∧ n % m < m) ∧ (0 ≤ (n % m + 1 + k % (m - 1)) % m ∧ (n % m + 1 + k % (m - 1)) % m < m) ∧ n % m ≠ (n % m + 1 + k % (m - 1)) % m := by
  have a1 := Int.emod_nonneg n (show m ≠ 0 by omega)
  have a2 := Int.emod_lt_of_pos n (show 0 < m by omega)
  have b1 := Int.emod_nonneg k (show m - 1 ≠ 0 by omega)
  have b2 := Int.emod_lt_of_pos k (show 0 < m - 1 by omega)
  refine ⟨⟨a1, a2⟩, ⟨Int.emod_nonneg _ (by omega), Int.emod_lt_of_pos _ (by omega)⟩, ?_⟩
  generalize n % m = x at a1 a2 ⊢
  generalize k % (m - 1) = y at b1 b2 ⊢
  by_cases h : x + 1 + y < m
  · rw [Int.emod_eq_of_lt (by omega) h]
    omega
  · have e : (x + 1 + y) % m = x + 1 + y - m := by
      rw [← Int.sub_emod_right (x + 1 + y) m]
      exact Int.emod_eq_of_lt (by omega) (by omega)
    rw [e]
    omega
def roadA (hs : List Str) (long cell : Int) : Road :=
  let n := cell * 48271 % 2147483647
  let m : Int := hs.length
  let b := n % m
  let e := (b + 1 + n / 12 % (m - 1)) % m
  (hs.getD b.toNat "", hs.getD e.toNat "", 1 + n / 2160 % long, if n / 432 % 5 = 1 then 1 + cell % 1000000000 else 1 + n / 144 % 3)
theorem roadA_ok {hs : List Str} {long cell : Int} (nd : hs.Nodup) (h2 : 2 ≤ hs.length) (hl : 1 ≤ long ∧ long ≤ 9) : OkR hs (roadA hs long cell) := by
  have hm : (2 : Int) ≤ hs.length := by omega
  obtain ⟨a, b, c⟩ := ends_ok (n := cell * 48271 % 2147483647) hm (cell * 48271 % 2147483647 / 12)
  refine ⟨getD_mem a.1 a.2, getD_mem b.1 b.2, getD_ne nd a b c, ?_, ?_⟩
  · show 1 ≤ 1 + cell * 48271 % 2147483647 / 2160 % long ∧ 1 + cell * 48271 % 2147483647 / 2160 % long ≤ 9
    have h1 := Int.emod_nonneg (cell * 48271 % 2147483647 / 2160) (show long ≠ 0 by omega)
    have h3 := Int.emod_lt_of_pos (cell * 48271 % 2147483647 / 2160) (show 0 < long by omega)
    omega
  · unfold roadA
    dsimp only
    split <;> omega
def roadsA (hs : List Str) (long : Int) (cells : List Int) : List Road := if 1 < hs.length then cells.map (roadA hs long) else []
theorem roadsA_ok {hs : List Str} {long : Int} {cells : List Int} (oh : OkH hs) (hl : 1 ≤ long ∧ long ≤ 9) (hc : cells.length ≤ 40) : OkG (hs, roadsA hs long cells) := by
  refine ⟨oh, fun r hr => ?_, ?_⟩
  · have hr : r ∈ roadsA hs long cells := hr
    unfold roadsA at hr
    split at hr
    · rename_i h2
      obtain ⟨x, _, rfl⟩ := List.mem_map.mp hr
      exact roadA_ok oh.nd h2 hl
    · cases hr
  · show (roadsA hs long cells).length ≤ 40
    unfold roadsA
    split
    · rw [List.length_map]; exact hc
    · exact Nat.zero_le _
abbrev Letter := Str × Int × Str
def letterD (a : Letter) : D := .tup [.str a.1, .int a.2.1, .str a.2.2]
abbrev lettersD (ls : List Letter) : List D := ls.map letterD
def letterA (hs : List Str) (goals base_ span cell : Int) : Letter :=
  let n := cell * 1220703125 % 2147483629
  let m : Int := hs.length
  (hs.getD ((n % goals + 1 + n / 12 % (m - 1)) % m).toNat "", base_ + n / 144 % span, hs.getD (n % goals).toNat "")
structure OkL (hs : List Str) (base_ span : Int) (a : Letter) : Prop where
  b : a.1 ∈ hs
  e : a.2.2 ∈ hs
  ne : a.1 ≠ a.2.2
  t : base_ ≤ a.2.1 ∧ a.2.1 < base_ + span
theorem letterA_ok {hs : List Str} {goals base_ span cell : Int} (nd : hs.Nodup) (h2 : 2 ≤ hs.length) (hg : 1 ≤ goals ∧ goals ≤ hs.length) (hs' : 1 ≤ span) : OkL hs base_ span (letterA hs goals base_ span cell) := by
  have hm : (2 : Int) ≤ hs.length := by omega
  have g1 := Int.emod_nonneg (cell * 1220703125 % 2147483629) (show goals ≠ 0 by omega)
  have g2 := Int.emod_lt_of_pos (cell * 1220703125 % 2147483629) (show 0 < goals by omega)
  obtain ⟨a, b, c⟩ := ends_ok (n := cell * 1220703125 % 2147483629 % goals) hm (cell * 1220703125 % 2147483629 / 12)
  have e : cell * 1220703125 % 2147483629 % goals % (hs.length : Int) = cell * 1220703125 % 2147483629 % goals := Int.emod_eq_of_lt g1 (by omega)
  rw [e] at a b c
  refine ⟨getD_mem b.1 b.2, getD_mem a.1 a.2, (getD_ne nd b a (Ne.symm c)), ?_⟩
  show base_ ≤ base_ + cell * 1220703125 % 2147483629 / 144 % span ∧ base_ + cell * 1220703125 % 2147483629 / 144 % span < base_ + span
  have h1 := Int.emod_nonneg (cell * 1220703125 % 2147483629 / 144) (show span ≠ 0 by omega)
  have h3 := Int.emod_lt_of_pos (cell * 1220703125 % 2147483629 / 144) (show 0 < span by omega)
  omega
end Lw
set_option Elab.async false
set_option linter.all false
set_option maxRecDepth 100000
set_option maxHeartbeats 4000000
namespace Lw
open PySem L2 Sx
/-! ### the walk: what the law draws -/
section
variable {P : Program} {w : World} {K : PySem.W.Frag} {mg : Str → Option Value} {base : Heap} {c : Cs}
theorem g_at (T : Top K mg c) : Glo P w K mg base 1 "_law_at" ["_law_script", "_law_k"] (Pu K (fun a : List Int × Int => 0 ≤ a.2) (fun a => [.scr (a.1.map .int), .int a.2]) (fun a => .int (cellAt a.1 a.2))) :=
  glo_of T.d_law_at (fun _ _ _ _ _ _ us hl => match us, hl with | [_, _], _ => rfl) fun f fd F => fn_ok F cs_law_at (fun _ => rfl) fun cdv A outer s H E a hr hok => by
    obtain ⟨ns, k⟩ := a
    have hk : 0 ≤ k := hok
    refine blk_if (ts_cmp op_lt (px_var (pv 1) rfl) (px_bi call_len_seq T.z_len (pa_c (px_var (pv 0) rfl) pa_n) o_lenR) o_lt) (fun h => ?_) (fun h => ?_)
    · have h1 : k < (ns.length : Int) := by
        have := of_decide_eq_true h
        rwa [List.length_map] at this
      refine blk_ret (px_ix ix_list (px_var (pv 0) rfl) (px_var (pv 1) rfl) (o_ixR (d := .int (ns.getD k.toNat 0)) (atI_map (atI_in hk h1)))) ⟨?_, rfl⟩
      show D.int _ = D.int (cellAt ns k)
      unfold cellAt
      rw [if_pos h1]
    · have h1 : ¬ k < (ns.length : Int) := by
        have := of_decide_eq_false h
        rwa [List.length_map] at this
      refine blk_nil (blk_ret px_int ⟨?_, rfl⟩)
      show D.int _ = D.int (cellAt ns k)
      unfold cellAt
      rw [if_neg h1]
theorem px_at {X : Cx} {g : Gm} {l : List Res} {e : Expr} {p pos p2 : Pos} {j n : Nat} {ns : List Int} {k : Int} (T : Top X.K X.mg c) (hr : Room j X.A) (hj : 1 ≤ j) (h : Px X e g l (.scr (ns.map .int))) (hk : 0 ≤ k := by decide) (hg : Gl X "_law_at" := by rfl)
    (hs : starEach [e, .Constant (.int k) n p2] X.env = (false, eval e X.env) :: starEach [.Constant (.int k) n p2] X.env := by rfl) (hs2 : starEach [.Constant (.int k) n p2] X.env = [(false, eval (.Constant (.int k) n p2) X.env)] := by rfl) (hpl : (backTo pos (starEach [.Constant (.int k) n p2] X.env)).any (·.1) = false := by rfl) :
    Px X (.Call (.Name "_law_at" p) [e, .Constant (.int k) n p2] [] pos) g l (.int (cellAt ns k)) :=
  px_call (g_at T) hr hj (ns, k) hk (pa_c h (pa_c px_int pa_n hs2) hs) hg (by decide) hs hpl
theorem g_word (T : Top K mg c) : Glo P w K mg base 1 "_law_word" ["_law_cell"] (Pu K (fun _ : Int => True) (fun a => [.int a]) (fun a => .str (wordA a))) :=
  glo_of T.d_law_word (fun _ _ _ _ _ _ us hl => match us, hl with | [_], _ => rfl) fun f fd F => fn_ok F cs_law_word (fun _ => rfl) fun cdv A outer s H E a hr hok => by
    have nd := cs_law_word.nd
    refine blk_set nd (i := 1) (d := .int (wordN a)) rfl (.inl rfl) (px_op op_mod (px_op op_mul (px_var (pv 0) rfl) px_int o_mulR) px_int o_mod) ?_
    refine blk_set nd (i := 2) (d := .int (1 + wordN a % 7)) rfl (.inl rfl) (px_op op_add px_int (px_op op_mod (px_var (pv 1) rfl) px_int o_mod) o_add) ?_
    refine blk_set nd (i := 1) (d := .int (wordN a / 7)) rfl (.inl rfl) (px_op op_fdiv (px_var (pv 1) rfl) px_int o_fdiv) ?_
    refine blk_set nd (i := 3) rfl (.inl rfl) px_str ?_
    refine blk_for (is := [4]) (fun i g l => (∃ o, g = [some (.int a), some (.int (wordSt (wordN a / 7) i).1), some (.int (1 + wordN a % 7)), some (.str (wordSt (wordN a / 7) i).2), o]) ∧ l = []) PassesOwn.never rfl
      (it_range (px_var (pv 2) rfl) (by omega) (by omega) T.z_range) (pg_name (i := 4) nd rfl (.inl rfl)) ⟨⟨none, rfl⟩, rfl⟩ (fun i d g l hd hI => ?_) (fun g l hI => ?_)
    · obtain ⟨⟨o, rfl⟩, rfl⟩ := hI
      obtain ⟨hi, rfl⟩ := rng_get hd
      have hi7 : i < 8 := by
        have : i < (1 + wordN a % 7).toNat := hi
        omega
      have h1 := (wordSt_ok (wordN a / 7) i).1
      have hm : 0 ≤ (wordSt (wordN a / 7) i).1 % 26 ∧ (wordSt (wordN a / 7) i).1 % 26 < 26 := by omega
      refine ⟨_, tg_name, ?_⟩
      refine blk_set nd (i := 3) (d := .str ((wordSt (wordN a / 7) i).2 ++ abcAt ((wordSt (wordN a / 7) i).1 % 26))) rfl (.inl rfl) (px_op op_add_str (px_var (pv 3) rfl) (px_ix ix_str px_str (px_op op_mod (px_var (pv 1) rfl) px_int o_mod) (o_ixS (c := (TL.tl small).getD ((wordSt (wordN a / 7) i).1 % 26).toNat 0) (by decide) (atI_in hm.1 hm.2))) (o_addS ?_)) ?_
      · rw [h1]
        show i + 1 ≤ sizeLine
        exact Nat.le_trans (show i + 1 ≤ 100 by omega) (by decide)
      refine blk_set nd (i := 1) rfl (.inl rfl) (px_op op_fdiv (px_var (pv 1) rfl) px_int o_fdiv) ?_
      exact blk_nil ⟨⟨_, rfl⟩, rfl⟩
    · obtain ⟨⟨o, rfl⟩, rfl⟩ := hI
      rw [rng_len]
      exact blk_ret (px_var (pv 3) rfl) ⟨rfl, rfl⟩
theorem sig_marks (n : Nat) : ((TL.tl marks).take n).length ≤ 12 := by rw [List.length_take, marks_tl]; show min n 12 ≤ 12; omega
theorem g_housesA (T : Top K mg c) : Glo P w K mg base 2 "_law_houses" ["_law_cell", "_law_many"] (Fr K (fun a : Int × Int => 0 ≤ a.2) (fun a => [.int a.1, .int a.2]) (fun a => housesD (housesA a.1 a.2))) :=
  glo_of T.d_law_houses (fun _ _ _ _ _ _ us hl => match us, hl with | [_, _], _ => rfl) fun f fd F => fn_ok F cs_law_houses (fun _ => rfl) fun cdv A outer s H E a hr hok => by
    have nd := cs_law_houses.nd
    obtain ⟨cell, many⟩ := a
    have hm : 0 ≤ many := hok
    have hw := wordA_ok cell
    refine blk_set nd (i := 2) rfl (.inr rfl) (px_call (g_word T) hr (by decide) cell trivial (pa_c (px_var (pv 0) rfl) pa_n)) ?_
    refine blk_set nd (i := 3) (d := .int (cell % ((wordA cell).length + 1))) rfl (.inr rfl) (px_op op_mod (px_var (pv 0) rfl) (px_op op_add (px_bi call_len_str T.z_len (pa_c (px_var (pv 2) rfl) pa_n) (o_lenS (Nat.le_trans hw.1 (by decide)))) px_int o_add) (o_mod (by omega))) ?_
    have ha : 0 ≤ cell % ((wordA cell).length + 1) := Int.emod_nonneg _ (by omega)
    have ec : TL.tl (cutS marks none (some many)) = (TL.tl marks).take many.toNat := by rw [tl_cutS, cut_take hm]
    refine blk_retX (ev_lc (own := [("_law_letter", 4)]) (is := [4]) (rs := housesD (housesA cell many)) rfl nd (it_str (px_slS px_str (by decide) pz_n (pz_s (px_var (pv 1) rfl)))) (blkOk_by (N := ns_law_houses) (sc := defScope s_law_houses) (by decide +kernel)) (fun _ _ _ _ _ => pg_name (i := 4) nd rfl (.inl rfl)) (by decide) ?c1 ?c2 ?c3) fun d l' h => h
    case c1 =>
      unfold signs housesA
      rw [show (cutS marks none (some many)).cps.toList = _ from ec]
      simp
    case c2 =>
      unfold housesA
      rw [List.length_map, List.length_map]
      exact Nat.le_trans (sig_marks _) (szS (by decide))
    case c3 =>
      intro i d hd
      unfold signs at hd
      rw [show (cutS marks none (some many)).cps.toList = _ from ec, List.getElem?_map] at hd
      cases e : ((TL.tl marks).take many.toNat)[i]? with
      | none => rw [e] at hd; cases hd
      | some ch =>
        rw [e] at hd
        cases hd
        refine ⟨_, .str (insA (wordA cell) (cell % ((wordA cell).length + 1)) (oneS ch)), tg_name, by unfold housesA; rw [List.getElem?_map, List.getElem?_map, e]; rfl, fun _ _ _ _ _ => ?_⟩
        have l1 : (cutS (wordA cell) none (some (cell % ((wordA cell).length + 1)))).length ≤ 7 := Nat.le_trans (cutS_length _ _ _) hw.1
        have l2 : (cutS (wordA cell) (some (cell % ((wordA cell).length + 1))) none).length ≤ 7 := Nat.le_trans (cutS_length _ _ _) hw.1
        have l3 : (cutS (wordA cell) none (some (cell % ((wordA cell).length + 1))) ++ oneS ch).length ≤ 8 := by rw [Str.length_append]; show _ + 1 ≤ 8; omega
        exact px_op op_add_str (px_op op_add_str (px_slS (px_var (pv 2) rfl) (Nat.le_trans hw.1 (by decide)) pz_n (pz_s (px_var (pv 3) rfl))) (px_var (pv 4) rfl) (o_addS (Nat.le_trans (Nat.add_le_add l1 (Nat.le_of_eq rfl)) (szS (Nat.le_of_ble_eq_true rfl))))) (px_slS (px_var (pv 2) rfl) (Nat.le_trans hw.1 (by decide)) (pz_s (px_var (pv 3) rfl)) pz_n) (o_addS (Nat.le_trans (Nat.add_le_add l3 l2) (szS (by decide))))
theorem g_roadsA (T : Top K mg c) : Glo P w K mg base 1 "_law_roads" ["_law_cells", "_law_houses_here", "_law_long"] (Fr K (fun a : List Int × List Str × Int => 1 ≤ a.2.2 ∧ a.1.length ≤ 100) (fun a => [.lst (a.1.map .int), .lst (housesD a.2.1), .int a.2.2]) (fun a => roadsD (roadsA a.2.1 a.2.2 a.1))) :=
  glo_of T.d_law_roads (fun _ _ _ _ _ _ us hl => match us, hl with | [_, _, _], _ => rfl) fun f fd F => fn_ok F cs_law_roads (fun _ => rfl) fun cdv A outer s H E a hr hok => by
    have nd := cs_law_roads.nd
    obtain ⟨cells, hs, long⟩ := a
    obtain ⟨hlo, hle⟩ : 1 ≤ long ∧ cells.length ≤ 100 := hok
    refine blk_setX nd (i := 3) rfl (.inl rfl) (ev_lst pa_n) fun d l' ⟨p, e1, e2⟩ => ?_
    subst e1; subst e2
    refine blk_if (ts_cmp op_gt (px_bi call_len_seq T.z_len (pa_c (px_var (pv 1) rfl) pa_n) o_lenL) px_int o_gt) (fun h => ?_) (fun h => ?_)
    · have h2 : 1 < hs.length := by
        have h' : (1 : Int) < ((housesD hs).length : Int) := of_decide_eq_true h
        have e : (housesD hs).length = hs.length := List.length_map ..
        omega
      refine blk_for (is := [4]) (fun i g l => (∃ o4 o5 o6 o7 o8, g = [some (.lst (cells.map .int)), some (.lst (housesD hs)), some (.int long), some (.adr p), o4, o5, o6, o7, o8]) ∧ l = [ownL K p (roadsD ((cells.take i).map (roadA hs long)))]) PassesOwn.never rfl
        (it_list (px_var (pv 0) rfl)) (pg_name (i := 4) nd rfl (.inl rfl)) ⟨⟨none, none, none, none, none, rfl⟩, rfl⟩ (fun i d g l hd hI => ?_) (fun g l hI => ?_)
      · obtain ⟨⟨o4, o5, o6, o7, o8, rfl⟩, rfl⟩ := hI
        rw [List.getElem?_map] at hd
        cases e : cells[i]? with
        | none => rw [e] at hd; cases hd
        | some cell =>
          rw [e] at hd
          cases hd
          have hi : i < cells.length := (List.getElem?_eq_some_iff.mp e).1
          have et : (cells.take (i + 1)).map (roadA hs long) = (cells.take i).map (roadA hs long) ++ [roadA hs long cell] := by
            rw [List.take_add_one, e, List.map_append]; rfl
          have er : roadA hs long cell = (hs.getD ((cell * 48271 % 2147483647) % (hs.length : Int)).toNat "", hs.getD (((cell * 48271 % 2147483647) % (hs.length : Int) + 1 + (cell * 48271 % 2147483647) / 12 % ((hs.length : Int) - 1)) % (hs.length : Int)).toNat "", 1 + (cell * 48271 % 2147483647) / 2160 % long, if (cell * 48271 % 2147483647) / 432 % 5 = 1 then 1 + cell % 1000000000 else 1 + (cell * 48271 % 2147483647) / 144 % 3) := rfl
          refine ⟨_, tg_name, ?_⟩
          refine blk_set nd (i := 5) (d := .int (cell * 48271 % 2147483647)) rfl (.inl rfl) (px_op op_mod (px_op op_mul (px_var (pv 4) rfl) px_int o_mulR) px_int o_mod) ?_
          generalize cell * 48271 % 2147483647 = n at er ⊢
          have hm : (2 : Int) ≤ hs.length := by omega
          obtain ⟨a1, a2, a3⟩ := ends_ok (n := n) hm (n / 12)
          have el : (hs.map D.str).length = hs.length := List.length_map ..
          refine blk_set nd (i := 6) (d := .int (n % (hs.length : Int))) rfl (.inl rfl) (px_op op_mod (px_var (pv 5) rfl) (Px.to (px_bi call_len_seq T.z_len (pa_c (px_var (pv 1) rfl) pa_n) o_lenL) (by rw [el])) (o_mod (by omega))) ?_
          refine blk_set nd (i := 7) (d := .int ((n % (hs.length : Int) + 1 + n / 12 % ((hs.length : Int) - 1)) % (hs.length : Int))) rfl (.inl rfl) (px_op op_mod (px_op op_add (px_op op_add (px_var (pv 6) rfl) px_int o_add) (px_op op_mod (px_op op_fdiv (px_var (pv 5) rfl) px_int o_fdiv) (px_op op_sub (Px.to (px_bi call_len_seq T.z_len (pa_c (px_var (pv 1) rfl) pa_n) o_lenL) (by rw [el])) px_int o_sub) (o_mod (by omega))) o_add) (Px.to (px_bi call_len_seq T.z_len (pa_c (px_var (pv 1) rfl) pa_n) o_lenL) (by rw [el])) (o_mod (by omega))) ?_
          generalize hb : n % (hs.length : Int) = b at a1 a2 a3 er ⊢
          generalize he : (b + 1 + n / 12 % ((hs.length : Int) - 1)) % (hs.length : Int) = e' at a2 a3 er ⊢
          refine blk_set nd (i := 8) (d := .int (1 + n / 144 % 3)) rfl (.inl rfl) (px_op op_add px_int (px_op op_mod (px_op op_fdiv (px_var (pv 5) rfl) px_int o_fdiv) px_int o_mod) o_add) ?_
          refine blk_ifJ (fun g l => g = [some (.lst (cells.map .int)), some (.lst (housesD hs)), some (.int long), some (.adr p), some (.int cell), some (.int n), some (.int b), some (.int e'), some (.int (if n / 432 % 5 = 1 then 1 + cell % 1000000000 else 1 + n / 144 % 3))] ∧ l = [ownL K p (roadsD ((cells.take i).map (roadA hs long)))]) (ts_cmp op_eq (px_op op_mod (px_op op_fdiv (px_var (pv 5) rfl) px_int o_fdiv) px_int o_mod) px_int o_eqI) (fun h => ?_) (fun h => ?_) (fun g l hM => ?_)
          · have h : n / 432 % 5 = 1 := of_decide_eq_true h
            refine blk_set nd (i := 8) (d := .int (1 + cell % 1000000000)) rfl (.inl rfl) (px_op op_add px_int (px_op op_mod (px_var (pv 4) rfl) (px_op op_pow px_int px_int o_pow) (o_mod (j := 1000000000))) o_add) ?_
            refine blk_nil ⟨?_, rfl⟩
            rw [if_pos h]
            rfl
          · have h : ¬ n / 432 % 5 = 1 := of_decide_eq_false h
            refine blk_nil ⟨?_, rfl⟩
            rw [if_neg h]
            rfl
          · obtain ⟨rfl, rfl⟩ := hM
            refine blk_add (k := 0) (d := roadD (roadA hs long cell)) (px_var (pv 3) rfl) (Px.to (px_tup (pa_c (px_ix ix_list (px_var (pv 1) rfl) (px_var (pv 6) rfl) (o_ixL (d := .str (hs.getD b.toNat "")) (atI_map (atI_in a1.1 a1.2)))) (pa_c (px_ix ix_list (px_var (pv 1) rfl) (px_var (pv 7) rfl) (o_ixL (d := .str (hs.getD e'.toNat "")) (atI_map (atI_in a2.1 a2.2)))) (pa_c (px_op op_add px_int (px_op op_mod (px_op op_fdiv (px_var (pv 5) rfl) px_int o_fdiv) (px_var (pv 2) rfl) (o_mod (by omega))) o_add) (pa_c (px_var (pv 8) rfl) pa_n))))) (by rw [er]; rfl)) rfl ?_ ?_
            · rw [List.length_map, List.length_map, List.length_take]
              exact Nat.lt_of_lt_of_le (show min i cells.length < 10000 by omega) (szS (Nat.le_refl _))
            · refine blk_nil ⟨⟨_, _, _, _, _, rfl⟩, ?_⟩
              rw [et]
              show [ownL K p (roadsD _ ++ [roadD _])] = [ownL K p ((_ ++ [_]).map roadD)]
              rw [List.map_append]
              rfl
      · obtain ⟨⟨o4, o5, o6, o7, o8, rfl⟩, rfl⟩ := hI
        refine blk_nil (blk_ret (px_var (pv 3) rfl) ⟨p, rfl, ?_⟩)
        rw [List.length_map, List.take_length]
        show _ = [ownL K p (roadsD (roadsA hs long cells))]
        unfold roadsA
        rw [if_pos h2]
    · have h2 : ¬ 1 < hs.length := by
        have h' : ¬ (1 : Int) < ((housesD hs).length : Int) := of_decide_eq_false h
        have e : (housesD hs).length = hs.length := List.length_map ..
        omega
      refine blk_nil (blk_ret (px_var (pv 3) rfl) ⟨p, rfl, ?_⟩)
      show _ = [ownL K p (roadsD (roadsA hs long cells))]
      unfold roadsA
      rw [if_neg h2]
      rfl
end
end Lw
set_option Elab.async false
set_option linter.all false
set_option maxRecDepth 100000
set_option maxHeartbeats 4000000
namespace Lw
open PySem L2 Sx
/-! ### plain: how far -/
def optD : Option Int → D
  | none => .non
  | some i => .int i
abbrev Tab := List (Str × Int)
def tv (T : Tab) (x : Str) : Option Int := (T.find? fun q => decide (q.1 = x)).map (·.2)
def putT (T : Tab) (x : Str) (v : Int) : Tab := if (T.any fun q => decide (q.1 = x)) = true then T.map (fun q => if q.1 = x then (q.1, v) else q) else T ++ [(x, v)]
abbrev tabD (T : Tab) : List (Key × D) := T.map fun q => (Sum.inr q.1, .int q.2)
theorem inr_dec (x y : Str) : decide ((Sum.inr x : Key) = Sum.inr y) = decide (x = y) := by
  by_cases h : x = y
  · rw [decide_eq_true h, decide_eq_true (congrArg Sum.inr h)]
  · rw [decide_eq_false h, decide_eq_false fun e => h (Sum.inr.inj e)]
theorem valD_tab (x : Str) : ∀ T : Tab, valD (tabD T) (.inr x) = (tv T x).map .int
  | [] => rfl
  | (y, v) :: r => by
    have ih := valD_tab x r
    unfold valD tv at ih ⊢
    show Option.map _ (List.find? _ ((Sum.inr y, D.int v) :: tabD r)) = _
    rw [List.find?_cons, List.find?_cons]
    show Option.map _ (match decide ((Sum.inr y : Key) = Sum.inr x) with | true => _ | false => _) = Option.map _ (Option.map _ (match decide (y = x) with | true => _ | false => _))
    rw [inr_dec]
    cases decide (y = x) with
    | true => rfl
    | false => exact ih
theorem any_tab (x : Str) : ∀ T : Tab, ((tabD T).any fun kv => decide (kv.1 = (.inr x : Key))) = T.any fun q => decide (q.1 = x)
  | [] => rfl
  | (y, v) :: r => by
    show (decide ((Sum.inr y : Key) = Sum.inr x) || (tabD r).any _) = _
    rw [any_tab x r, inr_dec]
    rfl
theorem putKD_tab (T : Tab) (x : Str) (v : Int) : putKD (tabD T) (.inr x) (.int v) = tabD (putT T x v) := by
  unfold putKD putT
  rw [any_tab]
  split
  · show (T.map fun q => ((Sum.inr q.1 : Key), D.int q.2)).map _ = (T.map _).map fun q : Str × Int => ((Sum.inr q.1 : Key), D.int q.2)
    rw [List.map_map, List.map_map]
    refine List.map_congr_left fun q _ => ?_
    show (if (Sum.inr q.1 : Key) = Sum.inr x then ((Sum.inr q.1 : Key), D.int v) else (Sum.inr q.1, .int q.2)) = (Sum.inr (if q.1 = x then (q.1, v) else q).1, D.int (if q.1 = x then (q.1, v) else q).2)
    by_cases h : q.1 = x
    · rw [if_pos h, if_pos (congrArg Sum.inr h)]
    · rw [if_neg h, if_neg fun e => h (Sum.inr.inj e)]
  · show _ = (T ++ [(x, v)]).map fun q : Str × Int => ((Sum.inr q.1 : Key), D.int q.2)
    rw [List.map_append]
    rfl
theorem tv_some_any {x : Str} : ∀ {T : Tab}, (T.any fun q => decide (q.1 = x)) = (tv T x).isSome
  | [] => rfl
  | (y, v) :: r => by
    have ih := tv_some_any (x := x) (T := r)
    unfold tv at ih ⊢
    rw [List.any_cons, List.find?_cons]
    cases decide (y = x) with
    | true => rfl
    | false => exact ih
theorem tv_map {x y : Str} {v : Int} : ∀ {T : Tab}, tv (T.map (fun q => if q.1 = x then (q.1, v) else q)) y = if y = x then (tv T x).map (fun _ => v) else tv T y
  | [] => by unfold tv; split <;> rfl
  | (z, u) :: r => by
    have ih := tv_map (x := x) (y := y) (v := v) (T := r)
    unfold tv at ih ⊢
    rw [List.map_cons, List.find?_cons, List.find?_cons, List.find?_cons]
    by_cases h : z = x
    · subst h
      show Option.map _ (match decide ((if z = z then (z, v) else (z, u)).1 = y) with | true => _ | false => _) = _
      rw [if_pos rfl, decide_eq_true (rfl : z = z)]
      by_cases k : z = y
      · subst k
        rw [if_pos rfl, decide_eq_true (rfl : z = z)]
        all_goals rfl
      · rw [decide_eq_false k, if_neg (fun e => k e.symm)]
        rw [if_neg (fun e => k e.symm)] at ih
        exact ih
    · show Option.map _ (match decide ((if z = x then (z, v) else (z, u)).1 = y) with | true => _ | false => _) = _
      rw [if_neg h, decide_eq_false h]
      by_cases k : z = y
      · subst k
        rw [if_neg h, decide_eq_true (rfl : z = z)]
        all_goals rfl
      · rw [decide_eq_false k]
        exact ih
theorem tv_snoc {x y : Str} {v : Int} : ∀ {T : Tab}, tv T x = none → tv (T ++ [(x, v)]) y = if y = x then some v else tv T y
  | [], _ => by
    unfold tv
    rw [List.nil_append, List.find?_cons]
    by_cases k : y = x
    · subst k; rw [if_pos rfl, decide_eq_true rfl]; rfl
    · rw [if_neg k, decide_eq_false (fun e => k e.symm)]
      all_goals rfl
  | (z, u) :: r, h => by
    have hz : ¬ z = x := fun e => by
      subst e
      unfold tv at h
      rw [List.find?_cons, decide_eq_true rfl] at h
      cases h
    have h' : tv r x = none := by
      unfold tv at h ⊢
      rw [List.find?_cons, decide_eq_false hz] at h
      exact h
    have ih := tv_snoc (x := x) (y := y) (v := v) h'
    unfold tv at ih ⊢
    rw [List.cons_append, List.find?_cons, List.find?_cons]
    by_cases k : z = y
    · subst k
      rw [decide_eq_true rfl, if_neg hz]
      all_goals rfl
    · rw [decide_eq_false k]
      exact ih
theorem tv_put {T : Tab} {x y : Str} {v : Int} : tv (putT T x v) y = if y = x then some v else tv T y := by
  unfold putT
  rw [tv_some_any]
  cases h : tv T x with
  | none =>
    rw [if_neg (by simp)]
    exact tv_snoc h
  | some u =>
    rw [if_pos (show (some u).isSome = true from rfl), tv_map, h]
    all_goals rfl
theorem putT_len {T : Tab} {x : Str} {v : Int} : (putT T x v).length = T.length + (if (tv T x).isSome = true then 0 else 1) := by
  unfold putT
  rw [tv_some_any]
  split
  · rw [List.length_map]; rfl
  · rw [List.length_append]; rfl
/-- what is told of how far it is -/
structure IsFar (rs : List Road) (goal : Str) (f : Str → Option Int) : Prop where
  g0 : f goal = some 0
  nn : ∀ x v, f x = some v → 0 ≤ v
  cl : ∀ r ∈ rs, ∀ w, f r.2.1 = some w → ∃ u, f r.1 = some u ∧ u ≤ w + r.2.2.1
  tt : ∀ x v, f x = some v → x ≠ goal → ∃ r ∈ rs, r.1 = x ∧ ∃ w, f r.2.1 = some w ∧ v = w + r.2.2.1
theorem far_le {rs : List Road} {goal : Str} {f h : Str → Option Int} (hf : IsFar rs goal f) (hh : IsFar rs goal h) (ht : ∀ r ∈ rs, 1 ≤ r.2.2.1) : ∀ (n : Nat) (x : Str) (v : Int), v.toNat = n → f x = some v → ∃ u, h x = some u ∧ u ≤ v := by
  intro n
  induction n using Nat.strongRecOn with
  | _ n ih =>
    intro x v hn hx
    have hv := hf.nn x v hx
    by_cases e : x = goal
    · subst e
      exact ⟨0, hh.g0, hv⟩
    · obtain ⟨r, hr, rfl, w, hw, rfl⟩ := hf.tt x v hx e
      have h1 := ht r hr
      have h2 := hf.nn _ w hw
      obtain ⟨u, hu, hle⟩ := ih w.toNat (by omega) _ w rfl hw
      obtain ⟨z, hz, hle2⟩ := hh.cl r hr u hu
      exact ⟨z, hz, by omega⟩
theorem far_unique {rs : List Road} {goal : Str} {f h : Str → Option Int} (hf : IsFar rs goal f) (hh : IsFar rs goal h) (ht : ∀ r ∈ rs, 1 ≤ r.2.2.1) (x : Str) : f x = h x := by
  cases a : f x with
  | some v =>
    obtain ⟨u, h1, h2⟩ := far_le hf hh ht _ x v rfl a
    obtain ⟨w, h3, h4⟩ := far_le hh hf ht _ x u rfl h1
    rw [a] at h3
    cases h3
    rw [h1, Int.le_antisymm h4 h2]
  | none =>
    cases b : h x with
    | none => rfl
    | some u =>
      obtain ⟨w, h3, _⟩ := far_le hh hf ht _ x u rfl b
      rw [a] at h3
      cases h3
open Classical in
/-- how far each house is from the goal -/
noncomputable def farF (rs : List Road) (goal : Str) : Str → Option Int := if h : ∃ f, IsFar rs goal f then choose h else fun _ => none
theorem farF_is {rs : List Road} {goal : Str} {f : Str → Option Int} (h : IsFar rs goal f) : IsFar rs goal (farF rs goal) := by
  unfold farF
  rw [dif_pos ⟨f, h⟩]
  exact Classical.choose_spec _
theorem farF_eq {rs : List Road} {goal : Str} {f : Str → Option Int} (h : IsFar rs goal f) (ht : ∀ r ∈ rs, 1 ≤ r.2.2.1) (x : Str) : f x = farF rs goal x := far_unique h (farF_is h) ht x
/-! the walk's own state -/
def cntT (hs : List Str) (T : Tab) : Nat := hs.countP fun x => (tv T x).isSome
def wgt (T : Tab) (x : Str) : Nat := match tv T x with | none => 200 | some v => v.toNat
def muT (hs : List Str) (T : Tab) : Nat := (hs.map (wgt T)).sum
theorem sum_lt {w w' : Str → Nat} {x : Str} : ∀ {hs : List Str}, x ∈ hs → (∀ y, w' y ≤ w y) → w' x < w x → (hs.map w').sum < (hs.map w).sum
  | y :: r, h, hle, hlt => by
    have ge : ∀ r : List Str, (r.map w').sum ≤ (r.map w).sum := by
      intro r
      induction r with
      | nil => exact Nat.le_refl _
      | cons z r ih => rw [List.map_cons, List.map_cons, List.sum_cons, List.sum_cons]; have := hle z; omega
    rw [List.map_cons, List.map_cons, List.sum_cons, List.sum_cons]
    rcases List.mem_cons.mp h with e | h
    · subst e
      have := ge r
      omega
    · have := sum_lt h hle hlt
      have := hle y
      omega
theorem count_lt {p p' : Str → Bool} {x : Str} : ∀ {hs : List Str}, x ∈ hs → (∀ y, p y = true → p' y = true) → p x = false → p' x = true → hs.countP p < hs.countP p'
  | y :: r, h, hle, h0, h1 => by
    have ge : r.countP p ≤ r.countP p' := List.countP_mono_left fun z _ => hle z
    rw [List.countP_cons, List.countP_cons]
    rcases List.mem_cons.mp h with e | h
    · subst e
      rw [h0, h1]
      show r.countP p + 0 < r.countP p' + 1
      omega
    · have := count_lt h hle h0 h1
      by_cases q : p y = true
      · rw [if_pos q, if_pos (hle y q)]; omega
      · rw [if_neg q]; omega
structure Mid (hs : List Str) (rs : List Road) (goal : Str) (T : Tab) : Prop where
  g0 : tv T goal = some 0
  bd : ∀ x v, tv T x = some v → 0 ≤ v ∧ v ≤ 9 * (cntT hs T : Int)
  pr : ∀ x v, tv T x = some v → x ≠ goal → ∃ r ∈ rs, r.1 = x ∧ ∃ w, tv T r.2.1 = some w ∧ w + r.2.2.1 ≤ v
  ln : T.length ≤ cntT hs T
theorem mid_start {hs : List Str} {rs : List Road} {goal : Str} (h : goal ∈ hs) : Mid hs rs goal [(goal, 0)] := by
  have e : ∀ x, tv [(goal, 0)] x = if x = goal then some 0 else none := fun x => by
    have := tv_snoc (x := goal) (y := x) (v := 0) (T := []) rfl
    exact this
  refine ⟨by rw [e, if_pos rfl], fun x v hx => ?_, fun x v hx hne => ?_, ?_⟩
  · rw [e] at hx
    split at hx
    · cases hx; omega
    · cases hx
  · rw [e, if_neg hne] at hx
    cases hx
  · show 1 ≤ List.countP _ hs
    exact List.countP_pos_iff.mpr ⟨goal, h, by rw [e, if_pos rfl]; rfl⟩
theorem mid_step {hs : List Str} {rs : List Road} {goal : Str} {T : Tab} {r : Road} {w : Int} (m : Mid hs rs goal T) (oh : hs.length ≤ 12) (ok : OkR hs r) (hr : r ∈ rs) (hw : tv T r.2.1 = some w) (hlt : ∀ u, tv T r.1 = some u → w + r.2.2.1 < u) : Mid hs rs goal (putT T r.1 (w + r.2.2.1)) ∧ muT hs (putT T r.1 (w + r.2.2.1)) < muT hs T := by
  have hb := m.bd _ _ hw
  have ht := ok.t
  have ng : goal ≠ r.1 := fun e => by
    have := hlt 0 (by rw [← e]; exact m.g0)
    omega
  have c12 : ∀ T', cntT hs T' ≤ 12 := fun T' => Nat.le_trans List.countP_le_length oh
  have mono : ∀ y, (tv T y).isSome = true → (tv (putT T r.1 (w + r.2.2.1)) y).isSome = true := fun y h => by
    rw [tv_put]
    split
    · rfl
    · exact h
  have cge : cntT hs T ≤ cntT hs (putT T r.1 (w + r.2.2.1)) := List.countP_mono_left fun y _ => mono y
  have clt : tv T r.1 = none → cntT hs T < cntT hs (putT T r.1 (w + r.2.2.1)) := fun h => count_lt ok.b mono (by rw [h]; rfl) (by rw [tv_put, if_pos rfl]; rfl)
  refine ⟨⟨?_, fun x v hx => ?_, fun x v hx hne => ?_, ?_⟩, ?_⟩
  · rw [tv_put, if_neg ng]
    exact m.g0
  · rw [tv_put] at hx
    split at hx
    · cases hx
      cases q : tv T r.1 with
      | none =>
        have := clt q
        omega
      | some u =>
        have h1 := hlt u q
        have h2 := m.bd _ _ q
        omega
    · have := m.bd _ _ hx
      omega
  · rw [tv_put] at hx
    split at hx
    · rename_i e
      cases hx
      refine ⟨r, hr, e.symm, w, ?_, Int.le_refl _⟩
      rw [tv_put, if_neg (fun e => ok.ne e.symm)]
      exact hw
    · obtain ⟨r', hr', e1, w', hw', hle⟩ := m.pr _ _ hx hne
      by_cases k : r'.2.1 = r.1
      · rw [k] at hw'
        have := hlt _ hw'
        exact ⟨r', hr', e1, w + r.2.2.1, by rw [tv_put, if_pos k], by omega⟩
      · exact ⟨r', hr', e1, w', by rw [tv_put, if_neg k]; exact hw', hle⟩
  · rw [putT_len]
    have := m.ln
    cases q : tv T r.1 with
    | none =>
      have := clt q
      show T.length + 1 ≤ _
      omega
    | some u =>
      show T.length + 0 ≤ _
      omega
  · refine sum_lt ok.b (fun y => ?_) ?_
    · unfold wgt
      rw [tv_put]
      by_cases e : y = r.1
      · subst e
        rw [if_pos rfl]
        cases q : tv T r.1 with
        | none =>
          have := c12 T
          show (w + r.2.2.1).toNat ≤ 200
          omega
        | some u =>
          have := hlt u q
          show (w + r.2.2.1).toNat ≤ u.toNat
          omega
      · rw [if_neg e]
        exact Nat.le_refl _
    · unfold wgt
      rw [tv_put, if_pos rfl]
      cases q : tv T r.1 with
      | none =>
        have := c12 T
        show (w + r.2.2.1).toNat < 200
        omega
      | some u =>
        have := hlt u q
        show (w + r.2.2.1).toNat < u.toNat
        omega
def ClT (T : Tab) (rs : List Road) : Prop := ∀ r ∈ rs, ∀ w, tv T r.2.1 = some w → ∃ u, tv T r.1 = some u ∧ u ≤ w + r.2.2.1
theorem mid_end {hs : List Str} {rs : List Road} {goal : Str} {T : Tab} (m : Mid hs rs goal T) (cl : ClT T rs) : IsFar rs goal (tv T) := by
  refine ⟨m.g0, fun x v h => (m.bd x v h).1, cl, fun x v h hne => ?_⟩
  obtain ⟨r, hr, e, w, hw, hle⟩ := m.pr x v h hne
  obtain ⟨u, hu, hle2⟩ := cl r hr w hw
  rw [e, h] at hu
  cases hu
  exact ⟨r, hr, e, w, hw, by omega⟩
theorem far_go {hs : List Str} {rs : List Road} {goal : Str} (oh : hs.length ≤ 12) (ok : ∀ r ∈ rs, OkR hs r) : ∀ (n : Nat) (T : Tab), muT hs T = n → Mid hs rs goal T → ∃ T', IsFar rs goal (tv T') := by
  intro n
  induction n using Nat.strongRecOn with
  | _ n ih =>
    intro T hn m
    by_cases h : ClT T rs
    · exact ⟨T, mid_end m h⟩
    · obtain ⟨r, hr, w, hw, hlt⟩ : ∃ r, r ∈ rs ∧ ∃ w, tv T r.2.1 = some w ∧ ∀ u, tv T r.1 = some u → w + r.2.2.1 < u := by
        refine Classical.byContradiction fun q => h fun r hr w hw => Classical.byContradiction fun z => q ⟨r, hr, w, hw, fun u hu => ?_⟩
        have : ¬ u ≤ w + r.2.2.1 := fun k => z ⟨u, hu, k⟩
        omega
      obtain ⟨m1, m2⟩ := mid_step m oh (ok r hr) hr hw hlt
      exact ih _ (by omega) _ rfl m1
theorem farF_ok {n : List Str × List Road} {goal : Str} (og : OkG n) (hg : goal ∈ n.1) : IsFar n.2 goal (farF n.2 goal) := by
  obtain ⟨T', h⟩ := far_go (goal := goal) og.h.le og.r _ _ rfl (mid_start hg)
  exact farF_is h
end Lw
set_option Elab.async false
set_option linter.all false
set_option maxRecDepth 100000
set_option maxHeartbeats 4000000
namespace Lw
open PySem L2 Sx
/-! ### the walk: how far -/
section
variable {P : Program} {w : World} {K : PySem.W.Frag} {mg : Str → Option Value} {base : Heap} {c : Cs}
theorem g_known (T : Top K mg c) : GloM P w K mg base 1 c.Net "known" ["self", "house"] (Pu K (fun a : (List Str × List Road) × Str => a.2 ∈ a.1.1) (fun a => [netD c a.1, .str a.2]) (fun _ => .non)) :=
  glom_of T.d_Net_known T.c_Net.cl (fun _ _ _ _ _ _ us hl => match us, hl with | [_, _], _ => rfl) fun f fd F => fn_ok F cs_Net_known (fun _ => rfl) fun cdv A outer s H E a hr hok => by
    obtain ⟨n, x⟩ := a
    have hx : x ∈ n.1 := hok
    refine blk_if (k := false) (Ts.to (ts_cmp op_notIn_seq (px_var (pv 1) rfl) (px_fld (px_var (pv 0) rfl) T.c_Net.cl T.n_Net_names look_names) (o_ninS (xs := n.1) (.inl rfl))) (by rw [decide_eq_true hx]; rfl)) (fun h => by cases h) (fun _ => blk_nil (blk_nil ⟨rfl, rfl⟩))
theorem optD_tv (T : Tab) (x : Str) : ((tv T x).map D.int).getD .non = optD (tv T x) := by
  cases tv T x <;> rfl
theorem ClT_snoc {T : Tab} {rs : List Road} {r : Road} (h : ClT T rs) (k : ∀ w, tv T r.2.1 = some w → ∃ u, tv T r.1 = some u ∧ u ≤ w + r.2.2.1) : ClT T (rs ++ [r]) := fun z hz => by
  rcases List.mem_append.mp hz with q | q
  · exact h z q
  · rw [List.mem_singleton.mp q]
    exact k
theorem tk_snoc {α : Type} {xs : List α} {i : Nat} {x : α} (h : xs[i]? = some x) : xs.take (i + 1) = xs.take i ++ [x] := by
  rw [List.take_add_one, h]; rfl
theorem gt_map {α β : Type} {f : α → β} {xs : List α} {i : Nat} {d : β} (h : (xs.map f)[i]? = some d) : ∃ x, xs[i]? = some x ∧ d = f x := by
  rw [List.getElem?_map] at h
  cases e : xs[i]? with
  | none => rw [e] at h; cases h
  | some x => rw [e] at h; cases h; exact ⟨x, rfl, rfl⟩
theorem g_fars (T : Top K mg c) : Glo P w K mg base 1 "fars" ["net", "goal"] (FnX K (fun a : (List Str × List Road) × Str => OkG a.1 ∧ a.2 ∈ a.1.1) (fun a => [netD c a.1, .str a.2]) (fun _ => []) (fun a d l => ∃ p S', IsFar a.1.2 a.2 (tv S') ∧ d = .adr p ∧ l = [ownD K p (tabD S')]) noE) :=
  glo_of T.d_fars (fun _ _ _ _ _ _ us hl => match us, hl with | [_, _], _ => rfl) fun f fd F => fn_ok F cs_fars (fun _ => rfl) fun cdv A outer s H E a hr hok => by
    have nd := cs_fars.nd
    obtain ⟨n, goal⟩ := a
    obtain ⟨og, hg⟩ : OkG n ∧ goal ∈ n.1 := hok
    have h12 := og.h.le
    refine blk_setX nd (i := 2) rfl (.inl rfl) (ev_d1 (k := .inr goal) (px_var (pv 1) rfl) rfl px_int) fun d l' ⟨p, e1, e2⟩ => ?_
    subst e1; subst e2
    refine blk_set nd (i := 3) rfl (.inl rfl) px_bl ?_
    refine blk_while (fun m g l => ∃ S' b o4 o5, g = [some (netD c n), some (.str goal), some (.adr p), some (.bl b), o4, o5] ∧ l = [ownD K p (tabD S')] ∧ Mid n.1 n.2 goal S' ∧ (b = false → ClT S' n.2) ∧ m = 2 * muT n.1 S' + (if b = true then 1 else 0)) PassesOwn.never _
      ⟨[(goal, 0)], true, none, none, rfl, rfl, mid_start hg, (fun h => by cases h), rfl⟩ (fun m g l hI => ?_)
    obtain ⟨S0, b, o4, o5, rfl, rfl, hm, hc, hn⟩ := hI
    refine ⟨b, ts_val (px_var (pv 3) rfl), fun hb => ?_, fun hb => blk_ret (px_var (pv 2) rfl) ⟨p, S0, mid_end hm (hc hb), rfl, rfl⟩⟩
    subst hb
    refine blk_set nd (i := 3) rfl (.inl rfl) px_bl ?_
    refine blk_for (is := [4]) (fun i g l => ∃ S' b o4 o5, g = [some (netD c n), some (.str goal), some (.adr p), some (.bl b), o4, o5] ∧ l = [ownD K p (tabD S')] ∧ Mid n.1 n.2 goal S' ∧ ((b = false ∧ S' = S0 ∧ ClT S' (n.2.take i)) ∨ (b = true ∧ muT n.1 S' < muT n.1 S0))) PassesOwn.never rfl
      (it_list (px_fld (px_var (pv 0) rfl) T.c_Net.cl T.n_Net_lines look_lines)) (pg_name (i := 4) nd rfl (.inl rfl)) ⟨S0, false, o4, o5, rfl, rfl, hm, .inl ⟨rfl, rfl, fun z hz => by cases hz⟩⟩ (fun i d g l hd hI => ?_) (fun g l hI => ?_)
    · obtain ⟨S1, b1, o4, o5, rfl, rfl, hm1, hs⟩ := hI
      obtain ⟨⟨b, e, t, m'⟩, hx, rfl⟩ := gt_map hd
      have hr' := List.mem_of_getElem? hx
      have orr := og.r _ hr'
      have hne := orr.ne
      refine ⟨_, tg_name, ?_⟩
      refine blk_if (k := (tv S1 e).isSome) (Ts.to (ts_din (Px.units hr.units) (px_ix ix_tup (px_var (pv 4) rfl) px_int (o_ixT (d := .str e) rfl)) (k := .inr e) rfl (px_var (pv 2) rfl) (.o (k := 0) rfl)) (by rw [valD_tab]; cases tv S1 e <;> rfl)) (fun h => ?_) (fun h => ?_)
      · obtain ⟨v, hv⟩ := Option.isSome_iff_exists.mp h
        have vE : valD (tabD S1) (.inr e) = some (.int v) := by rw [valD_tab, hv]; rfl
        refine blk_set nd (i := 5) (d := .int (v + t)) rfl (.inl rfl) (px_op op_add (px_dget (Px.units hr.units) (px_var (pv 2) rfl) (.o (k := 0) rfl) (px_ix ix_tup (px_var (pv 4) rfl) px_int (o_ixT (d := .str e) rfl)) (k := .inr e) rfl vE) (px_ix ix_tup (px_var (pv 4) rfl) px_int (o_ixT (d := .int t) rfl)) o_add) ?_
        have gB : (valD (tabD S1) (.inr b)).getD (.int (v + t + 1)) = .int ((tv S1 b).getD (v + t + 1)) := by
          rw [valD_tab]
          cases tv S1 b <;> rfl
        refine blk_if (k := decide (v + t < (tv S1 b).getD (v + t + 1))) (ts_cmp op_lt (px_var (pv 5) rfl) (Px.to (px_dget2 (Px.units hr.units) (px_var (pv 2) rfl) (.o (k := 0) rfl) (px_ix ix_tup (px_var (pv 4) rfl) px_int (o_ixT (d := .str b) rfl)) (k := .inr b) rfl (px_op op_add (px_var (pv 5) rfl) px_int o_add)) gB) o_lt) (fun h2 => ?_) (fun h2 => ?_)
        · have h2 : v + t < (tv S1 b).getD (v + t + 1) := of_decide_eq_true h2
          obtain ⟨m1, m2⟩ := mid_step (r := (b, e, t, m')) (w := v) hm1 h12 orr hr' hv fun u hu => by
            have hu : tv S1 b = some u := hu
            rw [hu] at h2
            exact h2
          refine blk_dput (n := 0) (k := .inr b) (d := .int (v + t)) (Px.units hr.units) (px_var (pv 5) rfl) (px_var (pv 2) rfl) (px_ix ix_tup (px_var (pv 4) rfl) px_int (o_ixT (d := .str b) rfl)) rfl rfl ?_ ?_
          · rw [List.length_map]
            have h3 := hm1.ln
            have h4 : cntT n.1 S1 ≤ n.1.length := List.countP_le_length
            omega
          · rw [putKD_tab]
            refine blk_set nd (i := 3) rfl (.inl rfl) px_bl ?_
            refine blk_nil (blk_nil (blk_nil ⟨_, true, _, _, rfl, rfl, m1, .inr ⟨rfl, ?_⟩⟩))
            rcases hs with ⟨_, e2, _⟩ | ⟨_, e2⟩
            · rw [← e2]; exact m2
            · exact Nat.lt_trans m2 e2
        · have h2 : ¬ v + t < (tv S1 b).getD (v + t + 1) := of_decide_eq_false h2
          refine blk_nil (blk_nil (blk_nil ⟨S1, b1, some (roadD (b, e, t, m')), some (.int (v + t)), rfl, rfl, hm1, ?_⟩))
          rcases hs with ⟨e1, e2, e3⟩ | ⟨e1, e2⟩
          · refine .inl ⟨e1, e2, ?_⟩
            rw [tk_snoc hx]
            refine ClT_snoc e3 fun w' hw' => ?_
            have hw' : tv S1 e = some w' := hw'
            rw [hv] at hw'
            cases hw'
            cases q : tv S1 b with
            | none =>
              rw [q] at h2
              exact absurd (show v + t < v + t + 1 by omega) h2
            | some u =>
              rw [q] at h2
              have h2 : ¬ v + t < u := h2
              exact ⟨u, rfl, by show u ≤ v + t; omega⟩
          · exact .inr ⟨e1, e2⟩
      · have hn' : tv S1 e = none := by
          cases q : tv S1 e with
          | none => rfl
          | some z => rw [q] at h; cases h
        refine blk_nil (blk_nil ⟨S1, b1, some (roadD (b, e, t, m')), o5, rfl, rfl, hm1, ?_⟩)
        rcases hs with ⟨e1, e2, e3⟩ | ⟨e1, e2⟩
        · refine .inl ⟨e1, e2, ?_⟩
          rw [tk_snoc hx]
          refine ClT_snoc e3 fun w' hw' => ?_
          have hw' : tv S1 e = some w' := hw'
          rw [hn'] at hw'
          cases hw'
        · exact .inr ⟨e1, e2⟩
    · obtain ⟨S1, b1, o4, o5, rfl, rfl, hm1, hs⟩ := hI
      rw [List.length_map, List.take_length] at hs
      rcases hs with ⟨e1, e2, e3⟩ | ⟨e1, e2⟩
      · subst e1
        refine blk_nil ⟨2 * muT n.1 S1 + 0, ?_, S1, false, o4, o5, rfl, rfl, hm1, (fun _ => e3), rfl⟩
        rw [hn, e2]
        show 2 * muT n.1 S0 + 0 < 2 * muT n.1 S0 + 1
        omega
      · subst e1
        refine blk_nil ⟨2 * muT n.1 S1 + 1, ?_, S1, true, o4, o5, rfl, rfl, hm1, (fun h => by cases h), rfl⟩
        rw [hn]
        show 2 * muT n.1 S1 + 1 < 2 * muT n.1 S0 + 1
        omega
theorem g_far (T : Top K mg c) : GloM P w K mg base 2 c.Net "far" ["self", "house", "goal"] (Pu K (fun a : (List Str × List Road) × Str × Str => OkG a.1 ∧ a.2.1 ∈ a.1.1 ∧ a.2.2 ∈ a.1.1) (fun a => [netD c a.1, .str a.2.1, .str a.2.2]) (fun a => optD (farF a.1.2 a.2.2 a.2.1))) :=
  glom_of T.d_Net_far T.c_Net.cl (fun _ _ _ _ _ _ us hl => match us, hl with | [_, _, _], _ => rfl) fun f fd F => fn_ok F cs_Net_far (fun _ => rfl) fun cdv A outer s H E a hr hok => by
    obtain ⟨n, x, goal⟩ := a
    obtain ⟨og, hx, hg⟩ : OkG n ∧ x ∈ n.1 ∧ goal ∈ n.1 := hok
    have lk : List.lookup ("known" : Str) [(("names" : Str), D.lst (housesD n.1)), ("lines", .lst (roadsD n.2))] = none := look_none (by decide +kernel) (by decide +kernel)
    refine blk_do (px_meth (g_known T) hr (by decide) (n, x) hx (px_var (pv 0) rfl) lk (pa_c (px_var (pv 1) rfl) pa_n) rfl) ?_
    refine blk_do (px_meth (g_known T) hr (by decide) (n, goal) hg (px_var (pv 0) rfl) lk (pa_c (px_var (pv 2) rfl) pa_n) rfl) ?_
    have ht : ∀ r ∈ n.2, 1 ≤ r.2.2.1 := fun r h => (og.r r h).t.1
    obtain ⟨v0, hv0⟩ : ∃ v0, (optD (farF n.2 goal x)).v = some v0 := by cases farF n.2 goal x <;> exact ⟨_, rfl⟩
    refine blk_ret (px_dget1N (R := fun kvs => ∃ S', IsFar n.2 goal (tv S') ∧ kvs = tabD S') (k := .inr x) (Px.units hr.units) ((ev_callV (g_fars T) hr (by decide) (n, goal) ⟨og, hg⟩ (pa_c (px_var (pv 0) rfl) (pa_c (px_var (pv 2) rfl) pa_n))).imp ?_) (px_var (pv 1) rfl) rfl ?_ hv0) ⟨rfl, rfl⟩
    · rintro d l' ⟨l2, ⟨p, S', h1, h2, h3⟩, h4⟩
      subst h2; subst h3
      exact ⟨p, tabD S', ⟨S', h1, rfl⟩, rfl, h4⟩
    · rintro kvs ⟨S', h1, rfl⟩
      rw [valD_tab, optD_tv, farF_eq h1 ht]
end
end Lw
set_option Elab.async false
set_option linter.all false
set_option maxRecDepth 100000
set_option maxHeartbeats 4000000
namespace Lw
open PySem L2 Sx
/-! ### plain: tables of the law -/
def tabP (F : Str → Option Int) (hs : List Str) : List (Key × D) := hs.map fun x => (Sum.inr x, optD (F x))
theorem tabP_snoc {F : Str → Option Int} {xs : List Str} {x : Str} : tabP F (xs ++ [x]) = tabP F xs ++ [(Sum.inr x, optD (F x))] := by
  unfold tabP
  rw [List.map_append]
  rfl
theorem tabP_keys {F : Str → Option Int} {hs : List Str} : (tabP F hs).map (·.1) = hs.map Sum.inr := by
  unfold tabP
  rw [List.map_map]
  rfl
theorem tabP_nodup {F : Str → Option Int} {hs : List Str} (nd : hs.Nodup) : ((tabP F hs).map (·.1)).Nodup := by
  rw [tabP_keys]
  exact List.Pairwise.map _ (fun a b h e => h (Sum.inr.inj e)) nd
theorem tabP_at {F : Str → Option Int} {x : Str} : ∀ {hs : List Str}, x ∈ hs → valD (tabP F hs) (Sum.inr x) = some (optD (F x))
  | y :: r, h => by
    unfold valD tabP
    rw [List.map_cons, List.find?_cons, inr_dec]
    by_cases e : y = x
    · subst e
      rw [decide_eq_true (rfl : y = y)]
      rfl
    · rw [decide_eq_false e]
      rcases List.mem_cons.mp h with q | q
      · exact absurd q.symm e
      · exact tabP_at q
theorem tabP_flat (F : Str → Option Int) (hs : List Str) : ((tabP F hs).all fun kv => kv.2.v.isSome && flatB (kv.2.v.getD .non)) = true := by
  refine List.all_eq_true.mpr fun kv h => ?_
  unfold tabP at h
  obtain ⟨q, _, rfl⟩ := List.mem_map.mp h
  show ((optD (F q)).v.isSome && flatB ((optD (F q)).v.getD .non)) = true
  cases F q <;> rfl
theorem putKD_new {kvs : List (Key × D)} {k : Key} {d : D} (h : k ∉ kvs.map (·.1)) : putKD kvs k d = kvs ++ [(k, d)] := by
  unfold putKD
  rw [if_neg]
  intro q
  obtain ⟨z, hz, e⟩ := List.any_eq_true.mp q
  exact h (List.mem_map.mpr ⟨z, hz, of_decide_eq_true e⟩)
/-- what is marked -/
def madeD (N : List Str) : List (Key × D) := N.map fun x => (Sum.inr x, .bl true)
def insN (N : List Str) (x : Str) : List Str := if x ∈ N then N else N ++ [x]
theorem any_made (x : Str) : ∀ N : List Str, ((madeD N).any fun kv => decide (kv.1 = (.inr x : Key))) = decide (x ∈ N)
  | [] => by unfold madeD; simp
  | y :: r => by
    show (decide ((Sum.inr y : Key) = Sum.inr x) || (madeD r).any _) = _
    rw [any_made x r, inr_dec]
    by_cases e : y = x
    · subst e; simp
    · have : ¬ x = y := fun q => e q.symm
      simp [e, this]
theorem put_made (N : List Str) (x : Str) : putKD (madeD N) (.inr x) (.bl true) = madeD (insN N x) := by
  unfold putKD insN
  rw [any_made]
  by_cases h : x ∈ N
  · rw [if_pos (decide_eq_true h), if_pos h]
    unfold madeD
    rw [List.map_map]
    refine List.map_congr_left fun q _ => ?_
    show (if (Sum.inr q : Key) = Sum.inr x then ((Sum.inr q : Key), D.bl true) else (Sum.inr q, .bl true)) = _
    split <;> rfl
  · rw [if_neg (by rw [decide_eq_false h]; simp), if_neg h]
    unfold madeD
    rw [List.map_append]
    rfl
theorem val_made (x : Str) : ∀ N : List Str, (valD (madeD N) (.inr x)).isSome = decide (x ∈ N)
  | [] => by unfold madeD valD; simp
  | y :: r => by
    have ih := val_made x r
    unfold valD madeD at ih ⊢
    rw [List.map_cons, List.find?_cons, inr_dec]
    by_cases e : y = x
    · subst e
      rw [decide_eq_true (rfl : y = y)]
      simp
    · rw [decide_eq_false e]
      have : ¬ x = y := fun q => e q.symm
      have ih2 := ih
      simp only [List.mem_cons, this, false_or]
      exact ih2
theorem mem_insN {N : List Str} {x y : Str} : y ∈ insN N x ↔ y ∈ N ∨ y = x := by
  unfold insN
  split
  · rename_i h
    constructor
    · exact .inl
    · rintro (q | rfl)
      · exact q
      · exact h
  · rw [List.mem_append, List.mem_singleton]
theorem insN_len {N : List Str} {x : Str} : (insN N x).length ≤ N.length + 1 := by
  unfold insN
  split
  · omega
  · rw [List.length_append]; exact Nat.le_refl _
theorem cut_map {α β : Type} (f : α → β) (xs : List α) (lo hi : Option Int) : cut (xs.map f) lo hi = (cut xs lo hi).map f := by
  unfold cut
  rw [List.length_map, List.map_take, List.map_drop]
theorem cut_len {α : Type} {xs : List α} {a b : Int} (h0 : 0 ≤ a) (h1 : a ≤ b) : (cut xs (some a) (some b)).length ≤ (b - a).toNat := by
  unfold cut
  rw [List.length_take, List.length_drop]
  have e1 : HT.sIx xs.length 0 (some a) = min a.toNat xs.length := by
    show (if a < 0 then _ else _) = _
    rw [if_neg (by omega)]
  have e2 : HT.sIx xs.length xs.length (some b) = min b.toNat xs.length := by
    show (if b < 0 then _ else _) = _
    rw [if_neg (by omega)]
  rw [e1, e2]
  omega
theorem atI_ex {α : Type} {xs : List α} {i : Int} (h0 : -(xs.length : Int) ≤ i) (h1 : i < xs.length) : ∃ x, atI xs i = some x ∧ x ∈ xs := by
  have : ∃ k, ixN xs.length i = some k ∧ k < xs.length := by
    unfold ixN
    by_cases h : 0 ≤ i
    · rw [if_pos h, if_pos h1]
      exact ⟨_, rfl, by omega⟩
    · rw [if_neg h]
      split
      · exact ⟨_, rfl, by omega⟩
      · rename_i k
        exact absurd (show _ by omega) k
  obtain ⟨k, hk, hl⟩ := this
  unfold atI
  rw [hk]
  exact ⟨xs[k], List.getElem?_eq_getElem hl, List.getElem_mem hl⟩
theorem OkR.mono {hs hs' : List Str} {r : Road} (h : OkR hs r) (k : ∀ x ∈ hs, x ∈ hs') : OkR hs' r := ⟨k _ h.b, k _ h.e, h.ne, h.t, h.w⟩
theorem OkH.take {hs : List Str} (h : OkH hs) (k : Nat) : OkH (hs.take k) := ⟨fun x hx => h.ok x (List.mem_of_mem_take hx), List.Nodup.sublist (List.take_sublist _ _) h.nd, Nat.le_trans (List.length_take_le' _ _) h.le⟩
end Lw
set_option Elab.async false
set_option linter.all false
set_option maxRecDepth 100000
set_option maxHeartbeats 4000000
namespace Lw
open PySem L2 Sx
section
variable {P : Program} {w : World} {K : PySem.W.Frag} {mg : Str → Option Value} {base : Heap} {c : Cs}
theorem g_whole (T : Top K mg c) : Glo P w K mg base 1 "_law_whole" ["_law_found"] (Pu K (fun _ : Int => True) (fun a => [.int a]) (fun _ => .bl true)) :=
  glo_of T.d_law_whole (fun _ _ _ _ _ _ us hl => match us, hl with | [_], _ => rfl) fun f fd F => fn_ok F cs_law_whole (fun _ => rfl) fun cdv A outer s H E a hr hok => by
    exact blk_ret (px_and (k := true) (k' := true) (px_isT "int" "int" true T.z_isinstance T.z_int (px_var (pv 0) rfl)) fun _ => px_one (px_not (px_isT "bool" "int" false T.z_isinstance T.z_bool (px_var (pv 0) rfl)))) ⟨rfl, rfl⟩
theorem g_lfars (T : Top K mg c) : Glo P w K mg base 3 "_law_fars" ["_law_net", "_law_houses_here", "_law_goal"] (Pu K (fun a : (List Str × List Road) × Str => OkG a.1 ∧ a.2 ∈ a.1.1) (fun a => [netD c a.1, .lst (housesD a.1.1), .str a.2]) (fun a => .dK (tabP (farF a.1.2 a.2) a.1.1))) :=
  glo_of T.d_law_fars (fun _ _ _ _ _ _ us hl => match us, hl with | [_, _, _], _ => rfl) fun f fd F => fn_ok F cs_law_fars (fun _ => rfl) fun cdv A outer s H E a hr hok => by
    have nd := cs_law_fars.nd
    obtain ⟨n, goal⟩ := a
    obtain ⟨og, hg⟩ : OkG n ∧ goal ∈ n.1 := hok
    have h12 := og.h.le
    have lk : List.lookup ("far" : Str) [(("names" : Str), D.lst (housesD n.1)), ("lines", .lst (roadsD n.2))] = none := look_none (by decide +kernel) (by decide +kernel)
    refine blk_setX nd (i := 3) rfl (.inl rfl) ev_d0 fun d l' ⟨p, e1, e2⟩ => ?_
    subst e1; subst e2
    refine blk_for (is := [4]) (fun i g l => (∃ o4, g = [some (netD c n), some (.lst (housesD n.1)), some (.str goal), some (.adr p), o4]) ∧ l = [ownD K p (tabP (farF n.2 goal) (n.1.take i))]) PassesOwn.never rfl
      (it_list (px_var (pv 1) rfl)) (pg_name (i := 4) nd rfl (.inl rfl)) ⟨⟨none, rfl⟩, rfl⟩ (fun i d g l hd hI => ?_) (fun g l hI => ?_)
    · obtain ⟨⟨o4, rfl⟩, rfl⟩ := hI
      obtain ⟨x, hx, rfl⟩ := gt_map hd
      have hm := List.mem_of_getElem? hx
      have hk : (Sum.inr x : Key) ∉ (tabP (farF n.2 goal) (n.1.take i)).map (·.1) := by
        rw [tabP_keys]
        intro q
        obtain ⟨y, hy, e⟩ := List.mem_map.mp q
        cases e
        exact mem_take_nodup og.h.nd hx hy
      refine ⟨_, tg_name, ?_⟩
      refine blk_dput (n := 0) (k := .inr x) (Px.units hr.units) (px_meth (g_far T) hr (by decide) (n, x, goal) ⟨og, hm, hg⟩ (px_var (pv 0) rfl) lk (pa_c (px_var (pv 4) rfl) (pa_c (px_var (pv 2) rfl) pa_n)) rfl) (px_var (pv 3) rfl) (px_var (pv 4) rfl) rfl rfl ?_ ?_
      · unfold tabP
        rw [List.length_map, List.length_take]
        omega
      · refine blk_nil ⟨⟨some (.str x), rfl⟩, ?_⟩
        rw [putKD_new hk, tk_snoc hx, tabP_snoc]
        rfl
    · obtain ⟨⟨o4, rfl⟩, rfl⟩ := hI
      rw [List.length_map, List.take_length]
      exact Blk.frzD (i := 3) rfl (blk_ret (px_var (pv 3) rfl) ⟨rfl, rfl⟩)
theorem bl_ne (a b : Bool) : (!decide (V.bl a = V.bl b)) = (a != b) := by cases a <;> cases b <;> decide
theorem g_right (T : Top K mg c) : Glo P w K mg base 2 "_law_right" ["_law_told", "_law_houses_here", "_law_roads_here", "_law_goal"] (Pu K (fun a : (Str → Option Int) × (List Str × List Road) × Str => IsFar a.2.1.2 a.2.2 a.1 ∧ OkG a.2.1 ∧ a.2.2 ∈ a.2.1.1) (fun a => [.dK (tabP a.1 a.2.1.1), .lst (housesD a.2.1.1), .lst (roadsD a.2.1.2), .str a.2.2]) (fun _ => .bl true)) :=
  glo_of T.d_law_right (fun _ _ _ _ _ _ us hl => match us, hl with | [_, _, _, _], _ => rfl) fun f fd F => fn_ok F cs_law_right (fun _ => rfl) fun cdv A outer s H E a hr hok => by
    have nd := cs_law_right.nd
    obtain ⟨Fr', n, goal⟩ := a
    obtain ⟨hF, og, hg⟩ : IsFar n.2 goal Fr' ∧ OkG n ∧ goal ∈ n.1 := hok
    have h40 := og.le
    have at_ : ∀ x ∈ n.1, valD (tabP Fr' n.1) (.inr x) = some (optD (Fr' x)) := fun x hx => tabP_at hx
    refine blk_setX nd (i := 4) rfl (.inl rfl) (ev_d1 (k := .inr goal) (px_var (pv 3) rfl) rfl px_bl) fun d l' ⟨p, e1, e2⟩ => ?_
    subst e1; subst e2
    refine blk_for (is := [5, 6, 7, 8]) (fun i g l => ∃ N o5 o6 o7 o8, g = [some (.dK (tabP Fr' n.1)), some (.lst (housesD n.1)), some (.lst (roadsD n.2)), some (.str goal), some (.adr p), o5, o6, o7, o8, none] ∧ l = [ownD K p (madeD N)] ∧ goal ∈ N ∧ N.length ≤ i + 1 ∧ ∀ r ∈ n.2.take i, ∀ w, Fr' r.2.1 = some w → Fr' r.1 = some (w + r.2.2.1) → r.1 ∈ N) PassesOwn.never rfl
      (it_list (px_var (pv 2) rfl)) (pg_tup rfl (pgs_cons (pg_name (i := 5) nd rfl (.inl rfl)) (pgs_cons (pg_name (i := 6) nd rfl (.inl rfl)) (pgs_cons (pg_name (i := 7) nd rfl (.inl rfl)) (pgs_cons (pg_name (i := 8) nd rfl (.inl rfl)) pgs_nil))))) ⟨[goal], none, none, none, none, rfl, rfl, List.mem_singleton.mpr rfl, Nat.le_refl _, fun r h => by cases h⟩ (fun i d g l hd hI => ?_) (fun g l hI => ?_)
    · obtain ⟨N, o5, o6, o7, o8, rfl, rfl, hgN, hlN, hN⟩ := hI
      obtain ⟨⟨b, e, t, m⟩, hx, rfl⟩ := gt_map hd
      have hr' := List.mem_of_getElem? hx
      have orr := og.r _ hr'
      have hil : i < n.2.length := (List.getElem?_eq_some_iff.mp hx).1
      have vb : valD (tabP Fr' n.1) (.inr b) = some (optD (Fr' b)) := at_ b orr.b
      have ve : valD (tabP Fr' n.1) (.inr e) = some (optD (Fr' e)) := at_ e orr.e
      have cl := hF.cl _ hr'
      have next : ∀ N' : List Str, (∀ y, y ∈ N → y ∈ N') → (∀ w, Fr' e = some w → Fr' b = some (w + t) → b ∈ N') → ∀ r ∈ n.2.take (i + 1), ∀ w, Fr' r.2.1 = some w → Fr' r.1 = some (w + r.2.2.1) → r.1 ∈ N' := fun N' h1 h2 r hr w hw1 hw2 => by
        rw [tk_snoc hx] at hr
        rcases List.mem_append.mp hr with q | q
        · exact h1 _ (hN r q w hw1 hw2)
        · rw [List.mem_singleton] at q
          subst q
          exact h2 w hw1 hw2
      refine ⟨_, tg_tup rfl rfl, ?_⟩
      cases he : Fr' e with
      | none =>
        rw [he] at ve
        refine blk_if (k := false) (ts_cmp op_notN (px_dget (Px.units hr.units) (px_var (pv 0) rfl) .f (px_var (pv 6) rfl) (k := .inr e) rfl ve) px_non o_notN) (fun h => by cases h) (fun _ => ?_)
        refine blk_nil (blk_nil ⟨N, some (.str b), some (.str e), some (.int t), some (.int m), rfl, rfl, hgN, by omega, next N (fun _ h => h) fun w h => ?_⟩)
        rw [he] at h
        cases h
      | some w0 =>
        rw [he] at ve
        obtain ⟨u0, hu, hle⟩ : ∃ u, Fr' b = some u ∧ u ≤ w0 + t := cl w0 he
        rw [hu] at vb
        refine blk_if (k := true) (ts_cmp op_notN (px_dget (Px.units hr.units) (px_var (pv 0) rfl) .f (px_var (pv 6) rfl) (k := .inr e) rfl ve) px_non o_notN) (fun _ => ?_) (fun h => by cases h)
        refine blk_if (k := false) (ts_w (tw_or (k := false) (ts_cmp op_isN (px_dget (Px.units hr.units) (px_var (pv 0) rfl) .f (px_var (pv 5) rfl) (k := .inr b) rfl vb) px_non o_isN) fun _ => tw_or1 (Ts.to (ts_cmp op_gt (px_dget (Px.units hr.units) (px_var (pv 0) rfl) .f (px_var (pv 5) rfl) (k := .inr b) rfl vb) (px_op op_add (px_dget (Px.units hr.units) (px_var (pv 0) rfl) .f (px_var (pv 6) rfl) (k := .inr e) rfl ve) (px_var (pv 7) rfl) (o_add (i := w0) (j := t))) (o_gt (i := u0))) (decide_eq_false (by omega))))) (fun h => by cases h) (fun _ => blk_nil ?_)
        refine blk_if (ts_cmp op_eq (px_dget (Px.units hr.units) (px_var (pv 0) rfl) .f (px_var (pv 5) rfl) (k := .inr b) rfl vb) (px_op op_add (px_dget (Px.units hr.units) (px_var (pv 0) rfl) .f (px_var (pv 6) rfl) (k := .inr e) rfl ve) (px_var (pv 7) rfl) (o_add (i := w0) (j := t))) (o_eqI (i := u0))) (fun h => ?_) (fun h => ?_)
        · refine blk_dput (n := 0) (k := .inr b) (d := .bl true) (Px.units hr.units) px_bl (px_var (pv 4) rfl) (px_var (pv 5) rfl) rfl rfl ?_ ?_
          · unfold madeD
            rw [List.length_map]
            omega
          · rw [put_made]
            have := insN_len (N := N) (x := b)
            exact blk_nil (blk_nil (blk_nil ⟨insN N b, some (.str b), some (.str e), some (.int t), some (.int m), rfl, rfl, mem_insN.mpr (.inl hgN), by omega, next _ (fun y h => mem_insN.mpr (.inl h)) fun w _ _ => mem_insN.mpr (.inr rfl)⟩))
        · have h : ¬ u0 = w0 + t := of_decide_eq_false h
          refine blk_nil (blk_nil (blk_nil ⟨N, some (.str b), some (.str e), some (.int t), some (.int m), rfl, rfl, hgN, by omega, next N (fun _ h => h) fun w hw hb => ?_⟩))
          rw [he] at hw
          cases hw
          rw [hu] at hb
          exact absurd (Option.some.inj hb) h
    · obtain ⟨N, o5, o6, o7, o8, rfl, rfl, hgN, hlN, hN⟩ := hI
      rw [List.length_map, List.take_length] at hN
      refine blk_for (is := [9]) (fun i g l => (∃ o9, g = [some (.dK (tabP Fr' n.1)), some (.lst (housesD n.1)), some (.lst (roadsD n.2)), some (.str goal), some (.adr p), o5, o6, o7, o8, o9]) ∧ l = [ownD K p (madeD N)]) PassesOwn.never rfl
        (it_list (px_var (pv 1) rfl)) (pg_name (i := 9) nd rfl (.inl rfl)) ⟨⟨none, rfl⟩, rfl⟩ (fun i d g l hd hI => ?_) (fun g l hI => ?_)
      · obtain ⟨⟨o9, rfl⟩, rfl⟩ := hI
        obtain ⟨x, hx, rfl⟩ := gt_map hd
        have vx := at_ x (List.mem_of_getElem? hx)
        refine ⟨_, tg_name, ?_⟩
        cases hv : Fr' x with
        | none =>
          rw [hv] at vx
          have hne : ¬ x = goal := fun e => by
            subst e
            rw [hF.g0] at hv
            cases hv
          refine blk_if (k := false) (ts_w (tw_and (k := false) (k' := true) (ts_cmp op_notN (px_dget (Px.units hr.units) (px_var (pv 0) rfl) .f (px_var (pv 9) rfl) (k := .inr x) rfl vx) px_non o_notN) (fun h => by cases h))) (fun h => by cases h) (fun _ => blk_nil ?_)
          refine blk_if (k := false) (ts_w (tw_or (k := false) (Ts.to (ts_cmp op_ne (px_cmp op_eq (px_dget (Px.units hr.units) (px_var (pv 0) rfl) .f (px_var (pv 9) rfl) (k := .inr x) rfl vx) px_int (o_eq (v1 := .non) (v2 := .int 0) rfl rfl)) (px_cmp op_eq (px_var (pv 9) rfl) (px_var (pv 3) rfl) o_eqS) (o_ne (v1 := .bl (decide (V.non = V.int 0))) (v2 := .bl (decide (x = goal))) rfl rfl)) (by rw [bl_ne, decide_eq_false hne]; rfl)) fun _ => tw_or1 (ts_w (tw_and (k := false) (k' := true) (ts_cmp op_notN (px_dget (Px.units hr.units) (px_var (pv 0) rfl) .f (px_var (pv 9) rfl) (k := .inr x) rfl vx) px_non o_notN) (fun h => by cases h))))) (fun h => by cases h) (fun _ => blk_nil (blk_nil ⟨⟨_, rfl⟩, rfl⟩))
        | some v =>
          rw [hv] at vx
          have h0 := hF.nn x v hv
          have hz : decide (v = 0) = decide (x = goal) := by
            by_cases e : x = goal
            · subst e
              rw [hF.g0] at hv
              cases hv
              rw [decide_eq_true rfl, decide_eq_true rfl]
            · obtain ⟨r, hr1, _, w', hw', e3⟩ := hF.tt x v hv e
              have t1 := (og.r r hr1).t.1
              have t2 := hF.nn _ _ hw'
              rw [decide_eq_false e, decide_eq_false (by omega)]
          have hin : x ∈ N := by
            by_cases e : x = goal
            · subst e; exact hgN
            · obtain ⟨r, hr1, rfl, w', hw', e3⟩ := hF.tt x v hv e
              exact hN r hr1 w' hw' (by rw [hv, e3])
          refine blk_if (k := false) (ts_w (tw_and (k := true) (k' := false) (ts_cmp op_notN (px_dget (Px.units hr.units) (px_var (pv 0) rfl) .f (px_var (pv 9) rfl) (k := .inr x) rfl vx) px_non o_notN) fun _ => tw_and1 (ts_w (tw_or (k := false) (k' := false) (ts_not (ts_val (k := true) (px_call (g_whole T) hr (by decide) v trivial (pa_c (px_dget (Px.units hr.units) (px_var (pv 0) rfl) .f (px_var (pv 9) rfl) (k := .inr x) rfl vx) pa_n)))) fun _ => tw_or1 (Ts.to (ts_dnotin (Px.units hr.units) (px_var (pv 9) rfl) (k := .inr x) rfl (px_var (pv 4) rfl) (.o (k := 0) rfl)) (by rw [val_made, decide_eq_true hin]; rfl)))))) (fun h => by cases h) (fun _ => blk_nil ?_)
          refine blk_if (k := false) (ts_w (tw_or (k := false) (Ts.to (ts_cmp op_ne (px_cmp op_eq (px_dget (Px.units hr.units) (px_var (pv 0) rfl) .f (px_var (pv 9) rfl) (k := .inr x) rfl vx) px_int (o_eqI (i := v))) (px_cmp op_eq (px_var (pv 9) rfl) (px_var (pv 3) rfl) o_eqS) (o_ne (v1 := .bl (decide (v = 0))) (v2 := .bl (decide (x = goal))) rfl rfl)) (by rw [bl_ne, hz]; cases decide (x = goal) <;> rfl)) fun _ => tw_or1 (ts_w (tw_and (k := true) (k' := false) (ts_cmp op_notN (px_dget (Px.units hr.units) (px_var (pv 0) rfl) .f (px_var (pv 9) rfl) (k := .inr x) rfl vx) px_non o_notN) fun _ => tw_and1 (Ts.to (ts_cmp op_lt (px_dget (Px.units hr.units) (px_var (pv 0) rfl) .f (px_var (pv 9) rfl) (k := .inr x) rfl vx) px_int (o_lt (i := v))) (decide_eq_false (by omega))))))) (fun h => by cases h) (fun _ => blk_nil (blk_nil ⟨⟨_, rfl⟩, rfl⟩))
      · obtain ⟨⟨o9, rfl⟩, rfl⟩ := hI
        exact blk_frzAll (blk_ret px_bl ⟨rfl, rfl⟩)
end
end Lw
set_option Elab.async false
set_option linter.all false
set_option maxRecDepth 100000
set_option maxHeartbeats 4000000
namespace Lw
open PySem L2 Sx
section
variable {P : Program} {w : World} {K : PySem.W.Frag} {mg : Str → Option Value} {base : Heap} {c : Cs}
abbrev lvl : Nat := 5
theorem ok_law (T : Top K mg c) {f : Addr} {fd : FuncData} (F : Fun K "law" "law" s_law f fd) : FnOk P w K mg base CX0 lvl f fd ["_law_script"] (spL K) :=
  fn_ok F cs_law (fun _ => rfl) fun cdv A outer s H E ns hr hok => by
    have nd := cs_law.nd
    have hm : 2 ≤ 2 + cellAt ns 0 % 11 ∧ 2 + cellAt ns 0 % 11 ≤ 12 := by omega
    have hm0 : 0 ≤ 2 + cellAt ns 0 % 11 := by omega
    refine blk_set nd (i := 1) rfl (.inl rfl) (px_callL (g_housesA T) hr (by decide) (cellAt ns 0, 2 + cellAt ns 0 % 11) hm0 (pa_c (px_at T hr (by decide) (px_var (pv 0) rfl)) (pa_c (px_op op_add px_int (px_op op_mod (px_at T hr (by decide) (px_var (pv 0) rfl)) px_int o_mod) o_add) pa_n))) ?_
    have oh : OkH (housesA (cellAt ns 0) (2 + cellAt ns 0 % 11)) := housesA_ok (by omega)
    have hl : (housesA (cellAt ns 0) (2 + cellAt ns 0 % 11)).length = (2 + cellAt ns 0 % 11).toNat := housesA_len (by omega)
    show Blk _ _ _ (List.set _ 1 (some (.lst (housesD (housesA (cellAt ns 0) (2 + cellAt ns 0 % 11)))))) _ _
    generalize housesA (cellAt ns 0) (2 + cellAt ns 0 % 11) = hs at oh hl ⊢
    have h2 : 2 ≤ hs.length := by omega
    have el : (housesD hs).length = hs.length := List.length_map ..
    refine blk_set nd (i := 2) rfl (.inl rfl) (px_var (pv 1) rfl) ?_
    refine blk_ifJ (fun g l => (∃ k, g = [some (.scr (ns.map .int)), some (.lst (housesD hs)), some (.lst (housesD (hs.take k))), none, none, none, none, none]) ∧ l = []) (ts_cmp op_eq (px_op op_mod (px_op op_fdiv (px_at T hr (by decide) (px_var (pv 0) rfl)) px_int o_fdiv) px_int o_mod) px_int o_eqI) (fun _ => ?_) (fun _ => ?_) (fun g l hM => ?_)
    · refine blk_set nd (i := 2) rfl (.inl rfl) (px_slL (px_var (pv 1) rfl) .f pz_n (pz_s (px_op op_add px_int (px_op op_fdiv (px_bi call_len_seq T.z_len (pa_c (px_var (pv 1) rfl) pa_n) o_lenL) px_int o_fdiv) o_add))) ?_
      refine blk_nil ⟨⟨(1 + ((housesD hs).length : Int) / 2).toNat, ?_⟩, rfl⟩
      rw [cut_take (by omega)]
      show _ = [_, _, some (D.lst ((hs.take _).map .str)), _, _, _, _, _]
      rw [List.map_take]
      rfl
    · refine blk_nil ⟨⟨hs.length, ?_⟩, rfl⟩
      rw [List.take_length]
      rfl
    · obtain ⟨⟨k, rfl⟩, rfl⟩ := hM
      have c1 : (cut ns (some 1) (some 41)).length ≤ 40 := cut_len (by decide) (by decide)
      have m1 : cut (ns.map D.int) (some 1) (some 41) = (cut ns (some 1) (some 41)).map .int := cut_map _ _ _ _
      generalize cut ns (some 1) (some 41) = cells at c1 m1
      have h19 : (1 : Int) ≤ 9 := by decide
      refine blk_set nd (i := 3) rfl (.inl rfl) (px_callL (g_roadsA T) hr (by decide) (cells, hs.take k, 9) ⟨h19, Nat.le_trans c1 (by decide)⟩ (pa_c (Px.to (px_slL (px_var (pv 0) rfl) .s (pz_s px_int) (pz_s px_int)) (congrArg D.lst m1)) (pa_c (px_var (pv 2) rfl) (pa_c px_int pa_n)))) ?_
      have og0 : OkG (hs.take k, roadsA (hs.take k) 9 cells) := roadsA_ok (oh.take k) (by decide) c1
      have og : OkG (hs, roadsA (hs.take k) 9 cells) := ⟨oh, fun r h => (og0.r r h).mono fun x hx => List.mem_of_mem_take hx, og0.le⟩
      show Blk _ _ _ (List.set _ 3 (some (.lst (roadsD (roadsA (hs.take k) 9 cells))))) _ _
      generalize roadsA (hs.take k) 9 cells = rs at og ⊢
      have mem : ∀ {i : Int}, -(hs.length : Int) ≤ i → i < hs.length → ∃ x, atI (housesD hs) i = some (.str x) ∧ x ∈ hs := fun h0 h1 => by
        obtain ⟨x, hx, hm⟩ := atI_ex h0 h1
        exact ⟨x, atI_map hx, hm⟩
      obtain ⟨x0, hx0, m0⟩ := mem (i := 0) (by omega) (by omega)
      refine blk_set nd (i := 4) rfl (.inl rfl) (px_Net T hr (by decide) og (px_var (pv 1) rfl) (px_var (pv 3) rfl)) ?_
      refine blk_set nd (i := 5) rfl (.inl rfl) (px_call (g_lfars T) hr (by decide) ((hs, rs), x0) ⟨og, m0⟩ (pa_c (px_var (pv 4) rfl) (pa_c (px_var (pv 1) rfl) (pa_c (px_ix ix_list (px_var (pv 1) rfl) px_int (o_ixL hx0)) pa_n)))) ?_
      refine blk_set nd (i := 6) (d := .int (cellAt ns 1 % (hs.length : Int))) rfl (.inl rfl) (px_op op_mod (px_at T hr (by decide) (px_var (pv 0) rfl)) (Px.to (px_bi call_len_seq T.z_len (pa_c (px_var (pv 1) rfl) pa_n) o_lenL) (by rw [el])) (o_mod (by omega))) ?_
      have a1 := Int.emod_nonneg (cellAt ns 1) (show (hs.length : Int) ≠ 0 by omega)
      have a2 := Int.emod_lt_of_pos (cellAt ns 1) (show 0 < (hs.length : Int) by omega)
      generalize cellAt ns 1 % (hs.length : Int) = a at a1 a2 ⊢
      obtain ⟨x1, hx1, m1'⟩ := mem (i := a - 1) (by omega) (by omega)
      obtain ⟨x2, hx2, m2'⟩ := mem (i := a) (by omega) (by omega)
      refine blk_for (is := [7]) (ds := [.str x1, .str x2, .str x0]) (fun i g l => (∃ o7, g = [some (.scr (ns.map .int)), some (.lst (housesD hs)), some (.lst (housesD (hs.take k))), some (.lst (roadsD rs)), some (netD c (hs, rs)), some (.dK (tabP (farF rs x0) hs)), some (.int a), o7]) ∧ l = []) PassesOwn.never rfl
        (it_list (px_lst (pa_c (px_ix ix_list (px_var (pv 1) rfl) (px_op op_sub (px_var (pv 6) rfl) px_int o_sub) (o_ixL hx1)) (pa_c (px_ix ix_list (px_var (pv 1) rfl) (px_var (pv 6) rfl) (o_ixL hx2)) (pa_c (px_ix ix_list (px_var (pv 1) rfl) px_int (o_ixL hx0)) pa_n))))) (pg_name (i := 7) nd rfl (.inl rfl)) ⟨⟨none, rfl⟩, rfl⟩ (fun i d g l hd hI => ?_) (fun g l hI => ?_)
      · obtain ⟨⟨o7, rfl⟩, rfl⟩ := hI
        obtain ⟨x, hx, rfl⟩ : ∃ x, x ∈ hs ∧ d = .str x := by
          have hmm := List.mem_of_getElem? hd
          simp only [List.mem_cons, List.not_mem_nil, or_false] at hmm
          rcases hmm with rfl | rfl | rfl
          · exact ⟨_, m1', rfl⟩
          · exact ⟨_, m2', rfl⟩
          · exact ⟨_, m0, rfl⟩
        refine ⟨_, tg_name, ?_⟩
        exact blk_if (k := false) (ts_not (ts_val (k := true) (px_call (g_right T) hr (by decide) (farF rs x, (hs, rs), x) ⟨farF_ok og hx, og, hx⟩ (pa_c (px_call (g_lfars T) hr (by decide) ((hs, rs), x) ⟨og, hx⟩ (pa_c (px_var (pv 4) rfl) (pa_c (px_var (pv 1) rfl) (pa_c (px_var (pv 7) rfl) pa_n)))) (pa_c (px_var (pv 1) rfl) (pa_c (px_var (pv 3) rfl) (pa_c (px_var (pv 7) rfl) pa_n))))))) (fun h => by cases h) (fun _ => blk_nil (blk_nil ⟨⟨some (.str x), rfl⟩, rfl⟩))
      · obtain ⟨⟨o7, rfl⟩, rfl⟩ := hI
        exact blk_ret (px_cmp (op_eq_dictA hr.units0) (px_call (g_lfars T) hr (by decide) ((hs, rs), x0) ⟨og, m0⟩ (pa_c (px_var (pv 4) rfl) (pa_c (px_var (pv 1) rfl) (pa_c (px_ix ix_list (px_var (pv 1) rfl) px_int (o_ixL hx0)) pa_n)))) (px_var (pv 5) rfl) (o_eqDict .f .f (tabP_flat _ _) (tabP_nodup oh.nd))) ⟨rfl, rfl⟩
end
def hfn : List He.DefD := [dD "_wall" s_wall, dD "is_whole" s_is_whole, dD "is_name" s_is_name, dD "are_houses" s_are_houses, dD "is_road" s_is_road, dD "fars" s_fars, dD "_law_at" s_law_at, dD "_law_word" s_law_word, dD "_law_houses" s_law_houses, dD "_law_roads" s_law_roads, dD "_law_whole" s_law_whole, dD "_law_fars" s_law_fars, dD "_law_right" s_law_right, dD "law" s_law, dM "Net" "__init__" "Net.__init__" s_Net_init, dM "Net" "houses" "Net.houses" s_Net_houses, dM "Net" "roads" "Net.roads" s_Net_roads, dM "Net" "road" "Net.road" s_Net_road, dM "Net" "known" "Net.known" s_Net_known, dM "Net" "out_of" "Net.out_of" s_Net_out_of, dM "Net" "into" "Net.into" s_Net_into, dM "Net" "far" "Net.far" s_Net_far]
def hfa_0 : List He.Fa := [.free "ValueError", .free "all", .free "enumerate", .free "range", .free "isinstance", .free "int", .free "list", .free "len", .free "bool", .free "str", .free "tuple", .glo "_wall", .glo "is_whole", .glo "is_name", .glo "are_houses", .glo "is_road", .glo "fars", .glo "_law_at", .glo "_law_word", .glo "_law_houses", .glo "_law_roads", .glo "_law_whole", .glo "_law_fars", .glo "_law_right", .glo "law", .str "SMALL" "abcdefghijklmnopqrstuvwxyz", .int "MOST_HOUSES" 12, .int "MOST_ROADS" 40, .int "LONGEST" 9, .int "WIDEST" 1000000000, .glo "Net", .cls "Net", .keep "Net", .mkr "Net", .meth "Net" "houses", .meth "Net" "roads", .meth "Net" "road", .meth "Net" "known", .meth "Net" "out_of", .meth "Net" "into"]
def hfa_1 : List He.Fa := [.meth "Net" "far", .noat "Net" "names", .noat "Net" "lines"]
def hfa : List He.Fa := hfa_0 ++ hfa_1
def hfb : List Fb := [.isi "Net"]
abbrev hex : PySem.W.Frag → Bool := exB hfb
abbrev csK (K : PySem.W.Frag) : Cs := ⟨He.ga K "RoadError", He.ga K "NoNet", He.ga K "NoHouse", He.ga K "NoRoad", He.ga K "Net"⟩
theorem top_of {K : PySem.W.Frag} {h : Heap} {mg : Str → Option Value} {w : World} (X : K.In h) (G : h.Ns mainGlobals mg) (says : He.SaysX hfa hfn [] [] hex w h K) : Top K mg (csK K) := by
  have c : He.SaysD hfa hfn K := says.t.d
  have cx : exB hfb K = true := says.more
  exact {
    z_ValueError := He.free_ok X G (c.fact 0 (f := .free "ValueError") rfl)
    z_all := He.free_ok X G (c.fact 1 (f := .free "all") rfl)
    z_enumerate := He.free_ok X G (c.fact 2 (f := .free "enumerate") rfl)
    z_range := He.free_ok X G (c.fact 3 (f := .free "range") rfl)
    z_isinstance := He.free_ok X G (c.fact 4 (f := .free "isinstance") rfl)
    z_int := He.free_ok X G (c.fact 5 (f := .free "int") rfl)
    z_list := He.free_ok X G (c.fact 6 (f := .free "list") rfl)
    z_len := He.free_ok X G (c.fact 7 (f := .free "len") rfl)
    z_bool := He.free_ok X G (c.fact 8 (f := .free "bool") rfl)
    z_str := He.free_ok X G (c.fact 9 (f := .free "str") rfl)
    z_tuple := He.free_ok X G (c.fact 10 (f := .free "tuple") rfl)
    d_wall := dfn_of c (He.glo_ok X G (c.fact 11 (f := .glo "_wall") rfl)) 0
    d_is_whole := dfn_of c (He.glo_ok X G (c.fact 12 (f := .glo "is_whole") rfl)) 1
    d_is_name := dfn_of c (He.glo_ok X G (c.fact 13 (f := .glo "is_name") rfl)) 2
    d_are_houses := dfn_of c (He.glo_ok X G (c.fact 14 (f := .glo "are_houses") rfl)) 3
    d_is_road := dfn_of c (He.glo_ok X G (c.fact 15 (f := .glo "is_road") rfl)) 4
    d_fars := dfn_of c (He.glo_ok X G (c.fact 16 (f := .glo "fars") rfl)) 5
    d_law_at := dfn_of c (He.glo_ok X G (c.fact 17 (f := .glo "_law_at") rfl)) 6
    d_law_word := dfn_of c (He.glo_ok X G (c.fact 18 (f := .glo "_law_word") rfl)) 7
    d_law_houses := dfn_of c (He.glo_ok X G (c.fact 19 (f := .glo "_law_houses") rfl)) 8
    d_law_roads := dfn_of c (He.glo_ok X G (c.fact 20 (f := .glo "_law_roads") rfl)) 9
    d_law_whole := dfn_of c (He.glo_ok X G (c.fact 21 (f := .glo "_law_whole") rfl)) 10
    d_law_fars := dfn_of c (He.glo_ok X G (c.fact 22 (f := .glo "_law_fars") rfl)) 11
    d_law_right := dfn_of c (He.glo_ok X G (c.fact 23 (f := .glo "_law_right") rfl)) 12
    d_law := dfn_of c (He.glo_ok X G (c.fact 24 (f := .glo "law") rfl)) 13
    k_SMALL := He.str_ok X G (c.fact 25 (f := .str "SMALL" "abcdefghijklmnopqrstuvwxyz") rfl)
    k_MOST_HOUSES := He.int_ok X G (c.fact 26 (f := .int "MOST_HOUSES" 12) rfl)
    k_MOST_ROADS := He.int_ok X G (c.fact 27 (f := .int "MOST_ROADS" 40) rfl)
    k_LONGEST := He.int_ok X G (c.fact 28 (f := .int "LONGEST" 9) rfl)
    k_WIDEST := He.int_ok X G (c.fact 29 (f := .int "WIDEST" 1000000000) rfl)
    c_Net := ⟨He.glo_ok X G (c.fact 30 (f := .glo "Net") rfl), He.cls_ok (c.fact 31 (f := .cls "Net") rfl), He.keep_ok (c.fact 32 (f := .keep "Net") rfl)⟩
    i_Net := isiB_ok (fb_at cx 0 (f := .isi "Net") rfl)
    d_Net_init := din_of c (He.mkr_ok (c.fact 33 (f := .mkr "Net") rfl)) 14
    d_Net_houses := dmt_of c (He.meth_ok (c.fact 34 (f := .meth "Net" "houses") rfl)) 15
    d_Net_roads := dmt_of c (He.meth_ok (c.fact 35 (f := .meth "Net" "roads") rfl)) 16
    d_Net_road := dmt_of c (He.meth_ok (c.fact 36 (f := .meth "Net" "road") rfl)) 17
    d_Net_known := dmt_of c (He.meth_ok (c.fact 37 (f := .meth "Net" "known") rfl)) 18
    d_Net_out_of := dmt_of c (He.meth_ok (c.fact 38 (f := .meth "Net" "out_of") rfl)) 19
    d_Net_into := dmt_of c (He.meth_ok (c.fact 39 (f := .meth "Net" "into") rfl)) 20
    d_Net_far := dmt_of c (He.meth_ok (c.fact 40 (f := .meth "Net" "far") rfl)) 21
    n_Net_names := He.noat_ok (c.fact 41 (f := .noat "Net" "names") rfl)
    n_Net_lines := He.noat_ok (c.fact 42 (f := .noat "Net" "lines") rfl)
  }
abbrev R : PySem.W.OpenRow := PySem.W.OpenLaw.row PySem.Challenge.rw_postroad_k04_whole_far
abbrev hk : PySem.W.Hook := He.hookX 5 hfa hfn [] [] hex
def ob (s : PySem.W.SharedT) : He.AlX := He.obsX 5 hfa hfn [] [] hex (HandSHeadRun.getT s)
theorem ob_eq (s : PySem.W.SharedT) : ob s = hk.obs s.abs := He.obsX_eq (HandSHeadRun.getT_eq s)
def loose : List Str := ["_wall", "RoadError", "NoNet", "NoHouse", "NoRoad", "SMALL", "MOST_HOUSES", "MOST_ROADS", "LONGEST", "WIDEST", "is_whole", "is_name", "are_houses", "is_road", "Net", "fars", "_law_at", "_law_word", "_law_houses", "_law_roads", "_law_whole", "_law_fars", "_law_right"]
theorem run (w : World) : HandSHeadRun.RunEq R (PySem.W.view R.prog [26]) hk ob 20000 loose w := by
  intro os
  kernel_rfl
end Lw
open PySem PySem.W PySem.Calls PyProof.Rows
set_option maxHeartbeats 0 in
theorem PySem.Challenge.cw_postroad_k04_whole_far_holds : PySem.Challenge.rw_postroad_k04_whole_far.Holds := by
  w_on; o_law
  refine HandSHeadRun.head_any (r := OpenLaw.row PySem.Challenge.rw_postroad_k04_whole_far) (q := view (OpenLaw.row PySem.Challenge.rw_postroad_k04_whole_far).prog [26]) (H := Lw.hk) (ob := Lw.ob) (M := 20000) (loose := Lw.loose) (d := HandSHeadRun.topDef (OpenLaw.row PySem.Challenge.rw_postroad_k04_whole_far).prog 26) (kwd := []) Lw.ob_eq
    (by kernel_rfl) (fun s => by kernel_rfl) Lw.run (by kernel_rfl) (by kernel_rfl) (by kernel_rfl) (by rfl) (by first | assumption | decide +kernel) (by decide +kernel) ⟨rfl, rfl, rfl, rfl, rfl, by decide +kernel⟩ ?hw ?hc
  case hw => w_witness2
  case hc =>
    refine L2.walk_ofE (l := PySem.Challenge.rw_postroad_k04_whole_far) (n := 63) (k := Lw.lvl) (x := "_law_script") (CX := L2.CX0) rfl (by decide) (by kernel_rfl) ⟨rfl, by decide, by decide⟩ ?F (fun _ _ _ _ z => z)
    intro w mg fa h Y G hmg0
    obtain ⟨K, KX, c⟩ := Y
    have hmg : mg ("law" : PySem.Str) = some (.ref fa) := by
      have e : (HandSHeadRun.topDef (OpenLaw.row PySem.Challenge.rw_postroad_k04_whole_far).prog 26).name = ("law" : PySem.Str) := by kernel_rfl
      rw [← e]
      exact hmg0
    have T := Lw.top_of KX G c
    obtain ⟨fd, hb, hF⟩ := Sx.law_end (P := (PySem.Challenge.rw_postroad_k04_whole_far).prog) (w := w) (pn := "_law_script") (k := Lw.lvl) T.d_law hmg (fun _ _ _ _ _ _ s v => .of_eq rfl) (fun base h1 h2 f fd F => Lw.ok_law T F)
    exact ⟨K, fd, Sx.spLaw K, KX, hb, fun H a ns hl _ hS => ⟨a, ns, rfl, hS, hl, fun _ => rfl⟩, hF⟩
