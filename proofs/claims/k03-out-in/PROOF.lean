import PyProof.Rows.All
import Wide.All
import OpenK.AllK
import Wide.FinOn
import HandS.ForMost
import HandS.Exc
import HandS.WordsExc
import HandS.IsInst
import HandS.Conv
import HandS.Text
import HandS.TupAny
import HandS.Steps
import HandS.SortInts
import HandS.DictComp
import KE.KIsAll
import HandS.ExcOwn
import HandS.ExcIs
import Lean
import KE.KStateDown
import HandS.Defaults
import HandS.Head0
import HandS.Head1
import HandS.Head2
import HandS.HeadEnd
import HandS.HeadHook1
import HandS.HeadHook2
import HandS.HeadHook3
import HandS.HeadHook4
import PySem.Challenge.RW_postroad_k03_out_and_in
set_option Elab.async false
set_option linter.all false
set_option maxRecDepth 100000
set_option maxHeartbeats 2000000
/-! Frozen data, owned cells, states: a small separation logic over the layer's readings. -/
namespace Sx
open PySem L2

/-! ### heaps -/
/-- B knows all that A knows -/
def Ex (A B : Hp) : Prop := ∀ x u, A x = some u → B x = some u
theorem Ex.rf {A : Hp} : Ex A A := fun _ _ q => q
theorem Ex.tr {A B C : Hp} (p : Ex A B) (q : Ex B C) : Ex A C := fun x u z => q x u (p x u z)
theorem Ex.mut {A B : Hp} {q : Addr} {u : HO} (s : Ex A B) (n : A q = none) : Ex A (upd B q u) := fun x v z => (upd_ne (ne_of_none z n)).trans (s x v z)
theorem Ex.new {A : Hp} {q : Addr} {u : HO} (n : A q = none) : Ex A (upd A q u) := Ex.rf.mut n
theorem Ex.free {A B : Hp} (s : Ex A B) {q : Addr} (n : B q = none) : A q = none := Option.eq_none_iff_forall_ne_some.mpr fun u z => by
  rw [s q u z] at n; cases n
theorem Ex.upd2 {A B : Hp} {q : Addr} {u : HO} (s : Ex A B) : Ex (upd A q u) (upd B q u) := fun x v z => by
  by_cases k : x = q
  · subst k; rw [upd_same] at z ⊢; exact z
  · rw [upd_ne k] at z ⊢; exact s x v z
theorem ex_rd {A B : Hp} {x : Addr} {u : HO} (s : Ex A B) : Rd A x u → Rd B x u := Or.imp (s x _) fun ⟨o, z⟩ => ⟨o, s x _ z⟩
theorem ex_l {K : PySem.W.Frag} {A B : Hp} {x : Addr} {vs : List V} (s : Ex A B) : SqL K A x vs → SqL K B x vs := Or.imp (ex_rd s) id
theorem ex_t {K : PySem.W.Frag} {A B : Hp} {x : Addr} {vs : List V} (s : Ex A B) : SqT K A x vs → SqT K B x vs := Or.imp (ex_rd s) id
def emp : Hp := fun _ => none
def one (p : Addr) (o : HO) : Hp := upd emp p o
def join (A B : Hp) : Hp := fun a => match A a with | some o => some o | none => B a
theorem join_l {A B : Hp} {a : Addr} {o : HO} (h : A a = some o) : join A B a = some o := by unfold join; rw [h]
theorem join_r {A B : Hp} {a : Addr} (h : A a = none) : join A B a = B a := by unfold join; rw [h]
theorem join_emp (A : Hp) : join A emp = A := by
  funext a; unfold join emp; cases A a <;> rfl
theorem emp_join (A : Hp) : join emp A = A := by
  funext a; unfold join emp; rfl
theorem join_some {A B : Hp} {a : Addr} {o : HO} (h : join A B a = some o) : A a = some o ∨ (A a = none ∧ B a = some o) := by
  unfold join at h
  cases q : A a with
  | some u => rw [q] at h; exact .inl h
  | none => rw [q] at h; exact .inr ⟨rfl, h⟩
theorem join_none {A B : Hp} {a : Addr} (h : join A B a = none) : A a = none ∧ B a = none := by
  unfold join at h
  cases q : A a with
  | some u => rw [q] at h; cases h
  | none => rw [q] at h; exact ⟨rfl, h⟩
theorem join_assoc (A B C : Hp) : join (join A B) C = join A (join B C) := by
  funext a; unfold join; cases A a <;> rfl
/-- nothing in common -/
def Dj (A B : Hp) : Prop := ∀ a o, A a = some o → B a = none
theorem Dj.sym {A B : Hp} (h : Dj A B) : Dj B A := fun a o e => by
  cases q : A a with
  | none => rfl
  | some u => rw [h a u q] at e; cases e
theorem Dj.comm {A B : Hp} (h : Dj A B) : join A B = join B A := by
  funext a
  unfold join
  cases q : A a with
  | none => cases B a <;> rfl
  | some u => rw [h a u q]
theorem Dj.emp (A : Hp) : Dj A emp := fun _ _ _ => rfl
theorem Dj.l {A B C : Hp} (h : Dj (join A B) C) : Dj A C := fun a o e => h a o (join_l e)
theorem Dj.r {A B C : Hp} (d : Dj A B) (h : Dj (join A B) C) : Dj B C := fun a o e => h a o (by rw [join_r (d.sym a o e)]; exact e)
theorem Dj.joinL {A B C : Hp} (h : Dj A C) (k : Dj B C) : Dj (join A B) C := fun a o e => by
  rcases join_some e with q | ⟨_, q⟩
  · exact h a o q
  · exact k a o q
theorem Ex.joinL {A B H : Hp} (h : Ex (join A B) H) : Ex A H := fun a o e => h a o (join_l e)
theorem Ex.joinR {A B H : Hp} (d : Dj A B) (h : Ex (join A B) H) : Ex B H := fun a o e => h a o (by rw [join_r (d.sym a o e)]; exact e)
theorem Ex.join {A B H : Hp} (h : Ex A H) (k : Ex B H) : Ex (join A B) H := fun a o e => by
  rcases join_some e with q | ⟨_, q⟩
  · exact h a o q
  · exact k a o q
theorem one_same {p : Addr} {o : HO} : one p o p = some o := upd_same
theorem one_some {p a : Addr} {o u : HO} (h : one p o a = some u) : a = p ∧ u = o := by
  unfold one upd emp at h
  by_cases e : a = p
  · rw [if_pos e] at h; exact ⟨e, (Option.some.inj h).symm⟩
  · rw [if_neg e] at h; cases h
theorem one_ne {p a : Addr} {o : HO} (h : a ≠ p) : one p o a = none := by
  unfold one; rw [upd_ne h]; rfl
theorem upd_one {p : Addr} {o u : HO} : upd (one p o) p u = one p u := upd_upd

/-! ### frozen data -/
inductive D where
  | non | bl (b : Bool) | int (i : Int) | str (x : Str) | adr (a : Addr) | ty (n : String)
  | lst (ds : List D) | tup (ds : List D) | ins (C : Addr) (fs : List (Str × D)) | scr (ds : List D) | dK (kvs : List (Key × D)) | dT (kvs : List (List Key × D))

mutual
inductive Fd (K : PySem.W.Frag) (F : Hp) : V → D → Prop
  | non : Fd K F .non .non
  | bl (b : Bool) : Fd K F (.bl b) (.bl b)
  | int (i : Int) : Fd K F (.int i) (.int i)
  | str (x : Str) : Fd K F (.str x) (.str x)
  | adr (a : Addr) : Fd K F (.ref a) (.adr a)
  | ty (n : String) : Fd K F (.ty n) (.ty n)
  | lst {a : Addr} {vs : List V} {ds : List D} : F a = some (.lst vs) → FdAll K F vs ds → Fd K F (.ref a) (.lst ds)
  | tup {a : Addr} {vs : List V} {ds : List D} : SqT K F a vs → FdAll K F vs ds → Fd K F (.ref a) (.tup ds)
  | ins {a C dx : Addr} {vs : List (Str × V)} {fs : List (Str × D)} : F a = some (.ins C dx vs) → FdFs K F vs fs → Fd K F (.ref a) (.ins C fs)
  | scr {a : Addr} {vs : List V} {ds : List D} : SqL K F a vs → FdAll K F vs ds → Fd K F (.ref a) (.scr ds)
  | dK {a : Addr} {vs : List (Key × V)} {kvs : List (Key × D)} : F a = some (.dK vs) → FdFs K F vs kvs → Fd K F (.ref a) (.dK kvs)
  | dT {a : Addr} {vs : List (List Key × V)} {kvs : List (List Key × D)} : F a = some (.dT vs) → FdFs K F vs kvs → Fd K F (.ref a) (.dT kvs)
inductive FdAll (K : PySem.W.Frag) (F : Hp) : List V → List D → Prop
  | nil : FdAll K F [] []
  | cons {v : V} {vs : List V} {d : D} {ds : List D} : Fd K F v d → FdAll K F vs ds → FdAll K F (v :: vs) (d :: ds)
inductive FdFs (K : PySem.W.Frag) (F : Hp) : {κ : Type} → List (κ × V) → List (κ × D) → Prop
  | nil {κ : Type} : FdFs K F (κ := κ) [] []
  | cons {κ : Type} {n : κ} {v : V} {vs : List (κ × V)} {d : D} {ds : List (κ × D)} : Fd K F v d → FdFs K F vs ds → FdFs K F ((n, v) :: vs) ((n, d) :: ds)
end

section
variable {K : PySem.W.Frag} {F F' : Hp}
mutual
theorem Fd.go (e : Ex F F') : ∀ {v : V} {d : D}, Fd K F v d → Fd K F' v d
  | _, _, .non => .non
  | _, _, .bl _ => .bl _
  | _, _, .int _ => .int _
  | _, _, .str _ => .str _
  | _, _, .adr _ => .adr _
  | _, _, .ty _ => .ty _
  | _, _, .lst s a => .lst (e _ _ s) (FdAll.go e a)
  | _, _, .tup s a => .tup (ex_t e s) (FdAll.go e a)
  | _, _, .ins s a => .ins (e _ _ s) (FdFs.go e a)
  | _, _, .scr s a => .scr (ex_l e s) (FdAll.go e a)
  | _, _, .dK s a => .dK (e _ _ s) (FdFs.go e a)
  | _, _, .dT s a => .dT (e _ _ s) (FdFs.go e a)
theorem FdAll.go (e : Ex F F') : ∀ {vs : List V} {ds : List D}, FdAll K F vs ds → FdAll K F' vs ds
  | _, _, .nil => .nil
  | _, _, .cons a b => .cons (Fd.go e a) (FdAll.go e b)
theorem FdFs.go (e : Ex F F') : ∀ {κ : Type} {vs : List (κ × V)} {ds : List (κ × D)}, FdFs K F vs ds → FdFs K F' vs ds
  | _, _, _, .nil => .nil
  | _, _, _, .cons a b => .cons (Fd.go e a) (FdFs.go e b)
end
theorem Fd.mono (e : Ex F F') (d : D) {v : V} (h : Fd K F v d) : Fd K F' v d := Fd.go e h
theorem FdAll.mono (e : Ex F F') (ds : List D) {vs : List V} (h : FdAll K F vs ds) : FdAll K F' vs ds := FdAll.go e h
theorem FdFs.mono {κ : Type} (e : Ex F F') (ds : List (κ × D)) {vs : List (κ × V)} (h : FdFs K F vs ds) : FdFs K F' vs ds := FdFs.go e h
theorem FdAll.length : ∀ {vs : List V} {ds : List D}, FdAll K F vs ds → vs.length = ds.length
  | _, _, .nil => rfl
  | _, _, .cons _ t => by rw [List.length_cons, List.length_cons, FdAll.length t]
theorem FdAll.get : ∀ {vs : List V} {ds : List D} {i : Nat} {d : D}, FdAll K F vs ds → ds[i]? = some d → ∃ v, vs[i]? = some v ∧ Fd K F v d
  | _, _, i, _, .nil, e => by simp at e
  | _, _, 0, _, .cons h _, e => by simp at e; subst e; exact ⟨_, rfl, h⟩
  | _, _, i + 1, _, .cons _ t, e => by
    obtain ⟨v, h1, h2⟩ := FdAll.get (i := i) t (by simpa using e)
    exact ⟨v, by simpa using h1, h2⟩
theorem FdAll.getV : ∀ {vs : List V} {ds : List D} {i : Nat} {v : V}, FdAll K F vs ds → vs[i]? = some v → ∃ d, ds[i]? = some d ∧ Fd K F v d
  | _, _, i, _, .nil, e => by simp at e
  | _, _, 0, _, .cons h _, e => by simp at e; subst e; exact ⟨_, rfl, h⟩
  | _, _, i + 1, _, .cons _ t, e => by
    obtain ⟨v, h1, h2⟩ := FdAll.getV (i := i) t (by simpa using e)
    exact ⟨v, by simpa using h1, h2⟩
theorem FdAll.app : ∀ {vs ws : List V} {ds es : List D}, FdAll K F vs ds → FdAll K F ws es → FdAll K F (vs ++ ws) (ds ++ es)
  | _, _, _, _, .nil, h => h
  | _, _, _, _, .cons h t, k => .cons h (FdAll.app t k)
theorem FdAll.take : ∀ {vs : List V} {ds : List D} (n : Nat), FdAll K F vs ds → FdAll K F (vs.take n) (ds.take n)
  | _, _, 0, _ => by simp; exact .nil
  | _, _, _ + 1, .nil => by simp; exact .nil
  | _, _, n + 1, .cons h t => .cons h (FdAll.take n t)
theorem FdAll.drop : ∀ {vs : List V} {ds : List D} (n : Nat), FdAll K F vs ds → FdAll K F (vs.drop n) (ds.drop n)
  | _, _, 0, h => h
  | _, _, _ + 1, .nil => by simp; exact .nil
  | _, _, n + 1, .cons _ t => FdAll.drop n t
theorem FdAll.set : ∀ {vs : List V} {ds : List D} (n : Nat) {v : V} {d : D}, FdAll K F vs ds → Fd K F v d → FdAll K F (vs.set n v) (ds.set n d)
  | _, _, _, _, _, .nil, _ => .nil
  | _, _, 0, _, _, .cons _ t, k => .cons k t
  | _, _, n + 1, _, _, .cons h t, k => .cons h (FdAll.set n t k)
theorem FdAll.rev : ∀ {vs : List V} {ds : List D}, FdAll K F vs ds → FdAll K F vs.reverse ds.reverse
  | _, _, .nil => .nil
  | _, _, .cons h t => by rw [List.reverse_cons, List.reverse_cons]; exact (FdAll.rev t).app (.cons h .nil)
theorem FdAll.replicate {v : V} {d : D} (h : Fd K F v d) : ∀ n, FdAll K F (List.replicate n v) (List.replicate n d)
  | 0 => .nil
  | n + 1 => .cons h (FdAll.replicate h n)
theorem FdFs.names {κ : Type} : ∀ {vs : List (κ × V)} {ds : List (κ × D)}, FdFs K F vs ds → vs.map (·.1) = ds.map (·.1)
  | _, _, .nil => rfl
  | _, _, .cons _ t => by rw [List.map_cons, List.map_cons, FdFs.names t]
theorem FdFs.length {κ : Type} {vs : List (κ × V)} {ds : List (κ × D)} (h : FdFs K F vs ds) : vs.length = ds.length := by
  have e := congrArg List.length h.names
  rw [List.length_map, List.length_map] at e
  exact e
theorem FdFs.look {f : Str} {d : D} : ∀ {vs : List (Str × V)} {ds : List (Str × D)}, FdFs K F vs ds → ds.lookup f = some d → ∃ v, vs.lookup f = some v ∧ Fd K F v d
  | _, _, .nil, e => by simp at e
  | _, _, .cons (n := n) h t, e => by
    rw [List.lookup_cons] at e ⊢
    cases q : (f == n) with
    | true => rw [q] at e; cases e; exact ⟨_, rfl, h⟩
    | false => rw [q] at e; exact FdFs.look t e
theorem FdFs.nolook {f : Str} : ∀ {vs : List (Str × V)} {ds : List (Str × D)}, FdFs K F vs ds → ds.lookup f = none → vs.lookup f = none
  | _, _, .nil, _ => rfl
  | _, _, .cons (n := n) h t, e => by
    rw [List.lookup_cons] at e ⊢
    cases q : (f == n) with
    | true => rw [q] at e; cases e
    | false => rw [q] at e; exact FdFs.nolook t e
def putD (f : Str) (d : D) : List (Str × D) → List (Str × D)
  | [] => [(f, d)]
  | (g, x) :: r => if g = f then (g, d) :: r else (g, x) :: putD f d r
theorem FdFs.put {f : Str} {v : V} {d : D} (k : Fd K F v d) : ∀ {vs : List (Str × V)} {ds : List (Str × D)}, FdFs K F vs ds → FdFs K F (putF f v vs) (putD f d ds)
  | _, _, .nil => .cons k .nil
  | _, _, .cons (n := n) h t => by
    unfold putF putD
    by_cases e : n = f
    · rw [if_pos e, if_pos e]; exact .cons k t
    · rw [if_neg e, if_neg e]; exact .cons h (FdFs.put k t)
theorem FdAll.ints : ∀ {vs : List V} {ns : List Int}, FdAll K F vs (ns.map D.int) → vs = ns.map V.int
  | _, [], h => by cases h; rfl
  | _, n :: ns, h => by cases h with | cons a b => cases a; rw [List.map_cons, FdAll.ints b]
theorem FdAll.strs : ∀ {vs : List V} {ns : List Str}, FdAll K F vs (ns.map D.str) → vs = ns.map V.str
  | _, [], h => by cases h; rfl
  | _, n :: ns, h => by cases h with | cons a b => cases a; rw [List.map_cons, FdAll.strs b]
theorem FdAll.bls : ∀ {vs : List V} {ns : List Bool}, FdAll K F vs (ns.map D.bl) → vs = ns.map V.bl
  | _, [], h => by cases h; rfl
  | _, n :: ns, h => by cases h with | cons a b => cases a; rw [List.map_cons, FdAll.bls b]
theorem FdAll.ofInts : ∀ (ns : List Int), FdAll K F (ns.map V.int) (ns.map D.int)
  | [] => .nil
  | n :: ns => .cons (.int n) (FdAll.ofInts ns)
theorem FdAll.ofStrs : ∀ (ns : List Str), FdAll K F (ns.map V.str) (ns.map D.str)
  | [] => .nil
  | n :: ns => .cons (.str n) (FdAll.ofStrs ns)
end

/-! ### owned cells -/
structure Res where
  P : Hp → Hp → Prop
  mono : ∀ {F F' M : Hp}, Ex F F' → P F M → P F' M
def Rs : List Res → Hp → Hp → Prop
  | [], _, M => M = emp
  | r :: l, F, M => ∃ A B, M = join A B ∧ Dj A B ∧ r.P F A ∧ Rs l F B
theorem Rs.mono {F F' : Hp} (e : Ex F F') : ∀ {l : List Res} {M : Hp}, Rs l F M → Rs l F' M
  | [], _, h => h
  | r :: l, _, ⟨A, B, h1, h2, h3, h4⟩ => ⟨A, B, h1, h2, r.mono e h3, Rs.mono e h4⟩
theorem Rs.split {F : Hp} : ∀ {l k : List Res} {M : Hp}, Rs (l ++ k) F M → ∃ A B, M = join A B ∧ Dj A B ∧ Rs l F A ∧ Rs k F B
  | [], _, M, h => ⟨emp, M, (emp_join M).symm, (Dj.emp M).sym, rfl, h⟩
  | r :: l, k, M, ⟨A, B, h1, h2, h3, h4⟩ => by
    obtain ⟨A', B', g1, g2, g3, g4⟩ := Rs.split h4
    subst g1
    refine ⟨join A A', B', by rw [h1, join_assoc], ?_, ⟨A, A', rfl, (Dj.l h2.sym).sym, h3, g3⟩, g4⟩
    exact Dj.joinL ((Dj.r g2 h2.sym).sym) g2
theorem Rs.app {F : Hp} : ∀ {l k : List Res} {A B : Hp}, Rs l F A → Rs k F B → Dj A B → Rs (l ++ k) F (join A B)
  | [], _, _, _, h, g, _ => by
    have e : _ = emp := h
    subst e
    rw [emp_join]; exact g
  | r :: l, k, _, B, ⟨A1, A2, h1, h2, h3, h4⟩, g, d => by
    subst h1
    rw [join_assoc]
    refine ⟨A1, join A2 B, rfl, ?_, h3, Rs.app h4 g (Dj.r h2 d)⟩
    exact (Dj.joinL h2.sym (Dj.l d).sym).sym
/-- the k-th one apart -/
theorem Rs.at {F : Hp} : ∀ {l : List Res} {k : Nat} {r : Res} {M : Hp}, l[k]? = some r → Rs l F M → ∃ A B, M = join A B ∧ Dj A B ∧ r.P F A ∧ ∀ r' A' F', Ex F F' → r'.P F' A' → Dj A' B → Rs (l.set k r') F' (join A' B)
  | [], k, r, M, e, _ => by simp at e
  | r0 :: l, 0, r, M, e, ⟨A, B, h1, h2, h3, h4⟩ => by
    simp at e; subst e
    exact ⟨A, B, h1, h2, h3, fun r' A' F' x p d => ⟨A', B, rfl, d, p, Rs.mono x h4⟩⟩
  | r0 :: l, k + 1, r, M, e, ⟨A, B, h1, h2, h3, h4⟩ => by
    obtain ⟨A2, B2, g1, g2, g3, g4⟩ := Rs.at (k := k) (r := r) (by simpa using e) h4
    subst g1
    refine ⟨A2, join A B2, ?_, ?_, g3, fun r' A' F' x p d => ?_⟩
    · rw [h1, ← join_assoc, ← join_assoc, (Dj.l h2.sym).comm]
    · exact (Dj.joinL (Dj.l h2.sym).sym g2.sym).sym
    · rw [List.set_cons_succ]
      have dA : Dj A A' := Dj.l d.sym
      have dAB : Dj A B2 := (Dj.r g2 h2.sym).sym
      have dB : Dj A' B2 := (Dj.r dAB d.sym).sym
      refine ⟨A, join A' B2, ?_, ?_, r0.mono x h3, g4 r' A' F' x p dB⟩
      · rw [← join_assoc, ← join_assoc, dA.comm]
      · exact (Dj.joinL dA.sym dAB.sym).sym

/-! ### states -/
structure Tm where
  P : Hp → Prop
  mono : ∀ {F F' : Hp}, Ex F F' → P F → P F'
def Tm.tt : Tm := ⟨fun _ => True, fun _ _ => trivial⟩
def Tm.and (K : PySem.W.Frag) (T : Tm) (v : V) (d : D) : Tm := ⟨fun F => Fd K F v d ∧ T.P F, fun e h => ⟨Fd.mono e d h.1, T.mono e h.2⟩⟩
def Tm.ands (K : PySem.W.Frag) (T : Tm) (vs : List V) (ds : List D) : Tm := ⟨fun F => FdAll K F vs ds ∧ T.P F, fun e h => ⟨FdAll.mono e ds h.1, T.mono e h.2⟩⟩
def Tm.ex (T : Tm) (F0 : Hp) : Tm := ⟨fun F => Ex F0 F ∧ T.P F, fun e h => ⟨h.1.tr e, T.mono e h.2⟩⟩
abbrev Gm := List (Option D)
def nth : Gm → Nat → Option D
  | [], _ => none
  | d :: _, 0 => d
  | _ :: r, i + 1 => nth r i
inductive Sl (K : PySem.W.Frag) (F : Hp) : Gm → St → Prop
  | nil : Sl K F [] []
  | any {o : Option V} {g : Gm} {σ : St} : Sl K F g σ → Sl K F (none :: g) (o :: σ)
  | cons {v : V} {d : D} {g : Gm} {σ : St} : Fd K F v d → Sl K F g σ → Sl K F (some d :: g) (some v :: σ)
section
variable {K : PySem.W.Frag} {F F' : Hp}
theorem Sl.mono (e : Ex F F') : ∀ {g : Gm} {σ : St}, Sl K F g σ → Sl K F' g σ
  | _, _, .nil => .nil
  | _, _, .any h => .any (Sl.mono e h)
  | _, _, .cons a h => .cons (Fd.mono e _ a) (Sl.mono e h)
theorem Sl.nth : ∀ {g : Gm} {σ : St} {i : Nat} {d : D}, Sl K F g σ → Sx.nth g i = some d → ∃ v, σ[i]? = some (some v) ∧ Fd K F v d
  | _, _, _, _, .nil, e => by cases e
  | _, _, 0, _, .any _, e => by cases e
  | _, _, i + 1, d, .any h, e => by
    obtain ⟨v, h1, h2⟩ := Sl.nth (i := i) (d := d) h e
    exact ⟨v, by simpa using h1, h2⟩
  | _, _, 0, _, .cons a _, e => by cases e; exact ⟨_, rfl, a⟩
  | _, _, i + 1, d, .cons _ h, e => by
    obtain ⟨v, h1, h2⟩ := Sl.nth (i := i) (d := d) h e
    exact ⟨v, by simpa using h1, h2⟩
theorem Sl.set : ∀ {g : Gm} {σ : St} (i : Nat) {v : V} {d : D}, Sl K F g σ → Fd K F v d → Sl K F (g.set i (some d)) (σ.set i (some v))
  | _, _, _, _, _, .nil, _ => .nil
  | _, _, 0, _, _, .any h, k => .cons k h
  | _, _, i + 1, _, _, .any h, k => .any (Sl.set i h k)
  | _, _, 0, _, _, .cons _ h, k => .cons k h
  | _, _, i + 1, _, _, .cons a h, k => .cons a (Sl.set i h k)
theorem Sl.clear : ∀ {g : Gm} {σ : St} (i : Nat) {o : Option V}, Sl K F g σ → Sl K F (g.set i none) (σ.set i o)
  | _, _, _, _, .nil => .nil
  | _, _, 0, _, .any h => .any h
  | _, _, i + 1, _, .any h => .any (Sl.clear i h)
  | _, _, 0, _, .cons _ h => .any h
  | _, _, i + 1, _, .cons a h => .cons a (Sl.clear i h)
/-- forgetting -/
inductive Wk : Gm → Gm → Prop
  | nil : Wk [] []
  | any {o : Option D} {g g' : Gm} : Wk g g' → Wk (o :: g) (none :: g')
  | keep {o : Option D} {g g' : Gm} : Wk g g' → Wk (o :: g) (o :: g')
theorem Wk.rf : ∀ {g : Gm}, Wk g g
  | [] => .nil
  | _ :: _ => .keep Wk.rf
theorem Sl.weak : ∀ {g g' : Gm} {σ : St}, Wk g g' → Sl K F g σ → Sl K F g' σ
  | _, _, _, .nil, h => h
  | _, _, _, .any w, .any h => .any (Sl.weak w h)
  | _, _, _, .any w, .cons _ h => .any (Sl.weak w h)
  | _, _, _, .keep w, .any h => .any (Sl.weak w h)
  | _, _, _, .keep w, .cons a h => .cons a (Sl.weak w h)
theorem Sl.len : ∀ {g : Gm} {σ : St}, Sl K F g σ → g.length = σ.length
  | _, _, .nil => rfl
  | _, _, .any h => by rw [List.length_cons, List.length_cons, Sl.len h]
  | _, _, .cons _ h => by rw [List.length_cons, List.length_cons, Sl.len h]
theorem Sl.nones : ∀ n, Sl K F (List.replicate n none) (List.replicate n none)
  | 0 => .nil
  | n + 1 => .any (Sl.nones n)
theorem Sl.args : ∀ {vs : List V} {ds : List D} (n : Nat), FdAll K F vs ds → Sl K F (ds.map some ++ List.replicate n none) (vs.map some ++ List.replicate n none)
  | _, _, n, .nil => Sl.nones n
  | _, _, n, .cons a h => .cons a (Sl.args n h)
end
/-- a def's entry: what was frozen, what was owned, the heap -/
structure En where
  F : Hp
  M : Hp
  H : Hp
structure At (K : PySem.W.Frag) (e : En) (g : Gm) (T : Tm) (l : List Res) (σ : St) (H F M : Hp) : Prop where
  exF : Ex F H
  exM : Ex M H
  dj : Dj F M
  eF : Ex e.F F
  nF : ∀ a o, F a = some o → e.F a = some o ∨ e.H a = none ∨ ∃ u, e.M a = some u
  nM : ∀ a o, M a = some o → e.H a = none ∨ ∃ u, e.M a = some u
  fr : ∀ a o, e.H a = some o → e.M a = none → H a = some o
  sl : Sl K F g σ
  tm : T.P F
  rs : Rs l F M
def S (K : PySem.W.Frag) (e : En) (g : Gm) (T : Tm) (l : List Res) (σ : St) (H : Hp) : Prop := ∃ F M, At K e g T l σ H F M
/-- something new is frozen -/
structure New (F H F' H' : Hp) : Prop where
  f : Ex F F'
  h : Ex H H'
  i : Ex F' H'
  n : ∀ a o, F' a = some o → F a = some o ∨ H a = none
theorem New.rf {F H : Hp} (e : Ex F H) : New F H F H := ⟨.rf, .rf, e, fun _ _ h => .inl h⟩
theorem New.tr {F H F1 H1 F2 H2 : Hp} (a : New F H F1 H1) (b : New F1 H1 F2 H2) : New F H F2 H2 :=
  ⟨a.f.tr b.f, a.h.tr b.h, b.i, fun x o h => by
    rcases b.n x o h with q | q
    · exact a.n x o q
    · exact .inr (a.h.free q)⟩
theorem New.upd {F H : Hp} {p : Addr} {o : HO} (e : Ex F H) (h : H p = none) : New F H (upd F p o) (L2.upd H p o) :=
  ⟨.new (e.free h), .new h, e.upd2, fun a u q => by
    by_cases z : a = p
    · subst z; exact .inr h
    · rw [upd_ne z] at q; exact .inl q⟩
/-- the heap grows without being frozen -/
theorem New.grow {F H H' : Hp} (e : Ex F H) (h : Ex H H') : New F H F H' := ⟨.rf, h, e.tr h, fun _ _ q => .inl q⟩
section
variable {K : PySem.W.Frag} {e : En} {g g' : Gm} {T T' : Tm} {l l' : List Res} {σ σ' : St} {H H' F F' M M' : Hp}
theorem At.new (a : At K e g T l σ H F M) (n : New F H F' H') : At K e g T l σ H' F' M :=
  ⟨n.i, a.exM.tr n.h, fun x o h => by
    rcases n.n x o h with q | q
    · exact a.dj x o q
    · exact a.exM.free q,
   a.eF.tr n.f, fun x o h => by
    rcases n.n x o h with q | q
    · exact a.nF x o q
    · by_cases z : e.M x = none
      · right; left
        cases w : e.H x with
        | none => rfl
        | some u => rw [a.fr x u w z] at q; cases q
      · right; right
        cases w : e.M x with
        | none => exact absurd w z
        | some u => exact ⟨u, rfl⟩,
   a.nM, fun x o h1 h2 => n.h x o (a.fr x o h1 h2), a.sl.mono n.f, T.mono n.f a.tm, a.rs.mono n.f⟩
theorem At.tmp (a : At K e g T l σ H F M) (h : T'.P F) : At K e g T' l σ H F M := ⟨a.exF, a.exM, a.dj, a.eF, a.nF, a.nM, a.fr, a.sl, h, a.rs⟩
theorem At.slots (a : At K e g T l σ H F M) (h : Sl K F g' σ') : At K e g' T l σ' H F M := ⟨a.exF, a.exM, a.dj, a.eF, a.nF, a.nM, a.fr, h, a.tm, a.rs⟩
theorem At.entry (ef : Ex F H) (em : Ex M H) (d : Dj F M) (s : Sl K F g σ) (t : T.P F) (r : Rs l F M) : At K ⟨F, M, H⟩ g T l σ H F M :=
  ⟨ef, em, d, .rf, fun _ _ h => .inl h, fun _ o h => .inr ⟨o, h⟩, fun _ _ h _ => h, s, t, r⟩
/-- a part of the state apart: what runs on F, A (of M = join A B) gives back the whole -/
theorem At.frame {A B : Hp} {lA lB : List Res} (a : At K e g T l σ H F (join A B)) (d : Dj A B) (rB : Rs lB F B) {g2 : Gm} {σ2 : St} {T2 : Tm} {F2 M2 : Hp} (b : At K ⟨F, A, H⟩ g2 T2 lA σ2 H' F2 M2) :
    At K e g T (lA ++ lB) σ H' F2 (join M2 B) := by
  have eB : Ex B H' := fun x o h => b.fr x o (a.exM x o (by rw [join_r (d.sym x o h)]; exact h)) (d.sym x o h)
  have dB : Dj M2 B := fun x o h => by
    cases q : B x with
    | none => rfl
    | some u =>
      rcases b.nM x o h with z | ⟨w, z⟩
      · have := a.exM x u (by rw [join_r (d.sym x u q)]; exact q)
        rw [show H x = none from z] at this; cases this
      · rw [d x w z] at q; cases q
  refine ⟨b.exF, b.exM.join eB, ?_, a.eF.tr b.eF, ?_, ?_, ?_, a.sl.mono b.eF, T.mono b.eF a.tm, Rs.app b.rs (rB.mono b.eF) dB⟩
  · intro x o h
    cases q : join M2 B x with
    | none => rfl
    | some u =>
      rcases join_some q with z | ⟨_, z⟩
      · rw [b.dj x o h] at z; cases z
      · rcases b.nF x o h with w | w | ⟨w, y⟩
        · have := a.dj x o w
          rw [join_r (d.sym x u z), z] at this; cases this
        · have := a.exM x u (by rw [join_r (d.sym x u z)]; exact z)
          rw [show H x = none from w] at this; cases this
        · rw [d x w y] at z; cases z
  · intro x o h
    rcases b.nF x o h with w | w | ⟨w, y⟩
    · exact a.nF x o w
    · cases q : e.H x with
      | none => exact .inr (.inl rfl)
      | some u =>
        cases z : e.M x with
        | some y => exact .inr (.inr ⟨y, rfl⟩)
        | none =>
          have w' : H x = none := w
          rw [a.fr x u q z] at w'; cases w'
    · rcases a.nM x w (join_l y) with q | q
      · exact .inr (.inl q)
      · exact .inr (.inr q)
  · intro x o h
    rcases join_some h with z | ⟨_, z⟩
    · rcases b.nM x o z with w | ⟨w, y⟩
      · cases q : e.H x with
        | none => exact .inl rfl
        | some u =>
          cases k : e.M x with
          | some y => exact .inr ⟨y, rfl⟩
          | none =>
            have w' : H x = none := w
            rw [a.fr x u q k] at w'; cases w'
      · exact a.nM x w (join_l y)
    · exact a.nM x o (by rw [join_r (d.sym x o z)]; exact z)
  · intro x o h1 h2
    refine b.fr x o (a.fr x o h1 h2) ?_
    show A x = none
    cases q : A x with
    | none => rfl
    | some u =>
      rcases a.nM x u (join_l q) with z | ⟨w, z⟩
      · rw [h1] at z; cases z
      · rw [h2] at z; cases z
theorem S.weak (s : S K e g T l σ H) (w : Wk g g') : S K e g' T l σ H := let ⟨F, M, a⟩ := s; ⟨F, M, a.slots (a.sl.weak w)⟩
end
end Sx
set_option Elab.async false
set_option linter.all false
set_option maxRecDepth 100000
set_option maxHeartbeats 2000000
/-! Judgements: expressions, tests, arguments, blocks over states. -/
namespace Sx
open PySem L2

/-! ### the weakest readings -/
def wpE (X : Cx) (e : Expr) : TE := fun σ H Q => ∀ pins s, Inv X pins σ H s → wpAny (model X.prog X.w) X.A (eval e X.env) (EP X pins σ Q) X.xe s
def wpT (X : Cx) (e : Expr) : TT := fun σ H Q => ∀ pins s, Inv X pins σ H s → wpAny (model X.prog X.w) X.A (isTrue e X.env (eval e X.env)) (TP X pins σ Q) X.xe s
def wpW (X : Cx) (e : Expr) : TT := fun σ H Q => ∀ whole pins s, Inv X pins σ H s → wpAny (model X.prog X.w) X.A (isTrue e X.env whole) (TP X pins σ Q) X.xe s
def wpA (X : Cx) (es : List Expr) : TA := fun σ H Q => ∀ pos pins s, Inv X pins σ H s → wpAny (model X.prog X.w) X.A (spliced (backTo pos (starEach es X.env))) (AP X pins σ Q) X.xe s
def wpS (X : Cx) (sts : List Stmt) : TS := fun D σ H => ∀ pins s, Inv X pins σ H s → wpAny (model X.prog X.w) X.A (execs sts X.env) (SP X pins D) X.xe s
section
variable {X : Cx} {σ : L2.St} {H : Hp}
theorem pe_wp {e : Expr} : PE X e (wpE X e) := ⟨fun pins s _ _ _ I h => h pins s I⟩
theorem pt_wp {e : Expr} : PT X e (wpT X e) := ⟨fun pins s _ _ _ I h => h pins s I⟩
theorem pw_wp {e : Expr} : PW X e (wpW X e) := ⟨fun whole pins s _ _ _ I h => h whole pins s I⟩
theorem pa_wp {es : List Expr} : PA X es (wpA X es) := ⟨fun pos pins s _ _ _ I h => h pos pins s I⟩
theorem pss_wp {sts : List Stmt} : PSs X sts (wpS X sts) := ⟨fun pins s _ _ _ I h => h pins s I⟩
theorem wpE_of {e : Expr} {t : TE} {Q : VK} (h : PE X e t) (q : t σ H Q) : wpE X e σ H Q := fun pins s I => h.run pins s σ H Q I q
theorem wpT_of {e : Expr} {t : TT} {Q : Bool → Hp → Prop} (h : PT X e t) (q : t σ H Q) : wpT X e σ H Q := fun pins s I => h.run pins s σ H Q I q
theorem wpW_of {e : Expr} {t : TT} {Q : Bool → Hp → Prop} (h : PW X e t) (q : t σ H Q) : wpW X e σ H Q := fun whole pins s I => h.run whole pins s σ H Q I q
theorem wpA_of {es : List Expr} {t : TA} {Q : List V → Hp → Prop} (h : PA X es t) (q : t σ H Q) : wpA X es σ H Q := fun pos pins s I => h.run pos pins s σ H Q I q
theorem wpS_of {sts : List Stmt} {t : TS} {D : Ends} (h : PSs X sts t) (q : t D σ H) : wpS X sts D σ H := fun pins s I => h.run pins s σ H D I q
end

/-! ### judgements -/
/-- e evaluates to the datum d, changing nothing that is owned -/
def Px (X : Cx) (e : Expr) (g : Gm) (l : List Res) (d : D) : Prop := ∀ en T σ H (Q : VK), S X.K en g T l σ H → (∀ v H', S X.K en g (T.and X.K v d) l σ H' → Q v H') → wpE X e σ H Q
/-- e evaluates to one of the data that Psi tells, with what is owned then -/
def Ev (X : Cx) (e : Expr) (g : Gm) (l : List Res) (Psi : D → List Res → Prop) : Prop := ∀ en T σ H (Q : VK), S X.K en g T l σ H → (∀ v d l' H', Psi d l' → S X.K en g (T.and X.K v d) l' σ H' → Q v H') → wpE X e σ H Q
def Pa (X : Cx) (es : List Expr) (g : Gm) (l : List Res) (ds : List D) : Prop := ∀ en T σ H (Q : List V → Hp → Prop), S X.K en g T l σ H → (∀ vs H', S X.K en g (T.ands X.K vs ds) l σ H' → Q vs H') → wpA X es σ H Q
def Ts (X : Cx) (e : Expr) (g : Gm) (l : List Res) (b : Bool) : Prop := ∀ en T σ H (Q : Bool → Hp → Prop), S X.K en g T l σ H → (∀ H', S X.K en g T l σ H' → Q b H') → wpT X e σ H Q
def Tw (X : Cx) (e : Expr) (g : Gm) (l : List Res) (b : Bool) : Prop := ∀ en T σ H (Q : Bool → Hp → Prop), S X.K en g T l σ H → (∀ H', S X.K en g T l σ H' → Q b H') → wpW X e σ H Q
/-- operations on values -/
def Op1 (K : PySem.W.Frag) (l : List Res) (r : V → Hp → VK → Prop) (a d : D) : Prop := ∀ F M H v (Q : VK), Ex F H → Ex M H → Dj F M → Rs l F M → Fd K F v a → (∀ v F' H', New F H F' H' → Fd K F' v d → Q v H') → r v H Q
def Op2 (K : PySem.W.Frag) (l : List Res) (r : R2) (a b d : D) : Prop := ∀ F M H v u (Q : VK), Ex F H → Ex M H → Dj F M → Rs l F M → Fd K F v a → Fd K F u b → (∀ v F' H', New F H F' H' → Fd K F' v d → Q v H') → r v u H Q
def OpN (K : PySem.W.Frag) (l : List Res) (r : List V → Hp → VK → Prop) (as : List D) (d : D) : Prop := ∀ F M H vs (Q : VK), Ex F H → Ex M H → Dj F M → Rs l F M → FdAll K F vs as → (∀ v F' H', New F H F' H' → Fd K F' v d → Q v H') → r vs H Q
def OpM (K : PySem.W.Frag) (l : List Res) (r : V → List V → Hp → VK → Prop) (a : D) (as : List D) (d : D) : Prop := ∀ F M H v vs (Q : VK), Ex F H → Ex M H → Dj F M → Rs l F M → Fd K F v a → FdAll K F vs as → (∀ v F' H', New F H F' H' → Fd K F' v d → Q v H') → r v vs H Q

/-- what is wanted behind a block -/
structure Po where
  nx : Gm → List Res → Prop
  rt : D → List Res → Prop
  bk : Gm → List Res → Prop := fun _ _ => False
  ct : Gm → List Res → Prop := fun _ _ => False
  ex : Value → Option Addr → Gm → List Res → Prop := fun _ _ _ _ => False
structure Mt (K : PySem.W.Frag) (W : L2.WX) (en : En) (T : Tm) (Φ : Po) (D : Ends) : Prop where
  nx : ∀ g l σ H, Φ.nx g l → S K en g T l σ H → D.nx σ H
  rt : ∀ d l v H, Φ.rt d l → S K en [] (T.and K v d) l [] H → D.rt v H
  bk : ∀ g l σ H, Φ.bk g l → S K en g T l σ H → D.bk σ H
  ct : ∀ g l σ H, Φ.ct g l → S K en g T l σ H → D.ct σ H
  ex : ∀ cls d g l σ H, Φ.ex cls d g l → S K en g T l σ H → W cls d σ H
def Blk (X : Cx) (W : WX) (sts : List Stmt) (g : Gm) (l : List Res) (Φ : Po) : Prop := ∀ en T σ H D, S X.K en g T l σ H → Mt X.K W en T Φ D → wpS X sts D σ H

section
variable {X : Cx} {W : WX} {g g' : Gm} {l l' : List Res} {Φ : Po} {e e2 a b c o : Expr} {es : List Expr} {d d1 d2 d3 : D} {pos p : Pos}

theorem Tm.and_of {K : PySem.W.Frag} {T : Tm} {v : V} {d : D} {F : Hp} (h : (T.and K v d).P F) : Fd K F v d ∧ T.P F := h
theorem S.drop {K : PySem.W.Frag} {en : En} {T : Tm} {σ : L2.St} {H : Hp} {v : V} {d : D} (s : S K en g (T.and K v d) l σ H) : S K en g T l σ H := let ⟨F, M, a⟩ := s; ⟨F, M, a.tmp a.tm.2⟩
theorem S.slotless {K : PySem.W.Frag} {en : En} {T : Tm} {σ : L2.St} {H : Hp} (s : S K en g T l σ H) : S K en [] T l [] H := let ⟨F, M, a⟩ := s; ⟨F, M, a.slots .nil⟩

/-! ### expressions -/
theorem px_var {i : Nat} (h : PE X e (tVar i)) (hd : nth g i = some d) : Px X e g l d := fun en T σ H Q s k => wpE_of h (by
  obtain ⟨F, M, a⟩ := s
  obtain ⟨v, h1, h2⟩ := a.sl.nth hd
  exact ⟨v, h1, k v H ⟨F, M, a.tmp ⟨h2, a.tm⟩⟩⟩)
theorem px_c {v : V} (h : PE X e (tC v)) (hd : ∀ F, Fd X.K F v d) : Px X e g l d := fun en T σ H Q s k => wpE_of h (by
  obtain ⟨F, M, a⟩ := s
  exact k v H ⟨F, M, a.tmp ⟨hd F, a.tm⟩⟩)
theorem px_int {i : Int} {j} : Px X (.Constant (.int i) j pos) g l (.int i) := px_c pe_int fun _ => .int _
theorem px_bl {b : Bool} {j} : Px X (.Constant (.bool b) j pos) g l (.bl b) := px_c pe_bl fun _ => .bl _
theorem px_non {j} : Px X (.Constant .none j pos) g l .non := px_c pe_non fun _ => .non
theorem px_str {x : Str} {j} : Px X (.Constant (.str x) j pos) g l (.str x) := px_c pe_str fun _ => .str _
theorem Px.to (h : Px X e g l d) (q : d = d1) : Px X e g l d1 := q ▸ h
theorem Px.ev (h : Px X e g l d) : Ev X e g l (fun d' l' => d' = d ∧ l' = l) := fun en T σ H Q s k => h en T σ H Q s fun v H' s' => k v d l H' ⟨rfl, rfl⟩ s'
theorem Ev.imp {Psi Chi : D → List Res → Prop} (h : Ev X e g l Psi) (i : ∀ d l', Psi d l' → Chi d l') : Ev X e g l Chi := fun en T σ H Q s k => h en T σ H Q s fun v d l' H' p s' => k v d l' H' (i _ _ p) s'
theorem Ev.px (h : Ev X e g l (fun d' l' => d' = d ∧ l' = l)) : Px X e g l d := fun en T σ H Q s k => h en T σ H Q s fun v d' l' H' p s' => k v H' (by obtain ⟨rfl, rfl⟩ := p; exact s')
theorem px_1 {r : V → Hp → VK → Prop} (he : PE X e2 (tUn r (wpE X a))) (hr : Op1 X.K l r d1 d) (ha : Px X a g l d1) : Px X e2 g l d := fun en T σ H Q s k => wpE_of he (by
  refine ha en T σ H _ s fun v H1 s1 => ?_
  obtain ⟨F, M, q⟩ := s1
  exact hr F M H1 v Q q.exF q.exM q.dj q.rs q.tm.1 fun u F' H' n f => k u H' ⟨F', M, (q.new n).tmp ⟨f, T.mono n.f q.tm.2⟩⟩)
theorem px_2 {r : R2} (he : PE X e2 (tOp r (wpE X a) (wpE X b))) (hr : Op2 X.K l r d1 d2 d) (ha : Px X a g l d1) (hb : Px X b g l d2) : Px X e2 g l d := fun en T σ H Q s k => wpE_of he (by
  refine ha en T σ H _ s fun v H1 s1 => ?_
  refine hb en _ σ H1 _ s1 fun u H2 s2 => ?_
  obtain ⟨F, M, q⟩ := s2
  exact hr F M H2 v u Q q.exF q.exM q.dj q.rs q.tm.2.1 q.tm.1 fun w F' H' n f => k w H' ⟨F', M, (q.new n).tmp ⟨f, T.mono n.f q.tm.2.2⟩⟩)
theorem px_op {op : Operator} {r : R2} (ho : OpR X (binaryOp op) r) (ha : Px X a g l d1) (hb : Px X b g l d2) (hr : Op2 X.K l r d1 d2 d) : Px X (.BinOp a op b pos) g l d := px_2 (pe_op ho pe_wp pe_wp) hr ha hb
theorem px_un {op : UnaryOp} {r : V → Hp → VK → Prop} (ho : UnR X (unaryOp op) r) (ha : Px X a g l d1) (hr : Op1 X.K l r d1 d) : Px X (.UnaryOp op a pos) g l d := px_1 (pe_un ho pe_wp) hr ha
theorem px_cmp {op : CmpOp} {r : R2} (ho : OpR X (compareOp op) r) (ha : Px X a g l d1) (hb : Px X b g l d2) (hr : Op2 X.K l r d1 d2 d) (hm : behindInMarks op b = false := by first | exact nomark _ | rfl) : Px X (.Compare a [op] [b] pos) g l d := px_2 (pe_cmpR ho pe_wp pe_wp hm) hr ha hb
theorem px_ix {r : R2} (hi : IxR X r) (ha : Px X a g l d1) (hb : Px X b g l d2) (hr : Op2 X.K l r d1 d2 d) (hs : PlainIx b := by intro _ _; rfl) : Px X (.Subscript a b pos) g l d := px_2 (pe_ix hi pe_wp pe_wp hs) hr ha hb
theorem px_chain {op op' : CmpOp} {r r' : R2} {k k' : Bool} (ho : OpR X (compareOp op) r) (ho' : OpR X (compareOp op') r') (ha : Px X a g l d1) (hb : Px X b g l d2) (hr : Op2 X.K l r d1 d2 (.bl k)) (hc : Px X c g l d3) (hr' : k = true → Op2 X.K l r' d2 d3 (.bl k'))
    (hm : lastMarks [op, op'] [b, c] = false := by with_unfolding_all rfl) : Px X (.Compare a [op, op'] [b, c] pos) g l (.bl (k && k')) := fun en T σ H Q s kk => wpE_of (pe_chain ho ho' pe_wp pe_wp pe_wp hm) (by
  refine ha en T σ H _ s fun v H1 s1 => ?_
  refine hb en _ σ H1 _ s1 fun u H2 s2 => ?_
  obtain ⟨F, M, q⟩ := s2
  refine hr F M H2 v u _ q.exF q.exM q.dj q.rs q.tm.2.1 q.tm.1 fun w F' H' n f => ?_
  cases f
  refine ⟨k, rfl, ?_⟩
  have q' := q.new n
  cases k with
  | false => exact kk _ H' ⟨F', M, q'.tmp ⟨.bl _, T.mono n.f q.tm.2.2⟩⟩
  | true =>
    show wpE X c σ H' _
    refine hc en _ σ H' _ ⟨F', M, q'⟩ fun w H3 s3 => ?_
    obtain ⟨F3, M3, q3⟩ := s3
    exact hr' rfl F3 M3 H3 u w Q q3.exF q3.exM q3.dj q3.rs q3.tm.2.1 q3.tm.1 fun w F' H' n f => kk w H' ⟨F', M3, (q3.new n).tmp ⟨f, T.mono n.f q3.tm.2.2.2⟩⟩)
/-- a new list, frozen; a new tuple -/
theorem px_lst {ds : List D} (h : Pa X es g l ds) (hz : ds.length ≤ sizeLine := by first | decide | exact Nat.le_of_ble_eq_true rfl) : Px X (.List es pos) g l (.lst ds) := fun en T σ H Q s k => wpE_of (pe_lst pa_wp) (by
  refine h en T σ H _ s fun vs H1 s1 => ?_
  obtain ⟨F, M, q⟩ := s1
  refine ⟨by rw [q.tm.1.length]; exact hz, fun p hp => ?_⟩
  have n := New.upd (o := .lst vs) q.exF hp
  exact k _ _ ⟨_, M, (q.new n).tmp ⟨.lst upd_same (FdAll.mono n.f _ q.tm.1), T.mono n.f q.tm.2⟩⟩)
theorem px_tup {ds : List D} {x1} (h : Pa X es g l ds) (hz : ds.length ≤ sizeLine := by first | decide | exact Nat.le_of_ble_eq_true rfl) : Px X (.Tuple es x1 pos) g l (.tup ds) := fun en T σ H Q s k => wpE_of (pe_tup pa_wp) (by
  refine h en T σ H _ s fun vs H1 s1 => ?_
  obtain ⟨F, M, q⟩ := s1
  refine ⟨by rw [q.tm.1.length]; exact hz, fun p hp => ?_⟩
  have n := New.upd (o := .tup vs) q.exF hp
  exact k _ _ ⟨_, M, (q.new n).tmp ⟨.tup (SqT.of upd_same) (FdAll.mono n.f _ q.tm.1), T.mono n.f q.tm.2⟩⟩)
theorem pa_n : Pa X [] g l [] := fun en T σ H Q s k => wpA_of pa_nil (by
  obtain ⟨F, M, a⟩ := s
  exact k [] H ⟨F, M, a.tmp ⟨.nil, a.tm⟩⟩)
theorem pa_c {ds : List D} (he : Px X e g l d) (h : Pa X es g l ds) (hs : starEach (e :: es) X.env = (false, eval e X.env) :: starEach es X.env := by rfl) : Pa X (e :: es) g l (d :: ds) := fun en T σ H Q s k => wpA_of (pa_cons pe_wp pa_wp hs) (by
  refine he en T σ H _ s fun v H1 s1 => ?_
  refine h en _ σ H1 _ s1 fun vs H2 s2 => ?_
  obtain ⟨F, M, a⟩ := s2
  exact k _ H2 ⟨F, M, a.tmp ⟨.cons a.tm.2.1 a.tm.1, a.tm.2.2⟩⟩)
/-- e if c else e' -/
theorem px_if {k : Bool} (hc : Ts X c g l k) (ha : k = true → Px X a g l d1) (hb : k = false → Px X b g l d2) : Px X (.IfExp c a b pos) g l (if k = true then d1 else d2) := fun en T σ H Q s kk => wpE_of (pe_ifExp pt_wp pe_wp pe_wp) (by
  refine hc en T σ H _ s fun H1 s1 => ?_
  cases k with
  | true => exact ha rfl en T σ H1 Q s1 kk
  | false => exact hb rfl en T σ H1 Q s1 kk)
theorem px_and {rest : List Expr} {k k' : Bool} (ha : Px X a g l (.bl k)) (hb : k = true → Px X (.BoolOp .And (b :: rest) pos) g l (.bl k')) : Px X (.BoolOp .And (a :: b :: rest) pos) g l (.bl (k && k')) := fun en T σ H Q s kk => wpE_of (pe_and pe_wp pe_wp) (by
  refine ha en T σ H _ s fun v H1 s1 => ?_
  obtain ⟨F, M, q⟩ := s1
  have f := q.tm.1
  cases f
  refine ⟨k, rfl, ?_⟩
  cases k with
  | true => exact hb rfl en T σ H1 Q ⟨F, M, q.tmp q.tm.2⟩ kk
  | false => exact kk _ H1 ⟨F, M, q⟩)
theorem px_or {rest : List Expr} {k k' : Bool} (ha : Px X a g l (.bl k)) (hb : k = false → Px X (.BoolOp .Or (b :: rest) pos) g l (.bl k')) : Px X (.BoolOp .Or (a :: b :: rest) pos) g l (.bl (k || k')) := fun en T σ H Q s kk => wpE_of (pe_or pe_wp pe_wp) (by
  refine ha en T σ H _ s fun v H1 s1 => ?_
  obtain ⟨F, M, q⟩ := s1
  have f := q.tm.1
  cases f
  refine ⟨k, rfl, ?_⟩
  cases k with
  | false => exact hb rfl en T σ H1 Q ⟨F, M, q.tmp q.tm.2⟩ kk
  | true => exact kk _ H1 ⟨F, M, q⟩)
theorem px_one {op} (h : Px X a g l d) : Px X (.BoolOp op [a] pos) g l d := fun en T σ H Q s k => wpE_of (pe_one pe_wp) (h en T σ H Q s k)
theorem px_not {k : Bool} (h : Px X a g l (.bl k)) : Px X (.UnaryOp .Not a pos) g l (.bl (!k)) := fun en T σ H Q s kk => wpE_of (pe_not pe_wp) (by
  refine h en T σ H _ s fun v H1 s1 => ?_
  obtain ⟨F, M, q⟩ := s1
  have f := q.tm.1
  cases f
  exact ⟨k, rfl, kk _ H1 ⟨F, M, q.tmp ⟨.bl _, q.tm.2⟩⟩⟩)
/-- an attribute of a frozen instance -/
theorem px_fld {C : Addr} {fs : List (Str × D)} {f : Str} (ho : Px X o g l (.ins C fs)) (hc : Cls X.K C) (hn : NoAttr X.K C f) (hl : fs.lookup f = some d) (hb : attributeBase o f X.env (eval o X.env) = eval o X.env := by rfl) : Px X (.Attribute o f pos) g l d := fun en T σ H Q s k => wpE_of (pe_fld pe_wp hb) (by
  refine ho en T σ H _ s fun v H1 s1 => ?_
  obtain ⟨F, M, q⟩ := s1
  obtain ⟨hf, ht⟩ := q.tm
  cases hf with
  | ins h1 h2 =>
    obtain ⟨v, e1, e2⟩ := h2.look hl
    exact ⟨_, C, _, _, v, rfl, q.exF _ _ h1, hc, hn, e1, k v H1 ⟨F, M, q.tmp ⟨e2, ht⟩⟩⟩)
/-! ### calls of what is built in -/
theorem px_b {r : List V → Hp → VK → Prop} {ds : List D} (he : PE X e2 (tCB r (wpA X es))) (hr : OpN X.K l r ds d) (ha : Pa X es g l ds) : Px X e2 g l d := fun en T σ H Q s k => wpE_of he (by
  refine ha en T σ H _ s fun vs H1 s1 => ?_
  obtain ⟨F, M, q⟩ := s1
  exact hr F M H1 vs Q q.exF q.exM q.dj q.rs q.tm.1 fun u F' H' n f => k u H' ⟨F', M, (q.new n).tmp ⟨f, T.mono n.f q.tm.2⟩⟩)
theorem px_m {r : V → List V → Hp → VK → Prop} {Tn : String} {ds : List D} (he : PE X e2 (tBM X.K Tn r (wpE X o) (wpA X es))) (ho : Px X o g l d1) (ha : Pa X es g l ds) (hr : OpM X.K l r d1 ds d)
    (ht : ∀ F M H v, Ex F H → Ex M H → Dj F M → Rs l F M → Fd X.K F v d1 → tyV X.K Tn v H) : Px X e2 g l d := fun en T σ H Q s k => wpE_of he (by
  refine ho en T σ H _ s fun v H1 s1 => ?_
  have s1' := s1
  obtain ⟨F, M, q⟩ := s1
  refine ⟨ht F M H1 v q.exF q.exM q.dj q.rs q.tm.1, ?_⟩
  refine ha en _ σ H1 _ s1' fun vs H2 s2 => ?_
  obtain ⟨F, M, q⟩ := s2
  exact hr F M H2 v vs Q q.exF q.exM q.dj q.rs q.tm.2.1 q.tm.1 fun u F' H' n f => k u H' ⟨F', M, (q.new n).tmp ⟨f, T.mono n.f q.tm.2.2⟩⟩)
/-! ### tests -/
theorem ts_val {k : Bool} (h : Px X e g l (.bl k)) (he : ∀ whole, isTrue e X.env whole = (do let v ← whole; standAt e.pos; holding [v] (truthy v)) := by intro _; rfl) : Ts X e g l k := fun en T σ H Q s kk => wpT_of (pt_val pe_wp he) (by
  refine h en T σ H _ s fun v H1 s1 => ?_
  obtain ⟨F, M, q⟩ := s1
  have f := q.tm.1
  cases f
  exact ⟨k, rfl, kk H1 ⟨F, M, q.tmp q.tm.2⟩⟩)
theorem ts_cmp {op : CmpOp} {r : R2} {k : Bool} (ho : OpR X (compareOp op) r) (ha : Px X a g l d1) (hb : Px X b g l d2) (hr : Op2 X.K l r d1 d2 (.bl k)) (hm : behindInMarks op b = false := by first | exact nomark _ | rfl) : Ts X (.Compare a [op] [b] pos) g l k := fun en T σ H Q s kk => wpT_of (pt_cmpR ho pe_wp pe_wp hm) (by
  refine ha en T σ H _ s fun v H1 s1 => ?_
  refine hb en _ σ H1 _ s1 fun u H2 s2 => ?_
  obtain ⟨F, M, q⟩ := s2
  refine hr F M H2 v u _ q.exF q.exM q.dj q.rs q.tm.2.1 q.tm.1 fun w F' H' n f => ?_
  cases f
  exact ⟨k, rfl, kk H' ⟨F', M, (q.new n).tmp (T.mono n.f q.tm.2.2)⟩⟩)
theorem ts_chain {op op' : CmpOp} {r r' : R2} {k k' : Bool} (ho : OpR X (compareOp op) r) (ho' : OpR X (compareOp op') r') (ha : Px X a g l d1) (hb : Px X b g l d2) (hr : Op2 X.K l r d1 d2 (.bl k)) (hc : Px X c g l d3) (hr' : k = true → Op2 X.K l r' d2 d3 (.bl k'))
    (hm : lastMarks [op, op'] [b, c] = false := by with_unfolding_all rfl) : Ts X (.Compare a [op, op'] [b, c] pos) g l (k && k') := fun en T σ H Q s kk => wpT_of (pt_chain ho ho' pe_wp pe_wp pe_wp hm) (by
  refine ha en T σ H _ s fun v H1 s1 => ?_
  refine hb en _ σ H1 _ s1 fun u H2 s2 => ?_
  obtain ⟨F, M, q⟩ := s2
  refine hr F M H2 v u _ q.exF q.exM q.dj q.rs q.tm.2.1 q.tm.1 fun w F' H' n f => ?_
  cases f
  refine ⟨k, rfl, ?_⟩
  have q' := q.new n
  cases k with
  | false => exact ⟨false, rfl, kk H' ⟨F', M, q'.tmp (T.mono n.f q.tm.2.2)⟩⟩
  | true =>
    show wpE X c σ H' _
    refine hc en _ σ H' _ ⟨F', M, q'⟩ fun w H3 s3 => ?_
    obtain ⟨F3, M3, q3⟩ := s3
    refine hr' rfl F3 M3 H3 u w _ q3.exF q3.exM q3.dj q3.rs q3.tm.2.1 q3.tm.1 fun w F' H' n f => ?_
    cases f
    exact ⟨k', rfl, kk H' ⟨F', M3, (q3.new n).tmp (T.mono n.f q3.tm.2.2.2)⟩⟩)
theorem ts_not {k : Bool} (h : Ts X a g l k) : Ts X (.UnaryOp .Not a pos) g l (!k) := fun en T σ H Q s kk => wpT_of (pt_not pt_wp) (h en T σ H _ s kk)
theorem tw_and1 {k : Bool} (h : Ts X a g l k) : Tw X (.BoolOp .And [a] pos) g l k := fun en T σ H Q s kk => wpW_of (pw_and1 pt_wp) (h en T σ H _ s kk)
theorem tw_or1 {k : Bool} (h : Ts X a g l k) : Tw X (.BoolOp .Or [a] pos) g l k := fun en T σ H Q s kk => wpW_of (pw_or1 pt_wp) (h en T σ H _ s kk)
theorem tw_and {rest : List Expr} {k k' : Bool} (ha : Ts X a g l k) (hb : k = true → Tw X (.BoolOp .And (b :: rest) pos) g l k') : Tw X (.BoolOp .And (a :: b :: rest) pos) g l (k && k') := fun en T σ H Q s kk => wpW_of (pw_and pt_wp pw_wp) (by
  refine ha en T σ H _ s fun H1 s1 => ?_
  cases k with
  | true => exact hb rfl en T σ H1 _ s1 kk
  | false => exact kk H1 s1)
theorem tw_or {rest : List Expr} {k k' : Bool} (ha : Ts X a g l k) (hb : k = false → Tw X (.BoolOp .Or (b :: rest) pos) g l k') : Tw X (.BoolOp .Or (a :: b :: rest) pos) g l (k || k') := fun en T σ H Q s kk => wpW_of (pw_or pt_wp pw_wp) (by
  refine ha en T σ H _ s fun H1 s1 => ?_
  cases k with
  | false => exact hb rfl en T σ H1 _ s1 kk
  | true => exact kk H1 s1)
theorem ts_w {k : Bool} (h : Tw X e g l k) : Ts X e g l k := fun en T σ H Q s kk => wpT_of (pw_wp).pt (h en T σ H _ s kk)
theorem Ts.to {k k' : Bool} (h : Ts X e g l k) (q : k = k') : Ts X e g l k' := q ▸ h

/-! ### blocks -/
theorem Blk.imp {Ψ : Po} {sts : List Stmt} (h : Blk X W sts g l Φ) (n : ∀ g l, Φ.nx g l → Ψ.nx g l) (r : ∀ d l, Φ.rt d l → Ψ.rt d l) (b : ∀ g l, Φ.bk g l → Ψ.bk g l) (c : ∀ g l, Φ.ct g l → Ψ.ct g l) (x : ∀ c d g l, Φ.ex c d g l → Ψ.ex c d g l) : Blk X W sts g l Ψ := fun en T σ H D s m =>
  h en T σ H D s ⟨fun g l σ H p => m.nx g l σ H (n _ _ p), fun d l v H p => m.rt d l v H (r _ _ p), fun g l σ H p => m.bk g l σ H (b _ _ p), fun g l σ H p => m.ct g l σ H (c _ _ p), fun c d g l σ H p => m.ex c d g l σ H (x _ _ _ _ p)⟩
theorem Blk.weak {sts : List Stmt} (w : Wk g g') (h : Blk X W sts g' l Φ) : Blk X W sts g l Φ := fun en T σ H D s m => h en T σ H D (s.weak w) m
theorem blk_nil (h : Φ.nx g l) : Blk X W [] g l Φ := fun en T σ H D s m => wpS_of pss_nil (m.nx g l σ H h s)
variable {rest : List Stmt}
theorem blk_ret (he : Px X e g l d) (h : Φ.rt d l) : Blk X W (.Return (some e) pos :: rest) g l Φ := fun en T σ H D s m => wpS_of (pss_cons (ps_ret pe_wp) pss_wp) (he en T σ H _ s fun v H' s' => m.rt d l v H' h s'.slotless)
theorem blk_retX {Psi : D → List Res → Prop} (he : Ev X e g l Psi) (h : ∀ d l', Psi d l' → Φ.rt d l') : Blk X W (.Return (some e) pos :: rest) g l Φ := fun en T σ H D s m => wpS_of (pss_cons (ps_ret pe_wp) pss_wp) (he en T σ H _ s fun v d l' H' p s' => m.rt d l' v H' (h d l' p) s'.slotless)
theorem blk_retN (h : Φ.rt .non l) : Blk X W (.Return none pos :: rest) g l Φ := fun en T σ H D s m => wpS_of (pss_cons ps_retN pss_wp) (by
  obtain ⟨F, M, a⟩ := s
  exact m.rt .non l _ H h ⟨F, M, (a.tmp (T' := T.and X.K .non .non) ⟨.non, a.tm⟩).slots .nil⟩)
theorem blk_brk (h : Φ.bk g l) : Blk X W (.Break pos :: rest) g l Φ := fun en T σ H D s m => wpS_of (pss_cons ps_break pss_wp) (m.bk g l σ H h s)
theorem blk_cont (h : Φ.ct g l) : Blk X W (.Continue pos :: rest) g l Φ := fun en T σ H D s m => wpS_of (pss_cons ps_continue pss_wp) (m.ct g l σ H h s)
theorem blk_pass (h : Blk X W rest g l Φ) : Blk X W (.Pass pos :: rest) g l Φ := fun en T σ H D s m => wpS_of (pss_cons ps_pass pss_wp) (h en T σ H D s m)
theorem Mt.seq {K : PySem.W.Frag} {en : En} {T : Tm} {D : Ends} (m : Mt K W en T Φ D) {nx : Gm → List Res → Prop} {n : St → Hp → Prop} (h : ∀ g l σ H, nx g l → S K en g T l σ H → n σ H) : Mt K W en T { Φ with nx := nx } { D with nx := n } := ⟨h, m.rt, m.bk, m.ct, m.ex⟩
theorem blk_if {k : Bool} {A B : List Stmt} (hc : Ts X c g l k) (h1 : k = true → Blk X W A g l { Φ with nx := fun g' l' => Blk X W rest g' l' Φ }) (h2 : k = false → Blk X W B g l { Φ with nx := fun g' l' => Blk X W rest g' l' Φ }) : Blk X W (.If c A B pos :: rest) g l Φ := fun en T σ H D s m =>
  wpS_of (pss_cons (ps_if pt_wp pss_wp pss_wp) pss_wp) (by
    refine hc en T σ H _ s fun H1 s1 => ?_
    have mm : Mt X.K W en T { Φ with nx := fun g' l' => Blk X W rest g' l' Φ } { D with nx := wpS X rest D } := m.seq fun g' l' σ' H' p s' => p en T σ' H' D s' m
    cases k with
    | true => exact h1 rfl en T σ H1 _ s1 mm
    | false => exact h2 rfl en T σ H1 _ s1 mm)
/-- .. the ways meet at Mid -/
theorem blk_ifJ {k : Bool} {A B : List Stmt} (Mid : Gm → List Res → Prop) (hc : Ts X c g l k) (h1 : k = true → Blk X W A g l { Φ with nx := Mid }) (h2 : k = false → Blk X W B g l { Φ with nx := Mid }) (hm : ∀ g' l', Mid g' l' → Blk X W rest g' l' Φ) : Blk X W (.If c A B pos :: rest) g l Φ :=
  blk_if hc (fun e => (h1 e).imp (fun g' l' p => hm g' l' p) (fun _ _ p => p) (fun _ _ p => p) (fun _ _ p => p) (fun _ _ _ _ p => p)) (fun e => (h2 e).imp (fun g' l' p => hm g' l' p) (fun _ _ p => p) (fun _ _ p => p) (fun _ _ p => p) (fun _ _ _ _ p => p))
theorem blk_expr {Psi : D → List Res → Prop} (he : Ev X e g l Psi) (h : ∀ d l', Psi d l' → Blk X W rest g l' Φ) (hs : swapsWith e none pos.line X.env = pure false := by rfl) : Blk X W (.Expr e pos :: rest) g l Φ := fun en T σ H D s m => wpS_of (pss_cons (ps_expr pe_wp hs) pss_wp) (he en T σ H _ s fun v d l' H' p s' => h d l' p en T σ H' D s'.drop m)
theorem blk_set {i : Nat} {x : Str} {pos' : Pos} (hN : X.N.Nodup) (hi : X.N[i]? = some x) (hx : Loc X.env.scope x) (he : Px X e g l d) (h : Blk X W rest (g.set i (some d)) l Φ) (hs : swapsWith e (some (.Name x pos')) pos.line X.env = pure false := by rfl) (hf : X.fn x = true ∨ X.env.scope.names.lookup x = some .local := by first | exact .inl rfl | exact .inr rfl | assumption) :
    Blk X W (.Assign [.Name x pos'] e pos :: rest) g l Φ := fun en T σ H D s m => wpS_of (pss_cons (ps_set hN hi hx pe_wp hs hf) pss_wp) (he en T σ H _ s fun v H' s' => by
      obtain ⟨F, M, a⟩ := s'
      exact h en T (σ.set i (some v)) H' D ⟨F, M, (a.tmp a.tm.2).slots (a.sl.set i a.tm.1)⟩ m)
theorem blk_setX {Psi : D → List Res → Prop} {i : Nat} {x : Str} {pos' : Pos} (hN : X.N.Nodup) (hi : X.N[i]? = some x) (hx : Loc X.env.scope x) (he : Ev X e g l Psi) (h : ∀ d l', Psi d l' → Blk X W rest (g.set i (some d)) l' Φ) (hs : swapsWith e (some (.Name x pos')) pos.line X.env = pure false := by rfl) (hf : X.fn x = true ∨ X.env.scope.names.lookup x = some .local := by first | exact .inl rfl | exact .inr rfl | assumption) :
    Blk X W (.Assign [.Name x pos'] e pos :: rest) g l Φ := fun en T σ H D s m => wpS_of (pss_cons (ps_set hN hi hx pe_wp hs hf) pss_wp) (he en T σ H _ s fun v d l' H' p s' => by
      obtain ⟨F, M, a⟩ := s'
      exact h d l' p en T (σ.set i (some v)) H' D ⟨F, M, (a.tmp a.tm.2).slots (a.sl.set i a.tm.1)⟩ m)
/-- what the proof never comes to -/
theorem blk_absurd {sts : List Stmt} (h : False) : Blk X W sts g l Φ := h.elim
end

/-! ### owned lists, instances -/
def ownL (K : PySem.W.Frag) (p : Addr) (ds : List D) : Res := ⟨fun F M => ∃ vs, FdAll K F vs ds ∧ M = one p (.lst vs), fun e ⟨vs, h, m⟩ => ⟨vs, FdAll.mono e _ h, m⟩⟩
def ownI (K : PySem.W.Frag) (p C : Addr) (fs : List (Str × D)) : Res := ⟨fun F M => ∃ vs dx, dx ≠ p ∧ FdFs K F vs fs ∧ M = join (one p (.ins C dx vs)) (one dx (.own p)), fun e ⟨vs, dx, n, h, m⟩ => ⟨vs, dx, n, FdFs.mono e _ h, m⟩⟩
section
variable {K : PySem.W.Frag} {F H M : Hp} {l : List Res}
theorem Rs.own {k : Nat} {p : Addr} {ds : List D} (h : Rs l F M) (e : l[k]? = some (ownL K p ds)) (m : Ex M H) : ∃ vs, FdAll K F vs ds ∧ H p = some (.lst vs) := by
  obtain ⟨A, B, rfl, dj, ⟨vs, f, rfl⟩, _⟩ := Rs.at e h
  exact ⟨vs, f, m p _ (join_l one_same)⟩
theorem Rs.ins {k : Nat} {p C : Addr} {fs : List (Str × D)} (h : Rs l F M) (e : l[k]? = some (ownI K p C fs)) (m : Ex M H) : ∃ dx vs, FdFs K F vs fs ∧ H p = some (.ins C dx vs) := by
  obtain ⟨A, B, rfl, dj, ⟨vs, dx, n, f, rfl⟩, _⟩ := Rs.at e h
  exact ⟨dx, vs, f, m p _ (join_l (join_l one_same))⟩
variable {en : En} {g : Gm} {T : Tm} {σ : L2.St}
/-- an owned list is written -/
theorem At.putL {k : Nat} {p : Addr} {ds ds' : List D} {vs' : List V} (a : At K en g T l σ H F M) (e : l[k]? = some (ownL K p ds)) (f : FdAll K F vs' ds') : ∃ M', At K en g T (l.set k (ownL K p ds')) σ (upd H p (.lst vs')) F M' := by
  obtain ⟨A, B, rfl, dj, ⟨vs, f0, rfl⟩, put⟩ := Rs.at e a.rs
  have hp : H p = some (.lst vs) := a.exM p _ (join_l one_same)
  have hF : F p = none := a.dj.sym p (.lst vs) (join_l one_same)
  have dB : ∀ u, Dj (one p u) B := fun u x o h => by
    obtain ⟨rfl, _⟩ := one_some h
    exact dj x _ one_same
  have hB : B p = none := dj p _ one_same
  have pM : en.H p = none ∨ ∃ u, en.M p = some u := a.nM p _ (join_l one_same)
  refine ⟨join (one p (.lst vs')) B, a.exF.mut hF, ?_, ?_, a.eF, a.nF, ?_, ?_, a.sl, a.tm, put _ _ F .rf ⟨vs', f, rfl⟩ (dB _)⟩
  · intro x o h
    rcases join_some h with q | ⟨n, q⟩
    · obtain ⟨rfl, rfl⟩ := one_some q
      exact upd_same
    · have ne : x ≠ p := fun z => by rw [z, hB] at q; cases q
      rw [upd_ne ne]
      exact a.exM x o (by rw [join_r (one_ne ne)]; exact q)
  · intro x o h
    have ne : x ≠ p := fun z => by rw [z, hF] at h; cases h
    have := a.dj x o h
    rw [join_r (one_ne ne)] at this ⊢
    exact this
  · intro x o h
    rcases join_some h with q | ⟨n, q⟩
    · obtain ⟨rfl, rfl⟩ := one_some q
      exact pM
    · have ne : x ≠ p := fun z => by rw [z, hB] at q; cases q
      exact a.nM x o (by rw [join_r (one_ne ne)]; exact q)
  · intro x o h1 h2
    have ne : x ≠ p := fun z => by
      subst z
      rcases pM with q | ⟨u, q⟩
      · rw [h1] at q; cases q
      · rw [h2] at q; cases q
    rw [upd_ne ne]
    exact a.fr x o h1 h2
/-- an owned instance's attribute is written -/
theorem At.putI {k : Nat} {p C dx : Addr} {fs fs' : List (Str × D)} {vs vs' : List (Str × V)} (a : At K en g T l σ H F M) (e : l[k]? = some (ownI K p C fs)) (hp : H p = some (.ins C dx vs)) (f : FdFs K F vs' fs') : ∃ M', At K en g T (l.set k (ownI K p C fs')) σ (upd H p (.ins C dx vs')) F M' := by
  obtain ⟨A, B, rfl, dj, ⟨vs0, dx0, nd, f0, rfl⟩, put⟩ := Rs.at e a.rs
  have hp0 : H p = some (.ins C dx0 vs0) := a.exM p _ (join_l (join_l one_same))
  rw [hp] at hp0
  obtain ⟨rfl, rfl⟩ : dx = dx0 ∧ vs = vs0 := by injection hp0 with z; injection z with z1 z2 z3; exact ⟨z2, z3⟩
  have hF : F p = none := a.dj.sym p _ (join_l (join_l one_same))
  have dB : ∀ u, Dj (join (one p u) (one dx (.own p))) B := fun u x o h => by
    rcases join_some h with q | ⟨_, q⟩
    · obtain ⟨rfl, _⟩ := one_some q
      exact dj x _ (join_l one_same)
    · obtain ⟨rfl, _⟩ := one_some q
      exact dj x _ (by rw [join_r (one_ne nd)]; exact one_same)
  have hB : B p = none := dj p _ (join_l one_same)
  have pM : en.H p = none ∨ ∃ u, en.M p = some u := a.nM p _ (join_l (join_l one_same))
  refine ⟨join (join (one p (.ins C dx vs')) (one dx (.own p))) B, a.exF.mut hF, ?_, ?_, a.eF, a.nF, ?_, ?_, a.sl, a.tm, put _ _ F .rf ⟨vs', dx, nd, f, rfl⟩ (dB _)⟩
  · intro x o h
    rcases join_some h with q | ⟨n, q⟩
    · rcases join_some q with q | ⟨n, q⟩
      · obtain ⟨rfl, rfl⟩ := one_some q
        exact upd_same
      · obtain ⟨rfl, rfl⟩ := one_some q
        rw [upd_ne nd]
        exact a.exM x _ (join_l (by rw [join_r (one_ne nd)]; exact one_same))
    · have ne : x ≠ p := fun z => by rw [z, hB] at q; cases q
      rw [upd_ne ne]
      have nx : x ≠ dx := fun z => by
        rw [z, join_r (one_ne nd), one_same] at n; cases n
      exact a.exM x o (by rw [join_r (by rw [join_r (one_ne ne)]; exact one_ne nx)]; exact q)
  · intro x o h
    have ne : x ≠ p := fun z => by rw [z, hF] at h; cases h
    have := a.dj x o h
    obtain ⟨q1, q2⟩ := join_none this
    obtain ⟨q3, q4⟩ := join_none q1
    rw [join_r (by rw [join_r (one_ne ne)]; exact q4)]
    exact q2
  · intro x o h
    rcases join_some h with q | ⟨n, q⟩
    · rcases join_some q with q | ⟨n, q⟩
      · obtain ⟨rfl, rfl⟩ := one_some q
        exact pM
      · obtain ⟨rfl, rfl⟩ := one_some q
        exact a.nM x (.own p) (join_l (by rw [join_r (one_ne nd)]; exact one_same))
    · have ne : x ≠ p := fun z => by rw [z, hB] at q; cases q
      have nx : x ≠ dx := fun z => by
        rw [z, join_r (one_ne nd), one_same] at n; cases n
      exact a.nM x o (by rw [join_r (by rw [join_r (one_ne ne)]; exact one_ne nx)]; exact q)
  · intro x o h1 h2
    have ne : x ≠ p := fun z => by
      subst z
      rcases pM with q | ⟨u, q⟩
      · rw [h1] at q; cases q
      · rw [h2] at q; cases q
    rw [upd_ne ne]
    exact a.fr x o h1 h2
/-- something new, owned -/
theorem At.newO {r : Res} {A H' : Hp} (a : At K en g T l σ H F M) (h : Ex H H') (hA : Ex A H') (n : ∀ x o, A x = some o → H x = none) (p : r.P F A) : At K en g T (r :: l) σ H' F (join A M) := by
  have dA : Dj A M := fun x o q => by
    cases z : M x with
    | none => rfl
    | some u => have := a.exM x u z; rw [n x o q] at this; cases this
  refine ⟨a.exF.tr h, hA.join (a.exM.tr h), fun x o q => ?_, a.eF, a.nF, fun x o q => ?_, fun x o h1 h2 => h x o (a.fr x o h1 h2), a.sl, a.tm, ⟨A, M, rfl, dA, p, a.rs⟩⟩
  · cases z : join A M x with
    | none => rfl
    | some u =>
      rcases join_some z with y | ⟨_, y⟩
      · have := a.exF x o q; rw [n x u y] at this; cases this
      · rw [a.dj x o q] at y; cases y
  · rcases join_some q with y | ⟨_, y⟩
    · cases w : en.H x with
      | none => exact .inl rfl
      | some u =>
        cases z : en.M x with
        | some y => exact .inr ⟨y, rfl⟩
        | none => have := a.fr x u w z; rw [n x o y] at this; cases this
    · exact a.nM x o y
/-- what is owned at the front is frozen -/
theorem At.frz {r : Res} {P : Hp → Prop} (a : At K en g T (r :: l) σ H F M) (f : ∀ A, r.P F A → P (join F A)) : ∃ F' M', At K en g T l σ H F' M' ∧ P F' ∧ Ex F F' := by
  obtain ⟨A, B, rfl, dj, p, rs⟩ := a.rs
  have dF : Dj F A := fun x o h => (join_none (a.dj x o h)).1
  have eF : Ex F (join F A) := fun x o h => join_l h
  refine ⟨join F A, B, ⟨a.exF.join a.exM.joinL, a.exM.joinR dj, ?_, a.eF.tr eF, ?_, fun x o h => a.nM x o (by rw [join_r (dj.sym x o h)]; exact h), a.fr, a.sl.mono eF, T.mono eF a.tm, rs.mono eF⟩, f A p, eF⟩
  · intro x o h
    rcases join_some h with q | ⟨_, q⟩
    · exact (join_none (a.dj x o q)).2
    · exact dj x o q
  · intro x o h
    rcases join_some h with q | ⟨_, q⟩
    · exact a.nF x o q
    · rcases a.nM x o (join_l q) with z | z
      · exact .inr (.inl z)
      · exact .inr (.inr z)
theorem Rs.perm {F : Hp} : ∀ {l k : List Res}, l.Perm k → ∀ {M : Hp}, Rs l F M → Rs k F M := by
  intro l k h
  induction h with
  | nil => exact fun h => h
  | cons x _ ih => exact fun ⟨A, B, h1, h2, h3, h4⟩ => ⟨A, B, h1, h2, h3, ih h4⟩
  | swap x y l =>
    rintro M ⟨A, B, h1, h2, h3, ⟨A', B', g1, g2, g3, g4⟩⟩
    subst g1; subst h1
    have dAA : Dj A A' := (Dj.l h2.sym).sym
    have dAB : Dj A B' := (Dj.r g2 h2.sym).sym
    exact ⟨A', join A B', by rw [← join_assoc, ← join_assoc, dAA.comm], (Dj.joinL dAA g2.sym).sym, g3, A, B', rfl, dAB, h3, g4⟩
  | trans _ _ h1 h2 => exact fun h => h2 (h1 h)
theorem S.perm {l' : List Res} (h : l.Perm l') (s : S K en g T l σ H) : S K en g T l' σ H := let ⟨F, M, a⟩ := s; ⟨F, M, a.exF, a.exM, a.dj, a.eF, a.nF, a.nM, a.fr, a.sl, a.tm, a.rs.perm h⟩
end

section
variable {X : Cx} {W : WX} {g g' : Gm} {l l' : List Res} {Φ : Po} {e a b c o : Expr} {es : List Expr} {d d1 d2 d3 : D} {pos p : Pos} {rest : List Stmt}
theorem Blk.perm {sts : List Stmt} (h : l.Perm l') (k : Blk X W sts g l' Φ) : Blk X W sts g l Φ := fun en T σ H D s m => k en T σ H D (s.perm h) m
/-- a new list, owned -/
theorem ev_lst {ds : List D} (h : Pa X es g l ds) (hz : ds.length ≤ sizeLine := by first | decide | exact Nat.le_of_ble_eq_true rfl) : Ev X (.List es pos) g l (fun d' l' => ∃ p, d' = .adr p ∧ l' = ownL X.K p ds :: l) := fun en T σ H Q s k => wpE_of (pe_lst pa_wp) (by
  refine h en T σ H _ s fun vs H1 s1 => ?_
  obtain ⟨F, M, q⟩ := s1
  refine ⟨by rw [q.tm.1.length]; exact hz, fun p hp => ?_⟩
  have q2 := q.tmp (T' := T) q.tm.2
  have q3 := q2.newO (r := ownL X.K p ds) (A := one p (.lst vs)) (H' := upd H1 p (.lst vs)) (.new hp) (fun x o z => by obtain ⟨rfl, rfl⟩ := one_some z; exact upd_same) (fun x o z => by obtain ⟨rfl, rfl⟩ := one_some z; exact hp) ⟨vs, q.tm.1, rfl⟩
  exact k _ (.adr p) _ _ ⟨p, rfl, rfl⟩ ⟨F, _, q3.tmp ⟨.adr p, q.tm.2⟩⟩)
/-- a list just made is frozen -/
theorem Ev.frz {ds : List D} (h : Ev X e g l (fun d' l' => ∃ p, d' = .adr p ∧ l' = ownL X.K p ds :: l)) : Px X e g l (.lst ds) := fun en T σ H Q s k => h en T σ H Q s fun v d l' H' p s' => by
  obtain ⟨p, rfl, rfl⟩ := p
  obtain ⟨F, M, q⟩ := s'
  have hv := q.tm.1
  cases hv
  obtain ⟨F', M', q', f, _⟩ := q.frz (P := fun F' => Fd X.K F' (.ref p) (.lst ds)) fun A hA => by
    obtain ⟨vs, f, rfl⟩ := hA
    have hF : F p = none := by
      obtain ⟨A, B, rfl, _, ⟨_, _, rfl⟩, _⟩ := q.rs
      exact q.dj.sym p _ (join_l one_same)
    exact .lst (by rw [join_r hF]; exact one_same) (FdAll.mono (fun x o h => join_l h) _ f)
  exact k _ H' ⟨F', M', q'.tmp ⟨f, q'.tm.2⟩⟩
/-- a slot's owned list (at the front) is frozen -/
theorem Blk.frz {sts : List Stmt} {p : Addr} {ds : List D} {i : Nat} (hi : nth g i = some (.adr p)) (k : Blk X W sts (g.set i (some (.lst ds))) l Φ) : Blk X W sts g (ownL X.K p ds :: l) Φ := fun en T σ H D s m => by
  obtain ⟨F, M, q⟩ := s
  obtain ⟨v, hv, fv⟩ := q.sl.nth hi
  cases fv
  obtain ⟨F', M', q', f, _⟩ := q.frz (P := fun F' => Fd X.K F' (.ref p) (.lst ds)) fun A hA => by
    obtain ⟨vs, f, rfl⟩ := hA
    have hF : F p = none := by
      obtain ⟨A, B, rfl, _, ⟨_, _, rfl⟩, _⟩ := q.rs
      exact q.dj.sym p _ (join_l one_same)
    exact .lst (by rw [join_r hF]; exact one_same) (FdAll.mono (fun x o h => join_l h) _ f)
  refine k en T σ H D ⟨F', M', q'.slots ?_⟩ m
  have w := q'.sl.set i f
  have e : σ.set i (some (.ref p)) = σ := by
    apply List.ext_getElem?
    intro j
    by_cases z : j = i
    · subst z
      obtain ⟨h1, h2⟩ := List.getElem?_eq_some_iff.mp hv
      rw [List.getElem?_set_self h1, hv]
    · rw [List.getElem?_set_ne (Ne.symm z)]
  rw [e] at w
  exact w
/-- x.append(e), x an owned list -/
theorem blk_app {k : Nat} {p : Addr} {ds : List D} {apos cpos : Pos} (ho : Px X o g l (.adr p)) (he : Px X e g l d) (hk : l[k]? = some (ownL X.K p ds)) (hz : ds.length < sizeLine) (h : Blk X W rest g (l.set k (ownL X.K p (ds ++ [d]))) Φ)
    (hp : PS X (.Expr (.Call (.Attribute o "append" apos) [e] [] cpos) pos) (tDrop (tBM X.K "list" rAppend (wpE X o) (tCons (wpE X e) tNil)))) : Blk X W (.Expr (.Call (.Attribute o "append" apos) [e] [] cpos) pos :: rest) g l Φ := fun en T σ H D s m => wpS_of (pss_cons hp pss_wp) (by
  refine ho en T σ H _ s fun v H1 s1 => ?_
  obtain ⟨F1, M1, q1⟩ := id s1
  have fv := q1.tm.1
  cases fv
  obtain ⟨vs1, _, hp1⟩ := q1.rs.own hk q1.exM
  refine ⟨.inl ⟨rfl, _, SqL.of hp1⟩, ?_⟩
  refine he en _ σ H1 _ s1 fun u H2 s2 => ?_
  obtain ⟨F, M, q⟩ := s2
  obtain ⟨vs, fvs, hp⟩ := q.rs.own hk q.exM
  refine ⟨p, vs, u, rfl, rfl, hp, by rw [fvs.length]; exact hz, ?_⟩
  obtain ⟨M', q'⟩ := (q.tmp (T' := T) q.tm.2.2).putL hk (fvs.app (.cons q.tm.1 .nil))
  exact h en T σ _ D ⟨F, M', q'⟩ m)
end
end Sx
set_option Elab.async false
set_option linter.all false
set_option maxRecDepth 100000
set_option maxHeartbeats 2000000
/-! Operations by value, calls, loops, comprehensions. -/
namespace Sx
open PySem L2

/-! ### operations -/
section
variable {K : PySem.W.Frag} {l : List Res} {d d1 d2 d3 : D} {i j : Int}
theorem o2_I0 {g : Int → Int → V} (h : ∀ F, Fd K F (g i j) d) : Op2 K l (rI0 g) (.int i) (.int j) d := fun F M H v u Q eF eM dj rs f1 f2 k => by
  cases f1; cases f2
  exact ⟨i, j, rfl, rfl, k _ F H (.rf eF) (h F)⟩
theorem o2_I {C : Int → Int → Prop} {g : Int → Int → V} (hc : C i j) (h : ∀ F, Fd K F (g i j) d) : Op2 K l (rI C g) (.int i) (.int j) d := fun F M H v u Q eF eM dj rs f1 f2 k => by
  cases f1; cases f2
  exact ⟨i, j, rfl, rfl, hc, k _ F H (.rf eF) (h F)⟩
theorem o_add : Op2 K l (rI0 fun i j => .int (i + j)) (.int i) (.int j) (.int (i + j)) := o2_I0 fun _ => .int _
theorem o_sub : Op2 K l (rI0 fun i j => .int (i - j)) (.int i) (.int j) (.int (i - j)) := o2_I0 fun _ => .int _
theorem o_mul (hc : CMul i j) : Op2 K l (rI CMul fun i j => .int (i * j)) (.int i) (.int j) (.int (i * j)) := o2_I hc fun _ => .int _
theorem o_mulR (h1 : -(2 ^ 64) < j := by decide) (h2 : j < 2 ^ 64 := by decide) : Op2 K l (rI CMul fun i j => .int (i * j)) (.int i) (.int j) (.int (i * j)) := o_mul (.inr ⟨h1, h2⟩)
theorem o_mulL (h1 : -(2 ^ 64) < i := by decide) (h2 : i < 2 ^ 64 := by decide) : Op2 K l (rI CMul fun i j => .int (i * j)) (.int i) (.int j) (.int (i * j)) := o_mul (.inl ⟨h1, h2⟩)
theorem o_mod (hc : 0 < j := by decide) : Op2 K l (rI (fun _ j => 0 < j) fun i j => .int (i % j)) (.int i) (.int j) (.int (i % j)) := o2_I hc fun _ => .int _
theorem o_fdiv (h1 : 0 < j := by decide) (h2 : j < 1073741824 := by decide) : Op2 K l (rI CDiv fun i j => .int (i / j)) (.int i) (.int j) (.int (i / j)) := o2_I ⟨h1, h2⟩ fun _ => .int _
theorem o_pow (hc : CPow i j := by exact ⟨by decide, by decide, by decide⟩) : Op2 K l (rI CPow fun i j => .int (i ^ j.toNat)) (.int i) (.int j) (.int (i ^ j.toNat)) := o2_I hc fun _ => .int _
theorem o_lt : Op2 K l (rI0 fun i j => .bl (decide (i < j))) (.int i) (.int j) (.bl (decide (i < j))) := o2_I0 fun _ => .bl _
theorem o_le : Op2 K l (rI0 fun i j => .bl (decide (i ≤ j))) (.int i) (.int j) (.bl (decide (i ≤ j))) := o2_I0 fun _ => .bl _
theorem o_gt : Op2 K l (rI0 fun i j => .bl (decide (j < i))) (.int i) (.int j) (.bl (decide (j < i))) := o2_I0 fun _ => .bl _
theorem o_ge : Op2 K l (rI0 fun i j => .bl (decide (j ≤ i))) (.int i) (.int j) (.bl (decide (j ≤ i))) := o2_I0 fun _ => .bl _
theorem o_neg : Op1 K l (rU fun i => .int (-i)) (.int i) (.int (-i)) := fun F M H v Q eF eM dj rs f1 k => by
  cases f1
  exact ⟨i, rfl, k _ F H (.rf eF) (.int _)⟩
/-- scalars -/
def D.v : D → Option V
  | .non => some .non | .bl b => some (.bl b) | .int i => some (.int i) | .str x => some (.str x) | .ty n => some (.ty n) | _ => none
theorem D.v_eq {F : Hp} {d : D} {v w : V} (f : Fd K F v d) (h : d.v = some w) : v = w := by
  cases f <;> first | (cases h; rfl) | cases h
theorem o_eq {v1 v2 : V} (h1 : d1.v = some v1) (h2 : d2.v = some v2) (hs : scal v1 v2 = true := by rfl) : Op2 K l rEq d1 d2 (.bl (decide (v1 = v2))) := fun F M H v u Q eF eM dj rs f1 f2 k => by
  have e1 := D.v_eq f1 h1
  have e2 := D.v_eq f2 h2
  subst e1; subst e2
  exact ⟨hs, k _ F H (.rf eF) (.bl _)⟩
theorem o_ne {v1 v2 : V} (h1 : d1.v = some v1) (h2 : d2.v = some v2) (hs : scal v1 v2 = true := by rfl) : Op2 K l rNe d1 d2 (.bl (!decide (v1 = v2))) := fun F M H v u Q eF eM dj rs f1 f2 k => by
  have e1 := D.v_eq f1 h1
  have e2 := D.v_eq f2 h2
  subst e1; subst e2
  exact ⟨hs, k _ F H (.rf eF) (.bl _)⟩
theorem int_dec (i j : Int) : decide (V.int i = V.int j) = decide (i = j) := by
  by_cases e : i = j
  · subst e; simp
  · have : ¬ V.int i = V.int j := fun q => e (V.int.inj q)
    rw [decide_eq_false e, decide_eq_false this]
theorem str_dec (i j : Str) : decide (V.str i = V.str j) = decide (i = j) := by
  by_cases e : i = j
  · subst e; simp
  · have : ¬ V.str i = V.str j := fun q => e (V.str.inj q)
    rw [decide_eq_false e, decide_eq_false this]
theorem o_eqI : Op2 K l rEq (.int i) (.int j) (.bl (decide (i = j))) := by
  rw [← int_dec]; exact o_eq rfl rfl
theorem o_neI : Op2 K l rNe (.int i) (.int j) (.bl (!decide (i = j))) := by
  rw [← int_dec]; exact o_ne rfl rfl
theorem o_eqS {x y : Str} : Op2 K l rEq (.str x) (.str y) (.bl (decide (x = y))) := by
  rw [← str_dec]; exact o_eq rfl rfl
theorem o_neS {x y : Str} : Op2 K l rNe (.str x) (.str y) (.bl (!decide (x = y))) := by
  rw [← str_dec]; exact o_ne rfl rfl
/-- is None -/
def D.isNon : D → Bool
  | .non => true | _ => false
theorem D.isNon_eq {F : Hp} {d : D} {v : V} (f : Fd K F v d) : decide (v = .non) = d.isNon := by
  cases f <;> simp [D.isNon]
theorem o_isN : Op2 K l (fun x y H Q => y = .non ∧ Q (.bl (decide (x = .non))) H) d .non (.bl d.isNon) := fun F M H v u Q eF eM dj rs f1 f2 k => by
  cases f2
  refine ⟨rfl, ?_⟩
  rw [D.isNon_eq f1]
  exact k _ F H (.rf eF) (.bl _)
theorem o_notN : Op2 K l (fun x y H Q => y = .non ∧ Q (.bl (!decide (x = .non))) H) d .non (.bl (!d.isNon)) := fun F M H v u Q eF eM dj rs f1 f2 k => by
  cases f2
  refine ⟨rfl, ?_⟩
  rw [D.isNon_eq f1]
  exact k _ F H (.rf eF) (.bl _)
theorem o_addS {x y : Str} (h : x.length + y.length ≤ sizeLine) : Op2 K l (fun x y H Q => ∃ i j, x = .str i ∧ y = .str j ∧ i.length + j.length ≤ sizeLine ∧ Q (.str (i ++ j)) H) (.str x) (.str y) (.str (x ++ y)) := fun F M H v u Q eF eM dj rs f1 f2 k => by
  cases f1; cases f2
  exact ⟨x, y, rfl, rfl, h, k _ F H (.rf eF) (.str _)⟩
/-- indices -/
theorem atI_of {α : Type} {xs : List α} {i : Int} {n : Nat} (h : ixN xs.length i = some n) : atI xs i = xs[n]? := by
  unfold atI; rw [h]; rfl
theorem atI_fd {F : Hp} {vs : List V} {ds : List D} (f : FdAll K F vs ds) (h : atI ds i = some d) : ∃ v, atI vs i = some v ∧ Fd K F v d := by
  unfold atI at h ⊢
  rw [f.length]
  cases e : ixN ds.length i with
  | none => rw [e] at h; cases h
  | some n =>
    rw [e] at h
    exact f.get h
theorem o_ixT {ds : List D} (h : atI ds i = some d) : Op2 K l (rIxT K) (.tup ds) (.int i) d := fun F M H v u Q eF eM dj rs f1 f2 k => by
  cases f2
  cases f1 with
  | tup s a =>
    obtain ⟨w, h1, h2⟩ := atI_fd a h
    exact ⟨_, _, i, w, rfl, rfl, ex_t eF s, h1, k w F H (.rf eF) h2⟩
theorem o_ixL {ds : List D} (h : atI ds i = some d) : Op2 K l (rIxL K) (.lst ds) (.int i) d := fun F M H v u Q eF eM dj rs f1 f2 k => by
  cases f2
  cases f1 with
  | lst s a =>
    obtain ⟨w, h1, h2⟩ := atI_fd a h
    exact ⟨_, _, i, w, rfl, rfl, SqL.of (eF _ _ s), h1, k w F H (.rf eF) h2⟩
theorem o_ixR {ds : List D} (h : atI ds i = some d) : Op2 K l (rIxL K) (.scr ds) (.int i) d := fun F M H v u Q eF eM dj rs f1 f2 k => by
  cases f2
  cases f1 with
  | scr s a =>
    obtain ⟨w, h1, h2⟩ := atI_fd a h
    exact ⟨_, _, i, w, rfl, rfl, ex_l eF s, h1, k w F H (.rf eF) h2⟩
theorem o_ixO {k : Nat} {p : Addr} {ds : List D} (hk : l[k]? = some (ownL K p ds)) (h : atI ds i = some d) : Op2 K l (rIxL K) (.adr p) (.int i) d := fun F M H v u Q eF eM dj rs f1 f2 kk => by
  cases f2
  cases f1
  obtain ⟨vs, f, hp⟩ := rs.own hk eM
  obtain ⟨w, h1, h2⟩ := atI_fd f h
  exact ⟨_, _, i, w, rfl, rfl, SqL.of hp, h1, kk w F H (.rf eF) h2⟩
theorem o_ixS {x : Str} {c : Nat} (h : x.length ≤ sizeLine) (ha : atI x.cps.toList i = some c) : Op2 K l rIxS (.str x) (.int i) (.str ⟨#[c]⟩) := fun F M H v u Q eF eM dj rs f1 f2 k => by
  cases f1; cases f2
  exact ⟨x, i, c, rfl, rfl, h, ha, k _ F H (.rf eF) (.str _)⟩
/-- x in xs, flat things -/
def D.flat (d : D) : Bool := match d.v with | some v => flatV v | none => false
def D.vv (d : D) : V := d.v.getD .non
theorem D.vv_eq {F : Hp} {d : D} {v : V} (f : Fd K F v d) (h : d.flat = true) : v = d.vv ∧ flatV v = true := by
  cases f <;> first | exact ⟨rfl, h⟩ | cases h
theorem D.vvs {F : Hp} : ∀ {vs : List V} {ds : List D}, FdAll K F vs ds → ds.all D.flat = true → vs = ds.map D.vv ∧ vs.all flatV = true
  | _, _, .nil, _ => ⟨rfl, rfl⟩
  | _, _, .cons a b, h => by
    rw [List.all_cons, Bool.and_eq_true] at h
    obtain ⟨q1, q2⟩ := D.vv_eq a h.1
    obtain ⟨r1, r2⟩ := D.vvs b h.2
    refine ⟨by rw [List.map_cons, ← q1, ← r1], by rw [List.all_cons, q2, r2]; rfl⟩
theorem o_in {neg : Bool} {ds : List D} {d0 : D} (hd : d0 = .lst ds ∨ d0 = .tup ds) (hx : d.flat = true) (hs : ds.all D.flat = true) : Op2 K l (rIn K neg) d d0 (.bl (if neg then !inV d.vv (ds.map D.vv) else inV d.vv (ds.map D.vv))) := fun F M H v u Q eF eM dj rs f1 f2 k => by
  obtain ⟨q1, q2⟩ := D.vv_eq f1 hx
  subst q1
  have kk := k (.bl (if neg then !inV d.vv (ds.map D.vv) else inV d.vv (ds.map D.vv))) F H (.rf eF) (.bl _)
  rcases hd with rfl | rfl
  · cases f2 with
    | lst s a =>
      obtain ⟨r1, r2⟩ := D.vvs a hs
      subst r1
      exact ⟨_, _, rfl, .inl (SqL.of (eF _ _ s)), q2, r2, kk⟩
  · cases f2 with
    | tup s a =>
      obtain ⟨r1, r2⟩ := D.vvs a hs
      subst r1
      exact ⟨_, _, rfl, .inr (ex_t eF s), q2, r2, kk⟩
theorem o_inO {neg : Bool} {k : Nat} {p : Addr} {ds : List D} (hk : l[k]? = some (ownL K p ds)) (hx : d.flat = true) (hs : ds.all D.flat = true) : Op2 K l (rIn K neg) d (.adr p) (.bl (if neg then !inV d.vv (ds.map D.vv) else inV d.vv (ds.map D.vv))) := fun F M H v u Q eF eM dj rs f1 f2 kk => by
  obtain ⟨q1, q2⟩ := D.vv_eq f1 hx
  subst q1
  cases f2
  obtain ⟨vs, f, hp⟩ := rs.own hk eM
  obtain ⟨r1, r2⟩ := D.vvs f hs
  subst r1
  exact ⟨_, _, rfl, .inl (SqL.of hp), q2, r2, kk _ F H (.rf eF) (.bl _)⟩
theorem inV_str {x : Str} {xs : List Str} : inV (.str x) (xs.map V.str) = decide (x ∈ xs) := by
  induction xs with
  | nil => rfl
  | cons y r ih =>
    have e : inV (.str x) ((y :: r).map V.str) = ((y == x) || inV (.str x) (r.map V.str)) := rfl
    rw [e, ih]
    by_cases q : y = x
    · subst q; simp
    · have q' : ¬ x = y := fun z => q z.symm
      simp [q, q']
theorem inV_int {x : Int} {xs : List Int} : inV (.int x) (xs.map V.int) = decide (x ∈ xs) := by
  induction xs with
  | nil => rfl
  | cons y r ih =>
    have e : inV (.int x) ((y :: r).map V.int) = ((y == x) || inV (.int x) (r.map V.int)) := rfl
    rw [e, ih]
    by_cases q : y = x
    · subst q; simp
    · have q' : ¬ x = y := fun z => q z.symm
      simp [q, q']
theorem flat_strs {xs : List Str} : (xs.map D.str).all D.flat = true := by
  induction xs with
  | nil => rfl
  | cons y r ih => rw [List.map_cons, List.all_cons, ih]; rfl
theorem vv_strs {xs : List Str} : (xs.map D.str).map D.vv = xs.map V.str := by
  rw [List.map_map]; rfl
theorem flat_ints {xs : List Int} : (xs.map D.int).all D.flat = true := by
  induction xs with
  | nil => rfl
  | cons y r ih => rw [List.map_cons, List.all_cons, ih]; rfl
theorem vv_ints {xs : List Int} : (xs.map D.int).map D.vv = xs.map V.int := by
  rw [List.map_map]; rfl
theorem o_inS {x : Str} {xs : List Str} {d0 : D} (hd : d0 = .lst (xs.map D.str) ∨ d0 = .tup (xs.map D.str)) : Op2 K l (rIn K false) (.str x) d0 (.bl (decide (x ∈ xs))) := by
  have h := o_in (K := K) (l := l) (neg := false) hd (d := .str x) rfl flat_strs
  rw [vv_strs] at h
  have e : (if false = true then !inV (D.str x).vv (xs.map V.str) else inV (D.str x).vv (xs.map V.str)) = decide (x ∈ xs) := inV_str
  rw [e] at h; exact h
theorem o_ninS {x : Str} {xs : List Str} {d0 : D} (hd : d0 = .lst (xs.map D.str) ∨ d0 = .tup (xs.map D.str)) : Op2 K l (rIn K true) (.str x) d0 (.bl (!decide (x ∈ xs))) := by
  have h := o_in (K := K) (l := l) (neg := true) hd (d := .str x) rfl flat_strs
  rw [vv_strs] at h
  have e : (if true = true then !inV (D.str x).vv (xs.map V.str) else inV (D.str x).vv (xs.map V.str)) = !decide (x ∈ xs) := congrArg (!·) inV_str
  rw [e] at h; exact h
/- == of data -/
mutual
def D.py : D → Option PyData
  | .non => some .none | .bl b => some (.bool b) | .int i => some (.int i) | .str x => some (.str x)
  | .lst ds => (D.pys ds).map .list
  | .tup ds => (D.pys ds).map .tuple
  | .adr _ => none | .ty _ => none | .ins _ _ => none | .scr _ => none | .dK _ => none | .dT _ => none
def D.pys : List D → Option (List PyData)
  | [] => some []
  | d :: r => (D.py d).bind fun a => (D.pys r).map fun b => a :: b
end
mutual
theorem Fd.dp {F H : Hp} (e : Ex F H) : ∀ (d : D) {v : V} {p : PyData}, Fd K F v d → D.py d = some p → Dp K H v p
  | .non, _, _, h, q => by cases h; cases q; exact .non
  | .bl _, _, _, h, q => by cases h; cases q; exact .bl _
  | .int _, _, _, h, q => by cases h; cases q; exact .int _
  | .str _, _, _, h, q => by cases h; cases q; exact .str _
  | .lst ds, _, _, h, q => by
    unfold D.py at q
    obtain ⟨ps, h1, rfl⟩ := Option.map_eq_some_iff.mp q
    cases h with
    | lst s a => exact .lst (SqL.of (e _ _ s)) (FdAll.dp e ds a h1)
  | .tup ds, _, _, h, q => by
    unfold D.py at q
    obtain ⟨ps, h1, rfl⟩ := Option.map_eq_some_iff.mp q
    cases h with
    | tup s a => exact .tup (ex_t e s) (FdAll.dp e ds a h1)
  | .adr _, _, _, h, q => by cases q
  | .ty _, _, _, h, q => by cases q
  | .ins _ _, _, _, h, q => by cases q
  | .scr _, _, _, h, q => by cases q
  | .dK _, _, _, h, q => by cases q
  | .dT _, _, _, h, q => by cases q
theorem FdAll.dp {F H : Hp} (e : Ex F H) : ∀ (ds : List D) {vs : List V} {ps : List PyData}, FdAll K F vs ds → D.pys ds = some ps → DpAll K H vs ps
  | [], _, _, h, q => by cases h; cases q; exact .nil
  | d :: r, _, _, h, q => by
    unfold D.pys at q
    obtain ⟨a, h1, q⟩ := Option.bind_eq_some_iff.mp q
    obtain ⟨b, h2, rfl⟩ := Option.map_eq_some_iff.mp q
    cases h with
    | cons x y => exact .cons (Fd.dp e d x h1) (FdAll.dp e r y h2)
end
theorem o_eqD {p q : PyData} (h1 : d1.py = some p) (h2 : d2.py = some q) (s1 : SeqAt.shaped p = true) (s2 : SeqAt.shaped q = true) : Op2 K l (rEqD K) d1 d2 (.bl (PyData.eqv p q)) := fun F M H v u Q eF eM dj rs f1 f2 k =>
  ⟨p, q, Fd.dp eF _ f1 h1, Fd.dp eF _ f2 h2, s1, s2, k _ F H (.rf eF) (.bl _)⟩
theorem o_neD {p q : PyData} (h1 : d1.py = some p) (h2 : d2.py = some q) (s1 : SeqAt.shaped p = true) (s2 : SeqAt.shaped q = true) : Op2 K l (rNeD K) d1 d2 (.bl (!PyData.eqv p q)) := fun F M H v u Q eF eM dj rs f1 f2 k =>
  ⟨p, q, Fd.dp eF _ f1 h1, Fd.dp eF _ f2 h2, s1, s2, k _ F H (.rf eF) (.bl _)⟩
end

/-! ### a def's promise -/
/-- called with the data args a (owned: own a), where ok a holds, it gives back what post tells, or raises what epost tells -/
def FnX (K : PySem.W.Frag) {α : Type} (ok : α → Prop) (args : α → List D) (own : α → List Res) (post : α → D → List Res → Prop) (epost : α → Value → Option Addr → List Res → Prop) : Sp := fun vs H Q E =>
  ∃ (a : α) (F M : Hp), ok a ∧ Ex F H ∧ Ex M H ∧ Dj F M ∧ FdAll K F vs (args a) ∧ Rs (own a) F M ∧
    (∀ v d l' H', post a d l' → S K ⟨F, M, H⟩ [] (Tm.tt.and K v d) l' [] H' → Q v H') ∧ (∀ cls d l' H', epost a cls d l' → S K ⟨F, M, H⟩ [] Tm.tt l' [] H' → E cls d H')
abbrev noE {α : Type} : α → Value → Option Addr → List Res → Prop := fun _ _ _ _ => False
/-- a def that changes nothing and gives back f a -/
abbrev Pu (K : PySem.W.Frag) {α : Type} (ok : α → Prop) (args : α → List D) (f : α → D) : Sp := FnX K ok args (fun _ => []) (fun a d l' => d = f a ∧ l' = []) noE
section
variable {P : Program} {w : World} {K : PySem.W.Frag} {mg : Str → Option Value} {base : Heap}
theorem fn_ok {α : Type} {ok : α → Prop} {args : α → List D} {own : α → List Res} {post : α → D → List Res → Prop} {epost : α → Value → Option Addr → List Res → Prop} {x qual : Str} {st : Stmt} {f : Addr} {fd : FuncData} {N ps : List Str} {k : Nat}
    (F : Fun K x qual st f fd) (Sc : FnScope N ps (defScope st)) (hlen : ∀ a, (args a).length = ps.length)
    (hbody : ∀ (cdv : Value) (A : Around) (outer : List Env) (s : Shared) (H : Hp) (E : XK) (a : α), Room k (A.deeper (PyProof.Rows.envOfC qual (defScope st) s.heap.objs.size f cdv)) → ok a →
      Blk (cxOf CX0 P w K mg base N qual (defScope st) f cdv A outer s H E).nox (fun _ _ _ _ => False) (defBody st) ((args a).map some ++ List.replicate (N.length - (args a).length) none) (own a) { nx := fun _ l' => post a .non l', rt := post a }) :
    FnOk P w K mg base CX0 (k + 1) f fd ps (FnX K ok args own post epost) := by
  refine F.ok Sc (fun vs H Q E h => ?_) (fun cdv A outer s H vs Q E hr h => ⟨wpS _ (defBody st), pss_wp, ?_⟩)
  · obtain ⟨a, _, _, _, _, _, _, h, _⟩ := h
    rw [h.length, hlen]
  · obtain ⟨a, F, M, hok, eF, eM, dj, fa, rs, hq, _⟩ := h
    have e : vs.length = (args a).length := fa.length
    refine hbody cdv A outer s H E a hr hok ⟨F, M, H⟩ Tm.tt _ H _ ⟨F, M, At.entry eF eM dj ?_ trivial rs⟩ ⟨fun g l σ H' p s' => ?_, fun d l v H' p s' => hq v d l H' p s', fun _ _ _ _ h => h.elim, fun _ _ _ _ h => h.elim, fun _ _ _ _ _ _ h => h.elim⟩
    · unfold L2.start
      rw [e]
      exact Sl.args _ fa
    · obtain ⟨F', M', q⟩ := s'
      exact hq .non .non l H' p ⟨F', M', (q.tmp (T' := Tm.tt.and K .non .non) ⟨.non, trivial⟩).slots .nil⟩
theorem fn_okX {α : Type} {ok : α → Prop} {args : α → List D} {own : α → List Res} {post : α → D → List Res → Prop} {epost : α → Value → Option Addr → List Res → Prop} {x qual : Str} {st : Stmt} {f : Addr} {fd : FuncData} {N ps : List Str} {k : Nat}
    (F : Fun K x qual st f fd) (Sc : FnScope N ps (defScope st)) (hlen : ∀ a, (args a).length = ps.length)
    (hbody : ∀ (cdv : Value) (A : Around) (outer : List Env) (s : Shared) (H : Hp) (E : XK) (a : α), Room k (A.deeper (PyProof.Rows.envOfC qual (defScope st) s.heap.objs.size f cdv)) → ok a →
      Blk (cxOf (L2.CX P w) P w K mg base N qual (defScope st) f cdv A outer s H E) (fun cls d _ H => E cls d H) (defBody st) ((args a).map some ++ List.replicate (N.length - (args a).length) none) (own a) { nx := fun _ l' => post a .non l', rt := post a, ex := fun cls d _ l' => epost a cls d l' }) :
    FnOk P w K mg base (L2.CX P w) (k + 1) f fd ps (FnX K ok args own post epost) := by
  refine F.okX Sc (fun vs H Q E h => ?_) (fun cdv A outer s H vs Q E hr h => ⟨wpS _ (defBody st), pss_wp, ?_⟩)
  · obtain ⟨a, _, _, _, _, _, _, h, _⟩ := h
    rw [h.length, hlen]
  · obtain ⟨a, F, M, hok, eF, eM, dj, fa, rs, hq, he⟩ := h
    have e : vs.length = (args a).length := fa.length
    refine hbody cdv A outer s H E a hr hok ⟨F, M, H⟩ Tm.tt _ H _ ⟨F, M, At.entry eF eM dj ?_ trivial rs⟩ ⟨fun g l σ H' p s' => ?_, fun d l v H' p s' => hq v d l H' p s', fun _ _ _ _ h => h.elim, fun _ _ _ _ h => h.elim, fun cls d g l σ H' p s' => he cls d l H' p s'.slotless⟩
    · unfold L2.start
      rw [e]
      exact Sl.args _ fa
    · obtain ⟨F', M', q⟩ := s'
      exact hq .non .non l H' p ⟨F', M', (q.tmp (T' := Tm.tt.and K .non .non) ⟨.non, trivial⟩).slots .nil⟩
/-- a def of the module under its name, with its promise -/
def Glo (P : Program) (w : World) (K : PySem.W.Frag) (mg : Str → Option Value) (base : Heap) (k : Nat) (x : Str) (ps : List Str) (sp : Sp) : Prop :=
  ∃ f fd, FnOk P w K mg base CX0 k f fd ps sp ∧ mg x = some (.ref f) ∧ PySem.W.keepIn K (.ref f) = true ∧ Binds K fd ps []
/-- a class's method, with its promise -/
def GloM (P : Program) (w : World) (K : PySem.W.Frag) (mg : Str → Option Value) (base : Heap) (k : Nat) (C : Addr) (m : Str) (ps : List Str) (sp : Sp) : Prop :=
  ∃ f fd, FnOk P w K mg base CX0 k f fd ps sp ∧ Cls K C ∧ Meth K C m f ∧ Binds K fd ps []
/-- a class under its name with its __init__ -/
def GloC (P : Program) (w : World) (K : PySem.W.Frag) (mg : Str → Option Value) (base : Heap) (k : Nat) (C : Addr) (x : Str) (ps : List Str) (sp : Sp) : Prop :=
  ∃ f fd, FnOk P w K mg base CX0 k f fd ps sp ∧ Mk K C f ∧ mg x = some (.ref C) ∧ Binds K fd ps []
end

section
variable {X : Cx} {W : WX} {g g' : Gm} {l l' : List Res} {Φ : Po} {e e2 a b c o : Expr} {es : List Expr} {d d1 d2 d3 : D} {pos p p2 : Pos} {rest : List Stmt}
/-- o.m(es) is got as a method -/
abbrev MthE (X : Cx) (o : Expr) (m : Str) (apos pos : Pos) (es : List Expr) (pl : Sem Bool) : Prop := eval (.Call (.Attribute o m apos) es [] pos) X.env = (do let ov ← eval o X.env; standAt apos.atName; let (f, r) ← holding [ov] (getMethod ov m pl); callWith pos f r (backTo pos (starEach es X.env)) (backToKw pos (keywordEach [] X.env)))
/-- what a promise gives where the state is known -/
theorem FnX.use {α : Type} {ok : α → Prop} {args : α → List D} {own : α → List Res} {post : α → D → List Res → Prop} {epost : α → Value → Option Addr → List Res → Prop} {K : PySem.W.Frag} {en : En} {T : Tm} {σ : L2.St} {H : Hp} {vs : List V} {lr : List Res} {Q : VK} {E : XK}
    (a : α) (hok : ok a) (s : S K en g (T.ands K vs (args a)) (own a ++ lr) σ H) (hq : ∀ v d l' H', post a d l' → S K en g (T.and K v d) (l' ++ lr) σ H' → Q v H') (he : ∀ cls d l' H', epost a cls d l' → S K en g T (l' ++ lr) σ H' → E cls d H') :
    FnX K ok args own post epost vs H Q E := by
  obtain ⟨F, M, q⟩ := s
  obtain ⟨A, B, rfl, dj, r1, r2⟩ := q.rs.split
  refine ⟨a, F, A, hok, q.exF, q.exM.joinL, (Dj.l q.dj.sym).sym, q.tm.1, r1, fun v d l' H' hp s' => ?_, fun cls d l' H' hp s' => ?_⟩
  · obtain ⟨F2, M2, b⟩ := s'
    have z := (q.tmp (T' := T) q.tm.2).frame dj r2 b
    exact hq v d l' H' hp ⟨F2, _, z.tmp ⟨b.tm.1, z.tm⟩⟩
  · obtain ⟨F2, M2, b⟩ := s'
    have z := (q.tmp (T' := T) q.tm.2).frame dj r2 b
    exact he cls d l' H' hp ⟨F2, _, z⟩
theorem ev_call {α : Type} {ok : α → Prop} {args : α → List D} {own : α → List Res} {post : α → D → List Res → Prop} {x : Str} {ps : List Str} {k j : Nat} {lr : List Res} {Psi : D → List Res → Prop}
    (G : Glo X.prog X.w X.K X.mg X.base k x ps (FnX X.K ok args own post noE)) (hr : Room j X.A) (hj : k ≤ j) (a : α) (hok : ok a) (ha : Pa X (e :: es) g (own a ++ lr) (args a)) (hq : ∀ d l', post a d l' → Psi d (l' ++ lr))
    (hg : Gl X x := by rfl) (hdb : (x == ("__debug__" : Str)) = false := by decide) (he : starEach (e :: es) X.env = (false, eval e X.env) :: starEach es X.env := by rfl) (hpl : (backTo pos (starEach es X.env)).any (·.1) = false := by rfl) :
    Ev X (.Call (.Name x p) (e :: es) [] pos) g (own a ++ lr) Psi := fun en T σ H Q s kk => by
  obtain ⟨f, fd, F, hm, hk, hb⟩ := G
  refine wpE_of (pe_call F (hr.mono hj) hg hm hk hb .nil pass0 pa_wp hdb he hpl) ?_
  refine ha en T σ H _ s fun vs H1 s1 => ?_
  rw [List.append_nil]
  exact FnX.use a hok s1 (fun v d l' H' hp s' => kk v d _ H' (hq d l' hp) s') fun _ _ _ _ h => h.elim
theorem ev_call0 {α : Type} {ok : α → Prop} {args : α → List D} {own : α → List Res} {post : α → D → List Res → Prop} {x : Str} {ps : List Str} {k j : Nat} {lr : List Res} {Psi : D → List Res → Prop}
    (G : Glo X.prog X.w X.K X.mg X.base k x ps (FnX X.K ok args own post noE)) (hr : Room j X.A) (hj : k ≤ j) (a : α) (hok : ok a) (ha : args a = []) (hq : ∀ d l', post a d l' → Psi d (l' ++ lr))
    (hg : Gl X x := by rfl) (hdb : (x == ("__debug__" : Str)) = false := by decide) :
    Ev X (.Call (.Name x p) [] [] pos) g (own a ++ lr) Psi := fun en T σ H Q s kk => by
  obtain ⟨f, fd, F, hm, hk, hb⟩ := G
  refine wpE_of (pe_call0 F (hr.mono hj) hg hm hk hb .nil pass0 hdb) ?_
  show FnX _ _ _ _ _ _ ([] ++ []) H Q _
  have s1 : S X.K en g (T.ands X.K [] (args a)) (own a ++ lr) σ H := by
    obtain ⟨F, M, q⟩ := s
    exact ⟨F, M, q.tmp ⟨by rw [ha]; exact .nil, q.tm⟩⟩
  exact FnX.use a hok s1 (fun v d l' H' hp s' => kk v d _ H' (hq d l' hp) s') fun _ _ _ _ h => h.elim
/-- a def that changes nothing -/
theorem px_call {α : Type} {ok : α → Prop} {args : α → List D} {f : α → D} {x : Str} {ps : List Str} {k j : Nat} 
    (G : Glo X.prog X.w X.K X.mg X.base k x ps (Pu X.K ok args f)) (hr : Room j X.A) (hj : k ≤ j) (a : α) (hok : ok a) (ha : Pa X (e :: es) g l (args a))
    (hg : Gl X x := by rfl) (hdb : (x == ("__debug__" : Str)) = false := by decide) (he : starEach (e :: es) X.env = (false, eval e X.env) :: starEach es X.env := by rfl) (hpl : (backTo pos (starEach es X.env)).any (·.1) = false := by rfl) :
    Px X (.Call (.Name x p) (e :: es) [] pos) g l (f a) :=
  Ev.px (ev_call (lr := l) (own := fun _ => []) G hr hj a hok ha (fun d l' h => ⟨h.1, by rw [h.2]; rfl⟩) hg hdb he hpl)
/-- o.m(..) -/
theorem ev_meth {α : Type} {ok : α → Prop} {args : α → List D} {own : α → List Res} {post : α → D → List Res → Prop} {C : Addr} {m : Str} {ps : List Str} {k j : Nat} {lr : List Res} {Psi : D → List Res → Prop} {ds : List D} {apos : Pos} {pl : Sem Bool}
    (G : GloM X.prog X.w X.K X.mg X.base k C m ps (FnX X.K ok args own post noE)) (hr : Room j X.A) (hj : k ≤ j) (a : α) (hok : ok a) (ho : Px X o g (own a ++ lr) d1)
    (hd : ∀ F M H v, Ex F H → Ex M H → Rs (own a ++ lr) F M → Fd X.K F v d1 → ∃ q dx fs, v = .ref q ∧ H q = some (.ins C dx fs) ∧ fs.lookup m = none)
    (ha : Pa X (e :: es) g (own a ++ lr) ds) (hds : args a = d1 :: ds) (hq : ∀ d l', post a d l' → Psi d (l' ++ lr))
    (hst : starEach (e :: es) X.env = (false, eval e X.env) :: starEach es X.env := by rfl) (hpl : (backTo pos (starEach es X.env)).any (·.1) = false := by rfl)
    (ht : MthE X o m apos pos (e :: es) pl := by rfl) :
    Ev X (.Call (.Attribute o m apos) (e :: es) [] pos) g (own a ++ lr) Psi := fun en T σ H Q s kk => by
  obtain ⟨f, fd, F, hc, hm, hb⟩ := G
  refine wpE_of (pe_meth pe_wp hc hm F (hr.mono hj) hb .nil pass0 pa_wp hst hpl ht) ?_
  refine ho en T σ H _ s fun v H1 s1 => ?_
  have s1' := s1
  obtain ⟨F1, M1, q1⟩ := s1
  obtain ⟨q, dx, fs, rfl, h1, h2⟩ := hd F1 M1 H1 v q1.exF q1.exM q1.rs q1.tm.1
  refine ⟨q, dx, fs, rfl, h1, h2, ?_⟩
  refine ha en _ σ H1 _ s1' fun vs H2 s2 => ?_
  rw [List.append_nil]
  refine FnX.use a hok (T := T) (g := g) (en := en) (σ := σ) (lr := lr) ?_ (fun v d l' H' hp s' => kk v d _ H' (hq d l' hp) s') fun _ _ _ _ h => h.elim
  obtain ⟨F, M, q⟩ := s2
  exact ⟨F, M, q.tmp ⟨by rw [hds]; exact .cons q.tm.2.1 q.tm.1, q.tm.2.2⟩⟩
theorem ev_meth0 {α : Type} {ok : α → Prop} {args : α → List D} {own : α → List Res} {post : α → D → List Res → Prop} {C : Addr} {m : Str} {ps : List Str} {k j : Nat} {lr : List Res} {Psi : D → List Res → Prop} {apos : Pos} {pl : Sem Bool}
    (G : GloM X.prog X.w X.K X.mg X.base k C m ps (FnX X.K ok args own post noE)) (hr : Room j X.A) (hj : k ≤ j) (a : α) (hok : ok a) (ho : Px X o g (own a ++ lr) d1)
    (hd : ∀ F M H v, Ex F H → Ex M H → Rs (own a ++ lr) F M → Fd X.K F v d1 → ∃ q dx fs, v = .ref q ∧ H q = some (.ins C dx fs) ∧ fs.lookup m = none)
    (hds : args a = [d1]) (hq : ∀ d l', post a d l' → Psi d (l' ++ lr))
    (ht : MthE X o m apos pos [] pl := by rfl) :
    Ev X (.Call (.Attribute o m apos) [] [] pos) g (own a ++ lr) Psi := fun en T σ H Q s kk => by
  obtain ⟨f, fd, F, hc, hm, hb⟩ := G
  refine wpE_of (pe_meth0 pe_wp hc hm F (hr.mono hj) hb .nil pass0 ht) ?_
  refine ho en T σ H _ s fun v H1 s1 => ?_
  have s1' := s1
  obtain ⟨F1, M1, q1⟩ := s1
  obtain ⟨q, dx, fs, rfl, h1, h2⟩ := hd F1 M1 H1 v q1.exF q1.exM q1.rs q1.tm.1
  refine ⟨q, dx, fs, rfl, h1, h2, ?_⟩
  show FnX _ _ _ _ _ _ (V.ref q :: ([] ++ [])) H1 Q _
  refine FnX.use a hok (T := T) (g := g) (en := en) (σ := σ) (lr := lr) ?_ (fun v d l' H' hp s' => kk v d _ H' (hq d l' hp) s') fun _ _ _ _ h => h.elim
  exact ⟨F1, M1, q1.tmp ⟨by rw [hds]; exact .cons q1.tm.1 .nil, q1.tm.2⟩⟩
/-- the receiver: a frozen instance, an owned one -/
theorem rc_ins {K : PySem.W.Frag} {C : Addr} {fs : List (Str × D)} {m : Str} (h : fs.lookup m = none) : ∀ F M H v, Ex F H → Ex M H → Rs l F M → Fd K F v (.ins C fs) → ∃ q dx fs, v = .ref q ∧ H q = some (.ins C dx fs) ∧ fs.lookup m = none := fun F M H v eF eM rs f => by
  cases f with
  | ins h1 h2 => exact ⟨_, _, _, rfl, eF _ _ h1, h2.nolook h⟩
theorem rc_own {K : PySem.W.Frag} {C p : Addr} {fs : List (Str × D)} {m : Str} {k : Nat} (hk : l[k]? = some (ownI K p C fs)) (h : fs.lookup m = none) : ∀ F M H v, Ex F H → Ex M H → Rs l F M → Fd K F v (.adr p) → ∃ q dx fs, v = .ref q ∧ H q = some (.ins C dx fs) ∧ fs.lookup m = none := fun F M H v eF eM rs f => by
  cases f
  obtain ⟨dx, vs, f, hp⟩ := rs.ins hk eM
  exact ⟨p, dx, vs, rfl, hp, f.nolook h⟩
theorem px_meth {α : Type} {ok : α → Prop} {args : α → List D} {f : α → D} {C : Addr} {m : Str} {ps : List Str} {k j : Nat} {ds : List D} {apos : Pos} {pl : Sem Bool} {fs : List (Str × D)}
    (G : GloM X.prog X.w X.K X.mg X.base k C m ps (Pu X.K ok args f)) (hr : Room j X.A) (hj : k ≤ j) (a : α) (hok : ok a) (ho : Px X o g l (.ins C fs)) (hfs : fs.lookup m = none) (ha : Pa X (e :: es) g l ds) (hds : args a = .ins C fs :: ds)
    (hst : starEach (e :: es) X.env = (false, eval e X.env) :: starEach es X.env := by rfl) (hpl : (backTo pos (starEach es X.env)).any (·.1) = false := by rfl)
    (ht : MthE X o m apos pos (e :: es) pl := by rfl) : Px X (.Call (.Attribute o m apos) (e :: es) [] pos) g l (f a) :=
  Ev.px (ev_meth (lr := l) (own := fun _ => []) G hr hj a hok ho (rc_ins hfs) ha hds (fun d l' h => ⟨h.1, by rw [h.2]; rfl⟩) hst hpl ht)
theorem px_meth0 {α : Type} {ok : α → Prop} {args : α → List D} {f : α → D} {C : Addr} {m : Str} {ps : List Str} {k j : Nat} {apos : Pos} {pl : Sem Bool} {fs : List (Str × D)}
    (G : GloM X.prog X.w X.K X.mg X.base k C m ps (Pu X.K ok args f)) (hr : Room j X.A) (hj : k ≤ j) (a : α) (hok : ok a) (ho : Px X o g l (.ins C fs)) (hfs : fs.lookup m = none) (hds : args a = [.ins C fs])
    (ht : MthE X o m apos pos [] pl := by rfl) : Px X (.Call (.Attribute o m apos) [] [] pos) g l (f a) :=
  Ev.px (ev_meth0 (lr := l) (own := fun _ => []) G hr hj a hok ho (rc_ins hfs) hds (fun d l' h => ⟨h.1, by rw [h.2]; rfl⟩) ht)
/-- C(..), C with an own __init__ -/
theorem ev_make {α : Type} {ok : α → Prop} {args : α → List D} {own : α → List Res} {post : α → D → List Res → Prop} {C : Addr} {x : Str} {ps : List Str} {k j : Nat} {lr : List Res} {Psi : D → List Res → Prop} {ds : List D}
    (G : GloC X.prog X.w X.K X.mg X.base k C x ps (FnX X.K ok args own post noE)) (hr : Room j X.A) (hj : k + 1 ≤ j) (a : Addr → α) (hok : ∀ q, ok (a q)) (ha : Pa X (e :: es) g lr ds)
    (hds : ∀ q, args (a q) = .adr q :: ds) (hown : ∀ q, own (a q) = [ownI X.K q C []]) (hq : ∀ q d l', post (a q) d l' → d = .non ∧ Psi (.adr q) (l' ++ lr))
    (hg : Gl X x := by rfl) (hdb : (x == ("__debug__" : Str)) = false := by decide) (he : starEach (e :: es) X.env = (false, eval e X.env) :: starEach es X.env := by rfl) (hpl : (backTo pos (starEach es X.env)).any (·.1) = false := by rfl) :
    Ev X (.Call (.Name x p) (e :: es) [] pos) g lr Psi := fun en T σ H Q s kk => by
  obtain ⟨f, fd, F, M, hm, hb⟩ := G
  refine wpE_of (pe_make M F (hr.mono hj) hg hm hb .nil pass0 pa_wp hdb he hpl) ?_
  refine ha en T σ H _ s fun vs H1 s1 => ?_
  intro x dx nx ndx ne
  rw [List.append_nil]
  obtain ⟨F1, M1, q1⟩ := s1
  have n2 : (upd H1 dx (.own x)) x = none := by rw [upd_ne (Ne.symm ne)]; exact nx
  have q2 := q1.newO (r := ownI X.K x C []) (A := join (one x (.ins C dx [])) (one dx (.own x))) (H' := upd (upd H1 dx (.own x)) x (.ins C dx [])) ((Ex.new ndx).tr (.new n2))
    (fun y o z => by
      rcases join_some z with w | ⟨w, w'⟩
      · obtain ⟨rfl, rfl⟩ := one_some w; exact upd_same
      · obtain ⟨rfl, rfl⟩ := one_some w'
        rw [upd_ne ne, upd_same])
    (fun y o z => by
      rcases join_some z with w | ⟨w, w'⟩
      · obtain ⟨rfl, rfl⟩ := one_some w; exact nx
      · obtain ⟨rfl, rfl⟩ := one_some w'; exact ndx) ⟨[], dx, ne, .nil, rfl⟩
  have s2 : S X.K en g ((T.and X.K (.ref x) (.adr x)).ands X.K (.ref x :: vs) (args (a x))) (own (a x) ++ lr) σ (upd (upd H1 dx (.own x)) x (.ins C dx [])) := by
    rw [hown]
    exact ⟨F1, _, q2.tmp ⟨by rw [hds]; exact .cons (.adr x) q1.tm.1, .adr x, q1.tm.2⟩⟩
  refine FnX.use (a x) (hok x) s2 (fun v d l' H' hp s' => ?_) fun _ _ _ _ h => h.elim
  · obtain ⟨e1, e2⟩ := hq x d l' hp
    subst e1
    obtain ⟨F3, M3, q3⟩ := s'
    have f3 := q3.tm.1
    cases f3
    exact ⟨rfl, kk _ _ _ H' e2 ⟨F3, M3, q3.tmp q3.tm.2⟩⟩
/-- an instance just made is frozen -/
theorem Ev.frzI {C : Addr} {fs : List (Str × D)} (h : Ev X e g l (fun d' l' => ∃ p, d' = .adr p ∧ l' = ownI X.K p C fs :: l)) : Px X e g l (.ins C fs) := fun en T σ H Q s k => h en T σ H Q s fun v d l' H' p s' => by
  obtain ⟨p, rfl, rfl⟩ := p
  obtain ⟨F, M, q⟩ := s'
  have hv := q.tm.1
  cases hv
  obtain ⟨F', M', q', f, _⟩ := q.frz (P := fun F' => Fd X.K F' (.ref p) (.ins C fs)) fun A hA => by
    obtain ⟨vs, dx, n, f, rfl⟩ := hA
    have hF : F p = none := by
      obtain ⟨A, B, rfl, _, ⟨_, dx, n, _, rfl⟩, _⟩ := q.rs
      exact q.dj.sym p _ (join_l (join_l one_same))
    exact .ins (by rw [join_r hF]; exact join_l one_same) (FdFs.mono (fun x o h => join_l h) _ f)
  exact k _ H' ⟨F', M', q'.tmp ⟨f, q'.tm.2⟩⟩
/-- self.f = e, self an owned instance -/
theorem blk_fld {k : Nat} {C q : Addr} {fs : List (Str × D)} {f : Str} {pos' : Pos} (he : Px X e g l d) (ho : Px X o g l (.adr q)) (hk : l[k]? = some (ownI X.K q C fs)) (hc : Cls X.K C) (hn : NoAttr X.K C f) (hz : fs.length < 1000)
    (h : Blk X W rest g (l.set k (ownI X.K q C (putD f d fs))) Φ) (hs : swapsWith e (some (.Attribute o f pos')) pos.line X.env = pure false := by rfl) : Blk X W (.Assign [.Attribute o f pos'] e pos :: rest) g l Φ := fun en T σ H D s m => wpS_of (pss_cons (ps_fld pe_wp pe_wp hs) pss_wp) (by
  refine he en T σ H _ s fun v H1 s1 => ?_
  refine ho en _ σ H1 _ s1 fun u H2 s2 => ?_
  obtain ⟨F, M, q2⟩ := s2
  have fu := q2.tm.1
  cases fu
  obtain ⟨dx, vs, ff, hp⟩ := q2.rs.ins hk q2.exM
  refine ⟨q, C, dx, vs, rfl, hp, hc, hn, by rw [ff.length]; exact hz, ?_⟩
  obtain ⟨M', q'⟩ := (q2.tmp (T' := T) q2.tm.2.2).putI hk hp (ff.put q2.tm.2.1)
  exact h en T σ _ D ⟨F, M', q'⟩ m)
/-- an attribute of an owned instance -/
theorem px_fldO {k : Nat} {C q : Addr} {fs : List (Str × D)} {f : Str} (ho : Px X o g l (.adr q)) (hk : l[k]? = some (ownI X.K q C fs)) (hc : Cls X.K C) (hn : NoAttr X.K C f) (hl : fs.lookup f = some d) (hb : attributeBase o f X.env (eval o X.env) = eval o X.env := by rfl) : Px X (.Attribute o f pos) g l d := fun en T σ H Q s kk => wpE_of (pe_fld pe_wp hb) (by
  refine ho en T σ H _ s fun v H1 s1 => ?_
  obtain ⟨F, M, q1⟩ := s1
  obtain ⟨hf, ht⟩ := q1.tm
  cases hf
  obtain ⟨dx, vs, ff, hp⟩ := q1.rs.ins hk q1.exM
  obtain ⟨v, e1, e2⟩ := ff.look hl
  exact ⟨_, C, _, _, v, rfl, hp, hc, hn, e1, kk v H1 ⟨F, M, q1.tmp ⟨e2, ht⟩⟩⟩)

/-! ### targets -/
def setsV (σ : L2.St) : List Nat → List V → L2.St
  | i :: is, v :: vs => setsV (σ.set i (some v)) is vs
  | _, _ => σ
def sets (g : Gm) : List Nat → List D → Gm
  | i :: is, d :: ds => sets (g.set i (some d)) is ds
  | _, _ => g
theorem Sl.sets {K : PySem.W.Frag} {F : Hp} : ∀ {is : List Nat} {g : Gm} {σ : L2.St} {vs : List V} {ds : List D}, Sl K F g σ → FdAll K F vs ds → Sl K F (sets g is ds) (setsV σ is vs)
  | [], _, _, _, _, h, .nil => h
  | [], _, _, _, _, h, .cons _ _ => h
  | _ :: _, _, _, _, _, h, .nil => h
  | i :: is, _, _, _, _, h, .cons a b => Sl.sets (is := is) (h.set i a) b
/-- a target takes a datum apart into the slots is -/
def Tg (K : PySem.W.Frag) (t : TG) (is : List Nat) (d : D) (ds : List D) : Prop := ∀ F H v σ (Q : L2.St → Hp → Prop), Ex F H → Fd K F v d → (∀ vs, FdAll K F vs ds → Q (setsV σ is vs) H) → t v σ H Q
theorem tg_name {K : PySem.W.Frag} {i : Nat} : Tg K (gName i) [i] d [d] := fun F H v σ Q e f k => k [v] (.cons f .nil)
theorem tg_seq {K : PySem.W.Frag} : ∀ {is : List Nat} {ds : List D} {vs : List V} {F H : Hp} {σ : L2.St} {Q : L2.St → Hp → Prop}, is.length = ds.length → FdAll K F vs ds → Q (setsV σ is vs) H → (is.foldr (fun i t => gCons (gName i) t) gNil) vs σ H Q
  | [], [], _, _, _, _, _, _, .nil, h => ⟨rfl, h⟩
  | i :: is, d :: ds, _, _, _, σ, _, e, .cons (v := v) a b, h => ⟨_, _, rfl, tg_seq (is := is) (by simpa using e) b h⟩
  | [], _ :: _, _, _, _, _, _, e, _, _ => by cases e
  | _ :: _, [], _, _, _, _, _, e, _, _ => by cases e
theorem tg_tup {K : PySem.W.Frag} {is : List Nat} {ds : List D} {n : Nat} (h : is.length = ds.length) (hn : ds.length = n) : Tg K (gTup K n (is.foldr (fun i t => gCons (gName i) t) gNil)) is (.tup ds) ds := fun F H v σ Q e f k => by
  cases f with
  | tup s a => exact ⟨_, _, rfl, ex_t e s, by rw [a.length]; exact hn, tg_seq h a (k _ a)⟩
/-! ### walks -/
/-- the iterator J gives the data ds, one after another, while F stands -/
def JG (K : PySem.W.Frag) (F : Hp) (J : It) (ds : List D) : Prop := ∀ F' H, Ex F F' → Ex F' H → (∀ i, i < ds.length → J.go i H) ∧ J.stop ds.length H ∧ ∀ i d x H', ds[i]? = some d → J.yld i H x H' → ∃ F'', New F' H F'' H' ∧ Fd K F'' x d
def Itw (X : Cx) (tg iter : Expr) (g : Gm) (l : List Res) (ds : List D) : Prop := ∃ wi, PI X tg iter wi ∧ ∀ en T σ H (R : It → Hp → Prop), S X.K en g T l σ H → (∀ J H1 F M, At X.K en g T l σ H1 F M → JG X.K F J ds → R J H1) → wi σ H R
theorem jg_list {K : PySem.W.Frag} {F : Hp} {a : Addr} {vs : List V} {ds : List D} (s : SqL K F a vs) (f : FdAll K F vs ds) : JG K F (Itl K a) ds := fun F' H e1 e2 => by
  have s2 : SqL K H a vs := ex_l (e1.tr e2) s
  refine ⟨fun i hi => ?_, ⟨vs, s2, by rw [f.length]; exact Nat.le_refl _⟩, fun i d x H' hd hy => ?_⟩
  · have q : i < vs.length := by rw [f.length]; exact hi
    exact ⟨vs, vs[i], s2, List.getElem?_eq_getElem q⟩
  · obtain ⟨rfl, h⟩ := hy
    obtain ⟨v, h1, h2⟩ := f.get hd
    have e := h vs s2
    rw [h1] at e
    cases e
    exact ⟨F', .rf e2, h2.mono e1⟩
theorem jg_tup {K : PySem.W.Frag} {F : Hp} {a : Addr} {vs : List V} {ds : List D} (s : SqT K F a vs) (f : FdAll K F vs ds) : JG K F (Itt K a) ds := fun F' H e1 e2 => by
  have s2 : SqT K H a vs := ex_t (e1.tr e2) s
  refine ⟨fun i hi => ?_, ⟨vs, s2, by rw [f.length]; exact Nat.le_refl _⟩, fun i d x H' hd hy => ?_⟩
  · have q : i < vs.length := by rw [f.length]; exact hi
    exact ⟨vs, vs[i], s2, List.getElem?_eq_getElem q⟩
  · obtain ⟨rfl, h⟩ := hy
    obtain ⟨v, h1, h2⟩ := f.get hd
    have e := h vs s2
    rw [h1] at e
    cases e
    exact ⟨F', .rf e2, h2.mono e1⟩
theorem it_list {tg : Expr} {ds : List D} (h : Px X e g l (.lst ds)) : Itw X tg e g l ds := ⟨_, pi_list pe_wp, fun en T σ H R s k => h en T σ H _ s fun v H1 s1 => by
  obtain ⟨F, M, q⟩ := s1
  obtain ⟨f, t⟩ := q.tm
  cases f with
  | lst sq a => exact ⟨_, rfl, ⟨_, SqL.of (q.exF _ _ sq)⟩, k _ H1 F M (q.tmp t) (jg_list (SqL.of sq) a)⟩⟩
theorem it_scr {tg : Expr} {ds : List D} (h : Px X e g l (.scr ds)) : Itw X tg e g l ds := ⟨_, pi_list pe_wp, fun en T σ H R s k => h en T σ H _ s fun v H1 s1 => by
  obtain ⟨F, M, q⟩ := s1
  obtain ⟨f, t⟩ := q.tm
  cases f with
  | scr sq a => exact ⟨_, rfl, ⟨_, ex_l q.exF sq⟩, k _ H1 F M (q.tmp t) (jg_list sq a)⟩⟩
theorem it_tup {tg : Expr} {ds : List D} (h : Px X e g l (.tup ds)) : Itw X tg e g l ds := ⟨_, pi_tup pe_wp, fun en T σ H R s k => h en T σ H _ s fun v H1 s1 => by
  obtain ⟨F, M, q⟩ := s1
  obtain ⟨f, t⟩ := q.tm
  cases f with
  | tup sq a => exact ⟨_, rfl, ⟨_, ex_t q.exF sq⟩, k _ H1 F M (q.tmp t) (jg_tup sq a)⟩⟩
def rng (lo : Int) (n : Nat) : List D := (List.range n).map fun i : Nat => D.int (lo + (i : Int))
theorem rng_len {lo : Int} {n : Nat} : (rng lo n).length = n := by unfold rng; rw [List.length_map, List.length_range]
theorem rng_get {lo : Int} {n i : Nat} {d : D} (h : (rng lo n)[i]? = some d) : i < n ∧ d = .int (lo + (i : Int)) := by
  unfold rng at h
  rw [List.getElem?_map] at h
  cases q : (List.range n)[i]? with
  | none => rw [q] at h; cases h
  | some j =>
    rw [q] at h
    obtain ⟨h1, h2⟩ := List.getElem?_eq_some_iff.mp q
    rw [List.length_range] at h1
    rw [List.getElem_range] at h2
    subst h2
    exact ⟨h1, (Option.some.inj h).symm⟩
theorem jg_range {K : PySem.W.Frag} {F : Hp} {lo : Int} {n : Nat} : JG K F (L2.Itr lo n) (rng lo n) := fun F' H e1 e2 => by
  refine ⟨fun i hi => by rw [rng_len] at hi; exact hi, by show n ≤ _; rw [rng_len]; exact Nat.le_refl _, fun i d x H' hd hy => ?_⟩
  obtain ⟨rfl, rfl⟩ := hy
  obtain ⟨_, rfl⟩ := rng_get hd
  exact ⟨F', .rf e2, .int _⟩
theorem it_range {tg : Expr} {j : Int} {pp : Pos} (h : Px X e g l (.int j)) (h1 : -(2 ^ 62) ≤ j) (h2 : j < 2 ^ 62) (hm : X.mg "range" = none) (hg : Gl X "range" := by rfl) (hs : starEach [e] X.env = [(false, eval e X.env)] := by rfl) : Itw X tg (.Call (.Name "range" p) [e] [] pp) g l (rng 0 j.toNat) :=
  ⟨_, pi_range1 hg hm (pa_wp (es := [e])) hs, fun en T σ H R s k => pa_c h pa_n hs en T σ H _ s fun vs H1 s1 => by
  obtain ⟨F, M, q⟩ := s1
  obtain ⟨f, t⟩ := q.tm
  cases f with
  | cons a b =>
    cases a; cases b
    exact ⟨j, rfl, h1, h2, k _ H1 F M (q.tmp t) jg_range⟩⟩
theorem it_range2 {tg : Expr} {i j : Int} {pp : Pos} (h : Px X e g l (.int i)) (h' : Px X e2 g l (.int j)) (h1 : -(2 ^ 62) ≤ i ∧ i < 2 ^ 62 ∧ -(2 ^ 62) ≤ j ∧ j < 2 ^ 62) (hm : X.mg "range" = none) (hg : Gl X "range" := by rfl)
    (hs : starEach [e, e2] X.env = [(false, eval e X.env), (false, eval e2 X.env)] := by rfl) (hs2 : starEach [e2] X.env = [(false, eval e2 X.env)] := by rfl) : Itw X tg (.Call (.Name "range" p) [e, e2] [] pp) g l (rng i (j - i).toNat) :=
  ⟨_, pi_range2 hg hm (pa_wp (es := [e, e2])) hs hs2, fun en T σ H R s k => pa_c h (pa_c h' pa_n hs2) (by rw [hs, hs2]) en T σ H _ s fun vs H1 s1 => by
  obtain ⟨F, M, q⟩ := s1
  obtain ⟨f, t⟩ := q.tm
  cases f with
  | cons a b =>
    cases b with
    | cons b c =>
      cases a; cases b; cases c
      exact ⟨i, j, rfl, h1, k _ H1 F M (q.tmp t) jg_range⟩⟩
/-- pairs of a number and an item -/
def enumD (ds : List D) : List D := ds.zipIdx.map fun q => D.tup [.int (q.2 : Nat), q.1]
theorem enumD_len {ds : List D} : (enumD ds).length = ds.length := by unfold enumD; rw [List.length_map, List.length_zipIdx]
theorem enumD_get {ds : List D} {i : Nat} {d : D} (h : (enumD ds)[i]? = some d) : ∃ d', ds[i]? = some d' ∧ d = .tup [.int (i : Nat), d'] := by
  unfold enumD at h
  rw [List.getElem?_map, List.getElem?_zipIdx] at h
  cases q : ds[i]? with
  | none => rw [q] at h; cases h
  | some d' =>
    rw [q] at h
    refine ⟨d', rfl, ?_⟩
    have e := Option.some.inj h
    rw [← e]
    simp
theorem jg_enum {K : PySem.W.Frag} {F : Hp} {a : Addr} {vs : List V} {ds : List D} (s : SqL K F a vs) (f : FdAll K F vs ds) : JG K F (Ite K a) (enumD ds) := fun F' H e1 e2 => by
  have s2 : SqL K H a vs := ex_l (e1.tr e2) s
  refine ⟨fun i hi => ?_, ⟨vs, s2, by rw [enumD_len, f.length]; exact Nat.le_refl _⟩, fun i d x H' hd hy => ?_⟩
  · have q : i < vs.length := by rw [f.length]; rw [enumD_len] at hi; exact hi
    exact ⟨vs, vs[i], s2, List.getElem?_eq_getElem q⟩
  · obtain ⟨T, y, rfl, hT, rfl, h⟩ := hy
    obtain ⟨d', hd', rfl⟩ := enumD_get hd
    obtain ⟨v, h1, h2⟩ := f.get hd'
    have e := Option.some.inj (h1.symm.trans (h vs s2))
    subst e
    have n := New.upd (o := .tup [.int (i : Nat), v]) e2 hT
    exact ⟨_, n, .tup (SqT.of upd_same) (.cons (.int _) (.cons (h2.mono (e1.tr n.f)) .nil))⟩
theorem it_enum {elts : List Expr} {kk : Nat} {tpos pp : Pos} {ds : List D} (h : Px X e g l (.lst ds)) (hm : X.mg "enumerate" = none) (hg : Gl X "enumerate" := by rfl) (hs : starEach [e] X.env = [(false, eval e X.env)] := by rfl) : Itw X (.Tuple elts kk tpos) (.Call (.Name "enumerate" p) [e] [] pp) g l (enumD ds) :=
  ⟨_, pi_enum hg hm (pa_wp (es := [e])) hs, fun en T σ H R s k => pa_c h pa_n hs en T σ H _ s fun vs H1 s1 => by
  obtain ⟨F, M, q⟩ := s1
  obtain ⟨f, t⟩ := q.tm
  cases f with
  | cons a b =>
    cases b
    cases a with
    | lst sq a => exact ⟨_, _, rfl, SqL.of (q.exF _ _ sq), k _ H1 F M (q.tmp t) (jg_enum (SqL.of sq) a)⟩⟩
def zipD (ds es : List D) : List D := (ds.zip es).map fun q => D.tup [q.1, q.2]
theorem zipD_len {ds es : List D} : (zipD ds es).length = min ds.length es.length := by unfold zipD; rw [List.length_map, List.length_zip]
theorem zipD_get {ds es : List D} {i : Nat} {d : D} (h : (zipD ds es)[i]? = some d) : ∃ a b, ds[i]? = some a ∧ es[i]? = some b ∧ d = .tup [a, b] := by
  unfold zipD at h
  rw [List.getElem?_map] at h
  cases q : (ds.zip es)[i]? with
  | none => rw [q] at h; cases h
  | some r =>
    rw [q] at h
    obtain ⟨h1, h2⟩ := List.getElem?_zip_eq_some.mp q
    exact ⟨r.1, r.2, h1, h2, (Option.some.inj h).symm⟩
theorem jg_zip {K : PySem.W.Frag} {F : Hp} {a b : Addr} {vs ws : List V} {ds es : List D} (s : SqL K F a vs) (f : FdAll K F vs ds) (s' : SqL K F b ws) (f' : FdAll K F ws es) : JG K F (Itz K a b) (zipD ds es) := fun F' H e1 e2 => by
  have s2 : SqL K H a vs := ex_l (e1.tr e2) s
  have s3 : SqL K H b ws := ex_l (e1.tr e2) s'
  refine ⟨fun i hi => ?_, ⟨vs, ws, s2, s3, by rw [zipD_len, f.length, f'.length]; omega⟩, fun i d x H' hd hy => ?_⟩
  · rw [zipD_len] at hi
    have q : i < vs.length := by rw [f.length]; omega
    have q' : i < ws.length := by rw [f'.length]; omega
    exact ⟨vs, ws, vs[i], ws[i], s2, s3, List.getElem?_eq_getElem q, List.getElem?_eq_getElem q'⟩
  · obtain ⟨T, y, z, rfl, hT, rfl, h, h'⟩ := hy
    obtain ⟨a', b', ha, hb, rfl⟩ := zipD_get hd
    obtain ⟨v, h1, h2⟩ := f.get ha
    obtain ⟨v', h1', h2'⟩ := f'.get hb
    have e := Option.some.inj (h1.symm.trans (h vs s2))
    subst e
    have e := Option.some.inj (h1'.symm.trans (h' ws s3))
    subst e
    have n := New.upd (o := .tup [v, v']) e2 hT
    exact ⟨_, n, .tup (SqT.of upd_same) (.cons (h2.mono (e1.tr n.f)) (.cons (h2'.mono (e1.tr n.f)) .nil))⟩
theorem it_zip {elts : List Expr} {kk : Nat} {tpos pp : Pos} {ds es' : List D} (h : Px X e g l (.lst ds)) (h' : Px X e2 g l (.lst es')) (hm : X.mg "zip" = none) (hg : Gl X "zip" := by rfl) (hs : starEach [e, e2] X.env = (false, eval e X.env) :: starEach [e2] X.env := by rfl) (hs2 : starEach [e2] X.env = [(false, eval e2 X.env)] := by rfl)
    (hpl : (backTo pp (starEach [e2] X.env)).any (·.1) = false := by rfl) : Itw X (.Tuple elts kk tpos) (.Call (.Name "zip" p) [e, e2] [] pp) g l (zipD ds es') :=
  ⟨_, pi_zip hg hm (pa_wp (es := [e, e2])) hs hpl, fun en T σ H R s k => pa_c h (pa_c h' pa_n hs2) hs en T σ H _ s fun vs H1 s1 => by
  obtain ⟨F, M, q⟩ := s1
  obtain ⟨f, t⟩ := q.tm
  cases f with
  | cons a b =>
    cases b with
    | cons b c =>
      cases c
      cases a with
      | lst sq a =>
        cases b with
        | lst sq' b => exact ⟨_, _, _, _, rfl, SqL.of (q.exF _ _ sq), SqL.of (q.exF _ _ sq'), k _ H1 F M (q.tmp t) (jg_zip (SqL.of sq) a (SqL.of sq') b)⟩⟩
/-- text, sign by sign -/
def signs (x : Str) : List D := x.cps.toList.map fun c => D.str ⟨#[c]⟩
theorem it_str {tg : Expr} {x : Str} (h : Px X e g l (.str x)) : Itw X tg e g l (signs x) := ⟨_, pi_str pe_wp, fun en T σ H R s k => h en T σ H _ s fun v H1 s1 => by
  obtain ⟨F, M, q⟩ := s1
  obtain ⟨f, t⟩ := q.tm
  cases f
  refine ⟨x, rfl, k _ H1 F M (q.tmp t) fun F' H' e1 e2 => ?_⟩
  have el : (signs x).length = x.cps.size := by unfold signs; rw [List.length_map, Array.length_toList]
  refine ⟨fun i hi => by rw [el] at hi; exact hi, by show x.cps.size ≤ _; rw [el]; exact Nat.le_refl _, fun i d y H'' hd hy => ?_⟩
  obtain ⟨rfl, c, hc, rfl⟩ := hy
  unfold signs at hd
  rw [List.getElem?_map, Array.getElem?_toList, hc] at hd
  cases hd
  exact ⟨F', .rf e2, .str _⟩⟩
/-- for target in ..: body -/
theorem blk_for {tg iter : Expr} {body : List Stmt} {gt : TG} {is : List Nat} {ds : List D} (I : Nat → Gm → List Res → Prop) (hp : PassesOwn (model X.prog X.w) X.A X.env X.xe) (hc : X.calm = true) (hi : Itw X tg iter g l ds) (hg : PG X tg gt) (h0 : I 0 g l)
    (hs : ∀ i d g' l', ds[i]? = some d → I i g' l' → ∃ es, Tg X.K gt is d es ∧ Blk X W body (sets g' is es) l' { nx := I (i + 1), ct := I (i + 1), bk := fun g2 l2 => Blk X W rest g2 l2 Φ, rt := Φ.rt, ex := Φ.ex })
    (hd : ∀ g' l', I ds.length g' l' → Blk X W rest g' l' Φ) (hf : ∀ x, foldedSetIterable iter X.env x = pure x := by intro _; rfl) : Blk X W (.For tg iter body [] pos :: rest) g l Φ := fun en T σ H D s m => by
  obtain ⟨wi, pi, hw⟩ := hi
  refine wpS_of (pss_cons (ps_for hp hc pi hg pss_wp hf) pss_wp) ?_
  refine hw en T σ H _ s fun J H1 F0 M0 q0 jg => ?_
  refine ⟨fun i m σ' H' => i + m = ds.length ∧ ∃ g' l', I i g' l' ∧ S X.K en g' (T.ex F0) l' σ' H', ⟨ds.length, by simp, g, l, h0, F0, M0, q0.tmp ⟨.rf, q0.tm⟩⟩, fun i n σ' H' hW => ?_⟩
  obtain ⟨em, g', l', hI, F, M, q⟩ := hW
  obtain ⟨jgo, jst, jy⟩ := jg F H' q.tm.1 q.exF
  cases n with
  | zero =>
    have e : i = ds.length := by omega
    subst e
    exact .inl ⟨jst, hd g' l' hI en T σ' H' D ⟨F, M, q.tmp q.tm.2⟩ m⟩
  | succ n =>
    have hi : i < ds.length := by omega
    refine .inr ⟨jgo i hi, fun σ2 H2 => ∃ g2 l2, I (i + 1) g2 l2 ∧ S X.K en g2 (T.ex F0) l2 σ2 H2, fun σ2 H2 ⟨g2, l2, h1, h2⟩ => ⟨n, by omega, by omega, g2, l2, h1, h2⟩, fun x H2 hy => ?_⟩
    obtain ⟨es, htg, hb⟩ := hs i ds[i] g' l' (List.getElem?_eq_getElem hi) hI
    obtain ⟨F2, nw, fx⟩ := jy i ds[i] x H2 (List.getElem?_eq_getElem hi) hy
    have q2 := q.new nw
    refine htg F2 H2 x σ' _ q2.exF fx fun vs fvs => ?_
    refine hb en (T.ex F0) _ H2 _ ⟨F2, M, q2.slots (q2.sl.sets fvs)⟩ ⟨fun g2 l2 σ2 H2 h s2 => ⟨g2, l2, h, s2⟩, fun d l v H h s2 => ?_, fun g2 l2 σ2 H2 h s2 => ?_, fun g2 l2 σ2 H2 h s2 => ⟨g2, l2, h, s2⟩, fun cls d g l σ H h s2 => ?_⟩
    · obtain ⟨F, M, q⟩ := s2
      exact m.rt d l v H h ⟨F, M, q.tmp ⟨q.tm.1, q.tm.2.2⟩⟩
    · obtain ⟨F, M, q⟩ := s2
      exact h en T σ2 H2 D ⟨F, M, q.tmp q.tm.2⟩ m
    · obtain ⟨F, M, q⟩ := s2
      exact m.ex cls d g l σ H h ⟨F, M, q.tmp q.tm.2⟩
/-- while -/
theorem blk_while {c : Expr} {body : List Stmt} (I : Nat → Gm → List Res → Prop) (hp : PassesOwn (model X.prog X.w) X.A X.env X.xe) (n0 : Nat) (h0 : I n0 g l)
    (hs : ∀ n g' l', I n g' l' → ∃ b, Ts X c g' l' b ∧ (b = true → Blk X W body g' l' { nx := fun g2 l2 => ∃ m, m < n ∧ I m g2 l2, ct := fun g2 l2 => ∃ m, m < n ∧ I m g2 l2, bk := fun g2 l2 => Blk X W rest g2 l2 Φ, rt := Φ.rt, ex := Φ.ex }) ∧ (b = false → Blk X W rest g' l' Φ)) :
    Blk X W (.While c body [] pos :: rest) g l Φ := fun en T σ H D s m => by
  refine wpS_of (pss_cons (ps_while hp pt_wp pss_wp) pss_wp) ?_
  refine ⟨fun n σ' H' => ∃ g' l', I n g' l' ∧ S X.K en g' T l' σ' H', ⟨n0, g, l, h0, s⟩, fun n σ' H' hW => ?_⟩
  obtain ⟨g', l', hI, s'⟩ := hW
  obtain ⟨b, hc, h1, h2⟩ := hs n g' l' hI
  refine hc en T σ' H' _ s' fun H2 s2 => ?_
  cases b with
  | true =>
    refine ⟨fun σ2 H2 => ∃ k, k < n ∧ ∃ g2 l2, I k g2 l2 ∧ S X.K en g2 T l2 σ2 H2, fun σ2 H2 h => h, ?_⟩
    refine h1 rfl en T σ' H2 _ s2 ⟨fun g2 l2 σ2 H2 ⟨k, hk, h⟩ s2 => ⟨k, hk, g2, l2, h, s2⟩, m.rt, fun g2 l2 σ2 H2 h s2 => h en T σ2 H2 D s2 m, fun g2 l2 σ2 H2 ⟨k, hk, h⟩ s2 => ⟨k, hk, g2, l2, h, s2⟩, m.ex⟩
  | false => exact h2 rfl en T σ' H2 D s2 m
end
end Sx
set_option Elab.async false
set_option linter.all false
set_option maxRecDepth 100000
set_option maxHeartbeats 2000000
/-! List comprehensions. -/
namespace Sx
open PySem L2

theorem wipe_at {σ : L2.St} {j : Nat} : ∀ {vs : List Nat}, (wipe σ vs)[j]? = if j ∈ vs then (σ[j]?).map (fun _ => none) else σ[j]?
  | [] => by simp [wipe]
  | v :: vs => by
    unfold wipe
    by_cases e : v = j
    · subst e
      rw [if_pos List.mem_cons_self]
      by_cases h : v < σ.length
      · rw [List.getElem?_set_self (by rw [wipe_length]; exact h), List.getElem?_eq_getElem h]; rfl
      · rw [List.getElem?_eq_none (by rw [List.length_set, wipe_length]; omega), List.getElem?_eq_none (by omega)]; rfl
    · rw [List.getElem?_set_ne e, wipe_at (vs := vs)]
      have q : j ∈ v :: vs ↔ j ∈ vs := by
        rw [List.mem_cons]
        exact ⟨fun h => h.elim (fun z => absurd z.symm e) id, .inr⟩
      by_cases z : j ∈ vs
      · rw [if_pos z, if_pos (q.mpr z)]
      · rw [if_neg z, if_neg (fun y => z (q.mp y))]
theorem wipe_set {σ : L2.St} {vs : List Nat} {i : Nat} {x : Option V} (h : i ∈ vs) : wipe (σ.set i x) vs = wipe σ vs := by
  apply List.ext_getElem?
  intro j
  rw [wipe_at, wipe_at]
  by_cases z : j ∈ vs
  · rw [if_pos z, if_pos z]
    by_cases e : i = j
    · subst e
      by_cases q : i < σ.length
      · rw [List.getElem?_set_self q, List.getElem?_eq_getElem q]; rfl
      · rw [List.getElem?_eq_none (by rw [List.length_set]; omega), List.getElem?_eq_none (by omega)]
    · rw [List.getElem?_set_ne e]
  · rw [if_neg z, if_neg z]
    rw [List.getElem?_set_ne (fun e => z (by rw [← e]; exact h))]
theorem wipe_wipe {σ : L2.St} {vs : List Nat} : wipe (wipe σ vs) vs = wipe σ vs := by
  apply List.ext_getElem?
  intro j
  rw [wipe_at, wipe_at]
  by_cases z : j ∈ vs
  · rw [if_pos z, if_pos z]; cases σ[j]? <;> rfl
  · rw [if_neg z, if_neg z]
theorem wipe_sets {vs : List Nat} : ∀ {is : List Nat} {ws : List V} {σ : L2.St}, (∀ i ∈ is, i ∈ vs) → wipe (setsV σ is ws) vs = wipe σ vs
  | [], _, _, _ => by unfold setsV; rfl
  | _ :: _, [], _, _ => by unfold setsV; rfl
  | i :: is, w :: ws, σ, h => by
    unfold setsV
    rw [wipe_sets (is := is) fun j hj => h j (List.mem_cons_of_mem _ hj), wipe_set (h i List.mem_cons_self)]
def wipeG (g : Gm) : List Nat → Gm
  | [] => g
  | v :: vs => (wipeG g vs).set v none
theorem Sl.wipe {K : PySem.W.Frag} {F : Hp} {g : Gm} {σ : L2.St} (h : Sl K F g σ) : ∀ vs, Sl K F (wipeG g vs) (L2.wipe σ vs)
  | [] => h
  | v :: vs => by
    unfold wipeG L2.wipe
    exact (Sl.wipe h vs).clear v
section
variable {X : Cx} {W : WX} {g g' : Gm} {l l' : List Res} {Φ : Po} {e e2 a b c o : Expr} {es : List Expr} {d d1 d2 d3 : D} {pos p p2 : Pos} {rest : List Stmt}
/-- a part that is owned and not touched -/
theorem S.fr {K : PySem.W.Frag} {en : En} {T : Tm} {r : Res} {σ : L2.St} {H : Hp} (s : S K en g T (r :: l) σ H) : ∃ en', S K en' g T l σ H ∧ ∀ {T' : Tm} {H' : Hp} {g' : Gm} {σ' : L2.St}, S K en' g' T' l σ' H' → S K en g' T' (r :: l) σ' H' := by
  obtain ⟨F, M, q⟩ := s
  obtain ⟨A, B, rfl, dj, p, rs⟩ := q.rs
  refine ⟨⟨F, B, H⟩, ⟨F, B, At.entry q.exF (q.exM.joinR dj) (Dj.r dj q.dj.sym).sym q.sl q.tm rs⟩, fun {T'} {H'} {g'} {σ'} ⟨F2, M2, b⟩ => ?_⟩
  have e : join A B = join B A := dj.comm
  rw [e] at q
  have z := q.frame (lB := [r]) dj.sym ⟨A, emp, (join_emp A).symm, Dj.emp A, p, rfl⟩ b
  have z2 : At K en g' T' (l ++ [r]) σ' H' F2 (join M2 A) := (z.tmp b.tm).slots b.sl
  exact S.perm (List.perm_append_singleton r l) ⟨F2, _, z2⟩
theorem Px.fr {r : Res} (h : Px X e g l d) : Px X e g (r :: l) d := fun en T σ H Q s k => by
  obtain ⟨en', s', back⟩ := s.fr
  exact h en' T σ H Q s' fun v H' s2 => k v H' (back s2)
theorem Ts.fr {r : Res} {k : Bool} (h : Ts X e g l k) : Ts X e g (r :: l) k := fun en T σ H Q s kk => by
  obtain ⟨en', s', back⟩ := s.fr
  exact h en' T σ H Q s' fun H' s2 => kk H' (back s2)
/-- the slots as they stood -/
def Tm.sl (K : PySem.W.Frag) (T : Tm) (g : Gm) (σ : L2.St) : Tm := ⟨fun F => Sl K F g σ ∧ T.P F, fun e h => ⟨h.1.mono e, T.mono e h.2⟩⟩
/-- what is kept -/
def keepL (rs : List (Option D)) : List D := rs.filterMap id
theorem keepL_some {rs : List D} : keepL (rs.map some) = rs := by
  unfold keepL
  rw [List.filterMap_map]
  show List.filterMap (fun x => some x) rs = rs
  rw [List.filterMap_some]
theorem keepL_len {rs : List (Option D)} : (keepL rs).length ≤ rs.length := List.length_filterMap_le _ _
abbrev Blkc (X : Cx) (scope : Scope) (Pp : Cx → Prop) : Prop := ∀ (s : Shared) (H : Hp) (C : Addr) (cl : List (Str × Addr)) (fp : List Addr), Pp (X.blk s H scope (compEnvC scope cl C X.env) fp)
/-- the reading of a comprehension -/
theorem lc_read {own : List (Str × Nat)} {gt : TG} {is : List Nat} {ds : List D} {rs : List (Option D)} {wi : TI} {te : TE} {tt : TT}
    (hw : ∀ en T σ H (R : It → Hp → Prop), S X.K en g T l σ H → (∀ J H1 F M, At X.K en g T l σ H1 F M → JG X.K F J ds → R J H1) → wi σ H R)
    (his : ∀ i ∈ is, i ∈ own.map (·.2)) (hlen : rs.length = ds.length) (hz : rs.length ≤ sizeLine)
    (hs : ∀ (i : Nat) (d : D), ds[i]? = some d → ∃ es k r, Tg X.K gt is d es ∧ rs[i]? = some (if k = true then some r else none) ∧
      (∀ r0 en T σ H (Q : Bool → Hp → Prop), S X.K en (sets (wipeG g (own.map (·.2))) is es) T (r0 :: l) σ H → (∀ H', S X.K en (sets (wipeG g (own.map (·.2))) is es) T (r0 :: l) σ H' → Q k H') → tt σ H Q) ∧
      (k = true → ∀ r0 en T σ H (Q : VK), S X.K en (sets (wipeG g (own.map (·.2))) is es) T (r0 :: l) σ H → (∀ v H', S X.K en (sets (wipeG g (own.map (·.2))) is es) (T.and X.K v r) (r0 :: l) σ H' → Q v H') → te σ H Q))
    {en : En} {T : Tm} {σ : L2.St} {H : Hp} {Q : VK} (s : S X.K en g T l σ H) (kk : ∀ p H', S X.K en g T (ownL X.K p (keepL rs) :: l) σ H' → Q (.ref p) H') : tLc wi gt tt te (own.map (·.2)) σ H Q := by
  refine hw en T σ H _ s fun J H1 F0 M0 q0 jg => ?_
  intro Dl hD
  refine ⟨fun i m H' => i + m = ds.length ∧ S X.K en (wipeG g (own.map (·.2))) ((T.sl X.K g σ).ex F0) (ownL X.K Dl (keepL (rs.take i)) :: l) (L2.wipe σ (own.map (·.2))) H', ⟨ds.length, by simp, ?_⟩, fun i m H' hW => ?_⟩
  · have q1 := q0.newO (r := ownL X.K Dl []) (A := one Dl (.lst [])) (H' := upd H1 Dl (.lst [])) (.new hD) (fun x o z => by obtain ⟨rfl, rfl⟩ := one_some z; exact upd_same) (fun x o z => by obtain ⟨rfl, rfl⟩ := one_some z; exact hD) ⟨[], .nil, rfl⟩
    rw [List.take_zero]
    exact ⟨F0, _, (q1.tmp (T' := (T.sl X.K g σ).ex F0) ⟨.rf, q0.sl, q0.tm⟩).slots (q0.sl.wipe _)⟩
  · obtain ⟨em, F, M, q⟩ := hW
    obtain ⟨jgo, jst, jy⟩ := jg F H' q.tm.1 q.exF
    cases m with
    | zero =>
      have e : i = ds.length := by omega
      subst e
      refine .inl ⟨jst, kk Dl H' ⟨F, M, ?_⟩⟩
      rw [List.take_of_length_le (by omega)] at q
      exact (q.tmp (T' := T) q.tm.2.2).slots q.tm.2.1
    | succ m =>
      have hi : i < ds.length := by omega
      refine .inr ⟨jgo i hi, fun H2 => S X.K en (wipeG g (own.map (·.2))) ((T.sl X.K g σ).ex F0) (ownL X.K Dl (keepL (rs.take (i + 1))) :: l) (L2.wipe σ (own.map (·.2))) H2, fun H2 h => ⟨m, by omega, by omega, h⟩, fun x H2 hy => ?_⟩
      obtain ⟨es, b, r, htg, hr, ht, he⟩ := hs i ds[i] (List.getElem?_eq_getElem hi)
      obtain ⟨F2, nw, fx⟩ := jy i ds[i] x H2 (List.getElem?_eq_getElem hi) hy
      have q2 := q.new nw
      refine htg F2 H2 x _ _ q2.exF fx fun vs fvs => ?_
      refine ⟨by rw [wipe_sets his, wipe_wipe], ?_⟩
      have et : rs.take (i + 1) = rs.take i ++ [if b = true then some r else none] := by
        rw [List.take_add_one, hr]; rfl
      refine ht _ en ((((T.sl X.K g σ).ex F0)).sl X.K (wipeG g (own.map (·.2))) (L2.wipe σ (own.map (·.2)))) _ H2 _ ⟨F2, M, (q2.tmp (T' := (((T.sl X.K g σ).ex F0)).sl X.K (wipeG g (own.map (·.2))) (L2.wipe σ (own.map (·.2)))) ⟨q2.sl, q2.tm⟩).slots (q2.sl.sets fvs)⟩ fun H3 s3 => ?_
      cases b with
      | false =>
        show S X.K en _ _ _ _ H3
        obtain ⟨F3, M3, q3⟩ := s3
        rw [et]
        have e2 : keepL (rs.take i ++ [if false = true then some r else none]) = keepL (rs.take i) := by
          unfold keepL
          rw [List.filterMap_append]
          show _ ++ [] = _
          rw [List.append_nil]
        rw [e2]
        exact ⟨F3, M3, (q3.tmp q3.tm.2).slots q3.tm.1⟩
      | true =>
        show te _ H3 _
        refine he rfl _ en _ _ H3 _ s3 fun v H4 s4 => ?_
        obtain ⟨F4, M4, q4⟩ := s4
        obtain ⟨ws, fw, hp⟩ := q4.rs.own (k := 0) rfl q4.exM
        refine ⟨ws, hp, ?_, ?_⟩
        · rw [fw.length]
          have h1 := keepL_len (rs := rs.take i)
          rw [List.length_take] at h1
          omega
        · obtain ⟨M5, q5⟩ := (q4.tmp q4.tm.2).putL (k := 0) rfl (fw.app (.cons q4.tm.1 .nil))
          rw [et]
          have e2 : keepL (rs.take i ++ [if true = true then some r else none]) = keepL (rs.take i) ++ [r] := by
            unfold keepL
            rw [List.filterMap_append]
            rfl
          rw [e2]
          exact ⟨F4, M5, (q5.tmp q5.tm.2).slots q5.tm.1⟩
def teB (X : Cx) (scope : Scope) (e : Expr) : TE := fun σ H Q => Blkc X scope fun Y => wpE Y e σ H Q
def ttB (X : Cx) (scope : Scope) (e : Expr) : TT := fun σ H Q => Blkc X scope fun Y => wpT Y e σ H Q
theorem teB_pe {scope : Scope} : ∀ (s : Shared) (H : Hp) (C : Addr) (cl : List (Str × Addr)) (fp : List Addr), PE (X.blk s H scope (compEnvC scope cl C X.env) fp) e (teB X scope e) := fun s H C cl fp => ⟨fun pins s' σ H' Q I h => h s H C cl fp pins s' I⟩
theorem ttB_pt {scope : Scope} : ∀ (s : Shared) (H : Hp) (C : Addr) (cl : List (Str × Addr)) (fp : List Addr), PT (X.blk s H scope (compEnvC scope cl C X.env) fp) e (ttB X scope e) := fun s H C cl fp => ⟨fun pins s' σ H' Q I h => h s H C cl fp pins s' I⟩
/-- [elt for tg in iter], a new list -/
theorem ev_lc {tg iter elt : Expr} {scope : Scope} {own : List (Str × Nat)} {gt : TG} {is : List Nat} {ds rs : List D} (hc : X.calm = true) (hN : X.N.Nodup) (hi : Itw X tg iter g l ds) (ok : BlkOk X.N X.env.scope scope own)
    (hg : Blkc X scope fun Y => PG Y tg gt) (his : ∀ i ∈ is, i ∈ own.map (·.2)) (hlen : rs.length = ds.length) (hz : rs.length ≤ sizeLine)
    (hs : ∀ (i : Nat) (d : D), ds[i]? = some d → ∃ es r, Tg X.K gt is d es ∧ rs[i]? = some r ∧ Blkc X scope fun Y => Px Y elt (sets (wipeG g (own.map (·.2))) is es) l r) (hf : ∀ x, foldedSetIterable iter X.env x = pure x := by intro _; rfl) :
    Ev X (.ListComp elt [⟨tg, iter, [], 0⟩] scope pos) g l (fun d' l' => ∃ p, d' = .adr p ∧ l' = ownL X.K p rs :: l) := fun en T σ H Q s k => by
  obtain ⟨wi, pi, hw⟩ := hi
  refine wpE_of (pe_lc hc hN pi ok hg (fun _ _ _ _ _ => pts_nil) teB_pe hf) ?_
  refine lc_read (rs := rs.map some) hw his (by rw [List.length_map]; exact hlen) (by rw [List.length_map]; exact hz) (fun i d hd => ?_) s fun p H' s' => ?_
  · obtain ⟨es, r, h1, h2, h3⟩ := hs i d hd
    refine ⟨es, true, r, h1, by rw [List.getElem?_map, h2]; rfl, fun r0 en T σ H Q s kk => kk H s, fun _ r0 en T σ H Q s kk => ?_⟩
    intro s0 H0 C cl fp
    exact (h3 s0 H0 C cl fp).fr en T σ H Q s kk
  · rw [keepL_some] at s'
    obtain ⟨F, M, q⟩ := s'
    exact k _ _ _ H' ⟨p, rfl, rfl⟩ ⟨F, M, q.tmp ⟨.adr p, q.tm⟩⟩
theorem px_lc {tg iter elt : Expr} {scope : Scope} {own : List (Str × Nat)} {gt : TG} {is : List Nat} {ds rs : List D} (hc : X.calm = true) (hN : X.N.Nodup) (hi : Itw X tg iter g l ds) (ok : BlkOk X.N X.env.scope scope own)
    (hg : Blkc X scope fun Y => PG Y tg gt) (his : ∀ i ∈ is, i ∈ own.map (·.2)) (hlen : rs.length = ds.length) (hz : rs.length ≤ sizeLine)
    (hs : ∀ (i : Nat) (d : D), ds[i]? = some d → ∃ es r, Tg X.K gt is d es ∧ rs[i]? = some r ∧ Blkc X scope fun Y => Px Y elt (sets (wipeG g (own.map (·.2))) is es) l r) (hf : ∀ x, foldedSetIterable iter X.env x = pure x := by intro _; rfl) :
    Px X (.ListComp elt [⟨tg, iter, [], 0⟩] scope pos) g l (.lst rs) := (ev_lc hc hN hi ok hg his hlen hz hs hf).frz
/-- [elt for tg in iter if c] -/
theorem ev_lcIf {tg iter elt : Expr} {scope : Scope} {own : List (Str × Nat)} {gt : TG} {is : List Nat} {ds : List D} {rs : List (Option D)} (hc : X.calm = true) (hN : X.N.Nodup) (hi : Itw X tg iter g l ds) (ok : BlkOk X.N X.env.scope scope own)
    (hg : Blkc X scope fun Y => PG Y tg gt) (his : ∀ i ∈ is, i ∈ own.map (·.2)) (hlen : rs.length = ds.length) (hz : rs.length ≤ sizeLine)
    (hs : ∀ (i : Nat) (d : D), ds[i]? = some d → ∃ es k r, Tg X.K gt is d es ∧ rs[i]? = some (if k = true then some r else none) ∧ (Blkc X scope fun Y => Ts Y c (sets (wipeG g (own.map (·.2))) is es) l k) ∧ (k = true → Blkc X scope fun Y => Px Y elt (sets (wipeG g (own.map (·.2))) is es) l r)) (hf : ∀ x, foldedSetIterable iter X.env x = pure x := by intro _; rfl) :
    Ev X (.ListComp elt [⟨tg, iter, [c], 0⟩] scope pos) g l (fun d' l' => ∃ p, d' = .adr p ∧ l' = ownL X.K p (keepL rs) :: l) := fun en T σ H Q s k => by
  obtain ⟨wi, pi, hw⟩ := hi
  refine wpE_of (pe_lc hc hN pi ok hg (fun s H C cl fp => pts_one (ttB_pt s H C cl fp)) teB_pe hf) ?_
  refine lc_read (rs := rs) hw his hlen hz (fun i d hd => ?_) s fun p H' s' => ?_
  · obtain ⟨es, b, r, h1, h2, h3, h4⟩ := hs i d hd
    refine ⟨es, b, r, h1, h2, fun r0 en T σ H Q s kk => ?_, fun hb r0 en T σ H Q s kk => ?_⟩
    · intro s0 H0 C cl fp
      exact (h3 s0 H0 C cl fp).fr en T σ H Q s kk
    · intro s0 H0 C cl fp
      exact (h4 hb s0 H0 C cl fp).fr en T σ H Q s kk
  · obtain ⟨F, M, q⟩ := s'
    exact k _ _ _ H' ⟨p, rfl, rfl⟩ ⟨F, M, q.tmp ⟨.adr p, q.tm⟩⟩
theorem px_lcIf {tg iter elt : Expr} {scope : Scope} {own : List (Str × Nat)} {gt : TG} {is : List Nat} {ds : List D} {rs : List (Option D)} (hc : X.calm = true) (hN : X.N.Nodup) (hi : Itw X tg iter g l ds) (ok : BlkOk X.N X.env.scope scope own)
    (hg : Blkc X scope fun Y => PG Y tg gt) (his : ∀ i ∈ is, i ∈ own.map (·.2)) (hlen : rs.length = ds.length) (hz : rs.length ≤ sizeLine)
    (hs : ∀ (i : Nat) (d : D), ds[i]? = some d → ∃ es k r, Tg X.K gt is d es ∧ rs[i]? = some (if k = true then some r else none) ∧ (Blkc X scope fun Y => Ts Y c (sets (wipeG g (own.map (·.2))) is es) l k) ∧ (k = true → Blkc X scope fun Y => Px Y elt (sets (wipeG g (own.map (·.2))) is es) l r)) (hf : ∀ x, foldedSetIterable iter X.env x = pure x := by intro _; rfl) :
    Px X (.ListComp elt [⟨tg, iter, [c], 0⟩] scope pos) g l (.lst (keepL rs)) := (ev_lcIf hc hN hi ok hg his hlen hz hs hf).frz
/-- x = [..] on one line, x a local name -/
theorem blk_setLcX {tg iter elt : Expr} {ifs : List Expr} {scope : Scope} {own : List (Str × Nat)} {i : Nat} {y : Str} {py spos : Pos} {Psi : D → List Res → Prop} {wi : TI} {gt : TG} {tt : TT} {te : TE}
    (hps : PS X (.Assign [.Name y py] (.ListComp elt [⟨tg, iter, ifs, 0⟩] scope pos) spos) (tAsg (tLc wi gt tt te (own.map (·.2))) (gName i)))
    (hr : ∀ en T σ H (Q : VK), S X.K en g T l σ H → (∀ v d l' H', Psi d l' → S X.K en g (T.and X.K v d) l' σ H' → Q v H') → tLc wi gt tt te (own.map (·.2)) σ H Q)
    (h : ∀ d l', Psi d l' → Blk X W rest (g.set i (some d)) l' Φ) : Blk X W (.Assign [.Name y py] (.ListComp elt [⟨tg, iter, ifs, 0⟩] scope pos) spos :: rest) g l Φ := fun en T σ H D s m => wpS_of (pss_cons hps pss_wp) (by
  show tLc wi gt tt te (own.map (·.2)) σ H (fun x H1 => gName i x σ H1 (wpS X rest D))
  refine hr en T σ H _ s fun v d l' H' p s' => ?_
  obtain ⟨F, M, a⟩ := s'
  exact h d l' p en T (σ.set i (some v)) H' D ⟨F, M, (a.tmp a.tm.2).slots (a.sl.set i a.tm.1)⟩ m)
theorem blk_setLcO {tg iter elt : Expr} {scope : Scope} {own : List (Str × Nat)} {gt : TG} {is : List Nat} {ds rs : List D} {i : Nat} {y : Str} {py spos : Pos} (hc : X.calm = true) (hN : X.N.Nodup) (hy : X.N[i]? = some y) (hyl : X.env.scope.names.lookup y = some .local)
    (hsw : swapsWith (.ListComp elt [⟨tg, iter, [], 0⟩] scope pos) (some (.Name y py)) spos.line X.env = pure true) (hi : Itw X tg iter g l ds) (ok : BlkOk X.N X.env.scope scope own)
    (hg : Blkc X scope fun Y => PG Y tg gt) (his : ∀ i ∈ is, i ∈ own.map (·.2)) (hlen : rs.length = ds.length) (hz : rs.length ≤ sizeLine)
    (hs : ∀ (i : Nat) (d : D), ds[i]? = some d → ∃ es r, Tg X.K gt is d es ∧ rs[i]? = some r ∧ Blkc X scope fun Y => Px Y elt (sets (wipeG g (own.map (·.2))) is es) l r)
    (h : ∀ p, Blk X W rest (g.set i (some (.adr p))) (ownL X.K p rs :: l) Φ) (hf : ∀ x, foldedSetIterable iter X.env x = pure x := by intro _; rfl) : Blk X W (.Assign [.Name y py] (.ListComp elt [⟨tg, iter, [], 0⟩] scope pos) spos :: rest) g l Φ := by
  obtain ⟨wi, pi, hw⟩ := hi
  refine blk_setLcX (Psi := fun d' l' => ∃ p, d' = .adr p ∧ l' = ownL X.K p rs :: l) (ps_setLc hc hN hy hyl hsw pi ok hg (fun _ _ _ _ _ => pts_nil) teB_pe hf) (fun en T σ H Q s k => ?_) fun d l' ⟨p, e1, e2⟩ => by subst e1; subst e2; exact h p
  refine lc_read (rs := rs.map some) hw his (by rw [List.length_map]; exact hlen) (by rw [List.length_map]; exact hz) (fun i d hd => ?_) s fun p H' s' => ?_
  · obtain ⟨es, r, h1, h2, h3⟩ := hs i d hd
    refine ⟨es, true, r, h1, by rw [List.getElem?_map, h2]; rfl, fun r0 en T σ H Q s kk => kk H s, fun _ r0 en T σ H Q s kk => ?_⟩
    intro s0 H0 C cl fp
    exact (h3 s0 H0 C cl fp).fr en T σ H Q s kk
  · rw [keepL_some] at s'
    obtain ⟨F, M, q⟩ := s'
    exact k _ _ _ H' ⟨p, rfl, rfl⟩ ⟨F, M, q.tmp ⟨.adr p, q.tm⟩⟩
theorem blk_setLcIfO {tg iter elt : Expr} {scope : Scope} {own : List (Str × Nat)} {gt : TG} {is : List Nat} {ds : List D} {rs : List (Option D)} {i : Nat} {y : Str} {py spos : Pos} (hc : X.calm = true) (hN : X.N.Nodup) (hy : X.N[i]? = some y) (hyl : X.env.scope.names.lookup y = some .local)
    (hsw : swapsWith (.ListComp elt [⟨tg, iter, [c], 0⟩] scope pos) (some (.Name y py)) spos.line X.env = pure true) (hi : Itw X tg iter g l ds) (ok : BlkOk X.N X.env.scope scope own)
    (hg : Blkc X scope fun Y => PG Y tg gt) (his : ∀ i ∈ is, i ∈ own.map (·.2)) (hlen : rs.length = ds.length) (hz : rs.length ≤ sizeLine)
    (hs : ∀ (i : Nat) (d : D), ds[i]? = some d → ∃ es k r, Tg X.K gt is d es ∧ rs[i]? = some (if k = true then some r else none) ∧ (Blkc X scope fun Y => Ts Y c (sets (wipeG g (own.map (·.2))) is es) l k) ∧ (k = true → Blkc X scope fun Y => Px Y elt (sets (wipeG g (own.map (·.2))) is es) l r))
    (h : ∀ p, Blk X W rest (g.set i (some (.adr p))) (ownL X.K p (keepL rs) :: l) Φ) (hf : ∀ x, foldedSetIterable iter X.env x = pure x := by intro _; rfl) : Blk X W (.Assign [.Name y py] (.ListComp elt [⟨tg, iter, [c], 0⟩] scope pos) spos :: rest) g l Φ := by
  obtain ⟨wi, pi, hw⟩ := hi
  refine blk_setLcX (Psi := fun d' l' => ∃ p, d' = .adr p ∧ l' = ownL X.K p (keepL rs) :: l) (ps_setLc hc hN hy hyl hsw pi ok hg (fun s H C cl fp => pts_one (ttB_pt s H C cl fp)) teB_pe hf) (fun en T σ H Q s k => ?_) fun d l' ⟨p, e1, e2⟩ => by subst e1; subst e2; exact h p
  refine lc_read (rs := rs) hw his hlen hz (fun i d hd => ?_) s fun p H' s' => ?_
  · obtain ⟨es, b, r, h1, h2, h3, h4⟩ := hs i d hd
    refine ⟨es, b, r, h1, h2, fun r0 en T σ H Q s kk => ?_, fun hb r0 en T σ H Q s kk => ?_⟩
    · intro s0 H0 C cl fp
      exact (h3 s0 H0 C cl fp).fr en T σ H Q s kk
    · intro s0 H0 C cl fp
      exact (h4 hb s0 H0 C cl fp).fr en T σ H Q s kk
  · obtain ⟨F, M, q⟩ := s'
    exact k _ _ _ H' ⟨p, rfl, rfl⟩ ⟨F, M, q.tmp ⟨.adr p, q.tm⟩⟩
end
end Sx
set_option Elab.async false
set_option linter.all false
set_option maxRecDepth 100000
set_option maxHeartbeats 2000000
/-! What a text's top has written; a law's own end. -/
namespace Sx
open PySem L2
/-- a def of the module | a method | a class | a class with its __init__ -/
def Dfn (K : PySem.W.Frag) (mg : Str → Option Value) (x : Str) (st : Stmt) : Prop := ∃ f fd, Fun K x x st f fd ∧ mg x = some (.ref f)
def Dmt (K : PySem.W.Frag) (C : Addr) (m qual : Str) (st : Stmt) : Prop := ∃ f fd, Fun K m qual st f fd ∧ Meth K C m f
def Din (K : PySem.W.Frag) (C : Addr) (qual : Str) (st : Stmt) : Prop := ∃ f fd, Fun K "__init__" qual st f fd ∧ Mk K C f
structure Dcl (K : PySem.W.Frag) (mg : Str → Option Value) (x : Str) (C : Addr) : Prop where
  mg : mg x = some (.ref C)
  cl : Cls K C
  kp : PySem.W.keepIn K (.ref C) = true
/-- an own class that isinstance may be asked about -/
structure Isi (K : PySem.W.Frag) (C : Addr) : Prop where
  (ha : PySem.W.findIn K (.ref C) "__class__" = some (some (.builtin "object.__class__"))) (hn : PySem.W.specialIn K (.builtin "object.__class__") "__get__" = some (some (.builtin "getset_descriptor.__get__")))
  (htk : PySem.W.takesIn K (.builtin "object.__class__") = some true) (hm : PySem.W.mroIn K C (.type "object") = some true)
section
variable {K : PySem.W.Frag} {h : Heap} {mg : Str → Option Value} {C f : Addr} {x m qual : Str} {st : Stmt} {oc kV doc pm cdv ct : Value} {od an : Option Addr} {osl : Array (Option Value)}
theorem dfn_mk (X : K.In h) (G : h.Ns mainGlobals mg) (a : PySem.W.nsIn K mainGlobals x = some (some (.ref f))) (l : K.lookup f = some ⟨oc, od, .func (PySem.W.fnOf x x (defArgs st) (defBody st) (defScope st) .none kV doc pm an cdv ct), osl⟩) (c : PySem.W.codeIn K cdv x = true) (k : PySem.W.keepIn K (.ref f) = true) : Dfn K mg x st :=
  ⟨f, _, fun_mk l c k, PySem.W.mg_of X G a⟩
theorem dmt_mk (a : PySem.W.findIn K (.ref C) m = some (some (.ref f))) (i : PySem.W.isFn K (.ref f) = true) (l : K.lookup f = some ⟨oc, od, .func (PySem.W.fnOf m qual (defArgs st) (defBody st) (defScope st) .none kV doc pm an cdv ct), osl⟩) (c : PySem.W.codeIn K cdv qual = true) (k : PySem.W.keepIn K (.ref f) = true) : Dmt K C m qual st :=
  ⟨f, _, fun_mk l c k, ⟨a, i, k⟩⟩
theorem din_mk (mk : PySem.W.makesIn K C = true) (kc : PySem.W.keepIn K (.ref C) = true) (a : PySem.W.findIn K (.ref C) "__init__" = some (some (.ref f))) (i : PySem.W.isFn K (.ref f) = true) (l : K.lookup f = some ⟨oc, od, .func (PySem.W.fnOf "__init__" qual (defArgs st) (defBody st) (defScope st) .none kV doc pm an cdv ct), osl⟩) (c : PySem.W.codeIn K cdv qual = true) (k : PySem.W.keepIn K (.ref f) = true) : Din K C qual st :=
  ⟨f, _, fun_mk l c k, ⟨mk, a, i, kc⟩⟩
theorem dcl_mk (X : K.In h) (G : h.Ns mainGlobals mg) (a : PySem.W.nsIn K mainGlobals x = some (some (.ref C))) (pg : PySem.W.plainGet K C Str.empty = true) (hd : PySem.W.hasDictIn K C = true) (po : PySem.W.plainOver K C = true) (sa : PySem.W.findIn K (.ref C) "__setattr__" = some (some (.builtin "object.__setattr__"))) (k : PySem.W.keepIn K (.ref C) = true) : Dcl K mg x C :=
  ⟨PySem.W.mg_of X G a, ⟨pg, hd, po, sa⟩, k⟩
end
section
variable {P : Program} {w : World} {K : PySem.W.Frag} {mg : Str → Option Value} {base : Heap} {k : Nat} {x m qual : Str} {st : Stmt} {ps : List Str} {sp : Sp} {C : Addr}
abbrev Bnd (x qual : Str) (st : Stmt) (ps : List Str) : Prop := ∀ (kV doc pm : Value) (an : Option Addr) (cdv ct : Value) (us : List Value), us.length = ps.length → bindArgs (PySem.W.fnOf x qual (defArgs st) (defBody st) (defScope st) .none kV doc pm an cdv ct) ⟨us, []⟩ = pure (ps.zip us)
theorem glo_of (d : Dfn K mg x st) (b : Bnd x x st ps) (h : ∀ f fd, Fun K x x st f fd → FnOk P w K mg base CX0 k f fd ps sp) : Glo P w K mg base k x ps sp := by
  obtain ⟨f, fd, F, hm⟩ := d
  exact ⟨f, fd, h f fd F, hm, F.kp, F.binds b⟩
theorem glom_of (d : Dmt K C m qual st) (c : Cls K C) (b : Bnd m qual st ps) (h : ∀ f fd, Fun K m qual st f fd → FnOk P w K mg base CX0 k f fd ps sp) : GloM P w K mg base k C m ps sp := by
  obtain ⟨f, fd, F, hm⟩ := d
  exact ⟨f, fd, h f fd F, c, hm, F.binds b⟩
theorem gloc_of (d : Din K C qual st) (c : Dcl K mg x C) (b : Bnd "__init__" qual st ps) (h : ∀ f fd, Fun K "__init__" qual st f fd → FnOk P w K mg base CX0 k f fd ps sp) : GloC P w K mg base k C x ps sp := by
  obtain ⟨f, fd, F, hm⟩ := d
  exact ⟨f, fd, h f fd F, hm, c.mg, F.binds b⟩
theorem Glo.mono {j : Nat} (g : Glo P w K mg base k x ps sp) (h : k ≤ j) : Glo P w K mg base j x ps sp := let ⟨f, fd, F, r⟩ := g; ⟨f, fd, F.mono h, r⟩
/-- the law: any script of at most 63 ints, True comes out -/
abbrev spL (K : PySem.W.Frag) : Sp := Pu K (fun ns : List Int => ns.length ≤ 63) (fun ns => [.scr (ns.map .int)]) (fun _ => .bl true)
def spLaw (K : PySem.W.Frag) : Sp := fun vs Hh Q _ => ∃ (q : Addr) (ns : List Int), vs = [.ref q] ∧ SqL K Hh q (ns.map V.int) ∧ ns.length ≤ 63 ∧ ∀ H2, Q (.bl true) H2
theorem law_imp {f : Addr} {fd : FuncData} (F : FnOk P w K mg base CX0 k f fd ps (spL K)) : FnOk P w K mg base CX0 k f fd ps (spLaw K) := F.imp fun vs H Q E h => by
  obtain ⟨a, ns, rfl, hS, hl, q⟩ := h
  refine ⟨ns, H, emp, hl, .rf, fun _ _ z => (by cases z), .emp _, .cons (.scr hS (FdAll.ofInts ns)) .nil, rfl, fun v d l' H' hp s => ?_, fun _ _ _ _ z => z.elim⟩
  obtain ⟨rfl, rfl⟩ := hp
  obtain ⟨F, M, a⟩ := s
  have f := a.tm.1
  cases f
  exact q H'
/-- as walk_of asks it -/
theorem law_end {pn : Str} {fa : Addr} {st : Stmt} (d : Dfn K mg "law" st) (hfa : mg "law" = some (.ref fa)) (hb : ∀ (kV doc pm : Value) (an : Option Addr) (cdv ct : Value) (s : Shared) (v : Value), BindsTo s (PySem.W.fnOf "law" "law" (defArgs st) (defBody st) (defScope st) .none kV doc pm an cdv ct) ⟨[v], []⟩ [(pn, v)])
    (h : ∀ base : Heap, K.In base → base.Ns mainGlobals mg → ∀ f fd, Fun K "law" "law" st f fd → FnOk P w K mg base CX0 k f fd [pn] (spL K)) :
    ∃ fd : FuncData, (∀ (s : Shared) (v : Value), BindsTo s fd ⟨[v], []⟩ [(pn, v)]) ∧ ∀ base : Heap, K.In base → base.Ns mainGlobals mg → FnOk P w K mg base CX0 k fa fd [pn] (spLaw K) := by
  obtain ⟨f, fd, F, hm⟩ := d
  rw [hfa] at hm
  cases hm
  obtain ⟨oc, od, kV, doc, pm, an, cdv, ct, osl, rfl, lk, hcd⟩ := id F.ex
  exact ⟨_, hb kV doc pm an cdv ct, fun base h1 h2 => law_imp (h base h1 h2 fa _ F)⟩
end
section
variable {X : Cx} {g : Gm} {l : List Res} {e c : Expr} {d : D} {p pos : Pos}
/-- isinstance(x, C) of a frozen instance of the class at D0 -/
theorem o_isi {C D0 : Addr} {fs : List (Str × D)} {b : Bool} (hc : Cls X.K D0) (hi : Isi X.K D0) (hk : PySem.W.kitOne X.K (.ref D0) (.ref C) = some b) : OpN X.K l (rIsi X.K) [.ins D0 fs, .adr C] (.bl b) := fun F M H vs Q eF eM dj rs f k => by
  cases f with
  | cons f1 f2 =>
    cases f2 with
    | cons f2 f3 =>
      cases f2; cases f3
      cases f1 with
      | ins h1 h2 =>
        exact ⟨_, _, _, _, b, rfl, .own C, .base (.ins (eF _ _ h1) hc hi.ha hi.hn hi.htk hi.hm), hk, k _ F H (.rf eF) (.bl _)⟩
/-- .. of flat things, lists and tuples, against a built-in class -/
def D.tyv : D → Option String
  | .non => some "NoneType" | .bl _ => some "bool" | .int _ => some "int" | .str _ => some "str" | .lst _ => some "list" | .tup _ => some "tuple" | .scr _ => some "list" | .dK _ => some "dict" | .dT _ => some "dict" | _ => none
theorem tyx_l {K : PySem.W.Frag} {H : Hp} {a : Addr} {xs : List V} (s : SqL K H a xs) : TyX K H (.ref a) (.type "list") := by
  rcases s with (s | ⟨o, s⟩) | ⟨o, its, n, h1, h2, _⟩
  · exact .base (.lst s)
  · exact .base (.frz s)
  · exact .kList h1 h2
theorem tyx_t {K : PySem.W.Frag} {H : Hp} {a : Addr} {xs : List V} (s : SqT K H a xs) : TyX K H (.ref a) (.type "tuple") := by
  rcases s with (s | ⟨o, s⟩) | ⟨o, its, n, h1, h2, _⟩
  · exact .base (.tup s)
  · exact .fTuple s
  · exact .kTuple h1 h2
theorem Fd.tyx {K : PySem.W.Frag} {F H : Hp} {v : V} {d : D} {t : String} (e : Ex F H) (f : Fd K F v d) (h : d.tyv = some t) : TyX K H v (.type t) := by
  cases f with
  | non => cases h; exact .base .non
  | bl b => cases h; exact .base (.bl b)
  | int i => cases h; exact .base (.int i)
  | str x => cases h; exact .base (.str x)
  | lst s a => cases h; exact tyx_l (SqL.of (e _ _ s))
  | scr s a => cases h; exact tyx_l (ex_l e s)
  | dK s a => cases h; exact .base (.dK (e _ _ s))
  | dT s a => cases h; exact .base (.dT (e _ _ s))
  | tup s a => cases h; exact tyx_t (ex_t e s)
  | adr a => cases h
  | ty n => cases h
  | ins a b => cases h
theorem o_isiT {t n : String} {b : Bool} (ht : d.tyv = some t) (hk : kitB t n = some b) : OpN X.K l (rIsi X.K) [d, .ty n] (.bl b) := fun F M H vs Q eF eM dj rs f k => by
  cases f with
  | cons f1 f2 =>
    cases f2 with
    | cons f2 f3 =>
      cases f2; cases f3
      exact ⟨_, _, _, _, b, rfl, .ty n, f1.tyx eF ht, kit_ty hk, k _ F H (.rf eF) (.bl _)⟩
theorem o_isiO {n : String} {b : Bool} {k : Nat} {p : Addr} {ds : List D} (hk : l[k]? = some (ownL X.K p ds)) (hb : kitB "list" n = some b) : OpN X.K l (rIsi X.K) [.adr p, .ty n] (.bl b) := fun F M H vs Q eF eM dj rs f kk => by
  cases f with
  | cons f1 f2 =>
    cases f2 with
    | cons f2 f3 =>
      cases f2; cases f3; cases f1
      obtain ⟨ws, _, hp⟩ := rs.own hk eM
      exact ⟨_, _, _, _, b, rfl, .ty n, tyx_l (SqL.of hp), kit_ty hb, kk _ F H (.rf eF) (.bl _)⟩
theorem px_bi {id : String} {x : Str} {r : List V → Hp → VK → Prop} {e1 : Expr} {e2 : List Expr} {ds : List D} (hc : CallR X (.builtin id) r) (hm : X.mg x = none) (ha : Pa X (e1 :: e2) g l ds) (hr : OpN X.K l r ds d) (hg : Gl X x := by rfl) (hv : bootBuiltins x = some (.builtin id) := by decide +kernel) (hn : x ≠ "__name__" := by decide) (hdb : (x == ("__debug__" : Str)) = false := by decide)
    (hs : starEach (e1 :: e2) X.env = (false, eval e1 X.env) :: starEach e2 X.env := by rfl) (hpl : (backTo pos (starEach e2 X.env)).any (·.1) = false := by rfl) : Px X (.Call (.Name x p) (e1 :: e2) [] pos) g l d := px_b (ds := ds) (pe_callB hc hg hm hv pa_wp hn hdb hs hpl) hr ha
theorem px_ty {T : String} {x : Str} {r : List V → Hp → VK → Prop} {e1 : Expr} {e2 : List Expr} {ds : List D} (hc : CallR X (.type T) r) (hm : X.mg x = none) (ha : Pa X (e1 :: e2) g l ds) (hr : OpN X.K l r ds d) (hg : Gl X x := by rfl) (hv : bootBuiltins x = some (.type T) := by decide +kernel) (hn : x ≠ "__name__" := by decide) (hdb : (x == ("__debug__" : Str)) = false := by decide)
    (hs : starEach (e1 :: e2) X.env = (false, eval e1 X.env) :: starEach e2 X.env := by rfl) (hpl : (backTo pos (starEach e2 X.env)).any (·.1) = false := by rfl) : Px X (.Call (.Name x p) (e1 :: e2) [] pos) g l d := px_b (ds := ds) (pe_callTy hc hg hm hv pa_wp hn hdb hs hpl) hr ha
/-- a class of the module, a built-in class, as a value -/
theorem px_cls {C : Addr} {x : Str} (h : X.mg x = some (.ref C)) (hg : Gl X x := by rfl) (hd : (x == ("__debug__" : Str)) = false := by decide) : Px X (.Name x pos) g l (.adr C) := px_c (pe_glob (v := .ref C) hg h rfl hd) fun _ => .adr C
theorem px_tyn {x : Str} {n : String} (hm : X.mg x = none) (hv : bootBuiltins x = some (.type n) := by decide +kernel) (hg : Gl X x := by rfl) (hn : x ≠ "__name__" := by decide) (hd : (x == ("__debug__" : Str)) = false := by decide) : Px X (.Name x pos) g l (.ty n) := px_c (pe_bltn (v := .ty n) hg hm hv rfl hn hd) fun _ => .ty n
theorem px_gi {x : Str} {i : Int} (h : ∃ t, X.mg x = some (.int i t)) (hg : Gl X x := by rfl) (hd : (x == ("__debug__" : Str)) = false := by decide) : Px X (.Name x pos) g l (.int i) := by
  obtain ⟨t, h⟩ := h
  exact px_c (pe_glob (v := .int i) hg h ⟨t, rfl⟩ hd) fun _ => .int i
theorem px_gs {x z : Str} (h : ∃ t, X.mg x = some (.str z t)) (hg : Gl X x := by rfl) (hd : (x == ("__debug__" : Str)) = false := by decide) : Px X (.Name x pos) g l (.str z) := by
  obtain ⟨t, h⟩ := h
  exact px_c (pe_glob (v := .str z) hg h ⟨t, rfl⟩ hd) fun _ => .str z
theorem px_isT (n t : String) (b : Bool) {x : Str} {p2 : Pos} (z : X.mg "isinstance" = none) (zx : X.mg x = none) (h : Px X e g l d) (ht : d.tyv = some t := by rfl) (hk : kitB t n = some b := by decide +kernel) (hv : bootBuiltins x = some (.type n) := by decide +kernel)
    (hg : Gl X "isinstance" := by rfl) (hgx : Gl X x := by rfl) (hn : x ≠ "__name__" := by decide) (hd : (x == ("__debug__" : Str)) = false := by decide)
    (hs : starEach [e, .Name x p2] X.env = (false, eval e X.env) :: starEach [.Name x p2] X.env := by rfl) (hs2 : starEach [.Name x p2] X.env = [(false, eval (.Name x p2) X.env)] := by rfl) (hpl : (backTo pos (starEach [.Name x p2] X.env)).any (·.1) = false := by rfl) :
    Px X (.Call (.Name "isinstance" p) [e, .Name x p2] [] pos) g l (.bl b) := px_bi call_isi z (pa_c h (pa_c (px_tyn zx hv hgx hn hd) pa_n hs2) hs) (o_isiT ht hk) hg (by decide +kernel) (by decide) (by decide) hs hpl
theorem px_isC {C D0 : Addr} {fs : List (Str × D)} {b : Bool} {x : Str} {p2 : Pos} (z : X.mg "isinstance" = none) (zx : X.mg x = some (.ref C)) (h : Px X e g l (.ins D0 fs)) (hc : Cls X.K D0) (hi : Isi X.K D0) (hk : PySem.W.kitOne X.K (.ref D0) (.ref C) = some b)
    (hg : Gl X "isinstance" := by rfl) (hgx : Gl X x := by rfl) (hd : (x == ("__debug__" : Str)) = false := by decide)
    (hs : starEach [e, .Name x p2] X.env = (false, eval e X.env) :: starEach [.Name x p2] X.env := by rfl) (hs2 : starEach [.Name x p2] X.env = [(false, eval (.Name x p2) X.env)] := by rfl) (hpl : (backTo pos (starEach [.Name x p2] X.env)).any (·.1) = false := by rfl) :
    Px X (.Call (.Name "isinstance" p) [e, .Name x p2] [] pos) g l (.bl b) := px_bi call_isi z (pa_c h (pa_c (px_cls zx hgx hd) pa_n hs2) hs) (o_isi hc hi hk) hg (by decide +kernel) (by decide) (by decide) hs hpl
end
section
variable {K : PySem.W.Frag} {l : List Res} {d : D}
/-- len, str, int, list, tuple, max, min -/
abbrev rLen1 (K : PySem.W.Frag) : List V → Hp → VK → Prop := fun xs H Q => ∃ p ys, xs = [.ref p] ∧ (SqL K H p ys ∨ SqT K H p ys) ∧ Q (.int ys.length) H
theorem o_len {ds : List D} {d0 : D} (h : d0 = .lst ds ∨ d0 = .tup ds ∨ d0 = .scr ds) : OpN K l (rLen1 K) [d0] (.int ds.length) := fun F M H vs Q eF eM dj rs f k => by
  cases f with
  | cons f1 f2 =>
    cases f2
    rcases h with rfl | rfl | rfl
    · cases f1 with
      | lst s a =>
        refine ⟨_, _, rfl, .inl (SqL.of (eF _ _ s)), ?_⟩
        rw [a.length]
        exact k _ F H (.rf eF) (.int _)
    · cases f1 with
      | tup s a =>
        refine ⟨_, _, rfl, .inr (ex_t eF s), ?_⟩
        rw [a.length]
        exact k _ F H (.rf eF) (.int _)
    · cases f1 with
      | scr s a =>
        refine ⟨_, _, rfl, .inl (ex_l eF s), ?_⟩
        rw [a.length]
        exact k _ F H (.rf eF) (.int _)
theorem o_lenL {ds : List D} : OpN K l (rLen1 K) [.lst ds] (.int ds.length) := o_len (.inl rfl)
theorem o_lenT {ds : List D} : OpN K l (rLen1 K) [.tup ds] (.int ds.length) := o_len (.inr (.inl rfl))
theorem o_lenR {ds : List D} : OpN K l (rLen1 K) [.scr ds] (.int ds.length) := o_len (.inr (.inr rfl))
theorem o_lenO {k : Nat} {p : Addr} {ds : List D} (hk : l[k]? = some (ownL K p ds)) : OpN K l (rLen1 K) [.adr p] (.int ds.length) := fun F M H vs Q eF eM dj rs f kk => by
  cases f with
  | cons f1 f2 =>
    cases f2; cases f1
    obtain ⟨ws, fw, hp⟩ := rs.own hk eM
    refine ⟨_, _, rfl, .inl (SqL.of hp), ?_⟩
    rw [fw.length]
    exact kk _ F H (.rf eF) (.int _)
theorem o_lenS {x : Str} (h : x.length ≤ sizeLine) : OpN K l (fun xs H Q => ∃ z, xs = [.str z] ∧ z.length ≤ sizeLine ∧ Q (.int z.length) H) [.str x] (.int x.length) := fun F M H vs Q eF eM dj rs f k => by
  cases f with
  | cons f1 f2 =>
    cases f2; cases f1
    exact ⟨x, rfl, h, k _ F H (.rf eF) (.int _)⟩
theorem o_str {i : Int} (h : i.natAbs.log2 < 1920) : OpN K l (fun xs H Q => ∃ i, xs = [.int i] ∧ i.natAbs.log2 < 1920 ∧ Q (.str (toString i)) H) [.int i] (.str (toString i)) := fun F M H vs Q eF eM dj rs f k => by
  cases f with
  | cons f1 f2 =>
    cases f2; cases f1
    exact ⟨i, rfl, h, k _ F H (.rf eF) (.str _)⟩
theorem o_max2 {i j : Int} : OpN K l (fun xs H Q => ∃ i j, xs = [.int i, .int j] ∧ Q (.int (if j > i then j else i)) H) [.int i, .int j] (.int (max i j)) := fun F M H vs Q eF eM dj rs f k => by
  cases f with
  | cons f1 f2 =>
    cases f2 with
    | cons f2 f3 =>
      cases f3; cases f1; cases f2
      refine ⟨i, j, rfl, ?_⟩
      have e : (if j > i then j else i) = max i j := by
        by_cases q : j > i
        · rw [if_pos q, Int.max_eq_right (by omega)]
        · rw [if_neg q, Int.max_eq_left (by omega)]
      rw [e]
      exact k _ F H (.rf eF) (.int _)
theorem o_min2 {i j : Int} : OpN K l (fun xs H Q => ∃ i j, xs = [.int i, .int j] ∧ Q (.int (if j < i then j else i)) H) [.int i, .int j] (.int (min i j)) := fun F M H vs Q eF eM dj rs f k => by
  cases f with
  | cons f1 f2 =>
    cases f2 with
    | cons f2 f3 =>
      cases f3; cases f1; cases f2
      refine ⟨i, j, rfl, ?_⟩
      have e : (if j < i then j else i) = min i j := by
        by_cases q : j < i
        · rw [if_pos q, Int.min_eq_right (by omega)]
        · rw [if_neg q, Int.min_eq_left (by omega)]
      rw [e]
      exact k _ F H (.rf eF) (.int _)
/-- an item at a place that lies in it -/
theorem atI_in {α : Type} {xs : List α} {i : Int} {x0 : α} (h0 : 0 ≤ i) (h1 : i < xs.length) : atI xs i = some (xs.getD i.toNat x0) := by
  have h2 : i.toNat < xs.length := by omega
  unfold atI ixN
  rw [if_pos h0, if_pos h1]
  show xs[i.toNat]? = _
  rw [List.getElem?_eq_getElem h2, List.getD_eq_getElem?_getD, List.getElem?_eq_getElem h2]
  rfl
theorem atI_map {α β : Type} {f : α → β} {xs : List α} {i : Int} {y : α} (h : atI xs i = some y) : atI (xs.map f) i = some (f y) := by
  unfold atI at h ⊢
  rw [List.length_map]
  cases e : ixN xs.length i with
  | none => rw [e] at h; cases h
  | some n =>
    rw [e] at h
    show (xs.map f)[n]? = some (f y)
    have h' : xs[n]? = some y := h
    rw [List.getElem?_map, h']
    rfl
end
/-- a class without an __init__ of its own -/
structure Mk0 (K : PySem.W.Frag) (C : Addr) : Prop where
  (makes : PySem.W.makesIn K C = true) (kp : PySem.W.keepIn K (.ref C) = true) (init : PySem.W.findIn K (.ref C) "__init__" = some (some (.builtin "object.__init__")))
section
open PySem.W in
theorem make_plain {prog : Program} {w : World} {A : Around} {K : PySem.W.Frag} {C : Addr} {R : Result → Shared → Prop} {s : Shared} (X : K.In s.heap) (m : Mk0 K C)
    (h : R (.ok (.ret (.ref (s.heap.objs.size + 1)))) { s with heap := (s.heap.push emptyDict).push (instObj C s.heap.objs.size) }) : codeAny (model prog w) A (.call (.ref C) ⟨[], []⟩) R s := by
  obtain ⟨hh, g, d, t, os⟩ := s
  have Y := makes_of (M := model prog w) X m.makes
  have hx : ((hh.push emptyDict).push (instObj C hh.objs.size)).get? (hh.objs.size + 1) = some (instObj C hh.objs.size) := by heap_get
  refine make_core Y (looks_findIn X m.init) (fun self => Looks.of_pure (oi_bind self)) (.inr ⟨rfl, rfl⟩) ?_
  refine codeAny_call_builtin oi_plain entry_oi (@check_slot (model prog w) _ _ _ "object.__init__" "object" "__init__" (.ref (hh.objs.size + 1)) [] [] _ oi_kind oi_split
    (((Looks.ld hx).andThen .now : Looks (model prog w) _ (typeOf (.ref (hh.objs.size + 1))) (.ref C)).andThen (Y.top.keeps fun _ _ q => Heap.get?_push_of_some _ (Heap.get?_push_of_some _ q))) (oi_args _) (by rw [oi_run]; exact wpAny_pure ⟨rfl, h⟩))
end
section
variable {X : Cx} {g : Gm} {l : List Res} {p pos : Pos} {C : Addr} {x : Str}
theorem pe_makeN (m : Mk0 X.K C) (hg : Gl X x) (hm : X.mg x = some (.ref C)) (hdb : (x == ("__debug__" : Str)) = false := by decide) :
    PE X (.Call (.Name x p) [] [] pos) (fun _ H Q => ∀ q dx, H q = none → H dx = none → dx ≠ q → Q (.ref q) (upd (upd H dx (.own q)) q (.ins C dx []))) := by
  refine ⟨fun pins st sg Hh Q iv h => wpAny_Call_Name_kw (ld_glob iv hg hm (PySem.W.callWith_K0 iv.kIn m.kp (wpAny_call (make_plain iv.kIn m ⟨V.ref (st.heap.objs.size + 1), _, Inv.made (C := C) iv, rfl, ?_⟩))) hdb)⟩
  exact h _ _ (iv.hok.fresh (Nat.le_succ _)) (iv.hok.fresh (Nat.le_refl _)) (Nat.ne_of_lt (Nat.lt_succ_self _))
/-- C(), frozen -/
theorem px_make0 (m : Mk0 X.K C) (hm : X.mg x = some (.ref C)) (hg : Gl X x := by rfl) (hdb : (x == ("__debug__" : Str)) = false := by decide) : Px X (.Call (.Name x p) [] [] pos) g l (.ins C []) := fun en T σ H Q s k => wpE_of (pe_makeN m hg hm hdb) (by
  intro q dx nx ndx ne
  obtain ⟨F, M, a⟩ := s
  have n1 := New.upd (o := .own q) a.exF ndx
  have nq : (upd H dx (.own q)) q = none := by rw [upd_ne (Ne.symm ne)]; exact nx
  have n2 := New.upd (o := .ins C dx []) n1.i nq
  have n := n1.tr n2
  exact k _ _ ⟨_, M, (a.new n).tmp ⟨.ins upd_same .nil, T.mono n.f a.tm⟩⟩)
end
end Sx
set_option Elab.async false
set_option linter.all false
set_option maxRecDepth 100000
set_option maxHeartbeats 2000000
/-! More rules: owned things read as if frozen, slices, new lists, texts. -/
namespace Sx
open PySem L2
section
variable {K : PySem.W.Frag} {l : List Res} {d d1 d2 : D} {ds es : List D}
/-- a list: frozen or owned -/
inductive Lv (K : PySem.W.Frag) (l : List Res) : D → List D → Prop
  | f {ds : List D} : Lv K l (.lst ds) ds
  | o {k : Nat} {p : Addr} {ds : List D} (h : l[k]? = some (ownL K p ds)) : Lv K l (.adr p) ds
/-- .. or the script -/
inductive Lq (K : PySem.W.Frag) (l : List Res) : D → List D → Prop
  | v {d : D} {ds : List D} (h : Lv K l d ds) : Lq K l d ds
  | s {ds : List D} : Lq K l (.scr ds) ds
/-- .. or a tuple -/
inductive Sv (K : PySem.W.Frag) (l : List Res) : D → List D → Prop
  | q {d : D} {ds : List D} (h : Lq K l d ds) : Sv K l d ds
  | t {ds : List D} : Sv K l (.tup ds) ds
abbrev Lq.f : Lq K l (.lst ds) ds := .v .f
abbrev Lq.o {k : Nat} {p : Addr} (h : l[k]? = some (ownL K p ds)) : Lq K l (.adr p) ds := .v (.o h)
abbrev Sv.f : Sv K l (.lst ds) ds := .q (.v .f)
abbrev Sv.o {k : Nat} {p : Addr} (h : l[k]? = some (ownL K p ds)) : Sv K l (.adr p) ds := .q (.v (.o h))
abbrev Sv.s : Sv K l (.scr ds) ds := .q .s
theorem Lv.get {F M H : Hp} {v : V} (h : Lv K l d ds) (eF : Ex F H) (eM : Ex M H) (rs : Rs l F M) (f : Fd K F v d) : ∃ a vs, v = .ref a ∧ H a = some (.lst vs) ∧ FdAll K F vs ds := by
  cases h with
  | f => cases f with | lst s a => exact ⟨_, _, rfl, eF _ _ s, a⟩
  | o h =>
    cases f
    obtain ⟨vs, f, hp⟩ := rs.own h eM
    exact ⟨_, vs, rfl, hp, f⟩
theorem Lq.get {F M H : Hp} {v : V} (h : Lq K l d ds) (eF : Ex F H) (eM : Ex M H) (rs : Rs l F M) (f : Fd K F v d) : ∃ a vs, v = .ref a ∧ SqL K H a vs ∧ FdAll K F vs ds := by
  cases h with
  | v h =>
    obtain ⟨a, vs, e, hp, f⟩ := h.get eF eM rs f
    exact ⟨a, vs, e, SqL.of hp, f⟩
  | s => cases f with | scr s a => exact ⟨_, _, rfl, ex_l eF s, a⟩
theorem Sv.get {F M H : Hp} {v : V} (h : Sv K l d ds) (eF : Ex F H) (eM : Ex M H) (rs : Rs l F M) (f : Fd K F v d) : ∃ a vs, v = .ref a ∧ (SqL K H a vs ∨ SqT K H a vs) ∧ FdAll K F vs ds := by
  cases h with
  | q h =>
    obtain ⟨a, vs, e, hp, f⟩ := h.get eF eM rs f
    exact ⟨a, vs, e, .inl hp, f⟩
  | t => cases f with | tup s a => exact ⟨_, _, rfl, .inr (ex_t eF s), a⟩
end
section
variable {X : Cx} {W : WX} {g g' : Gm} {l l' : List Res} {Φ : Po} {e e2 a b c o : Expr} {es : List Expr} {d d1 d2 d3 : D} {ds ds1 ds2 : List D} {pos p p2 : Pos} {rest : List Stmt}
/-! ### owned things read as if frozen -/
theorem Px.all (h : Px X e g [] d) : Px X e g l d := by
  induction l with
  | nil => exact h
  | cons r l ih => exact ih.fr
/-- what is scalar, got with an owned list taken for frozen -/
theorem px_brw {i k : Nat} {q : Addr} {v0 : V} (hi : nth g i = some (.adr q)) (hk : l[k]? = some (ownL X.K q ds)) (hd : d.v = some v0) (h : Px X e (g.set i (some (.lst ds))) [] d) : Px X e g l d := fun en T σ H Q s kk => by
  obtain ⟨F, M, a⟩ := s
  obtain ⟨A, B, hM, dj, ⟨vs, fvs, rfl⟩, _⟩ := Rs.at hk a.rs
  have hH : H q = some (.lst vs) := a.exM q _ (by rw [hM]; exact join_l one_same)
  have hF : F q = none := a.dj.sym q _ (by rw [hM]; exact join_l one_same)
  have eF : Ex F (join F (one q (.lst vs))) := fun x o h => join_l h
  have e1 : Ex (join F (one q (.lst vs))) H := a.exF.join fun x o z => by obtain ⟨rfl, rfl⟩ := one_some z; exact hH
  have hs : Sl X.K (join F (one q (.lst vs))) (g.set i (some (.lst ds))) σ := by
    obtain ⟨v, hv, fv⟩ := a.sl.nth hi
    cases fv
    have w := (a.sl.mono eF).set i (d := .lst ds) (v := .ref q) (.lst (by rw [join_r hF]; exact one_same) (fvs.mono eF))
    have e : σ.set i (some (.ref q)) = σ := by
      apply List.ext_getElem?
      intro j
      by_cases z : j = i
      · subst z
        obtain ⟨h1, h2⟩ := List.getElem?_eq_some_iff.mp hv
        rw [List.getElem?_set_self h1, hv]
      · rw [List.getElem?_set_ne (Ne.symm z)]
    rw [e] at w
    exact w
  refine h ⟨join F (one q (.lst vs)), emp, H⟩ Tm.tt σ H Q ⟨_, emp, At.entry e1 (fun _ _ z => by cases z) (.emp _) hs trivial rfl⟩ fun v H' s' => ?_
  obtain ⟨F', M', b⟩ := s'
  have hv := D.v_eq b.tm.1 hd
  subst hv
  have n : New F H F H' := New.grow a.exF fun x o z => b.fr x o z rfl
  refine kk _ H' ⟨F, M, (a.new n).tmp ⟨?_, a.tm⟩⟩
  cases d <;> first | (cases hd; constructor) | cases hd
theorem ts_brw {i k : Nat} {q : Addr} {kb : Bool} (hi : nth g i = some (.adr q)) (hk : l[k]? = some (ownL X.K q ds)) (h : Ts X e (g.set i (some (.lst ds))) [] kb) : Ts X e g l kb := fun en T σ H Q s kk => by
  obtain ⟨F, M, a⟩ := s
  obtain ⟨A, B, hM, dj, ⟨vs, fvs, rfl⟩, _⟩ := Rs.at hk a.rs
  have hH : H q = some (.lst vs) := a.exM q _ (by rw [hM]; exact join_l one_same)
  have hF : F q = none := a.dj.sym q _ (by rw [hM]; exact join_l one_same)
  have eF : Ex F (join F (one q (.lst vs))) := fun x o h => join_l h
  have e1 : Ex (join F (one q (.lst vs))) H := a.exF.join fun x o z => by obtain ⟨rfl, rfl⟩ := one_some z; exact hH
  have hs : Sl X.K (join F (one q (.lst vs))) (g.set i (some (.lst ds))) σ := by
    obtain ⟨v, hv, fv⟩ := a.sl.nth hi
    cases fv
    have w := (a.sl.mono eF).set i (d := .lst ds) (v := .ref q) (.lst (by rw [join_r hF]; exact one_same) (fvs.mono eF))
    have e : σ.set i (some (.ref q)) = σ := by
      apply List.ext_getElem?
      intro j
      by_cases z : j = i
      · subst z
        obtain ⟨h1, h2⟩ := List.getElem?_eq_some_iff.mp hv
        rw [List.getElem?_set_self h1, hv]
      · rw [List.getElem?_set_ne (Ne.symm z)]
    rw [e] at w
    exact w
  refine h ⟨join F (one q (.lst vs)), emp, H⟩ Tm.tt σ H Q ⟨_, emp, At.entry e1 (fun _ _ z => by cases z) (.emp _) hs trivial rfl⟩ fun H' s' => ?_
  obtain ⟨F', M', b⟩ := s'
  have n : New F H F H' := New.grow a.exF fun x o z => b.fr x o z rfl
  exact kk H' ⟨F, M, a.new n⟩
/-! ### new lists -/
abbrev NewL (X : Cx) (g : Gm) (l : List Res) (t : TE) (ds : List D) : Prop := ∀ en T σ H (Q : VK), S X.K en g T l σ H → (∀ p ws H1 F M, At X.K en g T l σ H1 F M → FdAll X.K F ws ds → H1 p = none → Q (.ref p) (upd H1 p (.lst ws))) → t σ H Q
abbrev EvL (X : Cx) (e : Expr) (g : Gm) (l : List Res) (ds : List D) : Prop := Ev X e g l (fun d' l' => ∃ p, d' = .adr p ∧ l' = ownL X.K p ds :: l)
theorem ev_new {t : TE} (he : PE X e t) (h : NewL X g l t ds) : EvL X e g l ds := fun en T σ H Q s k => wpE_of he (h en T σ H Q s fun p ws H1 F M q f hp => by
  have q3 := q.newO (r := ownL X.K p ds) (A := one p (.lst ws)) (H' := upd H1 p (.lst ws)) (.new hp) (fun x o z => by obtain ⟨rfl, rfl⟩ := one_some z; exact upd_same) (fun x o z => by obtain ⟨rfl, rfl⟩ := one_some z; exact hp) ⟨ws, f, rfl⟩
  exact k _ (.adr p) _ _ ⟨p, rfl, rfl⟩ ⟨F, _, q3.tmp ⟨.adr p, q.tm⟩⟩)
/-! ### slices -/
def cut {α : Type} (xs : List α) (lo hi : Option Int) : List α := (xs.drop (HT.sIx xs.length 0 lo)).take (HT.sIx xs.length xs.length hi - HT.sIx xs.length 0 lo)
theorem cut_all {α : Type} {xs : List α} : cut xs none none = xs := by
  unfold cut
  show (xs.drop 0).take (xs.length - 0) = xs
  rw [List.drop_zero, Nat.sub_zero, List.take_length]
theorem cut_take {α : Type} {xs : List α} {n : Int} (h : 0 ≤ n) : cut xs none (some n) = xs.take n.toNat := by
  unfold cut
  have e : HT.sIx xs.length xs.length (some n) = min n.toNat xs.length := by
    show (if n < 0 then _ else _) = _
    rw [if_neg (by omega)]
  rw [e]
  show (xs.drop 0).take (min n.toNat xs.length - 0) = _
  rw [List.drop_zero, Nat.sub_zero, ← List.take_take, List.take_length]
theorem cut_drop {α : Type} {xs : List α} {n : Int} (h : 0 ≤ n) : cut xs (some n) none = xs.drop n.toNat := by
  unfold cut
  have e : HT.sIx xs.length 0 (some n) = min n.toNat xs.length := by
    show (if n < 0 then _ else _) = _
    rw [if_neg (by omega)]
  rw [e]
  show (xs.drop (min n.toNat xs.length)).take (xs.length - min n.toNat xs.length) = _
  by_cases z : n.toNat ≤ xs.length
  · rw [Nat.min_eq_left z, List.take_of_length_le (by rw [List.length_drop]; exact Nat.le_refl _)]
  · rw [Nat.min_eq_right (by omega), List.drop_length, List.drop_eq_nil_of_le (by omega), List.take_nil]
theorem FdAll.cut {K : PySem.W.Frag} {F : Hp} {vs : List V} {ds : List D} (f : FdAll K F vs ds) (lo hi : Option Int) : FdAll K F (cutV vs lo hi) (cut ds lo hi) := by
  unfold cutV Sx.cut
  rw [f.length]
  exact (f.drop _).take _
/-- a slice's part -/
def Pz (X : Cx) (e : Option Expr) (g : Gm) (l : List Res) (o : Option Int) : Prop := ∃ t, PO X e t ∧ ∀ en T σ H (R : Option Int → Hp → Prop), S X.K en g T l σ H → (∀ H', S X.K en g T l σ H' → R o H') → t σ H R
theorem pz_n : Pz X none g l none := ⟨_, po_none, fun en T σ H R s k => k H s⟩
theorem pz_s {i : Int} (h : Px X e g l (.int i)) : Pz X (some e) g l (some i) := ⟨_, po_some pe_wp, fun en T σ H R s k => h en T σ H _ s fun v H' s' => by
  obtain ⟨F, M, q⟩ := s'
  have f := q.tm.1
  cases f
  exact ⟨i, rfl, k H' ⟨F, M, q.tmp q.tm.2⟩⟩⟩
theorem ev_slL {lo hi : Option Expr} {i j : Option Int} (ho : Px X o g l d) (hd : Lq X.K l d ds) (hl : Pz X lo g l i) (hu : Pz X hi g l j) : EvL X (.Subscript o (.Slice lo hi none p2) pos) g l (cut ds i j) := by
  obtain ⟨tl, pl, hl⟩ := hl
  obtain ⟨tu, pu, hu⟩ := hu
  refine ev_new (pe_slice sl_list pe_wp pl pu) fun en T σ H Q s k => ?_
  refine ho en T σ H _ s fun v H1 s1 => ?_
  refine hl en _ σ H1 _ s1 fun H2 s2 => ?_
  refine hu en _ σ H2 _ s2 fun H3 s3 => ?_
  obtain ⟨F, M, q⟩ := s3
  obtain ⟨a, vs, rfl, sq, f⟩ := hd.get q.exF q.exM q.rs q.tm.1
  exact ⟨a, vs, rfl, sq, fun p hp => k p _ H3 F M (q.tmp q.tm.2) (f.cut i j) hp⟩
theorem px_slL {lo hi : Option Expr} {i j : Option Int} (ho : Px X o g l d) (hd : Lq X.K l d ds) (hl : Pz X lo g l i) (hu : Pz X hi g l j) : Px X (.Subscript o (.Slice lo hi none p2) pos) g l (.lst (cut ds i j)) := (ev_slL ho hd hl hu).frz
theorem px_slT {lo hi : Option Expr} {i j : Option Int} (ho : Px X o g l (.tup ds)) (hl : Pz X lo g l i) (hu : Pz X hi g l j) : Px X (.Subscript o (.Slice lo hi none p2) pos) g l (.tup (cut ds i j)) := fun en T σ H Q s k => by
  obtain ⟨tl, pl, hl⟩ := hl
  obtain ⟨tu, pu, hu⟩ := hu
  refine wpE_of (pe_slice sl_tupA pe_wp pl pu) ?_
  refine ho en T σ H _ s fun v H1 s1 => ?_
  refine hl en _ σ H1 _ s1 fun H2 s2 => ?_
  refine hu en _ σ H2 _ s2 fun H3 s3 => ?_
  obtain ⟨F, M, q⟩ := s3
  obtain ⟨f, t⟩ := q.tm
  cases f with
  | tup sq f =>
    rename_i a vs
    refine ⟨a, vs, rfl, ex_t q.exF sq, fun hw => ?_, fun hw p hp => ?_⟩
    · refine k _ H3 ⟨F, M, q.tmp ⟨?_, t⟩⟩
      have e : cut ds i j = ds := by
        unfold cut
        rw [← f.length, hw.1, hw.2, List.drop_zero, Nat.sub_zero, f.length, List.take_length]
      rw [e]
      exact .tup sq f
    · have n := New.upd (o := .tup (cutV vs i j)) q.exF hp
      exact k _ _ ⟨_, M, (q.new n).tmp ⟨.tup (SqT.of upd_same) (FdAll.mono n.f _ (f.cut i j)), T.mono n.f t⟩⟩
theorem px_slS {lo hi : Option Expr} {i j : Option Int} {x : Str} (ho : Px X o g l (.str x)) (hx : x.length ≤ sizeLine) (hl : Pz X lo g l i) (hu : Pz X hi g l j) : Px X (.Subscript o (.Slice lo hi none p2) pos) g l (.str (cutS x i j)) := fun en T σ H Q s k => by
  obtain ⟨tl, pl, hl⟩ := hl
  obtain ⟨tu, pu, hu⟩ := hu
  refine wpE_of (pe_slice sl_str pe_wp pl pu) ?_
  refine ho en T σ H _ s fun v H1 s1 => ?_
  refine hl en _ σ H1 _ s1 fun H2 s2 => ?_
  refine hu en _ σ H2 _ s2 fun H3 s3 => ?_
  obtain ⟨F, M, q⟩ := s3
  obtain ⟨f, t⟩ := q.tm
  cases f
  exact ⟨x, rfl, hx, k _ H3 ⟨F, M, q.tmp ⟨.str _, t⟩⟩⟩
/-! ### + and * of lists, list(x), tuple(x) -/
theorem ev_cat (ha : Px X a g l d1) (hb : Px X b g l d2) (h1 : Lv X.K l d1 ds1) (h2 : Lv X.K l d2 ds2) (hz : ds1.length + ds2.length ≤ sizeLine) : EvL X (.BinOp a .Add b pos) g l (ds1 ++ ds2) :=
  ev_new (pe_op op_cat pe_wp pe_wp) fun en T σ H Q s k => by
  refine ha en T σ H _ s fun v H1 s1 => ?_
  refine hb en _ σ H1 _ s1 fun u H2 s2 => ?_
  obtain ⟨F, M, q⟩ := s2
  obtain ⟨x, vs, rfl, g1, f1⟩ := h1.get q.exF q.exM q.rs q.tm.2.1
  obtain ⟨y, ws, rfl, g2, f2⟩ := h2.get q.exF q.exM q.rs q.tm.1
  exact ⟨x, y, vs, ws, rfl, rfl, g1, g2, by rw [f1.length, f2.length]; exact hz, fun p hp => k p _ H2 F M (q.tmp q.tm.2.2) (f1.app f2) hp⟩
theorem px_cat (ha : Px X a g l d1) (hb : Px X b g l d2) (h1 : Lv X.K l d1 ds1) (h2 : Lv X.K l d2 ds2) (hz : ds1.length + ds2.length ≤ sizeLine) : Px X (.BinOp a .Add b pos) g l (.lst (ds1 ++ ds2)) := (ev_cat ha hb h1 h2 hz).frz
theorem FdAll.rep {K : PySem.W.Frag} {F : Hp} {vs : List V} {ds : List D} (f : FdAll K F vs ds) : ∀ n, FdAll K F (List.replicate n vs).flatten (List.replicate n ds).flatten
  | 0 => .nil
  | n + 1 => by
    rw [List.replicate_succ, List.replicate_succ, List.flatten_cons, List.flatten_cons]
    exact f.app (FdAll.rep f n)
theorem ev_rep {i : Int} (ha : Px X a g l d1) (hb : Px X b g l (.int i)) (h1 : Lv X.K l d1 ds) (hi : -(2 ^ 63) ≤ i ∧ i < 2 ^ 63) (hz : ds.length * i.toNat ≤ sizeLine) : EvL X (.BinOp a .Mult b pos) g l (List.replicate i.toNat ds).flatten :=
  ev_new (pe_op op_rep pe_wp pe_wp) fun en T σ H Q s k => by
  refine ha en T σ H _ s fun v H1 s1 => ?_
  refine hb en _ σ H1 _ s1 fun u H2 s2 => ?_
  obtain ⟨F, M, q⟩ := s2
  obtain ⟨x, vs, rfl, g1, f1⟩ := h1.get q.exF q.exM q.rs q.tm.2.1
  have f2 := q.tm.1
  cases f2
  exact ⟨x, i, vs, rfl, rfl, g1, hi.1, hi.2, by rw [f1.length]; exact hz, fun p hp => k p _ H2 F M (q.tmp q.tm.2.2) (f1.rep _) hp⟩
theorem ev_listOf {e1 : Expr} (ha : Px X e1 g l d) (hd : Sv X.K l d ds) (hm : X.mg "list" = none) (hg : Gl X "list" := by rfl) (hs : starEach [e1] X.env = (false, eval e1 X.env) :: starEach [] X.env := by rfl) : EvL X (.Call (.Name "list" p) [e1] [] pos) g l ds :=
  ev_new (pe_callTy call_list_of hg hm (by decide +kernel) (pa_wp (es := [e1])) (by decide) (by decide) hs rfl) fun en T σ H Q s k => by
  refine pa_c ha pa_n hs en T σ H _ s fun vs H1 s1 => ?_
  obtain ⟨F, M, q⟩ := s1
  obtain ⟨f, t⟩ := q.tm
  cases f with
  | cons f1 f2 =>
    cases f2
    obtain ⟨a, ws, rfl, sq, f⟩ := hd.get q.exF q.exM q.rs f1
    exact ⟨a, ws, rfl, sq, fun p hp => k p _ H1 F M (q.tmp t) f hp⟩
theorem px_listOf {e1 : Expr} (ha : Px X e1 g l d) (hd : Sv X.K l d ds) (hm : X.mg "list" = none) (hg : Gl X "list" := by rfl) (hs : starEach [e1] X.env = (false, eval e1 X.env) :: starEach [] X.env := by rfl) : Px X (.Call (.Name "list" p) [e1] [] pos) g l (.lst ds) := (ev_listOf ha hd hm hg hs).frz
theorem px_tupOf {e1 : Expr} (ha : Px X e1 g l d) (hd : Lq X.K l d ds) (hm : X.mg "tuple" = none) (hg : Gl X "tuple" := by rfl) (hs : starEach [e1] X.env = (false, eval e1 X.env) :: starEach [] X.env := by rfl) : Px X (.Call (.Name "tuple" p) [e1] [] pos) g l (.tup ds) := fun en T σ H Q s k =>
  wpE_of (pe_callTy call_tuple_of hg hm (by decide +kernel) (pa_wp (es := [e1])) (by decide) (by decide) hs rfl) (by
  refine pa_c ha pa_n hs en T σ H _ s fun vs H1 s1 => ?_
  obtain ⟨F, M, q⟩ := s1
  obtain ⟨f, t⟩ := q.tm
  cases f with
  | cons f1 f2 =>
    cases f2
    obtain ⟨a, ws, rfl, sq, f⟩ := hd.get q.exF q.exM q.rs f1
    refine ⟨a, ws, rfl, .inl ⟨sq, fun p hp => ?_⟩⟩
    have n := New.upd (o := .tup ws) q.exF hp
    exact k _ _ ⟨_, M, (q.new n).tmp ⟨.tup (SqT.of upd_same) (FdAll.mono n.f _ f), T.mono n.f t⟩⟩)
theorem px_tupOfT {e1 : Expr} (ha : Px X e1 g l (.tup ds)) (hm : X.mg "tuple" = none) (hg : Gl X "tuple" := by rfl) (hs : starEach [e1] X.env = (false, eval e1 X.env) :: starEach [] X.env := by rfl) : Px X (.Call (.Name "tuple" p) [e1] [] pos) g l (.tup ds) := fun en T σ H Q s k =>
  wpE_of (pe_callTy call_tuple_of hg hm (by decide +kernel) (pa_wp (es := [e1])) (by decide) (by decide) hs rfl) (by
  refine pa_c ha pa_n hs en T σ H _ s fun vs H1 s1 => ?_
  obtain ⟨F, M, q⟩ := s1
  obtain ⟨f, t⟩ := q.tm
  cases f with
  | cons f1 f2 =>
    cases f2
    cases f1 with
    | tup sq f => exact ⟨_, _, rfl, .inr ⟨ex_t q.exF sq, k _ H1 ⟨F, M, q.tmp ⟨.tup sq f, t⟩⟩⟩⟩)
/-! ### texts -/
theorem px_join {x : Str} {xs : List Str} {apos : Pos} (ho : Px X o g l (.str x)) (he : Px X e g l d) (hd : Sv X.K l d (xs.map .str)) (hz : (xs.map (·.length)).sum + xs.length * x.length ≤ 16777216)
    (hs : starEach [e] X.env = [(false, eval e X.env)] := by rfl) (hb : attributeBase o "join" X.env (eval o X.env) = eval o X.env := by rfl) (hline : (apos.endLine == pos.line) = true := by rfl) : Px X (.Call (.Attribute o "join" apos) [e] [] pos) g l (.str (Txt.join x xs)) := fun en T σ H Q s k =>
  wpE_of (pe_join pe_wp pe_wp hs hb hline) (by
  refine ho en T σ H _ s fun v H1 s1 => ?_
  obtain ⟨F0, M0, q0⟩ := id s1
  have fv := q0.tm.1
  cases fv
  refine ⟨⟨x, rfl⟩, ?_⟩
  refine he en _ σ H1 _ s1 fun u H2 s2 => ?_
  obtain ⟨F, M, q⟩ := s2
  obtain ⟨a, ws, rfl, sq, f⟩ := hd.get q.exF q.exM q.rs q.tm.1
  have e := f.strs
  subst e
  exact ⟨x, a, xs, rfl, rfl, sq, hz, k _ H2 ⟨F, M, q.tmp ⟨.str _, q.tm.2.2⟩⟩⟩)
theorem ev_split {x y : Str} {apos : Pos} (ho : Px X o g l (.str x)) (he : Px X e g l (.str y)) (hy : (y.length == 0) = false) (hz : x.length + 2 ≤ sizeLine)
    (hs : starEach [e] X.env = [(false, eval e X.env)] := by rfl) (hb : attributeBase o "split" X.env (eval o X.env) = eval o X.env := by rfl) (hline : (apos.endLine == pos.line) = true := by rfl) : EvL X (.Call (.Attribute o "split" apos) [e] [] pos) g l ((Txt.split x y).map .str) :=
  ev_new (pe_split pe_wp pe_wp hs hb hline) fun en T σ H Q s k => by
  refine ho en T σ H _ s fun v H1 s1 => ?_
  obtain ⟨F0, M0, q0⟩ := id s1
  have fv := q0.tm.1
  cases fv
  refine ⟨⟨x, rfl⟩, ?_⟩
  refine he en _ σ H1 _ s1 fun u H2 s2 => ?_
  obtain ⟨F, M, q⟩ := s2
  obtain ⟨f, t⟩ := q.tm
  cases f
  exact ⟨x, y, rfl, rfl, hy, hz, fun p hp => k p _ H2 F M (q.tmp t.2) (FdAll.ofStrs _) hp⟩
theorem px_split {x y : Str} {apos : Pos} (ho : Px X o g l (.str x)) (he : Px X e g l (.str y)) (hy : (y.length == 0) = false) (hz : x.length + 2 ≤ sizeLine)
    (hs : starEach [e] X.env = [(false, eval e X.env)] := by rfl) (hb : attributeBase o "split" X.env (eval o X.env) = eval o X.env := by rfl) (hline : (apos.endLine == pos.line) = true := by rfl) : Px X (.Call (.Attribute o "split" apos) [e] [] pos) g l (.lst ((Txt.split x y).map .str)) := (ev_split ho he hy hz hs hb hline).frz
theorem px_partition {x y : Str} {apos : Pos} (ho : Px X o g l (.str x)) (he : Px X e g l (.str y)) (hy : (y.length == 0) = false) (hz : x.length ≤ sizeLine)
    (hs : starEach [e] X.env = [(false, eval e X.env)] := by rfl) (hb : attributeBase o "partition" X.env (eval o X.env) = eval o X.env := by rfl) (hline : (apos.endLine == pos.line) = true := by rfl) :
    Px X (.Call (.Attribute o "partition" apos) [e] [] pos) g l (.tup [.str (Txt.partition x y).1, .str (Txt.partition x y).2.1, .str (Txt.partition x y).2.2]) := fun en T σ H Q s k =>
  wpE_of (pe_partition pe_wp pe_wp hs hb hline) (by
  refine ho en T σ H _ s fun v H1 s1 => ?_
  obtain ⟨F0, M0, q0⟩ := id s1
  have fv := q0.tm.1
  cases fv
  refine ⟨⟨x, rfl⟩, ?_⟩
  refine he en _ σ H1 _ s1 fun u H2 s2 => ?_
  obtain ⟨F, M, q⟩ := s2
  obtain ⟨f, t⟩ := q.tm
  cases f
  refine ⟨x, y, rfl, rfl, hy, hz, fun p hp => ?_⟩
  have n := New.upd (o := .tup [.str (Txt.partition x y).1, .str (Txt.partition x y).2.1, .str (Txt.partition x y).2.2]) q.exF hp
  exact k _ _ ⟨_, M, (q.new n).tmp ⟨.tup (SqT.of upd_same) (.cons (.str _) (.cons (.str _) (.cons (.str _) .nil))), T.mono n.f t.2⟩⟩)
end
section
variable {K : PySem.W.Frag} {l : List Res} {d d1 d2 : D} {ds es : List D}
theorem Op2.to {r : R2} {a b d d' : D} (h : Op2 K l r a b d) (q : d = d') : Op2 K l r a b d' := q ▸ h
theorem OpN.to {r : List V → Hp → VK → Prop} {as : List D} {d d' : D} (h : OpN K l r as d) (q : d = d') : OpN K l r as d' := q ▸ h
theorem o_intS {x : Str} {n : Int} (h : PySem.intText? x = some n) (hl : x.length ≤ 640) : OpN K l (fun xs H Q => ∃ a n, xs = [.str a] ∧ PySem.intText? a = some n ∧ a.length ≤ 640 ∧ Q (.int n) H) [.str x] (.int n) := fun F M H vs Q eF eM dj rs f k => by
  cases f with
  | cons f1 f2 =>
    cases f2; cases f1
    exact ⟨x, n, rfl, h, hl, k _ F H (.rf eF) (.int _)⟩
/-- a sign in a text -/
theorem o_inX {c : Nat} {z : Str} : Op2 K l (fun x y H Q => ∃ (c : Nat) (z : Str), x = .str ⟨#[c]⟩ ∧ y = .str z ∧ Q (.bl (decide (c ∈ z.cps.toList))) H) (.str ⟨#[c]⟩) (.str z) (.bl (decide (c ∈ z.cps.toList))) := fun F M H v u Q eF eM dj rs f1 f2 k => by
  cases f1; cases f2
  exact ⟨c, z, rfl, rfl, k _ F H (.rf eF) (.bl _)⟩
theorem o_any {bs : List Bool} (h : Lq K l d (bs.map .bl)) : OpN K l (rAny K) [d] (.bl (bs.any id)) := fun F M H vs Q eF eM dj rs f k => by
  cases f with
  | cons f1 f2 =>
    cases f2
    obtain ⟨a, ws, rfl, sq, f⟩ := h.get eF eM rs f1
    have e := f.bls
    subst e
    exact ⟨a, bs, rfl, sq, k _ F H (.rf eF) (.bl _)⟩
theorem o_all {bs : List Bool} (h : Lq K l d (bs.map .bl)) : OpN K l (rAll K) [d] (.bl (bs.all id)) := fun F M H vs Q eF eM dj rs f k => by
  cases f with
  | cons f1 f2 =>
    cases f2
    obtain ⟨a, ws, rfl, sq, f⟩ := h.get eF eM rs f1
    have e := f.bls
    subst e
    exact ⟨a, bs, rfl, sq, k _ F H (.rf eF) (.bl _)⟩
theorem o_sum {ns : List Int} (h : Lq K l d (ns.map .int)) : OpN K l (rSum K) [d] (.int ns.sum) := fun F M H vs Q eF eM dj rs f k => by
  cases f with
  | cons f1 f2 =>
    cases f2
    obtain ⟨a, ws, rfl, sq, f⟩ := h.get eF eM rs f1
    have e := f.ints
    subst e
    exact ⟨a, ns, rfl, sq, k _ F H (.rf eF) (.int _)⟩
/-- the greatest, the least of ints -/
def maxL : List Int → Int
  | [] => 0
  | [a] => a
  | a :: b :: r => max a (maxL (b :: r))
def minL : List Int → Int
  | [] => 0
  | [a] => a
  | a :: b :: r => min a (minL (b :: r))
theorem maxL_le : ∀ {ns : List Int} {y : Int}, y ∈ ns → y ≤ maxL ns
  | [a], y, h => by rw [List.mem_singleton] at h; subst h; exact Int.le_refl _
  | a :: b :: r, y, h => by
    show y ≤ max a (maxL (b :: r))
    rcases List.mem_cons.mp h with rfl | h
    · exact Int.le_max_left _ _
    · exact Int.le_trans (maxL_le h) (Int.le_max_right _ _)
theorem maxL_mem : ∀ {ns : List Int}, ns ≠ [] → maxL ns ∈ ns
  | [], h => absurd rfl h
  | [a], _ => List.mem_singleton.mpr rfl
  | a :: b :: r, _ => by
    show max a (maxL (b :: r)) ∈ _
    have ih := maxL_mem (ns := b :: r) (by simp)
    rw [Int.max_def]
    split
    · exact List.mem_cons_of_mem _ ih
    · exact List.mem_cons_self
theorem minL_le : ∀ {ns : List Int} {y : Int}, y ∈ ns → minL ns ≤ y
  | [a], y, h => by rw [List.mem_singleton] at h; subst h; exact Int.le_refl _
  | a :: b :: r, y, h => by
    show min a (minL (b :: r)) ≤ y
    rcases List.mem_cons.mp h with rfl | h
    · exact Int.min_le_left _ _
    · exact Int.le_trans (Int.min_le_right _ _) (minL_le h)
theorem minL_mem : ∀ {ns : List Int}, ns ≠ [] → minL ns ∈ ns
  | [], h => absurd rfl h
  | [a], _ => List.mem_singleton.mpr rfl
  | a :: b :: r, _ => by
    show min a (minL (b :: r)) ∈ _
    have ih := minL_mem (ns := b :: r) (by simp)
    rw [Int.min_def]
    split
    · exact List.mem_cons_self
    · exact List.mem_cons_of_mem _ ih
theorem o_maxL {ns : List Int} (h : Lq K l d (ns.map .int)) (hn : ns ≠ []) : OpN K l (rMax K) [d] (.int (maxL ns)) := fun F M H vs Q eF eM dj rs f k => by
  cases f with
  | cons f1 f2 =>
    cases f2
    obtain ⟨a, ws, rfl, sq, f⟩ := h.get eF eM rs f1
    have e := f.ints
    subst e
    refine ⟨a, ns, rfl, sq, List.length_pos_iff.mpr hn, fun m hm hy => ?_⟩
    have e : m = maxL ns := Int.le_antisymm (maxL_le hm) (hy _ (maxL_mem hn))
    subst e
    exact k _ F H (.rf eF) (.int _)
theorem o_minL {ns : List Int} (h : Lq K l d (ns.map .int)) (hn : ns ≠ []) : OpN K l (rMin K) [d] (.int (minL ns)) := fun F M H vs Q eF eM dj rs f k => by
  cases f with
  | cons f1 f2 =>
    cases f2
    obtain ⟨a, ws, rfl, sq, f⟩ := h.get eF eM rs f1
    have e := f.ints
    subst e
    refine ⟨a, ns, rfl, sq, List.length_pos_iff.mpr hn, fun m hm hy => ?_⟩
    have e : m = minL ns := Int.le_antisymm (hy _ (minL_mem hn)) (minL_le hm)
    subst e
    exact k _ F H (.rf eF) (.int _)
/-- len of any -/
theorem o_lenV (h : Sv K l d ds) : OpN K l (rLen1 K) [d] (.int ds.length) := fun F M H vs Q eF eM dj rs f k => by
  cases f with
  | cons f1 f2 =>
    cases f2
    obtain ⟨a, ws, rfl, sq, f⟩ := h.get eF eM rs f1
    refine ⟨a, ws, rfl, sq, ?_⟩
    rw [f.length]
    exact k _ F H (.rf eF) (.int _)
/-- an item of any list -/
theorem o_ixV {i : Int} (h : Lq K l d1 ds) (hi : atI ds i = some d) : Op2 K l (rIxL K) d1 (.int i) d := fun F M H v u Q eF eM dj rs f1 f2 k => by
  cases f2
  obtain ⟨a, ws, rfl, sq, f⟩ := h.get eF eM rs f1
  obtain ⟨w, h1, h2⟩ := atI_fd f hi
  exact ⟨_, _, i, w, rfl, rfl, sq, h1, k w F H (.rf eF) h2⟩
/-- == of lists, one owned -/
theorem Lv.dp {F M H : Hp} {v : V} {ps : List PyData} (h : Lv K l d ds) (eF : Ex F H) (eM : Ex M H) (rs : Rs l F M) (f : Fd K F v d) (hp : D.pys ds = some ps) : Dp K H v (.list ps) := by
  obtain ⟨a, vs, rfl, sq, f⟩ := h.get eF eM rs f
  exact .lst (SqL.of sq) (FdAll.dp eF ds f hp)
theorem o_eqV {q : PyData} {ps : List PyData} (hd : Lv K l d1 ds) (h1 : D.pys ds = some ps) (h2 : d2.py = some q) (s1 : SeqAt.shaped (.list ps) = true) (s2 : SeqAt.shaped q = true) : Op2 K l (rEqD K) d1 d2 (.bl (PyData.eqv (.list ps) q)) := fun F M H v u Q eF eM dj rs f1 f2 k =>
  ⟨.list ps, q, hd.dp eF eM rs f1 h1, Fd.dp eF _ f2 h2, s1, s2, k _ F H (.rf eF) (.bl _)⟩
theorem o_neV {q : PyData} {ps : List PyData} (hd : Lv K l d1 ds) (h1 : D.pys ds = some ps) (h2 : d2.py = some q) (s1 : SeqAt.shaped (.list ps) = true) (s2 : SeqAt.shaped q = true) : Op2 K l (rNeD K) d1 d2 (.bl (!PyData.eqv (.list ps) q)) := fun F M H v u Q eF eM dj rs f1 f2 k =>
  ⟨.list ps, q, hd.dp eF eM rs f1 h1, Fd.dp eF _ f2 h2, s1, s2, k _ F H (.rf eF) (.bl _)⟩
end
section
variable {X : Cx} {W : WX} {g g' : Gm} {l l' : List Res} {Φ : Po} {e e2 a b c o : Expr} {es : List Expr} {d d1 d2 d3 : D} {ds ds1 ds2 : List D} {pos p p2 : Pos} {rest : List Stmt}
/-- x.append(e), x an owned list -/
theorem blk_add {k : Nat} {q : Addr} {apos cpos : Pos} (ho : Px X o g l (.adr q)) (he : Px X e g l d) (hk : l[k]? = some (ownL X.K q ds)) (hz : ds.length < sizeLine) (h : Blk X W rest (g) (l.set k (ownL X.K q (ds ++ [d]))) Φ)
    (hp : PS X (.Expr (.Call (.Attribute o "append" apos) [e] [] cpos) pos) (tDrop (tBM X.K "list" rAppend (wpE X o) (tCons (wpE X e) tNil))) := by exact ps_expr (pe_bm PySem.F.plainAttrs_list PySem.F.slot_list_append PySem.F.type_list_append mt_append pe_wp (pa_cons pe_wp pa_nil))) :
    Blk X W (.Expr (.Call (.Attribute o "append" apos) [e] [] cpos) pos :: rest) g l Φ := blk_app ho he hk hz h hp
/-- x += e, ints -/
theorem blk_aug {i : Nat} {x : Str} {m n r : Int} {op : Operator} {f : Int → Int → Int} {pos' : Pos} (hN : X.N.Nodup) (hi : X.N[i]? = some x) (hx : Loc X.env.scope x) (hv : nth g i = some (.int m)) (he : Px X e g l (.int n)) (ho : PIp X op (ipI f)) (hr : f m n = r) (h : Blk X W rest (g.set i (some (.int r))) l Φ)
    (hf : X.fn x = true ∨ X.env.scope.names.lookup x = some .local := by first | exact .inl rfl | exact .inr rfl | assumption) : Blk X W (.AugAssign (.Name x pos') op e pos :: rest) g l Φ := fun en T σ H D s mm => wpS_of (pss_cons (ps_aug hN hi hx pe_wp ho hf) pss_wp) (by
  obtain ⟨F0, M0, q0⟩ := id s
  obtain ⟨v, hv', fv⟩ := q0.sl.nth hv
  cases fv
  refine ⟨.int m, hv', ?_⟩
  refine he en T σ H _ s fun u H1 s1 => ?_
  obtain ⟨F, M, q⟩ := s1
  obtain ⟨f1, t⟩ := q.tm
  cases f1
  refine ⟨m, n, rfl, rfl, ?_⟩
  rw [hr]
  exact h en T (σ.set i (some (.int r))) H1 D ⟨F, M, (q.tmp t).slots (q.sl.set i (.int r))⟩ mm)
/-- a target = e, any target -/
theorem blk_asg {tg : Expr} {gt : TG} {is : List Nat} {es : List D} (he : Px X e g l d) (hg : PG X tg gt) (ht : Tg X.K gt is d es) (h : Blk X W rest (sets g is es) l Φ) (hs : swapsWithSole [tg] e pos.line X.env = pure false := by rfl) (hw : swappedStores [tg] e X.env = pure none := by rfl) (h1 : (assignEach [tg] X.env).map (·.2) = [assign tg X.env] := by rfl) :
    Blk X W (.Assign [tg] e pos :: rest) g l Φ := fun en T σ H D s mm => wpS_of (pss_cons (ps_asg pe_wp hg hs hw h1) pss_wp) (by
  refine he en T σ H _ s fun u H1 s1 => ?_
  obtain ⟨F, M, q⟩ := s1
  obtain ⟨f1, t⟩ := q.tm
  exact ht F H1 u σ _ q.exF f1 fun vs fvs => h en T _ H1 D ⟨F, M, (q.tmp t).slots (q.sl.sets fvs)⟩ mm)
/-- for x in xs, xs an owned list that stays as it is -/
theorem blk_forO {tg iter : Expr} {body : List Stmt} {gt : TG} {is : List Nat} {q : Addr} {kk : Nat} (I : Nat → Gm → List Res → Prop) (hp : PassesOwn (model X.prog X.w) X.A X.env X.xe) (hc : X.calm = true) (hi : Px X iter g l (.adr q)) (hg : PG X tg gt) (h0 : I 0 g l)
    (hk : ∀ i g' l', I i g' l' → l'[kk]? = some (ownL X.K q ds))
    (hs : ∀ i d g' l', ds[i]? = some d → I i g' l' → ∃ es, Tg X.K gt is d es ∧ Blk X W body (sets g' is es) l' { nx := I (i + 1), ct := I (i + 1), bk := fun g2 l2 => Blk X W rest g2 l2 Φ, rt := Φ.rt, ex := Φ.ex })
    (hd : ∀ g' l', I ds.length g' l' → Blk X W rest g' l' Φ) (hf : ∀ x, foldedSetIterable iter X.env x = pure x := by intro _; rfl) : Blk X W (.For tg iter body [] pos :: rest) g l Φ := fun en T σ H D s m => by
  refine wpS_of (pss_cons (ps_for hp hc (pi_list pe_wp) hg pss_wp hf) pss_wp) ?_
  refine hi en T σ H _ s fun v H1 s1 => ?_
  obtain ⟨F0, M0, q0⟩ := s1
  have fv := q0.tm.1
  cases fv
  obtain ⟨vs0, _, hp0⟩ := q0.rs.own (hk 0 g l h0) q0.exM
  refine ⟨q, rfl, ⟨vs0, SqL.of hp0⟩, ?_⟩
  refine ⟨fun i m σ' H' => i + m = ds.length ∧ ∃ g' l', I i g' l' ∧ S X.K en g' T l' σ' H', ⟨ds.length, by simp, g, l, h0, F0, M0, q0.tmp q0.tm.2⟩, fun i n σ' H' hW => ?_⟩
  obtain ⟨em, g', l', hI, F, M, qq⟩ := hW
  obtain ⟨vs, fvs, hq⟩ := qq.rs.own (hk i g' l' hI) qq.exM
  cases n with
  | zero =>
    have e : i = ds.length := by omega
    subst e
    exact .inl ⟨⟨vs, SqL.of hq, by rw [fvs.length]; exact Nat.le_refl _⟩, hd g' l' hI en T σ' H' D ⟨F, M, qq⟩ m⟩
  | succ n =>
    have hi : i < ds.length := by omega
    have hi' : i < vs.length := by rw [fvs.length]; exact hi
    refine .inr ⟨⟨vs, vs[i], SqL.of hq, List.getElem?_eq_getElem hi'⟩, fun σ2 H2 => ∃ g2 l2, I (i + 1) g2 l2 ∧ S X.K en g2 T l2 σ2 H2, fun σ2 H2 ⟨g2, l2, h1, h2⟩ => ⟨n, by omega, by omega, g2, l2, h1, h2⟩, fun x H2 hy => ?_⟩
    obtain ⟨rfl, hx⟩ := hy
    have hx := hx vs (SqL.of hq)
    obtain ⟨w, h1, h2⟩ := fvs.get (List.getElem?_eq_getElem hi)
    rw [hx] at h1
    cases h1
    obtain ⟨es, htg, hb⟩ := hs i ds[i] g' l' (List.getElem?_eq_getElem hi) hI
    refine htg F _ x σ' _ qq.exF h2 fun vs fvs => ?_
    exact hb en T _ _ _ ⟨F, M, qq.slots (qq.sl.sets fvs)⟩ ⟨fun g2 l2 σ2 H2 h s2 => ⟨g2, l2, h, s2⟩, m.rt, fun g2 l2 σ2 H2 h s2 => h en T σ2 H2 D s2 m, fun g2 l2 σ2 H2 h s2 => ⟨g2, l2, h, s2⟩, m.ex⟩
end
end Sx
set_option Elab.async false
set_option linter.all false
set_option maxRecDepth 100000
set_option maxHeartbeats 2000000
/-! == of data that are alike. -/
namespace Sx
open PySem L2
theorem Dj.r' {A B C : Hp} (h : Dj C (join A B)) : Dj C B := fun x o e => (join_none (h x o e)).2
theorem nth_set : ∀ {g : Gm} {i : Nat} {d : D}, i < g.length → nth (g.set i (some d)) i = some d
  | [], _, _, h => absurd h (Nat.not_lt_zero _)
  | o :: _, 0, d, _ => by cases o <;> rfl
  | o :: g, i + 1, d, h => by
    have := nth_set (g := g) (i := i) (d := d) (Nat.lt_of_succ_lt_succ h)
    cases o <;> exact this
/-- a datum of plain things, at most k deep -/
def Dp' (k : Nat) (d : D) : Prop := ∃ p, d.py = some p ∧ p.canLay0 = true ∧ p.depth ≤ k
theorem Dp'.non {k : Nat} : Dp' k .non := ⟨_, rfl, rfl, Nat.zero_le _⟩
theorem Dp'.bl {k : Nat} {b : Bool} : Dp' k (.bl b) := ⟨_, rfl, rfl, Nat.zero_le _⟩
theorem Dp'.int {k : Nat} {i : Int} : Dp' k (.int i) := ⟨_, rfl, rfl, Nat.zero_le _⟩
theorem Dp'.str {k : Nat} {x : Str} (h : PySem.PyData.strOk x = true := by decide +kernel) : Dp' k (.str x) := ⟨_, rfl, h, Nat.zero_le _⟩
theorem Dp'.all {k : Nat} : ∀ {ds : List D}, (∀ d ∈ ds, Dp' k d) → ∃ ps, D.pys ds = some ps ∧ PyData.canLayAll0 ps = true ∧ PyData.depthAll ps ≤ k
  | [], _ => ⟨[], rfl, rfl, Nat.zero_le _⟩
  | d :: r, h => by
    obtain ⟨p, h1, h2, h3⟩ := h d List.mem_cons_self
    obtain ⟨ps, h4, h5, h6⟩ := Dp'.all (ds := r) fun z hz => h z (List.mem_cons_of_mem _ hz)
    refine ⟨p :: ps, ?_, ?_, ?_⟩
    · show (D.py d).bind (fun a => (D.pys r).map fun b => a :: b) = _
      rw [h1, h4]
      rfl
    · show (PyData.canLay0 p && PyData.canLayAll0 ps) = true
      rw [h2, h5]
      rfl
    · show max (PyData.depth p) (PyData.depthAll ps) ≤ k
      exact Nat.max_le.mpr ⟨h3, h6⟩
theorem Dp'.lst {k : Nat} {ds : List D} (h : ∀ d ∈ ds, Dp' k d) : Dp' (k + 1) (.lst ds) := by
  obtain ⟨ps, h1, h2, h3⟩ := Dp'.all h
  refine ⟨.list ps, ?_, h2, Nat.succ_le_succ h3⟩
  show (D.pys ds).map PyData.list = _
  rw [h1]
  rfl
theorem Dp'.tup {k : Nat} {ds : List D} (h : ∀ d ∈ ds, Dp' k d) : Dp' (k + 1) (.tup ds) := by
  obtain ⟨ps, h1, h2, h3⟩ := Dp'.all h
  refine ⟨.tuple ps, ?_, h2, Nat.succ_le_succ h3⟩
  show (D.pys ds).map PyData.tuple = _
  rw [h1]
  rfl
theorem Dp'.mono {j k : Nat} {d : D} (h : Dp' j d) (e : j ≤ k) : Dp' k d := let ⟨p, h1, h2, h3⟩ := h; ⟨p, h1, h2, Nat.le_trans h3 e⟩
theorem Dp'.ints {k : Nat} {ns : List Int} : ∀ d ∈ ns.map D.int, Dp' k d := fun d h => by
  obtain ⟨n, _, rfl⟩ := List.mem_map.mp h
  exact .int
theorem Dp'.strs {k : Nat} {ns : List Str} (h : ∀ n ∈ ns, PySem.PyData.strOk n = true) : ∀ d ∈ ns.map D.str, Dp' k d := fun d hd => by
  obtain ⟨n, hn, rfl⟩ := List.mem_map.mp hd
  exact .str (h n hn)
section
variable {K : PySem.W.Frag} {l : List Res} {d d1 d2 : D} {ds es : List D} {k : Nat}
theorem shaped_of {p : PyData} (h1 : p.canLay0 = true) (h2 : p.depth ≤ k) (h3 : k ≤ 64) : SeqAt.shaped p = true := by
  show (p.canLay0 && decide (p.depth ≤ 64)) = true
  rw [h1, decide_eq_true (Nat.le_trans h2 h3)]
  rfl
theorem o_eqR (h : Dp' k d) (hk : k ≤ 64 := by decide) : Op2 K l (rEqD K) d d (.bl true) := by
  obtain ⟨p, h1, h2, h3⟩ := h
  exact (o_eqD h1 h1 (shaped_of h2 h3 hk) (shaped_of h2 h3 hk)).to (congrArg D.bl (PySem.SeqAt.eqv_refl p h2))
theorem o_neR (h : Dp' k d) (hk : k ≤ 64 := by decide) : Op2 K l (rNeD K) d d (.bl false) := by
  obtain ⟨p, h1, h2, h3⟩ := h
  refine (o_neD h1 h1 (shaped_of h2 h3 hk) (shaped_of h2 h3 hk)).to (congrArg D.bl ?_)
  rw [PySem.SeqAt.eqv_refl p h2]
  rfl
theorem o_eqW (hd : Lv K l d1 ds) (h : Dp' k (.lst ds)) (hk : k ≤ 64 := by decide) : Op2 K l (rEqD K) d1 (.lst ds) (.bl true) := by
  obtain ⟨p, h1, h2, h3⟩ := h
  have h1' := h1
  unfold D.py at h1'
  obtain ⟨ps, h4, rfl⟩ := Option.map_eq_some_iff.mp h1'
  exact (o_eqV hd h4 h1 (shaped_of h2 h3 hk) (shaped_of h2 h3 hk)).to (congrArg D.bl (PySem.SeqAt.eqv_refl _ h2))
theorem o_neW (hd : Lv K l d1 ds) (h : Dp' k (.lst ds)) (hk : k ≤ 64 := by decide) : Op2 K l (rNeD K) d1 (.lst ds) (.bl false) := by
  obtain ⟨p, h1, h2, h3⟩ := h
  have h1' := h1
  unfold D.py at h1'
  obtain ⟨ps, h4, rfl⟩ := Option.map_eq_some_iff.mp h1'
  refine (o_neV hd h4 h1 (shaped_of h2 h3 hk) (shaped_of h2 h3 hk)).to (congrArg D.bl ?_)
  rw [PySem.SeqAt.eqv_refl _ h2]
  rfl
end
section
variable {X : Cx} {W : WX} {g : Gm} {l l' : List Res} {Φ : Po}
/-- what is owned is given up -/
theorem S.dropO {K : PySem.W.Frag} {en : En} {T : Tm} {σ : L2.St} {H : Hp} (s : S K en g T (l' ++ l) σ H) : S K en g T l σ H := by
  obtain ⟨F, M, a⟩ := s
  obtain ⟨A, B, rfl, dj, r1, r2⟩ := a.rs.split
  exact ⟨F, B, a.exF, a.exM.joinR dj, Dj.r' a.dj, a.eF, a.nF, fun x o h => a.nM x o (by rw [join_r (dj.sym x o h)]; exact h), a.fr, a.sl, a.tm, r2⟩
theorem Blk.dropO {sts : List Stmt} (h : Blk X W sts g l Φ) : Blk X W sts g (l' ++ l) Φ := fun en T σ H D s m => h en T σ H D s.dropO m
theorem blk_frzAll {sts : List Stmt} (h : Blk X W sts g [] Φ) : Blk X W sts g l Φ := fun en T σ H D s m => h en T σ H D (S.dropO (l' := l) (by rw [List.append_nil]; exact s)) m
/-- x = [..] on one line, the list not changed behind it -/
theorem Blk.frz' {sts : List Stmt} {p : Addr} {ds : List D} {i : Nat} (hi : i < g.length) (k : Blk X W sts (g.set i (some (.lst ds))) l Φ) : Blk X W sts (g.set i (some (.adr p))) (ownL X.K p ds :: l) Φ := by
  refine Blk.frz (i := i) ?_ ?_
  · exact nth_set hi
  · rw [List.set_set]
    exact k
variable {rest : List Stmt} {pos : Pos} {c : Expr}
theorem blk_setLc {tg iter elt : Expr} {scope : Scope} {own : List (Str × Nat)} {gt : TG} {is : List Nat} {ds rs : List D} {i : Nat} {y : Str} {py spos : Pos} (hN : X.N.Nodup) (hy : X.N[i]? = some y) (hyl : X.env.scope.names.lookup y = some .local) (hil : i < g.length) (hc : X.calm = true)
    (hi : Itw X tg iter g l ds) (ok : BlkOk X.N X.env.scope scope own)
    (hg : Blkc X scope fun Y => PG Y tg gt) (his : ∀ i ∈ is, i ∈ own.map (·.2)) (hlen : rs.length = ds.length) (hz : rs.length ≤ sizeLine)
    (hs : ∀ (i : Nat) (d : D), ds[i]? = some d → ∃ es r, Tg X.K gt is d es ∧ rs[i]? = some r ∧ Blkc X scope fun Y => Px Y elt (sets (wipeG g (own.map (·.2))) is es) l r)
    (h : Blk X W rest (g.set i (some (.lst rs))) l Φ) (hsw : swapsWith (.ListComp elt [⟨tg, iter, [], 0⟩] scope pos) (some (.Name y py)) spos.line X.env = pure true := by rfl) (hf : ∀ x, foldedSetIterable iter X.env x = pure x := by intro _; rfl) : Blk X W (.Assign [.Name y py] (.ListComp elt [⟨tg, iter, [], 0⟩] scope pos) spos :: rest) g l Φ :=
  blk_setLcO hc hN hy hyl hsw hi ok hg his hlen hz hs (fun p => Blk.frz' hil h) hf
theorem blk_setLcIf {tg iter elt : Expr} {scope : Scope} {own : List (Str × Nat)} {gt : TG} {is : List Nat} {ds : List D} {rs : List (Option D)} {i : Nat} {y : Str} {py spos : Pos} (hN : X.N.Nodup) (hy : X.N[i]? = some y) (hyl : X.env.scope.names.lookup y = some .local) (hil : i < g.length) (hc : X.calm = true)
    (hi : Itw X tg iter g l ds) (ok : BlkOk X.N X.env.scope scope own)
    (hg : Blkc X scope fun Y => PG Y tg gt) (his : ∀ i ∈ is, i ∈ own.map (·.2)) (hlen : rs.length = ds.length) (hz : rs.length ≤ sizeLine)
    (hs : ∀ (i : Nat) (d : D), ds[i]? = some d → ∃ es k r, Tg X.K gt is d es ∧ rs[i]? = some (if k = true then some r else none) ∧ (Blkc X scope fun Y => Ts Y c (sets (wipeG g (own.map (·.2))) is es) l k) ∧ (k = true → Blkc X scope fun Y => Px Y elt (sets (wipeG g (own.map (·.2))) is es) l r))
    (h : Blk X W rest (g.set i (some (.lst (keepL rs)))) l Φ) (hsw : swapsWith (.ListComp elt [⟨tg, iter, [c], 0⟩] scope pos) (some (.Name y py)) spos.line X.env = pure true := by rfl) (hf : ∀ x, foldedSetIterable iter X.env x = pure x := by intro _; rfl) : Blk X W (.Assign [.Name y py] (.ListComp elt [⟨tg, iter, [c], 0⟩] scope pos) spos :: rest) g l Φ :=
  blk_setLcIfO hc hN hy hyl hsw hi ok hg his hlen hz hs (fun p => Blk.frz' hil h) hf
/-- a call of a def that takes nothing owned -/
theorem ev_callV {α : Type} {ok : α → Prop} {args : α → List D} {post : α → D → List Res → Prop} {x : Str} {ps : List Str} {k j : Nat} {e : Expr} {es : List Expr} {p : Pos}
    (G : Glo X.prog X.w X.K X.mg X.base k x ps (FnX X.K ok args (fun _ => []) post noE)) (hr : Room j X.A) (hj : k ≤ j) (a : α) (hok : ok a) (ha : Pa X (e :: es) g l (args a))
    (hg : Gl X x := by rfl) (hdb : (x == ("__debug__" : Str)) = false := by decide) (he : starEach (e :: es) X.env = (false, eval e X.env) :: starEach es X.env := by rfl) (hpl : (backTo pos (starEach es X.env)).any (·.1) = false := by rfl) :
    Ev X (.Call (.Name x p) (e :: es) [] pos) g l (fun d l2 => ∃ l', post a d l' ∧ l2 = l' ++ l) :=
  ev_call (lr := l) (own := fun _ => []) G hr hj a hok ha (fun d l' h => ⟨l', h, rfl⟩) hg hdb he hpl
end
end Sx
set_option Elab.async false
set_option linter.all false
set_option maxRecDepth 100000
set_option maxHeartbeats 2000000
/-! Slices with a step; dicts. -/
namespace Sx
open PySem L2 PyProof.Rows
/-! ### slices with a step -/
def pickN {α : Type} (xs : List α) (js : List Nat) : List α := js.filterMap (xs[·]?)
theorem pickN_cons {α : Type} (xs : List α) (j : Nat) (js : List Nat) : pickN xs (j :: js) = (match xs[j]? with | some x => [x] | none => []) ++ pickN xs js := by
  unfold pickN
  rw [List.filterMap_cons]
  cases xs[j]? <;> rfl
theorem pickN_map {α β : Type} (f : α → β) (xs : List α) : ∀ js, pickN (xs.map f) js = (pickN xs js).map f
  | [] => rfl
  | j :: js => by
    rw [pickN_cons, pickN_cons, pickN_map f xs js, List.getElem?_map, List.map_append]
    cases xs[j]? <;> rfl
theorem pickN_len {α : Type} (xs : List α) (js : List Nat) : (pickN xs js).length ≤ js.length := List.length_filterMap_le _ _
theorem pickN_mem {α : Type} {xs : List α} {js : List Nat} {x : α} (h : x ∈ pickN xs js) : x ∈ xs := by
  unfold pickN at h
  obtain ⟨j, _, e⟩ := List.mem_filterMap.mp h
  exact List.mem_of_getElem? e
theorem vals_get : ∀ {vs : List V} {us : List Value} (j : Nat), Vals vs us → (vs[j]? = none ∧ us[j]? = none) ∨ ∃ v u, vs[j]? = some v ∧ us[j]? = some u ∧ RelV v u
  | _, _, _, .nil => .inl ⟨rfl, rfl⟩
  | _, _, 0, .cons r _ => .inr ⟨_, _, rfl, rfl, r⟩
  | _, _, j + 1, .cons _ t => by
    rcases vals_get j t with ⟨h1, h2⟩ | ⟨v, u, h1, h2, h3⟩
    · exact .inl ⟨by rw [List.getElem?_cons_succ]; exact h1, by rw [List.getElem?_cons_succ]; exact h2⟩
    · exact .inr ⟨v, u, by rw [List.getElem?_cons_succ]; exact h1, by rw [List.getElem?_cons_succ]; exact h2, h3⟩
theorem vals_pick {vs : List V} {us : List Value} (h : Vals vs us) : ∀ js, Vals (pickN vs js) (pickN us js)
  | [] => .nil
  | j :: js => by
    rw [pickN_cons, pickN_cons]
    have ih := vals_pick h js
    rcases vals_get j h with ⟨h1, h2⟩ | ⟨v, u, h1, h2, h3⟩
    · rw [h1, h2]; exact ih
    · rw [h1, h2]; exact .cons h3 ih
theorem FdAll.pick {K : PySem.W.Frag} {F : Hp} {vs : List V} {ds : List D} (h : FdAll K F vs ds) : ∀ js, FdAll K F (pickN vs js) (pickN ds js)
  | [] => .nil
  | j :: js => by
    rw [pickN_cons, pickN_cons]
    have ih := FdAll.pick h js
    cases e : ds[j]? with
    | none =>
      have : vs[j]? = none := by
        rw [List.getElem?_eq_none_iff] at e ⊢
        rw [h.length]; exact e
      rw [this]; exact ih
    | some d =>
      obtain ⟨v, h1, h2⟩ := h.get e
      rw [h1]; exact .cons h2 ih
/-- which places xs[lo:hi:st] takes -/
def places (n : Nat) (lo hi st : Option Int) : List Nat := let b := sliceBounds lo hi st n; sliceRange b.1 b.2.1 b.2.2
theorem stride_at {xs : List Value} {lo hi st : Option Int} : slicePick xs.toArray lo hi st = (pickN xs (places xs.length lo hi st)).toArray := by
  unfold slicePick pickN places
  rw [List.size_toArray]
  congr 2
  funext j
  rw [List.getElem?_toArray]
/-- at most so many -/
theorem places_len {n : Nat} {lo hi st : Int} (h1 : 0 ≤ lo) (h2 : lo ≤ hi) (h3 : 0 < st) : (places n (some lo) (some hi) (some st)).length ≤ ((hi - lo + st - 1) / st).toNat := by
  unfold places sliceBounds
  simp only [Option.getD_some, if_pos h3, show ¬ lo < 0 by omega, show ¬ hi < 0 by omega, if_false]
  unfold sliceRange
  rw [List.length_map, List.length_range, if_pos h3]
  split
  · have : (max 0 (min hi (n : Int)) - max 0 (min lo (n : Int)) + st - 1) / st ≤ (hi - lo + st - 1) / st := Int.ediv_le_ediv h3 (by omega)
    omega
  · show (0 : Int).toNat ≤ _
    exact Nat.zero_le _
section
variable {X : Cx} {W : WX} {g g' : Gm} {l l' : List Res} {Φ : Po} {e e2 a b c o v : Expr} {es : List Expr} {d d1 d2 d3 : D} {ds ds1 ds2 : List D} {pos p p2 : Pos} {rest : List Stmt}
def tStride (K : PySem.W.Frag) (te : TE) (tl th ts : TO) : TE := fun σ H Q => te σ H fun x H1 => tl σ H1 fun i H2 => th σ H2 fun j H3 => ts σ H3 fun k H4 => k ≠ some 0 ∧ ∃ q xs, x = .ref q ∧ SqL K H4 q xs ∧ ((pickN xs (places xs.length i j k)).length ≤ sizeLine) ∧ ∀ r, H4 r = none → Q (.ref r) (upd H4 r (.lst (pickN xs (places xs.length i j k))))
theorem pe_stride {te : TE} {tl th ts : TO} {lo hi : Option Expr} {st : Expr} (he : PE X e te) (hl : PO X lo tl) (hu : PO X hi th) (hk : PO X (some st) ts) (hx : ∀ (x y : Value), subscripted (.Slice lo hi (some st) p2) false x y = operate [x, y] (getItem x y) := by intros; with_unfolding_all rfl) :
    PE X (.Subscript e (.Slice lo hi (some st) p2) pos) (tStride X.K te tl th ts) := by
  refine ⟨fun pins t0 σ H Q I h => ?_⟩
  refine Subscript_ (thn (he.run pins t0 σ H _ I h) fun w t1 ⟨x, H1, I1, r1, q1⟩ => ?_)
  refine wpAny_Slice ?_
  refine thn (hl.run pins t1 σ H1 _ I1 q1) fun vi t2 ⟨i, H2, I2, pi, q2⟩ => ?_
  refine thn (hu.run pins t2 σ H2 _ I2 q2) fun vj t3 ⟨j, H3, I3, pj, q3⟩ => ?_
  refine thn (hk.run pins t3 σ H3 _ I3 q3) fun vk t4 ⟨k, H4, I4, pk, nz, q, xs, ex, sq, hz, q4⟩ => ?_
  subst ex
  cases r1
  have J : Inv X pins σ H4 { t4 with heap := t4.heap.push { cls := .type "slice", data := .fields #[vi, vj, vk] } } := I4.kept (t' := t4.toks) fun _ _ z => Heap.get?_push_of_some _ z
  obtain ⟨us, rv, ht, hw⟩ := J.list sq
  have hlen := rv.length
  refine tail_any (T := "list") (id := "list.__getitem__") (ops := [.ref q, .ref t4.heap.objs.size]) ht.isList.typeIs slot_list_getitem.lookup ?_ (hx _ _)
  refine wpAny_getItem_list_slice ht.isList (Heap.IsSliceOf.new ..) pi pj pk nz ?_ (by rw [List.size_toArray] <;> omega)
  rw [stride_at, ← hlen]
  refine ⟨.ref _, _, J.laid (t' := t4.toks) (o := .lst (pickN xs (places xs.length i j k))) (fun _ _ z => Heap.get?_push_of_some _ z) (Nat.le_refl _) ?_, rfl, q4 _ (J.hok.fresh (Nat.le_refl _))⟩
  exact ⟨hz, _, 0, vals_pick rv _, Heap.get?_push_size _ rfl⟩
theorem ev_stride {lo hi : Option Expr} {st : Expr} {i j k : Option Int} (ho : Px X o g l d) (hd : Lq X.K l d ds) (hl : Pz X lo g l i) (hu : Pz X hi g l j) (hs : Pz X (some st) g l k) (hn : k ≠ some 0) (hz : (pickN ds (places ds.length i j k)).length ≤ sizeLine)
    (hx : ∀ (x y : Value), subscripted (.Slice lo hi (some st) p2) false x y = operate [x, y] (getItem x y) := by intros; with_unfolding_all rfl) : EvL X (.Subscript o (.Slice lo hi (some st) p2) pos) g l (pickN ds (places ds.length i j k)) := by
  obtain ⟨tl, pl, hl⟩ := hl
  obtain ⟨tu, pu, hu⟩ := hu
  obtain ⟨ts, ps, hs⟩ := hs
  refine ev_new (pe_stride pe_wp pl pu ps hx) fun en T σ H Q s kk => ?_
  refine ho en T σ H _ s fun v H1 s1 => ?_
  refine hl en _ σ H1 _ s1 fun H2 s2 => ?_
  refine hu en _ σ H2 _ s2 fun H3 s3 => ?_
  refine hs en _ σ H3 _ s3 fun H4 s4 => ?_
  obtain ⟨F, M, q⟩ := s4
  obtain ⟨a, vs, rfl, sq, f⟩ := hd.get q.exF q.exM q.rs q.tm.1
  refine ⟨hn, a, vs, rfl, sq, ?_, fun p hp => ?_⟩
  · rw [f.length, (f.pick _).length]; exact hz
  · rw [f.length]
    exact kk p _ H4 F M (q.tmp q.tm.2) (f.pick _) hp
/-! ### dicts -/
def valD {κ : Type} [DecidableEq κ] (kvs : List (κ × D)) (k : κ) : Option D := (kvs.find? fun kv => decide (kv.1 = k)).map (·.2)
def putKD {κ : Type} [DecidableEq κ] (kvs : List (κ × D)) (k : κ) (d : D) : List (κ × D) :=
  if (kvs.any fun kv => decide (kv.1 = k)) = true then kvs.map (fun kv => if kv.1 = k then (kv.1, d) else kv) else kvs ++ [(k, d)]
section
variable {K : PySem.W.Frag} {F : Hp} {κ : Type} [DecidableEq κ]
theorem FdFs.valV {k : κ} {d : D} : ∀ {vs : List (κ × V)} {kvs : List (κ × D)}, FdFs K F vs kvs → valD kvs k = some d → ∃ v, L2.valV vs k = some v ∧ Fd K F v d
  | _, _, .nil, h => by cases h
  | (n, v) :: vs, (_, d') :: kvs, .cons a b, h => by
    unfold valD at h
    unfold L2.valV
    rw [List.find?_cons] at h ⊢
    by_cases e : n = k
    · rw [decide_eq_true e] at h ⊢
      cases h
      exact ⟨v, rfl, a⟩
    · rw [decide_eq_false e] at h ⊢
      exact FdFs.valV b h
theorem FdFs.noV {k : κ} : ∀ {vs : List (κ × V)} {kvs : List (κ × D)}, FdFs K F vs kvs → valD kvs k = none → L2.valV vs k = none
  | _, _, .nil, h => rfl
  | (n, v) :: vs, (_, d') :: kvs, .cons a b, h => by
    unfold valD at h
    unfold L2.valV
    rw [List.find?_cons] at h ⊢
    by_cases e : n = k
    · rw [decide_eq_true e] at h
      cases h
    · rw [decide_eq_false e] at h ⊢
      exact FdFs.noV b h
theorem FdFs.anyK {k : κ} : ∀ {vs : List (κ × V)} {kvs : List (κ × D)}, FdFs K F vs kvs → (vs.any fun kv => decide (kv.1 = k)) = kvs.any fun kv => decide (kv.1 = k)
  | _, _, .nil => rfl
  | (n, v) :: vs, (_, d') :: kvs, .cons a b => by
    rw [List.any_cons, List.any_cons, FdFs.anyK b]
theorem FdFs.mapK {k : κ} {v : V} {d : D} (h : Fd K F v d) : ∀ {vs : List (κ × V)} {kvs : List (κ × D)}, FdFs K F vs kvs → FdFs K F (vs.map (fun kv => if kv.1 = k then (kv.1, v) else kv)) (kvs.map fun kv => if kv.1 = k then (kv.1, d) else kv)
  | _, _, .nil => .nil
  | (n, v') :: vs, (_, d') :: kvs, .cons a b => by
    rw [List.map_cons, List.map_cons]
    by_cases e : n = k
    · show FdFs K F ((if n = k then (n, v) else (n, v')) :: _) ((if n = k then (n, d) else (n, d')) :: _)
      rw [if_pos e, if_pos e]
      exact .cons h (FdFs.mapK h b)
    · show FdFs K F ((if n = k then (n, v) else (n, v')) :: _) ((if n = k then (n, d) else (n, d')) :: _)
      rw [if_neg e, if_neg e]
      exact .cons a (FdFs.mapK h b)
theorem FdFs.app1 {k : κ} {v : V} {d : D} (h : Fd K F v d) : ∀ {vs : List (κ × V)} {kvs : List (κ × D)}, FdFs K F vs kvs → FdFs K F (vs ++ [(k, v)]) (kvs ++ [(k, d)])
  | _, _, .nil => .cons h .nil
  | _, _, .cons a b => .cons a (FdFs.app1 h b)
theorem FdFs.putK {k : κ} {v : V} {d : D} {vs : List (κ × V)} {kvs : List (κ × D)} (f : FdFs K F vs kvs) (h : Fd K F v d) : FdFs K F (L2.putK vs k v) (putKD kvs k d) := by
  unfold L2.putK putKD
  rw [f.anyK]
  split
  · exact f.mapK h
  · exact f.app1 h
end
def ownD (K : PySem.W.Frag) (p : Addr) (kvs : List (Key × D)) : Res := ⟨fun F M => ∃ vs, FdFs K F vs kvs ∧ M = one p (.dK vs), fun e ⟨vs, h, m⟩ => ⟨vs, FdFs.mono e _ h, m⟩⟩
def ownT (K : PySem.W.Frag) (p : Addr) (kvs : List (List Key × D)) : Res := ⟨fun F M => ∃ vs, FdFs K F vs kvs ∧ M = one p (.dT vs), fun e ⟨vs, h, m⟩ => ⟨vs, FdFs.mono e _ h, m⟩⟩
/-- a dict with single keys: frozen or owned | .. with tuples as keys -/
inductive Dv (K : PySem.W.Frag) (l : List Res) : D → List (Key × D) → Prop
  | f {kvs : List (Key × D)} : Dv K l (.dK kvs) kvs
  | o {k : Nat} {p : Addr} {kvs : List (Key × D)} (h : l[k]? = some (ownD K p kvs)) : Dv K l (.adr p) kvs
inductive Dw (K : PySem.W.Frag) (l : List Res) : D → List (List Key × D) → Prop
  | f {kvs : List (List Key × D)} : Dw K l (.dT kvs) kvs
  | o {k : Nat} {p : Addr} {kvs : List (List Key × D)} (h : l[k]? = some (ownT K p kvs)) : Dw K l (.adr p) kvs
section
variable {K : PySem.W.Frag} {F M H : Hp} {v : V}
theorem Rs.ownD {k : Nat} {p : Addr} {kvs : List (Key × D)} (h : Rs l F M) (e : l[k]? = some (ownD K p kvs)) (m : Ex M H) : ∃ vs, FdFs K F vs kvs ∧ H p = some (.dK vs) := by
  obtain ⟨A, B, rfl, dj, ⟨vs, f, rfl⟩, _⟩ := Rs.at e h
  exact ⟨vs, f, m p _ (join_l one_same)⟩
theorem Rs.ownT {k : Nat} {p : Addr} {kvs : List (List Key × D)} (h : Rs l F M) (e : l[k]? = some (ownT K p kvs)) (m : Ex M H) : ∃ vs, FdFs K F vs kvs ∧ H p = some (.dT vs) := by
  obtain ⟨A, B, rfl, dj, ⟨vs, f, rfl⟩, _⟩ := Rs.at e h
  exact ⟨vs, f, m p _ (join_l one_same)⟩
theorem Dv.get {kvs : List (Key × D)} (h : Dv K l d kvs) (eF : Ex F H) (eM : Ex M H) (rs : Rs l F M) (f : Fd K F v d) : ∃ a vs, v = .ref a ∧ H a = some (.dK vs) ∧ FdFs K F vs kvs := by
  cases h with
  | f => cases f with | dK s a => exact ⟨_, _, rfl, eF _ _ s, a⟩
  | o h =>
    cases f
    obtain ⟨vs, f, hp⟩ := rs.ownD h eM
    exact ⟨_, vs, rfl, hp, f⟩
theorem Dw.get {kvs : List (List Key × D)} (h : Dw K l d kvs) (eF : Ex F H) (eM : Ex M H) (rs : Rs l F M) (f : Fd K F v d) : ∃ a vs, v = .ref a ∧ H a = some (.dT vs) ∧ FdFs K F vs kvs := by
  cases h with
  | f => cases f with | dT s a => exact ⟨_, _, rfl, eF _ _ s, a⟩
  | o h =>
    cases f
    obtain ⟨vs, f, hp⟩ := rs.ownT h eM
    exact ⟨_, vs, rfl, hp, f⟩
end
/-- an owned cell is written -/
theorem At.putOne {K : PySem.W.Frag} {en : En} {T : Tm} {σ : L2.St} {H F M : Hp} {k : Nat} {p : Addr} {r r' : Res} {o' : HO} (a : At K en g T l σ H F M) (e : l[k]? = some r) (h : ∀ A, r.P F A → ∃ o, A = one p o) (h' : r'.P F (one p o')) : ∃ M', At K en g T (l.set k r') σ (upd H p o') F M' := by
  obtain ⟨A, B, rfl, dj, pA, put⟩ := Rs.at e a.rs
  obtain ⟨o, rfl⟩ := h A pA
  have hp : H p = some o := a.exM p _ (join_l one_same)
  have hF : F p = none := a.dj.sym p o (join_l one_same)
  have dB : ∀ u, Dj (one p u) B := fun u x w h => by
    obtain ⟨rfl, _⟩ := one_some h
    exact dj x _ one_same
  have hB : B p = none := dj p _ one_same
  have pM : en.H p = none ∨ ∃ u, en.M p = some u := a.nM p _ (join_l one_same)
  refine ⟨join (one p o') B, a.exF.mut hF, ?_, ?_, a.eF, a.nF, ?_, ?_, a.sl, a.tm, put _ _ F .rf h' (dB _)⟩
  · intro x w h
    rcases join_some h with q | ⟨n, q⟩
    · obtain ⟨rfl, rfl⟩ := one_some q
      exact upd_same
    · have ne : x ≠ p := fun z => by rw [z, hB] at q; cases q
      rw [upd_ne ne]
      exact a.exM x w (by rw [join_r (one_ne ne)]; exact q)
  · intro x w h
    have ne : x ≠ p := fun z => by rw [z, hF] at h; cases h
    have := a.dj x w h
    rw [join_r (one_ne ne)] at this ⊢
    exact this
  · intro x w h
    rcases join_some h with q | ⟨n, q⟩
    · obtain ⟨rfl, rfl⟩ := one_some q
      exact pM
    · have ne : x ≠ p := fun z => by rw [z, hB] at q; cases q
      exact a.nM x w (by rw [join_r (one_ne ne)]; exact q)
  · intro x w h1 h2
    have ne : x ≠ p := fun z => by
      subst z
      rcases pM with q | ⟨u, q⟩
      · rw [h1] at q; cases q
      · rw [h2] at q; cases q
    rw [upd_ne ne]
    exact a.fr x w h1 h2
/-- a key as a datum -/
def kD : Key → D
  | .inl i => .int i
  | .inr x => .str x
theorem Fd.key {K : PySem.W.Frag} {F : Hp} {v : V} {k : Key} (f : Fd K F v (kD k)) : v = kV k := by
  cases k with
  | inl i => cases f; rfl
  | inr x => cases f; rfl
theorem Px.units (hu : X.A.units + 64 < cLine) : X.A.units + 1 < cLine := by omega
/-- d[k], d[k] of a dict with text or int keys -/
theorem px_dget {kvs : List (Key × D)} {k : Key} (hu : X.A.units + 1 < cLine) (ho : Px X o g l d1) (hd : Dv X.K l d1 kvs) (hi : Px X e g l d2) (hk : d2 = kD k) (hv : valD kvs k = some d) (hs : NoSl e := by intro _ _; rfl) : Px X (.Subscript o e pos) g l d := fun en T σ H Q s kk => wpE_of (pe_dget hu pe_wp pe_wp hs) (by
  subst hk
  refine ho en T σ H _ s fun v H1 s1 => ?_
  refine hi en _ σ H1 _ s1 fun u H2 s2 => ?_
  obtain ⟨F, M, q⟩ := s2
  obtain ⟨a, vs, rfl, hp, f⟩ := hd.get q.exF q.exM q.rs q.tm.2.1
  obtain ⟨w, h1, h2⟩ := f.valV hv
  refine ⟨a, w, rfl, .inl ⟨vs, k, .inl hp, q.tm.1.key, h1.symm⟩, kk w H2 ⟨F, M, q.tmp ⟨h2, q.tm.2.2⟩⟩⟩)
/-- k in d, k not in d -/
theorem px_din {kvs : List (Key × D)} {k : Key} (hu : X.A.units + 1 < cLine) (hi : Px X e g l d2) (hk : d2 = kD k) (ho : Px X o g l d1) (hd : Dv X.K l d1 kvs) (hm : behindInMarks .In o = false := by first | exact nomark _ | rfl) : Px X (.Compare e [.In] [o] pos) g l (.bl (valD kvs k).isSome) := fun en T σ H Q s kk => wpE_of (pe_cmp (pc_din hu pe_wp pe_wp) hm) (by
  subst hk
  refine hi en T σ H _ s fun u H1 s1 => ?_
  refine ho en _ σ H1 _ s1 fun v H2 s2 => ?_
  obtain ⟨F, M, q⟩ := s2
  obtain ⟨a, vs, rfl, hp, f⟩ := hd.get q.exF q.exM q.rs q.tm.1
  have e : (L2.valV vs k).isSome = (valD kvs k).isSome := by
    cases z : valD kvs k with
    | none => rw [f.noV z]; rfl
    | some d => obtain ⟨w, h1, _⟩ := f.valV z; rw [h1]; rfl
  refine ⟨a, _, rfl, .inl ⟨vs, k, .inl hp, q.tm.2.1.key, rfl⟩, ?_⟩
  rw [e]
  exact kk _ H2 ⟨F, M, q.tmp ⟨.bl _, q.tm.2.2⟩⟩)
/-- a new dict | of one pair -/
theorem ev_newD {kvs : List (Key × D)} {t : TE} (he : PE X e t) (h : ∀ en T σ H (Q : VK), S X.K en g T l σ H → (∀ p ws H1 F M, At X.K en g T l σ H1 F M → FdFs X.K F ws kvs → H1 p = none → Q (.ref p) (upd H1 p (.dK ws))) → t σ H Q) : Ev X e g l (fun d' l' => ∃ p, d' = .adr p ∧ l' = ownD X.K p kvs :: l) := fun en T σ H Q s k => wpE_of he (h en T σ H Q s fun p ws H1 F M q f hp => by
  have q3 := q.newO (r := ownD X.K p kvs) (A := one p (.dK ws)) (H' := upd H1 p (.dK ws)) (.new hp) (fun x o z => by obtain ⟨rfl, rfl⟩ := one_some z; exact upd_same) (fun x o z => by obtain ⟨rfl, rfl⟩ := one_some z; exact hp) ⟨ws, f, rfl⟩
  exact k _ (.adr p) _ _ ⟨p, rfl, rfl⟩ ⟨F, _, q3.tmp ⟨.adr p, q.tm⟩⟩)
theorem ev_d0 : Ev X (.Dict [] [] pos) g l (fun d' l' => ∃ p, d' = .adr p ∧ l' = ownD X.K p [] :: l) := ev_newD pe_dnewK fun en T σ H Q s k p hp => by
  obtain ⟨F, M, q⟩ := s
  exact k p [] H F M q .nil hp
theorem Ev.frzD {kvs : List (Key × D)} (h : Ev X e g l (fun d' l' => ∃ p, d' = .adr p ∧ l' = ownD X.K p kvs :: l)) : Px X e g l (.dK kvs) := fun en T σ H Q s k => h en T σ H Q s fun v d l' H' p s' => by
  obtain ⟨p, rfl, rfl⟩ := p
  obtain ⟨F, M, q⟩ := s'
  have hv := q.tm.1
  cases hv
  obtain ⟨F', M', q', f, _⟩ := q.frz (P := fun F' => Fd X.K F' (.ref p) (.dK kvs)) fun A hA => by
    obtain ⟨vs, f, rfl⟩ := hA
    have hF : F p = none := by
      obtain ⟨A, B, rfl, _, ⟨_, _, rfl⟩, _⟩ := q.rs
      exact q.dj.sym p _ (join_l one_same)
    exact .dK (by rw [join_r hF]; exact one_same) (FdFs.mono (fun x o h => join_l h) _ f)
  exact k _ H' ⟨F', M', q'.tmp ⟨f, q'.tm.2⟩⟩
theorem Blk.frzD {sts : List Stmt} {p : Addr} {kvs : List (Key × D)} {i : Nat} (hi : nth g i = some (.adr p)) (k : Blk X W sts (g.set i (some (.dK kvs))) l Φ) : Blk X W sts g (ownD X.K p kvs :: l) Φ := fun en T σ H D s m => by
  obtain ⟨F, M, q⟩ := s
  obtain ⟨v, hv, fv⟩ := q.sl.nth hi
  cases fv
  obtain ⟨F', M', q', f, _⟩ := q.frz (P := fun F' => Fd X.K F' (.ref p) (.dK kvs)) fun A hA => by
    obtain ⟨vs, f, rfl⟩ := hA
    have hF : F p = none := by
      obtain ⟨A, B, rfl, _, ⟨_, _, rfl⟩, _⟩ := q.rs
      exact q.dj.sym p _ (join_l one_same)
    exact .dK (by rw [join_r hF]; exact one_same) (FdFs.mono (fun x o h => join_l h) _ f)
  refine k en T σ H D ⟨F', M', q'.slots ?_⟩ m
  have w := q'.sl.set i f
  have e : σ.set i (some (.ref p)) = σ := by
    apply List.ext_getElem?
    intro j
    by_cases z : j = i
    · subst z
      obtain ⟨h1, h2⟩ := List.getElem?_eq_some_iff.mp hv
      rw [List.getElem?_set_self h1, hv]
    · rw [List.getElem?_set_ne (Ne.symm z)]
  rw [e] at w
  exact w
/-- {k: v} -/
theorem ev_d1 {k : Key} {ke : Expr} (hk : Px X ke g l d2) (hkk : d2 = kD k) (hv : Px X v g l d) : Ev X (.Dict [some ke] [v] pos) g l (fun d' l' => ∃ p, d' = .adr p ∧ l' = ownD X.K p [(k, d)] :: l) := fun en T σ H Q s kk => wpE_of (pe_disp (pps_cons pe_wp pe_wp pps_nil) rfl rfl (by simp) (Nat.le_of_ble_eq_true rfl)) (by
  subst hkk
  intro p hp
  obtain ⟨F0, M0, q0⟩ := s
  have q1 := q0.newO (r := ownD X.K p []) (A := one p (.dK [])) (H' := upd H p (.dK [])) (.new hp) (fun x o z => by obtain ⟨rfl, rfl⟩ := one_some z; exact upd_same) (fun x o z => by obtain ⟨rfl, rfl⟩ := one_some z; exact hp) ⟨[], .nil, rfl⟩
  refine hk.fr en T σ _ _ ⟨F0, _, q1⟩ fun u H2 s2 => ?_
  refine hv.fr en _ σ _ _ s2 fun w H3 s3 => ?_
  obtain ⟨F, M, q⟩ := s3
  obtain ⟨vs, fv, hp3⟩ := q.rs.ownD (k := 0) rfl q.exM
  cases fv
  have ek : u = kV k := q.tm.2.1.key
  subst ek
  refine ⟨hp3, [(k, w)], rfl, Nat.le_of_ble_eq_true rfl, ?_⟩
  have e : mergeK [] [(k, w)] = [(k, w)] := rfl
  rw [e]
  obtain ⟨M', q'⟩ := (q.tmp (T' := T) q.tm.2.2).putOne (k := 0) (p := p) (r' := ownD X.K p [(k, d)]) (o' := .dK [(k, w)]) rfl (fun A ⟨_, _, e⟩ => ⟨_, e⟩) ⟨_, .cons q.tm.1 .nil, rfl⟩
  exact kk _ _ _ _ ⟨p, rfl, rfl⟩ ⟨F, M', q'.tmp ⟨.adr p, q.tm.2.2⟩⟩)
/-- d[k] = v, d an owned dict -/
theorem blk_dput {kvs : List (Key × D)} {n : Nat} {q : Addr} {k : Key} {pos' : Pos} (hu : X.A.units + 1 < cLine) (hv : Px X v g l d) (ho : Px X o g l (.adr q)) (hi : Px X e g l d2) (hk : d2 = kD k) (hl : l[n]? = some (ownD X.K q kvs)) (hz : kvs.length < 10000)
    (h : Blk X W rest g (l.set n (ownD X.K q (putKD kvs k d))) Φ) (hs : swapsWith v (some (.Subscript o e pos')) pos.line X.env = pure false := by rfl) : Blk X W (.Assign [.Subscript o e pos'] v pos :: rest) g l Φ := fun en T σ H D s mm => wpS_of (pss_cons (ps_dput hu pe_wp pe_wp pe_wp hs) pss_wp) (by
  subst hk
  refine hv en T σ H _ s fun w H1 s1 => ?_
  refine ho en _ σ H1 _ s1 fun u H2 s2 => ?_
  refine hi en _ σ H2 _ s2 fun y H3 s3 => ?_
  obtain ⟨F, M, a⟩ := s3
  have fu := a.tm.2.1
  cases fu
  obtain ⟨vs, fv, hp⟩ := a.rs.ownD hl a.exM
  refine ⟨q, _, rfl, .inl ⟨vs, k, hp, a.tm.1.key, ?_, rfl⟩, ?_⟩
  · rw [fv.length]; exact Nat.lt_of_lt_of_le hz (by decide)
  · obtain ⟨M', a'⟩ := (a.tmp (T' := T) a.tm.2.2.2).putOne (k := n) (p := q) (r' := ownD X.K q (putKD kvs k d)) (o' := .dK (L2.putK vs k w)) hl (fun A ⟨_, _, e⟩ => ⟨_, e⟩) ⟨_, fv.putK a.tm.2.2.1, rfl⟩
    exact h en T σ _ D ⟨F, M', a'⟩ mm)
/-- dict(d) -/
theorem ev_dictOf {kvs : List (Key × D)} {e1 : Expr} (ha : Px X e1 g l d) (hd : Dv X.K l d kvs) (hm : X.mg "dict" = none) (hg : Gl X "dict" := by rfl) (hs : starEach [e1] X.env = (false, eval e1 X.env) :: starEach [] X.env := by rfl) : Ev X (.Call (.Name "dict" p) [e1] [] pos) g l (fun d' l' => ∃ p, d' = .adr p ∧ l' = ownD X.K p kvs :: l) :=
  ev_newD (pe_callTy call_dictD hg hm (by decide +kernel) (pa_wp (es := [e1])) (by decide) (by decide) hs rfl) fun en T σ H Q s k => by
  refine pa_c ha pa_n hs en T σ H _ s fun vs H1 s1 => ?_
  obtain ⟨F, M, q⟩ := s1
  obtain ⟨f, t⟩ := q.tm
  cases f with
  | cons f1 f2 =>
    cases f2
    obtain ⟨a, ws, rfl, sq, f⟩ := hd.get q.exF q.exM q.rs f1
    exact ⟨a, ws, rfl, .inl sq, fun p hp => k p _ H1 F M (q.tmp t) f hp⟩
theorem px_dictOf {kvs : List (Key × D)} {e1 : Expr} (ha : Px X e1 g l d) (hd : Dv X.K l d kvs) (hm : X.mg "dict" = none) (hg : Gl X "dict" := by rfl) (hs : starEach [e1] X.env = (false, eval e1 X.env) :: starEach [] X.env := by rfl) : Px X (.Call (.Name "dict" p) [e1] [] pos) g l (.dK kvs) := (ev_dictOf ha hd hm hg hs).frzD
end
section
variable {K : PySem.W.Frag} {l : List Res} {d1 d2 : D}
/-- == of dicts that are alike, flat things in them -/
theorem FdFs.flatEq {F : Hp} : ∀ {vs ws : List (Key × V)} {kvs : List (Key × D)}, FdFs K F vs kvs → FdFs K F ws kvs → (kvs.all fun kv => kv.2.v.isSome && flatB (kv.2.v.getD .non)) = true → vs = ws ∧ (∀ p ∈ vs, flatB p.2 = true)
  | _, _, _, .nil, .nil, _ => ⟨rfl, fun p h => by cases h⟩
  | _, _, _, .cons (n := n) (v := v1) (d := d) a b, .cons (v := v2) c e, h => by
    rw [List.all_cons] at h
    obtain ⟨h1, h2⟩ := Bool.and_eq_true_iff.mp h
    obtain ⟨h3, h4⟩ := Bool.and_eq_true_iff.mp h1
    obtain ⟨v0, hv⟩ := Option.isSome_iff_exists.mp h3
    have h5 : flatB (d.v.getD .non) = true := h4
    rw [hv] at h5
    have e1 := D.v_eq a hv
    have e2 := D.v_eq c hv
    subst e1; subst e2
    obtain ⟨i1, i2⟩ := FdFs.flatEq b e h2
    subst i1
    refine ⟨rfl, fun p hp => ?_⟩
    rcases List.mem_cons.mp hp with rfl | hp
    · exact h5
    · exact i2 p hp
theorem valV_mem {κ : Type} [DecidableEq κ] : ∀ {vs : List (κ × V)}, (vs.map (·.1)).Nodup → ∀ p ∈ vs, L2.valV vs p.1 = some p.2
  | q :: r, nd, p, h => by
    unfold L2.valV
    rw [List.find?_cons]
    rw [List.map_cons, List.nodup_cons] at nd
    rcases List.mem_cons.mp h with rfl | h
    · rw [decide_eq_true rfl]; rfl
    · have ne : q.1 ≠ p.1 := fun e => nd.1 (by rw [e]; exact List.mem_map_of_mem h)
      rw [decide_eq_false ne]
      exact valV_mem nd.2 p h
theorem o_neDict {kvs : List (Key × D)} (h1 : Dv K l d1 kvs) (h2 : Dv K l d2 kvs) (hf : (kvs.all fun kv => kv.2.v.isSome && flatB (kv.2.v.getD .non)) = true) (nd : (kvs.map (·.1)).Nodup) : Op2 K l rNeDA d1 d2 (.bl false) := fun F M H v u Q eF eM dj rs f1 f2 k => by
  obtain ⟨a, vs, rfl, ha, fa⟩ := h1.get eF eM rs f1
  obtain ⟨b, ws, rfl, hb, fb⟩ := h2.get eF eM rs f2
  obtain ⟨e, fl⟩ := fa.flatEq fb hf
  subst e
  exact ⟨a, b, vs, vs, rfl, rfl, ha, hb, rfl, fun p hp => ⟨valV_mem (by rw [fa.names]; exact nd) p hp, fl p hp⟩, k _ F H (.rf eF) (.bl _)⟩
theorem o_eqDict {kvs : List (Key × D)} (h1 : Dv K l d1 kvs) (h2 : Dv K l d2 kvs) (hf : (kvs.all fun kv => kv.2.v.isSome && flatB (kv.2.v.getD .non)) = true) (nd : (kvs.map (·.1)).Nodup) : Op2 K l rEqDA d1 d2 (.bl true) := fun F M H v u Q eF eM dj rs f1 f2 k => by
  obtain ⟨a, vs, rfl, ha, fa⟩ := h1.get eF eM rs f1
  obtain ⟨b, ws, rfl, hb, fb⟩ := h2.get eF eM rs f2
  obtain ⟨e, fl⟩ := fa.flatEq fb hf
  subst e
  exact ⟨a, b, vs, vs, rfl, rfl, ha, hb, rfl, fun p hp => ⟨valV_mem (by rw [fa.names]; exact nd) p hp, fl p hp⟩, k _ F H (.rf eF) (.bl _)⟩
end
/-- a def that gives back a new list -/
abbrev Fr (K : PySem.W.Frag) {α : Type} (ok : α → Prop) (args : α → List D) (f : α → List D) : Sp := FnX K ok args (fun _ => []) (fun a d l => ∃ p, d = .adr p ∧ l = [ownL K p (f a)]) noE
section
variable {X : Cx} {g : Gm} {l : List Res} {e o : Expr} {es : List Expr} {p pos apos : Pos} {α : Type} {ok : α → Prop} {args : α → List D} {f : α → List D} {x m : Str} {ps : List Str} {k j : Nat}
theorem ev_callL (G : Glo X.prog X.w X.K X.mg X.base k x ps (Fr X.K ok args f)) (hr : Room j X.A) (hj : k ≤ j) (a : α) (hok : ok a) (ha : Pa X (e :: es) g l (args a))
    (hg : Gl X x := by rfl) (hdb : (x == ("__debug__" : Str)) = false := by decide) (he : starEach (e :: es) X.env = (false, eval e X.env) :: starEach es X.env := by rfl) (hpl : (backTo pos (starEach es X.env)).any (·.1) = false := by rfl) :
    EvL X (.Call (.Name x p) (e :: es) [] pos) g l (f a) :=
  ev_call (lr := l) (own := fun _ => []) G hr hj a hok ha (fun d l' ⟨q, e1, e2⟩ => ⟨q, e1, by rw [e2]; rfl⟩) hg hdb he hpl
theorem px_callL (G : Glo X.prog X.w X.K X.mg X.base k x ps (Fr X.K ok args f)) (hr : Room j X.A) (hj : k ≤ j) (a : α) (hok : ok a) (ha : Pa X (e :: es) g l (args a))
    (hg : Gl X x := by rfl) (hdb : (x == ("__debug__" : Str)) = false := by decide) (he : starEach (e :: es) X.env = (false, eval e X.env) :: starEach es X.env := by rfl) (hpl : (backTo pos (starEach es X.env)).any (·.1) = false := by rfl) :
    Px X (.Call (.Name x p) (e :: es) [] pos) g l (.lst (f a)) := (ev_callL G hr hj a hok ha hg hdb he hpl).frz
end
end Sx
set_option Elab.async false
set_option linter.all false
set_option maxRecDepth 100000
set_option maxHeartbeats 2000000
/-! d.get(k), d.get(k, x); a new dict asked at once. -/
namespace Sx
open PySem L2 PyProof.Rows
section
variable {X : Cx} {W : WX} {g g' : Gm} {l l' : List Res} {Φ : Po} {e e2 a b c o v : Expr} {es : List Expr} {d d1 d2 d3 : D} {pos p p2 apos : Pos} {rest : List Stmt}
theorem FdFs.valO {K : PySem.W.Frag} {F : Hp} {k : Key} {vs : List (Key × V)} {kvs : List (Key × D)} (f : FdFs K F vs kvs) {z : V} {dz : D} (h : Fd K F z dz) : Fd K F ((L2.valV vs k).getD z) ((valD kvs k).getD dz) := by
  cases q : valD kvs k with
  | none => rw [f.noV q]; exact h
  | some d => obtain ⟨w, h1, h2⟩ := f.valV q; rw [h1]; exact h2
theorem px_dget1 {kvs : List (Key × D)} {k : Key} (hu : X.A.units + 1 < cLine) (ho : Px X o g l d1) (hd : Dv X.K l d1 kvs) (hi : Px X e g l d2) (hk : d2 = kD k) (hm : M1 X o "get" apos e pos := by constructor <;> rfl) : Px X (.Call (.Attribute o "get" apos) [e] [] pos) g l ((valD kvs k).getD .non) := fun en T σ H Q s kk => wpE_of (pe_dget1 hu pe_wp pe_wp hm) (by
  subst hk
  refine ho en T σ H _ s fun v H1 s1 => ?_
  obtain ⟨F1, M1, q1⟩ := id s1
  obtain ⟨a, vs, rfl, hp, f⟩ := hd.get q1.exF q1.exM q1.rs q1.tm.1
  refine ⟨a, rfl, .inl ⟨vs, .inl hp⟩, ?_⟩
  refine hi en _ σ H1 _ s1 fun u H2 s2 => ?_
  obtain ⟨F, M, q⟩ := s2
  obtain ⟨a2, vs, e2, hp, f⟩ := hd.get q.exF q.exM q.rs q.tm.2.1
  cases e2
  exact ⟨_, .inl ⟨vs, k, .inl hp, q.tm.1.key, rfl⟩, kk _ H2 ⟨F, M, q.tmp ⟨f.valO .non, q.tm.2.2⟩⟩⟩)
theorem px_dget2 {kvs : List (Key × D)} {k : Key} (hu : X.A.units + 1 < cLine) (ho : Px X o g l d1) (hd : Dv X.K l d1 kvs) (hi : Px X e g l d2) (hk : d2 = kD k) (hv : Px X v g l d3) (hm : M2 X o "get" apos e v pos := by constructor <;> rfl) : Px X (.Call (.Attribute o "get" apos) [e, v] [] pos) g l ((valD kvs k).getD d3) := fun en T σ H Q s kk => wpE_of (pe_dget2 hu pe_wp pe_wp pe_wp hm) (by
  subst hk
  refine ho en T σ H _ s fun v H1 s1 => ?_
  obtain ⟨F1, M1, q1⟩ := id s1
  obtain ⟨a, vs, rfl, hp, f⟩ := hd.get q1.exF q1.exM q1.rs q1.tm.1
  refine ⟨a, rfl, .inl ⟨vs, .inl hp⟩, ?_⟩
  refine hi en _ σ H1 _ s1 fun u H2 s2 => ?_
  refine hv en _ σ H2 _ s2 fun z H3 s3 => ?_
  obtain ⟨F, M, q⟩ := s3
  obtain ⟨a2, vs, e2, hp, f⟩ := hd.get q.exF q.exM q.rs q.tm.2.2.1
  cases e2
  exact ⟨_, .inl ⟨vs, k, .inl hp, q.tm.2.1.key, rfl⟩, kk _ H3 ⟨F, M, q.tmp ⟨f.valO q.tm.1, q.tm.2.2.2⟩⟩⟩)
theorem ts_din {kvs : List (Key × D)} {k : Key} (hu : X.A.units + 1 < cLine) (hi : Px X e g l d2) (hk : d2 = kD k) (ho : Px X o g l d1) (hd : Dv X.K l d1 kvs) (hm : behindInMarks .In o = false := by first | exact nomark _ | rfl) : Ts X (.Compare e [.In] [o] pos) g l (valD kvs k).isSome := fun en T σ H Q s kk => wpT_of (pt_cmp (pc_din hu pe_wp pe_wp) hm) (by
  subst hk
  refine hi en T σ H _ s fun u H1 s1 => ?_
  refine ho en _ σ H1 _ s1 fun v H2 s2 => ?_
  obtain ⟨F, M, q⟩ := s2
  obtain ⟨a, vs, rfl, hp, f⟩ := hd.get q.exF q.exM q.rs q.tm.1
  have e : (L2.valV vs k).isSome = (valD kvs k).isSome := by
    cases z : valD kvs k with
    | none => rw [f.noV z]; rfl
    | some d => obtain ⟨w, h1, _⟩ := f.valV z; rw [h1]; rfl
  refine ⟨a, _, rfl, .inl ⟨vs, k, .inl hp, q.tm.2.1.key, rfl⟩, _, rfl, ?_⟩
  rw [e]
  exact kk H2 ⟨F, M, q.tmp q.tm.2.2⟩)
theorem ts_dnotin {kvs : List (Key × D)} {k : Key} (hu : X.A.units + 1 < cLine) (hi : Px X e g l d2) (hk : d2 = kD k) (ho : Px X o g l d1) (hd : Dv X.K l d1 kvs) (hm : behindInMarks .NotIn o = false := by first | exact nomark _ | rfl) : Ts X (.Compare e [.NotIn] [o] pos) g l (!(valD kvs k).isSome) := fun en T σ H Q s kk => wpT_of (pt_cmp (pc_dnotin hu pe_wp pe_wp) hm) (by
  subst hk
  refine hi en T σ H _ s fun u H1 s1 => ?_
  refine ho en _ σ H1 _ s1 fun v H2 s2 => ?_
  obtain ⟨F, M, q⟩ := s2
  obtain ⟨a, vs, rfl, hp, f⟩ := hd.get q.exF q.exM q.rs q.tm.1
  have e : (L2.valV vs k).isSome = (valD kvs k).isSome := by
    cases z : valD kvs k with
    | none => rw [f.noV z]; rfl
    | some d => obtain ⟨w, h1, _⟩ := f.valV z; rw [h1]; rfl
  refine ⟨a, _, rfl, .inl ⟨vs, k, .inl hp, q.tm.2.1.key, rfl⟩, _, rfl, ?_⟩
  rw [e]
  exact kk H2 ⟨F, M, q.tmp q.tm.2.2⟩)
/-- e is a new dict, asked at once for a thing that is flat -/
theorem px_dget1N {R : List (Key × D) → Prop} {k : Key} {v0 : V} (hu : X.A.units + 1 < cLine) (ho : Ev X o g l (fun d l' => ∃ p kvs, R kvs ∧ d = .adr p ∧ l' = ownD X.K p kvs :: l)) (hi : Px X e g l d2) (hk : d2 = kD k) (hR : ∀ kvs, R kvs → (valD kvs k).getD .non = d) (hd : d.v = some v0) (hm : M1 X o "get" apos e pos := by constructor <;> rfl) : Px X (.Call (.Attribute o "get" apos) [e] [] pos) g l d := fun en T σ H Q s kk => wpE_of (pe_dget1 hu pe_wp pe_wp hm) (by
  subst hk
  refine ho en T σ H _ s fun v d0 l' H1 ⟨p, kvs, hr, e1, e2⟩ s1 => ?_
  subst e1; subst e2
  obtain ⟨F1, M1, q1⟩ := id s1
  obtain ⟨a, vs, rfl, hp, f⟩ := (Dv.o (k := 0) rfl : Dv X.K (ownD X.K p kvs :: l) (.adr p) kvs).get q1.exF q1.exM q1.rs q1.tm.1
  refine ⟨a, rfl, .inl ⟨vs, .inl hp⟩, ?_⟩
  refine hi.fr en _ σ H1 _ s1 fun u H2 s2 => ?_
  obtain ⟨F, M, q⟩ := s2
  obtain ⟨a2, vs, e2, hp, f⟩ := (Dv.o (k := 0) rfl : Dv X.K (ownD X.K p kvs :: l) (.adr p) kvs).get q.exF q.exM q.rs q.tm.2.1
  cases e2
  have fz := f.valO (k := k) (z := .non) (dz := .non) .non
  rw [hR kvs hr] at fz
  refine ⟨_, .inl ⟨vs, k, .inl hp, q.tm.1.key, rfl⟩, kk _ H2 (S.dropO (l' := [ownD X.K p kvs]) ⟨F, M, q.tmp ⟨fz, q.tm.2.2⟩⟩)⟩)
/-- a call as a statement that gives nothing of worth -/
theorem blk_do {e : Expr} (he : Px X e g l d) (h : Blk X W rest g l Φ) (hs : swapsWith e none pos.line X.env = pure false := by rfl) : Blk X W (.Expr e pos :: rest) g l Φ := blk_expr he.ev (fun d l' ⟨_, e2⟩ => by subst e2; exact h) hs
end
end Sx
set_option Elab.async false
set_option linter.all false
set_option maxRecDepth 100000
set_option maxHeartbeats 2000000
/-! Dicts with tuples as keys, the key written out at the place. -/
namespace Sx
open PySem L2 PyProof.Rows
theorem FdAll.keys {K : PySem.W.Frag} {F : Hp} : ∀ {vs : List V} {ks : List Key}, FdAll K F vs (ks.map kD) → vs = ks.map kV
  | _, [], .nil => rfl
  | _, k :: ks, .cons a b => by rw [List.map_cons, a.key, FdAll.keys b]
section
variable {X : Cx} {W : WX} {g g' : Gm} {l l' : List Res} {Φ : Po} {e e2 a b c o v : Expr} {es : List Expr} {d d1 d2 d3 : D} {pos p p2 apos kp : Pos} {rest : List Stmt} {x1 : Nat} {ds : List D}
theorem FdFs.valO' {κ : Type} [DecidableEq κ] {K : PySem.W.Frag} {F : Hp} {k : κ} {vs : List (κ × V)} {kvs : List (κ × D)} (f : FdFs K F vs kvs) {z : V} {dz : D} (h : Fd K F z dz) : Fd K F ((L2.valV vs k).getD z) ((valD kvs k).getD dz) := by
  cases q : valD kvs k with
  | none => rw [f.noV q]; exact h
  | some d => obtain ⟨w, h1, h2⟩ := f.valV q; rw [h1]; exact h2
/-- d.get((..)) -/
theorem px_tget1 {kvs : List (List Key × D)} {k : List Key} (hu : X.A.units + 1 < cLine) (ho : Px X o g l d1) (hd : Dw X.K l d1 kvs) (hi : Pa X es g l ds) (hk : ds = k.map kD) (hz : k.length ≤ sizeLine := by first | decide | exact Nat.le_of_ble_eq_true rfl) (hm : M1 X o "get" apos (.Tuple es x1 kp) pos := by constructor <;> rfl) : Px X (.Call (.Attribute o "get" apos) [.Tuple es x1 kp] [] pos) g l ((valD kvs k).getD .non) := fun en T σ H Q s kk => wpE_of (pe_dget1 hu pe_wp (pe_tup pa_wp) hm) (by
  subst hk
  refine ho en T σ H _ s fun v H1 s1 => ?_
  obtain ⟨F1, M1, q1⟩ := id s1
  obtain ⟨a, vs, rfl, hp, f⟩ := hd.get q1.exF q1.exM q1.rs q1.tm.1
  refine ⟨a, rfl, .inr ⟨vs, .inl hp⟩, ?_⟩
  refine hi en _ σ H1 _ s1 fun us H2 s2 => ?_
  obtain ⟨F, M, q⟩ := s2
  have ek := q.tm.1.keys
  subst ek
  refine ⟨by rw [List.length_map]; exact hz, fun p hp => ?_⟩
  have n := New.upd (o := .tup (k.map kV)) q.exF hp
  have q3 := q.new n
  obtain ⟨a2, vs, e2, hp2, f⟩ := hd.get q3.exF q3.exM q3.rs q3.tm.2.1
  cases e2
  exact ⟨_, .inr ⟨vs, k, p, .inl hp2, rfl, upd_same, rfl⟩, kk _ _ ⟨_, M, q3.tmp ⟨f.valO' .non, q3.tm.2.2⟩⟩⟩)
/-- d.get((..), x) -/
theorem px_tget2 {kvs : List (List Key × D)} {k : List Key} (hu : X.A.units + 1 < cLine) (ho : Px X o g l d1) (hd : Dw X.K l d1 kvs) (hi : Pa X es g l ds) (hk : ds = k.map kD) (hv : Px X v g l d3) (hz : k.length ≤ sizeLine := by first | decide | exact Nat.le_of_ble_eq_true rfl) (hm : M2 X o "get" apos (.Tuple es x1 kp) v pos := by constructor <;> rfl) : Px X (.Call (.Attribute o "get" apos) [.Tuple es x1 kp, v] [] pos) g l ((valD kvs k).getD d3) := fun en T σ H Q s kk => wpE_of (pe_dget2 hu pe_wp (pe_tup pa_wp) pe_wp hm) (by
  subst hk
  refine ho en T σ H _ s fun v H1 s1 => ?_
  obtain ⟨F1, M1, q1⟩ := id s1
  obtain ⟨a, vs, rfl, hp, f⟩ := hd.get q1.exF q1.exM q1.rs q1.tm.1
  refine ⟨a, rfl, .inr ⟨vs, .inl hp⟩, ?_⟩
  refine hi en _ σ H1 _ s1 fun us H2 s2 => ?_
  obtain ⟨F, M, q⟩ := s2
  have ek := q.tm.1.keys
  subst ek
  refine ⟨by rw [List.length_map]; exact hz, fun p hp => ?_⟩
  have n := New.upd (o := .tup (k.map kV)) q.exF hp
  have q3 := q.new n
  refine hv en ((T.and X.K (.ref a) d1).ex (upd F p (.tup (k.map kV)))) σ _ _ ⟨_, M, q3.tmp ⟨.rf, q3.tm.2⟩⟩ fun z H3 s3 => ?_
  obtain ⟨F3, M3, q4⟩ := s3
  obtain ⟨a2, vs, e2, hp2, f⟩ := hd.get q4.exF q4.exM q4.rs q4.tm.2.2.1
  cases e2
  exact ⟨_, .inr ⟨vs, k, p, .inl hp2, rfl, q4.exF _ _ (q4.tm.2.1 _ _ upd_same), rfl⟩, kk _ _ ⟨_, M3, q4.tmp ⟨f.valO' q4.tm.1, q4.tm.2.2.2⟩⟩⟩)
/-- d[..] -/
theorem px_tget {kvs : List (List Key × D)} {k : List Key} (hu : X.A.units + 1 < cLine) (ho : Px X o g l d1) (hd : Dw X.K l d1 kvs) (hi : Pa X es g l ds) (hk : ds = k.map kD) (hv : valD kvs k = some d) (hz : k.length ≤ sizeLine := by first | decide | exact Nat.le_of_ble_eq_true rfl) (hs : NoSl (.Tuple es x1 kp) := by intro _ _; rfl) : Px X (.Subscript o (.Tuple es x1 kp) pos) g l d := fun en T σ H Q s kk => wpE_of (pe_dget hu pe_wp (pe_tup pa_wp) hs) (by
  subst hk
  refine ho en T σ H _ s fun v H1 s1 => ?_
  refine hi en _ σ H1 _ s1 fun us H2 s2 => ?_
  obtain ⟨F, M, q⟩ := s2
  have ek := q.tm.1.keys
  subst ek
  refine ⟨by rw [List.length_map]; exact hz, fun p hp => ?_⟩
  have n := New.upd (o := .tup (k.map kV)) q.exF hp
  have q3 := q.new n
  obtain ⟨a, vs, rfl, hp2, f⟩ := hd.get q3.exF q3.exM q3.rs q3.tm.2.1
  obtain ⟨w, h1, h2⟩ := f.valV hv
  exact ⟨a, w, rfl, .inr ⟨vs, k, p, .inl hp2, rfl, upd_same, h1.symm⟩, kk w _ ⟨_, M, q3.tmp ⟨h2, q3.tm.2.2⟩⟩⟩)
/-- d[..] = v -/
theorem blk_tput {kvs : List (List Key × D)} {n : Nat} {q : Addr} {k : List Key} {pos' : Pos} (hu : X.A.units + 1 < cLine) (hv : Px X v g l d) (ho : Px X o g l (.adr q)) (hi : Pa X es g l ds) (hk : ds = k.map kD) (hl : l[n]? = some (ownT X.K q kvs)) (hz : kvs.length < 10000)
    (h : Blk X W rest g (l.set n (ownT X.K q (putKD kvs k d))) Φ) (hkz : k.length ≤ sizeLine := by first | decide | exact Nat.le_of_ble_eq_true rfl) (hs : swapsWith v (some (.Subscript o (.Tuple es x1 kp) pos')) pos.line X.env = pure false := by rfl) : Blk X W (.Assign [.Subscript o (.Tuple es x1 kp) pos'] v pos :: rest) g l Φ := fun en T σ H D s mm => wpS_of (pss_cons (ps_dput hu pe_wp (pe_tup pa_wp) pe_wp hs) pss_wp) (by
  subst hk
  refine hv en T σ H _ s fun w H1 s1 => ?_
  refine ho en _ σ H1 _ s1 fun u H2 s2 => ?_
  refine hi en _ σ H2 _ s2 fun us H3 s3 => ?_
  obtain ⟨F, M, a⟩ := s3
  have ek := a.tm.1.keys
  subst ek
  have fu := a.tm.2.1
  cases fu
  refine ⟨by rw [List.length_map]; exact hkz, fun p hp => ?_⟩
  have nw := New.upd (o := .tup (k.map kV)) a.exF hp
  have a3 := a.new nw
  obtain ⟨vs, fv, hq⟩ := a3.rs.ownT hl a3.exM
  refine ⟨q, _, rfl, .inr ⟨vs, k, p, hq, rfl, upd_same, ?_, rfl⟩, ?_⟩
  · rw [fv.length]; exact Nat.lt_of_lt_of_le hz (by decide)
  · obtain ⟨M', a'⟩ := (a3.tmp (T' := T) a3.tm.2.2.2).putOne (k := n) (p := q) (r' := ownT X.K q (putKD kvs k d)) (o' := .dT (L2.putK vs k w)) hl (fun A ⟨_, _, e⟩ => ⟨_, e⟩) ⟨_, fv.putK a3.tm.2.2.1, rfl⟩
    exact h en T σ _ D ⟨_, M', a'⟩ mm)
/-- {} that will have tuples as keys -/
theorem ev_t0 : Ev X (.Dict [] [] pos) g l (fun d' l' => ∃ p, d' = .adr p ∧ l' = ownT X.K p [] :: l) := fun en T σ H Q s k => wpE_of pe_dnewT (by
  intro p hp
  obtain ⟨F, M, q⟩ := s
  have q3 := q.newO (r := ownT X.K p []) (A := one p (.dT [])) (H' := upd H p (.dT [])) (.new hp) (fun x o z => by obtain ⟨rfl, rfl⟩ := one_some z; exact upd_same) (fun x o z => by obtain ⟨rfl, rfl⟩ := one_some z; exact hp) ⟨[], .nil, rfl⟩
  exact k _ (.adr p) _ _ ⟨p, rfl, rfl⟩ ⟨F, _, q3.tmp ⟨.adr p, q.tm⟩⟩)
end
end Sx
set_option Elab.async false
set_option linter.all false
set_option maxRecDepth 100000
set_option maxHeartbeats 2000000
/-! A caught exception that is kept: the state is widened by its object. -/
namespace Sx
open PySem L2 PyProof.Rows
def exO (a : Addr) (cls : Value) (d : Option Addr) : HO := .ext fun h => ∃ oe, h.get? a = some oe ∧ Zc cls d oe ∧ ∃ vs, oe.data = .fields vs
theorem exO_ok {P : Program} {w : World} {H : Hp} {h : Heap} {a : Addr} {cls : Value} {d : Option Addr} {oe : Obj} {vs : Array Value} (he : h.get? a = some oe) (hz : Zc cls d oe) (hd : oe.data = .fields vs) : ObjOk P w H h a (exO a cls d) :=
  ⟨⟨oe, he, hz, vs, hd⟩, ⟨oe, he⟩, fun _ _ ⟨o1, q, z, v, dd⟩ k => ⟨o1, k _ q, z, v, dd⟩⟩
theorem un_wide {fs ex : List Addr} {H H' : Hp} {h h' : Heap} {a : Addr} {o : HO} (u : Un fs ex H H' h h') (n : h.get? a = none) (hn : H' a = none) : Un fs ex H (upd H' a o) h h' where
  keep := u.keep
  slot := u.slot
  free := fun b ob q hb hx => by
    have ne : b ≠ a := fun e => by rw [e, n] at q; cases q
    rw [upd_ne ne]
    exact u.free b ob q hb hx
  there := u.there
  tups := fun b xs q => by
    have z := u.tups b xs q
    rw [upd_ne (ne_of_none z hn)]
    exact z
  frzs := fun b ob v q => by
    have z := u.frzs b ob v q
    rw [upd_ne (ne_of_none z hn)]
    exact z
  tbls := fun b ps q => by
    obtain ⟨more, z⟩ := u.tbls b ps q
    exact ⟨more, by rw [upd_ne (ne_of_none z hn)]; exact z⟩
theorem inv_wide {X : Cx} {pins : List (Addr × Obj)} {σ : L2.St} {H : Hp} {s : Shared} {a : Addr} {o : HO} (I : Inv X pins σ H s) (n : X.s_0.heap.get? a = none) (hn : H a = none) (np : ∀ p ∈ X.pn ++ pins, p.1 ≠ a) (nL : a ≠ X.env.locals)
    (nc : ∀ x c, X.env.cells.lookup x = some c → c ≠ a) (new : ObjOk X.prog X.w (upd H a o) s.heap a o) : Inv X pins σ (upd H a o) s :=
  ⟨I.ok, I.os, I.bare, un_wide I.base n hn, I.loc, I.cell, by rw [upd_ne (Ne.symm nL)]; exact I.free, fun x c e => by rw [upd_ne (nc x c e)]; exact I.freeC x c e,
    fun p hp => by
      obtain ⟨h1, h2, h3⟩ := I.pin p hp
      exact ⟨h1, by rw [upd_ne (np p hp)]; exact h2, h3⟩,
    fun b u e => by
      by_cases z : b = a
      · subst z
        rw [upd_same] at e
        cases e
        exact new
      · rw [upd_ne z] at e
        exact (I.hok b u e).stay (fun _ _ _ q => q) (fun b' q => by rw [upd_ne (ne_of_none q hn)]; exact q) fun b' xs q => by rw [upd_ne (ne_of_none q hn)]; exact q,
    I.len⟩
/-- a kept exception, owned: of the class at cls, no attributes of its own -/
def ownX (p : Addr) (cls : Value) (d : Option Addr) : Res := ⟨fun _ M => M = one p (exO p cls d), fun _ h => h⟩
end Sx
set_option Elab.async false
set_option linter.all false
set_option maxRecDepth 100000
set_option maxHeartbeats 2000000
/-! Models: what a block computes, told beside the block. -/
namespace Sx
open PySem L2

theorem Wk.set {g1 g2 : Gm} (w : Wk g1 g2) : ∀ (i : Nat) (o : Option D), Wk (g1.set i o) (g2.set i o) := by
  induction w with
  | nil => intro i o; exact .nil
  | any w ih => intro i o; cases i with
    | zero => exact .keep w
    | succ i => exact .any (ih i o)
  | keep w ih => intro i o; cases i with
    | zero => exact .keep w
    | succ i => exact .keep (ih i o)
theorem Wk.sets {is : List Nat} : ∀ {es : List D} {g1 g2 : Gm}, Wk g1 g2 → Wk (sets g1 is es) (sets g2 is es) := by
  induction is with
  | nil => intro es g1 g2 w; cases es <;> exact w
  | cons i is ih =>
    intro es g1 g2 w
    cases es with
    | nil => exact w
    | cons e es => exact ih (w.set i _)
/-- the model's let -/
def lt {α β : Type} (x : α) (k : α → β) : β := k x
/-- what a block with ways out comes to -/
inductive Cf (Rr Ll Ss : Type) where
  | nx (s : Ss) | rt (r : Rr) | bk (s : Ll) | ct (s : Ll)
def bnd {Rr Ll Ss S2 : Type} (o : Cf Rr Ll Ss) (k : Ss → Cf Rr Ll S2) : Cf Rr Ll S2 := match o with
  | .nx s => k s | .rt r => .rt r | .bk s => .bk s | .ct s => .ct s
def bndV {Rr Ss : Type} (o : Cf Rr Empty Ss) (k : Ss → Rr) : Rr := match o with
  | .nx s => k s | .rt r => r | .bk s => nomatch s | .ct s => nomatch s
def loop {α Rr Ll Ss : Type} (step : Ss → α → Cf Rr Ss Ss) : List α → Ss → Cf Rr Ll Ss
  | [], s => .nx s
  | x :: xs, s => match step s x with
    | .nx s' => loop step xs s' | .ct s' => loop step xs s' | .bk s' => .nx s' | .rt r => .rt r
def whileF {Ss : Type} (c : Ss → Bool) (step : Ss → Ss) : Nat → Ss → Ss
  | 0, s => s
  | n + 1, s => cond (c s) (whileF c step n (step s)) s
def whileR {Rr Ll Ss : Type} (c : Ss → Bool) (step : Ss → Cf Rr Ss Ss) : Nat → Ss → Cf Rr Ll Ss
  | 0, s => .nx s
  | n + 1, s => cond (c s) (match step s with
    | .nx s' => whileR c step n s' | .ct s' => whileR c step n s' | .bk s' => .nx s' | .rt r => .rt r) (.nx s)

section
variable {X : Cx} {W : WX} {g g' : Gm} {l l' : List Res} {e c o : Expr} {d : D} {pos p : Pos} {rest A B body : List Stmt}
variable {α β Rr Ll Ss S1 : Type}
/-- at the state s the slots are G s, what is owned R s -/
def Nx (G : Ss → Gm) (R : Ss → List Res) (s : Ss) : Po := { nx := fun g l => g = G s ∧ l = R s, rt := fun _ _ => False }
def Rt (RT : Rr → D → List Res → Prop) (r : Rr) : Po := { nx := fun _ _ => False, rt := RT r }
/-- .. of a def that may run off its end -/
def Rv (RT : Rr → D → List Res → Prop) (r : Rr) : Po := { nx := fun _ l => RT r .non l, rt := RT r }
def Ou (RT : Rr → D → List Res → Prop) (GL : Ll → Gm) (RL : Ll → List Res) (NX : Ss → Gm → List Res → Prop) : Cf Rr Ll Ss → Po
  | .nx s => { nx := NX s, rt := fun _ _ => False }
  | .rt r => { nx := fun _ _ => False, rt := RT r }
  | .bk s => { nx := fun _ _ => False, rt := fun _ _ => False, bk := fun g l => g = GL s ∧ l = RL s }
  | .ct s => { nx := fun _ _ => False, rt := fun _ _ => False, ct := fun g l => g = GL s ∧ l = RL s }
abbrev NxP (G : Ss → Gm) (R : Ss → List Res) : Ss → Gm → List Res → Prop := fun s g l => g = G s ∧ l = R s
abbrev NoNx : Ss → Gm → List Res → Prop := fun _ _ _ => False
/-- the block sts, from g and l on, comes to what m tells by Om -/
def Bo (X : Cx) (W : WX) (sts : List Stmt) (g : Gm) (l : List Res) (Om : β → Po) (m : β) : Prop := Blk X W sts g l (Om m)
/-- what leaves by A leaves by B; A does not run through -/
structure Le0 (A B : Po) : Prop where
  nx : ∀ g l, ¬ A.nx g l
  rt : ∀ d l, A.rt d l → B.rt d l
  bk : ∀ g l, A.bk g l → B.bk g l
  ct : ∀ g l, A.ct g l → B.ct g l
  ex : ∀ c d g l, A.ex c d g l → B.ex c d g l
theorem le_rt {RT : Rr → D → List Res → Prop} (a b : Rr) (m : Bool) : Le0 (Rt RT a) (Rt RT (cond true a b)) := ⟨fun _ _ h => h, fun _ _ h => h, fun _ _ h => h, fun _ _ h => h, fun _ _ _ _ h => h⟩
variable {Om : β → Po} {m m1 m2 : β} {k : α → β} {x0 : α} {b : Bool}
theorem Bo.weak {sts : List Stmt} (w : Wk g g') (h : Bo X W sts g' l Om m) : Bo X W sts g l Om m := Blk.weak w h
theorem Bo.perm {sts : List Stmt} (w : l.Perm l') (h : Bo X W sts g l' Om m) : Bo X W sts g l Om m := Blk.perm w h
/-- x = e -/
theorem bo_set {i : Nat} {x : Str} {pos' : Pos} (enc : α → D) (hN : X.N.Nodup) (hi : X.N[i]? = some x) (hx : Loc X.env.scope x) (he : Px X e g l (enc x0)) (h : ∀ y, y = x0 → Bo X W rest (g.set i (some (enc y))) l Om (k y))
    (hs : swapsWith e (some (.Name x pos')) pos.line X.env = pure false := by rfl) (hf : X.fn x = true ∨ X.env.scope.names.lookup x = some .local := by first | exact .inl rfl | exact .inr rfl | assumption) :
    Bo X W (.Assign [.Name x pos'] e pos :: rest) g l Om (lt x0 k) := blk_set hN hi hx he (h x0 rfl) hs hf
/-- x = e, a new list that x owns -/
theorem bo_setL {i : Nat} {x : Str} {pos' : Pos} {α : Type} {xs : List α} {k : List α → β} (enc : α → D) (hN : X.N.Nodup) (hi : X.N[i]? = some x) (hx : Loc X.env.scope x) (he : EvL X e g l (xs.map enc)) (h : ∀ p ys, ys = xs → Bo X W rest (g.set i (some (.adr p))) (ownL X.K p (ys.map enc) :: l) Om (k ys))
    (hs : swapsWith e (some (.Name x pos')) pos.line X.env = pure false := by rfl) (hf : X.fn x = true ∨ X.env.scope.names.lookup x = some .local := by first | exact .inl rfl | exact .inr rfl | assumption) :
    Bo X W (.Assign [.Name x pos'] e pos :: rest) g l Om (lt xs k) := blk_setX hN hi hx he (fun d l' ⟨p, e1, e2⟩ => by subst e1; subst e2; exact h p xs rfl) hs hf
/-- a target taken apart -/
theorem bo_asg {tg : Expr} {gt : TG} {is : List Nat} {es : List D} (he : Px X e g l d) (hg : PG X tg gt) (ht : Tg X.K gt is d es) (h : Bo X W rest (sets g is es) l Om m) (hs : swapsWithSole [tg] e pos.line X.env = pure false := by rfl) (hw : swappedStores [tg] e X.env = pure none := by rfl) (h1 : (assignEach [tg] X.env).map (·.2) = [assign tg X.env] := by rfl) :
    Bo X W (.Assign [tg] e pos :: rest) g l Om m := blk_asg he hg ht h hs hw h1
/-- x.append(e) -/
theorem bo_app {α : Type} {kk : Nat} {q : Addr} {apos cpos : Pos} {ys : List α} {v : α} {k : List α → β} (enc : α → D) (ho : Px X o g l (.adr q)) (hk : l[kk]? = some (ownL X.K q (ys.map enc))) (he : Px X e g l (enc v)) (hz : ys.length < 10000) (h : ∀ zs, zs = ys ++ [v] → Bo X W rest g (l.set kk (ownL X.K q (zs.map enc))) Om (k zs))
    (hp : PS X (.Expr (.Call (.Attribute o "append" apos) [e] [] cpos) pos) (tDrop (tBM X.K "list" rAppend (wpE X o) (tCons (wpE X e) tNil))) := by exact ps_expr (pe_bm PySem.F.plainAttrs_list PySem.F.slot_list_append PySem.F.type_list_append mt_append pe_wp (pa_cons pe_wp pa_nil))) :
    Bo X W (.Expr (.Call (.Attribute o "append" apos) [e] [] cpos) pos :: rest) g l Om (lt (ys ++ [v]) k) := by
  refine blk_add ho he hk (by rw [List.length_map]; exact Nat.lt_of_lt_of_le hz (by decide)) ?_ hp
  have := h _ rfl
  rw [List.map_append] at this
  exact this
/-- an expression that changes nothing, as a statement -/
theorem bo_do {e : Expr} (he : Px X e g l d) (h : Bo X W rest g l Om m) (hs : swapsWith e none pos.line X.env = pure false := by rfl) : Bo X W (.Expr e pos :: rest) g l Om m := blk_do he h hs
theorem bo_pass (h : Bo X W rest g l Om m) : Bo X W (.Pass pos :: rest) g l Om m := blk_pass h
/-- x += e -/
theorem bo_aug {i : Nat} {x : Str} {a n r : Int} {op : Operator} {f : Int → Int → Int} {pos' : Pos} {k : Int → β} (hN : X.N.Nodup) (hi : X.N[i]? = some x) (hx : Loc X.env.scope x) (hv : nth g i = some (.int a)) (he : Px X e g l (.int n)) (ho : PIp X op (ipI f)) (hr : f a n = r) (h : ∀ y, y = r → Bo X W rest (g.set i (some (.int y))) l Om (k y))
    (hf : X.fn x = true ∨ X.env.scope.names.lookup x = some .local := by first | exact .inl rfl | exact .inr rfl | assumption) : Bo X W (.AugAssign (.Name x pos') op e pos :: rest) g l Om (lt r k) := blk_aug hN hi hx hv he ho hr (h r rfl) hf
/-! ### ifs -/
/-- an if that is the last -/
theorem bo_if (hc : Ts X c g l b) (h1 : b = true → Bo X W A g l Om m1) (h2 : b = false → Bo X W B g l Om m2) : Bo X W [.If c A B pos] g l Om (cond b m1 m2) :=
  blk_if hc (fun e => by subst e; exact (h1 rfl).imp (fun _ _ h => blk_nil h) (fun _ _ h => h) (fun _ _ h => h) (fun _ _ h => h) (fun _ _ _ _ h => h)) (fun e => by subst e; exact (h2 rfl).imp (fun _ _ h => blk_nil h) (fun _ _ h => h) (fun _ _ h => h) (fun _ _ h => h) (fun _ _ _ _ h => h))
/-- an if whose first way does not run through -/
theorem bo_ifR {RT : Rr → D → List Res → Prop} {r1 r2 : Rr} (hc : Ts X c g l b) (h1 : b = true → Bo X W A g l (Rt RT) r1) (h2 : b = false → Bo X W rest g l (Rt RT) r2) : Bo X W (.If c A [] pos :: rest) g l (Rt RT) (cond b r1 r2) :=
  blk_if hc (fun e => by subst e; exact (h1 rfl).imp (fun _ _ h => h.elim) (fun _ _ h => h) (fun _ _ h => h) (fun _ _ h => h) (fun _ _ _ _ h => h)) (fun e => by subst e; exact blk_nil (h2 rfl))
theorem bo_ifRv {RT : Rr → D → List Res → Prop} {r1 r2 : Rr} (hc : Ts X c g l b) (h1 : b = true → Bo X W A g l (Rt RT) r1) (h2 : b = false → Bo X W rest g l (Rv RT) r2) : Bo X W (.If c A [] pos :: rest) g l (Rv RT) (cond b r1 r2) :=
  blk_if hc (fun e => by subst e; exact (h1 rfl).imp (fun _ _ h => h.elim) (fun _ _ h => h) (fun _ _ h => h) (fun _ _ h => h) (fun _ _ _ _ h => h)) (fun e => by subst e; exact blk_nil (h2 rfl))
theorem bo_ifO {RT : Rr → D → List Res → Prop} {GL : Ll → Gm} {RL : Ll → List Res} {NX : Ss → Gm → List Res → Prop} {o1 o2 : Cf Rr Ll Ss} (hc : Ts X c g l b) (h1 : b = true → Bo X W A g l (Ou RT GL RL NoNx) o1) (h2 : b = false → Bo X W rest g l (Ou RT GL RL NX) o2) : Bo X W (.If c A [] pos :: rest) g l (Ou RT GL RL NX) (cond b o1 o2) :=
  blk_if hc (fun e => by
    subst e
    have h1 := h1 rfl
    unfold Bo at h1
    cases o1 with
    | nx s => exact h1.imp (fun _ _ h => h.elim) (fun _ _ h => h.elim) (fun _ _ h => h.elim) (fun _ _ h => h.elim) (fun _ _ _ _ h => h.elim)
    | rt s => exact h1.imp (fun _ _ h => h.elim) (fun _ _ h => h) (fun _ _ h => h.elim) (fun _ _ h => h.elim) (fun _ _ _ _ h => h.elim)
    | bk s => exact h1.imp (fun _ _ h => h.elim) (fun _ _ h => h.elim) (fun _ _ h => h) (fun _ _ h => h.elim) (fun _ _ _ _ h => h.elim)
    | ct s => exact h1.imp (fun _ _ h => h.elim) (fun _ _ h => h.elim) (fun _ _ h => h.elim) (fun _ _ h => h) (fun _ _ _ _ h => h.elim)) (fun e => by subst e; exact blk_nil (h2 rfl))
/-- the ways of an if meet -/
theorem bo_ifS {S1 : Type} {s1 s2 : S1} {k : S1 → β} (G : S1 → Gm) (R : S1 → List Res) (hc : Ts X c g l b) (h1 : b = true → Bo X W A g l (Nx G R) s1) (h2 : b = false → Bo X W B g l (Nx G R) s2) (h : ∀ s, s = cond b s1 s2 → Bo X W rest (G s) (R s) Om (k s)) : Bo X W (.If c A B pos :: rest) g l Om (lt (cond b s1 s2) k) :=
  blk_if hc (fun e => by
    subst e
    exact (h1 rfl).imp (fun g' l' ⟨w, q⟩ => by subst w; subst q; exact h s1 rfl) (fun _ _ h => h.elim) (fun _ _ h => h.elim) (fun _ _ h => h.elim) (fun _ _ _ _ h => h.elim)) (fun e => by
    subst e
    exact (h2 rfl).imp (fun g' l' ⟨w, q⟩ => by subst w; subst q; exact h s2 rfl) (fun _ _ h => h.elim) (fun _ _ h => h.elim) (fun _ _ h => h.elim) (fun _ _ _ _ h => h.elim))
theorem ou_bind {RT : Rr → D → List Res → Prop} {GL : Ll → Gm} {RL : Ll → List Res} {S1 : Type} {G : S1 → Gm} {R : S1 → List Res} {NX : Ss → Gm → List Res → Prop} {o1 : Cf Rr Ll S1} {k : S1 → Cf Rr Ll Ss} (h : Blk X W A g l (Ou RT GL RL (NxP G R) o1)) (h2 : ∀ s, o1 = .nx s → Bo X W rest (G s) (R s) (Ou RT GL RL NX) (k s)) :
    Blk X W A g l { Ou RT GL RL NX (bnd o1 k) with nx := fun g' l' => Blk X W rest g' l' (Ou RT GL RL NX (bnd o1 k)) } := by
  cases o1 with
  | nx s => exact h.imp (fun g' l' hh => by obtain ⟨w, q⟩ := hh; subst w; subst q; exact h2 _ rfl) (fun _ _ h => h.elim) (fun _ _ h => h.elim) (fun _ _ h => h.elim) (fun _ _ _ _ h => h.elim)
  | rt s => exact h.imp (fun _ _ h => h.elim) (fun _ _ h => h) (fun _ _ h => h.elim) (fun _ _ h => h.elim) (fun _ _ _ _ h => h.elim)
  | bk s => exact h.imp (fun _ _ h => h.elim) (fun _ _ h => h.elim) (fun _ _ h => h) (fun _ _ h => h.elim) (fun _ _ _ _ h => h.elim)
  | ct s => exact h.imp (fun _ _ h => h.elim) (fun _ _ h => h.elim) (fun _ _ h => h.elim) (fun _ _ h => h) (fun _ _ _ _ h => h.elim)
theorem ov_bind {RT : Rr → D → List Res → Prop} {GL : Empty → Gm} {RL : Empty → List Res} {S1 : Type} {G : S1 → Gm} {R : S1 → List Res} {o1 : Cf Rr Empty S1} {k : S1 → Rr} (h : Blk X W A g l (Ou RT GL RL (NxP G R) o1)) (h2 : ∀ s, o1 = .nx s → Bo X W rest (G s) (R s) (Rt RT) (k s)) :
    Blk X W A g l { Rt RT (bndV o1 k) with nx := fun g' l' => Blk X W rest g' l' (Rt RT (bndV o1 k)) } := by
  cases o1 with
  | nx s => exact h.imp (fun g' l' hh => by obtain ⟨w, q⟩ := hh; subst w; subst q; exact h2 _ rfl) (fun _ _ h => h.elim) (fun _ _ h => h.elim) (fun _ _ h => h.elim) (fun _ _ _ _ h => h.elim)
  | rt s => exact h.imp (fun _ _ h => h.elim) (fun _ _ h => h) (fun _ _ h => h.elim) (fun _ _ h => h.elim) (fun _ _ _ _ h => h.elim)
  | bk s => exact nomatch s
  | ct s => exact nomatch s
theorem bo_ifB {RT : Rr → D → List Res → Prop} {GL : Ll → Gm} {RL : Ll → List Res} {S1 : Type} {NX : Ss → Gm → List Res → Prop} {o1 o2 : Cf Rr Ll S1} {k : S1 → Cf Rr Ll Ss} (G : S1 → Gm) (R : S1 → List Res) (hc : Ts X c g l b) (h1 : b = true → Bo X W A g l (Ou RT GL RL (NxP G R)) o1) (h2 : b = false → Bo X W B g l (Ou RT GL RL (NxP G R)) o2)
    (h : ∀ s, cond b o1 o2 = .nx s → Bo X W rest (G s) (R s) (Ou RT GL RL NX) (k s)) : Bo X W (.If c A B pos :: rest) g l (Ou RT GL RL NX) (bnd (cond b o1 o2) k) :=
  blk_if hc (fun e => by subst e; exact ou_bind (h1 rfl) h) (fun e => by subst e; exact ou_bind (h2 rfl) h)
theorem bo_ifV {RT : Rr → D → List Res → Prop} {GL : Empty → Gm} {RL : Empty → List Res} {S1 : Type} {o1 o2 : Cf Rr Empty S1} {k : S1 → Rr} (G : S1 → Gm) (R : S1 → List Res) (hc : Ts X c g l b) (h1 : b = true → Bo X W A g l (Ou RT GL RL (NxP G R)) o1) (h2 : b = false → Bo X W B g l (Ou RT GL RL (NxP G R)) o2)
    (h : ∀ s, cond b o1 o2 = .nx s → Bo X W rest (G s) (R s) (Rt RT) (k s)) : Bo X W (.If c A B pos :: rest) g l (Rt RT) (bndV (cond b o1 o2) k) :=
  blk_if hc (fun e => by subst e; exact ov_bind (h1 rfl) h) (fun e => by subst e; exact ov_bind (h2 rfl) h)
/-! ### leaves -/
theorem bo_nx {G : Ss → Gm} {R : Ss → List Res} {s : Ss} (w : Wk g (G s)) (h : l = R s) : Bo X W [] g l (Nx G R) s := Blk.weak w (blk_nil ⟨rfl, h⟩)
theorem bo_nxO {RT : Rr → D → List Res → Prop} {GL : Ll → Gm} {RL : Ll → List Res} {G : Ss → Gm} {R : Ss → List Res} {s : Ss} (w : Wk g (G s)) (h : l = R s) : Bo X W [] g l (Ou RT GL RL (NxP G R)) (.nx s) := Blk.weak w (blk_nil ⟨rfl, h⟩)
theorem bo_bk {RT : Rr → D → List Res → Prop} {GL : Ll → Gm} {RL : Ll → List Res} {NX : Ss → Gm → List Res → Prop} {s : Ll} (w : Wk g (GL s)) (h : l = RL s) : Bo X W (.Break pos :: rest) g l (Ou RT GL RL NX) (.bk s) := Blk.weak w (blk_brk ⟨rfl, h⟩)
theorem bo_ct {RT : Rr → D → List Res → Prop} {GL : Ll → Gm} {RL : Ll → List Res} {NX : Ss → Gm → List Res → Prop} {s : Ll} (w : Wk g (GL s)) (h : l = RL s) : Bo X W (.Continue pos :: rest) g l (Ou RT GL RL NX) (.ct s) := Blk.weak w (blk_cont ⟨rfl, h⟩)
/-- what a def gives back: frozen; a new list -/
abbrev PuR (enc : Rr → D) : Rr → D → List Res → Prop := fun r d l => d = enc r ∧ l = []
abbrev FrR (K : PySem.W.Frag) (enc : α → D) : List α → D → List Res → Prop := fun r d l => ∃ p, d = .adr p ∧ l = [ownL K p (r.map enc)]
theorem Px.drop (h : Px X e g l d) : Ev X e g l (fun d' l' => d' = d ∧ l' = []) := fun en T σ H Q s k => h en T σ H Q s fun v H' s' => k v d [] H' ⟨rfl, rfl⟩ (S.dropO (l' := l) (by rw [List.append_nil]; exact s'))
theorem bo_ret {enc : Rr → D} {r : Rr} (he : Px X e g l (enc r)) : Bo X W (.Return (some e) pos :: rest) g l (Rt (PuR enc)) r := blk_retX he.drop fun d l' h => h
theorem bo_retO {enc : Rr → D} {GL : Ll → Gm} {RL : Ll → List Res} {NX : Ss → Gm → List Res → Prop} {r : Rr} (he : Px X e g l (enc r)) : Bo X W (.Return (some e) pos :: rest) g l (Ou (PuR enc) GL RL NX) (.rt r) := blk_retX he.drop fun d l' h => h
theorem bo_retN {enc : Rr → D} {r : Rr} (he : enc r = .non) : Bo X W (.Return none pos :: rest) g l (Rt (PuR enc)) r := blk_frzAll (blk_retN ⟨he.symm, rfl⟩)
theorem bo_end {enc : Rr → D} {r : Rr} (he : enc r = .non) : Bo X W [] g l (Rv (PuR enc)) r := blk_frzAll (blk_nil ⟨he.symm, rfl⟩)
theorem Ev.dropL {ds : List D} (h : EvL X e g l ds) : Ev X e g l (fun d' l' => ∃ p, d' = .adr p ∧ l' = [ownL X.K p ds]) := fun en T σ H Q s k => h en T σ H Q s fun v d l' H' ⟨p, e1, e2⟩ s' => by
  subst e1; subst e2
  exact k v _ _ H' ⟨p, rfl, rfl⟩ (S.dropO (l' := l) (S.perm (List.perm_append_comm (l₁ := [ownL X.K p ds]) (l₂ := l)) s'))
theorem bo_retL {α : Type} {enc : α → D} {r : List α} (he : EvL X e g l (r.map enc)) : Bo X W (.Return (some e) pos :: rest) g l (Rt (FrR X.K enc)) r := blk_retX he.dropL fun d l' h => h
theorem bo_retLO {α : Type} {enc : α → D} {GL : Ll → Gm} {RL : Ll → List Res} {NX : Ss → Gm → List Res → Prop} {r : List α} (he : EvL X e g l (r.map enc)) : Bo X W (.Return (some e) pos :: rest) g l (Ou (FrR X.K enc) GL RL NX) (.rt r) := blk_retX he.dropL fun d l' h => h
theorem perm_at {r : Res} : ∀ {l : List Res} {k : Nat}, l[k]? = some r → l.Perm (r :: l.eraseIdx k)
  | [], _, h => by simp at h
  | a :: l, 0, h => by simp at h; subst h; exact .refl _
  | a :: l, k + 1, h => by
    have ih := perm_at (l := l) (k := k) (by simpa using h)
    rw [List.eraseIdx_cons_succ]
    exact (ih.cons a).trans (.swap _ _ _)
/-- an owned list, as it stands, is given back -/
theorem ev_ownL {ds : List D} {kk : Nat} {q : Addr} (he : Px X e g l (.adr q)) (hk : l[kk]? = some (ownL X.K q ds)) : Ev X e g l (fun d' l' => ∃ p, d' = .adr p ∧ l' = [ownL X.K p ds]) := fun en T σ H Q s k => he en T σ H Q s fun v H' s' =>
  k v _ _ H' ⟨q, rfl, rfl⟩ (S.dropO (l' := l.eraseIdx kk) (S.perm ((perm_at hk).trans (List.perm_append_comm (l₁ := [ownL X.K q ds]) (l₂ := l.eraseIdx kk))) s'))
theorem bo_retW {α : Type} {enc : α → D} {r : List α} {kk : Nat} {q : Addr} (he : Px X e g l (.adr q)) (hk : l[kk]? = some (ownL X.K q (r.map enc))) : Bo X W (.Return (some e) pos :: rest) g l (Rt (FrR X.K enc)) r := blk_retX (ev_ownL he hk) fun d l' h => h
/-- an owned list is frozen -/
theorem bo_frz {sts : List Stmt} {q : Addr} {ds : List D} {i kk : Nat} (hi : nth g i = some (.adr q)) (hk : l[kk]? = some (ownL X.K q ds)) (h : Bo X W sts (g.set i (some (.lst ds))) (l.eraseIdx kk) Om m) : Bo X W sts g l Om m := Blk.perm (perm_at hk) (Blk.frz hi h)
theorem Blk.perm' {sts : List Stmt} {Φ : Po} (h : l.Perm l') (k : Blk X W sts g l' Φ) : Blk X W sts g l Φ := Blk.perm h k
theorem S.ownLd {K : PySem.W.Frag} {en : En} {T : Tm} {σ : L2.St} {H : Hp} {q : Addr} {ds : List D} {l : List Res} (s : S K en g (T.and K (.ref q) (.adr q)) (ownL K q ds :: l) σ H) : S K en g (T.and K (.ref q) (.lst ds)) l σ H := by
  obtain ⟨F, M, a⟩ := s
  obtain ⟨F', M', a', f, _⟩ := a.frz (P := fun F' => Fd K F' (.ref q) (.lst ds)) fun A hA => by
    obtain ⟨vs, f, rfl⟩ := hA
    have hF : F q = none := by
      obtain ⟨A, B, rfl, _, ⟨_, _, rfl⟩, _⟩ := a.rs
      exact a.dj.sym q _ (join_l one_same)
    exact .lst (by rw [join_r hF]; exact one_same) (FdAll.mono (fun x o h => join_l h) _ f)
  exact ⟨F', M', a'.tmp ⟨f, a'.tm.2⟩⟩
/-- an owned list is given back for good -/
theorem ev_retF {ds : List D} {kk : Nat} {q : Addr} (he : Px X e g l (.adr q)) (hk : l[kk]? = some (ownL X.K q ds)) : Ev X e g l (fun d' l' => d' = .lst ds ∧ l' = []) := fun en T σ H Q s k => he en T σ H Q s fun v H' s' => by
  obtain ⟨F, M, a⟩ := id s'
  have fv := a.tm.1
  cases fv
  have s2 := (S.perm (perm_at hk) s').ownLd
  exact k _ _ _ H' ⟨rfl, rfl⟩ (S.dropO (l' := l.eraseIdx kk) (by rw [List.append_nil]; exact s2))
theorem bo_retF {α : Type} {enc : α → D} {r : List α} {kk : Nat} {q : Addr} (he : Px X e g l (.adr q)) (hk : l[kk]? = some (ownL X.K q (r.map enc))) : Bo X W (.Return (some e) pos :: rest) g l (Rt (PuR (fun r : List α => D.lst (r.map enc)))) r := blk_retX (ev_retF he hk) fun d l' h => h
/-! ### loops -/
theorem loop_step {step : S1 → α → Cf Rr S1 S1} {xs : List α} {i : Nat} {x : α} {s : S1} (h : xs[i]? = some x) : (loop step (xs.drop i) s : Cf Rr Ll S1) = match step s x with
    | .nx s' => loop step (xs.drop (i + 1)) s' | .ct s' => loop step (xs.drop (i + 1)) s' | .bk s' => .nx s' | .rt r => .rt r := by
  obtain ⟨hl, e⟩ := List.getElem?_eq_some_iff.mp h
  rw [List.drop_eq_getElem_cons hl, e]
  rfl
theorem loop_end {step : S1 → α → Cf Rr S1 S1} {xs : List α} {s : S1} : (loop step (xs.drop xs.length) s : Cf Rr Ll S1) = .nx s := by
  rw [List.drop_length]; rfl
theorem bo_for {tg iter : Expr} {gt : TG} {is : List Nat} {xs : List α} {step : S1 → α → S1} {s0 : S1} {k : S1 → β} (enc : α → D) (G : S1 → Gm) (R : S1 → List Res) (J : Nat → S1 → Prop) (hp : PassesOwn (model X.prog X.w) X.A X.env X.xe) (hc : X.calm = true) (hi : Itw X tg iter g l (xs.map enc)) (hg : PG X tg gt)
    (h0 : Wk g (G s0)) (hl : l = R s0) (j0 : J 0 s0)
    (hs : ∀ i x s, xs[i]? = some x → s = (xs.take i).foldl step s0 → J i s → J (i + 1) (step s x) ∧ ∃ es, Tg X.K gt is (enc x) es ∧ Bo X W body (sets (G s) is es) (R s) (Nx G R) (step s x))
    (h : ∀ s, s = xs.foldl step s0 → J xs.length s → Bo X W rest (G s) (R s) Om (k s)) (hf : ∀ x, foldedSetIterable iter X.env x = pure x := by intro _; rfl) : Bo X W (.For tg iter body [] pos :: rest) g l Om (lt (xs.foldl step s0) k) := by
  subst hl
  refine blk_for (is := is) (fun i g' l' => (i = 0 ∧ g' = g ∧ l' = R s0) ∨ ∃ s, s = (xs.take i).foldl step s0 ∧ J i s ∧ g' = G s ∧ l' = R s) hp hc hi hg (.inl ⟨rfl, rfl, rfl⟩) (fun i d g' l' hd hI => ?_) (fun g' l' hI => ?_) hf
  · rw [List.getElem?_map] at hd
    cases q : xs[i]? with
    | none => rw [q] at hd; cases hd
    | some x =>
      rw [q] at hd
      cases hd
      obtain ⟨s, e1, e2, e3, e4⟩ : ∃ s, s = (xs.take i).foldl step s0 ∧ J i s ∧ Wk g' (G s) ∧ l' = R s := by
        rcases hI with ⟨rfl, rfl, rfl⟩ | ⟨s, h1, h2, rfl, rfl⟩
        · exact ⟨s0, rfl, j0, h0, rfl⟩
        · exact ⟨s, h1, h2, .rf, rfl⟩
      subst e4
      obtain ⟨h1, es, h2, h3⟩ := hs i x s q e1 e2
      have tk : (xs.take (i + 1)).foldl step s0 = step s x := by
        rw [List.take_add_one, q, List.foldl_append, ← e1]; rfl
      exact ⟨es, h2, Blk.weak e3.sets (h3.imp (fun g2 l2 ⟨w, q2⟩ => .inr ⟨_, tk.symm, h1, w, q2⟩) (fun _ _ h => h.elim) (fun _ _ h => h.elim) (fun _ _ h => h.elim) (fun _ _ _ _ h => h.elim))⟩
  · rw [List.length_map] at hI
    obtain ⟨s, e1, e2, e3, e4⟩ : ∃ s, s = xs.foldl step s0 ∧ J xs.length s ∧ Wk g' (G s) ∧ l' = R s := by
      rcases hI with ⟨h1, rfl, rfl⟩ | ⟨s, h1, h2, rfl, rfl⟩
      · have : xs = [] := List.eq_nil_of_length_eq_zero h1
        subst this
        exact ⟨s0, rfl, j0, h0, rfl⟩
      · rw [List.take_length] at h1
        exact ⟨s, h1, h2, .rf, rfl⟩
    subst e4
    have z := h s e1 e2
    rw [e1] at z
    refine Blk.weak (g' := G s) e3 ?_
    rw [e1]
    exact z
theorem bo_forV {RT : Rr → D → List Res → Prop} {tg iter : Expr} {gt : TG} {is : List Nat} {xs : List α} {step : S1 → α → Cf Rr S1 S1} {s0 : S1} {k : S1 → Rr} (enc : α → D) (G : S1 → Gm) (R : S1 → List Res) (J : Nat → S1 → Prop) (Jb : S1 → Prop) (hp : PassesOwn (model X.prog X.w) X.A X.env X.xe) (hc : X.calm = true) (hi : Itw X tg iter g l (xs.map enc)) (hg : PG X tg gt)
    (h0 : Wk g (G s0)) (hl : l = R s0) (j0 : J 0 s0)
    (hs : ∀ i x s, xs[i]? = some x → (loop step (xs.drop i) s : Cf Rr Empty S1) = loop step xs s0 → J i s → ((∀ s', step s x = .nx s' → J (i + 1) s') ∧ (∀ s', step s x = .ct s' → J (i + 1) s') ∧ ∀ s', step s x = .bk s' → Jb s') ∧ ∃ es, Tg X.K gt is (enc x) es ∧ Bo X W body (sets (G s) is es) (R s) (Ou RT G R (NxP G R)) (step s x))
    (jb : ∀ s, J xs.length s → Jb s) (h : ∀ s, (loop step xs s0 : Cf Rr Empty S1) = .nx s → Jb s → Bo X W rest (G s) (R s) (Rt RT) (k s)) (hf : ∀ x, foldedSetIterable iter X.env x = pure x := by intro _; rfl) : Bo X W (.For tg iter body [] pos :: rest) g l (Rt RT) (bndV (loop step xs s0) k) := by
  subst hl
  refine blk_for (is := is) (fun i g' l' => (i = 0 ∧ g' = g ∧ l' = R s0) ∨ ∃ s, (loop step (xs.drop i) s : Cf Rr Empty S1) = loop step xs s0 ∧ J i s ∧ g' = G s ∧ l' = R s) hp hc hi hg (.inl ⟨rfl, rfl, rfl⟩) (fun i d g' l' hd hI => ?_) (fun g' l' hI => ?_) hf
  · rw [List.getElem?_map] at hd
    cases q : xs[i]? with
    | none => rw [q] at hd; cases hd
    | some x =>
      rw [q] at hd
      cases hd
      obtain ⟨s, e1, e2, e3, e4⟩ : ∃ s, (loop step (xs.drop i) s : Cf Rr Empty S1) = loop step xs s0 ∧ J i s ∧ Wk g' (G s) ∧ l' = R s := by
        rcases hI with ⟨rfl, rfl, rfl⟩ | ⟨s, h1, h2, rfl, rfl⟩
        · exact ⟨s0, rfl, j0, h0, rfl⟩
        · exact ⟨s, h1, h2, .rf, rfl⟩
      subst e4
      obtain ⟨⟨h1, h1', h1b⟩, es, h2, h3⟩ := hs i x s q e1 e2
      refine ⟨es, h2, ?_⟩
      rw [loop_step q] at e1
      refine Blk.weak e3.sets ?_
      unfold Bo at h3
      generalize step s x = o at e1 h1 h1' h1b h3
      cases o with
      | nx s' => exact h3.imp (fun g2 l2 h => .inr ⟨s', e1, h1 s' rfl, h.1, h.2⟩) (fun _ _ h => h.elim) (fun _ _ h => h.elim) (fun _ _ h => h.elim) (fun _ _ _ _ h => h.elim)
      | ct s' => exact h3.imp (fun g2 l2 h => h.elim) (fun _ _ h => h.elim) (fun _ _ h => h.elim) (fun _ _ h => .inr ⟨s', e1, h1' s' rfl, h.1, h.2⟩) (fun _ _ _ _ h => h.elim)
      | rt r =>
        have e1 : (.rt r : Cf Rr Empty S1) = loop step xs s0 := e1
        rw [← e1]
        exact h3.imp (fun g2 l2 h => h.elim) (fun _ _ h => h) (fun _ _ h => h.elim) (fun _ _ h => h.elim) (fun _ _ _ _ h => h.elim)
      | bk s' =>
        have e1 : (.nx s' : Cf Rr Empty S1) = loop step xs s0 := e1
        have z := h s' e1.symm (h1b s' rfl)
        rw [← e1]
        exact h3.imp (fun g2 l2 h => h.elim) (fun _ _ h => h.elim) (fun g2 l2 hh => by obtain ⟨w, q2⟩ := hh; subst w; subst q2; exact z) (fun _ _ h => h.elim) (fun _ _ _ _ h => h.elim)
  · rw [List.length_map] at hI
    obtain ⟨s, e1, e2, e3, e4⟩ : ∃ s, (loop step (xs.drop xs.length) s : Cf Rr Empty S1) = loop step xs s0 ∧ J xs.length s ∧ Wk g' (G s) ∧ l' = R s := by
      rcases hI with ⟨h1, rfl, rfl⟩ | ⟨s, h1, h2, rfl, rfl⟩
      · have : xs = [] := List.eq_nil_of_length_eq_zero h1
        subst this
        exact ⟨s0, rfl, j0, h0, rfl⟩
      · exact ⟨s, h1, h2, .rf, rfl⟩
    rw [loop_end] at e1
    subst e4
    have z := h s e1.symm (jb s e2)
    refine Blk.weak (g' := G s) e3 ?_
    rw [← e1]
    exact z
theorem bo_forB {RT : Rr → D → List Res → Prop} {GL : Ll → Gm} {RL : Ll → List Res} {NX : Ss → Gm → List Res → Prop} {tg iter : Expr} {gt : TG} {is : List Nat} {xs : List α} {step : S1 → α → Cf Rr S1 S1} {s0 : S1} {k : S1 → Cf Rr Ll Ss} (enc : α → D) (G : S1 → Gm) (R : S1 → List Res) (J : Nat → S1 → Prop) (Jb : S1 → Prop) (hp : PassesOwn (model X.prog X.w) X.A X.env X.xe) (hc : X.calm = true) (hi : Itw X tg iter g l (xs.map enc)) (hg : PG X tg gt)
    (h0 : Wk g (G s0)) (hl : l = R s0) (j0 : J 0 s0)
    (hs : ∀ i x s, xs[i]? = some x → (loop step (xs.drop i) s : Cf Rr Ll S1) = loop step xs s0 → J i s → ((∀ s', step s x = .nx s' → J (i + 1) s') ∧ (∀ s', step s x = .ct s' → J (i + 1) s') ∧ ∀ s', step s x = .bk s' → Jb s') ∧ ∃ es, Tg X.K gt is (enc x) es ∧ Bo X W body (sets (G s) is es) (R s) (Ou RT G R (NxP G R)) (step s x))
    (jb : ∀ s, J xs.length s → Jb s) (h : ∀ s, (loop step xs s0 : Cf Rr Ll S1) = .nx s → Jb s → Bo X W rest (G s) (R s) (Ou RT GL RL NX) (k s)) (hf : ∀ x, foldedSetIterable iter X.env x = pure x := by intro _; rfl) : Bo X W (.For tg iter body [] pos :: rest) g l (Ou RT GL RL NX) (bnd (loop step xs s0) k) := by
  subst hl
  refine blk_for (is := is) (fun i g' l' => (i = 0 ∧ g' = g ∧ l' = R s0) ∨ ∃ s, (loop step (xs.drop i) s : Cf Rr Ll S1) = loop step xs s0 ∧ J i s ∧ g' = G s ∧ l' = R s) hp hc hi hg (.inl ⟨rfl, rfl, rfl⟩) (fun i d g' l' hd hI => ?_) (fun g' l' hI => ?_) hf
  · rw [List.getElem?_map] at hd
    cases q : xs[i]? with
    | none => rw [q] at hd; cases hd
    | some x =>
      rw [q] at hd
      cases hd
      obtain ⟨s, e1, e2, e3, e4⟩ : ∃ s, (loop step (xs.drop i) s : Cf Rr Ll S1) = loop step xs s0 ∧ J i s ∧ Wk g' (G s) ∧ l' = R s := by
        rcases hI with ⟨rfl, rfl, rfl⟩ | ⟨s, h1, h2, rfl, rfl⟩
        · exact ⟨s0, rfl, j0, h0, rfl⟩
        · exact ⟨s, h1, h2, .rf, rfl⟩
      subst e4
      obtain ⟨⟨h1, h1', h1b⟩, es, h2, h3⟩ := hs i x s q e1 e2
      refine ⟨es, h2, ?_⟩
      rw [loop_step q] at e1
      refine Blk.weak e3.sets ?_
      unfold Bo at h3
      generalize step s x = o at e1 h1 h1' h1b h3
      cases o with
      | nx s' => exact h3.imp (fun g2 l2 h => .inr ⟨s', e1, h1 s' rfl, h.1, h.2⟩) (fun _ _ h => h.elim) (fun _ _ h => h.elim) (fun _ _ h => h.elim) (fun _ _ _ _ h => h.elim)
      | ct s' => exact h3.imp (fun g2 l2 h => h.elim) (fun _ _ h => h.elim) (fun _ _ h => h.elim) (fun _ _ h => .inr ⟨s', e1, h1' s' rfl, h.1, h.2⟩) (fun _ _ _ _ h => h.elim)
      | rt r =>
        have e1 : (.rt r : Cf Rr Ll S1) = loop step xs s0 := e1
        rw [← e1]
        exact h3.imp (fun g2 l2 h => h.elim) (fun _ _ h => h) (fun _ _ h => h.elim) (fun _ _ h => h.elim) (fun _ _ _ _ h => h.elim)
      | bk s' =>
        have e1 : (.nx s' : Cf Rr Ll S1) = loop step xs s0 := e1
        have z := h s' e1.symm (h1b s' rfl)
        rw [← e1]
        exact h3.imp (fun g2 l2 h => h.elim) (fun _ _ h => h.elim) (fun g2 l2 hh => by obtain ⟨w, q2⟩ := hh; subst w; subst q2; exact z) (fun _ _ h => h.elim) (fun _ _ _ _ h => h.elim)
  · rw [List.length_map] at hI
    obtain ⟨s, e1, e2, e3, e4⟩ : ∃ s, (loop step (xs.drop xs.length) s : Cf Rr Ll S1) = loop step xs s0 ∧ J xs.length s ∧ Wk g' (G s) ∧ l' = R s := by
      rcases hI with ⟨h1, rfl, rfl⟩ | ⟨s, h1, h2, rfl, rfl⟩
      · have : xs = [] := List.eq_nil_of_length_eq_zero h1
        subst this
        exact ⟨s0, rfl, j0, h0, rfl⟩
      · exact ⟨s, h1, h2, .rf, rfl⟩
    rw [loop_end] at e1
    subst e4
    have z := h s e1.symm (jb s e2)
    refine Blk.weak (g' := G s) e3 ?_
    rw [← e1]
    exact z
theorem bo_while {cb : S1 → Bool} {step : S1 → S1} {n0 : Nat} {s0 : S1} {k : S1 → β} (G : S1 → Gm) (R : S1 → List Res) (J : Nat → S1 → Prop) (hp : PassesOwn (model X.prog X.w) X.A X.env X.xe)
    (h0 : Wk g (G s0)) (hl : l = R s0) (j0 : J n0 s0)
    (hs : ∀ n s, J n s → Ts X c (G s) (R s) (cb s) ∧ (cb s = true → ∃ n', n = n' + 1 ∧ J n' (step s) ∧ Bo X W body (G s) (R s) (Nx G R) (step s)))
    (h : ∀ n s, s = whileF cb step n0 s0 → J n s → cb s = false → Bo X W rest (G s) (R s) Om (k s)) : Bo X W (.While c body [] pos :: rest) g l Om (lt (whileF cb step n0 s0) k) := by
  subst hl
  refine Blk.weak h0 ?_
  refine blk_while (fun n g' l' => ∃ s, whileF cb step n s = whileF cb step n0 s0 ∧ J n s ∧ g' = G s ∧ l' = R s) hp n0 ⟨s0, rfl, j0, rfl, rfl⟩ fun n g' l' ⟨s, e1, e2, e3, e4⟩ => ?_
  subst e3; subst e4
  obtain ⟨h1, h2⟩ := hs n s e2
  refine ⟨cb s, h1, fun hb => ?_, fun hb => ?_⟩
  · obtain ⟨n', rfl, j, bo⟩ := h2 hb
    have e : whileF cb step (n' + 1) s = whileF cb step n' (step s) := by show cond (cb s) _ _ = _; rw [hb]; rfl
    rw [e] at e1
    exact bo.imp (fun g2 l2 h => ⟨n', Nat.lt_succ_self _, _, e1, j, h.1, h.2⟩) (fun _ _ h => h.elim) (fun _ _ h => h.elim) (fun _ _ h => h.elim) (fun _ _ _ _ h => h.elim)
  · have e : whileF cb step n s = s := by
      cases n with
      | zero => rfl
      | succ n => show cond (cb s) _ _ = _; rw [hb]; rfl
    rw [e] at e1
    have z := h n s e1 e2 hb
    rw [e1] at z
    rw [e1]
    exact z
theorem whileR_step {cb : S1 → Bool} {step : S1 → Cf Rr S1 S1} {n : Nat} {s : S1} (h : cb s = true) : (whileR cb step (n + 1) s : Cf Rr Ll S1) = match step s with
    | .nx s' => whileR cb step n s' | .ct s' => whileR cb step n s' | .bk s' => .nx s' | .rt r => .rt r := by
  show cond (cb s) _ _ = _
  rw [h]
  rfl
theorem whileR_end {cb : S1 → Bool} {step : S1 → Cf Rr S1 S1} {n : Nat} {s : S1} (h : cb s = false) : (whileR cb step n s : Cf Rr Ll S1) = .nx s := by
  cases n with
  | zero => rfl
  | succ n => show cond (cb s) _ _ = _; rw [h]; rfl
theorem bo_whileV {RT : Rr → D → List Res → Prop} {cb : S1 → Bool} {step : S1 → Cf Rr S1 S1} {n0 : Nat} {s0 : S1} {k : S1 → Rr} (G : S1 → Gm) (R : S1 → List Res) (J : Nat → S1 → Prop) (Jb : S1 → Prop) (hp : PassesOwn (model X.prog X.w) X.A X.env X.xe)
    (h0 : Wk g (G s0)) (hl : l = R s0) (j0 : J n0 s0)
    (hs : ∀ n s, J n s → Ts X c (G s) (R s) (cb s) ∧ (cb s = true → ∃ n', n = n' + 1 ∧ ((∀ s', step s = .nx s' → J n' s') ∧ (∀ s', step s = .ct s' → J n' s') ∧ ∀ s', step s = .bk s' → Jb s') ∧ Bo X W body (G s) (R s) (Ou RT G R (NxP G R)) (step s)))
    (jb : ∀ n s, J n s → cb s = false → Jb s) (h : ∀ s, (whileR cb step n0 s0 : Cf Rr Empty S1) = .nx s → Jb s → Bo X W rest (G s) (R s) (Rt RT) (k s)) : Bo X W (.While c body [] pos :: rest) g l (Rt RT) (bndV (whileR cb step n0 s0) k) := by
  subst hl
  refine Blk.weak h0 ?_
  refine blk_while (fun n g' l' => ∃ s, (whileR cb step n s : Cf Rr Empty S1) = whileR cb step n0 s0 ∧ J n s ∧ g' = G s ∧ l' = R s) hp n0 ⟨s0, rfl, j0, rfl, rfl⟩ fun n g' l' ⟨s, e1, e2, e3, e4⟩ => ?_
  subst e3; subst e4
  obtain ⟨h1, h2⟩ := hs n s e2
  refine ⟨cb s, h1, fun hb => ?_, fun hb => ?_⟩
  · obtain ⟨n', rfl, ⟨j1, j2, j3⟩, bo⟩ := h2 hb
    rw [whileR_step hb] at e1
    unfold Bo at bo
    generalize step s = o at e1 j1 j2 j3 bo
    cases o with
    | nx s' => exact bo.imp (fun g2 l2 h => ⟨n', Nat.lt_succ_self _, s', e1, j1 s' rfl, h.1, h.2⟩) (fun _ _ h => h.elim) (fun _ _ h => h.elim) (fun _ _ h => h.elim) (fun _ _ _ _ h => h.elim)
    | ct s' => exact bo.imp (fun g2 l2 h => h.elim) (fun _ _ h => h.elim) (fun _ _ h => h.elim) (fun g2 l2 h => ⟨n', Nat.lt_succ_self _, s', e1, j2 s' rfl, h.1, h.2⟩) (fun _ _ _ _ h => h.elim)
    | rt r =>
      have e1 : (.rt r : Cf Rr Empty S1) = whileR cb step n0 s0 := e1
      rw [← e1]
      exact bo.imp (fun g2 l2 h => h.elim) (fun _ _ h => h) (fun _ _ h => h.elim) (fun _ _ h => h.elim) (fun _ _ _ _ h => h.elim)
    | bk s' =>
      have e1 : (.nx s' : Cf Rr Empty S1) = whileR cb step n0 s0 := e1
      have z := h s' e1.symm (j3 s' rfl)
      rw [← e1]
      exact bo.imp (fun g2 l2 h => h.elim) (fun _ _ h => h.elim) (fun g2 l2 hh => by obtain ⟨w, q2⟩ := hh; subst w; subst q2; exact z) (fun _ _ h => h.elim) (fun _ _ _ _ h => h.elim)
  · rw [whileR_end hb] at e1
    have z := h s e1.symm (jb n s e2 hb)
    rw [← e1]
    exact z
theorem bo_whileB {RT : Rr → D → List Res → Prop} {GL : Ll → Gm} {RL : Ll → List Res} {NX : Ss → Gm → List Res → Prop} {cb : S1 → Bool} {step : S1 → Cf Rr S1 S1} {n0 : Nat} {s0 : S1} {k : S1 → Cf Rr Ll Ss} (G : S1 → Gm) (R : S1 → List Res) (J : Nat → S1 → Prop) (Jb : S1 → Prop) (hp : PassesOwn (model X.prog X.w) X.A X.env X.xe)
    (h0 : Wk g (G s0)) (hl : l = R s0) (j0 : J n0 s0)
    (hs : ∀ n s, J n s → Ts X c (G s) (R s) (cb s) ∧ (cb s = true → ∃ n', n = n' + 1 ∧ ((∀ s', step s = .nx s' → J n' s') ∧ (∀ s', step s = .ct s' → J n' s') ∧ ∀ s', step s = .bk s' → Jb s') ∧ Bo X W body (G s) (R s) (Ou RT G R (NxP G R)) (step s)))
    (jb : ∀ n s, J n s → cb s = false → Jb s) (h : ∀ s, (whileR cb step n0 s0 : Cf Rr Ll S1) = .nx s → Jb s → Bo X W rest (G s) (R s) (Ou RT GL RL NX) (k s)) : Bo X W (.While c body [] pos :: rest) g l (Ou RT GL RL NX) (bnd (whileR cb step n0 s0) k) := by
  subst hl
  refine Blk.weak h0 ?_
  refine blk_while (fun n g' l' => ∃ s, (whileR cb step n s : Cf Rr Ll S1) = whileR cb step n0 s0 ∧ J n s ∧ g' = G s ∧ l' = R s) hp n0 ⟨s0, rfl, j0, rfl, rfl⟩ fun n g' l' ⟨s, e1, e2, e3, e4⟩ => ?_
  subst e3; subst e4
  obtain ⟨h1, h2⟩ := hs n s e2
  refine ⟨cb s, h1, fun hb => ?_, fun hb => ?_⟩
  · obtain ⟨n', rfl, ⟨j1, j2, j3⟩, bo⟩ := h2 hb
    rw [whileR_step hb] at e1
    unfold Bo at bo
    generalize step s = o at e1 j1 j2 j3 bo
    cases o with
    | nx s' => exact bo.imp (fun g2 l2 h => ⟨n', Nat.lt_succ_self _, s', e1, j1 s' rfl, h.1, h.2⟩) (fun _ _ h => h.elim) (fun _ _ h => h.elim) (fun _ _ h => h.elim) (fun _ _ _ _ h => h.elim)
    | ct s' => exact bo.imp (fun g2 l2 h => h.elim) (fun _ _ h => h.elim) (fun _ _ h => h.elim) (fun g2 l2 h => ⟨n', Nat.lt_succ_self _, s', e1, j2 s' rfl, h.1, h.2⟩) (fun _ _ _ _ h => h.elim)
    | rt r =>
      have e1 : (.rt r : Cf Rr Ll S1) = whileR cb step n0 s0 := e1
      rw [← e1]
      exact bo.imp (fun g2 l2 h => h.elim) (fun _ _ h => h) (fun _ _ h => h.elim) (fun _ _ h => h.elim) (fun _ _ _ _ h => h.elim)
    | bk s' =>
      have e1 : (.nx s' : Cf Rr Ll S1) = whileR cb step n0 s0 := e1
      have z := h s' e1.symm (j3 s' rfl)
      rw [← e1]
      exact bo.imp (fun g2 l2 h => h.elim) (fun _ _ h => h.elim) (fun g2 l2 hh => by obtain ⟨w, q2⟩ := hh; subst w; subst q2; exact z) (fun _ _ h => h.elim) (fun _ _ _ _ h => h.elim)
  · rw [whileR_end hb] at e1
    have z := h s e1.symm (jb n s e2 hb)
    rw [← e1]
    exact z
end
end Sx
set_option Elab.async false
set_option linter.all false
set_option maxRecDepth 100000
set_option maxHeartbeats 2000000
/-! Models: what is walked, comprehensions, things got from lists. -/
namespace Sx
open PySem L2
section
variable {X : Cx} {W : WX} {g g' : Gm} {l l' : List Res} {e e2 c o : Expr} {d d1 d2 : D} {pos p p2 : Pos} {rest A B body : List Stmt}
variable {α β γ : Type}
theorem Itw.to {tg iter : Expr} {ds ds' : List D} (h : Itw X tg iter g l ds) (q : ds = ds') : Itw X tg iter g l ds' := q ▸ h
/-- the whole numbers from lo on -/
def rngI (lo : Int) (n : Nat) : List Int := (List.range n).map fun i : Nat => lo + (i : Int)
theorem rngI_map {lo : Int} {n : Nat} : rng lo n = (rngI lo n).map D.int := by unfold rng rngI; rw [List.map_map]; rfl
theorem rngI_len {lo : Int} {n : Nat} : (rngI lo n).length = n := by unfold rngI; rw [List.length_map, List.length_range]
theorem rngI_get {lo : Int} {n i : Nat} {x : Int} (h : (rngI lo n)[i]? = some x) : i < n ∧ x = lo + (i : Int) := by
  unfold rngI at h
  rw [List.getElem?_map] at h
  obtain ⟨j, h1, h2⟩ := Option.map_eq_some_iff.mp h
  obtain ⟨h3, h4⟩ := List.getElem?_eq_some_iff.mp h1
  rw [List.length_range] at h3
  rw [List.getElem_range] at h4
  subst h4
  exact ⟨h3, h2.symm⟩
def enumI (xs : List α) : List (Int × α) := xs.zipIdx.map fun q => ((q.2 : Int), q.1)
theorem enumI_map {xs : List α} {enc : α → D} : enumD (xs.map enc) = (enumI xs).map fun q => D.tup [.int q.1, enc q.2] := by
  unfold enumD enumI
  rw [List.map_map, List.zipIdx_map, List.map_map]
  rfl
theorem enumI_len {xs : List α} : (enumI xs).length = xs.length := by unfold enumI; rw [List.length_map, List.length_zipIdx]
theorem enumI_get {xs : List α} {i : Nat} {x : Int × α} (h : (enumI xs)[i]? = some x) : x.1 = (i : Int) ∧ xs[i]? = some x.2 := by
  unfold enumI at h
  rw [List.getElem?_map, List.getElem?_zipIdx] at h
  cases q : xs[i]? with
  | none => rw [q] at h; cases h
  | some y =>
    rw [q] at h
    cases h
    exact ⟨by simp, rfl⟩
theorem zip_map {xs : List α} {ys : List β} {e1 : α → D} {e2 : β → D} : zipD (xs.map e1) (ys.map e2) = (xs.zip ys).map fun q => D.tup [e1 q.1, e2 q.2] := by
  unfold zipD
  rw [List.zip_map, List.map_map]
  rfl
theorem zip_get {xs : List α} {ys : List β} {i : Nat} {x : α × β} (h : (xs.zip ys)[i]? = some x) : xs[i]? = some x.1 ∧ ys[i]? = some x.2 := List.getElem?_zip_eq_some.mp h
def oneC (c : Nat) : Str := ⟨#[c]⟩
theorem signs_map {x : Str} : signs x = (TL.tl x).map fun c => D.str (oneC c) := rfl
theorem cut_map {f : α → β} {xs : List α} {lo hi : Option Int} : cut (xs.map f) lo hi = (cut xs lo hi).map f := by
  unfold cut
  rw [List.length_map, List.map_take, List.map_drop]
theorem cut_len {xs : List α} {lo hi : Option Int} : (cut xs lo hi).length ≤ xs.length := by
  unfold cut
  rw [List.length_take, List.length_drop]
  omega
theorem cut_mem {xs : List α} {lo hi : Option Int} {x : α} (h : x ∈ cut xs lo hi) : x ∈ xs := by
  unfold cut at h
  exact List.mem_of_mem_drop (List.mem_of_mem_take h)
/-- what stands at a place, counted from the end where it is below nought -/
def pyAt (xs : List α) (i : Int) (x0 : α) : α := xs.getD (if i < 0 then i + (xs.length : Int) else i).toNat x0
theorem atI_py {xs : List α} {i : Int} {x0 : α} (h0 : -(xs.length : Int) ≤ i) (h1 : i < xs.length) : atI xs i = some (pyAt xs i x0) := by
  unfold pyAt
  by_cases h : i < 0
  · have hl : (i + (xs.length : Int)).toNat < xs.length := by omega
    rw [if_pos h]
    unfold atI ixN
    rw [if_neg (by omega), if_pos h0]
    show xs[(i + (xs.length : Int)).toNat]? = _
    rw [List.getElem?_eq_getElem hl, List.getD_eq_getElem?_getD, List.getElem?_eq_getElem hl]
    rfl
  · rw [if_neg h]
    exact atI_in (by omega) h1
theorem atI_pyM {xs : List α} {i : Int} {x0 : α} {enc : α → D} (h0 : -(xs.length : Int) ≤ i) (h1 : i < xs.length) : atI (xs.map enc) i = some (enc (pyAt xs i x0)) := atI_map (atI_py h0 h1)
theorem pyAt_mem {xs : List α} {i : Int} {x0 : α} (h0 : -(xs.length : Int) ≤ i) (h1 : i < xs.length) : pyAt xs i x0 ∈ xs := by
  unfold pyAt
  split
  · have hl : (i + (xs.length : Int)).toNat < xs.length := by omega
    rw [List.getD_eq_getElem?_getD, List.getElem?_eq_getElem hl]
    exact List.getElem_mem hl
  · have hl : i.toNat < xs.length := by omega
    rw [List.getD_eq_getElem?_getD, List.getElem?_eq_getElem hl]
    exact List.getElem_mem hl
theorem pyAt_nn {xs : List α} {i : Int} {x0 : α} (h : 0 ≤ i) : pyAt xs i x0 = xs.getD i.toNat x0 := by
  unfold pyAt; rw [if_neg (by omega)]
/-! ### comprehensions -/
theorem ev_lcM {tg iter elt : Expr} {scope : Scope} {own : List (Str × Nat)} {gt : TG} {is : List Nat} {xs : List α} (enc : α → D) (encR : β → D) (F : α → β) (hc : X.calm = true) (hN : X.N.Nodup) (hi : Itw X tg iter g l (xs.map enc)) (ok : BlkOk X.N X.env.scope scope own)
    (hg : Blkc X scope fun Y => PG Y tg gt) (his : ∀ i ∈ is, i ∈ own.map (·.2)) (hz : xs.length ≤ 10000)
    (hs : ∀ (i : Nat) (x : α), xs[i]? = some x → ∃ es, Tg X.K gt is (enc x) es ∧ Blkc X scope fun Y => Px Y elt (sets (wipeG g (own.map (·.2))) is es) l (encR (F x))) (hf : ∀ x, foldedSetIterable iter X.env x = pure x := by intro _; rfl) :
    EvL X (.ListComp elt [⟨tg, iter, [], 0⟩] scope pos) g l ((xs.map F).map encR) :=
  ev_lc (rs := (xs.map F).map encR) hc hN hi ok hg his (by simp) (by rw [List.length_map, List.length_map]; exact Nat.le_trans hz (by decide)) (fun i d hd => by
    rw [List.getElem?_map] at hd
    obtain ⟨x, hx, rfl⟩ := Option.map_eq_some_iff.mp hd
    obtain ⟨es, h1, h2⟩ := hs i x hx
    exact ⟨es, _, h1, by rw [List.getElem?_map, List.getElem?_map, hx]; rfl, h2⟩) hf
theorem px_lcM {tg iter elt : Expr} {scope : Scope} {own : List (Str × Nat)} {gt : TG} {is : List Nat} {xs : List α} (enc : α → D) (encR : β → D) (F : α → β) (hc : X.calm = true) (hN : X.N.Nodup) (hi : Itw X tg iter g l (xs.map enc)) (ok : BlkOk X.N X.env.scope scope own)
    (hg : Blkc X scope fun Y => PG Y tg gt) (his : ∀ i ∈ is, i ∈ own.map (·.2)) (hz : xs.length ≤ 10000)
    (hs : ∀ (i : Nat) (x : α), xs[i]? = some x → ∃ es, Tg X.K gt is (enc x) es ∧ Blkc X scope fun Y => Px Y elt (sets (wipeG g (own.map (·.2))) is es) l (encR (F x))) (hf : ∀ x, foldedSetIterable iter X.env x = pure x := by intro _; rfl) :
    Px X (.ListComp elt [⟨tg, iter, [], 0⟩] scope pos) g l (.lst ((xs.map F).map encR)) := (ev_lcM enc encR F hc hN hi ok hg his hz hs hf).frz
theorem keepL_filt {xs : List α} {F : α → β} {encR : β → D} {cb : α → Bool} : keepL (xs.map fun x => if cb x = true then some (encR (F x)) else none) = ((xs.filter cb).map F).map encR := by
  induction xs with
  | nil => rfl
  | cons x xs ih =>
    rw [List.map_cons, List.filter_cons]
    cases h : cb x with
    | true =>
      rw [if_pos rfl, if_pos rfl, List.map_cons, List.map_cons, ← ih]
      rfl
    | false =>
      rw [if_neg (by simp), if_neg (by simp), ← ih]
      rfl
theorem ev_lcF {tg iter elt c : Expr} {scope : Scope} {own : List (Str × Nat)} {gt : TG} {is : List Nat} {xs : List α} (enc : α → D) (encR : β → D) (cb : α → Bool) (F : α → β) (hc : X.calm = true) (hN : X.N.Nodup) (hi : Itw X tg iter g l (xs.map enc)) (ok : BlkOk X.N X.env.scope scope own)
    (hg : Blkc X scope fun Y => PG Y tg gt) (his : ∀ i ∈ is, i ∈ own.map (·.2)) (hz : xs.length ≤ 10000)
    (hs : ∀ (i : Nat) (x : α), xs[i]? = some x → ∃ es, Tg X.K gt is (enc x) es ∧ (Blkc X scope fun Y => Ts Y c (sets (wipeG g (own.map (·.2))) is es) l (cb x)) ∧ (cb x = true → Blkc X scope fun Y => Px Y elt (sets (wipeG g (own.map (·.2))) is es) l (encR (F x)))) (hf : ∀ x, foldedSetIterable iter X.env x = pure x := by intro _; rfl) :
    EvL X (.ListComp elt [⟨tg, iter, [c], 0⟩] scope pos) g l (((xs.filter cb).map F).map encR) := by
  rw [← keepL_filt]
  exact ev_lcIf (rs := xs.map fun x => if cb x = true then some (encR (F x)) else none) hc hN hi ok hg his (by simp) (by rw [List.length_map]; exact Nat.le_trans hz (by decide)) (fun i d hd => by
    rw [List.getElem?_map] at hd
    obtain ⟨x, hx, rfl⟩ := Option.map_eq_some_iff.mp hd
    obtain ⟨es, h1, h2, h3⟩ := hs i x hx
    exact ⟨es, cb x, encR (F x), h1, by rw [List.getElem?_map, hx]; rfl, h2, h3⟩) hf
theorem px_lcF {tg iter elt c : Expr} {scope : Scope} {own : List (Str × Nat)} {gt : TG} {is : List Nat} {xs : List α} (enc : α → D) (encR : β → D) (cb : α → Bool) (F : α → β) (hc : X.calm = true) (hN : X.N.Nodup) (hi : Itw X tg iter g l (xs.map enc)) (ok : BlkOk X.N X.env.scope scope own)
    (hg : Blkc X scope fun Y => PG Y tg gt) (his : ∀ i ∈ is, i ∈ own.map (·.2)) (hz : xs.length ≤ 10000)
    (hs : ∀ (i : Nat) (x : α), xs[i]? = some x → ∃ es, Tg X.K gt is (enc x) es ∧ (Blkc X scope fun Y => Ts Y c (sets (wipeG g (own.map (·.2))) is es) l (cb x)) ∧ (cb x = true → Blkc X scope fun Y => Px Y elt (sets (wipeG g (own.map (·.2))) is es) l (encR (F x)))) (hf : ∀ x, foldedSetIterable iter X.env x = pure x := by intro _; rfl) :
    Px X (.ListComp elt [⟨tg, iter, [c], 0⟩] scope pos) g l (.lst (((xs.filter cb).map F).map encR)) := (ev_lcF enc encR cb F hc hN hi ok hg his hz hs hf).frz
variable {S1 : Type} {Om : S1 → Po}
/-- x = [..], on one line; (f: x is not changed behind it) -/
theorem bo_lcL {tg iter elt : Expr} {scope : Scope} {own : List (Str × Nat)} {gt : TG} {is : List Nat} {xs : List α} {i : Nat} {y : Str} {py spos : Pos} {k : List β → S1} (enc : α → D) (encR : β → D) (F : α → β) (hN : X.N.Nodup) (hy : X.N[i]? = some y) (hyl : X.env.scope.names.lookup y = some .local) (hc : X.calm = true) (hi : Itw X tg iter g l (xs.map enc)) (ok : BlkOk X.N X.env.scope scope own)
    (hg : Blkc X scope fun Y => PG Y tg gt) (his : ∀ i ∈ is, i ∈ own.map (·.2)) (hz : xs.length ≤ 10000)
    (hs : ∀ (i : Nat) (x : α), xs[i]? = some x → ∃ es, Tg X.K gt is (enc x) es ∧ Blkc X scope fun Y => Px Y elt (sets (wipeG g (own.map (·.2))) is es) l (encR (F x)))
    (h : ∀ p ys, ys = xs.map F → Bo X W rest (g.set i (some (.adr p))) (ownL X.K p (ys.map encR) :: l) Om (k ys))
    (hsw : swapsWith (.ListComp elt [⟨tg, iter, [], 0⟩] scope pos) (some (.Name y py)) spos.line X.env = pure true := by rfl) (hf : ∀ x, foldedSetIterable iter X.env x = pure x := by intro _; rfl) : Bo X W (.Assign [.Name y py] (.ListComp elt [⟨tg, iter, [], 0⟩] scope pos) spos :: rest) g l Om (lt (xs.map F) k) :=
  blk_setLcO (rs := (xs.map F).map encR) hc hN hy hyl hsw hi ok hg his (by simp) (by rw [List.length_map, List.length_map]; exact Nat.le_trans hz (by decide)) (fun i d hd => by
    rw [List.getElem?_map] at hd
    obtain ⟨x, hx, rfl⟩ := Option.map_eq_some_iff.mp hd
    obtain ⟨es, h1, h2⟩ := hs i x hx
    exact ⟨es, _, h1, by rw [List.getElem?_map, List.getElem?_map, hx]; rfl, h2⟩) (fun p => h p _ rfl) hf
theorem bo_lcLF {tg iter elt c : Expr} {scope : Scope} {own : List (Str × Nat)} {gt : TG} {is : List Nat} {xs : List α} {i : Nat} {y : Str} {py spos : Pos} {k : List β → S1} (enc : α → D) (encR : β → D) (cb : α → Bool) (F : α → β) (hN : X.N.Nodup) (hy : X.N[i]? = some y) (hyl : X.env.scope.names.lookup y = some .local) (hc : X.calm = true) (hi : Itw X tg iter g l (xs.map enc)) (ok : BlkOk X.N X.env.scope scope own)
    (hg : Blkc X scope fun Y => PG Y tg gt) (his : ∀ i ∈ is, i ∈ own.map (·.2)) (hz : xs.length ≤ 10000)
    (hs : ∀ (i : Nat) (x : α), xs[i]? = some x → ∃ es, Tg X.K gt is (enc x) es ∧ (Blkc X scope fun Y => Ts Y c (sets (wipeG g (own.map (·.2))) is es) l (cb x)) ∧ (cb x = true → Blkc X scope fun Y => Px Y elt (sets (wipeG g (own.map (·.2))) is es) l (encR (F x))))
    (h : ∀ p ys, ys = (xs.filter cb).map F → Bo X W rest (g.set i (some (.adr p))) (ownL X.K p (ys.map encR) :: l) Om (k ys))
    (hsw : swapsWith (.ListComp elt [⟨tg, iter, [c], 0⟩] scope pos) (some (.Name y py)) spos.line X.env = pure true := by rfl) (hf : ∀ x, foldedSetIterable iter X.env x = pure x := by intro _; rfl) : Bo X W (.Assign [.Name y py] (.ListComp elt [⟨tg, iter, [c], 0⟩] scope pos) spos :: rest) g l Om (lt ((xs.filter cb).map F) k) :=
  blk_setLcIfO (rs := xs.map fun x => if cb x = true then some (encR (F x)) else none) hc hN hy hyl hsw hi ok hg his (by simp) (by rw [List.length_map]; exact Nat.le_trans hz (by decide)) (fun i d hd => by
    rw [List.getElem?_map] at hd
    obtain ⟨x, hx, rfl⟩ := Option.map_eq_some_iff.mp hd
    obtain ⟨es, h1, h2, h3⟩ := hs i x hx
    exact ⟨es, cb x, encR (F x), h1, by rw [List.getElem?_map, hx]; rfl, h2, h3⟩) (fun p => by rw [keepL_filt]; exact h p _ rfl) hf
theorem bo_lc {tg iter elt : Expr} {scope : Scope} {own : List (Str × Nat)} {gt : TG} {is : List Nat} {xs : List α} {i : Nat} {y : Str} {py spos : Pos} {k : List β → S1} (enc : α → D) (encR : β → D) (F : α → β) (hN : X.N.Nodup) (hy : X.N[i]? = some y) (hyl : X.env.scope.names.lookup y = some .local) (hil : i < g.length) (hc : X.calm = true) (hi : Itw X tg iter g l (xs.map enc)) (ok : BlkOk X.N X.env.scope scope own)
    (hg : Blkc X scope fun Y => PG Y tg gt) (his : ∀ i ∈ is, i ∈ own.map (·.2)) (hz : xs.length ≤ 10000)
    (hs : ∀ (i : Nat) (x : α), xs[i]? = some x → ∃ es, Tg X.K gt is (enc x) es ∧ Blkc X scope fun Y => Px Y elt (sets (wipeG g (own.map (·.2))) is es) l (encR (F x)))
    (h : ∀ ys, ys = xs.map F → Bo X W rest (g.set i (some (.lst (ys.map encR)))) l Om (k ys))
    (hsw : swapsWith (.ListComp elt [⟨tg, iter, [], 0⟩] scope pos) (some (.Name y py)) spos.line X.env = pure true := by rfl) (hf : ∀ x, foldedSetIterable iter X.env x = pure x := by intro _; rfl) : Bo X W (.Assign [.Name y py] (.ListComp elt [⟨tg, iter, [], 0⟩] scope pos) spos :: rest) g l Om (lt (xs.map F) k) :=
  bo_lcL enc encR F hN hy hyl hc hi ok hg his hz hs (fun p ys e => Blk.frz' hil (h ys e)) hsw hf
theorem bo_lcF {tg iter elt c : Expr} {scope : Scope} {own : List (Str × Nat)} {gt : TG} {is : List Nat} {xs : List α} {i : Nat} {y : Str} {py spos : Pos} {k : List β → S1} (enc : α → D) (encR : β → D) (cb : α → Bool) (F : α → β) (hN : X.N.Nodup) (hy : X.N[i]? = some y) (hyl : X.env.scope.names.lookup y = some .local) (hil : i < g.length) (hc : X.calm = true) (hi : Itw X tg iter g l (xs.map enc)) (ok : BlkOk X.N X.env.scope scope own)
    (hg : Blkc X scope fun Y => PG Y tg gt) (his : ∀ i ∈ is, i ∈ own.map (·.2)) (hz : xs.length ≤ 10000)
    (hs : ∀ (i : Nat) (x : α), xs[i]? = some x → ∃ es, Tg X.K gt is (enc x) es ∧ (Blkc X scope fun Y => Ts Y c (sets (wipeG g (own.map (·.2))) is es) l (cb x)) ∧ (cb x = true → Blkc X scope fun Y => Px Y elt (sets (wipeG g (own.map (·.2))) is es) l (encR (F x))))
    (h : ∀ ys, ys = (xs.filter cb).map F → Bo X W rest (g.set i (some (.lst (ys.map encR)))) l Om (k ys))
    (hsw : swapsWith (.ListComp elt [⟨tg, iter, [c], 0⟩] scope pos) (some (.Name y py)) spos.line X.env = pure true := by rfl) (hf : ∀ x, foldedSetIterable iter X.env x = pure x := by intro _; rfl) : Bo X W (.Assign [.Name y py] (.ListComp elt [⟨tg, iter, [c], 0⟩] scope pos) spos :: rest) g l Om (lt ((xs.filter cb).map F) k) :=
  bo_lcLF enc encR cb F hN hy hyl hc hi ok hg his hz hs (fun p ys e => Blk.frz' hil (h ys e)) hsw hf
/-! ### optional things -/
def optE (f : α → D) : Option α → D
  | none => .non
  | some x => f x
theorem optE_non {f : α → D} (hf : ∀ x, (f x).isNon = false) (o : Option α) : (optE f o).isNon = o.isNone := by cases o with | none => rfl | some x => exact hf x
end
end Sx
set_option Elab.async false
set_option linter.all false
set_option maxRecDepth 100000
set_option maxHeartbeats 2000000
/-! Operations over encoded things, as the walker (walk.py) names them. -/
namespace Sx
open PySem L2
section
variable {X : Cx} {W : WX} {g g' : Gm} {l l' : List Res} {e e2 c a b o : Expr} {d d1 d2 : D} {pos p p2 : Pos} {rest A B body : List Stmt} {es : List Expr}
variable {α β γ : Type} {xs ys : List α} {enc : α → D} {K : PySem.W.Frag}
abbrev lstE (f : α → D) (xs : List α) : D := .lst (xs.map f)
abbrev tlE (f : α → D) (xs : List α) : D := .tup (xs.map f)
theorem ev_catM (enc : α → D) (ha : Px X a g l d1) (hb : Px X b g l d2) (h1 : Lv X.K l d1 (xs.map enc)) (h2 : Lv X.K l d2 (ys.map enc)) (hz : xs.length + ys.length ≤ 10000) : EvL X (.BinOp a .Add b pos) g l ((xs ++ ys).map enc) := by
  rw [List.map_append]
  exact ev_cat ha hb h1 h2 (by rw [List.length_map, List.length_map]; exact Nat.le_trans hz (by decide))
theorem px_catM (enc : α → D) (ha : Px X a g l d1) (hb : Px X b g l d2) (h1 : Lv X.K l d1 (xs.map enc)) (h2 : Lv X.K l d2 (ys.map enc)) (hz : xs.length + ys.length ≤ 10000) : Px X (.BinOp a .Add b pos) g l (lstE enc (xs ++ ys)) := (ev_catM enc ha hb h1 h2 hz).frz
theorem ev_repM (enc : α → D) {x : α} {i : Int} (ha : Px X a g l (lstE enc [x])) (hb : Px X b g l (.int i)) (h : -10000 ≤ i) (hz : i ≤ 10000) : EvL X (.BinOp a .Mult b pos) g l ((List.replicate i.toNat x).map enc) := by
  have := ev_rep (pos := pos) ha hb .f ⟨by omega, by omega⟩ (by show 1 * i.toNat ≤ sizeLine; exact Nat.le_trans (show 1 * i.toNat ≤ 10000 by omega) (by decide))
  rw [List.map_replicate]
  have e : ∀ n, (List.replicate n ([x].map enc)).flatten = List.replicate n (enc x) := fun n => by
    induction n with
    | zero => rfl
    | succ n ih => rw [List.replicate_succ, List.flatten_cons, ih, List.replicate_succ]; rfl
  rw [e] at this
  exact this
theorem ev_slM (enc : α → D) {lo hi : Option Expr} {i j : Option Int} (ho : Px X o g l d) (hd : Lq X.K l d (xs.map enc)) (hl : Pz X lo g l i) (hu : Pz X hi g l j) : EvL X (.Subscript o (.Slice lo hi none p2) pos) g l ((cut xs i j).map enc) := by
  rw [← cut_map]; exact ev_slL ho hd hl hu
theorem px_slM (enc : α → D) {lo hi : Option Expr} {i j : Option Int} (ho : Px X o g l d) (hd : Lq X.K l d (xs.map enc)) (hl : Pz X lo g l i) (hu : Pz X hi g l j) : Px X (.Subscript o (.Slice lo hi none p2) pos) g l (lstE enc (cut xs i j)) := (ev_slM enc ho hd hl hu).frz
theorem ev_strideM (enc : α → D) {lo hi : Option Expr} {st : Expr} {i j : Option Int} {k : Int} (ho : Px X o g l d) (hd : Lq X.K l d (xs.map enc)) (hl : Pz X lo g l i) (hu : Pz X hi g l j) (hs : Pz X (some st) g l (some k)) (hn : k ≠ 0) (hz : (pickN xs (places xs.length i j (some k))).length ≤ 10000) : EvL X (.Subscript o (.Slice lo hi (some st) p2) pos) g l ((pickN xs (places xs.length i j (some k))).map enc) := by
  have := ev_stride (pos := pos) (p2 := p2) ho hd hl hu hs (fun h => hn (Option.some.inj h)) (by rw [List.length_map, pickN_map, List.length_map]; exact Nat.le_trans hz (by decide))
  rw [List.length_map, pickN_map] at this
  exact this
theorem px_strideM (enc : α → D) {lo hi : Option Expr} {st : Expr} {i j : Option Int} {k : Int} (ho : Px X o g l d) (hd : Lq X.K l d (xs.map enc)) (hl : Pz X lo g l i) (hu : Pz X hi g l j) (hs : Pz X (some st) g l (some k)) (hn : k ≠ 0) (hz : (pickN xs (places xs.length i j (some k))).length ≤ 10000) : Px X (.Subscript o (.Slice lo hi (some st) p2) pos) g l (lstE enc (pickN xs (places xs.length i j (some k)))) := (ev_strideM enc ho hd hl hu hs hn hz).frz
theorem o_ixM (enc : α → D) {x0 : α} {i : Int} (h : Lq K l d (xs.map enc)) (h0 : 0 ≤ i) (h1 : i < xs.length) : Op2 K l (rIxL K) d (.int i) (enc (xs.getD i.toNat x0)) := o_ixV h (atI_map (atI_in h0 h1))
theorem o_ixP (enc : α → D) {x0 : α} {i : Int} (h : Lq K l d (xs.map enc)) (h0 : -(xs.length : Int) ≤ i) (h1 : i < xs.length) : Op2 K l (rIxL K) d (.int i) (enc (pyAt xs i x0)) := o_ixV h (atI_pyM h0 h1)
theorem o_lenM (h : Sv K l d (xs.map enc)) : OpN K l (rLen1 K) [d] (.int (xs.length : Int)) := by
  have := o_lenV h
  rw [List.length_map] at this
  exact this
theorem px_ifM {k : Bool} {x y : α} (hc : Ts X c g l k) (enc : α → D) (ha : k = true → Px X a g l (enc x)) (hb : k = false → Px X b g l (enc y)) : Px X (.IfExp c a b pos) g l (enc (cond k x y)) := by
  have := px_if (pos := pos) hc ha hb
  cases k <;> exact this
theorem o_isNo {f : α → D} (hf : ∀ x, (f x).isNon = false) {o : Option α} : Op2 K l (fun x y H Q => y = .non ∧ Q (.bl (decide (x = .non))) H) (optE f o) .non (.bl o.isNone) := by
  rw [← optE_non hf o]; exact o_isN
theorem o_notNo {f : α → D} (hf : ∀ x, (f x).isNon = false) {o : Option α} : Op2 K l (fun x y H Q => y = .non ∧ Q (.bl (!decide (x = .non))) H) (optE f o) .non (.bl (!o.isNone)) := by
  rw [← optE_non hf o]; exact o_notN
theorem o_inI {x : Int} {ns : List Int} {d0 : D} (hd : d0 = .lst (ns.map D.int) ∨ d0 = .tup (ns.map D.int)) : Op2 K l (rIn K false) (.int x) d0 (.bl (decide (x ∈ ns))) := by
  have h := o_in (K := K) (l := l) (neg := false) hd (d := .int x) rfl flat_ints
  rw [vv_ints] at h
  have e : (if false = true then !inV (D.int x).vv (ns.map V.int) else inV (D.int x).vv (ns.map V.int)) = decide (x ∈ ns) := inV_int
  rw [e] at h; exact h
theorem o_ninI {x : Int} {ns : List Int} {d0 : D} (hd : d0 = .lst (ns.map D.int) ∨ d0 = .tup (ns.map D.int)) : Op2 K l (rIn K true) (.int x) d0 (.bl (!decide (x ∈ ns))) := by
  have h := o_in (K := K) (l := l) (neg := true) hd (d := .int x) rfl flat_ints
  rw [vv_ints] at h
  have e : (if true = true then !inV (D.int x).vv (ns.map V.int) else inV (D.int x).vv (ns.map V.int)) = !decide (x ∈ ns) := congrArg (!·) inV_int
  rw [e] at h; exact h
theorem o_intB {b : Bool} : OpN K l (fun xs H Q => (∃ i, xs = [.int i] ∧ Q (.int i) H) ∨ ∃ k, xs = [.bl k] ∧ Q (.int (if k then 1 else 0)) H) [.bl b] (.int (if b then 1 else 0)) := fun F M H vs Q eF eM dj rs f k => by
  cases f with
  | cons f1 f2 =>
    cases f2; cases f1
    exact .inr ⟨b, rfl, k _ F H (.rf eF) (.int _)⟩
/-- a method that gives a new list -/
theorem ev_methM {α : Type} {ok : α → Prop} {args : α → List D} {f : α → List D} {C : Addr} {m : Str} {ps : List Str} {k j : Nat} {ds : List D} {apos : Pos} {pl : Sem Bool} {fs : List (Str × D)}
    (G : GloM X.prog X.w X.K X.mg X.base k C m ps (Fr X.K ok args f)) (hr : Room j X.A) (hj : k ≤ j) (a : α) (hok : ok a) (ho : Px X o g l (.ins C fs)) (hfs : fs.lookup m = none) (ha : Pa X (e :: es) g l ds) (hds : args a = .ins C fs :: ds)
    (hst : starEach (e :: es) X.env = (false, eval e X.env) :: starEach es X.env := by rfl) (hpl : (backTo pos (starEach es X.env)).any (·.1) = false := by rfl)
    (ht : MthE X o m apos pos (e :: es) pl := by rfl) : EvL X (.Call (.Attribute o m apos) (e :: es) [] pos) g l (f a) :=
  ev_meth (lr := l) (own := fun _ => []) G hr hj a hok ho (rc_ins hfs) ha hds (fun d l' h => by obtain ⟨p, rfl, rfl⟩ := h; exact ⟨p, rfl, rfl⟩) hst hpl ht
theorem ev_methM0 {α : Type} {ok : α → Prop} {args : α → List D} {f : α → List D} {C : Addr} {m : Str} {ps : List Str} {k j : Nat} {apos : Pos} {pl : Sem Bool} {fs : List (Str × D)}
    (G : GloM X.prog X.w X.K X.mg X.base k C m ps (Fr X.K ok args f)) (hr : Room j X.A) (hj : k ≤ j) (a : α) (hok : ok a) (ho : Px X o g l (.ins C fs)) (hfs : fs.lookup m = none) (hds : args a = [.ins C fs])
    (ht : MthE X o m apos pos [] pl := by rfl) : EvL X (.Call (.Attribute o m apos) [] [] pos) g l (f a) :=
  ev_meth0 (lr := l) (own := fun _ => []) G hr hj a hok ho (rc_ins hfs) hds (fun d l' h => by obtain ⟨p, rfl, rfl⟩ := h; exact ⟨p, rfl, rfl⟩) ht
theorem look_hd {k : Str} {d : D} {r : List (Str × D)} : List.lookup k ((k, d) :: r) = some d := by rw [List.lookup_cons, beq_self_eq_true]
theorem look_tl {k k' : Str} {d' : D} {r : List (Str × D)} {o : Option D} (h : List.lookup k r = o) (n : (k == k') = false := by decide +kernel) : List.lookup k ((k', d') :: r) = o := by rw [List.lookup_cons, n]; exact h
theorem look_nil {k : Str} : List.lookup k ([] : List (Str × D)) = none := rfl
variable {Om : β → Po} {v : Expr}
/-- x[i] = e, x an owned list -/
theorem bo_seti {kk : Nat} {q : Addr} {ys : List α} {y : α} {i : Int} {k : List α → β} {pos' : Pos} (enc : α → D) (he : Px X e g l (enc y)) (ho : Px X o g l (.adr q)) (hi : Px X e2 g l (.int i)) (hk : l[kk]? = some (ownL X.K q (ys.map enc))) (h0 : 0 ≤ i) (h1 : i < ys.length)
    (h : ∀ zs, zs = ys.set i.toNat y → Bo X W rest g (l.set kk (ownL X.K q (zs.map enc))) Om (k zs))
    (hs : swapsWithSole [.Subscript o e2 pos'] e pos.line X.env = pure false := by rfl) (hw : swappedStores [.Subscript o e2 pos'] e X.env = pure none := by rfl) (ha1 : (assignEach [.Subscript o e2 pos'] X.env).map (·.2) = [assign (.Subscript o e2 pos') X.env] := by rfl)
    (ha : ∀ v, assign (.Subscript o e2 pos') X.env v = (do
      let ov ← holding [v] (eval o X.env)
      let iv ← holding [v, ov] (eval e2 X.env)
      standAt pos'
      holding [v, ov, iv] (setItem ov iv v)
      release [v, ov, iv] []) := by intro _; rfl) :
    Bo X W (.Assign [.Subscript o e2 pos'] e pos :: rest) g l Om (lt (ys.set i.toNat y) k) := fun en T σ H D s mm => wpS_of (pss_cons (ps_asg pe_wp (pg_sub pe_wp pe_wp set_list ha) hs hw ha1) pss_wp) (by
  refine he en T σ H _ s fun u H1 s1 => ?_
  refine ho en _ σ H1 _ s1 fun u2 H2 s2 => ?_
  refine hi en _ σ H2 _ s2 fun u3 H3 s3 => ?_
  obtain ⟨F, M, a⟩ := s3
  have f3 := a.tm.1
  cases f3
  have f2 := a.tm.2.1
  cases f2
  obtain ⟨vs, fv, hp⟩ := a.rs.own hk a.exM
  have hl : vs.length = ys.length := by rw [fv.length, List.length_map]
  refine ⟨q, vs, i, i.toNat, rfl, rfl, hp, by unfold ixN; rw [if_pos h0, if_pos (by omega)], ?_⟩
  have f4 : FdAll X.K F (vs.set i.toNat u) ((ys.set i.toNat y).map enc) := by
    rw [List.map_set]
    exact fv.set _ a.tm.2.2.1
  obtain ⟨M', a'⟩ := (a.tmp (T' := T) a.tm.2.2.2).putL hk f4
  exact h _ rfl en T σ _ D ⟨F, M', a'⟩ mm)
end
end Sx
namespace Sx
/-- what each step keeps -/
theorem foldl_keep {α S1 : Type} {P : S1 → Prop} {step : S1 → α → S1} : ∀ {xs : List α} {s0 : S1}, P s0 → (∀ s x, x ∈ xs → P s → P (step s x)) → P (xs.foldl step s0)
  | [], _, h, _ => h
  | x :: xs, s0, h, hs => foldl_keep (xs := xs) (hs s0 x List.mem_cons_self h) fun s y hy => hs s y (List.mem_cons_of_mem _ hy)
theorem cond_keep {S1 : Type} {P : S1 → Prop} {b : Bool} {x y : S1} (hx : b = true → P x) (hy : b = false → P y) : P (cond b x y) := by
  cases b
  · exact hy rfl
  · exact hx rfl
end Sx
set_option Elab.async false
set_option linter.all false
set_option maxRecDepth 100000
set_option maxHeartbeats 2000000
/-! Models of dicts: lists of pairs. -/
namespace Sx
open PySem L2
section
variable {κ κ' β γ : Type} [DecidableEq κ] [DecidableEq κ']
def aget (m : List (κ × β)) (k : κ) : Option β := (m.find? fun kv => decide (kv.1 = k)).map (·.2)
def aput (m : List (κ × β)) (k : κ) (v : β) : List (κ × β) :=
  if (m.any fun kv => decide (kv.1 = k)) = true then m.map (fun kv => if kv.1 = k then (kv.1, v) else kv) else m ++ [(k, v)]
def adel (m : List (κ × β)) (k : κ) : List (κ × β) := m.filter fun kv => decide (kv.1 ≠ k)
abbrev dE (kf : κ → κ') (enc : β → D) (m : List (κ × β)) : List (κ' × D) := m.map fun kv => (kf kv.1, enc kv.2)
variable {kf : κ → κ'} {enc : β → D} {m : List (κ × β)} {k : κ} {v : β}
theorem dec_inj (inj : ∀ a b, kf a = kf b → a = b) (a b : κ) : decide (kf a = kf b) = decide (a = b) := by
  by_cases h : a = b
  · subst h; simp
  · rw [decide_eq_false h, decide_eq_false fun z => h (inj a b z)]
theorem val_aget (inj : ∀ a b, kf a = kf b → a = b) : ∀ {m : List (κ × β)}, valD (dE kf enc m) (kf k) = (aget m k).map enc
  | [] => rfl
  | (a, b) :: m => by
    have ih := val_aget (m := m) inj
    unfold valD aget dE at ih ⊢
    rw [List.map_cons, List.find?_cons, List.find?_cons, dec_inj inj]
    cases decide (a = k) with
    | true => rfl
    | false => exact ih
theorem any_inj (inj : ∀ a b, kf a = kf b → a = b) : ((dE kf enc m).any fun kv => decide (kv.1 = kf k)) = m.any fun kv => decide (kv.1 = k) := by
  unfold dE
  rw [List.any_map]
  congr 1
  funext x
  exact dec_inj inj x.1 k
theorem put_aput (inj : ∀ a b, kf a = kf b → a = b) : putKD (dE kf enc m) (kf k) (enc v) = dE kf enc (aput m k v) := by
  unfold putKD aput
  rw [any_inj inj]
  split
  · unfold dE
    rw [List.map_map, List.map_map]
    refine List.map_congr_left fun x _ => ?_
    show (if kf x.1 = kf k then (kf x.1, enc v) else (kf x.1, enc x.2)) = _
    by_cases h : x.1 = k
    · subst h
      rw [if_pos rfl]
      show _ = (fun kv : κ × β => (kf kv.1, enc kv.2)) (if x.1 = x.1 then (x.1, v) else x)
      rw [if_pos rfl]
    · rw [if_neg fun z => h (inj _ _ z)]
      show _ = (fun kv : κ × β => (kf kv.1, enc kv.2)) (if x.1 = k then (x.1, v) else x)
      rw [if_neg h]
  · unfold dE
    rw [List.map_append]
    rfl
theorem aget_put {j : κ} : ∀ {m : List (κ × β)}, aget (aput m k v) j = if j = k then some v else aget m j := by
  intro m
  have h1 : ∀ m : List (κ × β), (m.any fun kv => decide (kv.1 = k)) = true → aget (m.map fun kv => if kv.1 = k then (kv.1, v) else kv) j = if j = k then some v else aget m j := by
    intro m
    induction m with
    | nil => intro h; cases h
    | cons a m ih =>
      intro h
      obtain ⟨x, y⟩ := a
      unfold aget at ih ⊢
      rw [List.map_cons, List.find?_cons, List.find?_cons]
      by_cases e : x = k
      · subst e
        rw [if_pos rfl]
        by_cases z : x = j
        · subst z; simp
        · have z' : ¬ j = x := fun q => z q.symm
          simp only [decide_eq_false z]
          rw [if_neg z']
          by_cases hm : (m.any fun kv => decide (kv.1 = x)) = true
          · have := ih hm
            rw [if_neg z'] at this
            exact this
          · have : m.map (fun kv => if kv.1 = x then (kv.1, v) else kv) = m := by
              have hh : ∀ kv ∈ m, (if kv.1 = x then (kv.1, v) else kv) = kv := fun kv hk => by
                by_cases q : kv.1 = x
                · exact absurd (List.any_eq_true.mpr ⟨kv, hk, decide_eq_true q⟩) hm
                · rw [if_neg q]
              rw [List.map_congr_left hh]
              simp
            rw [this]
      · rw [if_neg e]
        have hm : (m.any fun kv => decide (kv.1 = k)) = true := by
          rw [List.any_cons] at h
          have : decide ((x, y).1 = k) = false := decide_eq_false e
          rw [this] at h
          exact h
        by_cases z : x = j
        · subst z
          rw [if_neg e]
          simp
        · simp only [decide_eq_false z]
          exact ih hm
  unfold aput
  by_cases h : (m.any fun kv => decide (kv.1 = k)) = true
  · rw [if_pos h]; exact h1 m h
  · rw [if_neg h]
    unfold aget
    rw [List.find?_append]
    by_cases z : j = k
    · subst z
      have hn : (m.find? fun kv => decide (kv.1 = j)) = none := List.find?_eq_none.mpr fun x hx hd => h (List.any_eq_true.mpr ⟨x, hx, hd⟩)
      rw [hn, if_pos rfl]
      simp
    · rw [if_neg z]
      cases q : m.find? fun kv => decide (kv.1 = j) with
      | some y => rfl
      | none =>
        have z' : ¬ k = j := fun q => z q.symm
        simp [z']
theorem aput_keys : (aput m k v).map (·.1) = if k ∈ m.map (·.1) then m.map (·.1) else m.map (·.1) ++ [k] := by
  have e : (m.any fun kv => decide (kv.1 = k)) = decide (k ∈ m.map (·.1)) := by
    by_cases h : k ∈ m.map (·.1)
    · rw [decide_eq_true h]
      obtain ⟨x, hx, hk⟩ := List.mem_map.mp h
      exact List.any_eq_true.mpr ⟨x, hx, decide_eq_true hk⟩
    · rw [decide_eq_false h]
      refine List.any_eq_false.mpr fun x hx hd => h (List.mem_map.mpr ⟨x, hx, of_decide_eq_true hd⟩)
  unfold aput
  rw [e]
  by_cases h : k ∈ m.map (·.1)
  · rw [decide_eq_true h, if_pos rfl, if_pos h, List.map_map]
    refine List.map_congr_left fun x _ => ?_
    show (if x.1 = k then (x.1, v) else x).1 = x.1
    split <;> rfl
  · rw [decide_eq_false h, if_neg (by simp), if_neg h, List.map_append]
    rfl
theorem aput_nodup (h : (m.map (·.1)).Nodup) : ((aput m k v).map (·.1)).Nodup := by
  rw [aput_keys]
  split
  · exact h
  · rename_i hk
    rw [List.nodup_append]
    exact ⟨h, by simp, fun a ha b hb => by rw [List.mem_singleton] at hb; subst hb; exact fun e => hk (e ▸ ha)⟩
theorem aput_len : (aput m k v).length ≤ m.length + 1 := by
  have := congrArg List.length (aput_keys (m := m) (k := k) (v := v))
  rw [List.length_map] at this
  rw [this]
  split
  · rw [List.length_map]; omega
  · rw [List.length_append, List.length_map]; exact Nat.le_refl _
theorem aget_mem {m : List (κ × β)} (h : aget m k = some v) : (k, v) ∈ m := by
  unfold aget at h
  obtain ⟨x, hx, rfl⟩ := Option.map_eq_some_iff.mp h
  have h1 := List.mem_of_find?_eq_some hx
  have h2 := List.find?_some hx
  have : x.1 = k := of_decide_eq_true h2
  subst this
  exact h1
theorem aget_none {m : List (κ × β)} : aget m k = none ↔ k ∉ m.map (·.1) := by
  unfold aget
  rw [Option.map_eq_none_iff, List.find?_eq_none]
  constructor
  · intro h hm
    obtain ⟨x, hx, hk⟩ := List.mem_map.mp hm
    exact h x hx (decide_eq_true hk)
  · intro h x hx hd
    exact h (List.mem_map.mpr ⟨x, hx, of_decide_eq_true hd⟩)
theorem aget_of {m : List (κ × β)} (nd : (m.map (·.1)).Nodup) (h : (k, v) ∈ m) : aget m k = some v := by
  induction m with
  | nil => cases h
  | cons a m ih =>
    obtain ⟨x, y⟩ := a
    unfold aget at ih ⊢
    rw [List.find?_cons]
    rw [List.map_cons, List.nodup_cons] at nd
    rcases List.mem_cons.mp h with e | q
    · cases e
      simp
    · have ne : ¬ x = k := fun e => by
        subst e
        exact nd.1 (List.mem_map.mpr ⟨_, q, rfl⟩)
      simp only [decide_eq_false ne]
      exact ih nd.2 q
theorem aget_del {j : κ} : ∀ {m : List (κ × β)}, aget (adel m k) j = if j = k then none else aget m j
  | [] => by split <;> rfl
  | (x, y) :: m => by
    have ih := aget_del (j := j) (m := m)
    unfold aget adel at ih ⊢
    rw [List.filter_cons]
    by_cases e : x = k
    · subst e
      rw [if_neg (by simp), ih, List.find?_cons]
      by_cases z : j = x
      · rw [if_pos z, if_pos z]
      · have z' : ¬ x = j := fun q => z q.symm
        rw [if_neg z, if_neg z]
        simp [z']
    · rw [if_pos (by simp [e]), List.find?_cons, List.find?_cons]
      by_cases z : x = j
      · subst z
        rw [if_neg e]
        simp
      · simp only [decide_eq_false z]
        exact ih
end
def kS (x : Str) : Key := .inr x
def kI (i : Int) : Key := .inl i
def kII (x : Int × Int) : List Key := [.inl x.1, .inl x.2]
def kSS (x : Str × Str) : List Key := [.inr x.1, .inr x.2]
def kSI (x : Str × Int) : List Key := [.inr x.1, .inl x.2]
theorem kS_inj (a b : Str) (h : kS a = kS b) : a = b := Sum.inr.inj h
theorem kI_inj (a b : Int) (h : kI a = kI b) : a = b := Sum.inl.inj h
theorem kII_inj (a b : Int × Int) (h : kII a = kII b) : a = b := by
  obtain ⟨x, y⟩ := a; obtain ⟨z, w⟩ := b
  unfold kII at h
  injection h with h1 h2
  injection h2 with h2 _
  exact Prod.ext (Sum.inl.inj h1) (Sum.inl.inj h2)
theorem kSS_inj (a b : Str × Str) (h : kSS a = kSS b) : a = b := by
  obtain ⟨x, y⟩ := a; obtain ⟨z, w⟩ := b
  unfold kSS at h
  injection h with h1 h2
  injection h2 with h2 _
  exact Prod.ext (Sum.inr.inj h1) (Sum.inr.inj h2)
theorem kSI_inj (a b : Str × Int) (h : kSI a = kSI b) : a = b := by
  obtain ⟨x, y⟩ := a; obtain ⟨z, w⟩ := b
  unfold kSI at h
  injection h with h1 h2
  injection h2 with h2 _
  exact Prod.ext (Sum.inr.inj h1) (Sum.inl.inj h2)
abbrev dkE {κ β : Type} [DecidableEq κ] (kf : κ → Key) (enc : β → D) (m : List (κ × β)) : D := .dK (dE kf enc m)
abbrev dtE {κ β : Type} [DecidableEq κ] (kf : κ → List Key) (enc : β → D) (m : List (κ × β)) : D := .dT (dE kf enc m)
theorem optE_map {β : Type} {enc : β → D} {o : Option β} : (o.map enc).getD .non = optE enc o := by cases o <;> rfl
theorem getD_map {β : Type} {enc : β → D} {o : Option β} {v : β} : (o.map enc).getD (enc v) = enc (o.getD v) := by cases o <;> rfl
/-- an optional thing that is there -/
theorem optE_get {β : Type} {enc : β → D} {o : Option β} {x0 : β} (h : o.isNone = false) : optE enc o = enc (o.getD x0) := by
  cases o with
  | none => cases h
  | some x => rfl
section
variable {X : Cx} {W : WX} {g g' : Gm} {l l' : List Res} {e e2 c a b o v : Expr} {d d1 d2 : D} {pos p p2 apos kp : Pos} {rest : List Stmt} {es : List Expr} {x1 : Nat} {ds : List D}
variable {κ β γ : Type} [DecidableEq κ] {m : List (κ × β)} {k : κ} {enc : β → D}
section
variable {kf : κ → Key}
theorem px_dgetM (inj : ∀ a b, kf a = kf b → a = b) (enc : β → D) {x0 : β} (hu : X.A.units + 64 < cLine) (ho : Px X o g l d1) (hd : Dv X.K l d1 (dE kf enc m)) (hi : Px X e g l (kD (kf k))) (hv : (aget m k).isSome = true) (hs : NoSl e := by intro _ _; rfl) : Px X (.Subscript o e pos) g l (enc ((aget m k).getD x0)) :=
  px_dget (Px.units hu) ho hd hi rfl (by
    rw [val_aget inj]
    cases h : aget m k with
    | none => rw [h] at hv; cases hv
    | some x => rfl) hs
theorem px_get1M (inj : ∀ a b, kf a = kf b → a = b) (enc : β → D) (hu : X.A.units + 64 < cLine) (ho : Px X o g l d1) (hd : Dv X.K l d1 (dE kf enc m)) (hi : Px X e g l (kD (kf k))) (hm : M1 X o "get" apos e pos := by constructor <;> rfl) : Px X (.Call (.Attribute o "get" apos) [e] [] pos) g l (optE enc (aget m k)) := by
  have := px_dget1 (Px.units hu) ho hd hi rfl hm
  rw [val_aget inj, optE_map] at this
  exact this
theorem px_get2M (inj : ∀ a b, kf a = kf b → a = b) (enc : β → D) {x0 : β} (hu : X.A.units + 64 < cLine) (ho : Px X o g l d1) (hd : Dv X.K l d1 (dE kf enc m)) (hi : Px X e g l (kD (kf k))) (hv : Px X v g l (enc x0)) (hm : M2 X o "get" apos e v pos := by constructor <;> rfl) : Px X (.Call (.Attribute o "get" apos) [e, v] [] pos) g l (enc ((aget m k).getD x0)) := by
  have := px_dget2 (Px.units hu) ho hd hi rfl hv hm
  rw [val_aget inj, getD_map] at this
  exact this
theorem ts_dinM (inj : ∀ a b, kf a = kf b → a = b) (enc : β → D) (hu : X.A.units + 64 < cLine) (hi : Px X e g l (kD (kf k))) (ho : Px X o g l d1) (hd : Dv X.K l d1 (dE kf enc m)) (hm : behindInMarks .In o = false := by first | exact nomark _ | rfl) : Ts X (.Compare e [.In] [o] pos) g l (aget m k).isSome := by
  have := ts_din (pos := pos) (Px.units hu) hi rfl ho hd hm
  rw [val_aget inj, Option.isSome_map] at this
  exact this
theorem ts_dnotinM (inj : ∀ a b, kf a = kf b → a = b) (enc : β → D) (hu : X.A.units + 64 < cLine) (hi : Px X e g l (kD (kf k))) (ho : Px X o g l d1) (hd : Dv X.K l d1 (dE kf enc m)) (hm : behindInMarks .NotIn o = false := by first | exact nomark _ | rfl) : Ts X (.Compare e [.NotIn] [o] pos) g l (!(aget m k).isSome) := by
  have := ts_dnotin (pos := pos) (Px.units hu) hi rfl ho hd hm
  rw [val_aget inj, Option.isSome_map] at this
  exact this
end
variable {S1 : Type} {Om : S1 → Po} {kk : List (κ × β) → S1}
/-- x = {} -/
theorem bo_d0 {i : Nat} {x : Str} {pos' p2 : Pos} (kf : κ → Key) (enc : β → D) (hN : X.N.Nodup) (hi : X.N[i]? = some x) (hx : Loc X.env.scope x) (h : ∀ p m, m = [] → Bo X W rest (g.set i (some (.adr p))) (ownD X.K p (dE kf enc m) :: l) Om (kk m))
    (hs : swapsWith (.Dict [] [] p2) (some (.Name x pos')) pos.line X.env = pure false := by rfl) (hf : X.fn x = true ∨ X.env.scope.names.lookup x = some .local := by first | exact .inl rfl | exact .inr rfl | assumption) :
    Bo X W (.Assign [.Name x pos'] (.Dict [] [] p2) pos :: rest) g l Om (lt [] kk) := blk_setX hN hi hx ev_d0 (fun d l' ⟨p, e1, e2⟩ => by subst e1; subst e2; exact h p [] rfl) hs hf
theorem bo_d1 {i : Nat} {x : Str} {pos' p2 : Pos} {ke : Expr} {v0 : β} (kf : κ → Key) (enc : β → D) (hN : X.N.Nodup) (hi : X.N[i]? = some x) (hx : Loc X.env.scope x) (hk : Px X ke g l (kD (kf k))) (hv : Px X v g l (enc v0)) (h : ∀ p m, m = [(k, v0)] → Bo X W rest (g.set i (some (.adr p))) (ownD X.K p (dE kf enc m) :: l) Om (kk m))
    (hs : swapsWith (.Dict [some ke] [v] p2) (some (.Name x pos')) pos.line X.env = pure false := by rfl) (hf : X.fn x = true ∨ X.env.scope.names.lookup x = some .local := by first | exact .inl rfl | exact .inr rfl | assumption) :
    Bo X W (.Assign [.Name x pos'] (.Dict [some ke] [v] p2) pos :: rest) g l Om (lt [(k, v0)] kk) := blk_setX hN hi hx (ev_d1 hk rfl hv) (fun d l' ⟨p, e1, e2⟩ => by subst e1; subst e2; exact h p _ rfl) hs hf
theorem bo_t0 {i : Nat} {x : Str} {pos' p2 : Pos} (kf : κ → List Key) (enc : β → D) (hN : X.N.Nodup) (hi : X.N[i]? = some x) (hx : Loc X.env.scope x) (h : ∀ p m, m = [] → Bo X W rest (g.set i (some (.adr p))) (ownT X.K p (dE kf enc m) :: l) Om (kk m))
    (hs : swapsWith (.Dict [] [] p2) (some (.Name x pos')) pos.line X.env = pure false := by rfl) (hf : X.fn x = true ∨ X.env.scope.names.lookup x = some .local := by first | exact .inl rfl | exact .inr rfl | assumption) :
    Bo X W (.Assign [.Name x pos'] (.Dict [] [] p2) pos :: rest) g l Om (lt [] kk) := blk_setX hN hi hx ev_t0 (fun d l' ⟨p, e1, e2⟩ => by subst e1; subst e2; exact h p [] rfl) hs hf
/-- x[k] = v -/
theorem bo_dput {n : Nat} {q : Addr} {pos' : Pos} {v0 : β} {kf : κ → Key} (inj : ∀ a b, kf a = kf b → a = b) (enc : β → D) (hu : X.A.units + 64 < cLine) (hv : Px X v g l (enc v0)) (ho : Px X o g l (.adr q)) (hi : Px X e g l (kD (kf k))) (hl : l[n]? = some (ownD X.K q (dE kf enc m))) (hz : m.length < 10000)
    (h : ∀ m2, m2 = aput m k v0 → Bo X W rest g (l.set n (ownD X.K q (dE kf enc m2))) Om (kk m2)) (hs : swapsWith v (some (.Subscript o e pos')) pos.line X.env = pure false := by rfl) : Bo X W (.Assign [.Subscript o e pos'] v pos :: rest) g l Om (lt (aput m k v0) kk) :=
  blk_dput (Px.units hu) hv ho hi rfl hl (by rw [List.length_map]; exact hz) (by rw [put_aput inj]; exact h _ rfl) hs
section
variable {kf : κ → List Key}
theorem px_tgetM (inj : ∀ a b, kf a = kf b → a = b) (enc : β → D) {x0 : β} (hu : X.A.units + 64 < cLine) (ho : Px X o g l d1) (hd : Dw X.K l d1 (dE kf enc m)) (hi : Pa X es g l ((kf k).map kD)) (hz : (kf k).length ≤ sizeLine) (hv : (aget m k).isSome = true) (hs : NoSl (.Tuple es x1 kp) := by intro _ _; rfl) : Px X (.Subscript o (.Tuple es x1 kp) pos) g l (enc ((aget m k).getD x0)) :=
  px_tget (Px.units hu) ho hd hi rfl (by
    rw [val_aget inj]
    cases h : aget m k with
    | none => rw [h] at hv; cases hv
    | some x => rfl) hz hs
theorem px_tget1M (inj : ∀ a b, kf a = kf b → a = b) (enc : β → D) (hu : X.A.units + 64 < cLine) (ho : Px X o g l d1) (hd : Dw X.K l d1 (dE kf enc m)) (hi : Pa X es g l ((kf k).map kD)) (hz : (kf k).length ≤ sizeLine) (hm : M1 X o "get" apos (.Tuple es x1 kp) pos := by constructor <;> rfl) : Px X (.Call (.Attribute o "get" apos) [.Tuple es x1 kp] [] pos) g l (optE enc (aget m k)) := by
  have := px_tget1 (Px.units hu) ho hd hi rfl hz hm
  rw [val_aget inj, optE_map] at this
  exact this
theorem px_tget2M (inj : ∀ a b, kf a = kf b → a = b) (enc : β → D) {x0 : β} (hu : X.A.units + 64 < cLine) (ho : Px X o g l d1) (hd : Dw X.K l d1 (dE kf enc m)) (hi : Pa X es g l ((kf k).map kD)) (hv : Px X v g l (enc x0)) (hz : (kf k).length ≤ sizeLine) (hm : M2 X o "get" apos (.Tuple es x1 kp) v pos := by constructor <;> rfl) : Px X (.Call (.Attribute o "get" apos) [.Tuple es x1 kp, v] [] pos) g l (enc ((aget m k).getD x0)) := by
  have := px_tget2 (Px.units hu) ho hd hi rfl hv hz hm
  rw [val_aget inj, getD_map] at this
  exact this
theorem bo_tput {n : Nat} {q : Addr} {pos' : Pos} {v0 : β} (inj : ∀ a b, kf a = kf b → a = b) (enc : β → D) (hu : X.A.units + 64 < cLine) (hv : Px X v g l (enc v0)) (ho : Px X o g l (.adr q)) (hi : Pa X es g l ((kf k).map kD)) (hkz : (kf k).length ≤ sizeLine) (hl : l[n]? = some (ownT X.K q (dE kf enc m))) (hz : m.length < 10000)
    (h : ∀ m2, m2 = aput m k v0 → Bo X W rest g (l.set n (ownT X.K q (dE kf enc m2))) Om (kk m2)) (hs : swapsWith v (some (.Subscript o (.Tuple es x1 kp) pos')) pos.line X.env = pure false := by rfl) : Bo X W (.Assign [.Subscript o (.Tuple es x1 kp) pos'] v pos :: rest) g l Om (lt (aput m k v0) kk) :=
  blk_tput (Px.units hu) hv ho hi rfl hl (by rw [List.length_map]; exact hz) (by rw [put_aput inj]; exact h _ rfl) hkz hs
end
/-- an owned dict is frozen -/
theorem bo_frzD {Om : S1 → Po} {mm : S1} {sts : List Stmt} {q : Addr} {kvs : List (Key × D)} {i kk : Nat} (hi : nth g i = some (.adr q)) (hk : l[kk]? = some (ownD X.K q kvs)) (h : Bo X W sts (g.set i (some (.dK kvs))) (l.eraseIdx kk) Om mm) : Bo X W sts g l Om mm := Blk.perm (perm_at hk) (Blk.frzD hi h)
end
end Sx
namespace Sx
open PySem L2
section
variable {X : Cx} {g : Gm} {l : List Res} {e o : Expr} {d1 : D} {pos : Pos} {κ β : Type} [DecidableEq κ] {m : List (κ × β)} {k : κ} {kf : κ → Key}
theorem px_dinM (inj : ∀ a b, kf a = kf b → a = b) (enc : β → D) (hu : X.A.units + 64 < cLine) (hi : Px X e g l (kD (kf k))) (ho : Px X o g l d1) (hd : Dv X.K l d1 (dE kf enc m)) (hm : behindInMarks .In o = false := by first | exact nomark _ | rfl) : Px X (.Compare e [.In] [o] pos) g l (.bl (aget m k).isSome) := by
  have := px_din (pos := pos) (Px.units hu) hi rfl ho hd hm
  rw [val_aget inj, Option.isSome_map] at this
  exact this
end
end Sx
set_option Elab.async false
set_option linter.all false
set_option maxRecDepth 100000
set_option maxHeartbeats 2000000
/-! Plain: loops of the models, sums, counts. -/
namespace Sx
open PySem L2
theorem lt_eq {α β : Type} (x : α) (k : α → β) : lt x k = k x := rfl
/-- a loop whose steps all run through -/
theorem loop_all {α Rr Ll S1 : Type} {step : S1 → α → Cf Rr S1 S1} {f : S1 → α → S1} : ∀ {xs : List α} {s : S1} (J : S1 → Prop), J s → (∀ s x, x ∈ xs → J s → step s x = .nx (f s x) ∧ J (f s x)) → (loop step xs s : Cf Rr Ll S1) = .nx (xs.foldl f s) ∧ J (xs.foldl f s)
  | [], s, J, h, _ => ⟨rfl, h⟩
  | x :: xs, s, J, h, hs => by
    obtain ⟨h1, h2⟩ := hs s x List.mem_cons_self h
    unfold loop
    rw [h1]
    exact loop_all (xs := xs) J h2 fun s y hy => hs s y (List.mem_cons_of_mem _ hy)
theorem loop_unit {α Rr Ll : Type} {step : Unit → α → Cf Rr Unit Unit} {xs : List α} (h : ∀ x ∈ xs, step () x = .nx ()) : (loop step xs () : Cf Rr Ll Unit) = .nx () := by
  have := (loop_all (Ll := Ll) (step := step) (f := fun _ _ => ()) (xs := xs) (s := ()) (fun _ => True) trivial (fun s x hx _ => ⟨h x hx, trivial⟩)).1
  rw [this]
theorem foldl_inv {α S1 : Type} {P : Nat → S1 → Prop} {step : S1 → α → S1} {xs : List α} {s0 : S1} (h : P 0 s0) (hs : ∀ i s x, xs[i]? = some x → P i s → P (i + 1) (step s x)) : P xs.length (xs.foldl step s0) := by
  have : ∀ i, i ≤ xs.length → P i ((xs.take i).foldl step s0) := by
    intro i
    induction i with
    | zero => intro _; exact h
    | succ i ih =>
      intro hi
      have hl : i < xs.length := hi
      rw [List.take_add_one, List.getElem?_eq_getElem hl, List.foldl_append]
      exact hs i _ _ (List.getElem?_eq_getElem hl) (ih (by omega))
  have z := this xs.length (Nat.le_refl _)
  rw [List.take_length] at z
  exact z
theorem foldl_inv' {α S1 : Type} {P : Nat → S1 → Prop} {step : S1 → α → S1} {xs : List α} {s0 : S1} {n : Nat} (hn : xs.length = n) (h : P 0 s0) (hs : ∀ i s x, xs[i]? = some x → P i s → P (i + 1) (step s x)) : P n (xs.foldl step s0) := hn ▸ foldl_inv h hs
def sumZ {α : Type} (f : α → Int) (xs : List α) : Int := (xs.map f).sum
theorem sumZ_nil {α : Type} {f : α → Int} : sumZ f [] = 0 := rfl
theorem sumZ_cons {α : Type} {f : α → Int} {x : α} {xs : List α} : sumZ f (x :: xs) = f x + sumZ f xs := by unfold sumZ; rw [List.map_cons, List.sum_cons]
theorem sumZ_app {α : Type} {f : α → Int} : ∀ {xs ys : List α}, sumZ f (xs ++ ys) = sumZ f xs + sumZ f ys
  | [], ys => by rw [List.nil_append, sumZ_nil]; omega
  | x :: xs, ys => by rw [List.cons_append, sumZ_cons, sumZ_cons, sumZ_app]; omega
theorem sumZ_add {α : Type} {f g : α → Int} : ∀ {xs : List α}, sumZ (fun x => f x + g x) xs = sumZ f xs + sumZ g xs
  | [] => rfl
  | x :: xs => by rw [sumZ_cons, sumZ_cons, sumZ_cons, sumZ_add]; omega
theorem sumZ_le {α : Type} {f g : α → Int} : ∀ {xs : List α}, (∀ x ∈ xs, f x ≤ g x) → sumZ f xs ≤ sumZ g xs
  | [], _ => Int.le_refl _
  | x :: xs, h => by
    rw [sumZ_cons, sumZ_cons]
    have h1 := h x List.mem_cons_self
    have h2 := sumZ_le (xs := xs) fun y hy => h y (List.mem_cons_of_mem _ hy)
    omega
theorem sumZ_zero {α : Type} : ∀ {xs : List α}, sumZ (fun _ => 0) xs = 0
  | [] => rfl
  | x :: xs => by rw [sumZ_cons, sumZ_zero]; rfl
theorem countP_set {α : Type} {p : α → Bool} {y x0 : α} : ∀ {xs : List α} {n : Nat}, n < xs.length → ((xs.set n y).countP p : Int) = (xs.countP p : Int) - (if p (xs.getD n x0) = true then 1 else 0) + (if p y = true then 1 else 0)
  | [], n, h => by cases h
  | x :: xs, 0, _ => by
    rw [List.set_cons_zero, List.countP_cons, List.countP_cons, List.getD_cons_zero]
    split <;> split <;> omega
  | x :: xs, n + 1, h => by
    rw [List.set_cons_succ, List.countP_cons, List.countP_cons, List.getD_cons_succ]
    have ih := countP_set (p := p) (y := y) (x0 := x0) (xs := xs) (n := n) (by simpa using h)
    generalize (if p x = true then 1 else 0 : Nat) = r
    generalize (if p (xs.getD n x0) = true then (1 : Int) else 0) = u at ih ⊢
    generalize (if p y = true then (1 : Int) else 0) = v at ih ⊢
    omega
theorem countP_range {α : Type} {p : α → Bool} {x0 : α} : ∀ {xs : List α}, xs.countP p = (List.range xs.length).countP fun i => p (xs.getD i x0) := by
  intro xs
  induction xs with
  | nil => rfl
  | cons x xs ih =>
    rw [List.length_cons, List.range_succ_eq_map, List.countP_cons, List.countP_cons, List.countP_map, ih]
    rfl
theorem getD_get {α : Type} {xs : List α} {i : Nat} {x x0 : α} (h : xs[i]? = some x) : xs.getD i x0 = x := by rw [List.getD_eq_getElem?_getD, h]; rfl
theorem get_getD {α : Type} {xs : List α} {i : Nat} {x0 : α} (h : i < xs.length) : xs[i]? = some (xs.getD i x0) := by rw [List.getD_eq_getElem?_getD, List.getElem?_eq_getElem h]; rfl
end Sx
set_option Elab.async false
set_option linter.all false
set_option maxRecDepth 100000
set_option maxHeartbeats 2000000
/-! Exceptions: calls that may raise, raise, a caught one that is kept, what it is. -/
namespace Sx
open PySem L2 PyProof.Rows

/-! ### readings -/
section
variable {X : Cx} {CX : CXT} {k : Nat} {f C : Addr} {fd : FuncData} {ps : List Str} {sp : Sp} {E : L2.St → XK} {m : Str} {pos apos : Pos} {e o : Expr} {es : List Expr} {ta : TE} {t : TA} {pl : Sem Bool}
/-- o.m(..) where what is wished of an exception may hang on the slots -/
def tMthS (C : Addr) (m : Str) (sp : Sp) (E : L2.St → XK) (ta : TE) (t : TA) : TE := fun σ H Q => ta σ H fun x H1 => ∃ a dx fs, x = .ref a ∧ H1 a = some (.ins C dx fs) ∧ fs.lookup m = none ∧ t σ H1 fun vs H2 => sp (x :: vs) H2 Q (E σ)
theorem pe_mthS (ho : PE X o ta) (hc : Cls X.K C) (hm : Meth X.K C m f) (F : FnOk X.prog X.w X.K X.mg X.base CX k f fd ps sp) (hr : Room k X.A) (hb : Binds X.K fd ps []) (hx : ∀ σ, PassesAt CX X σ (E σ)) (ha : PA X (e :: es) t)
    (hst : starEach (e :: es) X.env = (false, eval e X.env) :: starEach es X.env := by rfl) (hpl : (backTo pos (starEach es X.env)).any (·.1) = false := by rfl) (ht : MthE X o m apos pos (e :: es) pl := by rfl) :
    PE X (.Call (.Attribute o m apos) (e :: es) [] pos) (tMthS C m sp E ta t) := by
  refine ⟨fun pins s σ H Q I h => ?_⟩
  refine PySem.W.methodCall_KW (pl := pl) (thn (ho.run pins s σ H _ I h) fun u s1 hh => ?_) ht
  obtain ⟨x, H1, I1, rx, q, dx, fs, ex, ea, lk, hq⟩ := hh
  subst ex
  have eu : u = Value.ref q := rx
  subst eu
  refine getmeth_ok I1 ea hc hm lk ?_
  refine PySem.W.callWith_K (first := [.ref q]) (h₀ := X.base) I.ok.mod.kin hm.kp (thn (ha.run pos pins s1 σ H1 _ I1 hq) fun us s2 h2 => ?_) hst hpl
  obtain ⟨vs, H2, I2, r, q2⟩ := h2
  exact ⟨I2.kIn, run_fnS (us := .ref q :: us) (vs := .ref q :: vs) F hr hb (hx σ) I2 (.cons rfl r) q2⟩
end

/-! ### judgements -/
/-- e gives a datum as Psi tells, or raises as XP tells -/
def Exv (X : Cx) (W : WX) (e : Expr) (g : Gm) (l : List Res) (Psi : D → List Res → Prop) (XP : Value → Option Addr → List Res → Prop) : Prop := ∀ en T σ H (Q : VK), S X.K en g T l σ H → (∀ v d l' H', Psi d l' → S X.K en g (T.and X.K v d) l' σ H' → Q v H') → (∀ cls dd l' H', XP cls dd l' → S X.K en g T l' σ H' → W cls dd σ H') → wpE X e σ H Q
/-- a def that may raise -/
def GloX (P : Program) (w : World) (K : PySem.W.Frag) (mg : Str → Option Value) (base : Heap) (k : Nat) (x : Str) (ps : List Str) (sp : Sp) : Prop :=
  ∃ f fd, FnOk P w K mg base (L2.CX P w) k f fd ps sp ∧ mg x = some (.ref f) ∧ PySem.W.keepIn K (.ref f) = true ∧ Binds K fd ps []
def GloMX (P : Program) (w : World) (K : PySem.W.Frag) (mg : Str → Option Value) (base : Heap) (k : Nat) (C : Addr) (m : Str) (ps : List Str) (sp : Sp) : Prop :=
  ∃ f fd, FnOk P w K mg base (L2.CX P w) k f fd ps sp ∧ Cls K C ∧ Meth K C m f ∧ Binds K fd ps []
section
variable {P : Program} {w : World} {K : PySem.W.Frag} {mg : Str → Option Value} {base : Heap} {k : Nat} {C : Addr} {x m qual : Str} {ps : List Str} {sp : Sp} {st : Stmt}
theorem glox_of (d : Dfn K mg x st) (b : Bnd x x st ps) (h : ∀ f fd, Fun K x x st f fd → FnOk P w K mg base (L2.CX P w) k f fd ps sp) : GloX P w K mg base k x ps sp := by
  obtain ⟨f, fd, F, hm⟩ := d
  have F0 := F
  obtain ⟨⟨oc, od, kV, doc, pm, an, cdv, ct, osl, e, lk, hcd⟩, kp⟩ := F
  exact ⟨f, fd, h f fd F0, hm, kp, Binds.all fun us hl => by rw [e]; exact b kV doc pm an cdv ct us hl⟩
theorem glomx_of (d : Dmt K C m qual st) (c : Cls K C) (b : Bnd m qual st ps) (h : ∀ f fd, Fun K m qual st f fd → FnOk P w K mg base (L2.CX P w) k f fd ps sp) : GloMX P w K mg base k C m ps sp := by
  obtain ⟨f, fd, F, hm⟩ := d
  have F0 := F
  obtain ⟨⟨oc, od, kV, doc, pm, an, cdv, ct, osl, e, lk, hcd⟩, kp⟩ := F
  exact ⟨f, fd, h f fd F0, c, hm, Binds.all fun us hl => by rw [e]; exact b kV doc pm an cdv ct us hl⟩
end
section
variable {X : Cx} {W : WX} {g g' : Gm} {l l' : List Res} {Φ : Po} {e e2 a b c o : Expr} {es : List Expr} {d d1 d2 : D} {pos p p2 apos : Pos} {rest : List Stmt}
theorem Ev.exv {Psi : D → List Res → Prop} {XP : Value → Option Addr → List Res → Prop} (h : Ev X e g l Psi) : Exv X W e g l Psi XP := fun en T σ H Q s k _ => h en T σ H Q s k
theorem FnX.useX {α : Type} {ok : α → Prop} {args : α → List D} {own : α → List Res} {post : α → D → List Res → Prop} {epost : α → Value → Option Addr → List Res → Prop} {K : PySem.W.Frag} {en : En} {T : Tm} {σ : L2.St} {H : Hp} {vs : List V} {lr : List Res} {Q : VK}
    (a : α) (hok : ok a) (s : S K en g (T.ands K vs (args a)) (own a ++ lr) σ H) (hq : ∀ v d l' H', post a d l' → S K en g (T.and K v d) (l' ++ lr) σ H' → Q v H') (he : ∀ cls d l' H', epost a cls d l' → S K en g T (l' ++ lr) σ H' → W cls d σ H') :
    FnX K ok args own post epost vs H Q (WE W σ) := FnX.use a hok s hq he
theorem exv_call {α : Type} {ok : α → Prop} {args : α → List D} {own : α → List Res} {post : α → D → List Res → Prop} {epost : α → Value → Option Addr → List Res → Prop} {x : Str} {ps : List Str} {k j : Nat} {lr : List Res} {Psi : D → List Res → Prop} {XP : Value → Option Addr → List Res → Prop}
    (tk : Takes X W) (G : GloX X.prog X.w X.K X.mg X.base k x ps (FnX X.K ok args own post epost)) (hr : Room j X.A) (hj : k ≤ j) (a : α) (hok : ok a) (ha : Pa X (e :: es) g (own a ++ lr) (args a)) (hq : ∀ d l', post a d l' → Psi d (l' ++ lr)) (hx : ∀ cls d l', epost a cls d l' → XP cls d (l' ++ lr))
    (hg : Gl X x := by rfl) (hdb : (x == ("__debug__" : Str)) = false := by decide) (he : starEach (e :: es) X.env = (false, eval e X.env) :: starEach es X.env := by rfl) (hpl : (backTo pos (starEach es X.env)).any (·.1) = false := by rfl) :
    Exv X W (.Call (.Name x p) (e :: es) [] pos) g (own a ++ lr) Psi XP := fun en T σ H Q s kk kx => by
  obtain ⟨f, fd, F, hm, hk, hb⟩ := G
  refine wpE_of (pe_callS F (hr.mono hj) hg hm hk hb (passAt tk) pa_wp hdb he hpl) ?_
  refine ha en T σ H _ s fun vs H1 s1 => ?_
  exact FnX.useX a hok s1 (fun v d l' H' hp s' => kk v d _ H' (hq d l' hp) s') (fun cls d l' H' hp s' => kx cls d _ H' (hx cls d l' hp) s')
theorem exv_meth {α : Type} {ok : α → Prop} {args : α → List D} {own : α → List Res} {post : α → D → List Res → Prop} {epost : α → Value → Option Addr → List Res → Prop} {C : Addr} {m : Str} {ps : List Str} {k j : Nat} {lr : List Res} {Psi : D → List Res → Prop} {XP : Value → Option Addr → List Res → Prop} {ds : List D} {pl : Sem Bool}
    (tk : Takes X W) (G : GloMX X.prog X.w X.K X.mg X.base k C m ps (FnX X.K ok args own post epost)) (hr : Room j X.A) (hj : k ≤ j) (a : α) (hok : ok a) (ho : Px X o g (own a ++ lr) d1)
    (hd : ∀ F M H v, Ex F H → Ex M H → Rs (own a ++ lr) F M → Fd X.K F v d1 → ∃ q dx fs, v = .ref q ∧ H q = some (.ins C dx fs) ∧ fs.lookup m = none)
    (ha : Pa X (e :: es) g (own a ++ lr) ds) (hds : args a = d1 :: ds) (hq : ∀ d l', post a d l' → Psi d (l' ++ lr)) (hx : ∀ cls d l', epost a cls d l' → XP cls d (l' ++ lr))
    (hst : starEach (e :: es) X.env = (false, eval e X.env) :: starEach es X.env := by rfl) (hpl : (backTo pos (starEach es X.env)).any (·.1) = false := by rfl)
    (ht : MthE X o m apos pos (e :: es) pl := by rfl) :
    Exv X W (.Call (.Attribute o m apos) (e :: es) [] pos) g (own a ++ lr) Psi XP := fun en T σ H Q s kk kx => by
  obtain ⟨f, fd, F, hc, hm, hb⟩ := G
  refine wpE_of (pe_mthS pe_wp hc hm F (hr.mono hj) hb (passAt tk) pa_wp hst hpl ht) ?_
  refine ho en T σ H _ s fun v H1 s1 => ?_
  have s1' := s1
  obtain ⟨F1, M1, q1⟩ := s1
  obtain ⟨q, dx, fs, rfl, h1, h2⟩ := hd F1 M1 H1 v q1.exF q1.exM q1.rs q1.tm.1
  refine ⟨q, dx, fs, rfl, h1, h2, ?_⟩
  refine ha en _ σ H1 _ s1' fun vs H2 s2 => ?_
  refine FnX.useX a hok (T := T) (g := g) (en := en) (σ := σ) (lr := lr) ?_ (fun v d l' H' hp s' => kk v d _ H' (hq d l' hp) s') (fun cls d l' H' hp s' => kx cls d _ H' (hx cls d l' hp) s')
  obtain ⟨F, M, q⟩ := s2
  exact ⟨F, M, q.tmp ⟨by rw [hds]; exact .cons q.tm.2.1 q.tm.1, q.tm.2.2⟩⟩
/-! ### statements -/
theorem blk_exprX {Psi : D → List Res → Prop} {XP : Value → Option Addr → List Res → Prop} (he : Exv X W e g l Psi XP) (h : ∀ d l', Psi d l' → Blk X W rest g l' Φ) (hx : ∀ cls d l', XP cls d l' → Φ.ex cls d g l') (hs : swapsWith e none pos.line X.env = pure false := by rfl) : Blk X W (.Expr e pos :: rest) g l Φ := fun en T σ H D s m => wpS_of (pss_cons (ps_expr pe_wp hs) pss_wp) (he en T σ H _ s (fun v d l' H' p s' => h d l' p en T σ H' D s'.drop m) fun cls d l' H' p s' => m.ex cls d g l' σ H' (hx cls d l' p) s')
theorem blk_setXX {Psi : D → List Res → Prop} {XP : Value → Option Addr → List Res → Prop} {i : Nat} {x : Str} {pos' : Pos} (hN : X.N.Nodup) (hi : X.N[i]? = some x) (hx : Loc X.env.scope x) (he : Exv X W e g l Psi XP) (h : ∀ d l', Psi d l' → Blk X W rest (g.set i (some d)) l' Φ) (hxx : ∀ cls d l', XP cls d l' → Φ.ex cls d g l') (hs : swapsWith e (some (.Name x pos')) pos.line X.env = pure false := by rfl) (hf : X.fn x = true ∨ X.env.scope.names.lookup x = some .local := by first | exact .inl rfl | exact .inr rfl | assumption) :
    Blk X W (.Assign [.Name x pos'] e pos :: rest) g l Φ := fun en T σ H D s m => wpS_of (pss_cons (ps_set hN hi hx pe_wp hs hf) pss_wp) (he en T σ H _ s (fun v d l' H' p s' => by
      obtain ⟨F, M, a⟩ := s'
      exact h d l' p en T (σ.set i (some v)) H' D ⟨F, M, (a.tmp a.tm.2).slots (a.sl.set i a.tm.1)⟩ m) fun cls d l' H' p s' => m.ex cls d g l' σ H' (hxx cls d l' p) s')
theorem blk_retXX {Psi : D → List Res → Prop} {XP : Value → Option Addr → List Res → Prop} (he : Exv X W e g l Psi XP) (h : ∀ d l', Psi d l' → Φ.rt d l') (hx : ∀ cls d l', XP cls d l' → Φ.ex cls d g l') : Blk X W (.Return (some e) pos :: rest) g l Φ := fun en T σ H D s m => wpS_of (pss_cons (ps_ret pe_wp) pss_wp) (he en T σ H _ s (fun v d l' H' p s' => m.rt d l' v H' (h d l' p) s'.slotless) fun cls d l' H' p s' => m.ex cls d g l' σ H' (hx cls d l' p) s')
/-- what the written part says of an exception class that keeps no values -/
structure Dxc (K : PySem.W.Frag) (mg : Str → Option Value) (x : Str) (C : Addr) : Prop where
  nm : mg x = some (.ref C)
  kp : PySem.W.keepIn K (.ref C) = true
  sub : PySem.W.subIn K (.ref C) (.type "BaseException") = some true
  ty : PySem.W.typeIn K (.ref C) = some (.type "type")
  ec : ExcC K C
abbrev vErr : List Value := [.type "ValueError", .type "Exception", .type "BaseException", .type "object"]
theorem blk_raise {x m : Str} {j : Nat} {C : Addr} {pr : Pos} (hc : X.calm = true) (tk : Takes X W) (x0 : Dxc X.K X.mg x C) (xi : PySem.W.excIn X.K C vErr "ValueError.__new__" = true) (h : Φ.ex (.ref C) none g l) (hg : Gl X x := by rfl) (hdb : (x == ("__debug__" : Str)) = false := by decide) : Blk X W (.Raise (some (.Call (.Name x p) [.Constant (.str m) j p2] [] pos)) none pr :: rest) g l Φ := fun en T σ H D s mt =>
  wpS_of (pss_cons (ps_raise hc tk (pmk_own F.excBase_ValueError xi x0.nm x0.kp (raises_own x0.sub x0.ty) hg hdb)) pss_wp) (mt.ex _ _ g l σ H h s)
end

/-! ### a caught exception that is kept -/
section
variable {X : Cx} {x n y : Str} {c : Value} {i j : Nat} {body : List Stmt} {np pos pos' py pn ap : Pos} {tb : WX → TS} {Wout : WX}
/-- what the clause 'except x as n: y = n' wishes of an exception of the body -/
def wKeep (K : PySem.W.Frag) (c : Value) (i j : Nat) (Wout : WX) (D : Ends) : WX := fun cls d σ H =>
  ∃ b, PySem.W.exmOne K cls c = some b ∧ (b = true → ∀ a, H a = none → D.nx (((σ.set i (some (.ref a))).set j (some (.ref a))).set i none) (upd H a (exO a cls d))) ∧ (b = false → Wout cls d σ H)
theorem ps_try_keep (hs : X.stack = X.env :: X.outer) (hf : X.env.frame = some X.env.locals) (hex : X.ex = []) (hN : X.N.Nodup) (hi : X.N[i]? = some n) (hln : X.env.kindOf n = some .local) (hj : X.N[j]? = some y) (hly : X.env.kindOf y = some .local) (hij : i ≠ j)
    (hil : i < X.N.length) (hvn : Vis X.env.scope n) (hdn : (n == ("__debug__" : Str)) = false) (hcn : (n == ("__classdict__" : Str)) = false) (hc : Names X x c) (tk : Takes X Wout)
    (hb : ∀ (W : WX) (pn : List (Addr × Obj)) (xe : Value → Shared → Prop), Takes (X.tr pn xe) W → PassesOwn (model X.prog X.w) X.A X.env xe → PSs (X.tr pn xe) body (tb W))
    (hsw : ∀ Y : Cx, Y.env = X.env → swapsWith (.Name n pn) (some (.Name y py)) ap.line Y.env = pure false) :
    PS X (.Try body [.ExceptHandler (some (.Name x np)) (some n) [.Assign [.Name y py] (.Name n pn) ap] pos'] [] [] pos) (fun D σ H => tb (wKeep X.K c i j Wout D) D σ H) := by
  refine ⟨fun pins s σ H D I h => ?_⟩
  have ok := I.ok
  have hfr : X.A.frames = some (X.env :: X.outer) := by rw [ok.frames, hs]
  have hloc : Loc X.env.scope n := .inl hln
  have hlocy : Loc X.env.scope y := .inl hly
  refine wpAny_Try_except ?_
  refine wpAny_mono ((hb (wKeep X.K c i j Wout D) (X.pn ++ pins) (fun e s₁ => wpAny (model X.prog X.w) X.A (noteFrame e X.env) (fun _ s₂ => wpAny (model X.prog X.w) X.A (setFlight e none) (fun _ s₃ =>
    wpAny (model X.prog X.w) X.A (handleBy e X.env [.ExceptHandler (some (.Name x np)) (some n) [.Assign [.Name y py] (.Name n pn) ap] pos']) (SP X pins D) X.xe s₃) X.xe s₂) X.xe s₁) (fun u s' xx => ?_) PassesOwn.looking).run [] s σ H D (I.toTry _) h) (fun f s1 hsp => ?_) (fun e s1 he => he)
  · obtain ⟨a, B, sI, pins', σ', H', cls, d, rfl, J', nb, up, sky, na, os, ag, b, hb1, hyes, hno⟩ := xx
    have J : Inv X pins σ' H' sI := J'.ofTry ok
    have sky' : Sky B (X.env :: X.outer) a (Zc cls d) X.env.locals s'.heap := by rw [← hs]; exact sky
    show wpAny (model X.prog X.w) X.A (noteFrame (.ref a) X.env) _ _ _
    refine Sky.land Zc.steady hfr hf sky' fun h3 fl3 up3 => ?_
    have J3 : Inv X pins σ' H' { s' with heap := h3 } := J.landed nb fl3.1 (up.trans up3) os ag
    obtain ⟨oe3, vs3, he3, hz3, hd3⟩ := fl3.there
    have nfr : a ∉ frs (X.env :: X.outer) := fun hm => by
      obtain ⟨_, o', e', hnf⟩ := fl3.2.2.1.mem hm
      rw [he3] at e'; cases e'
      exact hnf _ hd3
    have nL : a ≠ X.env.locals := fun z => nfr (List.mem_filterMap.mpr ⟨X.env, List.mem_cons_self, by rw [hf, z]⟩)
    have nF : a ∉ X.fs := fun hm => by
      obtain ⟨e, he, q⟩ := List.mem_filterMap.mp hm
      exact nfr (List.mem_filterMap.mpr ⟨e, List.mem_cons_of_mem _ he, q⟩)
    have nS : a ∉ frs X.stack := by rw [hs]; exact nfr
    -- it was not there ahead
    have nI : sI.heap.get? a = none := by
      cases q : sI.heap.get? a with
      | none => rfl
      | some o => have z := nb a o q nS; rw [fl3.2.1] at z; cases z
    have n0 : X.s_0.heap.get? a = none := by
      cases q : X.s_0.heap.get? a with
      | none => rfl
      | some o =>
        obtain ⟨o', z⟩ := J.base.there a o q (by rw [hex]; exact fun z => nomatch z)
        rw [nI] at z; cases z
    have npn : ∀ p ∈ X.pn ++ pins, p.1 ≠ a := fun p hp e => by
      have z := (J.pin p hp).1
      rw [e, nI] at z; cases z
    have nc : ∀ x c, X.env.cells.lookup x = some c → c ≠ a := fun x c e z => by
      obtain ⟨v, oc, q, _⟩ := J.cell x c e
      rw [z, nI] at q; cases q
    have S3 := J3.suite he3 hd3 na nL nF
    refine wpAny_handleBy_cons (codeAny_handlers_test ?_) (by intro q; cases q)
    have LT : PySem.W.Looks (model X.prog X.w) h3 (typeOf (.ref a)) cls := fun A Q E s k q => wpAny_typeOf_ref (k _ _ he3) (by rw [hz3.1]; exact q)
    have LM := PySem.W.exm_one (M := model X.prog X.w) (J3.kIn) LT hb1
    have test : ∀ {Q : Value → Shared → Prop} {E : Value → Shared → Prop}, Q c { s' with heap := h3 } → wpAny (model X.prog X.w) (X.A.mark (some (.ref a))) (eval (.Name x np) X.env) Q E { s' with heap := h3 } := fun {Q E} q => by
      obtain ⟨hg, hdbg, hm | ⟨hm, hv, hnn⟩⟩ := hc
      · exact ld_glob (X := X.suite a ((a, oe3) :: (X.pn ++ pins))) S3 hg hm q hdbg
      · exact ld_blt (X := X.suite a ((a, oe3) :: (X.pn ++ pins))) S3 hg hm hv q hnn hdbg
    refine test (LM.here ?_)
    cases b with
    | true =>
      refine codeAny_handlers_suite_as ?_
      refine HandSPX.lands_againZ fl3 fun h4 fl4 up4 => ?_
      have J4 : Inv X pins σ' H' { s' with heap := h4 } := J.landed nb fl4.1 ((up.trans up3).trans up4) os ag
      obtain ⟨oe4, vs4, he4, hz4, hd4⟩ := fl4.there
      have S4 := J4.suite he4 hd4 na nL nF
      refine store_ok (X := X.suite a ((a, oe4) :: (X.pn ++ pins))) (v := .ref a) S4 hN hi hloc rfl (fun s5 S5 => ?_) (.inr hln)
      have hvar : PE (X.suite a ((a, oe4) :: (X.pn ++ pins))) (.Name n pn) (tVar i) := pe_var hi hvn hdn hcn
      have hsu : PSs (X.suite a ((a, oe4) :: (X.pn ++ pins))) [.Assign [.Name y py] (.Name n pn) ap] (tAsg (tVar i) (gName j)) := pss_one (ps_set hN hj hlocy hvar (hsw _ rfl) (.inr hly))
      have hsl : i < (σ'.set i (some (.ref a))).length := by rw [List.length_set, J4.len]; exact hil
      refine wpAny_mono (hsu.run [] s5 _ H' { nx := fun σ6 H6 => σ6 = (σ'.set i (some (.ref a))).set j (some (.ref a)) ∧ H6 = H', rt := fun _ _ => False, bk := fun _ _ => False, ct := fun _ _ => False } S5 ⟨.ref a, by rw [List.getElem?_set_self (by rw [List.length_set] at hsl; exact hsl)], rfl, rfl⟩) (fun f s6 hsp => ?_) (fun _ _ z => False.elim z)
      cases f with
      | next =>
        obtain ⟨σ6, H6, S6, e6, e7⟩ := hsp
        subst e6; subst e7
        refine gone_ok (X := X.suite a ((a, oe4) :: (X.pn ++ pins))) S6 hN hi hln fun s7 I7 => ?_
        have g7 := (I7.pin (a, oe4) (by rw [List.append_nil]; exact List.mem_cons_self)).1
        exact ⟨_, _, inv_wide (I7.unsuite ok) n0 na npn nL nc (exO_ok g7 hz4 hd4), hyes rfl a na⟩
      | brk =>
        obtain ⟨_, _, _, z⟩ := hsp
        exact z.elim
      | cont =>
        obtain ⟨_, _, _, z⟩ := hsp
        exact z.elim
      | ret u =>
        obtain ⟨_, _, _, _, _, z⟩ := hsp
        exact z.elim
    | false =>
      show wpAny _ X.A (handleBy (.ref a) X.env []) _ _ _
      refine wpAny_handleBy_nil ?_
      obtain ⟨k1, k2, k3, oe, vs, T, oT, ts', he, hz, hd, h1, hr⟩ := id fl3
      unfold PySem.passOn
      refine wpAny_bind (wpAny_field he hd h1 ?_)
      rw [if_neg (show ¬ ((Value.ref T == Value.none) = true) from by simp)]
      have fin : wpAny (model X.prog X.w) X.A (setFlight (.ref a) X.env.frame) (fun _ s4 => wpAny (model X.prog X.w) X.A (throw (.ref a) : Sem Flow) (SP X pins D) X.xe s4) X.xe { s' with heap := h3 } := by
        rw [hf]
        refine HandSPX.setFlight_upZ fl3 fun h4 hh4 up4 => wpAny_throw (tk _ _ ?_)
        exact ⟨a, B, sI, pins, σ', H', cls, d, rfl, J, nb, (up.trans up3).trans up4, .inr (.inr (by rw [hs]; exact hh4)), na, os, ag, hno rfl⟩
      first
        | exact wpAny_bind (wpAny_pure (wpAny_bind fin))
        | exact wpAny_bind fin
  · cases f with
    | next =>
      obtain ⟨σ', H', J', q⟩ := hsp
      exact wpAny_execs_nil ⟨σ', H', J'.ofTry ok, q⟩
    | brk =>
      obtain ⟨σ', H', J', q⟩ := hsp
      exact ⟨σ', H', J'.ofTry ok, q⟩
    | cont =>
      obtain ⟨σ', H', J', q⟩ := hsp
      exact ⟨σ', H', J'.ofTry ok, q⟩
    | ret u =>
      obtain ⟨v, σ', H', J', r, q⟩ := hsp
      exact ⟨v, σ', H', J'.ofTry ok, r, q⟩
end
section
variable {X : Cx} {W : WX} {g g' : Gm} {l l' : List Res} {Φ : Po} {body rest : List Stmt} {x n y : Str} {C : Addr} {i j : Nat} {np pos pos' py pn ap : Pos}
/-- try: body except C as n: y = n -/
theorem blk_try_keep (EXP : Value → Option Addr → Gm → List Res → Prop) (tk : Takes X W) (hN : X.N.Nodup) (hi : X.N[i]? = some n) (hj : X.N[j]? = some y) (hc : Dxc X.K X.mg x C)
    (hb : ∀ (W' : WX) (pn : List (Addr × Obj)) (xe : Value → Shared → Prop), Takes (X.tr pn xe) W' → PassesOwn (model X.prog X.w) X.A X.env xe → Blk (X.tr pn xe) W' body g l { Φ with nx := fun g' l' => Blk X W rest g' l' Φ, ex := EXP })
    (hx : ∀ cls d g' l', EXP cls d g' l' → ∃ b, PySem.W.exmOne X.K cls (.ref C) = some b ∧ (b = true → ∀ a, Blk X W rest (((g'.set i (some (.adr a))).set j (some (.adr a))).set i none) (ownX a cls d :: l') Φ) ∧ (b = false → Φ.ex cls d g' l'))
    (hln : X.env.kindOf n = some .local := by rfl) (hly : X.env.kindOf y = some .local := by rfl) (hij : i ≠ j := by decide) (hil : i < X.N.length := by exact Nat.le_of_ble_eq_true rfl) (hvn : Vis X.env.scope n := by exact .inl rfl) (hdn : (n == ("__debug__" : Str)) = false := by decide) (hcn : (n == ("__classdict__" : Str)) = false := by decide)
    (hg : Gl X x := by rfl) (hdx : (x == ("__debug__" : Str)) = false := by decide)
    (hs : X.stack = X.env :: X.outer := by rfl) (hf : X.env.frame = some X.env.locals := by rfl) (hex : X.ex = [] := by rfl)
    (hsw : ∀ Y : Cx, Y.env = X.env → swapsWith (.Name n pn) (some (.Name y py)) ap.line Y.env = pure false := by intro Y e; rw [e]; rfl) :
    Blk X W (.Try body [.ExceptHandler (some (.Name x np)) (some n) [.Assign [.Name y py] (.Name n pn) ap] pos'] [] [] pos :: rest) g l Φ := fun en T σ H D s m =>
  wpS_of (pss_cons (ps_try_keep (c := .ref C) (tb := fun W' => fun D' σ' H' => ∀ pn xe, Takes (X.tr pn xe) W' → PassesOwn (model X.prog X.w) X.A X.env xe → wpS (X.tr pn xe) body D' σ' H') hs hf hex hN hi hln hj hly hij hil hvn hdn hcn ⟨hg, hdx, .inl hc.nm⟩ tk
    (fun W' pn xe t1 t2 => ⟨fun pins s1 σ1 H1 D1 I h => h pn xe t1 t2 pins s1 I⟩) hsw) pss_wp) (fun pn xe t1 t2 => by
      refine hb _ pn xe t1 t2 en T σ H _ s ⟨fun g' l' σ' H' p s' => p en T σ' H' D s' m, m.rt, m.bk, m.ct, fun cls d g' l' σ' H' p s' => ?_⟩
      obtain ⟨b, h1, h2, h3⟩ := hx cls d g' l' p
      refine ⟨b, h1, fun hb a ha => ?_, fun hb => m.ex _ _ _ _ _ _ (h3 hb) s'⟩
      obtain ⟨F, M, q⟩ := s'
      have q2 := q.newO (r := ownX a cls d) (A := one a (exO a cls d)) (H' := upd H' a (exO a cls d)) (.new ha) (fun z o w => by obtain ⟨rfl, rfl⟩ := one_some w; exact upd_same) (fun z o w => by obtain ⟨rfl, rfl⟩ := one_some w; exact ha) rfl
      exact h2 hb a en T _ _ D ⟨F, _, q2.slots (((q2.sl.set i (.adr a)).set j (.adr a)).clear i)⟩ m)
/-! ### what a kept one is -/
def rIsK (K : PySem.W.Frag) : List V → Hp → VK → Prop := fun xs H Q => ∃ (a D : Addr) (c : V) (cv : Value) (b : Bool), xs = [.ref a, c] ∧ H a = some (exO a (.ref D) none) ∧ ExcC K D ∧ ClsV c cv ∧ PySem.W.kitOne K (.ref D) cv = some b ∧ Q (.bl b) H
def rIsKT (K : PySem.W.Frag) : List V → Hp → VK → Prop := fun xs H Q => ∃ (a D tp : Addr) (cs : List V) (ws : List Value) (b : Bool), xs = [.ref a, .ref tp] ∧ H a = some (exO a (.ref D) none) ∧ ExcC K D ∧ SqT K H tp cs ∧ Paired ClsV cs ws ∧ PySem.W.kitAny K (.ref D) ws = some b ∧ Q (.bl b) H
theorem exO_inst {P : Program} {w : World} {H : Hp} {h : Heap} {a D : Addr} (hok : HOk P w H h) (ha : H a = some (exO a (.ref D) none)) : ∃ oe, PySem.W.InstAt h a oe D none := by
  have x : ObjOk P w H h a (exO a (.ref D) none) := hok a _ ha
  obtain ⟨⟨oe, h1, h2, vs, h3⟩, _⟩ := x
  obtain ⟨oc, od, oda, osl⟩ := oe
  obtain ⟨e1, e2⟩ := h2
  dsimp only at e1 e2 h3
  subst e1; subst e2; subst h3
  exact ⟨_, h1, rfl, rfl, trivial⟩
theorem call_isK : CallR X (.builtin "isinstance") (rIsK X.K) := by
  intro pins s σ H xs us Q I r h
  obtain ⟨a, D, c, cv, b, rfl, ha, ec, k, e, q⟩ := h
  obtain ⟨u1, u2, rfl, r1, r2⟩ := vals2 r
  cases (show u1 = Value.ref a from r1)
  have e2 := k.eq r2
  subst e2
  obtain ⟨oe, J⟩ := exO_inst I.hok ha
  exact PySem.W.kia_one (PySem.W.handS_kitx_exc ec.hg ec.hk ec.hs ec.hd ec.ha ec.hn ec.ht ec.hm) I.kIn J e (fun z => nomatch z) fun tk => ⟨.bl b, H, I.tok tk, rfl, q⟩
theorem call_isKT : CallR X (.builtin "isinstance") (rIsKT X.K) := by
  intro pins s σ H xs us Q I r h
  obtain ⟨a, D, tp, cs, ws, b, rfl, ha, ec, hT, k, e, q⟩ := h
  obtain ⟨u1, u2, rfl, r1, r2⟩ := vals2 r
  cases (show u1 = Value.ref a from r1)
  cases (show u2 = Value.ref tp from r2)
  obtain ⟨oe, J⟩ := exO_inst I.hok ha
  obtain ⟨its, rv, ⟨o, h1, h2, n, h3⟩, _⟩ := I.tuple hT
  have e3 := ClsV.all k rv
  subst e3
  obtain ⟨oc, od, dt, sl⟩ := o
  simp only at h2 h3
  subst h2 h3
  exact PySem.W.kia_tup (PySem.W.handS_kitx_exc ec.hg ec.hk ec.hs ec.hd ec.ha ec.hn ec.ht ec.hm) I.kIn J h1 e (fun z => nomatch z) fun tk => ⟨.bl b, H, I.tok tk, rfl, q⟩
theorem Rs.exc {F M H : Hp} {k : Nat} {a : Addr} {cls : Value} {d : Option Addr} (h : Rs l F M) (e : l[k]? = some (ownX a cls d)) (m : Ex M H) : H a = some (exO a cls d) := by
  obtain ⟨A, B, rfl, dj, rfl, _⟩ := Rs.at e h
  exact m a _ (join_l one_same)
theorem o_isK {K : PySem.W.Frag} {a D C : Addr} {b : Bool} {k : Nat} (hk : l[k]? = some (ownX a (.ref D) none)) (ec : ExcC K D) (h : PySem.W.kitOne K (.ref D) (.ref C) = some b) : OpN K l (rIsK K) [.adr a, .adr C] (.bl b) := fun F M H vs Q eF eM dj rs f kk => by
  cases f with
  | cons f1 f2 =>
    cases f2 with
    | cons f2 f3 =>
      cases f3; cases f1; cases f2
      exact ⟨a, D, _, _, b, rfl, rs.exc hk eM, ec, .own C, h, kk _ F H (.rf eF) (.bl _)⟩
theorem o_isKt {K : PySem.W.Frag} {a D : Addr} {t : String} {b : Bool} {k : Nat} (hk : l[k]? = some (ownX a (.ref D) none)) (ec : ExcC K D) (h : PySem.W.kitOne K (.ref D) (.type t) = some b) : OpN K l (rIsK K) [.adr a, .ty t] (.bl b) := fun F M H vs Q eF eM dj rs f kk => by
  cases f with
  | cons f1 f2 =>
    cases f2 with
    | cons f2 f3 =>
      cases f3; cases f1; cases f2
      exact ⟨a, D, _, _, b, rfl, rs.exc hk eM, ec, .ty t, h, kk _ F H (.rf eF) (.bl _)⟩
theorem adr_cls {K : PySem.W.Frag} {F : Hp} : ∀ {cs : List Addr} {vs : List V}, FdAll K F vs (cs.map D.adr) → Paired ClsV vs (cs.map Value.ref)
  | [], _, .nil => .nil
  | c :: cs, _, .cons a b => by
    cases a
    exact .cons (.own c) (adr_cls b)
theorem o_isKT {K : PySem.W.Frag} {a D0 : Addr} {cs : List Addr} {b : Bool} {k : Nat} (hk : l[k]? = some (ownX a (.ref D0) none)) (ec : ExcC K D0) (h : PySem.W.kitAny K (.ref D0) (cs.map Value.ref) = some b) : OpN K l (rIsKT K) [.adr a, .tup (cs.map D.adr)] (.bl b) := fun F M H vs Q eF eM dj rs f kk => by
  cases f with
  | cons f1 f2 =>
    cases f2 with
    | cons f2 f3 =>
      cases f3; cases f1
      cases f2 with
      | tup s fa => exact ⟨a, D0, _, _, _, b, rfl, rs.exc hk eM, ec, ex_t eF s, adr_cls fa, h, kk _ F H (.rf eF) (.bl _)⟩
theorem kit_no {K : PySem.W.Frag} {D : Addr} : ∀ {cs : List Addr}, (∀ c ∈ cs, PySem.W.kitOne K (.ref D) (.ref c) = some false) → PySem.W.kitAny K (.ref D) (cs.map Value.ref) = some false
  | [], _ => rfl
  | c :: cs, h => by
    show (match PySem.W.kitOne K (.ref D) (.ref c) with | some true => some true | some false => PySem.W.kitAny K (.ref D) (cs.map Value.ref) | none => none) = some false
    rw [h c List.mem_cons_self]
    exact kit_no fun x hx => h x (List.mem_cons_of_mem _ hx)
end
end Sx
set_option Elab.async false
set_option linter.all false
set_option maxRecDepth 100000
set_option maxHeartbeats 2000000
/-! == of encoded things. -/
namespace Sx
open PySem L2
/-- == of things encoded by enc is equality -/
structure EqS {α : Type} [DecidableEq α] (k : Nat) (ok : α → Prop) (enc : α → D) : Prop where
  ex : ∀ x, ok x → ∃ p, (enc x).py = some p ∧ p.canLay0 = true ∧ p.depth ≤ k
  eq : ∀ x y p q, (enc x).py = some p → (enc y).py = some q → PyData.eqv p q = decide (x = y)
theorem beq_dec {α : Type} [DecidableEq α] [BEq α] [LawfulBEq α] (x y : α) : (x == y) = decide (x = y) := by
  by_cases h : x = y
  · subst h; simp
  · rw [decide_eq_false h]; exact beq_false_of_ne h
theorem eqs_int : EqS 0 (fun _ => True) D.int := ⟨fun x _ => ⟨_, rfl, rfl, Nat.le_refl _⟩, fun x y p q h1 h2 => by cases h1; cases h2; exact beq_dec x y⟩
theorem eqs_bool : EqS 0 (fun _ => True) D.bl := ⟨fun x _ => ⟨_, rfl, rfl, Nat.le_refl _⟩, fun x y p q h1 h2 => by cases h1; cases h2; exact beq_dec x y⟩
theorem eqs_str : EqS 0 (fun x => PySem.PyData.strOk x = true) D.str := ⟨fun x h => ⟨_, rfl, h, Nat.le_refl _⟩, fun x y p q h1 h2 => by cases h1; cases h2; exact beq_dec x y⟩
section
variable {α β γ δ : Type} [DecidableEq α] [DecidableEq β] [DecidableEq γ] [DecidableEq δ] {k : Nat} {ok : α → Prop} {ok2 : β → Prop} {ok3 : γ → Prop} {ok4 : δ → Prop} {enc : α → D} {enc2 : β → D} {enc3 : γ → D} {enc4 : δ → D}
theorem pys_cons {d : D} {ds : List D} {ps : List PyData} (h : D.pys (d :: ds) = some ps) : ∃ a b, d.py = some a ∧ D.pys ds = some b ∧ ps = a :: b := by
  unfold D.pys at h
  obtain ⟨a, h1, h⟩ := Option.bind_eq_some_iff.mp h
  obtain ⟨b, h2, h⟩ := Option.map_eq_some_iff.mp h
  exact ⟨a, b, h1, h2, h.symm⟩
theorem pys_mk {d : D} {ds : List D} {a : PyData} {b : List PyData} (h1 : d.py = some a) (h2 : D.pys ds = some b) : D.pys (d :: ds) = some (a :: b) := by
  unfold D.pys; rw [h1, h2]; rfl
theorem EqS.all (E : EqS k ok enc) : ∀ {xs : List α}, (∀ x ∈ xs, ok x) → ∃ ps, D.pys (xs.map enc) = some ps ∧ PyData.canLayAll0 ps = true ∧ PyData.depthAll ps ≤ k := fun {xs} h =>
  Dp'.all fun d hd => by
    obtain ⟨x, hx, rfl⟩ := List.mem_map.mp hd
    exact E.ex x (h x hx)
theorem EqS.eqAll (E : EqS k ok enc) : ∀ {xs ys : List α} {ps qs : List PyData}, D.pys (xs.map enc) = some ps → D.pys (ys.map enc) = some qs → PyData.eqvAll ps qs = decide (xs = ys)
  | [], [], _, _, h1, h2 => by cases h1; cases h2; rfl
  | [], y :: ys, _, _, h1, h2 => by
    cases h1
    rw [List.map_cons] at h2
    obtain ⟨a, b, _, _, rfl⟩ := pys_cons h2
    rfl
  | x :: xs, [], _, _, h1, h2 => by
    cases h2
    rw [List.map_cons] at h1
    obtain ⟨a, b, _, _, rfl⟩ := pys_cons h1
    rfl
  | x :: xs, y :: ys, _, _, h1, h2 => by
    rw [List.map_cons] at h1 h2
    obtain ⟨a, b, e1, e2, rfl⟩ := pys_cons h1
    obtain ⟨a', b', e3, e4, rfl⟩ := pys_cons h2
    show (PyData.eqv a a' && PyData.eqvAll b b') = _
    rw [E.eq x y a a' e1 e3, EqS.eqAll E e2 e4]
    by_cases h : x = y
    · subst h
      by_cases h' : xs = ys
      · subst h'; simp
      · simp [h']
    · simp [h]
theorem eqs_lst (E : EqS k ok enc) : EqS (k + 1) (fun xs : List α => ∀ x ∈ xs, ok x) (lstE enc) := ⟨fun xs h => Dp'.lst fun d hd => by
    obtain ⟨x, hx, rfl⟩ := List.mem_map.mp hd
    exact E.ex x (h x hx), fun x y p q h1 h2 => by
    unfold D.py at h1 h2
    obtain ⟨ps, h3, rfl⟩ := Option.map_eq_some_iff.mp h1
    obtain ⟨qs, h4, rfl⟩ := Option.map_eq_some_iff.mp h2
    exact E.eqAll h3 h4⟩
theorem eqs_tl (E : EqS k ok enc) : EqS (k + 1) (fun xs : List α => ∀ x ∈ xs, ok x) (tlE enc) := ⟨fun xs h => Dp'.tup fun d hd => by
    obtain ⟨x, hx, rfl⟩ := List.mem_map.mp hd
    exact E.ex x (h x hx), fun x y p q h1 h2 => by
    unfold D.py at h1 h2
    obtain ⟨ps, h3, rfl⟩ := Option.map_eq_some_iff.mp h1
    obtain ⟨qs, h4, rfl⟩ := Option.map_eq_some_iff.mp h2
    exact E.eqAll h3 h4⟩
theorem tup_py {ds : List D} {p : PyData} (h : (D.tup ds).py = some p) : ∃ ps, D.pys ds = some ps ∧ p = .tuple ps := by
  unfold D.py at h
  obtain ⟨ps, h1, rfl⟩ := Option.map_eq_some_iff.mp h
  exact ⟨ps, h1, rfl⟩
theorem eqs_t2 {k2 : Nat} {e : α × β → D} (E : EqS k ok enc) (E2 : EqS k2 ok2 enc2) (he : ∀ x, e x = .tup [enc x.1, enc2 x.2] := by intro x; rfl) : EqS (max k k2 + 1) (fun x : α × β => ok x.1 ∧ ok2 x.2) e := ⟨fun x h => by
    rw [he]
    refine Dp'.tup fun d hd => ?_
    simp only [List.mem_cons, List.not_mem_nil, or_false] at hd
    rcases hd with rfl | rfl
    · exact Dp'.mono (E.ex _ h.1) (by omega)
    · exact Dp'.mono (E2.ex _ h.2) (by omega), fun x y p q h1 h2 => by
    rw [he] at h1 h2
    obtain ⟨ps, h3, rfl⟩ := tup_py h1
    obtain ⟨qs, h4, rfl⟩ := tup_py h2
    obtain ⟨a1, b1, u1, v1, rfl⟩ := pys_cons h3
    obtain ⟨a2, b2, u2, v2, rfl⟩ := pys_cons v1
    cases v2
    obtain ⟨c1, d1, w1, z1, rfl⟩ := pys_cons h4
    obtain ⟨c2, d2, w2, z2, rfl⟩ := pys_cons z1
    cases z2
    show (PyData.eqv a1 c1 && (PyData.eqv a2 c2 && true)) = _
    rw [E.eq _ _ _ _ u1 w1, E2.eq _ _ _ _ u2 w2]
    obtain ⟨x1, x2⟩ := x; obtain ⟨y1, y2⟩ := y
    simp [Prod.mk.injEq]⟩
theorem eqs_t3 {k2 k3 : Nat} {e : α × β × γ → D} (E : EqS k ok enc) (E2 : EqS k2 ok2 enc2) (E3 : EqS k3 ok3 enc3) (he : ∀ x, e x = .tup [enc x.1, enc2 x.2.1, enc3 x.2.2] := by intro x; rfl) : EqS (max k (max k2 k3) + 1) (fun x : α × β × γ => ok x.1 ∧ ok2 x.2.1 ∧ ok3 x.2.2) e := ⟨fun x h => by
    rw [he]
    refine Dp'.tup fun d hd => ?_
    simp only [List.mem_cons, List.not_mem_nil, or_false] at hd
    rcases hd with rfl | rfl | rfl
    · exact Dp'.mono (E.ex _ h.1) (by omega)
    · exact Dp'.mono (E2.ex _ h.2.1) (by omega)
    · exact Dp'.mono (E3.ex _ h.2.2) (by omega), fun x y p q h1 h2 => by
    rw [he] at h1 h2
    obtain ⟨ps, h3, rfl⟩ := tup_py h1
    obtain ⟨qs, h4, rfl⟩ := tup_py h2
    obtain ⟨a1, b1, u1, v1, rfl⟩ := pys_cons h3
    obtain ⟨a2, b2, u2, v2, rfl⟩ := pys_cons v1
    obtain ⟨a3, b3, u3, v3, rfl⟩ := pys_cons v2
    cases v3
    obtain ⟨c1, d1, w1, z1, rfl⟩ := pys_cons h4
    obtain ⟨c2, d2, w2, z2, rfl⟩ := pys_cons z1
    obtain ⟨c3, d3, w3, z3, rfl⟩ := pys_cons z2
    cases z3
    show (PyData.eqv a1 c1 && (PyData.eqv a2 c2 && (PyData.eqv a3 c3 && true))) = _
    rw [E.eq _ _ _ _ u1 w1, E2.eq _ _ _ _ u2 w2, E3.eq _ _ _ _ u3 w3]
    obtain ⟨x1, x2, x3⟩ := x; obtain ⟨y1, y2, y3⟩ := y
    simp [Prod.mk.injEq]⟩
theorem eqs_t4 {k2 k3 k4 : Nat} {e : α × β × γ × δ → D} (E : EqS k ok enc) (E2 : EqS k2 ok2 enc2) (E3 : EqS k3 ok3 enc3) (E4 : EqS k4 ok4 enc4) (he : ∀ x, e x = .tup [enc x.1, enc2 x.2.1, enc3 x.2.2.1, enc4 x.2.2.2] := by intro x; rfl) : EqS (max k (max k2 (max k3 k4)) + 1) (fun x : α × β × γ × δ => ok x.1 ∧ ok2 x.2.1 ∧ ok3 x.2.2.1 ∧ ok4 x.2.2.2) e := ⟨fun x h => by
    rw [he]
    refine Dp'.tup fun d hd => ?_
    simp only [List.mem_cons, List.not_mem_nil, or_false] at hd
    rcases hd with rfl | rfl | rfl | rfl
    · exact Dp'.mono (E.ex _ h.1) (by omega)
    · exact Dp'.mono (E2.ex _ h.2.1) (by omega)
    · exact Dp'.mono (E3.ex _ h.2.2.1) (by omega)
    · exact Dp'.mono (E4.ex _ h.2.2.2) (by omega), fun x y p q h1 h2 => by
    rw [he] at h1 h2
    obtain ⟨ps, h3, rfl⟩ := tup_py h1
    obtain ⟨qs, h4, rfl⟩ := tup_py h2
    obtain ⟨a1, b1, u1, v1, rfl⟩ := pys_cons h3
    obtain ⟨a2, b2, u2, v2, rfl⟩ := pys_cons v1
    obtain ⟨a3, b3, u3, v3, rfl⟩ := pys_cons v2
    obtain ⟨a4, b4, u4, v4, rfl⟩ := pys_cons v3
    cases v4
    obtain ⟨c1, d1, w1, z1, rfl⟩ := pys_cons h4
    obtain ⟨c2, d2, w2, z2, rfl⟩ := pys_cons z1
    obtain ⟨c3, d3, w3, z3, rfl⟩ := pys_cons z2
    obtain ⟨c4, d4, w4, z4, rfl⟩ := pys_cons z3
    cases z4
    show (PyData.eqv a1 c1 && (PyData.eqv a2 c2 && (PyData.eqv a3 c3 && (PyData.eqv a4 c4 && true)))) = _
    rw [E.eq _ _ _ _ u1 w1, E2.eq _ _ _ _ u2 w2, E3.eq _ _ _ _ u3 w3, E4.eq _ _ _ _ u4 w4]
    obtain ⟨x1, x2, x3, x4⟩ := x; obtain ⟨y1, y2, y3, y4⟩ := y
    simp [Prod.mk.injEq]⟩
theorem eqs_opt (E : EqS k ok enc) (hn : ∀ x p, (enc x).py = some p → PyData.eqv .none p = false ∧ PyData.eqv p .none = false := by intro x p h; cases h; exact ⟨rfl, rfl⟩) : EqS k (fun o : Option α => ∀ x, o = some x → ok x) (optE enc) := ⟨fun o h => by
    cases o with
    | none => exact ⟨_, rfl, rfl, Nat.zero_le _⟩
    | some x => exact E.ex x (h x rfl), fun o o' p q h1 h2 => by
    cases o with
    | none => cases o' with
      | none => cases h1; cases h2; rfl
      | some y => cases h1; rw [(hn y q h2).1]; rfl
    | some x => cases o' with
      | none => cases h2; rw [(hn x p h1).2]; rfl
      | some y =>
        rw [E.eq x y p q h1 h2]
        by_cases h : x = y
        · subst h; simp
        · have : ¬ some x = some y := fun e => h (Option.some.inj e)
          rw [decide_eq_false h, decide_eq_false this]⟩
theorem EqS.imp {ok' : α → Prop} (E : EqS k ok enc) (h : ∀ x, ok' x → ok x) : EqS k ok' enc := ⟨fun x hx => E.ex x (h x hx), E.eq⟩
variable {K : PySem.W.Frag} {l : List Res} {d1 d2 : D} {x y : α} {xs ys : List α}
theorem o_eqE (E : EqS k ok enc) (hx : ok x) (hy : ok y) (hk : k ≤ 64 := by decide) : Op2 K l (rEqD K) (enc x) (enc y) (.bl (decide (x = y))) := by
  obtain ⟨p, h1, h2, h3⟩ := E.ex x hx
  obtain ⟨q, g1, g2, g3⟩ := E.ex y hy
  exact (o_eqD h1 g1 (shaped_of h2 h3 hk) (shaped_of g2 g3 hk)).to (congrArg D.bl (E.eq x y p q h1 g1))
theorem o_neE (E : EqS k ok enc) (hx : ok x) (hy : ok y) (hk : k ≤ 64 := by decide) : Op2 K l (rNeD K) (enc x) (enc y) (.bl (!decide (x = y))) := by
  obtain ⟨p, h1, h2, h3⟩ := E.ex x hx
  obtain ⟨q, g1, g2, g3⟩ := E.ex y hy
  exact (o_neD h1 g1 (shaped_of h2 h3 hk) (shaped_of g2 g3 hk)).to (congrArg (fun b => D.bl (!b)) (E.eq x y p q h1 g1))
/-- .. of lists, owned or not -/
theorem o_eqLE (E : EqS k ok enc) (hd1 : Lv K l d1 (xs.map enc)) (hd2 : Lv K l d2 (ys.map enc)) (hx : ∀ x ∈ xs, ok x) (hy : ∀ x ∈ ys, ok x) (hk : k ≤ 60 := by decide) : Op2 K l (rEqD K) d1 d2 (.bl (decide (xs = ys))) := fun F M H v u Q eF eM dj rs f1 f2 kk => by
  obtain ⟨ps, h1, h2, h3⟩ := E.all hx
  obtain ⟨qs, g1, g2, g3⟩ := E.all hy
  have e := E.eqAll h1 g1
  refine ⟨.list ps, .list qs, hd1.dp eF eM rs f1 h1, hd2.dp eF eM rs f2 g1, shaped_of (k := 61) (by exact h2) (by show _ + 1 ≤ 61; omega) (by decide), shaped_of (k := 61) (by exact g2) (by show _ + 1 ≤ 61; omega) (by decide), ?_⟩
  have e2 : PyData.eqv (.list ps) (.list qs) = decide (xs = ys) := e
  rw [e2]
  exact kk _ F H (.rf eF) (.bl _)
theorem o_neLE (E : EqS k ok enc) (hd1 : Lv K l d1 (xs.map enc)) (hd2 : Lv K l d2 (ys.map enc)) (hx : ∀ x ∈ xs, ok x) (hy : ∀ x ∈ ys, ok x) (hk : k ≤ 60 := by decide) : Op2 K l (rNeD K) d1 d2 (.bl (!decide (xs = ys))) := fun F M H v u Q eF eM dj rs f1 f2 kk => by
  obtain ⟨ps, h1, h2, h3⟩ := E.all hx
  obtain ⟨qs, g1, g2, g3⟩ := E.all hy
  have e := E.eqAll h1 g1
  refine ⟨.list ps, .list qs, hd1.dp eF eM rs f1 h1, hd2.dp eF eM rs f2 g1, shaped_of (k := 61) (by exact h2) (by show _ + 1 ≤ 61; omega) (by decide), shaped_of (k := 61) (by exact g2) (by show _ + 1 ≤ 61; omega) (by decide), ?_⟩
  have e2 : PyData.eqv (.list ps) (.list qs) = decide (xs = ys) := e
  rw [e2]
  exact kk _ F H (.rf eF) (.bl _)
end
end Sx
set_option Elab.async false
set_option linter.all false
set_option maxRecDepth 100000
set_option maxHeartbeats 2000000
/-! More rules for the walker: dropping, borrowing, ways that are never gone. -/
namespace Sx
open PySem L2
section
variable {X : Cx} {W : WX} {g g' : Gm} {l l' : List Res} {e e2 c a b o : Expr} {d d1 d2 : D} {pos p p2 : Pos} {rest A B body sts : List Stmt} {es : List Expr} {β : Type} {Om : β → Po} {m : β} {bb : Bool} {ds ds2 : List D}
theorem bo_dropN (n : Nat) (h : Bo X W sts g (l.drop n) Om m) : Bo X W sts g l Om m := by
  have := Blk.dropO (l' := l.take n) h
  rw [List.take_append_drop] at this
  exact this
/-- a way that is never gone -/
theorem bo_ifD (hc : Ts X c g l bb) (hb : bb = false) (h : Bo X W rest g l Om m) : Bo X W (.If c A [] pos :: rest) g l Om m :=
  blk_if hc (fun e => by rw [hb] at e; cases e) (fun _ => blk_nil h)
theorem bo_ifE (hc : Ts X c g l bb) (hb : bb = false) (h : Bo X W B g l Om m) : Bo X W [.If c A B pos] g l Om m :=
  blk_if hc (fun e => by rw [hb] at e; cases e) (fun _ => h.imp (fun _ _ h => blk_nil h) (fun _ _ h => h) (fun _ _ h => h) (fun _ _ h => h) (fun _ _ _ _ h => h))
theorem bo_ifT (hc : Ts X c g l bb) (hb : bb = true) (h : Bo X W A g l Om m) : Bo X W [.If c A B pos] g l Om m :=
  blk_if hc (fun _ => h.imp (fun _ _ h => blk_nil h) (fun _ _ h => h) (fun _ _ h => h) (fun _ _ h => h) (fun _ _ _ _ h => h)) (fun e => by rw [hb] at e; cases e)
theorem set_same {σ : L2.St} {i : Nat} {x : V} (hv : σ[i]? = some (some x)) : σ.set i (some x) = σ := by
  apply List.ext_getElem?
  intro j
  by_cases z : j = i
  · subst z
    obtain ⟨h1, h2⟩ := List.getElem?_eq_some_iff.mp hv
    rw [List.getElem?_set_self h1, hv]
  · rw [List.getElem?_set_ne (Ne.symm z)]
/-- what is scalar, got with two owned lists taken for frozen -/
theorem px_brw2 {i j k k2 : Nat} {q q2 : Addr} {v0 : V} (hi : nth g i = some (.adr q)) (hj : nth g j = some (.adr q2)) (hij : i ≠ j) (hk : l[k]? = some (ownL X.K q ds)) (hk2 : l[k2]? = some (ownL X.K q2 ds2)) (hd : d.v = some v0)
    (h : Px X e ((g.set i (some (.lst ds))).set j (some (.lst ds2))) [] d) : Px X e g l d := fun en T σ H Q s kk => by
  obtain ⟨F, M, a⟩ := s
  obtain ⟨vs, fvs, hH⟩ := a.rs.own hk a.exM
  obtain ⟨vs2, fvs2, hH2⟩ := a.rs.own hk2 a.exM
  have hF : F q = none := by
    obtain ⟨A, B, hM, _, ⟨vs', _, rfl⟩, _⟩ := Rs.at hk a.rs
    exact a.dj.sym q _ (by rw [hM]; exact join_l one_same)
  have hF2 : F q2 = none := by
    obtain ⟨A, B, hM, _, ⟨vs', _, rfl⟩, _⟩ := Rs.at hk2 a.rs
    exact a.dj.sym q2 _ (by rw [hM]; exact join_l one_same)
  let N : Hp := fun x => if x = q then some (.lst vs) else if x = q2 then some (.lst vs2) else none
  have eF : Ex F (join F N) := fun x o h => join_l h
  have eN : Ex N H := fun x o z => by
    show H x = some o
    have z : (if x = q then some (HO.lst vs) else if x = q2 then some (.lst vs2) else none) = some o := z
    by_cases z1 : x = q
    · rw [if_pos z1] at z; cases z; rw [z1]; exact hH
    · rw [if_neg z1] at z
      by_cases z2 : x = q2
      · rw [if_pos z2] at z; cases z; rw [z2]; exact hH2
      · rw [if_neg z2] at z; cases z
  have e1 : Ex (join F N) H := a.exF.join eN
  have gq : join F N q = some (.lst vs) := by rw [join_r hF]; show (if q = q then _ else _) = _; rw [if_pos rfl]
  have gq2 : join F N q2 = some (.lst vs2) := by
    rw [join_r hF2]
    have : H q2 = some (.lst vs2) := hH2
    show (if q2 = q then some (HO.lst vs) else if q2 = q2 then some (.lst vs2) else none) = _
    by_cases z : q2 = q
    · rw [if_pos z]; rw [z, hH] at this; exact this
    · rw [if_neg z, if_pos rfl]
  have hs : Sl X.K (join F N) ((g.set i (some (.lst ds))).set j (some (.lst ds2))) σ := by
    obtain ⟨v, hv, fv⟩ := a.sl.nth hi
    cases fv
    obtain ⟨v2, hv2, fv2⟩ := a.sl.nth hj
    cases fv2
    have w := ((a.sl.mono eF).set i (d := .lst ds) (v := .ref q) (.lst gq (fvs.mono eF))).set j (d := .lst ds2) (v := .ref q2) (.lst gq2 (fvs2.mono eF))
    rw [set_same hv, set_same hv2] at w
    exact w
  refine h ⟨join F N, emp, H⟩ Tm.tt σ H Q ⟨_, emp, At.entry e1 (fun _ _ z => by cases z) (.emp _) hs trivial rfl⟩ fun v H' s' => ?_
  obtain ⟨F', M', b⟩ := s'
  have hv := D.v_eq b.tm.1 hd
  subst hv
  have n : New F H F H' := New.grow a.exF fun x o z => b.fr x o z rfl
  refine kk _ H' ⟨F, M, (a.new n).tmp ⟨?_, a.tm⟩⟩
  cases d <;> first | (cases hd; constructor) | cases hd
theorem px_isO (n : String) (bv : Bool) {x : Str} {k : Nat} {q : Addr} (z : X.mg "isinstance" = none) (zx : X.mg x = none) (h : Px X e g l (.adr q)) (hk : l[k]? = some (ownL X.K q ds)) (hb : kitB "list" n = some bv := by decide +kernel) (hv : bootBuiltins x = some (.type n) := by decide +kernel)
    (hg : Gl X "isinstance" := by rfl) (hgx : Gl X x := by rfl) (hn : x ≠ "__name__" := by decide) (hd : (x == ("__debug__" : Str)) = false := by decide)
    (hs : starEach [e, .Name x p2] X.env = (false, eval e X.env) :: starEach [.Name x p2] X.env := by rfl) (hs2 : starEach [.Name x p2] X.env = [(false, eval (.Name x p2) X.env)] := by rfl) (hpl : (backTo pos (starEach [.Name x p2] X.env)).any (·.1) = false := by rfl) :
    Px X (.Call (.Name "isinstance" p) [e, .Name x p2] [] pos) g l (.bl bv) := px_bi call_isi z (pa_c h (pa_c (px_tyn zx hv hgx hn hd) pa_n hs2) hs) (o_isiO hk hb) hg (by decide +kernel) (by decide) (by decide) hs hpl
/-- a raising def's own wish is taken -/
theorem takes_cx {P : Program} {w : World} {K : PySem.W.Frag} {mg : Str → Option Value} {base : Heap} {N : List Str} {qual : Str} {scope : Scope} {f : Addr} {cd : Value} {A : Around} {outer : List Env} {s : Shared} {H : Hp} {E : XK} :
    Takes (cxOf (L2.CX P w) P w K mg base N qual scope f cd A outer s H E) (fun cls d _ H => E cls d H) := takes_of rfl rfl rfl rfl
theorem takes_no {X : Cx} : Takes X (fun _ _ _ _ => False) := fun u s' ⟨_, _, _, _, _, _, _, _, _, _, _, _, _, _, _, _, z⟩ => z.elim
end
theorem cut_lenC {α : Type} {xs : List α} {a b : Int} (h0 : 0 ≤ a) (h1 : a ≤ b) : (cut xs (some a) (some b)).length ≤ (b - a).toNat := by
  unfold cut
  rw [List.length_take, List.length_drop]
  have e1 : HT.sIx xs.length 0 (some a) = min a.toNat xs.length := by
    show (if a < 0 then _ else _) = _
    rw [if_neg (by omega)]
  have e2 : HT.sIx xs.length xs.length (some b) = min b.toNat xs.length := by
    show (if b < 0 then _ else _) = _
    rw [if_neg (by omega)]
  rw [e1, e2]
  omega
end Sx
set_option Elab.async false
set_option linter.all false
set_option maxRecDepth 100000
set_option maxHeartbeats 2000000
/-! The head: what the top has written, told by names. -/
namespace Sx
open PySem L2
def isiB (K : PySem.W.Frag) (C : Addr) : Bool := decide (PySem.W.findIn K (.ref C) "__class__" = some (some (.builtin "object.__class__"))) && (decide (PySem.W.specialIn K (.builtin "object.__class__") "__get__" = some (some (.builtin "getset_descriptor.__get__"))) && (decide (PySem.W.takesIn K (.builtin "object.__class__") = some true) && decide (PySem.W.mroIn K C (.type "object") = some true)))
theorem isiB_ok {K : PySem.W.Frag} {C : Addr} (h : isiB K C = true) : Isi K C := by
  obtain ⟨h1, h⟩ := He.ba h
  obtain ⟨h2, h⟩ := He.ba h
  obtain ⟨h3, h4⟩ := He.ba h
  exact ⟨of_decide_eq_true h1, of_decide_eq_true h2, of_decide_eq_true h3, of_decide_eq_true h4⟩
/-- one more fact -/
inductive Fb where
  | isi (x : Str)
  | kit (x y : Str) (b : Bool)
  | mk0 (x : Str)
  | exc (x : Str)
  | xin (x : Str)
  | kitT (x : Str) (t : String) (b : Bool)
  | exm (x y : Str) (b : Bool)
def excB (K : PySem.W.Frag) (C : Addr) : Bool := PySem.W.keepIn K (.ref C) && (decide (PySem.W.subIn K (.ref C) (.type "BaseException") = some true) && (decide (PySem.W.typeIn K (.ref C) = some (.type "type")) && (decide (PySem.W.findIn K (.ref C) "__getattribute__" = some (some (.builtin "BaseException.__getattribute__"))) && (decide (PySem.W.findIn K (.ref C) "__getattr__" = some none) && (PySem.W.hasDictIn K C && isiB K C)))))
def Fb.ok (K : PySem.W.Frag) : Fb → Bool
  | .isi x => isiB K (He.ga K x)
  | .kit x y b => decide (PySem.W.kitOne K (.ref (He.ga K x)) (.ref (He.ga K y)) = some b)
  | .mk0 x => PySem.W.makesIn K (He.ga K x) && decide (PySem.W.findIn K (.ref (He.ga K x)) "__init__" = some (some (.builtin "object.__init__")))
  | .exc x => excB K (He.ga K x)
  | .xin x => PySem.W.excIn K (He.ga K x) vErr "ValueError.__new__"
  | .kitT x t b => decide (PySem.W.kitOne K (.ref (He.ga K x)) (.type t) = some b)
  | .exm x y b => decide (PySem.W.exmOne K (.ref (He.ga K x)) (.ref (He.ga K y)) = some b)
def exB (fb : List Fb) (K : PySem.W.Frag) : Bool := fb.all fun f => f.ok K
section
variable {K : PySem.W.Frag} {h : Heap} {mg : Str → Option Value} {fb : List Fb} {w : World} {fa : List He.Fa} {fn : List He.DefD}
theorem fb_at (c : exB fb K = true) (i : Nat) {f : Fb} (h : fb[i]? = some f := by rfl) : f.ok K = true := List.all_eq_true.mp c f (List.mem_of_getElem? h)
theorem kit_ok {x y : Str} {b : Bool} (h : (Fb.kit x y b).ok K = true) : PySem.W.kitOne K (.ref (He.ga K x)) (.ref (He.ga K y)) = some b := of_decide_eq_true h
theorem mk0_ok {x : Str} (h : (Fb.mk0 x).ok K = true) (k : (He.Fa.keep x).ok K = true) : Mk0 K (He.ga K x) := by
  obtain ⟨h1, h2⟩ := He.ba h
  exact ⟨h1, He.keep_ok k, of_decide_eq_true h2⟩
theorem kitT_ok {x : Str} {t : String} {b : Bool} (h : (Fb.kitT x t b).ok K = true) : PySem.W.kitOne K (.ref (He.ga K x)) (.type t) = some b := of_decide_eq_true h
theorem exm_ok {x y : Str} {b : Bool} (h : (Fb.exm x y b).ok K = true) : PySem.W.exmOne K (.ref (He.ga K x)) (.ref (He.ga K y)) = some b := of_decide_eq_true h
theorem xin_ok {x : Str} (h : (Fb.xin x).ok K = true) : PySem.W.excIn K (He.ga K x) vErr "ValueError.__new__" = true := h
theorem dxc_ok {x : Str} (h : (Fb.exc x).ok K = true) (hm : mg x = some (.ref (He.ga K x))) : Dxc K mg x (He.ga K x) := by
  obtain ⟨h1, h⟩ := He.ba h
  obtain ⟨h2, h⟩ := He.ba h
  obtain ⟨h3, h⟩ := He.ba h
  obtain ⟨h4, h⟩ := He.ba h
  obtain ⟨h5, h⟩ := He.ba h
  obtain ⟨h6, h7⟩ := He.ba h
  have i := isiB_ok h7
  exact ⟨hm, h1, of_decide_eq_true h2, of_decide_eq_true h3, ⟨of_decide_eq_true h4, of_decide_eq_true h5, of_decide_eq_true h2, h6, i.1, i.2, i.3, i.4⟩⟩
theorem fun_of {x qual : Str} {st : Stmt} {f : Addr} {fd : FuncData} (F : FunD K x qual (defArgs st) (defBody st) (defScope st) [] [] f fd) : Fun K x qual st f fd := by
  obtain ⟨oc, od, dV, kV, doc, pm, an, cdv, ct, osl, e, lk, hcd, hD, hK⟩ := F.ex
  rcases hD with ⟨_, rfl⟩ | ⟨z, _⟩
  · exact ⟨⟨oc, od, kV, doc, pm, an, cdv, ct, osl, e, lk, hcd⟩, F.kp⟩
  · exact absurd rfl z
abbrev dD (x : Str) (st : Stmt) : He.DefD := ⟨(x, none), x, x, defArgs st, defBody st, defScope st, [], []⟩
abbrev dM (C m qual : Str) (st : Stmt) : He.DefD := ⟨(C, some m), m, qual, defArgs st, defBody st, defScope st, [], []⟩
theorem dfn_of {x : Str} {st : Stmt} (c : He.SaysD fa fn K) (G : mg x = some (.ref (He.ga K x))) (i : Nat) (e : fn[i]? = some (dD x st) := by rfl) : Dfn K mg x st := by
  obtain ⟨fd, F⟩ := c.def_ i e
  exact ⟨_, fd, fun_of F, G⟩
theorem dmt_of {C m qual : Str} {st : Stmt} (c : He.SaysD fa fn K) (M : Meth K (He.ga K C) m (He.ma K (He.ga K C) m)) (i : Nat) (e : fn[i]? = some (dM C m qual st) := by rfl) : Dmt K (He.ga K C) m qual st := by
  obtain ⟨fd, F⟩ := c.def_ i e
  exact ⟨_, fd, fun_of F, M⟩
theorem din_of {C qual : Str} {st : Stmt} (c : He.SaysD fa fn K) (M : Mk K (He.ga K C) (He.ma K (He.ga K C) "__init__")) (i : Nat) (e : fn[i]? = some (dM C "__init__" qual st) := by rfl) : Din K (He.ga K C) qual st := by
  obtain ⟨fd, F⟩ := c.def_ i e
  exact ⟨_, fd, fun_of F, M⟩
end
end Sx
set_option Elab.async false
set_option linter.all false
set_option maxRecDepth 100000
set_option maxHeartbeats 4000000
namespace Lw
open PySem L2 Sx
/-! ### plain: names, roads, nets -/
theorem szS {n : Nat} (h : n ≤ 10000) : n ≤ sizeLine := Nat.le_trans h (by decide)
abbrev small : Str := "abcdefghijklmnopqrstuvwxyz"
theorem small_tl : TL.tl small = (List.range 26).map fun i => 97 + i := by decide +kernel
theorem small_in {c : Nat} : c ∈ TL.tl small ↔ 97 ≤ c ∧ c ≤ 122 := by
  rw [small_tl, List.mem_map]
  constructor
  · rintro ⟨i, hi, rfl⟩
    have := List.mem_range.mp hi
    omega
  · intro h
    exact ⟨c - 97, List.mem_range.mpr (by omega), by omega⟩
structure OkN (x : Str) : Prop where
  lo : 1 ≤ x.length
  hi : x.length ≤ 8
  sg : ∀ c ∈ TL.tl x, 97 ≤ c ∧ c ≤ 122
def nameB (x : Str) : Bool := decide (1 ≤ (x.length : Int)) && decide ((x.length : Int) ≤ 8) && ((TL.tl x).map fun c => decide (c ∈ TL.tl small)).all id
theorem nameB_iff {x : Str} : nameB x = true ↔ OkN x := by
  unfold nameB
  rw [Bool.and_eq_true, Bool.and_eq_true, decide_eq_true_iff, decide_eq_true_iff, List.all_map, List.all_eq_true]
  constructor
  · rintro ⟨⟨h1, h2⟩, h3⟩
    exact ⟨by omega, by omega, fun c hc => small_in.mp (of_decide_eq_true (h3 c hc))⟩
  · intro h
    exact ⟨⟨by have := h.lo; omega, by have := h.hi; omega⟩, fun c hc => decide_eq_true (small_in.mpr (h.sg c hc))⟩
theorem OkN.str {x : Str} (h : OkN x) : PySem.PyData.strOk x = true := by
  show x.cps.all (fun c => decide (c < 0x110000)) = true
  rw [← Array.all_toList]
  refine List.all_eq_true.mpr fun c hc => decide_eq_true ?_
  have := h.sg c hc
  omega
structure OkH (hs : List Str) : Prop where
  ok : ∀ h ∈ hs, OkN h
  nd : hs.Nodup
  le : hs.length ≤ 12
abbrev Road := Str × Str × Int × Int
structure OkR (hs : List Str) (r : Road) : Prop where
  b : r.1 ∈ hs
  e : r.2.1 ∈ hs
  ne : r.1 ≠ r.2.1
  t : 1 ≤ r.2.2.1 ∧ r.2.2.1 ≤ 9
  w : 1 ≤ r.2.2.2 ∧ r.2.2.2 ≤ 1000000000
structure OkG (n : List Str × List Road) : Prop where
  h : OkH n.1
  r : ∀ r ∈ n.2, OkR n.1 r
  le : n.2.length ≤ 40
def roadD (r : Road) : D := .tup [.str r.1, .str r.2.1, .int r.2.2.1, .int r.2.2.2]
abbrev housesD (hs : List Str) : List D := hs.map .str
abbrev roadsD (rs : List Road) : List D := rs.map roadD
theorem mem_take_nodup {hs : List Str} {i : Nat} {x : Str} (nd : hs.Nodup) (h : hs[i]? = some x) : x ∉ hs.take i := by
  intro hm
  obtain ⟨j, hj⟩ := List.getElem?_of_mem hm
  rw [List.getElem?_take] at hj
  split at hj
  · rename_i hlt
    have h1 := List.getElem?_eq_some_iff.mp h
    have h2 := List.getElem?_eq_some_iff.mp hj
    obtain ⟨l1, e1⟩ := h1
    obtain ⟨l2, e2⟩ := h2
    have := (List.nodup_iff_pairwise_ne.mp nd)
    have p := List.pairwise_iff_getElem.mp this j i l2 l1 hlt
    exact p (e2.trans e1.symm)
  · cases hj
theorem tl_cutS (z : Str) (lo hi : Option Int) : TL.tl (cutS z lo hi) = cut (TL.tl z) lo hi := by
  unfold cutS cut
  show List.take _ (List.drop _ (TL.tl z)) = _
  rw [TL.len_tl]
end Lw
set_option Elab.async false
set_option linter.all false
set_option maxRecDepth 100000
set_option maxHeartbeats 4000000
namespace Lw
open PySem L2 Sx
def top (i : Nat) : Stmt := PySem.Challenge.pw_postroad_k03_out_and_in.main.body.getD i (.Pass ⟨0, 0, 0, 0⟩)
abbrev s_is_whole : Stmt := top 19
abbrev s_is_name : Stmt := top 20
abbrev s_are_houses : Stmt := top 21
abbrev s_is_road : Stmt := top 22
abbrev s_fars : Stmt := top 24
abbrev s_law_at : Stmt := top 26
abbrev s_law_word : Stmt := top 27
abbrev s_law_houses : Stmt := top 28
abbrev s_law_roads : Stmt := top 29
abbrev s_law_whole : Stmt := top 30
abbrev s_law_kept : Stmt := top 31
abbrev s_law_refused : Stmt := top 32
abbrev s_law_told : Stmt := top 33
abbrev s_law : Stmt := top 34
abbrev s_NoLetter_init : Stmt := inClass (top 5) 0
abbrev s_BadBag_init : Stmt := inClass (top 6) 0
abbrev s_NoWay_init : Stmt := inClass (top 7) 0
abbrev s_CutOff_init : Stmt := inClass (top 9) 0
abbrev s_Net_init : Stmt := inClass (top 23) 0
abbrev s_Net_houses : Stmt := inClass (top 23) 1
abbrev s_Net_roads : Stmt := inClass (top 23) 2
abbrev s_Net_road : Stmt := inClass (top 23) 3
abbrev s_Net_known : Stmt := inClass (top 23) 4
abbrev s_Net_out_of : Stmt := inClass (top 23) 5
abbrev s_Net_into : Stmt := inClass (top 23) 6
abbrev s_Net_far : Stmt := inClass (top 23) 7
abbrev ns_is_whole : List Str := ["thing", "least", "greatest"]
theorem cs_is_whole : FnScope ns_is_whole ["thing", "least", "greatest"] (defScope s_is_whole) := ⟨rfl, rfl, rfl, by decide +kernel, rfl, by decide +kernel, by decide +kernel⟩
abbrev ns_is_name : List Str := ["thing", "sign"]
theorem cs_is_name : FnScope ns_is_name ["thing"] (defScope s_is_name) := ⟨rfl, rfl, rfl, by decide +kernel, rfl, by decide +kernel, by decide +kernel⟩
abbrev ns_are_houses : List Str := ["thing", "at", "name"]
theorem cs_are_houses : FnScope ns_are_houses ["thing"] (defScope s_are_houses) := ⟨rfl, rfl, rfl, by decide +kernel, rfl, by decide +kernel, by decide +kernel⟩
abbrev ns_is_road : List Str := ["thing", "names", "end"]
theorem cs_is_road : FnScope ns_is_road ["thing", "names"] (defScope s_is_road) := ⟨rfl, rfl, rfl, by decide +kernel, rfl, by decide +kernel, by decide +kernel⟩
abbrev ns_fars : List Str := ["net", "goal", "told", "changed", "one", "there"]
theorem cs_fars : FnScope ns_fars ["net", "goal"] (defScope s_fars) := ⟨rfl, rfl, rfl, by decide +kernel, rfl, by decide +kernel, by decide +kernel⟩
abbrev ns_law_at : List Str := ["_law_script", "_law_k"]
theorem cs_law_at : FnScope ns_law_at ["_law_script", "_law_k"] (defScope s_law_at) := ⟨rfl, rfl, rfl, by decide +kernel, rfl, by decide +kernel, by decide +kernel⟩
abbrev ns_law_word : List Str := ["_law_cell", "_law_n", "_law_size", "_law_word_here", "_law_k"]
theorem cs_law_word : FnScope ns_law_word ["_law_cell"] (defScope s_law_word) := ⟨rfl, rfl, rfl, by decide +kernel, rfl, by decide +kernel, by decide +kernel⟩
abbrev ns_law_houses : List Str := ["_law_cell", "_law_many", "_law_word_here", "_law_at_here", "_law_letter"]
theorem cs_law_houses : FnScope ns_law_houses ["_law_cell", "_law_many"] (defScope s_law_houses) := ⟨rfl, rfl, rfl, by decide +kernel, rfl, by decide +kernel, by decide +kernel⟩
abbrev ns_law_roads : List Str := ["_law_cells", "_law_houses_here", "_law_long", "_law_roads_here", "_law_cell", "_law_n", "_law_begin", "_law_end", "_law_room"]
theorem cs_law_roads : FnScope ns_law_roads ["_law_cells", "_law_houses_here", "_law_long"] (defScope s_law_roads) := ⟨rfl, rfl, rfl, by decide +kernel, rfl, by decide +kernel, by decide +kernel⟩
abbrev ns_law_whole : List Str := ["_law_found", "_law_one"]
theorem cs_law_whole : FnScope ns_law_whole ["_law_found"] (defScope s_law_whole) := ⟨rfl, rfl, rfl, by decide +kernel, rfl, by decide +kernel, by decide +kernel⟩
abbrev ns_law_kept : List Str := ["_law_net", "_law_house", "_law_goal", "_law_way", "_law_kept_here", "e"]
theorem cs_law_kept : FnScope ns_law_kept ["_law_net", "_law_house", "_law_goal", "_law_way"] (defScope s_law_kept) := ⟨rfl, rfl, rfl, by decide +kernel, rfl, by decide +kernel, by decide +kernel⟩
abbrev ns_law_refused : List Str := ["_law_net", "_law_house", "_law_goal", "_law_way", "_law_kept_here"]
theorem cs_law_refused : FnScope ns_law_refused ["_law_net", "_law_house", "_law_goal"] (defScope s_law_refused) := ⟨rfl, rfl, rfl, by decide +kernel, rfl, by decide +kernel, by decide +kernel⟩
abbrev ns_law_told : List Str := ["_law_net", "_law_house", "_law_roads_here", "_law_due", "_law_other", "_law_again", "_law_found", "_law_back", "_law_k"]
theorem cs_law_told : FnScope ns_law_told ["_law_net", "_law_house", "_law_roads_here"] (defScope s_law_told) := ⟨rfl, rfl, rfl, by decide +kernel, rfl, by decide +kernel, by decide +kernel⟩
abbrev ns_law : List Str := ["_law_script", "_law_houses_here", "_law_roads_here", "_law_net", "_law_house"]
theorem cs_law : FnScope ns_law ["_law_script"] (defScope s_law) := ⟨rfl, rfl, rfl, by decide +kernel, rfl, by decide +kernel, by decide +kernel⟩
abbrev ns_NoLetter_init : List Str := ["self", "number"]
theorem cs_NoLetter_init : FnScope ns_NoLetter_init ["self", "number"] (defScope s_NoLetter_init) := ⟨rfl, rfl, rfl, by decide +kernel, rfl, by decide +kernel, by decide +kernel⟩
abbrev ns_BadBag_init : List Str := ["self", "place", "reason"]
theorem cs_BadBag_init : FnScope ns_BadBag_init ["self", "place", "reason"] (defScope s_BadBag_init) := ⟨rfl, rfl, rfl, by decide +kernel, rfl, by decide +kernel, by decide +kernel⟩
abbrev ns_NoWay_init : List Str := ["self", "reason", "seen"]
theorem cs_NoWay_init : FnScope ns_NoWay_init ["self", "reason", "seen"] (defScope s_NoWay_init) := ⟨rfl, rfl, rfl, by decide +kernel, rfl, by decide +kernel, by decide +kernel⟩
abbrev ns_CutOff_init : List Str := ["self", "number", "seen"]
theorem cs_CutOff_init : FnScope ns_CutOff_init ["self", "number", "seen"] (defScope s_CutOff_init) := ⟨rfl, rfl, rfl, by decide +kernel, rfl, by decide +kernel, by decide +kernel⟩
abbrev ns_Net_init : List Str := ["self", "houses", "roads", "one"]
theorem cs_Net_init : FnScope ns_Net_init ["self", "houses", "roads"] (defScope s_Net_init) := ⟨rfl, rfl, rfl, by decide +kernel, rfl, by decide +kernel, by decide +kernel⟩
abbrev ns_Net_houses : List Str := ["self"]
theorem cs_Net_houses : FnScope ns_Net_houses ["self"] (defScope s_Net_houses) := ⟨rfl, rfl, rfl, by decide +kernel, rfl, by decide +kernel, by decide +kernel⟩
abbrev ns_Net_roads : List Str := ["self"]
theorem cs_Net_roads : FnScope ns_Net_roads ["self"] (defScope s_Net_roads) := ⟨rfl, rfl, rfl, by decide +kernel, rfl, by decide +kernel, by decide +kernel⟩
abbrev ns_Net_road : List Str := ["self", "number"]
theorem cs_Net_road : FnScope ns_Net_road ["self", "number"] (defScope s_Net_road) := ⟨rfl, rfl, rfl, by decide +kernel, rfl, by decide +kernel, by decide +kernel⟩
abbrev ns_Net_known : List Str := ["self", "house"]
theorem cs_Net_known : FnScope ns_Net_known ["self", "house"] (defScope s_Net_known) := ⟨rfl, rfl, rfl, by decide +kernel, rfl, by decide +kernel, by decide +kernel⟩
abbrev ns_Net_out_of : List Str := ["self", "house", "number", "one"]
theorem cs_Net_out_of : FnScope ns_Net_out_of ["self", "house"] (defScope s_Net_out_of) := ⟨rfl, rfl, rfl, by decide +kernel, rfl, by decide +kernel, by decide +kernel⟩
abbrev ns_Net_into : List Str := ["self", "house", "number", "one"]
theorem cs_Net_into : FnScope ns_Net_into ["self", "house"] (defScope s_Net_into) := ⟨rfl, rfl, rfl, by decide +kernel, rfl, by decide +kernel, by decide +kernel⟩
abbrev ns_Net_far : List Str := ["self", "house", "goal"]
theorem cs_Net_far : FnScope ns_Net_far ["self", "house", "goal"] (defScope s_Net_far) := ⟨rfl, rfl, rfl, by decide +kernel, rfl, by decide +kernel, by decide +kernel⟩
structure Cs where
  (RoadError NoNet NoHouse NoRoad NoLetter BadBag NoWay ManyGoals CutOff NoText NoRow NoDay Net : Addr)
structure Top (K : PySem.W.Frag) (mg : Str → Option Value) (c : Cs) : Prop where
  z_ValueError : mg "ValueError" = none
  z_all : mg "all" = none
  z_enumerate : mg "enumerate" = none
  z_range : mg "range" = none
  z_isinstance : mg "isinstance" = none
  z_int : mg "int" = none
  z_list : mg "list" = none
  z_len : mg "len" = none
  z_bool : mg "bool" = none
  z_str : mg "str" = none
  z_tuple : mg "tuple" = none
  d_is_whole : Dfn K mg "is_whole" s_is_whole
  d_is_name : Dfn K mg "is_name" s_is_name
  d_are_houses : Dfn K mg "are_houses" s_are_houses
  d_is_road : Dfn K mg "is_road" s_is_road
  d_fars : Dfn K mg "fars" s_fars
  d_law_at : Dfn K mg "_law_at" s_law_at
  d_law_word : Dfn K mg "_law_word" s_law_word
  d_law_houses : Dfn K mg "_law_houses" s_law_houses
  d_law_roads : Dfn K mg "_law_roads" s_law_roads
  d_law_whole : Dfn K mg "_law_whole" s_law_whole
  d_law_kept : Dfn K mg "_law_kept" s_law_kept
  d_law_refused : Dfn K mg "_law_refused" s_law_refused
  d_law_told : Dfn K mg "_law_told" s_law_told
  d_law : Dfn K mg "law" s_law
  k_SMALL : ∃ t, mg "SMALL" = some (.str "abcdefghijklmnopqrstuvwxyz" t)
  k_MOST_HOUSES : ∃ t, mg "MOST_HOUSES" = some (.int 12 t)
  k_MOST_ROADS : ∃ t, mg "MOST_ROADS" = some (.int 40 t)
  k_LONGEST : ∃ t, mg "LONGEST" = some (.int 9 t)
  k_WIDEST : ∃ t, mg "WIDEST" = some (.int 1000000000 t)
  c_Net : Dcl K mg "Net" c.Net
  i_Net : Isi K c.Net
  d_Net_init : Din K c.Net "Net.__init__" s_Net_init
  d_Net_houses : Dmt K c.Net "houses" "Net.houses" s_Net_houses
  d_Net_roads : Dmt K c.Net "roads" "Net.roads" s_Net_roads
  d_Net_road : Dmt K c.Net "road" "Net.road" s_Net_road
  d_Net_known : Dmt K c.Net "known" "Net.known" s_Net_known
  d_Net_out_of : Dmt K c.Net "out_of" "Net.out_of" s_Net_out_of
  d_Net_into : Dmt K c.Net "into" "Net.into" s_Net_into
  d_Net_far : Dmt K c.Net "far" "Net.far" s_Net_far
  n_Net_names : NoAttr K c.Net "names"
  n_Net_lines : NoAttr K c.Net "lines"
  x_RoadError : Dxc K mg "RoadError" c.RoadError
  xi_RoadError : PySem.W.excIn K c.RoadError vErr "ValueError.__new__" = true
  x_NoNet : Dxc K mg "NoNet" c.NoNet
  xi_NoNet : PySem.W.excIn K c.NoNet vErr "ValueError.__new__" = true
  x_NoHouse : Dxc K mg "NoHouse" c.NoHouse
  xi_NoHouse : PySem.W.excIn K c.NoHouse vErr "ValueError.__new__" = true
  x_NoRoad : Dxc K mg "NoRoad" c.NoRoad
  xi_NoRoad : PySem.W.excIn K c.NoRoad vErr "ValueError.__new__" = true
  x_NoLetter : Dxc K mg "NoLetter" c.NoLetter
  x_BadBag : Dxc K mg "BadBag" c.BadBag
  x_NoWay : Dxc K mg "NoWay" c.NoWay
  x_ManyGoals : Dxc K mg "ManyGoals" c.ManyGoals
  xi_ManyGoals : PySem.W.excIn K c.ManyGoals vErr "ValueError.__new__" = true
  x_CutOff : Dxc K mg "CutOff" c.CutOff
  x_NoText : Dxc K mg "NoText" c.NoText
  xi_NoText : PySem.W.excIn K c.NoText vErr "ValueError.__new__" = true
  x_NoRow : Dxc K mg "NoRow" c.NoRow
  xi_NoRow : PySem.W.excIn K c.NoRow vErr "ValueError.__new__" = true
  x_NoDay : Dxc K mg "NoDay" c.NoDay
  xi_NoDay : PySem.W.excIn K c.NoDay vErr "ValueError.__new__" = true
  xm_NoNet_RoadError : PySem.W.exmOne K (.ref c.NoNet) (.ref c.RoadError) = some true
  xk_NoNet_NoNet : PySem.W.kitOne K (.ref c.NoNet) (.ref c.NoNet) = some true
  xk_NoNet_NoHouse : PySem.W.kitOne K (.ref c.NoNet) (.ref c.NoHouse) = some false
  xk_NoNet_NoRoad : PySem.W.kitOne K (.ref c.NoNet) (.ref c.NoRoad) = some false
  xk_NoNet_NoLetter : PySem.W.kitOne K (.ref c.NoNet) (.ref c.NoLetter) = some false
  xk_NoNet_BadBag : PySem.W.kitOne K (.ref c.NoNet) (.ref c.BadBag) = some false
  xk_NoNet_NoWay : PySem.W.kitOne K (.ref c.NoNet) (.ref c.NoWay) = some false
  xk_NoNet_ManyGoals : PySem.W.kitOne K (.ref c.NoNet) (.ref c.ManyGoals) = some false
  xk_NoNet_CutOff : PySem.W.kitOne K (.ref c.NoNet) (.ref c.CutOff) = some false
  xk_NoNet_NoText : PySem.W.kitOne K (.ref c.NoNet) (.ref c.NoText) = some false
  xk_NoNet_NoRow : PySem.W.kitOne K (.ref c.NoNet) (.ref c.NoRow) = some false
  xk_NoNet_NoDay : PySem.W.kitOne K (.ref c.NoNet) (.ref c.NoDay) = some false
  xv_NoNet : PySem.W.kitOne K (.ref c.NoNet) (.type "ValueError") = some true
  xm_NoHouse_RoadError : PySem.W.exmOne K (.ref c.NoHouse) (.ref c.RoadError) = some true
  xk_NoHouse_NoNet : PySem.W.kitOne K (.ref c.NoHouse) (.ref c.NoNet) = some false
  xk_NoHouse_NoHouse : PySem.W.kitOne K (.ref c.NoHouse) (.ref c.NoHouse) = some true
  xk_NoHouse_NoRoad : PySem.W.kitOne K (.ref c.NoHouse) (.ref c.NoRoad) = some false
  xk_NoHouse_NoLetter : PySem.W.kitOne K (.ref c.NoHouse) (.ref c.NoLetter) = some false
  xk_NoHouse_BadBag : PySem.W.kitOne K (.ref c.NoHouse) (.ref c.BadBag) = some false
  xk_NoHouse_NoWay : PySem.W.kitOne K (.ref c.NoHouse) (.ref c.NoWay) = some false
  xk_NoHouse_ManyGoals : PySem.W.kitOne K (.ref c.NoHouse) (.ref c.ManyGoals) = some false
  xk_NoHouse_CutOff : PySem.W.kitOne K (.ref c.NoHouse) (.ref c.CutOff) = some false
  xk_NoHouse_NoText : PySem.W.kitOne K (.ref c.NoHouse) (.ref c.NoText) = some false
  xk_NoHouse_NoRow : PySem.W.kitOne K (.ref c.NoHouse) (.ref c.NoRow) = some false
  xk_NoHouse_NoDay : PySem.W.kitOne K (.ref c.NoHouse) (.ref c.NoDay) = some false
  xv_NoHouse : PySem.W.kitOne K (.ref c.NoHouse) (.type "ValueError") = some true
  xm_NoRoad_RoadError : PySem.W.exmOne K (.ref c.NoRoad) (.ref c.RoadError) = some true
  xk_NoRoad_NoNet : PySem.W.kitOne K (.ref c.NoRoad) (.ref c.NoNet) = some false
  xk_NoRoad_NoHouse : PySem.W.kitOne K (.ref c.NoRoad) (.ref c.NoHouse) = some false
  xk_NoRoad_NoRoad : PySem.W.kitOne K (.ref c.NoRoad) (.ref c.NoRoad) = some true
  xk_NoRoad_NoLetter : PySem.W.kitOne K (.ref c.NoRoad) (.ref c.NoLetter) = some false
  xk_NoRoad_BadBag : PySem.W.kitOne K (.ref c.NoRoad) (.ref c.BadBag) = some false
  xk_NoRoad_NoWay : PySem.W.kitOne K (.ref c.NoRoad) (.ref c.NoWay) = some false
  xk_NoRoad_ManyGoals : PySem.W.kitOne K (.ref c.NoRoad) (.ref c.ManyGoals) = some false
  xk_NoRoad_CutOff : PySem.W.kitOne K (.ref c.NoRoad) (.ref c.CutOff) = some false
  xk_NoRoad_NoText : PySem.W.kitOne K (.ref c.NoRoad) (.ref c.NoText) = some false
  xk_NoRoad_NoRow : PySem.W.kitOne K (.ref c.NoRoad) (.ref c.NoRow) = some false
  xk_NoRoad_NoDay : PySem.W.kitOne K (.ref c.NoRoad) (.ref c.NoDay) = some false
  xv_NoRoad : PySem.W.kitOne K (.ref c.NoRoad) (.type "ValueError") = some true
/-! ### the walk: names, roads, nets -/
section
variable {P : Program} {w : World} {K : PySem.W.Frag} {mg : Str → Option Value} {base : Heap} {c : Cs}
abbrev netD (c : Cs) (n : List Str × List Road) : D := .ins c.Net [("names", .lst (housesD n.1)), ("lines", .lst (roadsD n.2))]
theorem g_is_whole (T : Top K mg c) : Glo P w K mg base 1 "is_whole" ["thing", "least", "greatest"] (Pu K (fun _ : Int × Int × Int => True) (fun a => [.int a.1, .int a.2.1, .int a.2.2]) (fun a => .bl (decide (a.2.1 ≤ a.1) && decide (a.1 ≤ a.2.2)))) :=
  glo_of T.d_is_whole (fun _ _ _ _ _ _ us hl => match us, hl with | [_, _, _], _ => rfl) fun f fd F => fn_ok F cs_is_whole (fun _ => rfl) fun cdv A outer s H E a hr hok => by
    obtain ⟨t, lo, hi⟩ := a
    exact blk_ret (px_and (k := true) (px_isT "int" "int" true T.z_isinstance T.z_int (px_var (pv 0) rfl)) fun _ => px_and (k := true) (px_not (px_isT "bool" "int" false T.z_isinstance T.z_bool (px_var (pv 0) rfl))) fun _ => px_one (px_chain op_le op_le (px_var (pv 1) rfl) (px_var (pv 0) rfl) o_le (px_var (pv 2) rfl) (fun _ => o_le))) ⟨rfl, rfl⟩
theorem g_is_name (T : Top K mg c) : Glo P w K mg base 1 "is_name" ["thing"] (Pu K (fun x : Str => x.length ≤ 10000) (fun x => [.str x]) (fun x => .bl (nameB x))) :=
  glo_of T.d_is_name (fun _ _ _ _ _ _ us hl => match us, hl with | [_], _ => rfl) fun f fd F => fn_ok F cs_is_name (fun _ => rfl) fun cdv A outer s H E a hr hok => by
    have nd := cs_is_name.nd
    have hl : a.length ≤ 10000 := hok
    refine blk_if (ts_w (tw_or (k := false) (ts_not (ts_val (k := true) (px_isT "str" "str" true T.z_isinstance T.z_str (px_var (pv 0) rfl)))) fun _ => tw_or1 (ts_not (ts_chain op_le op_le px_int (px_bi call_len_str T.z_len (pa_c (px_var (pv 0) rfl) pa_n) (o_lenS (szS hl))) o_le px_int (fun _ => o_le))))) (fun h => ?_) (fun h => ?_)
    · refine blk_ret px_bl ⟨?_, rfl⟩
      have h : (!(decide (1 ≤ (a.length : Int)) && decide ((a.length : Int) ≤ 8))) = true := h
      show D.bl false = D.bl (nameB a)
      unfold nameB
      rw [Bool.not_eq_true'] at h
      rw [h]
      rfl
    · have h : (!(decide (1 ≤ (a.length : Int)) && decide ((a.length : Int) ≤ 8))) = false := h
      refine blk_nil (blk_ret (px_bi (cr_all rfl) T.z_all (pa_c (px_lc (own := [("sign", 1)]) (is := [1]) (rs := ((TL.tl a).map fun c => decide (c ∈ TL.tl small)).map .bl) rfl nd (it_str (px_var (pv 0) rfl)) (blkOk_by (N := ns_is_name) (sc := defScope s_is_name) (by decide +kernel)) (fun _ _ _ _ _ => pg_name (i := 1) nd rfl (.inl rfl)) (by decide) ?c1 ?c2 ?c3) pa_n) (o_all .f)) ⟨?c4, rfl⟩)
      case c1 => unfold signs; simp
      case c2 => rw [List.length_map, List.length_map, ← TL.len_tl]; exact szS hl
      case c3 =>
        intro i d hd
        unfold signs at hd
        rw [List.getElem?_map] at hd
        cases e : (TL.tl a)[i]? with
        | none => rw [e] at hd; cases hd
        | some ch =>
          rw [e] at hd
          cases hd
          refine ⟨_, .bl (decide (ch ∈ TL.tl small)), tg_name, by rw [List.getElem?_map, List.getElem?_map, e]; rfl, fun _ _ _ _ _ => ?_⟩
          exact px_cmp op_in_sign (px_var (pv 1) rfl) (px_gs T.k_SMALL) o_inX
      case c4 =>
        show _ = D.bl (nameB a)
        unfold nameB
        rw [Bool.not_eq_false'] at h
        rw [h]
        rfl
theorem g_are_houses (T : Top K mg c) : Glo P w K mg base 2 "are_houses" ["thing"] (Pu K (fun hs : List Str => OkH hs) (fun hs => [.lst (housesD hs)]) (fun _ => .bl true)) :=
  glo_of T.d_are_houses (fun _ _ _ _ _ _ us hl => match us, hl with | [_], _ => rfl) fun f fd F => fn_ok F cs_are_houses (fun _ => rfl) fun cdv A outer s H E hs hr hok => by
    have nd := cs_are_houses.nd
    have ok : OkH hs := hok
    refine blk_if (k := false) ((ts_w (tw_or (k := false) (ts_not (ts_val (k := true) (px_isT "list" "list" true T.z_isinstance T.z_list (px_var (pv 0) rfl)))) fun _ => tw_or1 (ts_cmp op_gt (px_bi call_len_seq T.z_len (pa_c (px_var (pv 0) rfl) pa_n) o_lenL) (px_gi T.k_MOST_HOUSES) o_gt))).to ?_) (fun h => by cases h) (fun _ => blk_nil ?_)
    · rw [List.length_map]
      have := ok.le
      exact decide_eq_false (by omega)
    refine blk_for (is := [1, 2]) (fun i g l => (∃ o o2, g = [some (.lst (housesD hs)), o, o2]) ∧ l = []) PassesOwn.never rfl (it_enum (px_var (pv 0) rfl) T.z_enumerate) (pg_tup rfl (pgs_cons (pg_name (i := 1) nd rfl (.inl rfl)) (pgs_cons (pg_name (i := 2) nd rfl (.inl rfl)) pgs_nil))) ⟨⟨none, none, rfl⟩, rfl⟩ (fun i d g l hd hI => ?_) (fun g l hI => ?_)
    · obtain ⟨⟨o, o2, rfl⟩, rfl⟩ := hI
      obtain ⟨d', hd', rfl⟩ := enumD_get hd
      obtain ⟨x, hx, rfl⟩ : ∃ x, hs[i]? = some x ∧ d' = .str x := by
        rw [List.getElem?_map] at hd'
        cases e : hs[i]? with
        | none => rw [e] at hd'; cases hd'
        | some x => rw [e] at hd'; cases hd'; exact ⟨x, rfl, rfl⟩
      have okx := ok.ok x (List.mem_of_getElem? hx)
      refine ⟨_, tg_tup rfl rfl, ?_⟩
      refine blk_if (k := false) ((ts_w (tw_or (k := false) ((ts_not (ts_val (px_call (g_is_name T) hr (by decide) x (Nat.le_trans okx.hi (by decide)) (pa_c (px_var (pv 2) rfl) pa_n)))).to (by rw [nameB_iff.mpr okx]; rfl)) fun _ => tw_or1 (ts_cmp op_in_seq (px_var (pv 2) rfl) ((px_slL (px_var (pv 0) rfl) .f pz_n (pz_s (px_var (pv 1) rfl))).to (d1 := .lst ((hs.take i).map .str)) ?_) (o_inS (.inl rfl))))).to ?_) (fun h => by cases h) (fun _ => blk_nil (blk_nil ⟨⟨_, _, rfl⟩, rfl⟩))
      · rw [cut_take (by omega), List.map_take]
        rfl
      · exact decide_eq_false (mem_take_nodup ok.nd hx)
    · obtain ⟨⟨o, o2, rfl⟩, rfl⟩ := hI
      exact blk_ret px_bl ⟨rfl, rfl⟩
theorem g_is_road (T : Top K mg c) : Glo P w K mg base 2 "is_road" ["thing", "names"] (Pu K (fun a : Road × List Str => OkH a.2 ∧ OkR a.2 a.1) (fun a => [roadD a.1, .lst (housesD a.2)]) (fun _ => .bl true)) :=
  glo_of T.d_is_road (fun _ _ _ _ _ _ us hl => match us, hl with | [_, _], _ => rfl) fun f fd F => fn_ok F cs_is_road (fun _ => rfl) fun cdv A outer s H E a hr hok => by
    have nd := cs_is_road.nd
    obtain ⟨⟨b, e, t, m⟩, hs⟩ := a
    obtain ⟨oh, orr⟩ : OkH hs ∧ OkR hs (b, e, t, m) := hok
    refine blk_if (k := false) (ts_w (tw_or (k := false) (ts_not (ts_val (k := true) (px_isT "tuple" "tuple" true T.z_isinstance T.z_tuple (px_var (pv 0) rfl)))) fun _ => tw_or1 (ts_cmp op_ne (px_bi call_len_seq T.z_len (pa_c (px_var (pv 0) rfl) pa_n) o_lenT) px_int o_neI))) (fun h => by cases h) (fun _ => blk_nil ?_)
    refine blk_for (is := [2]) (ds := [.str b, .str e]) (fun i g l => (∃ o, g = [some (roadD (b, e, t, m)), some (.lst (housesD hs)), o]) ∧ l = []) PassesOwn.never rfl (it_tup (px_slT (ds := [.str b, .str e, .int t, .int m]) (i := none) (j := some 2) (px_var (pv 0) rfl) pz_n (pz_s px_int))) (pg_name (i := 2) nd rfl (.inl rfl)) ⟨⟨none, rfl⟩, rfl⟩ (fun i d g l hd hI => ?_) (fun g l hI => ?_)
    · obtain ⟨⟨o, rfl⟩, rfl⟩ := hI
      obtain ⟨x, hx, rfl⟩ : ∃ x, x ∈ hs ∧ d = .str x := by
        have hm := List.mem_of_getElem? hd
        simp only [List.mem_cons, List.not_mem_nil, or_false] at hm
        rcases hm with rfl | rfl
        · exact ⟨_, orr.b, rfl⟩
        · exact ⟨_, orr.e, rfl⟩
      have okx := oh.ok x hx
      refine ⟨_, tg_name, ?_⟩
      refine blk_if (k := false) ((ts_w (tw_or (k := false) ((ts_not (ts_val (px_call (g_is_name T) hr (by decide) x (Nat.le_trans okx.hi (by decide)) (pa_c (px_var (pv 2) rfl) pa_n)))).to (by rw [nameB_iff.mpr okx]; rfl)) fun _ => tw_or1 (ts_cmp op_notIn_seq (px_var (pv 2) rfl) (px_var (pv 1) rfl) (o_ninS (xs := hs) (.inl rfl))))).to ?_) (fun h => by cases h) (fun _ => blk_nil (blk_nil ⟨⟨_, rfl⟩, rfl⟩))
      rw [decide_eq_true hx]
      rfl
    · obtain ⟨⟨o, rfl⟩, rfl⟩ := hI
      refine blk_ret (px_and (k := true) (k' := true) ((px_cmp op_ne (px_ix ix_tup (px_var (pv 0) rfl) px_int (o_ixT (d := .str b) rfl)) (px_ix ix_tup (px_var (pv 0) rfl) px_int (o_ixT (d := .str e) rfl)) o_neS).to ?_) fun _ => px_and (k := true) (k' := true) (Px.to (px_call (g_is_whole T) hr (by decide) (t, 1, 9) trivial (pa_c (px_ix ix_tup (px_var (pv 0) rfl) px_int (o_ixT (d := .int t) rfl)) (pa_c px_int (pa_c (px_gi T.k_LONGEST) pa_n)))) ?_) fun _ => px_one (Px.to (px_call (g_is_whole T) hr (by decide) (m, 1, 1000000000) trivial (pa_c (px_ix ix_tup (px_var (pv 0) rfl) px_int (o_ixT (d := .int m) rfl)) (pa_c px_int (pa_c (px_gi T.k_WIDEST) pa_n)))) ?_)) ⟨rfl, rfl⟩
      · have : ¬ b = e := orr.ne
        rw [decide_eq_false this]
        rfl
      · show D.bl (decide (1 ≤ t) && decide (t ≤ 9)) = _
        have := orr.t
        rw [decide_eq_true this.1, decide_eq_true this.2]
        rfl
      · show D.bl (decide (1 ≤ m) && decide (m ≤ 1000000000)) = _
        have := orr.w
        rw [decide_eq_true this.1, decide_eq_true this.2]
        rfl
theorem ne_nl : ¬ (("names" : Str) = "lines") := by decide +kernel
theorem g_Net (T : Top K mg c) : GloC P w K mg base 3 c.Net "Net" ["self", "houses", "roads"] (FnX K (fun a : Addr × List Str × List Road => OkG a.2) (fun a => [.adr a.1, .lst (housesD a.2.1), .lst (roadsD a.2.2)]) (fun a => [ownI K a.1 c.Net []]) (fun a d l => d = .non ∧ l = [ownI K a.1 c.Net [("names", .lst (housesD a.2.1)), ("lines", .lst (roadsD a.2.2))]]) noE) :=
  gloc_of T.d_Net_init T.c_Net (fun _ _ _ _ _ _ us hl => match us, hl with | [_, _, _], _ => rfl) fun f fd F => fn_ok F cs_Net_init (fun _ => rfl) fun cdv A outer s H E a hr hok => by
    have nd := cs_Net_init.nd
    obtain ⟨q, hs, rs⟩ := a
    have ok : OkG (hs, rs) := hok
    refine blk_if (k := false) ((ts_w (tw_or (k := false) (ts_not (ts_val (k := true) (px_call (g_are_houses T) hr (by decide) hs ok.h (pa_c (px_var (pv 1) rfl) pa_n)))) fun _ => tw_or (k := false) (ts_not (ts_val (k := true) (px_isT "list" "list" true T.z_isinstance T.z_list (px_var (pv 2) rfl)))) fun _ => tw_or1 (ts_cmp op_gt (px_bi call_len_seq T.z_len (pa_c (px_var (pv 2) rfl) pa_n) o_lenL) (px_gi T.k_MOST_ROADS) o_gt))).to ?_) (fun h => by cases h) (fun _ => blk_nil ?_)
    · rw [List.length_map]
      have : rs.length ≤ 40 := ok.le
      exact decide_eq_false (by show ¬ ((40 : Int) < (rs.length : Int)); omega)
    refine blk_if (k := false) (ts_not (ts_val (k := true) (px_bi (cr_all rfl) T.z_all (pa_c (px_lc (own := [("one", 3)]) (is := [3]) (rs := (rs.map fun _ => true).map .bl) rfl nd (it_list (px_var (pv 2) rfl)) (blkOk_by (N := ns_Net_init) (sc := defScope s_Net_init) (by decide +kernel)) (fun _ _ _ _ _ => pg_name (i := 3) nd rfl (.inl rfl)) (by decide) ?c1 ?c2 ?c3) pa_n) ?c4))) (fun h => by cases h) (fun _ => blk_nil ?_)
    case c1 => simp
    case c2 => rw [List.length_map, List.length_map]; have h : rs.length ≤ 40 := ok.le; exact Nat.le_trans h (szS (by decide))
    case c3 =>
      intro i d hd
      rw [List.getElem?_map] at hd
      cases e : rs[i]? with
      | none => rw [e] at hd; cases hd
      | some r =>
        rw [e] at hd
        cases hd
        refine ⟨_, .bl true, tg_name, by rw [List.getElem?_map, List.getElem?_map, e]; rfl, fun _ _ _ _ _ => ?_⟩
        exact px_call (g_is_road T) hr (by decide) (r, hs) ⟨ok.h, ok.r r (List.mem_of_getElem? e)⟩ (pa_c (px_var (pv 3) rfl) (pa_c (px_var (pv 1) rfl) pa_n))
    case c4 =>
      have q : (rs.map fun _ => true).all id = true := by simp
      exact (o_all .f).to (congrArg D.bl q)
    refine blk_fld (k := 0) (px_listOf (px_var (pv 1) rfl) .f T.z_list) (px_var (pv 0) rfl) rfl T.c_Net.cl T.n_Net_names (by decide) ?_
    refine blk_fld (k := 0) (px_listOf (px_var (pv 2) rfl) .f T.z_list) (px_var (pv 0) rfl) rfl T.c_Net.cl T.n_Net_lines (by show 1 < 1000; decide) ?_
    refine blk_nil ⟨rfl, ?_⟩
    show [ownI K q _ (putD _ _ (putD _ _ []))] = _
    show [ownI K q _ (if _ then _ else _)] = _
    rw [if_neg ne_nl]
    rfl
theorem look_names {d1 d2 : D} : List.lookup ("names" : Str) [(("names" : Str), d1), ("lines", d2)] = some d1 := by
  rw [List.lookup_cons, beq_self_eq_true]
theorem look_lines {d1 d2 : D} : List.lookup ("lines" : Str) [(("names" : Str), d1), ("lines", d2)] = some d2 := by
  rw [List.lookup_cons, show (("lines" : Str) == "names") = false by decide +kernel, List.lookup_cons, beq_self_eq_true]
theorem look_none {d1 d2 : D} {m : Str} (h1 : (m == "names") = false) (h2 : (m == "lines") = false) : List.lookup m [(("names" : Str), d1), ("lines", d2)] = none := by
  rw [List.lookup_cons, h1, List.lookup_cons, h2]
  rfl
theorem g_Net_roads (T : Top K mg c) : GloM P w K mg base 1 c.Net "roads" ["self"] (FnX K (fun n : List Str × List Road => n.2.length ≤ 40) (fun n => [netD c n]) (fun _ => []) (fun n d l => ∃ p, d = .adr p ∧ l = [ownL K p (roadsD n.2)]) noE) :=
  glom_of T.d_Net_roads T.c_Net.cl (fun _ _ _ _ _ _ us hl => match us, hl with | [_], _ => rfl) fun f fd F => fn_ok F cs_Net_roads (fun _ => rfl) fun cdv A outer s H E a hr hok => by
    exact blk_retX (ev_listOf (px_fld (px_var (pv 0) rfl) T.c_Net.cl T.n_Net_lines look_lines) .f T.z_list) fun d l' h => h
section
variable {X : Cx} {g : Gm} {l : List Res} {e1 e2 o : Expr} {p pos : Pos} {j : Nat} {hs : List Str} {rs : List Road}
theorem px_Net (T : Top X.K X.mg c) (hr : Room j X.A) (hj : 4 ≤ j) (ok : OkG (hs, rs)) (h1 : Px X e1 g l (.lst (housesD hs))) (h2 : Px X e2 g l (.lst (roadsD rs))) (hg : Gl X "Net" := by rfl) (he : starEach [e1, e2] X.env = (false, eval e1 X.env) :: starEach [e2] X.env := by rfl) (hs2 : starEach [e2] X.env = [(false, eval e2 X.env)] := by rfl) (hpl : (backTo pos (starEach [e2] X.env)).any (·.1) = false := by rfl) :
    Px X (.Call (.Name "Net" p) [e1, e2] [] pos) g l (netD c (hs, rs)) :=
  (ev_make (g_Net T) hr hj (fun q => (q, hs, rs)) (fun _ => ok) (pa_c h1 (pa_c h2 pa_n hs2) he) (fun _ => rfl) (fun _ => rfl) (fun q d l' h => ⟨h.1, q, rfl, by rw [h.2]; rfl⟩) hg (by decide) he hpl).frzI
theorem ev_roads {apos : Pos} {pl : Sem Bool} {n : List Str × List Road} (T : Top X.K X.mg c) (hr : Room j X.A) (hj : 1 ≤ j) (ok : n.2.length ≤ 40) (ho : Px X o g l (netD c n)) (ht : MthE X o "roads" apos pos [] pl := by rfl) : EvL X (.Call (.Attribute o "roads" apos) [] [] pos) g l (roadsD n.2) :=
  ev_meth0 (lr := l) (own := fun _ => []) (g_Net_roads T) hr hj n ok ho (rc_ins (look_none (by decide +kernel) (by decide +kernel))) rfl (fun d l' h => by
    obtain ⟨p, rfl, rfl⟩ := h
    exact ⟨p, rfl, rfl⟩) ht
end
end
end Lw
set_option Elab.async false
set_option linter.all false
set_option maxRecDepth 100000
set_option maxHeartbeats 4000000
namespace Lw
open PySem L2 Sx
/-! ### plain: houses, roads, letters as the law draws them -/
def cellAt (ns : List Int) (k : Int) : Int := if k < (ns.length : Int) then ns.getD k.toNat 0 else 0
def abcAt (i : Int) : Str := ⟨#[(TL.tl small).getD i.toNat 0]⟩
def wordStep (s : Int × Str) : Int × Str := (s.1 / 26, s.2 ++ abcAt (s.1 % 26))
def wordSt (n0 : Int) : Nat → Int × Str
  | 0 => (n0, "")
  | i + 1 => wordStep (wordSt n0 i)
def wordN (cell : Int) : Int := cell * 1099087573 % 10000000000037
def wordA (cell : Int) : Str := (wordSt (wordN cell / 7) (1 + wordN cell % 7).toNat).2
theorem abcAt_sg {i : Int} (h0 : 0 ≤ i) (h1 : i < 26) : ∀ c ∈ TL.tl (abcAt i), 97 ≤ c ∧ c ≤ 122 := fun c hc => by
  have e : TL.tl (abcAt i) = [(TL.tl small).getD i.toNat 0] := rfl
  rw [e, List.mem_singleton] at hc
  subst hc
  refine small_in.mp ?_
  have hl : i.toNat < (TL.tl small).length := by rw [small_tl]; simp; omega
  rw [List.getD_eq_getElem?_getD, List.getElem?_eq_getElem hl]
  exact List.getElem_mem hl
theorem wordSt_ok (n0 : Int) : ∀ i, (wordSt n0 i).2.length = i ∧ ∀ c ∈ TL.tl (wordSt n0 i).2, 97 ≤ c ∧ c ≤ 122
  | 0 => ⟨rfl, fun c hc => by
    have e : TL.tl ("" : Str) = [] := by decide +kernel
    rw [show TL.tl (wordSt n0 0).2 = TL.tl ("" : Str) from rfl, e] at hc
    cases hc⟩
  | i + 1 => by
    obtain ⟨h1, h2⟩ := wordSt_ok n0 i
    refine ⟨?_, fun c hc => ?_⟩
    · show ((wordSt n0 i).2 ++ abcAt _).length = _
      rw [Str.length_append, h1]
      rfl
    · have hc : c ∈ TL.tl ((wordSt n0 i).2 ++ abcAt ((wordSt n0 i).1 % 26)) := hc
      rw [TL.tl_append] at hc
      rcases List.mem_append.mp hc with q | q
      · exact h2 c q
      · exact abcAt_sg (by omega) (by omega) c q
theorem wordA_ok (cell : Int) : (wordA cell).length ≤ 7 ∧ ∀ c ∈ TL.tl (wordA cell), 97 ≤ c ∧ c ≤ 122 := by
  obtain ⟨h1, h2⟩ := wordSt_ok (wordN cell / 7) (1 + wordN cell % 7).toNat
  refine ⟨?_, h2⟩
  unfold wordA
  rw [h1]
  omega
def insA (x : Str) (at_ : Int) (ch : Str) : Str := cutS x none (some at_) ++ ch ++ cutS x (some at_) none
abbrev marks : Str := "kcxqamzftbje"
theorem marks_tl : TL.tl marks = [107, 99, 120, 113, 97, 109, 122, 102, 116, 98, 106, 101] := by decide +kernel
def oneS (c : Nat) : Str := ⟨#[c]⟩
def housesA (cell many : Int) : List Str := ((TL.tl marks).take many.toNat).map fun c => insA (wordA cell) (cell % ((wordA cell).length + 1)) (oneS c)
theorem tl_insA {x : Str} {a : Int} {c : Nat} (h : 0 ≤ a) : TL.tl (insA x a (oneS c)) = (TL.tl x).take a.toNat ++ c :: (TL.tl x).drop a.toNat := by
  unfold insA
  rw [TL.tl_append, TL.tl_append, tl_cutS, tl_cutS, cut_take h, cut_drop h]
  show _ ++ [c] ++ _ = _
  simp
theorem insA_ok {x : Str} {a : Int} {c : Nat} (h : 0 ≤ a) (hx : x.length ≤ 7) (hs : ∀ c ∈ TL.tl x, 97 ≤ c ∧ c ≤ 122) (hc : 97 ≤ c ∧ c ≤ 122) : OkN (insA x a (oneS c)) := by
  have e := tl_insA (x := x) (c := c) h
  rw [TL.len_tl] at hx
  have hl : (TL.tl (insA x a (oneS c))).length = (TL.tl x).length + 1 := by
    rw [e, List.length_append, List.length_cons, List.length_take, List.length_drop]
    omega
  refine ⟨by rw [TL.len_tl, hl]; omega, by rw [TL.len_tl, hl]; omega, fun z hz => ?_⟩
  rw [e] at hz
  rcases List.mem_append.mp hz with q | q
  · exact hs z (List.mem_of_mem_take q)
  · rcases List.mem_cons.mp q with rfl | q
    · exact hc
    · exact hs z (List.mem_of_mem_drop q)
theorem insA_inj {x : Str} {a : Int} {c d : Nat} (h : 0 ≤ a) (e : insA x a (oneS c) = insA x a (oneS d)) : c = d := by
  have e2 := congrArg TL.tl e
  rw [tl_insA h, tl_insA h] at e2
  exact (List.cons.inj (List.append_cancel_left e2)).1
theorem housesA_len {cell many : Int} (h : many ≤ 12) : (housesA cell many).length = many.toNat := by
  unfold housesA
  rw [List.length_map, List.length_take, marks_tl]
  show min many.toNat 12 = _
  omega
theorem housesA_ok {cell many : Int} (h : many ≤ 12) : OkH (housesA cell many) := by
  obtain ⟨h1, h2⟩ := wordA_ok cell
  have ha : 0 ≤ cell % ((wordA cell).length + 1) := Int.emod_nonneg _ (by omega)
  refine ⟨fun x hx => ?_, ?_, ?_⟩
  · unfold housesA at hx
    obtain ⟨c, hc, rfl⟩ := List.mem_map.mp hx
    refine insA_ok ha h1 h2 ?_
    have hm := List.mem_of_mem_take hc
    rw [marks_tl] at hm
    simp only [List.mem_cons, List.not_mem_nil, or_false] at hm
    omega
  · unfold housesA
    have nd : ((TL.tl marks).take many.toNat).Nodup := List.Nodup.sublist (List.take_sublist _ _) (by rw [marks_tl]; decide)
    exact List.Pairwise.map _ (fun c d hne e => hne (insA_inj ha e)) nd
  · rw [housesA_len h]
    omega

theorem getD_mem {α : Type} {xs : List α} {i : Int} {x0 : α} (h0 : 0 ≤ i) (h1 : i < xs.length) : xs.getD i.toNat x0 ∈ xs := by
  have hl : i.toNat < xs.length := by omega
  rw [List.getD_eq_getElem?_getD, List.getElem?_eq_getElem hl]
  exact List.getElem_mem hl
theorem getD_ne {α : Type} {xs : List α} {i j : Int} {x0 : α} (nd : xs.Nodup) (hi : 0 ≤ i ∧ i < xs.length) (hj : 0 ≤ j ∧ j < xs.length) (hne : i ≠ j) : xs.getD i.toNat x0 ≠ xs.getD j.toNat x0 := by
  have l1 : i.toNat < xs.length := by omega
  have l2 : j.toNat < xs.length := by omega
  rw [List.getD_eq_getElem?_getD, List.getElem?_eq_getElem l1, List.getD_eq_getElem?_getD, List.getElem?_eq_getElem l2]
  intro e
  have e : xs[i.toNat] = xs[j.toNat] := e
  have p := List.pairwise_iff_getElem.mp nd
  rcases Nat.lt_trichotomy i.toNat j.toNat with h | h | h
  · exact p _ _ l1 l2 h e
  · omega
  · exact p _ _ l2 l1 h e.symm
/-- a road's ends differ -/
theorem ends_ok {n m : Int} (hm : 2 ≤ m) (k : Int) : (0 ≤ n % m ∧ n % m < m) ∧ (0 ≤ (n % m + 1 + k % (m - 1)) % m ∧ (n % m + 1 + k % (m - 1)) % m < m) ∧ n % m ≠ (n % m + 1 + k % (m - 1)) % m := by
  have a1 := Int.emod_nonneg n (show m ≠ 0 by omega)
  have a2 := Int.emod_lt_of_pos n (show 0 < m by omega)
  have b1 := Int.emod_nonneg k (show m - 1 ≠ 0 by omega)
  have b2 := Int.emod_lt_of_pos k (show 0 < m - 1 by omega)
  refine ⟨⟨a1, a2⟩, ⟨Int.emod_nonneg _ (by omega), Int.emod_lt_of_pos _ (by omega)⟩, ?_⟩
  generalize n % m = x at a1 a2 ⊢
  generalize k % (m - 1) = y at b1 b2 ⊢
  by_cases h : x + 1 + y < m
  · rw [Int.emod_eq_of_lt (by omega) h]
    omega
  · have e : (x + 1 + y) % m = x + 1 + y - m := by
      rw [← Int.sub_emod_right (x + 1 + y) m]
      exact Int.emod_eq_of_lt (by omega) (by omega)
    rw [e]
    omega
def roadA (hs : List Str) (long cell : Int) : Road :=
  let n := cell * 48271 % 2147483647
  let m : Int := hs.length
  let b := n % m
  let e := (b + 1 + n / 12 % (m - 1)) % m
  (hs.getD b.toNat "", hs.getD e.toNat "", 1 + n / 2160 % long, if n / 432 % 5 = 1 then 1 + cell % 1000000000 else 1 + n / 144 % 3)
theorem roadA_ok {hs : List Str} {long cell : Int} (nd : hs.Nodup) (h2 : 2 ≤ hs.length) (hl : 1 ≤ long ∧ long ≤ 9) : OkR hs (roadA hs long cell) := by
  have hm : (2 : Int) ≤ hs.length := by omega
  obtain ⟨a, b, c⟩ := ends_ok (n := cell * 48271 % 2147483647) hm (cell * 48271 % 2147483647 / 12)
  refine ⟨getD_mem a.1 a.2, getD_mem b.1 b.2, getD_ne nd a b c, ?_, ?_⟩
  · show 1 ≤ 1 + cell * 48271 % 2147483647 / 2160 % long ∧ 1 + cell * 48271 % 2147483647 / 2160 % long ≤ 9
    have h1 := Int.emod_nonneg (cell * 48271 % 2147483647 / 2160) (show long ≠ 0 by omega)
    have h3 := Int.emod_lt_of_pos (cell * 48271 % 2147483647 / 2160) (show 0 < long by omega)
    omega
  · unfold roadA
    dsimp only
    split <;> omega
def roadsA (hs : List Str) (long : Int) (cells : List Int) : List Road := if 1 < hs.length then cells.map (roadA hs long) else []
theorem roadsA_ok {hs : List Str} {long : Int} {cells : List Int} (oh : OkH hs) (hl : 1 ≤ long ∧ long ≤ 9) (hc : cells.length ≤ 40) : OkG (hs, roadsA hs long cells) := by
  refine ⟨oh, fun r hr => ?_, ?_⟩
  · have hr : r ∈ roadsA hs long cells := hr
    unfold roadsA at hr
    split at hr
    · rename_i h2
      obtain ⟨x, _, rfl⟩ := List.mem_map.mp hr
      exact roadA_ok oh.nd h2 hl
    · cases hr
  · show (roadsA hs long cells).length ≤ 40
    unfold roadsA
    split
    · rw [List.length_map]; exact hc
    · exact Nat.zero_le _
abbrev Letter := Str × Int × Str
def letterD (a : Letter) : D := .tup [.str a.1, .int a.2.1, .str a.2.2]
abbrev lettersD (ls : List Letter) : List D := ls.map letterD
def letterA (hs : List Str) (goals base_ span cell : Int) : Letter :=
  let n := cell * 1220703125 % 2147483629
  let m : Int := hs.length
  (hs.getD ((n % goals + 1 + n / 12 % (m - 1)) % m).toNat "", base_ + n / 144 % span, hs.getD (n % goals).toNat "")
structure OkL (hs : List Str) (base_ span : Int) (a : Letter) : Prop where
  b : a.1 ∈ hs
  e : a.2.2 ∈ hs
  ne : a.1 ≠ a.2.2
  t : base_ ≤ a.2.1 ∧ a.2.1 < base_ + span
theorem letterA_ok {hs : List Str} {goals base_ span cell : Int} (nd : hs.Nodup) (h2 : 2 ≤ hs.length) (hg : 1 ≤ goals ∧ goals ≤ hs.length) (hs' : 1 ≤ span) : OkL hs base_ span (letterA hs goals base_ span cell) := by
  have hm : (2 : Int) ≤ hs.length := by omega
  have g1 := Int.emod_nonneg (cell * 1220703125 % 2147483629) (show goals ≠ 0 by omega)
  have g2 := Int.emod_lt_of_pos (cell * 1220703125 % 2147483629) (show 0 < goals by omega)
  obtain ⟨a, b, c⟩ := ends_ok (n := cell * 1220703125 % 2147483629 % goals) hm (cell * 1220703125 % 2147483629 / 12)
  have e : cell * 1220703125 % 2147483629 % goals % (hs.length : Int) = cell * 1220703125 % 2147483629 % goals := Int.emod_eq_of_lt g1 (by omega)
  rw [e] at a b c
  refine ⟨getD_mem b.1 b.2, getD_mem a.1 a.2, (getD_ne nd b a (Ne.symm c)), ?_⟩
  show base_ ≤ base_ + cell * 1220703125 % 2147483629 / 144 % span ∧ base_ + cell * 1220703125 % 2147483629 / 144 % span < base_ + span
  have h1 := Int.emod_nonneg (cell * 1220703125 % 2147483629 / 144) (show span ≠ 0 by omega)
  have h3 := Int.emod_lt_of_pos (cell * 1220703125 % 2147483629 / 144) (show 0 < span by omega)
  omega
end Lw
set_option Elab.async false
set_option linter.all false
set_option maxRecDepth 100000
set_option maxHeartbeats 4000000
namespace Lw
open PySem L2 Sx
/-! ### the walk: what the law draws -/
section
variable {P : Program} {w : World} {K : PySem.W.Frag} {mg : Str → Option Value} {base : Heap} {c : Cs}
theorem g_at (T : Top K mg c) : Glo P w K mg base 1 "_law_at" ["_law_script", "_law_k"] (Pu K (fun a : List Int × Int => 0 ≤ a.2) (fun a => [.scr (a.1.map .int), .int a.2]) (fun a => .int (cellAt a.1 a.2))) :=
  glo_of T.d_law_at (fun _ _ _ _ _ _ us hl => match us, hl with | [_, _], _ => rfl) fun f fd F => fn_ok F cs_law_at (fun _ => rfl) fun cdv A outer s H E a hr hok => by
    obtain ⟨ns, k⟩ := a
    have hk : 0 ≤ k := hok
    refine blk_if (ts_cmp op_lt (px_var (pv 1) rfl) (px_bi call_len_seq T.z_len (pa_c (px_var (pv 0) rfl) pa_n) o_lenR) o_lt) (fun h => ?_) (fun h => ?_)
    · have h1 : k < (ns.length : Int) := by
        have := of_decide_eq_true h
        rwa [List.length_map] at this
      refine blk_ret (px_ix ix_list (px_var (pv 0) rfl) (px_var (pv 1) rfl) (o_ixR (d := .int (ns.getD k.toNat 0)) (atI_map (atI_in hk h1)))) ⟨?_, rfl⟩
      show D.int _ = D.int (cellAt ns k)
      unfold cellAt
      rw [if_pos h1]
    · have h1 : ¬ k < (ns.length : Int) := by
        have := of_decide_eq_false h
        rwa [List.length_map] at this
      refine blk_nil (blk_ret px_int ⟨?_, rfl⟩)
      show D.int _ = D.int (cellAt ns k)
      unfold cellAt
      rw [if_neg h1]
theorem px_at {X : Cx} {g : Gm} {l : List Res} {e : Expr} {p pos p2 : Pos} {j n : Nat} {ns : List Int} {k : Int} (T : Top X.K X.mg c) (hr : Room j X.A) (hj : 1 ≤ j) (h : Px X e g l (.scr (ns.map .int))) (hk : 0 ≤ k := by decide) (hg : Gl X "_law_at" := by rfl)
    (hs : starEach [e, .Constant (.int k) n p2] X.env = (false, eval e X.env) :: starEach [.Constant (.int k) n p2] X.env := by rfl) (hs2 : starEach [.Constant (.int k) n p2] X.env = [(false, eval (.Constant (.int k) n p2) X.env)] := by rfl) (hpl : (backTo pos (starEach [.Constant (.int k) n p2] X.env)).any (·.1) = false := by rfl) :
    Px X (.Call (.Name "_law_at" p) [e, .Constant (.int k) n p2] [] pos) g l (.int (cellAt ns k)) :=
  px_call (g_at T) hr hj (ns, k) hk (pa_c h (pa_c px_int pa_n hs2) hs) hg (by decide) hs hpl
theorem g_word (T : Top K mg c) : Glo P w K mg base 1 "_law_word" ["_law_cell"] (Pu K (fun _ : Int => True) (fun a => [.int a]) (fun a => .str (wordA a))) :=
  glo_of T.d_law_word (fun _ _ _ _ _ _ us hl => match us, hl with | [_], _ => rfl) fun f fd F => fn_ok F cs_law_word (fun _ => rfl) fun cdv A outer s H E a hr hok => by
    have nd := cs_law_word.nd
    refine blk_set nd (i := 1) (d := .int (wordN a)) rfl (.inl rfl) (px_op op_mod (px_op op_mul (px_var (pv 0) rfl) px_int o_mulR) px_int o_mod) ?_
    refine blk_set nd (i := 2) (d := .int (1 + wordN a % 7)) rfl (.inl rfl) (px_op op_add px_int (px_op op_mod (px_var (pv 1) rfl) px_int o_mod) o_add) ?_
    refine blk_set nd (i := 1) (d := .int (wordN a / 7)) rfl (.inl rfl) (px_op op_fdiv (px_var (pv 1) rfl) px_int o_fdiv) ?_
    refine blk_set nd (i := 3) rfl (.inl rfl) px_str ?_
    refine blk_for (is := [4]) (fun i g l => (∃ o, g = [some (.int a), some (.int (wordSt (wordN a / 7) i).1), some (.int (1 + wordN a % 7)), some (.str (wordSt (wordN a / 7) i).2), o]) ∧ l = []) PassesOwn.never rfl
      (it_range (px_var (pv 2) rfl) (by omega) (by omega) T.z_range) (pg_name (i := 4) nd rfl (.inl rfl)) ⟨⟨none, rfl⟩, rfl⟩ (fun i d g l hd hI => ?_) (fun g l hI => ?_)
    · obtain ⟨⟨o, rfl⟩, rfl⟩ := hI
      obtain ⟨hi, rfl⟩ := rng_get hd
      have hi7 : i < 8 := by
        have : i < (1 + wordN a % 7).toNat := hi
        omega
      have h1 := (wordSt_ok (wordN a / 7) i).1
      have hm : 0 ≤ (wordSt (wordN a / 7) i).1 % 26 ∧ (wordSt (wordN a / 7) i).1 % 26 < 26 := by omega
      refine ⟨_, tg_name, ?_⟩
      refine blk_set nd (i := 3) (d := .str ((wordSt (wordN a / 7) i).2 ++ abcAt ((wordSt (wordN a / 7) i).1 % 26))) rfl (.inl rfl) (px_op op_add_str (px_var (pv 3) rfl) (px_ix ix_str px_str (px_op op_mod (px_var (pv 1) rfl) px_int o_mod) (o_ixS (c := (TL.tl small).getD ((wordSt (wordN a / 7) i).1 % 26).toNat 0) (by decide) (atI_in hm.1 hm.2))) (o_addS ?_)) ?_
      · rw [h1]
        show i + 1 ≤ sizeLine
        exact Nat.le_trans (show i + 1 ≤ 100 by omega) (by decide)
      refine blk_set nd (i := 1) rfl (.inl rfl) (px_op op_fdiv (px_var (pv 1) rfl) px_int o_fdiv) ?_
      exact blk_nil ⟨⟨_, rfl⟩, rfl⟩
    · obtain ⟨⟨o, rfl⟩, rfl⟩ := hI
      rw [rng_len]
      exact blk_ret (px_var (pv 3) rfl) ⟨rfl, rfl⟩
theorem sig_marks (n : Nat) : ((TL.tl marks).take n).length ≤ 12 := by rw [List.length_take, marks_tl]; show min n 12 ≤ 12; omega
theorem g_housesA (T : Top K mg c) : Glo P w K mg base 2 "_law_houses" ["_law_cell", "_law_many"] (Fr K (fun a : Int × Int => 0 ≤ a.2) (fun a => [.int a.1, .int a.2]) (fun a => housesD (housesA a.1 a.2))) :=
  glo_of T.d_law_houses (fun _ _ _ _ _ _ us hl => match us, hl with | [_, _], _ => rfl) fun f fd F => fn_ok F cs_law_houses (fun _ => rfl) fun cdv A outer s H E a hr hok => by
    have nd := cs_law_houses.nd
    obtain ⟨cell, many⟩ := a
    have hm : 0 ≤ many := hok
    have hw := wordA_ok cell
    refine blk_set nd (i := 2) rfl (.inr rfl) (px_call (g_word T) hr (by decide) cell trivial (pa_c (px_var (pv 0) rfl) pa_n)) ?_
    refine blk_set nd (i := 3) (d := .int (cell % ((wordA cell).length + 1))) rfl (.inr rfl) (px_op op_mod (px_var (pv 0) rfl) (px_op op_add (px_bi call_len_str T.z_len (pa_c (px_var (pv 2) rfl) pa_n) (o_lenS (Nat.le_trans hw.1 (by decide)))) px_int o_add) (o_mod (by omega))) ?_
    have ha : 0 ≤ cell % ((wordA cell).length + 1) := Int.emod_nonneg _ (by omega)
    have ec : TL.tl (cutS marks none (some many)) = (TL.tl marks).take many.toNat := by rw [tl_cutS, cut_take hm]
    refine blk_retX (ev_lc (own := [("_law_letter", 4)]) (is := [4]) (rs := housesD (housesA cell many)) rfl nd (it_str (px_slS px_str (by decide) pz_n (pz_s (px_var (pv 1) rfl)))) (blkOk_by (N := ns_law_houses) (sc := defScope s_law_houses) (by decide +kernel)) (fun _ _ _ _ _ => pg_name (i := 4) nd rfl (.inl rfl)) (by decide) ?c1 ?c2 ?c3) fun d l' h => h
    case c1 =>
      unfold signs housesA
      rw [show (cutS marks none (some many)).cps.toList = _ from ec]
      simp
    case c2 =>
      unfold housesA
      rw [List.length_map, List.length_map]
      exact Nat.le_trans (sig_marks _) (szS (by decide))
    case c3 =>
      intro i d hd
      unfold signs at hd
      rw [show (cutS marks none (some many)).cps.toList = _ from ec, List.getElem?_map] at hd
      cases e : ((TL.tl marks).take many.toNat)[i]? with
      | none => rw [e] at hd; cases hd
      | some ch =>
        rw [e] at hd
        cases hd
        refine ⟨_, .str (insA (wordA cell) (cell % ((wordA cell).length + 1)) (oneS ch)), tg_name, by unfold housesA; rw [List.getElem?_map, List.getElem?_map, e]; rfl, fun _ _ _ _ _ => ?_⟩
        have l1 : (cutS (wordA cell) none (some (cell % ((wordA cell).length + 1)))).length ≤ 7 := Nat.le_trans (cutS_length _ _ _) hw.1
        have l2 : (cutS (wordA cell) (some (cell % ((wordA cell).length + 1))) none).length ≤ 7 := Nat.le_trans (cutS_length _ _ _) hw.1
        have l3 : (cutS (wordA cell) none (some (cell % ((wordA cell).length + 1))) ++ oneS ch).length ≤ 8 := by rw [Str.length_append]; show _ + 1 ≤ 8; omega
        exact px_op op_add_str (px_op op_add_str (px_slS (px_var (pv 2) rfl) (Nat.le_trans hw.1 (by decide)) pz_n (pz_s (px_var (pv 3) rfl))) (px_var (pv 4) rfl) (o_addS (Nat.le_trans (Nat.add_le_add l1 (Nat.le_of_eq rfl)) (szS (Nat.le_of_ble_eq_true rfl))))) (px_slS (px_var (pv 2) rfl) (Nat.le_trans hw.1 (by decide)) (pz_s (px_var (pv 3) rfl)) pz_n) (o_addS (Nat.le_trans (Nat.add_le_add l3 l2) (szS (by decide))))
theorem g_roadsA (T : Top K mg c) : Glo P w K mg base 1 "_law_roads" ["_law_cells", "_law_houses_here", "_law_long"] (Fr K (fun a : List Int × List Str × Int => 1 ≤ a.2.2 ∧ a.1.length ≤ 100) (fun a => [.lst (a.1.map .int), .lst (housesD a.2.1), .int a.2.2]) (fun a => roadsD (roadsA a.2.1 a.2.2 a.1))) :=
  glo_of T.d_law_roads (fun _ _ _ _ _ _ us hl => match us, hl with | [_, _, _], _ => rfl) fun f fd F => fn_ok F cs_law_roads (fun _ => rfl) fun cdv A outer s H E a hr hok => by
    have nd := cs_law_roads.nd
    obtain ⟨cells, hs, long⟩ := a
    obtain ⟨hlo, hle⟩ : 1 ≤ long ∧ cells.length ≤ 100 := hok
    refine blk_setX nd (i := 3) rfl (.inl rfl) (ev_lst pa_n) fun d l' ⟨p, e1, e2⟩ => ?_
    subst e1; subst e2
    refine blk_if (ts_cmp op_gt (px_bi call_len_seq T.z_len (pa_c (px_var (pv 1) rfl) pa_n) o_lenL) px_int o_gt) (fun h => ?_) (fun h => ?_)
    · have h2 : 1 < hs.length := by
        have h' : (1 : Int) < ((housesD hs).length : Int) := of_decide_eq_true h
        have e : (housesD hs).length = hs.length := List.length_map ..
        omega
      refine blk_for (is := [4]) (fun i g l => (∃ o4 o5 o6 o7 o8, g = [some (.lst (cells.map .int)), some (.lst (housesD hs)), some (.int long), some (.adr p), o4, o5, o6, o7, o8]) ∧ l = [ownL K p (roadsD ((cells.take i).map (roadA hs long)))]) PassesOwn.never rfl
        (it_list (px_var (pv 0) rfl)) (pg_name (i := 4) nd rfl (.inl rfl)) ⟨⟨none, none, none, none, none, rfl⟩, rfl⟩ (fun i d g l hd hI => ?_) (fun g l hI => ?_)
      · obtain ⟨⟨o4, o5, o6, o7, o8, rfl⟩, rfl⟩ := hI
        rw [List.getElem?_map] at hd
        cases e : cells[i]? with
        | none => rw [e] at hd; cases hd
        | some cell =>
          rw [e] at hd
          cases hd
          have hi : i < cells.length := (List.getElem?_eq_some_iff.mp e).1
          have et : (cells.take (i + 1)).map (roadA hs long) = (cells.take i).map (roadA hs long) ++ [roadA hs long cell] := by
            rw [List.take_add_one, e, List.map_append]; rfl
          have er : roadA hs long cell = (hs.getD ((cell * 48271 % 2147483647) % (hs.length : Int)).toNat "", hs.getD (((cell * 48271 % 2147483647) % (hs.length : Int) + 1 + (cell * 48271 % 2147483647) / 12 % ((hs.length : Int) - 1)) % (hs.length : Int)).toNat "", 1 + (cell * 48271 % 2147483647) / 2160 % long, if (cell * 48271 % 2147483647) / 432 % 5 = 1 then 1 + cell % 1000000000 else 1 + (cell * 48271 % 2147483647) / 144 % 3) := rfl
          refine ⟨_, tg_name, ?_⟩
          refine blk_set nd (i := 5) (d := .int (cell * 48271 % 2147483647)) rfl (.inl rfl) (px_op op_mod (px_op op_mul (px_var (pv 4) rfl) px_int o_mulR) px_int o_mod) ?_
          generalize cell * 48271 % 2147483647 = n at er ⊢
          have hm : (2 : Int) ≤ hs.length := by omega
          obtain ⟨a1, a2, a3⟩ := ends_ok (n := n) hm (n / 12)
          have el : (hs.map D.str).length = hs.length := List.length_map ..
          refine blk_set nd (i := 6) (d := .int (n % (hs.length : Int))) rfl (.inl rfl) (px_op op_mod (px_var (pv 5) rfl) (Px.to (px_bi call_len_seq T.z_len (pa_c (px_var (pv 1) rfl) pa_n) o_lenL) (by rw [el])) (o_mod (by omega))) ?_
          refine blk_set nd (i := 7) (d := .int ((n % (hs.length : Int) + 1 + n / 12 % ((hs.length : Int) - 1)) % (hs.length : Int))) rfl (.inl rfl) (px_op op_mod (px_op op_add (px_op op_add (px_var (pv 6) rfl) px_int o_add) (px_op op_mod (px_op op_fdiv (px_var (pv 5) rfl) px_int o_fdiv) (px_op op_sub (Px.to (px_bi call_len_seq T.z_len (pa_c (px_var (pv 1) rfl) pa_n) o_lenL) (by rw [el])) px_int o_sub) (o_mod (by omega))) o_add) (Px.to (px_bi call_len_seq T.z_len (pa_c (px_var (pv 1) rfl) pa_n) o_lenL) (by rw [el])) (o_mod (by omega))) ?_
          generalize hb : n % (hs.length : Int) = b at a1 a2 a3 er ⊢
          generalize he : (b + 1 + n / 12 % ((hs.length : Int) - 1)) % (hs.length : Int) = e' at a2 a3 er ⊢
          refine blk_set nd (i := 8) (d := .int (1 + n / 144 % 3)) rfl (.inl rfl) (px_op op_add px_int (px_op op_mod (px_op op_fdiv (px_var (pv 5) rfl) px_int o_fdiv) px_int o_mod) o_add) ?_
          refine blk_ifJ (fun g l => g = [some (.lst (cells.map .int)), some (.lst (housesD hs)), some (.int long), some (.adr p), some (.int cell), some (.int n), some (.int b), some (.int e'), some (.int (if n / 432 % 5 = 1 then 1 + cell % 1000000000 else 1 + n / 144 % 3))] ∧ l = [ownL K p (roadsD ((cells.take i).map (roadA hs long)))]) (ts_cmp op_eq (px_op op_mod (px_op op_fdiv (px_var (pv 5) rfl) px_int o_fdiv) px_int o_mod) px_int o_eqI) (fun h => ?_) (fun h => ?_) (fun g l hM => ?_)
          · have h : n / 432 % 5 = 1 := of_decide_eq_true h
            refine blk_set nd (i := 8) (d := .int (1 + cell % 1000000000)) rfl (.inl rfl) (px_op op_add px_int (px_op op_mod (px_var (pv 4) rfl) (px_op op_pow px_int px_int o_pow) (o_mod (j := 1000000000))) o_add) ?_
            refine blk_nil ⟨?_, rfl⟩
            rw [if_pos h]
            rfl
          · have h : ¬ n / 432 % 5 = 1 := of_decide_eq_false h
            refine blk_nil ⟨?_, rfl⟩
            rw [if_neg h]
            rfl
          · obtain ⟨rfl, rfl⟩ := hM
            refine blk_add (k := 0) (d := roadD (roadA hs long cell)) (px_var (pv 3) rfl) (Px.to (px_tup (pa_c (px_ix ix_list (px_var (pv 1) rfl) (px_var (pv 6) rfl) (o_ixL (d := .str (hs.getD b.toNat "")) (atI_map (atI_in a1.1 a1.2)))) (pa_c (px_ix ix_list (px_var (pv 1) rfl) (px_var (pv 7) rfl) (o_ixL (d := .str (hs.getD e'.toNat "")) (atI_map (atI_in a2.1 a2.2)))) (pa_c (px_op op_add px_int (px_op op_mod (px_op op_fdiv (px_var (pv 5) rfl) px_int o_fdiv) (px_var (pv 2) rfl) (o_mod (by omega))) o_add) (pa_c (px_var (pv 8) rfl) pa_n))))) (by rw [er]; rfl)) rfl ?_ ?_
            · rw [List.length_map, List.length_map, List.length_take]
              exact Nat.lt_of_lt_of_le (show min i cells.length < 10000 by omega) (szS (Nat.le_refl _))
            · refine blk_nil ⟨⟨_, _, _, _, _, rfl⟩, ?_⟩
              rw [et]
              show [ownL K p (roadsD _ ++ [roadD _])] = [ownL K p ((_ ++ [_]).map roadD)]
              rw [List.map_append]
              rfl
      · obtain ⟨⟨o4, o5, o6, o7, o8, rfl⟩, rfl⟩ := hI
        refine blk_nil (blk_ret (px_var (pv 3) rfl) ⟨p, rfl, ?_⟩)
        rw [List.length_map, List.take_length]
        show _ = [ownL K p (roadsD (roadsA hs long cells))]
        unfold roadsA
        rw [if_pos h2]
    · have h2 : ¬ 1 < hs.length := by
        have h' : ¬ (1 : Int) < ((housesD hs).length : Int) := of_decide_eq_false h
        have e : (housesD hs).length = hs.length := List.length_map ..
        omega
      refine blk_nil (blk_ret (px_var (pv 3) rfl) ⟨p, rfl, ?_⟩)
      show _ = [ownL K p (roadsD (roadsA hs long cells))]
      unfold roadsA
      rw [if_neg h2]
      rfl
end
end Lw
set_option Elab.async false
set_option linter.all false
set_option maxRecDepth 100000
set_option maxHeartbeats 4000000
namespace Lw
open PySem L2 Sx
def Net_known_m (self : List Str × List Road) (house : Str) : Unit :=
  ()

def Net_road_m (self : List Str × List Road) (number : Int) : Road :=
  (self.2.getD (number).toNat ("", "", 0, 0))

def Net_houses_m (self : List Str × List Road) : List Str :=
  self.1

def Net_out_of_m (self : List Str × List Road) (house : Str) : List Int :=
  (((enumI self.2).filter (fun z1 : Int × Road => (decide (z1.2.1 = house)))).map (fun z1 : Int × Road => z1.1))

def Net_into_m (self : List Str × List Road) (house : Str) : List Int :=
  (((enumI self.2).filter (fun z1 : Int × Road => (decide (z1.2.2.1 = house)))).map (fun z1 : Int × Road => z1.1))

def law_whole_m (found : List Int) : Bool :=
  ((found.map (fun z1 : Int => (true && (!false)))).all id)

def law_told_m (net : List Str × List Road) (house : Str) (roads : List Road) : Bool :=
  lt (((rngI 0 ((roads.length : Int) : Int).toNat).filter (fun z1 : Int => (decide ((roads.getD (z1).toNat ("", "", 0, 0)).1 = house)))).map (fun z1 : Int => z1)) fun due : List Int =>
  lt (((rngI 0 ((roads.length : Int) : Int).toNat).filter (fun z2 : Int => (decide ((roads.getD (z2).toNat ("", "", 0, 0)).2.1 = house)))).map (fun z2 : Int => z2)) fun other : List Int =>
  bndV (loop (fun (s1 : Unit) (x1 : Int) =>
    lt ((Net_out_of_m net house) : List Int) fun found =>
    lt ((Net_into_m net house) : List Int) fun back =>
    cond ((!true) || ((!true) || ((!decide (found = due)) || (!decide (back = other))))) (
      .rt false) (
    cond ((!(law_whole_m found)) || (!(law_whole_m back))) (
      .rt false) (
    lt (found ++ [0]) fun found_2 =>
    lt (back ++ [0]) fun back_2 =>
    .nx ()))) (rngI 0 (2 : Int).toNat) ()) fun s1 : Unit =>
  true

def law_m (script : List Int) : Bool :=
  lt (housesA (cellAt script 0) (1 + ((cellAt script 0) % 12))) fun houses : List Str =>
  lt (roadsA houses 9 (cut script (some 1) (some 41))) fun roads : List Road =>
  lt (houses, roads) fun net : List Str × List Road =>
  bndV (loop (fun (s1 : Unit) (x1 : Str) =>
    cond (!(law_told_m net x1 roads)) (
      .rt false) (
      .nx ())) houses ()) fun s1 : Unit =>
  bndV (loop (fun (s2 : Unit) (x2 : Str) =>
    cond (!true) (
      .rt false) (
      .nx ())) (["noshow", "", ((cutS (houses.getD 0 "") none (some (((houses.getD 0 "").length : Int) - 1))) ++ "A"), ((houses.getD 0 "") ++ " ")]) ()) fun s2 : Unit =>
  true
end Lw
set_option Elab.async false
set_option linter.all false
set_option maxRecDepth 100000
set_option maxHeartbeats 4000000
namespace Lw
open PySem L2 Sx
/-! ### plain: roads out of a house and into it -/
theorem out_len {n : List Str × List Road} {x : Str} : (Net_out_of_m n x).length ≤ n.2.length := by
  unfold Net_out_of_m
  rw [List.length_map]
  exact Nat.le_trans (List.length_filter_le _ _) (by rw [enumI_len]; exact Nat.le_refl _)
theorem into_len {n : List Str × List Road} {x : Str} : (Net_into_m n x).length ≤ n.2.length := by
  unfold Net_into_m
  rw [List.length_map]
  exact Nat.le_trans (List.length_filter_le _ _) (by rw [enumI_len]; exact Nat.le_refl _)
theorem enumI_rng {α : Type} {xs : List α} {x0 : α} : enumI xs = (rngI 0 (xs.length : Int).toNat).map fun k => (k, xs.getD k.toNat x0) := by
  apply List.ext_getElem?
  intro i
  have e : (xs.length : Int).toNat = xs.length := by omega
  rw [e]
  by_cases h : i < xs.length
  · unfold enumI rngI
    rw [List.getElem?_map, List.getElem?_zipIdx, List.getElem?_map, List.getElem?_map, List.getElem?_range h, get_getD (x0 := x0) h]
    simp
  · rw [List.getElem?_eq_none (by rw [enumI_len]; omega), List.getElem?_eq_none (by rw [List.length_map, rngI_len]; omega)]
theorem whole_true {xs : List Int} : law_whole_m xs = true := by
  unfold law_whole_m
  rw [List.all_map, List.all_eq_true]
  intro x _
  rfl
theorem out_due {hs : List Str} {rs : List Road} {x : Str} : Net_out_of_m (hs, rs) x = ((rngI 0 (rs.length : Int).toNat).filter (fun z1 : Int => (decide ((rs.getD (z1).toNat ("", "", 0, 0)).1 = x)))).map (fun z1 : Int => z1) := by
  unfold Net_out_of_m
  rw [enumI_rng (x0 := (("", "", 0, 0) : Road)), List.filter_map, List.map_map]
  rfl
theorem into_due {hs : List Str} {rs : List Road} {x : Str} : Net_into_m (hs, rs) x = ((rngI 0 (rs.length : Int).toNat).filter (fun z1 : Int => (decide ((rs.getD (z1).toNat ("", "", 0, 0)).2.1 = x)))).map (fun z1 : Int => z1) := by
  unfold Net_into_m
  rw [enumI_rng (x0 := (("", "", 0, 0) : Road)), List.filter_map, List.map_map]
  rfl
theorem told_true {hs : List Str} {rs : List Road} {x : Str} : law_told_m (hs, rs) x rs = true := by
  unfold law_told_m
  simp only [lt_eq]
  rw [loop_unit fun z hz => ?_]
  · rfl
  · rw [out_due, into_due, whole_true, whole_true]
    simp
theorem mem_marks {c : Nat} {n : Nat} (h : c ∈ (TL.tl marks).take n) : c ∈ [107, 99, 120, 113, 97, 109, 122, 102, 116, 98, 106, 101] := by
  rw [← marks_tl]; exact List.mem_of_mem_take h
theorem house_mark {cell many : Int} {x : Str} (h : x ∈ housesA cell many) : ∃ c ∈ TL.tl x, c ∈ [107, 99, 120, 113, 97, 109, 122, 102, 116, 98, 106, 101] := by
  unfold housesA at h
  obtain ⟨c, hc, rfl⟩ := List.mem_map.mp h
  have ha : 0 ≤ cell % ((wordA cell).length + 1) := Int.emod_nonneg _ (by omega)
  refine ⟨c, ?_, mem_marks hc⟩
  rw [tl_insA ha]
  exact List.mem_append_right _ List.mem_cons_self
theorem noshow_tl : TL.tl ("noshow" : Str) = [110, 111, 115, 104, 111, 119] := by decide +kernel
theorem solo_tl : TL.tl ("solo" : Str) = [115, 111, 108, 111] := by decide +kernel
theorem A_tl : TL.tl ("A" : Str) = [65] := by decide +kernel
theorem sp_tl : TL.tl (" " : Str) = [32] := by decide +kernel
theorem bad_names {cell many : Int} {hs : List Str} (e : hs = housesA cell many) (hm : 1 ≤ many ∧ many ≤ 12) : ∀ x ∈ (["noshow", "", ((cutS (hs.getD 0 "") none (some (((hs.getD 0 "").length : Int) - 1))) ++ "A"), ((hs.getD 0 "") ++ " ")] : List Str), x ∉ hs := fun x hx hin => by
  have oh : OkH hs := by rw [e]; exact housesA_ok (by omega)
  have ok := oh.ok x hin
  simp only [List.mem_cons, List.not_mem_nil, or_false] at hx
  rcases hx with rfl | rfl | rfl | rfl
  · rw [e] at hin
    obtain ⟨c, h1, h2⟩ := house_mark hin
    rw [noshow_tl] at h1
    simp only [List.mem_cons, List.not_mem_nil, or_false] at h1 h2
    omega
  · have := ok.lo
    exact absurd this (by decide +kernel)
  · have := ok.sg 65 (by rw [TL.tl_append, A_tl]; simp)
    omega
  · have := ok.sg 32 (by rw [TL.tl_append, sp_tl]; simp)
    omega
theorem solo_not {cell many : Int} {hs : List Str} (e : hs = housesA cell many) (hm : 1 ≤ many ∧ many ≤ 12) : hs.getD 0 "" ∉ (["solo"] : List Str) := fun hin => by
  have hl : hs.length = many.toNat := by rw [e]; exact housesA_len (by omega)
  have hm' : hs.getD 0 "" ∈ hs := getD_mem (i := 0) (by omega) (by omega)
  rw [List.mem_singleton] at hin
  rw [hin, e] at hm'
  obtain ⟨c, h1, h2⟩ := house_mark hm'
  rw [solo_tl] at h1
  simp only [List.mem_cons, List.not_mem_nil, or_false] at h1 h2
  omega
theorem solo_ok : OkG ((["solo"] : List Str), ([] : List Road)) := by
  refine ⟨⟨fun x hx => ?_, by simp, by simp⟩, fun r hr => (by cases hr), by simp⟩
  rw [List.mem_singleton] at hx
  subst hx
  refine ⟨by decide +kernel, by decide +kernel, fun c hc => ?_⟩
  rw [solo_tl] at hc
  simp only [List.mem_cons, List.not_mem_nil, or_false] at hc
  omega
theorem cut_len40 {xs : List Int} : (cut xs (some 1) (some 41)).length ≤ 40 := cut_lenC (by decide) (by decide)
theorem law_true (ns : List Int) (hn : ns.length ≤ 63) : law_m ns = true := by
  unfold law_m
  simp only [lt_eq]
  rw [loop_unit fun x hx => ?_]
  · simp only [bndV]
    rw [loop_unit fun x hx => rfl]
  · rw [told_true]
    rfl
end Lw
set_option Elab.async false
set_option linter.all false
set_option maxRecDepth 100000
set_option maxHeartbeats 4000000
namespace Lw
open PySem L2 Sx
section
variable {P : Program} {w : World} {K : PySem.W.Frag} {mg : Str → Option Value} {base : Heap} {c : Cs}

theorem g_Net_known (T : Top K mg c) : GloM P w K mg base 1 c.Net "known" ["self", "house"] (Pu K (fun a : (List Str × List Road) × Str => (fun (self : List Str × List Road) (house : Str) => house ∈ self.1) a.1 a.2) (fun a => [((netD c) a.1), (D.str a.2)]) (fun a => D.non)) :=
  glom_of T.d_Net_known T.c_Net.cl (fun _ _ _ _ _ _ us hl => match us, hl with | [_, _], _ => rfl) fun f fd F => fn_ok F cs_Net_known (fun _ => rfl) fun cdv A outer s H E a hr hok => by
    have nd := cs_Net_known.nd
    obtain ⟨self, house⟩ := a
    have hok : house ∈ self.1 := hok
    refine Blk.imp (show Bo _ _ _ [some ((netD c) self), some (D.str house)] _ (Rv (PuR (fun x : Unit => D.non))) (Net_known_m self house) from ?_) (fun _ _ h => h) (fun _ _ h => h) (fun _ _ h => h.elim) (fun _ _ h => h.elim) (fun _ _ _ _ h => h.elim)
    unfold Net_known_m
    refine bo_ifD (ts_cmp op_notIn_seq (px_var (pv 1) rfl) (px_fld (px_var (pv 0) rfl) T.c_Net.cl T.n_Net_names look_names) (o_ninS (.inl rfl))) (by rw [decide_eq_true hok]; rfl) ?_
    -- if1f
    exact bo_end rfl

theorem g_Net_road (T : Top K mg c) : GloM P w K mg base 1 c.Net "road" ["self", "number"] (Pu K (fun a : (List Str × List Road) × Int => (fun (self : List Str × List Road) (number : Int) => 0 ≤ number ∧ number < (self.2.length : Int)) a.1 a.2) (fun a => [((netD c) a.1), (D.int a.2)]) (fun a => (roadD (Net_road_m a.1 a.2)))) :=
  glom_of T.d_Net_road T.c_Net.cl (fun _ _ _ _ _ _ us hl => match us, hl with | [_, _], _ => rfl) fun f fd F => fn_ok F cs_Net_road (fun _ => rfl) fun cdv A outer s H E a hr hok => by
    have nd := cs_Net_road.nd
    obtain ⟨self, number⟩ := a
    have hok : 0 ≤ number ∧ number < (self.2.length : Int) := hok
    refine Blk.imp (show Bo _ _ _ [some ((netD c) self), some (D.int number)] _ (Rt (PuR roadD)) (Net_road_m self number) from ?_) (fun _ _ h => h.elim) (fun _ _ h => h) (fun _ _ h => h.elim) (fun _ _ h => h.elim) (fun _ _ _ _ h => h.elim)
    unfold Net_road_m
    refine bo_ifD (ts_not (ts_chain op_le op_lt px_int (px_var (pv 1) rfl) o_le (px_bi call_len_seq T.z_len (pa_c (px_fld (px_var (pv 0) rfl) T.c_Net.cl T.n_Net_lines look_lines) pa_n) (o_lenM .f)) (fun _ => o_lt))) (by rw [decide_eq_true hok.1, decide_eq_true hok.2]; rfl) ?_
    -- if1f
    exact bo_ret (px_ix ix_list (px_fld (px_var (pv 0) rfl) T.c_Net.cl T.n_Net_lines look_lines) (px_var (pv 1) rfl) (o_ixM roadD (x0 := ("", "", 0, 0)) .f /-lo1-/(by omega) /-hi1-/(by omega)))

theorem g_Net_houses (T : Top K mg c) : GloM P w K mg base 1 c.Net "houses" ["self"] (Fr K (fun a : (List Str × List Road) => True) (fun a => [((netD c) a)]) (fun a => (Net_houses_m a).map D.str)) :=
  glom_of T.d_Net_houses T.c_Net.cl (fun _ _ _ _ _ _ us hl => match us, hl with | [_], _ => rfl) fun f fd F => fn_ok F cs_Net_houses (fun _ => rfl) fun cdv A outer s H E a hr hok => by
    have nd := cs_Net_houses.nd
    revert hok; revert a; intro self hok
    refine Blk.imp (show Bo _ _ _ [some ((netD c) self)] _ (Rt (FrR K D.str)) (Net_houses_m self) from ?_) (fun _ _ h => h.elim) (fun _ _ h => h) (fun _ _ h => h.elim) (fun _ _ h => h.elim) (fun _ _ _ _ h => h.elim)
    unfold Net_houses_m
    exact bo_retL (ev_listOf (px_fld (px_var (pv 0) rfl) T.c_Net.cl T.n_Net_names look_names) .f T.z_list)

theorem g_Net_out_of (T : Top K mg c) : GloM P w K mg base 2 c.Net "out_of" ["self", "house"] (Fr K (fun a : (List Str × List Road) × Str => (fun (self : List Str × List Road) (house : Str) => house ∈ self.1 ∧ self.2.length ≤ 40) a.1 a.2) (fun a => [((netD c) a.1), (D.str a.2)]) (fun a => (Net_out_of_m a.1 a.2).map D.int)) :=
  glom_of T.d_Net_out_of T.c_Net.cl (fun _ _ _ _ _ _ us hl => match us, hl with | [_, _], _ => rfl) fun f fd F => fn_ok F cs_Net_out_of (fun _ => rfl) fun cdv A outer s H E a hr hok => by
    have nd := cs_Net_out_of.nd
    obtain ⟨self, house⟩ := a
    have hok : house ∈ self.1 ∧ self.2.length ≤ 40 := hok
    refine Blk.imp (show Bo _ _ _ [some ((netD c) self), some (D.str house), none, none] _ (Rt (FrR K D.int)) (Net_out_of_m self house) from ?_) (fun _ _ h => h.elim) (fun _ _ h => h) (fun _ _ h => h.elim) (fun _ _ h => h.elim) (fun _ _ _ _ h => h.elim)
    unfold Net_out_of_m
    refine bo_do (px_meth (g_Net_known T) hr (by decide) (self, house) /-ok_known_1-/(hok.1) (px_var (pv 0) rfl) (look_none (by decide +kernel) (by decide +kernel)) (pa_c (px_var (pv 1) rfl) pa_n) rfl) ?_
    exact bo_retL (ev_lcF (own := [("number", 2), ("one", 3)]) (gt := gTup K 2 (gCons (gName 2) (gCons (gName 3) gNil))) (is := [2, 3]) (fun x : Int × Road => D.tup [(D.int x.1), (roadD x.2)]) D.int (fun z1 : Int × Road => (decide (z1.2.1 = house))) (fun z1 : Int × Road => z1.1) rfl nd (Itw.to (it_enum (px_fld (px_var (pv 0) rfl) T.c_Net.cl T.n_Net_lines look_lines) T.z_enumerate) enumI_map) (blkOk_by (N := ns_Net_out_of) (sc := defScope s_Net_out_of) (by decide +kernel)) (fun _ _ _ _ _ => (pg_tup rfl (pgs_cons (pg_name (i := 2) nd rfl (.inl rfl)) (pgs_cons (pg_name (i := 3) nd rfl (.inl rfl)) pgs_nil)))) (by decide) /-csz1-/(by first | omega | (rw [rngI_len]; omega) | (rw [enumI_len]; omega) | (rw [List.length_zip]; omega)) (fun i z1 hz1 => by
      have hz11 := (enumI_get hz1).1
      have hz12 := (enumI_get hz1).2
      have hz1m := List.mem_of_getElem? hz12
      have hz1l := (List.getElem?_eq_some_iff.mp hz12).1
      exact ⟨_, tg_tup rfl rfl, fun _ _ _ _ _ => (ts_cmp op_eq (px_ix ix_tup (px_var (pv 3) rfl) px_int (o_ixT (d := (D.str z1.2.1)) rfl)) (px_var (pv 1) rfl) o_eqS), fun hcz1 => fun _ _ _ _ _ => (px_var (pv 2) rfl)⟩))

theorem g_Net_into (T : Top K mg c) : GloM P w K mg base 2 c.Net "into" ["self", "house"] (Fr K (fun a : (List Str × List Road) × Str => (fun (self : List Str × List Road) (house : Str) => house ∈ self.1 ∧ self.2.length ≤ 40) a.1 a.2) (fun a => [((netD c) a.1), (D.str a.2)]) (fun a => (Net_into_m a.1 a.2).map D.int)) :=
  glom_of T.d_Net_into T.c_Net.cl (fun _ _ _ _ _ _ us hl => match us, hl with | [_, _], _ => rfl) fun f fd F => fn_ok F cs_Net_into (fun _ => rfl) fun cdv A outer s H E a hr hok => by
    have nd := cs_Net_into.nd
    obtain ⟨self, house⟩ := a
    have hok : house ∈ self.1 ∧ self.2.length ≤ 40 := hok
    refine Blk.imp (show Bo _ _ _ [some ((netD c) self), some (D.str house), none, none] _ (Rt (FrR K D.int)) (Net_into_m self house) from ?_) (fun _ _ h => h.elim) (fun _ _ h => h) (fun _ _ h => h.elim) (fun _ _ h => h.elim) (fun _ _ _ _ h => h.elim)
    unfold Net_into_m
    refine bo_do (px_meth (g_Net_known T) hr (by decide) (self, house) /-ok_known_1-/(hok.1) (px_var (pv 0) rfl) (look_none (by decide +kernel) (by decide +kernel)) (pa_c (px_var (pv 1) rfl) pa_n) rfl) ?_
    exact bo_retL (ev_lcF (own := [("number", 2), ("one", 3)]) (gt := gTup K 2 (gCons (gName 2) (gCons (gName 3) gNil))) (is := [2, 3]) (fun x : Int × Road => D.tup [(D.int x.1), (roadD x.2)]) D.int (fun z1 : Int × Road => (decide (z1.2.2.1 = house))) (fun z1 : Int × Road => z1.1) rfl nd (Itw.to (it_enum (px_fld (px_var (pv 0) rfl) T.c_Net.cl T.n_Net_lines look_lines) T.z_enumerate) enumI_map) (blkOk_by (N := ns_Net_into) (sc := defScope s_Net_into) (by decide +kernel)) (fun _ _ _ _ _ => (pg_tup rfl (pgs_cons (pg_name (i := 2) nd rfl (.inl rfl)) (pgs_cons (pg_name (i := 3) nd rfl (.inl rfl)) pgs_nil)))) (by decide) /-csz1-/(by first | omega | (rw [rngI_len]; omega) | (rw [enumI_len]; omega) | (rw [List.length_zip]; omega)) (fun i z1 hz1 => by
      have hz11 := (enumI_get hz1).1
      have hz12 := (enumI_get hz1).2
      have hz1m := List.mem_of_getElem? hz12
      have hz1l := (List.getElem?_eq_some_iff.mp hz12).1
      exact ⟨_, tg_tup rfl rfl, fun _ _ _ _ _ => (ts_cmp op_eq (px_ix ix_tup (px_var (pv 3) rfl) px_int (o_ixT (d := (D.str z1.2.2.1)) rfl)) (px_var (pv 1) rfl) o_eqS), fun hcz1 => fun _ _ _ _ _ => (px_var (pv 2) rfl)⟩))

theorem g_law_whole (T : Top K mg c) : Glo P w K mg base 1 "_law_whole" ["_law_found"] (Pu K (fun a : List Int => (fun (found : List Int) => found.length ≤ 1000) a) (fun a => [((lstE D.int) a)]) (fun a => (D.bl (law_whole_m a)))) :=
  glo_of T.d_law_whole (fun _ _ _ _ _ _ us hl => match us, hl with | [_], _ => rfl) fun f fd F => fn_ok F cs_law_whole (fun _ => rfl) fun cdv A outer s H E a hr hok => by
    have nd := cs_law_whole.nd
    revert hok; revert a; intro found hok
    have hok : found.length ≤ 1000 := hok
    refine Blk.imp (show Bo _ _ _ [some ((lstE D.int) found), none] _ (Rt (PuR D.bl)) (law_whole_m found) from ?_) (fun _ _ h => h.elim) (fun _ _ h => h) (fun _ _ h => h.elim) (fun _ _ h => h.elim) (fun _ _ _ _ h => h.elim)
    unfold law_whole_m
    exact bo_ret (px_bi (cr_all rfl) T.z_all (pa_c (px_lcM (own := [("_law_one", 1)]) (is := [1]) D.int D.bl (fun z1 : Int => (true && (!false))) rfl nd (it_list (px_var (pv 0) rfl)) (blkOk_by (N := ns_law_whole) (sc := defScope s_law_whole) (by decide +kernel)) (fun _ _ _ _ _ => (pg_name (i := 1) nd rfl (.inl rfl))) (by decide) /-csz1-/(by first | omega | (rw [rngI_len]; omega) | (rw [enumI_len]; omega) | (rw [List.length_zip]; omega)) (fun i z1 hz1 => by
      have hz1m := List.mem_of_getElem? hz1
      have hz1l := (List.getElem?_eq_some_iff.mp hz1).1
      exact ⟨_, tg_name, fun _ _ _ _ _ => (px_and (px_isT "int" "int" true T.z_isinstance T.z_int (px_var (pv 1) rfl)) fun hb1 => (px_one (px_not (px_isT "bool" "int" false T.z_isinstance T.z_bool (px_var (pv 1) rfl)))))⟩)) pa_n) (o_all .f))

end
end Lw
set_option Elab.async false
set_option linter.all false
set_option maxRecDepth 100000
set_option maxHeartbeats 4000000
namespace Lw
open PySem L2 Sx
/-! ### the walk: refusals -/
section
variable {P : Program} {w : World} {K : PySem.W.Frag} {mg : Str → Option Value} {base : Heap} {c : Cs}
abbrev NetT := List Str × List Road
abbrev noHouse (c : Cs) : NetT × Str → Value → Option Addr → List Res → Prop := fun _ cls d l => cls = .ref c.NoHouse ∧ d = none ∧ l = []
theorem g_known_bad (T : Top K mg c) : GloMX P w K mg base 1 c.Net "known" ["self", "house"] (FnX K (fun a : NetT × Str => a.2 ∉ a.1.1) (fun a => [netD c a.1, .str a.2]) (fun _ => []) (fun _ _ _ => False) (noHouse c)) :=
  glomx_of T.d_Net_known T.c_Net.cl (fun _ _ _ _ _ _ us hl => match us, hl with | [_, _], _ => rfl) fun f fd F => fn_okX F cs_Net_known (fun _ => rfl) fun cdv A outer s H E a hr hok => by
    obtain ⟨n, x⟩ := a
    have hok : x ∉ n.1 := hok
    refine blk_if (k := true) (Ts.to (ts_cmp op_notIn_seq (px_var (pv 1) rfl) (px_fld (px_var (pv 0) rfl) T.c_Net.cl T.n_Net_names look_names) (o_ninS (.inl rfl))) (by rw [decide_eq_false hok]; rfl)) (fun _ => ?_) (fun h => by cases h)
    exact blk_raise rfl takes_cx T.x_NoHouse T.xi_NoHouse ⟨rfl, rfl, rfl⟩
section
variable {X : Cx} {W : WX} {g : Gm} {l : List Res} {e o : Expr} {pos apos : Pos} {j : Nat} {n : NetT} {x y : Str} {pl : Sem Bool}
theorem exv_known (T : Top X.K X.mg c) (tk : Takes X W) (hr : Room j X.A) (hj : 1 ≤ j) (h : x ∉ n.1) (ho : Px X o g l (netD c n)) (he : Px X e g l (.str x)) (hst : starEach [e] X.env = (false, eval e X.env) :: starEach [] X.env := by rfl) (ht : MthE X o "known" apos pos [e] pl := by rfl) :
    Exv X W (.Call (.Attribute o "known" apos) [e] [] pos) g l (fun _ _ => False) (fun cls d l' => cls = .ref c.NoHouse ∧ d = none ∧ l' = l) :=
  exv_meth (lr := l) (own := fun _ => []) tk (g_known_bad T) hr hj (n, x) h ho (rc_ins (look_none (by decide +kernel) (by decide +kernel))) (pa_c he pa_n hst) rfl (fun d l' h => h) (fun cls d l' h => ⟨h.1, h.2.1, by rw [h.2.2]; rfl⟩) hst (by rfl) ht
end
theorem g_out_bad (T : Top K mg c) : GloMX P w K mg base 2 c.Net "out_of" ["self", "house"] (FnX K (fun a : NetT × Str => a.2 ∉ a.1.1) (fun a => [netD c a.1, .str a.2]) (fun _ => []) (fun _ _ _ => False) (noHouse c)) :=
  glomx_of T.d_Net_out_of T.c_Net.cl (fun _ _ _ _ _ _ us hl => match us, hl with | [_, _], _ => rfl) fun f fd F => fn_okX F cs_Net_out_of (fun _ => rfl) fun cdv A outer s H E a hr hok =>
    blk_exprX (exv_known T takes_cx hr (by decide) hok (px_var (pv 0) rfl) (px_var (pv 1) rfl)) (fun _ _ h => h.elim) fun _ _ _ h => h
theorem g_into_bad (T : Top K mg c) : GloMX P w K mg base 2 c.Net "into" ["self", "house"] (FnX K (fun a : NetT × Str => a.2 ∉ a.1.1) (fun a => [netD c a.1, .str a.2]) (fun _ => []) (fun _ _ _ => False) (noHouse c)) :=
  glomx_of T.d_Net_into T.c_Net.cl (fun _ _ _ _ _ _ us hl => match us, hl with | [_, _], _ => rfl) fun f fd F => fn_okX F cs_Net_into (fun _ => rfl) fun cdv A outer s H E a hr hok =>
    blk_exprX (exv_known T takes_cx hr (by decide) hok (px_var (pv 0) rfl) (px_var (pv 1) rfl)) (fun _ _ h => h.elim) fun _ _ _ h => h
theorem g_far_bad (T : Top K mg c) : GloMX P w K mg base 2 c.Net "far" ["self", "house", "goal"] (FnX K (fun a : NetT × Str × Str => a.2.1 ∉ a.1.1 ∨ a.2.1 ∈ a.1.1 ∧ a.2.2 ∉ a.1.1) (fun a => [netD c a.1, .str a.2.1, .str a.2.2]) (fun _ => []) (fun _ _ _ => False) (fun _ cls d l => cls = .ref c.NoHouse ∧ d = none ∧ l = [])) :=
  glomx_of T.d_Net_far T.c_Net.cl (fun _ _ _ _ _ _ us hl => match us, hl with | [_, _, _], _ => rfl) fun f fd F => fn_okX F cs_Net_far (fun _ => rfl) fun cdv A outer s H E a hr hok => by
    obtain ⟨n, x, y⟩ := a
    have hok : x ∉ n.1 ∨ x ∈ n.1 ∧ y ∉ n.1 := hok
    rcases hok with h | ⟨h1, h2⟩
    · exact blk_exprX (exv_known T takes_cx hr (by decide) h (px_var (pv 0) rfl) (px_var (pv 1) rfl)) (fun _ _ h => h.elim) fun _ _ _ h => h
    · refine blk_do (px_meth (g_Net_known T) hr (by decide) (n, x) h1 (px_var (pv 0) rfl) (look_none (by decide +kernel) (by decide +kernel)) (pa_c (px_var (pv 1) rfl) pa_n) rfl) ?_
      exact blk_exprX (exv_known T takes_cx hr (by decide) h2 (px_var (pv 0) rfl) (px_var (pv 2) rfl)) (fun _ _ h => h.elim) fun _ _ _ h => h
theorem g_law_kept (T : Top K mg c) : Glo P w K mg base 3 "_law_kept" ["_law_net", "_law_house", "_law_goal", "_law_way"] (FnX K (fun a : NetT × Str × Str × Int => a.2.1 ∉ a.1.1 ∧ a.2.2.1 ∈ a.1.1 ∧ 0 ≤ a.2.2.2 ∧ a.2.2.2 < 4) (fun a => [netD c a.1, .str a.2.1, .str a.2.2.1, .int a.2.2.2]) (fun _ => []) (fun _ d l => ∃ p, d = .adr p ∧ l = [ownX p (.ref c.NoHouse) none]) noE) :=
  glo_of T.d_law_kept (fun _ _ _ _ _ _ us hl => match us, hl with | [_, _, _, _], _ => rfl) fun f fd F => fn_ok F cs_law_kept (fun _ => rfl) fun cdv A outer s H E a hr hok => by
    have nd := cs_law_kept.nd
    obtain ⟨n, x, y, way⟩ := a
    obtain ⟨hx, hy, h0, h4⟩ : x ∉ n.1 ∧ y ∈ n.1 ∧ 0 ≤ way ∧ way < 4 := hok
    refine blk_set nd (i := 4) rfl (.inl rfl) px_non ?_
    refine blk_try_keep (i := 5) (j := 4) (fun cls d g' l' => cls = .ref c.NoHouse ∧ d = none ∧ g' = [some (netD c n), some (.str x), some (.str y), some (.int way), some .non, none] ∧ l' = []) takes_no nd rfl rfl T.x_RoadError (fun W' pn xe t1 t2 => ?_) (fun cls d g' l' ⟨e1, e2, e3, e4⟩ => ?_)
    · refine blk_if (ts_cmp op_eq (px_var (pv 3) rfl) px_int o_eqI) (fun h => ?_) (fun h0' => blk_nil ?_)
      · exact blk_exprX (exv_meth (lr := []) (own := fun _ => []) t1 (g_out_bad T) hr (by decide) (n, x) hx (px_var (pv 0) rfl) (rc_ins (look_none (by decide +kernel) (by decide +kernel))) (pa_c (px_var (pv 1) rfl) pa_n) rfl (fun d l' h => h) (fun cls d l' h => ⟨h.1, h.2.1, by rw [h.2.2]; rfl⟩) (Psi := fun _ _ => False) (XP := fun cls d l' => cls = .ref c.NoHouse ∧ d = none ∧ l' = [])) (fun _ _ h => h.elim) (fun cls d l' h => ⟨h.1, h.2.1, rfl, h.2.2⟩)
      refine blk_if (ts_cmp op_eq (px_var (pv 3) rfl) px_int o_eqI) (fun h => ?_) (fun h1' => blk_nil ?_)
      · exact blk_exprX (exv_meth (lr := []) (own := fun _ => []) t1 (g_into_bad T) hr (by decide) (n, x) hx (px_var (pv 0) rfl) (rc_ins (look_none (by decide +kernel) (by decide +kernel))) (pa_c (px_var (pv 1) rfl) pa_n) rfl (fun d l' h => h) (fun cls d l' h => ⟨h.1, h.2.1, by rw [h.2.2]; rfl⟩) (Psi := fun _ _ => False) (XP := fun cls d l' => cls = .ref c.NoHouse ∧ d = none ∧ l' = [])) (fun _ _ h => h.elim) (fun cls d l' h => ⟨h.1, h.2.1, rfl, h.2.2⟩)
      refine blk_if (ts_cmp op_eq (px_var (pv 3) rfl) px_int o_eqI) (fun h => ?_) (fun h2' => blk_nil ?_)
      · exact blk_exprX (exv_meth (lr := []) (own := fun _ => []) t1 (g_far_bad T) hr (by decide) (n, x, y) (.inl hx) (px_var (pv 0) rfl) (rc_ins (look_none (by decide +kernel) (by decide +kernel))) (pa_c (px_var (pv 1) rfl) (pa_c (px_var (pv 2) rfl) pa_n)) rfl (fun d l' h => h) (fun cls d l' h => ⟨h.1, h.2.1, by rw [h.2.2]; rfl⟩) (Psi := fun _ _ => False) (XP := fun cls d l' => cls = .ref c.NoHouse ∧ d = none ∧ l' = [])) (fun _ _ h => h.elim) (fun cls d l' h => ⟨h.1, h.2.1, rfl, h.2.2⟩)
      have h3 : way = 3 := by
        have z0 : ¬ way = 0 := of_decide_eq_false h0'
        have z1 : ¬ way = 1 := of_decide_eq_false h1'
        have z2 : ¬ way = 2 := of_decide_eq_false h2'
        omega
      refine blk_if (k := true) (Ts.to (ts_cmp op_eq (px_var (pv 3) rfl) px_int o_eqI) (decide_eq_true h3)) (fun h => ?_) (fun h => by cases h)
      exact blk_exprX (exv_meth (lr := []) (own := fun _ => []) t1 (g_far_bad T) hr (by decide) (n, y, x) (.inr ⟨hy, hx⟩) (px_var (pv 0) rfl) (rc_ins (look_none (by decide +kernel) (by decide +kernel))) (pa_c (px_var (pv 2) rfl) (pa_c (px_var (pv 1) rfl) pa_n)) rfl (fun d l' h => h) (fun cls d l' h => ⟨h.1, h.2.1, by rw [h.2.2]; rfl⟩) (Psi := fun _ _ => False) (XP := fun cls d l' => cls = .ref c.NoHouse ∧ d = none ∧ l' = [])) (fun _ _ h => h.elim) (fun cls d l' h => ⟨h.1, h.2.1, rfl, h.2.2⟩)
    · subst e1; subst e2; subst e3; subst e4
      exact ⟨true, T.xm_NoHouse_RoadError, fun _ a => blk_ret (px_var (pv 4) rfl) ⟨a, rfl, rfl⟩, fun h => by cases h⟩
theorem g_law_refused (T : Top K mg c) : Glo P w K mg base 4 "_law_refused" ["_law_net", "_law_house", "_law_goal"] (Pu K (fun a : NetT × Str × Str => a.2.1 ∉ a.1.1 ∧ a.2.2 ∈ a.1.1) (fun a => [netD c a.1, .str a.2.1, .str a.2.2]) (fun _ => .bl true)) :=
  glo_of T.d_law_refused (fun _ _ _ _ _ _ us hl => match us, hl with | [_, _, _], _ => rfl) fun f fd F => fn_ok F cs_law_refused (fun _ => rfl) fun cdv A outer s H E a hr hok => by
    have nd := cs_law_refused.nd
    obtain ⟨n, x, y⟩ := a
    obtain ⟨hx, hy⟩ : x ∉ n.1 ∧ y ∈ n.1 := hok
    refine blk_for (is := [3]) (fun i g l => (∃ o3 o4, g = [some (netD c n), some (.str x), some (.str y), o3, o4]) ∧ l = []) PassesOwn.never rfl (it_range px_int (by decide) (by decide) T.z_range) (pg_name (i := 3) nd rfl (.inl rfl)) ⟨⟨none, none, rfl⟩, rfl⟩ (fun i d g l hd hI => ?_) (fun g l hI => ?_)
    · obtain ⟨⟨o3, o4, rfl⟩, rfl⟩ := hI
      obtain ⟨hi, rfl⟩ := rng_get hd
      have hi : i < 4 := hi
      refine ⟨_, tg_name, ?_⟩
      refine blk_setX nd (i := 4) rfl (.inl rfl) (ev_callV (g_law_kept T) hr (by decide) (n, x, y, 0 + (i : Int)) ⟨hx, hy, by dsimp only; omega, by dsimp only; omega⟩ (pa_c (px_var (pv 0) rfl) (pa_c (px_var (pv 1) rfl) (pa_c (px_var (pv 2) rfl) (pa_c (px_var (pv 3) rfl) pa_n))))) fun d l' ⟨l2, ⟨p, e1, e2⟩, e3⟩ => ?_
      subst e1; subst e2; subst e3
      have ec := T.x_NoHouse.ec
      refine blk_if (k := false) (ts_val (px_bi call_isKT T.z_isinstance (pa_c (px_var (pv 4) rfl) (pa_c (px_tup (pa_c (px_cls T.x_BadBag.nm) (pa_c (px_cls T.x_CutOff.nm) (pa_c (px_cls T.x_ManyGoals.nm) (pa_c (px_cls T.x_NoDay.nm) (pa_c (px_cls T.x_NoNet.nm) (pa_c (px_cls T.x_NoLetter.nm) (pa_c (px_cls T.x_NoRoad.nm) (pa_c (px_cls T.x_NoRow.nm) (pa_c (px_cls T.x_NoText.nm) (pa_c (px_cls T.x_NoWay.nm) pa_n))))))))))) pa_n)) (o_isKT (cs := [c.BadBag, c.CutOff, c.ManyGoals, c.NoDay, c.NoNet, c.NoLetter, c.NoRoad, c.NoRow, c.NoText, c.NoWay]) (k := 0) rfl ec (kit_no fun z hz => ?_)))) (fun h => by cases h) (fun _ => blk_nil ?_)
      · simp only [List.mem_cons, List.not_mem_nil, or_false] at hz
        rcases hz with rfl | rfl | rfl | rfl | rfl | rfl | rfl | rfl | rfl | rfl
        · exact T.xk_NoHouse_BadBag
        · exact T.xk_NoHouse_CutOff
        · exact T.xk_NoHouse_ManyGoals
        · exact T.xk_NoHouse_NoDay
        · exact T.xk_NoHouse_NoNet
        · exact T.xk_NoHouse_NoLetter
        · exact T.xk_NoHouse_NoRoad
        · exact T.xk_NoHouse_NoRow
        · exact T.xk_NoHouse_NoText
        · exact T.xk_NoHouse_NoWay
      refine blk_if (k := false) (ts_w (tw_or (k := false) (ts_not (ts_val (k := true) (px_bi call_isK T.z_isinstance (pa_c (px_var (pv 4) rfl) (pa_c (px_cls T.x_NoHouse.nm) pa_n)) (o_isK (k := 0) rfl ec T.xk_NoHouse_NoHouse)))) fun _ => tw_or1 (ts_not (ts_val (k := true) (px_bi call_isK T.z_isinstance (pa_c (px_var (pv 4) rfl) (pa_c (px_tyn T.z_ValueError) pa_n)) (o_isKt (k := 0) rfl ec T.xv_NoHouse)))))) (fun h => by cases h) (fun _ => blk_nil ?_)
      exact Blk.dropO (l' := [ownX p (.ref c.NoHouse) none]) (l := []) (blk_nil ⟨⟨_, _, rfl⟩, rfl⟩)
    · obtain ⟨⟨o3, o4, rfl⟩, rfl⟩ := hI
      exact blk_ret px_bl ⟨rfl, rfl⟩
end
end Lw
set_option Elab.async false
set_option linter.all false
set_option maxRecDepth 100000
set_option maxHeartbeats 4000000
namespace Lw
open PySem L2 Sx
section
variable {P : Program} {w : World} {K : PySem.W.Frag} {mg : Str → Option Value} {base : Heap} {c : Cs}

theorem g_law_told (T : Top K mg c) : Glo P w K mg base 4 "_law_told" ["_law_net", "_law_house", "_law_roads_here"] (Pu K (fun a : (List Str × List Road) × Str × List Road => (fun (net : List Str × List Road) (house : Str) (roads : List Road) => house ∈ net.1 ∧ net.2.length ≤ 40 ∧ roads.length ≤ 40) a.1 a.2.1 a.2.2) (fun a => [((netD c) a.1), (D.str a.2.1), ((lstE roadD) a.2.2)]) (fun a => (D.bl (law_told_m a.1 a.2.1 a.2.2)))) :=
  glo_of T.d_law_told (fun _ _ _ _ _ _ us hl => match us, hl with | [_, _, _], _ => rfl) fun f fd F => fn_ok F cs_law_told (fun _ => rfl) fun cdv A outer s H E a hr hok => by
    have nd := cs_law_told.nd
    obtain ⟨net, house, roads⟩ := a
    have hok : house ∈ net.1 ∧ net.2.length ≤ 40 ∧ roads.length ≤ 40 := hok
    refine Blk.imp (show Bo _ _ _ [some ((netD c) net), some (D.str house), some ((lstE roadD) roads), none, none, none, none, none, none] _ (Rt (PuR D.bl)) (law_told_m net house roads) from ?_) (fun _ _ h => h.elim) (fun _ _ h => h) (fun _ _ h => h.elim) (fun _ _ h => h.elim) (fun _ _ _ _ h => h.elim)
    unfold law_told_m
    refine bo_lcF (own := [("_law_k", 8)]) (is := [8]) D.int D.int (fun z1 : Int => (decide ((roads.getD (z1).toNat ("", "", 0, 0)).1 = house))) (fun z1 : Int => z1) nd (i := 3) rfl rfl (by exact Nat.le_of_ble_eq_true rfl) rfl (Itw.to (it_range (px_bi call_len_seq T.z_len (pa_c (px_var (pv 2) rfl) pa_n) (o_lenM .f)) /-rlo1-/(by omega) /-rhi1-/(by omega) T.z_range) rngI_map) (blkOk_by (N := ns_law_told) (sc := defScope s_law_told) (by decide +kernel)) (fun _ _ _ _ _ => (pg_name (i := 8) nd rfl (.inl rfl))) (by decide) /-csz1-/(by first | omega | (rw [rngI_len]; omega) | (rw [enumI_len]; omega) | (rw [List.length_zip]; omega)) (fun i z1 hz1 => by
      have hz11 := (rngI_get hz1).1
      have hz12 := (rngI_get hz1).2
      exact ⟨_, tg_name, fun _ _ _ _ _ => (ts_cmp op_eq (px_ix ix_tup (px_ix ix_list (px_var (pv 2) rfl) (px_var (pv 8) rfl) (o_ixM roadD (x0 := ("", "", 0, 0)) .f /-lo1-/(by omega) /-hi1-/(by omega))) px_int (o_ixT (d := (D.str ((roads.getD (z1).toNat ("", "", 0, 0)).1))) rfl)) (px_var (pv 1) rfl) o_eqS), fun hcz1 => fun _ _ _ _ _ => (px_var (pv 8) rfl)⟩) (fun due hdue => ?_)
    refine bo_lcF (own := [("_law_k", 8)]) (is := [8]) D.int D.int (fun z2 : Int => (decide ((roads.getD (z2).toNat ("", "", 0, 0)).2.1 = house))) (fun z2 : Int => z2) nd (i := 4) rfl rfl (by exact Nat.le_of_ble_eq_true rfl) rfl (Itw.to (it_range (px_bi call_len_seq T.z_len (pa_c (px_var (pv 2) rfl) pa_n) (o_lenM .f)) /-rlo2-/(by omega) /-rhi2-/(by omega) T.z_range) rngI_map) (blkOk_by (N := ns_law_told) (sc := defScope s_law_told) (by decide +kernel)) (fun _ _ _ _ _ => (pg_name (i := 8) nd rfl (.inl rfl))) (by decide) /-csz2-/(by first | omega | (rw [rngI_len]; omega) | (rw [enumI_len]; omega) | (rw [List.length_zip]; omega)) (fun i z2 hz2 => by
      have hz21 := (rngI_get hz2).1
      have hz22 := (rngI_get hz2).2
      exact ⟨_, tg_name, fun _ _ _ _ _ => (ts_cmp op_eq (px_ix ix_tup (px_ix ix_list (px_var (pv 2) rfl) (px_var (pv 8) rfl) (o_ixM roadD (x0 := ("", "", 0, 0)) .f /-lo2-/(by omega) /-hi2-/(by omega))) px_int (o_ixT (d := (D.str ((roads.getD (z2).toNat ("", "", 0, 0)).2.1))) rfl)) (px_var (pv 1) rfl) o_eqS), fun hcz2 => fun _ _ _ _ _ => (px_var (pv 8) rfl)⟩) (fun other hother => ?_)
    refine bo_forV (is := [5]) D.int (fun s1 : Unit => [some ((netD c) net), some (D.str house), some ((lstE roadD) roads), some ((lstE D.int) due), some ((lstE D.int) other), none, none, none, none]) (fun s1 : Unit => []) (fun _ _ => True) (fun _ => True) PassesOwn.never rfl (Itw.to (it_range px_int /-rlo3-/(by omega) /-rhi3-/(by omega) T.z_range) rngI_map) (pg_name (i := 5) nd rfl (.inl rfl)) (.keep (.keep (.keep (.keep (.keep (.any (.any (.any (.any .nil))))))))) rfl trivial (fun i1 x1 s1 hx1 hp1 hj1 => ?_) (fun _ _ => trivial) (fun s1 hs1 hj1e => ?_)
    · -- for1
      have hx11 := (rngI_get hx1).1
      have hx12 := (rngI_get hx1).2
      refine ⟨⟨fun _ _ => trivial, fun _ _ => trivial, fun _ _ => trivial⟩, _, tg_name, ?_⟩
      refine bo_setL D.int nd (i := 6) rfl (.inl rfl) (ev_methM (g_Net_out_of T) hr (by decide) (net, house) /-ok_out_of_1-/(⟨hok.1, hok.2.1⟩) (px_var (pv 0) rfl) (look_none (by decide +kernel) (by decide +kernel)) (pa_c (px_var (pv 1) rfl) pa_n) rfl) (fun q found hfound => ?_)
      have hfl : found.length ≤ 40 := by rw [hfound]; exact Nat.le_trans out_len hok.2.1
      refine bo_setL D.int nd (i := 7) rfl (.inl rfl) (ev_methM (g_Net_into T) hr (by decide) (net, house) /-ok_into_1-/(⟨hok.1, hok.2.1⟩) (px_var (pv 0) rfl) (look_none (by decide +kernel) (by decide +kernel)) (pa_c (px_var (pv 1) rfl) pa_n) rfl) (fun q_2 back hback => ?_)
      have hbl : back.length ≤ 40 := by rw [hback]; exact Nat.le_trans into_len hok.2.1
      refine bo_ifO (ts_w (tw_or (ts_not (ts_val (px_isO "list" true T.z_isinstance T.z_list (px_var (pv 6) rfl) (k := 1) rfl))) fun hb3 => (tw_or (ts_not (ts_val (px_isO "list" true T.z_isinstance T.z_list (px_var (pv 7) rfl) (k := 0) rfl))) fun hb2 => (tw_or (ts_cmp (op_neD hr.units) (px_var (pv 6) rfl) (px_var (pv 3) rfl) (o_neLE eqs_int (.o (k := 1) rfl) .f /-eqk1-/(by simp) /-eqk2-/(by simp))) fun hb1 => (tw_or1 (ts_cmp (op_neD hr.units) (px_var (pv 7) rfl) (px_var (pv 4) rfl) (o_neLE eqs_int (.o (k := 0) rfl) .f /-eqk3-/(by simp) /-eqk4-/(by simp)))))))) (fun hi1 => ?_) (fun hi1 => ?_)
      · -- if1t
        exact bo_retO px_bl
      · -- if1f
        refine bo_ifO (ts_w (tw_or (ts_not (ts_val (px_brw (i := 6) (k := 1) rfl rfl rfl (px_call (g_law_whole T) hr (by decide) found /-ok_whole_1-/(by dsimp only; omega) (pa_c (px_var (pv 6) rfl) pa_n))))) fun hb4 => (tw_or1 (ts_not (ts_val (px_brw (i := 7) (k := 0) rfl rfl rfl (px_call (g_law_whole T) hr (by decide) back /-ok_whole_2-/(by dsimp only; omega) (pa_c (px_var (pv 7) rfl) pa_n)))))))) (fun hi2 => ?_) (fun hi2 => ?_)
        · -- if2t
          exact bo_retO px_bl
        · -- if2f
          refine bo_app (kk := 1) D.int (px_var (pv 6) rfl) rfl px_int /-app2-/(by omega) (fun found_2 hfound_2 => ?_)
          refine bo_app (kk := 0) D.int (px_var (pv 7) rfl) rfl px_int /-app1-/(by omega) (fun back_2 hback_2 => ?_)
          refine bo_dropN 2 ?_
          exact bo_nxO (.keep (.keep (.keep (.keep (.keep (.any (.any (.any (.any .nil))))))))) rfl
    -- behind for1
    exact bo_ret px_bl

abbrev lvl : Nat := 6
theorem ok_law0 (T : Top K mg c) (H0 : ∀ ns : List Int, ns.length ≤ 63 → law_m ns = true) {f : Addr} {fd : FuncData} (F : Fun K "law" "law" s_law f fd) : FnOk P w K mg base CX0 lvl f fd ["_law_script"] (spL K) :=
  fn_ok F cs_law (fun _ => rfl) fun cdv A outer s H E a hr hok => by
    have nd := cs_law.nd
    revert hok; revert a; intro script hok
    have hok : script.length ≤ 63 := hok
    refine Blk.imp (show Bo _ _ _ [some (D.scr (script.map D.int)), none, none, none, none] _ (Rt (PuR D.bl)) (law_m script) from ?_) (fun _ _ h => h.elim) (fun _ _ h => ⟨h.1.trans (congrArg D.bl (H0 script hok)), h.2⟩) (fun _ _ h => h.elim) (fun _ _ h => h.elim) (fun _ _ _ _ h => h.elim)
    unfold law_m
    refine bo_set (lstE D.str) nd (i := 1) rfl (.inl rfl) (px_callL (g_housesA T) hr (by decide) ((cellAt script 0), (1 + ((cellAt script 0) % 12))) /-ok_houses_1-/(show 0 ≤ _ by omega) (pa_c (px_call (g_at T) hr (by decide) (script, 0) /-ok_at_1-/(by dsimp only; omega) (pa_c (px_var (pv 0) rfl) (pa_c px_int pa_n))) (pa_c (px_op op_add px_int (px_op op_mod (px_call (g_at T) hr (by decide) (script, 0) /-ok_at_2-/(by dsimp only; omega) (pa_c (px_var (pv 0) rfl) (pa_c px_int pa_n))) px_int (o_mod (j := 12))) o_add) pa_n))) (fun houses hhouses => ?_)
    have h1 : 1 ≤ 1 + cellAt script 0 % 12 ∧ 1 + cellAt script 0 % 12 ≤ 12 := by omega
    have oh : OkH houses := by rw [hhouses]; exact housesA_ok (by omega)
    have hl : houses.length = (1 + cellAt script 0 % 12).toNat := by rw [hhouses]; exact housesA_len (by omega)
    have hcl : (cut script (some 1) (some 41)).length ≤ 40 := cut_len40
    have hz : (houses.getD 0 "").length ≤ 8 := (oh.ok _ (getD_mem (i := 0) (by omega) (by omega))).hi
    have hz2 : (houses.getD (Int.toNat 0) "").length ≤ 8 := hz
    refine bo_set (lstE roadD) nd (i := 2) rfl (.inl rfl) (px_callL (g_roadsA T) hr (by decide) ((cut script (some 1) (some 41)), houses, 9) /-ok_roads_1-/(⟨by dsimp only; omega, by dsimp only; omega⟩) (pa_c (px_slM D.int (px_var (pv 0) rfl) .s (pz_s px_int) (pz_s px_int)) (pa_c (px_var (pv 1) rfl) (pa_c px_int pa_n)))) (fun roads hroads => ?_)
    have og : OkG (houses, roads) := by rw [hroads]; exact roadsA_ok oh (by decide) hcl
    have hrl : roads.length ≤ 40 := og.le
    refine bo_set (netD c) nd (i := 3) rfl (.inl rfl) (px_Net (hs := houses) (rs := roads) T hr (by decide) /-net1-/(og) (px_var (pv 1) rfl) (px_var (pv 2) rfl)) (fun net hnet => ?_)
    refine bo_forV (is := [4]) D.str (fun s1 : Unit => [some (D.scr (script.map D.int)), some ((lstE D.str) houses), some ((lstE roadD) roads), some ((netD c) net), none]) (fun s1 : Unit => []) (fun _ _ => True) (fun _ => True) PassesOwn.never rfl (it_list (px_var (pv 1) rfl)) (pg_name (i := 4) nd rfl (.inl rfl)) (.keep (.keep (.keep (.keep (.any .nil))))) rfl trivial (fun i1 x1 s1 hx1 hp1 hj1 => ?_) (fun _ _ => trivial) (fun s1 hs1 hj1e => ?_)
    · -- for1
      have hx1m := List.mem_of_getElem? hx1
      have hx1l := (List.getElem?_eq_some_iff.mp hx1).1
      refine ⟨⟨fun _ _ => trivial, fun _ _ => trivial, fun _ _ => trivial⟩, _, tg_name, ?_⟩
      refine bo_if (ts_not (ts_val (px_call (g_law_told T) hr (by decide) (net, x1, roads) /-ok_told_1-/(⟨by rw [hnet]; exact hx1m, by rw [hnet]; exact og.le, og.le⟩) (pa_c (px_var (pv 3) rfl) (pa_c (px_var (pv 4) rfl) (pa_c (px_var (pv 2) rfl) pa_n)))))) (fun hi1 => ?_) (fun hi1 => ?_)
      · -- if1t
        exact bo_retO px_bl
      · -- if1f
        exact bo_nxO (.keep (.keep (.keep (.keep (.any .nil))))) rfl
    -- behind for1
    refine bo_forV (is := [4]) D.str (fun s2 : Unit => [some (D.scr (script.map D.int)), some ((lstE D.str) houses), some ((lstE roadD) roads), some ((netD c) net), none]) (fun s2 : Unit => []) (fun _ _ => True) (fun _ => True) PassesOwn.never rfl (it_list (px_lst (pa_c px_str (pa_c px_str (pa_c (px_op op_add_str (px_slS (px_ix ix_list (px_var (pv 1) rfl) px_int (o_ixM D.str (x0 := "") .f /-lo1-/(by omega) /-hi1-/(by omega))) /-ssz2-/(szS (by omega)) pz_n (pz_s (px_op op_sub (px_bi call_len_str T.z_len (pa_c (px_ix ix_list (px_var (pv 1) rfl) px_int (o_ixM D.str (x0 := "") .f /-lo2-/(by omega) /-hi2-/(by omega))) pa_n) (o_lenS /-ssz1-/(szS (by omega)))) px_int o_sub))) px_str (o_addS /-cat1-/(szS (by have := cutS_length (houses.getD (Int.toNat 0) "") none (some (((houses.getD (Int.toNat 0) "").length : Int) - 1)); have e : ("A" : Str).length = 1 := rfl; omega)))) (pa_c (px_op op_add_str (px_ix ix_list (px_var (pv 1) rfl) px_int (o_ixM D.str (x0 := "") .f /-lo3-/(by omega) /-hi3-/(by omega))) px_str (o_addS /-cat2-/(szS (by have e : (" " : Str).length = 1 := rfl; omega)))) pa_n)))))) (pg_name (i := 4) nd rfl (.inl rfl)) (.keep (.keep (.keep (.keep (.any .nil))))) rfl trivial (fun i2 x2 s2 hx2 hp2 hj2 => ?_) (fun _ _ => trivial) (fun s2 hs2 hj2e => ?_)
    · -- for2
      have hx2m := List.mem_of_getElem? hx2
      have hx2l := (List.getElem?_eq_some_iff.mp hx2).1
      refine ⟨⟨fun _ _ => trivial, fun _ _ => trivial, fun _ _ => trivial⟩, _, tg_name, ?_⟩
      refine bo_if (ts_not (ts_val (px_call (g_law_refused T) hr (by decide) (net, x2, (houses.getD 0 "")) /-ok_refused_1-/(by rw [hnet]; exact ⟨bad_names hhouses h1 x2 hx2m, (show houses.getD 0 "" ∈ houses from getD_mem (i := 0) (by omega) (by omega))⟩) (pa_c (px_var (pv 3) rfl) (pa_c (px_var (pv 4) rfl) (pa_c (px_ix ix_list (px_var (pv 1) rfl) px_int (o_ixM D.str (x0 := "") .f /-lo4-/(by omega) /-hi4-/(by omega))) pa_n)))))) (fun hi2 => ?_) (fun hi2 => ?_)
      · -- if2t
        exact bo_retO px_bl
      · -- if2f
        exact bo_nxO (.keep (.keep (.keep (.keep (.any .nil))))) rfl
    -- behind for2
    exact bo_ret (px_call (g_law_refused T) hr (by decide) ((["solo"], []), (houses.getD 0 ""), "solo") /-ok_refused_2-/(⟨solo_not hhouses h1, List.mem_singleton.mpr rfl⟩) (pa_c (px_Net (hs := ["solo"]) (rs := []) T hr (by decide) /-net2-/(solo_ok) (px_lst (pa_c px_str pa_n)) (px_lst pa_n)) (pa_c (px_ix ix_list (px_var (pv 1) rfl) px_int (o_ixM D.str (x0 := "") .f /-lo5-/(by omega) /-hi5-/(by omega))) (pa_c px_str pa_n))))

end
end Lw
set_option Elab.async false
set_option linter.all false
set_option maxRecDepth 100000
set_option maxHeartbeats 4000000
namespace Lw
open PySem L2 Sx
section
variable {P : Program} {w : World} {K : PySem.W.Frag} {mg : Str → Option Value} {base : Heap} {c : Cs}
theorem ok_law (T : Top K mg c) {f : Addr} {fd : FuncData} (F : Fun K "law" "law" s_law f fd) : FnOk P w K mg base CX0 lvl f fd ["_law_script"] (spL K) := ok_law0 T law_true F
end
def hfn : List He.DefD := [dD "is_whole" s_is_whole, dD "is_name" s_is_name, dD "are_houses" s_are_houses, dD "is_road" s_is_road, dD "fars" s_fars, dD "_law_at" s_law_at, dD "_law_word" s_law_word, dD "_law_houses" s_law_houses, dD "_law_roads" s_law_roads, dD "_law_whole" s_law_whole, dD "_law_kept" s_law_kept, dD "_law_refused" s_law_refused, dD "_law_told" s_law_told, dD "law" s_law, dM "Net" "__init__" "Net.__init__" s_Net_init, dM "Net" "houses" "Net.houses" s_Net_houses, dM "Net" "roads" "Net.roads" s_Net_roads, dM "Net" "road" "Net.road" s_Net_road, dM "Net" "known" "Net.known" s_Net_known, dM "Net" "out_of" "Net.out_of" s_Net_out_of, dM "Net" "into" "Net.into" s_Net_into, dM "Net" "far" "Net.far" s_Net_far]
def hfa_0 : List He.Fa := [.free "ValueError", .free "all", .free "enumerate", .free "range", .free "isinstance", .free "int", .free "list", .free "len", .free "bool", .free "str", .free "tuple", .glo "is_whole", .glo "is_name", .glo "are_houses", .glo "is_road", .glo "fars", .glo "_law_at", .glo "_law_word", .glo "_law_houses", .glo "_law_roads", .glo "_law_whole", .glo "_law_kept", .glo "_law_refused", .glo "_law_told", .glo "law", .str "SMALL" "abcdefghijklmnopqrstuvwxyz", .int "MOST_HOUSES" 12, .int "MOST_ROADS" 40, .int "LONGEST" 9, .int "WIDEST" 1000000000, .glo "Net", .cls "Net", .keep "Net", .mkr "Net", .meth "Net" "houses", .meth "Net" "roads", .meth "Net" "road", .meth "Net" "known", .meth "Net" "out_of", .meth "Net" "into"]
def hfa_1 : List He.Fa := [.meth "Net" "far", .noat "Net" "names", .noat "Net" "lines", .glo "RoadError", .glo "NoNet", .glo "NoHouse", .glo "NoRoad", .glo "NoLetter", .glo "BadBag", .glo "NoWay", .glo "ManyGoals", .glo "CutOff", .glo "NoText", .glo "NoRow", .glo "NoDay"]
def hfa : List He.Fa := hfa_0 ++ hfa_1
def hfb_0 : List Fb := [.isi "Net", .exc "RoadError", .xin "RoadError", .exc "NoNet", .xin "NoNet", .exc "NoHouse", .xin "NoHouse", .exc "NoRoad", .xin "NoRoad", .exc "NoLetter", .exc "BadBag", .exc "NoWay", .exc "ManyGoals", .xin "ManyGoals", .exc "CutOff", .exc "NoText", .xin "NoText", .exc "NoRow", .xin "NoRow", .exc "NoDay", .xin "NoDay", .exm "NoNet" "RoadError" true, .kit "NoNet" "NoNet" true, .kit "NoNet" "NoHouse" false, .kit "NoNet" "NoRoad" false, .kit "NoNet" "NoLetter" false, .kit "NoNet" "BadBag" false, .kit "NoNet" "NoWay" false, .kit "NoNet" "ManyGoals" false, .kit "NoNet" "CutOff" false, .kit "NoNet" "NoText" false, .kit "NoNet" "NoRow" false, .kit "NoNet" "NoDay" false, .kitT "NoNet" "ValueError" true, .exm "NoHouse" "RoadError" true, .kit "NoHouse" "NoNet" false, .kit "NoHouse" "NoHouse" true, .kit "NoHouse" "NoRoad" false, .kit "NoHouse" "NoLetter" false, .kit "NoHouse" "BadBag" false]
def hfb_1 : List Fb := [.kit "NoHouse" "NoWay" false, .kit "NoHouse" "ManyGoals" false, .kit "NoHouse" "CutOff" false, .kit "NoHouse" "NoText" false, .kit "NoHouse" "NoRow" false, .kit "NoHouse" "NoDay" false, .kitT "NoHouse" "ValueError" true, .exm "NoRoad" "RoadError" true, .kit "NoRoad" "NoNet" false, .kit "NoRoad" "NoHouse" false, .kit "NoRoad" "NoRoad" true, .kit "NoRoad" "NoLetter" false, .kit "NoRoad" "BadBag" false, .kit "NoRoad" "NoWay" false, .kit "NoRoad" "ManyGoals" false, .kit "NoRoad" "CutOff" false, .kit "NoRoad" "NoText" false, .kit "NoRoad" "NoRow" false, .kit "NoRoad" "NoDay" false, .kitT "NoRoad" "ValueError" true]
def hfb : List Fb := hfb_0 ++ hfb_1
abbrev hex : PySem.W.Frag → Bool := exB hfb
abbrev csK (K : PySem.W.Frag) : Cs := ⟨He.ga K "RoadError", He.ga K "NoNet", He.ga K "NoHouse", He.ga K "NoRoad", He.ga K "NoLetter", He.ga K "BadBag", He.ga K "NoWay", He.ga K "ManyGoals", He.ga K "CutOff", He.ga K "NoText", He.ga K "NoRow", He.ga K "NoDay", He.ga K "Net"⟩
theorem top_of {K : PySem.W.Frag} {h : Heap} {mg : Str → Option Value} {w : World} (X : K.In h) (G : h.Ns mainGlobals mg) (says : He.SaysX hfa hfn [] [] hex w h K) : Top K mg (csK K) := by
  have c : He.SaysD hfa hfn K := says.t.d
  have cx : exB hfb K = true := says.more
  exact {
    z_ValueError := He.free_ok X G (c.fact 0 (f := .free "ValueError") rfl)
    z_all := He.free_ok X G (c.fact 1 (f := .free "all") rfl)
    z_enumerate := He.free_ok X G (c.fact 2 (f := .free "enumerate") rfl)
    z_range := He.free_ok X G (c.fact 3 (f := .free "range") rfl)
    z_isinstance := He.free_ok X G (c.fact 4 (f := .free "isinstance") rfl)
    z_int := He.free_ok X G (c.fact 5 (f := .free "int") rfl)
    z_list := He.free_ok X G (c.fact 6 (f := .free "list") rfl)
    z_len := He.free_ok X G (c.fact 7 (f := .free "len") rfl)
    z_bool := He.free_ok X G (c.fact 8 (f := .free "bool") rfl)
    z_str := He.free_ok X G (c.fact 9 (f := .free "str") rfl)
    z_tuple := He.free_ok X G (c.fact 10 (f := .free "tuple") rfl)
    d_is_whole := dfn_of c (He.glo_ok X G (c.fact 11 (f := .glo "is_whole") rfl)) 0
    d_is_name := dfn_of c (He.glo_ok X G (c.fact 12 (f := .glo "is_name") rfl)) 1
    d_are_houses := dfn_of c (He.glo_ok X G (c.fact 13 (f := .glo "are_houses") rfl)) 2
    d_is_road := dfn_of c (He.glo_ok X G (c.fact 14 (f := .glo "is_road") rfl)) 3
    d_fars := dfn_of c (He.glo_ok X G (c.fact 15 (f := .glo "fars") rfl)) 4
    d_law_at := dfn_of c (He.glo_ok X G (c.fact 16 (f := .glo "_law_at") rfl)) 5
    d_law_word := dfn_of c (He.glo_ok X G (c.fact 17 (f := .glo "_law_word") rfl)) 6
    d_law_houses := dfn_of c (He.glo_ok X G (c.fact 18 (f := .glo "_law_houses") rfl)) 7
    d_law_roads := dfn_of c (He.glo_ok X G (c.fact 19 (f := .glo "_law_roads") rfl)) 8
    d_law_whole := dfn_of c (He.glo_ok X G (c.fact 20 (f := .glo "_law_whole") rfl)) 9
    d_law_kept := dfn_of c (He.glo_ok X G (c.fact 21 (f := .glo "_law_kept") rfl)) 10
    d_law_refused := dfn_of c (He.glo_ok X G (c.fact 22 (f := .glo "_law_refused") rfl)) 11
    d_law_told := dfn_of c (He.glo_ok X G (c.fact 23 (f := .glo "_law_told") rfl)) 12
    d_law := dfn_of c (He.glo_ok X G (c.fact 24 (f := .glo "law") rfl)) 13
    k_SMALL := He.str_ok X G (c.fact 25 (f := .str "SMALL" "abcdefghijklmnopqrstuvwxyz") rfl)
    k_MOST_HOUSES := He.int_ok X G (c.fact 26 (f := .int "MOST_HOUSES" 12) rfl)
    k_MOST_ROADS := He.int_ok X G (c.fact 27 (f := .int "MOST_ROADS" 40) rfl)
    k_LONGEST := He.int_ok X G (c.fact 28 (f := .int "LONGEST" 9) rfl)
    k_WIDEST := He.int_ok X G (c.fact 29 (f := .int "WIDEST" 1000000000) rfl)
    c_Net := ⟨He.glo_ok X G (c.fact 30 (f := .glo "Net") rfl), He.cls_ok (c.fact 31 (f := .cls "Net") rfl), He.keep_ok (c.fact 32 (f := .keep "Net") rfl)⟩
    i_Net := isiB_ok (fb_at cx 0 (f := .isi "Net") rfl)
    d_Net_init := din_of c (He.mkr_ok (c.fact 33 (f := .mkr "Net") rfl)) 14
    d_Net_houses := dmt_of c (He.meth_ok (c.fact 34 (f := .meth "Net" "houses") rfl)) 15
    d_Net_roads := dmt_of c (He.meth_ok (c.fact 35 (f := .meth "Net" "roads") rfl)) 16
    d_Net_road := dmt_of c (He.meth_ok (c.fact 36 (f := .meth "Net" "road") rfl)) 17
    d_Net_known := dmt_of c (He.meth_ok (c.fact 37 (f := .meth "Net" "known") rfl)) 18
    d_Net_out_of := dmt_of c (He.meth_ok (c.fact 38 (f := .meth "Net" "out_of") rfl)) 19
    d_Net_into := dmt_of c (He.meth_ok (c.fact 39 (f := .meth "Net" "into") rfl)) 20
    d_Net_far := dmt_of c (He.meth_ok (c.fact 40 (f := .meth "Net" "far") rfl)) 21
    n_Net_names := He.noat_ok (c.fact 41 (f := .noat "Net" "names") rfl)
    n_Net_lines := He.noat_ok (c.fact 42 (f := .noat "Net" "lines") rfl)
    x_RoadError := dxc_ok (fb_at cx 1 (f := .exc "RoadError") rfl) (He.glo_ok X G (c.fact 43 (f := .glo "RoadError") rfl))
    xi_RoadError := xin_ok (fb_at cx 2 (f := .xin "RoadError") rfl)
    x_NoNet := dxc_ok (fb_at cx 3 (f := .exc "NoNet") rfl) (He.glo_ok X G (c.fact 44 (f := .glo "NoNet") rfl))
    xi_NoNet := xin_ok (fb_at cx 4 (f := .xin "NoNet") rfl)
    x_NoHouse := dxc_ok (fb_at cx 5 (f := .exc "NoHouse") rfl) (He.glo_ok X G (c.fact 45 (f := .glo "NoHouse") rfl))
    xi_NoHouse := xin_ok (fb_at cx 6 (f := .xin "NoHouse") rfl)
    x_NoRoad := dxc_ok (fb_at cx 7 (f := .exc "NoRoad") rfl) (He.glo_ok X G (c.fact 46 (f := .glo "NoRoad") rfl))
    xi_NoRoad := xin_ok (fb_at cx 8 (f := .xin "NoRoad") rfl)
    x_NoLetter := dxc_ok (fb_at cx 9 (f := .exc "NoLetter") rfl) (He.glo_ok X G (c.fact 47 (f := .glo "NoLetter") rfl))
    x_BadBag := dxc_ok (fb_at cx 10 (f := .exc "BadBag") rfl) (He.glo_ok X G (c.fact 48 (f := .glo "BadBag") rfl))
    x_NoWay := dxc_ok (fb_at cx 11 (f := .exc "NoWay") rfl) (He.glo_ok X G (c.fact 49 (f := .glo "NoWay") rfl))
    x_ManyGoals := dxc_ok (fb_at cx 12 (f := .exc "ManyGoals") rfl) (He.glo_ok X G (c.fact 50 (f := .glo "ManyGoals") rfl))
    xi_ManyGoals := xin_ok (fb_at cx 13 (f := .xin "ManyGoals") rfl)
    x_CutOff := dxc_ok (fb_at cx 14 (f := .exc "CutOff") rfl) (He.glo_ok X G (c.fact 51 (f := .glo "CutOff") rfl))
    x_NoText := dxc_ok (fb_at cx 15 (f := .exc "NoText") rfl) (He.glo_ok X G (c.fact 52 (f := .glo "NoText") rfl))
    xi_NoText := xin_ok (fb_at cx 16 (f := .xin "NoText") rfl)
    x_NoRow := dxc_ok (fb_at cx 17 (f := .exc "NoRow") rfl) (He.glo_ok X G (c.fact 53 (f := .glo "NoRow") rfl))
    xi_NoRow := xin_ok (fb_at cx 18 (f := .xin "NoRow") rfl)
    x_NoDay := dxc_ok (fb_at cx 19 (f := .exc "NoDay") rfl) (He.glo_ok X G (c.fact 54 (f := .glo "NoDay") rfl))
    xi_NoDay := xin_ok (fb_at cx 20 (f := .xin "NoDay") rfl)
    xm_NoNet_RoadError := exm_ok (fb_at cx 21 (f := .exm "NoNet" "RoadError" true) rfl)
    xk_NoNet_NoNet := kit_ok (fb_at cx 22 (f := .kit "NoNet" "NoNet" true) rfl)
    xk_NoNet_NoHouse := kit_ok (fb_at cx 23 (f := .kit "NoNet" "NoHouse" false) rfl)
    xk_NoNet_NoRoad := kit_ok (fb_at cx 24 (f := .kit "NoNet" "NoRoad" false) rfl)
    xk_NoNet_NoLetter := kit_ok (fb_at cx 25 (f := .kit "NoNet" "NoLetter" false) rfl)
    xk_NoNet_BadBag := kit_ok (fb_at cx 26 (f := .kit "NoNet" "BadBag" false) rfl)
    xk_NoNet_NoWay := kit_ok (fb_at cx 27 (f := .kit "NoNet" "NoWay" false) rfl)
    xk_NoNet_ManyGoals := kit_ok (fb_at cx 28 (f := .kit "NoNet" "ManyGoals" false) rfl)
    xk_NoNet_CutOff := kit_ok (fb_at cx 29 (f := .kit "NoNet" "CutOff" false) rfl)
    xk_NoNet_NoText := kit_ok (fb_at cx 30 (f := .kit "NoNet" "NoText" false) rfl)
    xk_NoNet_NoRow := kit_ok (fb_at cx 31 (f := .kit "NoNet" "NoRow" false) rfl)
    xk_NoNet_NoDay := kit_ok (fb_at cx 32 (f := .kit "NoNet" "NoDay" false) rfl)
    xv_NoNet := kitT_ok (fb_at cx 33 (f := .kitT "NoNet" "ValueError" true) rfl)
    xm_NoHouse_RoadError := exm_ok (fb_at cx 34 (f := .exm "NoHouse" "RoadError" true) rfl)
    xk_NoHouse_NoNet := kit_ok (fb_at cx 35 (f := .kit "NoHouse" "NoNet" false) rfl)
    xk_NoHouse_NoHouse := kit_ok (fb_at cx 36 (f := .kit "NoHouse" "NoHouse" true) rfl)
    xk_NoHouse_NoRoad := kit_ok (fb_at cx 37 (f := .kit "NoHouse" "NoRoad" false) rfl)
    xk_NoHouse_NoLetter := kit_ok (fb_at cx 38 (f := .kit "NoHouse" "NoLetter" false) rfl)
    xk_NoHouse_BadBag := kit_ok (fb_at cx 39 (f := .kit "NoHouse" "BadBag" false) rfl)
    xk_NoHouse_NoWay := kit_ok (fb_at cx 40 (f := .kit "NoHouse" "NoWay" false) rfl)
    xk_NoHouse_ManyGoals := kit_ok (fb_at cx 41 (f := .kit "NoHouse" "ManyGoals" false) rfl)
    xk_NoHouse_CutOff := kit_ok (fb_at cx 42 (f := .kit "NoHouse" "CutOff" false) rfl)
    xk_NoHouse_NoText := kit_ok (fb_at cx 43 (f := .kit "NoHouse" "NoText" false) rfl)
    xk_NoHouse_NoRow := kit_ok (fb_at cx 44 (f := .kit "NoHouse" "NoRow" false) rfl)
    xk_NoHouse_NoDay := kit_ok (fb_at cx 45 (f := .kit "NoHouse" "NoDay" false) rfl)
    xv_NoHouse := kitT_ok (fb_at cx 46 (f := .kitT "NoHouse" "ValueError" true) rfl)
    xm_NoRoad_RoadError := exm_ok (fb_at cx 47 (f := .exm "NoRoad" "RoadError" true) rfl)
    xk_NoRoad_NoNet := kit_ok (fb_at cx 48 (f := .kit "NoRoad" "NoNet" false) rfl)
    xk_NoRoad_NoHouse := kit_ok (fb_at cx 49 (f := .kit "NoRoad" "NoHouse" false) rfl)
    xk_NoRoad_NoRoad := kit_ok (fb_at cx 50 (f := .kit "NoRoad" "NoRoad" true) rfl)
    xk_NoRoad_NoLetter := kit_ok (fb_at cx 51 (f := .kit "NoRoad" "NoLetter" false) rfl)
    xk_NoRoad_BadBag := kit_ok (fb_at cx 52 (f := .kit "NoRoad" "BadBag" false) rfl)
    xk_NoRoad_NoWay := kit_ok (fb_at cx 53 (f := .kit "NoRoad" "NoWay" false) rfl)
    xk_NoRoad_ManyGoals := kit_ok (fb_at cx 54 (f := .kit "NoRoad" "ManyGoals" false) rfl)
    xk_NoRoad_CutOff := kit_ok (fb_at cx 55 (f := .kit "NoRoad" "CutOff" false) rfl)
    xk_NoRoad_NoText := kit_ok (fb_at cx 56 (f := .kit "NoRoad" "NoText" false) rfl)
    xk_NoRoad_NoRow := kit_ok (fb_at cx 57 (f := .kit "NoRoad" "NoRow" false) rfl)
    xk_NoRoad_NoDay := kit_ok (fb_at cx 58 (f := .kit "NoRoad" "NoDay" false) rfl)
    xv_NoRoad := kitT_ok (fb_at cx 59 (f := .kitT "NoRoad" "ValueError" true) rfl)
  }
abbrev R : PySem.W.OpenRow := PySem.W.OpenLaw.row PySem.Challenge.rw_postroad_k03_out_and_in
abbrev hk : PySem.W.Hook := He.hookX 5 hfa hfn [] [] hex
def ob (s : PySem.W.SharedT) : He.AlX := He.obsX 5 hfa hfn [] [] hex (HandSHeadRun.getT s)
theorem ob_eq (s : PySem.W.SharedT) : ob s = hk.obs s.abs := He.obsX_eq (HandSHeadRun.getT_eq s)
def loose : List Str := ["RoadError", "NoNet", "NoHouse", "NoRoad", "NoLetter", "BadBag", "NoWay", "ManyGoals", "CutOff", "NoText", "NoRow", "NoDay", "SMALL", "MOST_HOUSES", "MOST_ROADS", "LONGEST", "WIDEST", "is_whole", "is_name", "are_houses", "is_road", "Net", "fars", "_law_at", "_law_word", "_law_houses", "_law_roads", "_law_whole", "_law_kept", "_law_refused", "_law_told"]
theorem run (w : World) : HandSHeadRun.RunEq R (PySem.W.view R.prog [34]) hk ob 20000 loose w := by
  intro os
  kernel_rfl
end Lw
open PySem PySem.W PySem.Calls PyProof.Rows
set_option maxHeartbeats 0 in
theorem PySem.Challenge.cw_postroad_k03_out_and_in_holds : PySem.Challenge.rw_postroad_k03_out_and_in.Holds := by
  w_on; o_law
  refine HandSHeadRun.head_any (r := OpenLaw.row PySem.Challenge.rw_postroad_k03_out_and_in) (q := view (OpenLaw.row PySem.Challenge.rw_postroad_k03_out_and_in).prog [34]) (H := Lw.hk) (ob := Lw.ob) (M := 20000) (loose := Lw.loose) (d := HandSHeadRun.topDef (OpenLaw.row PySem.Challenge.rw_postroad_k03_out_and_in).prog 34) (kwd := []) Lw.ob_eq
    (by kernel_rfl) (fun s => by kernel_rfl) Lw.run (by kernel_rfl) (by kernel_rfl) (by kernel_rfl) (by rfl) (by first | assumption | decide +kernel) (by decide +kernel) ⟨rfl, rfl, rfl, rfl, rfl, by decide +kernel⟩ ?hw ?hc
  case hw => w_witness2
  case hc =>
    refine L2.walk_ofE (l := PySem.Challenge.rw_postroad_k03_out_and_in) (n := 63) (k := Lw.lvl) (x := "_law_script") (CX := L2.CX0) rfl (by decide) (by kernel_rfl) ⟨rfl, by decide, by decide⟩ ?F (fun _ _ _ _ z => z)
    intro w mg fa h Y G hmg0
    obtain ⟨K, KX, c⟩ := Y
    have hmg : mg ("law" : PySem.Str) = some (.ref fa) := by
      have e : (HandSHeadRun.topDef (OpenLaw.row PySem.Challenge.rw_postroad_k03_out_and_in).prog 34).name = ("law" : PySem.Str) := by kernel_rfl
      rw [← e]
      exact hmg0
    have T := Lw.top_of KX G c
    obtain ⟨fd, hb, hF⟩ := Sx.law_end (P := (PySem.Challenge.rw_postroad_k03_out_and_in).prog) (w := w) (pn := "_law_script") (k := Lw.lvl) T.d_law hmg (fun _ _ _ _ _ _ s v => .of_eq rfl) (fun base h1 h2 f fd F => Lw.ok_law T F)
    exact ⟨K, fd, Sx.spLaw K, KX, hb, fun H a ns hl _ hS => ⟨a, ns, rfl, hS, hl, fun _ => rfl⟩, hF⟩
